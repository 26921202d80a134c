import PyProof.Rows.All
import Wide.All
import OpenK.AllK
import Wide.FinOn
import HandS.ForMost
import HandS.ForExc
import HandS.Flow
import HandS.Wide
import HandS.IsInst
import HandS.ExcField
import HandS.ExcIs
import HandS.CallSlots
import HandS.TryMany
import HandS.Codes
import HandS.TupAny
import HandS.EndBits
import KE.KExcSuper
import HandS.ExcInit
import HandS.Nested
import HandS.TryOnly
import HandS.StrMore
import HandS.Replace
import HandS.More
import HandS.Text
import HandS.Zip
import HandS.Strs
import PySem.Challenge.RW_landfall_k23_pack_units
set_option Elab.async false
set_option linter.all false
set_option maxRecDepth 100000
set_option maxHeartbeats 4000000
/-! LF0: a plain machine over data and a list of objects; what it means that a judgement of the hand layer runs it. -/
namespace LF
open PySem PySem.Spec L2
open PyProof.Rows hiding St

/-! ### data, objects, results -/
inductive D where
  | non | bl (b : Bool) | int (i : Int) | str (x : Str)
  | tup (xs : List D) | ct (xs : List D) | cl (xs : List D) | loc (l : Nat) | ty (n : String) | cls (x : Str)
inductive O where
  | lst (xs : List D)
  | dK (kvs : List (Key × D))
  | dT (kvs : List (List Key × D))
  | ins (x : Str) (fs : List (Str × D))
abbrev M := List O
inductive Res (α : Type) where
  | ok (a : α) (h : M)
  | exc (x : Str) (ns : List Str) (vs : List D) (h : M)
  | stuck
def Res.bind {α β : Type} (r : Res α) (k : α → M → Res β) : Res β :=
  match r with
  | .ok a h => k a h
  | .exc x ns vs h => .exc x ns vs h
  | .stuck => .stuck
@[simp] theorem bind_ok {α β : Type} {a : α} {h : M} {k : α → M → Res β} : (Res.ok a h).bind k = k a h := (rfl)
@[simp] theorem bind_exc {α β : Type} {x ns vs} {h : M} {k : α → M → Res β} : (Res.exc x ns vs h).bind k = .exc x ns vs h := (rfl)
@[simp] theorem bind_stuck {α β : Type} {k : α → M → Res β} : (Res.stuck : Res α).bind k = .stuck := (rfl)
/-- a slot: nothing yet, a value, the exception that is handled -/
inductive Sl where
  | no | va (d : D) | ex
abbrev En := List Sl
abbrev ME := En → M → Res D
abbrev MA := En → M → Res (List D)
abbrev MT := En → M → Res Bool
inductive SR where
  | nx (env : En) (h : M) | rt (d : D) (h : M) | bk (env : En) (h : M) | ct (env : En) (h : M)
  | exc (x : Str) (ns : List Str) (vs : List D) (env : En) (h : M) | stuck
abbrev MS := En → M → SR

/-! ### how data stand in the abstract heap -/
structure Wo where
  K : PySem.W.Frag
  mg : Str → Option Value
def SqLP (K : PySem.W.Frag) (H : Hp) (a : Addr) (xs : List V) : Prop :=
  (∃ o, H a = some (.frz o (.lst xs))) ∨
    ∃ (o : Obj) (its : Array Value) (n : Nat), K.lookup a = some o ∧ o.cls = .type "list" ∧ o.dict = none ∧ o.data = .seq its n ∧ its.size ≤ sizeLine ∧ Vals xs its.toList
theorem SqLP.sq {K : PySem.W.Frag} {H : Hp} {a : Addr} {xs : List V} (h : SqLP K H a xs) : SqL K H a xs := by
  rcases h with h | h
  · exact .inl (.inr h)
  · exact .inr h
def SqTP (K : PySem.W.Frag) (a : Addr) (xs : List V) : Prop :=
  ∃ (o : Obj) (its : Array Value) (n : Nat), K.lookup a = some o ∧ o.cls = .type "tuple" ∧ o.data = .seq its n ∧ its.size ≤ sizeLine ∧ Vals xs its.toList
def Fix : HO → Prop
  | .tup _ => True
  | .frz _ _ => True
  | .xd _ => True
  | _ => False
def Keep (H H' : Hp) : Prop := ∀ a o, H a = some o → Fix o → H' a = some o
theorem Keep.refl (H : Hp) : Keep H H := fun _ _ h _ => h
theorem Keep.trans {H H1 H2 : Hp} (a : Keep H H1) (b : Keep H1 H2) : Keep H H2 := fun c o h f => b c o (a c o h f) f
theorem Keep.of_same {H H' : Hp} (s : Same H H') : Keep H H' := fun a o h _ => s a o h
theorem same_upd {H : Hp} {p : Addr} {o : HO} (h : H p = none) : Same H (upd H p o) := fun b x e => by
  rw [upd_ne (ne_of_none e h)]; exact e
theorem Keep.tup {K : PySem.W.Frag} {H H' : Hp} {a : Addr} {xs : List V} (k : Keep H H') (h : SqT K H a xs) : SqT K H' a xs := by
  rcases h with (h | ⟨o, h⟩) | h
  · exact .inl (.inl (k _ _ h trivial))
  · exact .inl (.inr ⟨o, k _ _ h trivial⟩)
  · exact .inr h
theorem Keep.sqlp {K : PySem.W.Frag} {H H' : Hp} {a : Addr} {xs : List V} (k : Keep H H') (h : SqLP K H a xs) : SqLP K H' a xs := by
  rcases h with ⟨o, h⟩ | h
  · exact .inl ⟨o, k _ _ h trivial⟩
  · exact .inr h

mutual
def RV (G : Wo) (ι : List Addr) (H : Hp) : D → V → Prop
  | .non, v => v = .non
  | .bl b, v => v = .bl b
  | .int i, v => v = .int i
  | .str x, v => v = .str x
  | .tup xs, v => ∃ a vs, v = .ref a ∧ H a = some (.tup vs) ∧ RVs G ι H xs vs
  | .ct xs, v => ∃ a vs, v = .ref a ∧ SqTP G.K a vs ∧ RVs G ι H xs vs
  | .cl xs, v => ∃ a vs, v = .ref a ∧ SqLP G.K H a vs ∧ RVs G ι H xs vs
  | .loc l, v => ∃ a, v = .ref a ∧ ι[l]? = some a
  | .ty n, v => v = .ty n
  | .cls x, v => ∃ a, v = .ref a ∧ G.mg x = some (.ref a)
def RVs (G : Wo) (ι : List Addr) (H : Hp) : List D → List V → Prop
  | [], vs => vs = []
  | x :: xs, vs => ∃ v r, vs = v :: r ∧ RV G ι H x v ∧ RVs G ι H xs r
end

theorem pre_get {ι ι' : List Addr} (p : ι <+: ι') {l : Nat} {a : Addr} (h : ι[l]? = some a) : ι'[l]? = some a := by
  obtain ⟨t, rfl⟩ := p
  have hl : l < ι.length := (List.getElem?_eq_some_iff.mp h).1
  rw [List.getElem?_append_left hl]; exact h

mutual
theorem RV.mono {G : Wo} {ι ι' : List Addr} {H H' : Hp} (p : ι <+: ι') (k : Keep H H') : ∀ (d : D) (v : V), RV G ι H d v → RV G ι' H' d v
  | .non, _, h => h
  | .bl _, _, h => h
  | .int _, _, h => h
  | .str _, _, h => h
  | .tup xs, _, h => by
    simp only [RV] at h ⊢
    obtain ⟨a, vs, e, q, r⟩ := h
    exact ⟨a, vs, e, k _ _ q trivial, RVs.mono p k xs vs r⟩
  | .ct xs, _, h => by
    simp only [RV] at h ⊢
    obtain ⟨a, vs, e, q, r⟩ := h
    exact ⟨a, vs, e, q, RVs.mono p k xs vs r⟩
  | .cl xs, _, h => by
    simp only [RV] at h ⊢
    obtain ⟨a, vs, e, q, r⟩ := h
    exact ⟨a, vs, e, k.sqlp q, RVs.mono p k xs vs r⟩
  | .loc l, _, h => by
    simp only [RV] at h ⊢
    obtain ⟨a, e, q⟩ := h
    exact ⟨a, e, pre_get p q⟩
  | .ty _, _, h => h
  | .cls _, _, h => h
theorem RVs.mono {G : Wo} {ι ι' : List Addr} {H H' : Hp} (p : ι <+: ι') (k : Keep H H') : ∀ (xs : List D) (vs : List V), RVs G ι H xs vs → RVs G ι' H' xs vs
  | [], _, h => h
  | x :: xs, _, h => by
    simp only [RVs] at h ⊢
    obtain ⟨v, r, e, h1, h2⟩ := h
    exact ⟨v, r, e, RV.mono p k x v h1, RVs.mono p k xs r h2⟩
end
theorem RVs.length {G : Wo} {ι : List Addr} {H : Hp} : ∀ {xs : List D} {vs : List V}, RVs G ι H xs vs → xs.length = vs.length
  | [], vs, h => by simp only [RVs] at h; subst h; rfl
  | x :: xs, vs, h => by
    simp only [RVs] at h
    obtain ⟨v, r, rfl, _, h2⟩ := h
    simp [RVs.length h2]
theorem RVs.get {G : Wo} {ι : List Addr} {H : Hp} : ∀ {xs : List D} {vs : List V} {i : Nat} {d : D}, RVs G ι H xs vs → xs[i]? = some d → ∃ v, vs[i]? = some v ∧ RV G ι H d v
  | [], _, _, _, _, e => by simp at e
  | x :: xs, vs, 0, d, h, e => by
    simp only [RVs] at h
    obtain ⟨v, r, rfl, h1, h2⟩ := h
    simp at e; subst e
    exact ⟨v, rfl, h1⟩
  | x :: xs, vs, i + 1, d, h, e => by
    simp only [RVs] at h
    obtain ⟨v, r, rfl, h1, h2⟩ := h
    simpa using RVs.get (i := i) h2 (by simpa using e)
theorem RVs.getV {G : Wo} {ι : List Addr} {H : Hp} : ∀ {xs : List D} {vs : List V} {i : Nat} {v : V}, RVs G ι H xs vs → vs[i]? = some v → ∃ d, xs[i]? = some d ∧ RV G ι H d v
  | [], vs, i, v, h, e => by simp only [RVs] at h; subst h; simp at e
  | x :: xs, vs, 0, v, h, e => by
    simp only [RVs] at h
    obtain ⟨w, r, rfl, h1, h2⟩ := h
    simp at e; subst e
    exact ⟨x, rfl, h1⟩
  | x :: xs, vs, i + 1, v, h, e => by
    simp only [RVs] at h
    obtain ⟨w, r, rfl, h1, h2⟩ := h
    simpa using RVs.getV (i := i) h2 (by simpa using e)
theorem RVs.append {G : Wo} {ι : List Addr} {H : Hp} : ∀ {xs ys : List D} {vs ws : List V}, RVs G ι H xs vs → RVs G ι H ys ws → RVs G ι H (xs ++ ys) (vs ++ ws)
  | [], ys, vs, ws, h, h2 => by simp only [RVs] at h; subst h; exact h2
  | x :: xs, ys, vs, ws, h, h2 => by
    simp only [RVs] at h
    obtain ⟨w, r, rfl, h1, h3⟩ := h
    show RVs G ι H (x :: (xs ++ ys)) _
    simp only [RVs]
    exact ⟨w, r ++ ws, rfl, h1, RVs.append h3 h2⟩
theorem RVs.take {G : Wo} {ι : List Addr} {H : Hp} : ∀ (n : Nat) {xs : List D} {vs : List V}, RVs G ι H xs vs → RVs G ι H (xs.take n) (vs.take n)
  | 0, xs, vs, h => by simp [RVs]
  | n + 1, [], vs, h => by simp only [RVs] at h; subst h; simp [RVs]
  | n + 1, x :: xs, vs, h => by
    simp only [RVs] at h
    obtain ⟨w, r, rfl, h1, h3⟩ := h
    simp only [List.take_succ_cons, RVs]
    exact ⟨w, _, rfl, h1, RVs.take n h3⟩
theorem RVs.drop {G : Wo} {ι : List Addr} {H : Hp} : ∀ (n : Nat) {xs : List D} {vs : List V}, RVs G ι H xs vs → RVs G ι H (xs.drop n) (vs.drop n)
  | 0, xs, vs, h => by simpa using h
  | n + 1, [], vs, h => by simp only [RVs] at h; subst h; simp [RVs]
  | n + 1, x :: xs, vs, h => by
    simp only [RVs] at h
    obtain ⟨w, r, rfl, h1, h3⟩ := h
    simpa using RVs.drop n h3
theorem RVs.set {G : Wo} {ι : List Addr} {H : Hp} : ∀ {xs : List D} {vs : List V} (i : Nat) {d : D} {v : V}, RVs G ι H xs vs → RV G ι H d v → RVs G ι H (xs.set i d) (vs.set i v)
  | [], vs, i, d, v, h, r => by simp only [RVs] at h; subst h; simp [RVs]
  | x :: xs, vs, 0, d, v, h, r => by
    simp only [RVs] at h
    obtain ⟨w, q, rfl, h1, h3⟩ := h
    simp only [List.set_cons_zero, RVs]
    exact ⟨v, q, rfl, r, h3⟩
  | x :: xs, vs, i + 1, d, v, h, r => by
    simp only [RVs] at h
    obtain ⟨w, q, rfl, h1, h3⟩ := h
    simp only [List.set_cons_succ, RVs]
    exact ⟨w, _, rfl, h1, RVs.set i h3 r⟩
theorem RVs.one {G : Wo} {ι : List Addr} {H : Hp} {d : D} {v : V} (h : RV G ι H d v) : RVs G ι H [d] [v] := by
  simp only [RVs]; exact ⟨v, [], rfl, h, rfl⟩
theorem RVs.nil {G : Wo} {ι : List Addr} {H : Hp} : RVs G ι H [] [] := by simp [RVs]
theorem RVs.cons {G : Wo} {ι : List Addr} {H : Hp} {d : D} {v : V} {xs : List D} {vs : List V} (h : RV G ι H d v) (t : RVs G ι H xs vs) : RVs G ι H (d :: xs) (v :: vs) := by
  simp only [RVs]; exact ⟨v, vs, rfl, h, t⟩
/-- pairs by keys -/
def RKs {κ : Type} (G : Wo) (ι : List Addr) (H : Hp) (kvs : List (κ × D)) (kws : List (κ × V)) : Prop := kvs.map (·.1) = kws.map (·.1) ∧ RVs G ι H (kvs.map (·.2)) (kws.map (·.2))
theorem RKs.mono {κ : Type} {G : Wo} {ι ι' : List Addr} {H H' : Hp} (p : ι <+: ι') (k : Keep H H') {kvs : List (κ × D)} {kws : List (κ × V)} (h : RKs G ι H kvs kws) : RKs G ι' H' kvs kws :=
  ⟨h.1, RVs.mono p k _ _ h.2⟩
def RO (G : Wo) (ι : List Addr) (H : Hp) (a : Addr) : O → Prop
  | .lst xs => ∃ vs, H a = some (.lst vs) ∧ RVs G ι H xs vs
  | .dK kvs => ∃ kws, H a = some (.dK kws) ∧ RKs G ι H kvs kws
  | .dT kvs => ∃ kws, H a = some (.dT kws) ∧ RKs G ι H kvs kws
  | .ins x fs => ∃ C dx fvs, G.mg x = some (.ref C) ∧ H a = some (.ins C dx fvs) ∧ RKs G ι H fs fvs
theorem RO.there {G : Wo} {ι : List Addr} {H : Hp} {a : Addr} {o : O} (h : RO G ι H a o) : ∃ u, H a = some u ∧ ¬ Fix u ∧ Mut (some u) := by
  cases o with
  | lst xs => obtain ⟨vs, e, _⟩ := h; exact ⟨_, e, fun z => z, trivial⟩
  | dK xs => obtain ⟨vs, e, _⟩ := h; exact ⟨_, e, fun z => z, trivial⟩
  | dT xs => obtain ⟨vs, e, _⟩ := h; exact ⟨_, e, fun z => z, trivial⟩
  | ins x fs => obtain ⟨C, dx, fvs, _, e, _⟩ := h; exact ⟨_, e, fun z => z, trivial⟩
/-- the object stands as it stood -/
theorem RO.stay {G : Wo} {ι ι' : List Addr} {H H' : Hp} {a : Addr} {o : O} (h : RO G ι H a o) (p : ι <+: ι') (k : Keep H H') (e : ∀ u, H a = some u → H' a = some u) : RO G ι' H' a o := by
  cases o with
  | lst xs => obtain ⟨vs, q, r⟩ := h; exact ⟨vs, e _ q, RVs.mono p k _ _ r⟩
  | dK xs => obtain ⟨vs, q, r⟩ := h; exact ⟨vs, e _ q, r.mono p k⟩
  | dT xs => obtain ⟨vs, q, r⟩ := h; exact ⟨vs, e _ q, r.mono p k⟩
  | ins x fs => obtain ⟨C, dx, fvs, g, q, r⟩ := h; exact ⟨C, dx, fvs, g, e _ q, r.mono p k⟩

structure Rel (G : Wo) (ι : List Addr) (H : Hp) (h : M) : Prop where
  len : ι.length = h.length
  inj : ∀ (i j : Nat) (a : Addr), ι[i]? = some a → ι[j]? = some a → i = j
  ok : ∀ (l : Nat) (o : O), h[l]? = some o → ∃ a, ι[l]? = some a ∧ RO G ι H a o
theorem Rel.at {G : Wo} {ι : List Addr} {H : Hp} {h : M} (r : Rel G ι H h) {l : Nat} {a : Addr} {o : O} (e : h[l]? = some o) (ea : ι[l]? = some a) : RO G ι H a o := by
  obtain ⟨b, eb, q⟩ := r.ok l o e
  rw [ea] at eb; cases eb; exact q
/-- all objects stand as they stood -/
theorem Rel.same {G : Wo} {ι : List Addr} {H H' : Hp} {h : M} (r : Rel G ι H h) (s : Same H H') : Rel G ι H' h :=
  ⟨r.len, r.inj, fun l o e => let ⟨a, ea, q⟩ := r.ok l o e; ⟨a, ea, q.stay (List.prefix_refl _) (Keep.of_same s) (fun u z => s _ _ z)⟩⟩
theorem Rel.tracked {G : Wo} {ι : List Addr} {H : Hp} {h : M} (r : Rel G ι H h) {l : Nat} {a : Addr} (e : ι[l]? = some a) : ∃ u, H a = some u ∧ ¬ Fix u ∧ Mut (some u) := by
  have hl : l < h.length := by rw [← r.len]; exact (List.getElem?_eq_some_iff.mp e).1
  exact (r.at (List.getElem?_eq_getElem hl) e).there
/-- a new object -/
theorem Rel.push {G : Wo} {ι : List Addr} {H : Hp} {h : M} (r : Rel G ι H h) {p : Addr} {o : O} {u : HO} (hp : H p = none) (ro : RO G (ι ++ [p]) (upd H p u) p o) : Rel G (ι ++ [p]) (upd H p u) (h ++ [o]) := by
  have pre : ι <+: ι ++ [p] := List.prefix_append ..
  have s : Same H (upd H p u) := same_upd hp
  refine ⟨by simp [r.len], fun i j a ei ej => ?_, fun l o' e => ?_⟩
  · have key : ∀ (k : Nat), (ι ++ [p])[k]? = some a → (k < ι.length ∧ ι[k]? = some a) ∨ (k = ι.length ∧ a = p) := fun k ek => by
      by_cases hk : k < ι.length
      · rw [List.getElem?_append_left hk] at ek; exact .inl ⟨hk, ek⟩
      · have hk2 : k < (ι ++ [p]).length := (List.getElem?_eq_some_iff.mp ek).1
        have hk3 : k = ι.length := by simp at hk2; omega
        subst hk3
        simp at ek
        exact .inr ⟨rfl, ek.symm⟩
    have np : ∀ (k : Nat), ι[k]? = some a → a ≠ p := fun k ek z => by
      obtain ⟨u', e', _⟩ := r.tracked ek
      rw [z, hp] at e'; cases e'
    rcases key i ei with ⟨_, a1⟩ | ⟨a1, a2⟩
    · rcases key j ej with ⟨_, b1⟩ | ⟨b1, b2⟩
      · exact r.inj i j a a1 b1
      · exact absurd b2 (np i a1)
    · rcases key j ej with ⟨_, b1⟩ | ⟨b1, b2⟩
      · exact absurd a2 (np j b1)
      · rw [a1, b1]
  · by_cases hl : l < h.length
    · rw [List.getElem?_append_left hl] at e
      obtain ⟨a, ea, q⟩ := r.ok l o' e
      exact ⟨a, pre_get pre ea, q.stay pre (Keep.of_same s) fun u z => s _ _ z⟩
    · have hk2 : l < (h ++ [o]).length := (List.getElem?_eq_some_iff.mp e).1
      have hk3 : l = h.length := by simp at hk2; omega
      subst hk3
      simp at e; subst e
      exact ⟨p, by rw [← r.len]; simp, ro⟩
/-- an object changed -/
theorem Rel.write {G : Wo} {ι : List Addr} {H : Hp} {h : M} (r : Rel G ι H h) {l : Nat} {a : Addr} {o : O} {u : HO} (ea : ι[l]? = some a) (ro : RO G ι (upd H a u) a o) : Rel G ι (upd H a u) (h.set l o) ∧ Keep H (upd H a u) := by
  obtain ⟨u0, e0, nf, mu⟩ := r.tracked ea
  have kp : Keep H (upd H a u) := fun b o' eb f => by
    have : b ≠ a := fun z => by rw [z, e0] at eb; cases eb; exact nf f
    rw [upd_ne this]; exact eb
  refine ⟨⟨by simp [r.len], r.inj, fun k o' e => ?_⟩, kp⟩
  have hk : k < h.length := by have := (List.getElem?_eq_some_iff.mp e).1; simpa using this
  by_cases hkl : k = l
  · subst hkl
    rw [List.getElem?_set_self hk] at e
    cases e
    exact ⟨a, ea, ro⟩
  · rw [List.getElem?_set_ne (Ne.symm hkl)] at e
    obtain ⟨b, eb, q⟩ := r.ok k o' e
    have nb : b ≠ a := fun z => by subst z; exact hkl (r.inj k l _ eb ea)
    exact ⟨b, eb, q.stay (List.prefix_refl _) kp fun u' z => by rw [upd_ne nb]; exact z⟩

/-! ### slots -/
/-- an exception as it lies behind a raise -/
def XF (G : Wo) (ι : List Addr) (H : Hp) (d : Option Addr) (ns : List Str) (xs : List D) : Prop :=
  ns.length = xs.length ∧ ∃ vs, ((ns = [] ∧ d = none) ∨ ∃ dd, d = some dd ∧ H dd = some (.xd (ns.zip vs))) ∧ RVs G ι H xs vs
theorem XF.mono {G : Wo} {ι ι' : List Addr} {H H' : Hp} {d : Option Addr} {ns : List Str} {xs : List D} (h : XF G ι H d ns xs) (p : ι <+: ι') (k : Keep H H') : XF G ι' H' d ns xs := by
  obtain ⟨e, vs, q, r⟩ := h
  refine ⟨e, vs, ?_, RVs.mono p k _ _ r⟩
  rcases q with q | ⟨dd, q1, q2⟩
  · exact .inl q
  · exact .inr ⟨dd, q1, k _ _ q2 trivial⟩
/-- the exception that is handled: its address, its class, its dict; what it is to the machine -/
abbrev Ex := Option ((Addr × Value × Option Addr) × Str × List Str × List D)
structure REn (G : Wo) (ex : Ex) (ι : List Addr) (H : Hp) (env : En) (σ : St) : Prop where
  len : env.length = σ.length
  at_ : ∀ (i : Nat) (d : D), env[i]? = some (.va d) → ∃ v, σ[i]? = some (some v) ∧ RV G ι H d v
  atx : ∀ (i : Nat), env[i]? = some .ex → ∃ a c, ex = some c ∧ c.1.1 = a ∧ σ[i]? = some (some (.ref a))
  exk : ∀ c, ex = some c → ∃ C, c.1.2.1 = .ref C ∧ G.mg c.2.1 = some (.ref C) ∧ XF G ι H c.1.2.2 c.2.2.1 c.2.2.2
theorem REn.mono {G : Wo} {ex : Ex} {ι ι' : List Addr} {H H' : Hp} {env : En} {σ : St} (r : REn G ex ι H env σ) (p : ι <+: ι') (k : Keep H H') : REn G ex ι' H' env σ :=
  ⟨r.len, fun i d e => let ⟨v, e1, q⟩ := r.at_ i d e; ⟨v, e1, RV.mono p k d v q⟩, r.atx, fun c e => let ⟨C, h1, h2, h3⟩ := r.exk c e; ⟨C, h1, h2, h3.mono p k⟩⟩
theorem REn.set {G : Wo} {ex : Ex} {ι : List Addr} {H : Hp} {env : En} {σ : St} (r : REn G ex ι H env σ) (i : Nat) {d : D} {v : V} (q : RV G ι H d v) : REn G ex ι H (env.set i (.va d)) (σ.set i (some v)) := by
  refine ⟨by simp [r.len], fun j d' e => ?_, fun j e => ?_, r.exk⟩
  · have hj : j < env.length := by have := (List.getElem?_eq_some_iff.mp e).1; simpa using this
    by_cases hji : j = i
    · subst hji
      rw [List.getElem?_set_self hj] at e
      cases e
      exact ⟨v, List.getElem?_set_self (by rw [← r.len]; exact hj), q⟩
    · rw [List.getElem?_set_ne (Ne.symm hji)] at e
      obtain ⟨w, e1, q1⟩ := r.at_ j d' e
      exact ⟨w, by rw [List.getElem?_set_ne (Ne.symm hji)]; exact e1, q1⟩
  · have hj : j < env.length := by have := (List.getElem?_eq_some_iff.mp e).1; simpa using this
    by_cases hji : j = i
    · subst hji
      rw [List.getElem?_set_self hj] at e
      cases e
    · rw [List.getElem?_set_ne (Ne.symm hji)] at e
      obtain ⟨a, c, e1, e2, e3⟩ := r.atx j e
      exact ⟨a, c, e1, e2, by rw [List.getElem?_set_ne (Ne.symm hji)]; exact e3⟩
theorem REn.drop1 {G : Wo} {ex : Ex} {ι : List Addr} {H : Hp} {env : En} {σ : St} (r : REn G ex ι H env σ) (i : Nat) (v : Option V) : REn G ex ι H (env.set i .no) (σ.set i v) := by
  refine ⟨by simp [r.len], fun j d' e => ?_, fun j e => ?_, r.exk⟩
  · have hj : j < env.length := by have := (List.getElem?_eq_some_iff.mp e).1; simpa using this
    by_cases hji : j = i
    · subst hji
      rw [List.getElem?_set_self hj] at e
      cases e
    · rw [List.getElem?_set_ne (Ne.symm hji)] at e
      obtain ⟨w, e1, q1⟩ := r.at_ j d' e
      exact ⟨w, by rw [List.getElem?_set_ne (Ne.symm hji)]; exact e1, q1⟩
  · have hj : j < env.length := by have := (List.getElem?_eq_some_iff.mp e).1; simpa using this
    by_cases hji : j = i
    · subst hji
      rw [List.getElem?_set_self hj] at e
      cases e
    · rw [List.getElem?_set_ne (Ne.symm hji)] at e
      obtain ⟨a, c, e1, e2, e3⟩ := r.atx j e
      exact ⟨a, c, e1, e2, by rw [List.getElem?_set_ne (Ne.symm hji)]; exact e3⟩

/-! ### readings -/
abbrev WX' := Value → Option Addr → Hp → Prop
/-- the end that a result leads to: B says how its value lies -/
def Post {α β : Type} (G : Wo) (B : List Addr → Hp → α → β → Prop) (E : WX') (ι : List Addr) (H : Hp) (r : Res α) (Q : β → Hp → Prop) : Prop :=
  match r with
  | .ok d h' => ∀ ι' H' v, ι <+: ι' → Keep H H' → Rel G ι' H' h' → B ι' H' d v → Q v H'
  | .exc x ns xs h' => ∀ ι' H' C d, ι <+: ι' → Keep H H' → Rel G ι' H' h' → G.mg x = some (.ref C) → XF G ι' H' d ns xs → E (.ref C) d H'
  | .stuck => False
theorem Post.mono {α β : Type} {G : Wo} {B : List Addr → Hp → α → β → Prop} {E : WX'} {ι ι1 : List Addr} {H H1 : Hp} {r : Res α} {Q : β → Hp → Prop} (p : ι <+: ι1) (k : Keep H H1) (h : Post G B E ι H r Q) : Post G B E ι1 H1 r Q := by
  cases r with
  | ok d h' => exact fun ι' H' v p' k' => h ι' H' v (p.trans p') (k.trans k')
  | exc x ns xs h' => exact fun ι' H' C d p' k' => h ι' H' C d (p.trans p') (k.trans k')
  | stuck => exact h
abbrev PoV (G : Wo) := Post G (RV G)
abbrev BLs (G : Wo) : List Addr → Hp → List D → List V → Prop := fun ι H ds vs => RVs G ι H ds vs
abbrev BB : List Addr → Hp → Bool → Bool → Prop := fun _ _ b c => c = b

def rdE (G : Wo) (ex : Ex) (W : WX) (m : ME) : TE := fun σ H Q => ∃ ι h env, Rel G ι H h ∧ REn G ex ι H env σ ∧ Post G (fun ι H d v => RV G ι H d v) (fun c d H' => W c d σ H') ι H (m env h) Q
def rdA (G : Wo) (ex : Ex) (W : WX) (m : MA) : TA := fun σ H Q => ∃ ι h env, Rel G ι H h ∧ REn G ex ι H env σ ∧ Post G (fun ι H d v => RVs G ι H d v) (fun c d H' => W c d σ H') ι H (m env h) Q
def rdT (G : Wo) (ex : Ex) (W : WX) (m : MT) : TT := fun σ H Q => ∃ ι h env, Rel G ι H h ∧ REn G ex ι H env σ ∧ Post G BB (fun c d H' => W c d σ H') ι H (m env h) Q
def PostS (G : Wo) (ex : Ex) (W : WX) (ι : List Addr) (H : Hp) (r : SR) (D : Ends) : Prop :=
  match r with
  | .nx env h' => ∀ ι' H' σ', ι <+: ι' → Keep H H' → Rel G ι' H' h' → REn G ex ι' H' env σ' → D.nx σ' H'
  | .bk env h' => ∀ ι' H' σ', ι <+: ι' → Keep H H' → Rel G ι' H' h' → REn G ex ι' H' env σ' → D.bk σ' H'
  | .ct env h' => ∀ ι' H' σ', ι <+: ι' → Keep H H' → Rel G ι' H' h' → REn G ex ι' H' env σ' → D.ct σ' H'
  | .rt d h' => ∀ ι' H' v, ι <+: ι' → Keep H H' → Rel G ι' H' h' → RV G ι' H' d v → D.rt v H'
  | .exc x ns xs env h' => ∀ ι' H' σ' C d, ι <+: ι' → Keep H H' → Rel G ι' H' h' → REn G ex ι' H' env σ' → G.mg x = some (.ref C) → XF G ι' H' d ns xs → W (.ref C) d σ' H'
  | .stuck => False
theorem PostS.mono {G : Wo} {ex : Ex} {W : WX} {ι ι1 : List Addr} {H H1 : Hp} {r : SR} {D : Ends} (p : ι <+: ι1) (k : Keep H H1) (h : PostS G ex W ι H r D) : PostS G ex W ι1 H1 r D := by
  cases r with
  | nx env h' => exact fun ι' H' v p' k' => h ι' H' v (p.trans p') (k.trans k')
  | bk env h' => exact fun ι' H' v p' k' => h ι' H' v (p.trans p') (k.trans k')
  | ct env h' => exact fun ι' H' v p' k' => h ι' H' v (p.trans p') (k.trans k')
  | rt d h' => exact fun ι' H' v p' k' => h ι' H' v (p.trans p') (k.trans k')
  | exc x ns xs env h' => exact fun ι' H' σ' C d p' k' => h ι' H' σ' C d (p.trans p') (k.trans k')
  | stuck => exact h
def rdS (G : Wo) (ex : Ex) (W : WX) (m : MS) : TS := fun D σ H => ∃ ι h env, Rel G ι H h ∧ REn G ex ι H env σ ∧ PostS G ex W ι H (m env h) D

abbrev wo (X : Cx) : Wo := ⟨X.K, X.mg⟩
def FE (X : Cx) (W : WX) (ex : Ex) (e : Expr) (m : ME) : Prop := PE X e (rdE (wo X) ex W m)
def FA (X : Cx) (W : WX) (ex : Ex) (es : List Expr) (m : MA) : Prop := PA X es (rdA (wo X) ex W m)
def FT (X : Cx) (W : WX) (ex : Ex) (e : Expr) (m : MT) : Prop := PT X e (rdT (wo X) ex W m)
def FW (X : Cx) (W : WX) (ex : Ex) (e : Expr) (m : MT) : Prop := PW X e (rdT (wo X) ex W m)
def FS (X : Cx) (W : WX) (ex : Ex) (st : Stmt) (m : MS) : Prop := PS X st (rdS (wo X) ex W m)
def FSs (X : Cx) (W : WX) (ex : Ex) (st : List Stmt) (m : MS) : Prop := PSs X st (rdS (wo X) ex W m)

theorem PE.imp {X : Cx} {e : Expr} {t t' : TE} (p : PE X e t) (h : ∀ σ H Q, t' σ H Q → t σ H Q) : PE X e t' := ⟨fun pins s σ H Q I q => p.run pins s σ H Q I (h σ H Q q)⟩
theorem PA.imp {X : Cx} {e : List Expr} {t t' : TA} (p : PA X e t) (h : ∀ σ H Q, t' σ H Q → t σ H Q) : PA X e t' := ⟨fun po pins s σ H Q I q => p.run po pins s σ H Q I (h σ H Q q)⟩
theorem PT.imp {X : Cx} {e : Expr} {t t' : TT} (p : PT X e t) (h : ∀ σ H Q, t' σ H Q → t σ H Q) : PT X e t' := ⟨fun pins s σ H Q I q => p.run pins s σ H Q I (h σ H Q q)⟩
theorem PW.imp {X : Cx} {e : Expr} {t t' : TT} (p : PW X e t) (h : ∀ σ H Q, t' σ H Q → t σ H Q) : PW X e t' := ⟨fun wh pins s σ H Q I q => p.run wh pins s σ H Q I (h σ H Q q)⟩
theorem PS.imp {X : Cx} {e : Stmt} {t t' : TS} (p : PS X e t) (h : ∀ D σ H, t' D σ H → t D σ H) : PS X e t' := ⟨fun pins s σ H D I q => p.run pins s σ H D I (h D σ H q)⟩
theorem PSs.imp {X : Cx} {e : List Stmt} {t t' : TS} (p : PSs X e t) (h : ∀ D σ H, t' D σ H → t D σ H) : PSs X e t' := ⟨fun pins s σ H D I q => p.run pins s σ H D I (h D σ H q)⟩

/-- a part is run, then the rest: the end of a bind -/
theorem post_bind {α β α' β' : Type} {G : Wo} {B : List Addr → Hp → α → β → Prop} {B' : List Addr → Hp → α' → β' → Prop} {E : WX'} {ι : List Addr} {H : Hp} {r : Res α} {k : α → M → Res α'} {Q' : β' → Hp → Prop} {Q : β → Hp → Prop}
    (h : Post G B' E ι H (r.bind k) Q') (hk : ∀ d h1 ι1 H1 v, r = .ok d h1 → ι <+: ι1 → Keep H H1 → Rel G ι1 H1 h1 → B ι1 H1 d v → Post G B' E ι1 H1 (k d h1) Q' → Q v H1) : Post G B E ι H r Q := by
  cases r with
  | ok d h1 => exact fun ι1 H1 v p kk rel b => hk d h1 ι1 H1 v rfl p kk rel b (Post.mono p kk h)
  | exc x ns xs h1 => exact h
  | stuck => exact h
end LF
set_option Elab.async false
set_option linter.all false
set_option maxRecDepth 100000
set_option maxHeartbeats 4000000
/-! LF1: expressions. -/
namespace LF
open PySem PySem.Spec L2
open PyProof.Rows hiding St
section
variable {X : Cx} {W : WX} {ex : Ex} {e a b : Expr} {ma mb mc : ME} {pos : Pos}

/-! ### names, constants -/
def mVar (i : Nat) : ME := fun env h => match env[i]? with | some (.va d) => .ok d h | _ => .stuck
theorem fe_var {i : Nat} {x : Str} (hN : X.N[i]? = some x) (hv : Vis X.env.scope x) (hd : (x == ("__debug__" : Str)) = false) (hcd : (x == ("__classdict__" : Str)) = false) : FE X W ex (.Name x pos) (mVar i) := by
  refine PE.imp (pe_var hN hv hd hcd) fun σ H Q q => ?_
  obtain ⟨ι, h, env, rel, re, po⟩ := q
  unfold mVar at po
  split at po
  · rename_i d ed
    obtain ⟨v, e1, q⟩ := re.at_ i d ed
    exact ⟨v, e1, po ι H v (List.prefix_refl _) (Keep.refl _) rel q⟩
  · exact po.elim
theorem fv (i : Nat) {x : Str} (hN : X.N[i]? = some x := by rfl) (hv : Vis X.env.scope x := by first | exact Or.inl rfl | exact Or.inr (Or.inl rfl) | exact Or.inr (Or.inr rfl)) (hd : (x == ("__debug__" : Str)) = false := by decide)
    (hcd : (x == ("__classdict__" : Str)) = false := by decide) : FE X W ex (.Name x pos) (mVar i) := fe_var hN hv hd hcd
def mC (d : D) : ME := fun _ h => .ok d h
theorem fe_c {v : V} {d : D} (p : PE X e (tC v)) (r : ∀ ι H, RV (wo X) ι H d v) : FE X W ex e (mC d) := by
  refine PE.imp p fun σ H Q q => ?_
  obtain ⟨ι, h, env, rel, re, po⟩ := q
  exact po ι H v (List.prefix_refl _) (Keep.refl _) rel (r ι H)
theorem fe_int {i j} : FE X W ex (.Constant (.int i) j pos) (mC (.int i)) := fe_c pe_int fun _ _ => by simp [RV]
theorem fe_bl {i j} : FE X W ex (.Constant (.bool i) j pos) (mC (.bl i)) := fe_c pe_bl fun _ _ => by simp [RV]
theorem fe_str {i j} : FE X W ex (.Constant (.str i) j pos) (mC (.str i)) := fe_c pe_str fun _ _ => by simp [RV]
theorem fe_non {j} : FE X W ex (.Constant .none j pos) (mC .non) := fe_c pe_non fun _ _ => by simp [RV]
/-- a module's name: an int, a class -/
theorem fe_gint {x : Str} {i : Int} {t : Tok} (hm : X.mg x = some (.int i t)) (hg : Gl X x := by rfl) (hd : (x == ("__debug__" : Str)) = false := by decide) : FE X W ex (.Name x pos) (mC (.int i)) :=
  fe_c (pe_glob hg hm (v := .int i) ⟨t, rfl⟩ hd) fun _ _ => by simp [RV]
theorem fe_gstr {x z : Str} {t : Tok} (hm : X.mg x = some (.str z t)) (hg : Gl X x := by rfl) (hd : (x == ("__debug__" : Str)) = false := by decide) : FE X W ex (.Name x pos) (mC (.str z)) :=
  fe_c (pe_glob hg hm (v := .str z) ⟨t, rfl⟩ hd) fun _ _ => by simp [RV]
theorem fe_cls {x : Str} {C : Addr} (hm : X.mg x = some (.ref C)) (hg : Gl X x := by rfl) (hd : (x == ("__debug__" : Str)) = false := by decide) : FE X W ex (.Name x pos) (mC (.cls x)) :=
  fe_c (pe_glob hg hm (v := .ref C) rfl hd) fun _ _ => by simp only [RV]; exact ⟨C, rfl, hm⟩
theorem fe_ty {x : Str} {n : String} (hm : X.mg x = none) (hv : bootBuiltins x = some (.type n)) (hg : Gl X x := by rfl) (hn : x ≠ "__name__" := by decide) (hd : (x == ("__debug__" : Str)) = false := by decide) : FE X W ex (.Name x pos) (mC (.ty n)) :=
  fe_c (pe_bltn (v := .ty n) hg hm hv rfl hn hd) fun _ _ => by simp [RV]
/-- a value of the module's that stands in the written part -/
theorem fe_gref {x : Str} {p : Addr} {d : D} (hm : X.mg x = some (.ref p)) (r : ∀ ι H, RV (wo X) ι H d (.ref p)) (hg : Gl X x := by rfl) (hd : (x == ("__debug__" : Str)) = false := by decide) : FE X W ex (.Name x pos) (mC d) :=
  fe_c (pe_glob hg hm (v := .ref p) rfl hd) r

/-! ### two parts, one -/
def m2 (f : D → D → M → Res D) (ma mb : ME) : ME := fun env h => (ma env h).bind fun x h1 => (mb env h1).bind fun y h2 => f x y h2
def m1 (f : D → M → Res D) (ma : ME) : ME := fun env h => (ma env h).bind fun x h1 => f x h1
/-- what an operator asks is met by f -/
def Ab2 (G : Wo) (r : R2) (f : D → D → M → Res D) : Prop := ∀ (E : WX') ι H h x y v u (Q : VK), Rel G ι H h → RV G ι H x v → RV G ι H y u → Post G (fun ι H d v => RV G ι H d v) E ι H (f x y h) Q → r v u H Q
def Ab1 (G : Wo) (r : V → Hp → VK → Prop) (f : D → M → Res D) : Prop := ∀ (E : WX') ι H h x v (Q : VK), Rel G ι H h → RV G ι H x v → Post G (fun ι H d v => RV G ι H d v) E ι H (f x h) Q → r v H Q
def AbL (G : Wo) (r : List V → Hp → VK → Prop) (f : List D → M → Res D) : Prop := ∀ (E : WX') ι H h x v (Q : VK), Rel G ι H h → RVs G ι H x v → Post G (fun ι H d v => RV G ι H d v) E ι H (f x h) Q → r v H Q
theorem rd_op {r : R2} {f : D → D → M → Res D} {G : Wo} (hf : Ab2 G r f) {σ : St} {H : Hp} {Q : VK} (q : rdE G ex W (m2 f ma mb) σ H Q) : tOp r (rdE G ex W ma) (rdE G ex W mb) σ H Q := by
  obtain ⟨ι, h, env, rel, re, po⟩ := q
  refine ⟨ι, h, env, rel, re, post_bind po fun x h1 ι1 H1 v _ p1 k1 rel1 rv1 po1 => ?_⟩
  refine ⟨ι1, h1, env, rel1, re.mono p1 k1, post_bind po1 fun y h2 ι2 H2 u _ p2 k2 rel2 rv2 po2 => ?_⟩
  exact hf _ ι2 H2 h2 x y v u Q rel2 (RV.mono p2 k2 _ _ rv1) rv2 po2
theorem fe_op {op : Operator} {r : R2} {f : D → D → M → Res D} (ho : OpR X (binaryOp op) r) (hf : Ab2 (wo X) r f) (ha : FE X W ex a ma) (hb : FE X W ex b mb) : FE X W ex (.BinOp a op b pos) (m2 f ma mb) :=
  PE.imp (pe_op ho ha hb) fun _ _ _ q => rd_op hf q
/-- a comparison, by what it asks -/
def FC (X : Cx) (W : WX) (ex : Ex) (op : CmpOp) (a b : Expr) (m : ME) : Prop := PC X op a b (rdE (wo X) ex W m)
theorem PC.imp {op : CmpOp} {t t' : TE} (p : PC X op a b t) (h : ∀ σ H Q, t' σ H Q → t σ H Q) : PC X op a b t' := ⟨fun pins s σ H Q I q => p.run pins s σ H Q I (h σ H Q q)⟩
theorem PC.or {op : CmpOp} {t t' : TE} (p : PC X op a b t) (p' : PC X op a b t') : PC X op a b (fun σ H Q => t σ H Q ∨ t' σ H Q) := ⟨fun pins s σ H Q I h => by
  rcases h with h | h
  · exact p.run pins s σ H Q I h
  · exact p'.run pins s σ H Q I h⟩
theorem pc_of {op : CmpOp} {r : R2} {ta tb : TE} (ho : OpR X (compareOp op) r) (ha : PE X a ta) (hb : PE X b tb) : PC X op a b (tOp r ta tb) :=
  ⟨fun pins s σ H Q I h => bin ha hb I h fun v u s2 x y H2 I2 rx ry q => ho pins s2 σ H2 x y v u Q I2 rx ry q⟩
theorem fc_op {op : CmpOp} {r : R2} {f : D → D → M → Res D} (ho : OpR X (compareOp op) r) (hf : Ab2 (wo X) r f) (ha : FE X W ex a ma) (hb : FE X W ex b mb) : FC X W ex op a b (m2 f ma mb) :=
  PC.imp (pc_of ho ha hb) fun _ _ _ q => rd_op hf q
theorem fe_c1 {op : CmpOp} {m : ME} (h : FC X W ex op a b m) (hm : behindInMarks op b = false := by first | exact nobehind _ (by decide) (by decide) | rfl) : FE X W ex (.Compare a [op] [b] pos) m := pe_cmp h hm
/-- what an operator asks at two values is met by f -/
def At2 (G : Wo) (r : R2) (f : D → D → M → Res D) (x y : D) (h : M) : Prop := ∀ (E : WX') ι H v u (Q : VK), Rel G ι H h → RV G ι H x v → RV G ι H y u → Post G (fun ι H d v => RV G ι H d v) E ι H (f x y h) Q → r v u H Q
/-- two ways, told apart by the values -/
theorem rd_op_or {r r' : R2} {f : D → D → M → Res D} {G : Wo} (hf : ∀ x y h, At2 G r f x y h ∨ At2 G r' f x y h) {σ : St} {H : Hp} {Q : VK} (q : rdE G ex W (m2 f ma mb) σ H Q) :
    tOp r (rdE G ex W ma) (rdE G ex W mb) σ H Q ∨ tOp r' (rdE G ex W ma) (rdE G ex W mb) σ H Q := by
  obtain ⟨ι, h, env, rel, re, po⟩ := q
  unfold m2 at po
  cases ea : ma env h with
  | stuck => rw [ea] at po; exact po.elim
  | exc x ns vs h1 =>
    rw [ea] at po
    exact .inl ⟨ι, h, env, rel, re, by rw [ea]; exact po⟩
  | ok x h1 =>
    rw [ea] at po
    simp only [bind_ok] at po
    cases eb : mb env h1 with
    | stuck => rw [eb] at po; exact po.elim
    | exc x' ns vs h2 =>
      rw [eb] at po
      refine .inl ⟨ι, h, env, rel, re, ?_⟩
      rw [ea]
      intro ι1 H1 v p1 k1 rel1 rv1
      refine ⟨ι1, h1, env, rel1, re.mono p1 k1, ?_⟩
      rw [eb]
      exact Post.mono p1 k1 po
    | ok y h2 =>
      rw [eb] at po
      simp only [bind_ok] at po
      have run : ∀ (R : R2), At2 G R f x y h2 → tOp R (rdE G ex W ma) (rdE G ex W mb) σ H Q := fun R hR => by
        refine ⟨ι, h, env, rel, re, ?_⟩
        rw [ea]
        intro ι1 H1 v p1 k1 rel1 rv1
        refine ⟨ι1, h1, env, rel1, re.mono p1 k1, ?_⟩
        rw [eb]
        intro ι2 H2 u p2 k2 rel2 rv2
        exact hR _ ι2 H2 v u Q rel2 (RV.mono p2 k2 _ _ rv1) rv2 (Post.mono (p1.trans p2) (k1.trans k2) po)
      rcases hf x y h2 with z | z
      · exact .inl (run _ z)
      · exact .inr (run _ z)
theorem rd_un {r : V → Hp → VK → Prop} {f : D → M → Res D} {G : Wo} (hf : Ab1 G r f) {σ : St} {H : Hp} {Q : VK} (q : rdE G ex W (m1 f ma) σ H Q) : tUn r (rdE G ex W ma) σ H Q := by
  obtain ⟨ι, h, env, rel, re, po⟩ := q
  refine ⟨ι, h, env, rel, re, post_bind po fun x h1 ι1 H1 v _ p1 k1 rel1 rv1 po1 => ?_⟩
  exact hf _ ι1 H1 h1 x v Q rel1 rv1 po1
theorem fe_un {op : UnaryOp} {r : V → Hp → VK → Prop} {f : D → M → Res D} (ho : UnR X (unaryOp op) r) (hf : Ab1 (wo X) r f) (ha : FE X W ex a ma) : FE X W ex (.UnaryOp op a pos) (m1 f ma) :=
  PE.imp (pe_un ho ha) fun _ _ _ q => rd_un hf q

/-! ### ends of an operator -/
theorem po_ok {α β : Type} {G : Wo} {B : List Addr → Hp → α → β → Prop} {E : WX'} {ι : List Addr} {H : Hp} {h : M} {d : α} {v : β} {Q : β → Hp → Prop} (rel : Rel G ι H h) (b : B ι H d v) (po : Post G B E ι H (.ok d h) Q) : Q v H :=
  po ι H v (List.prefix_refl _) (Keep.refl _) rel b
/-- a new list -/
theorem po_lst {G : Wo} {E : WX'} {ι : List Addr} {H : Hp} {h : M} {xs : List D} {vs : List V} {Q : VK} (rel : Rel G ι H h) (b : RVs G ι H xs vs) (po : Post G (fun ι H d v => RV G ι H d v) E ι H (.ok (.loc h.length) (h ++ [.lst xs])) Q)
    (p : Addr) (hp : H p = none) : Q (.ref p) (upd H p (.lst vs)) := by
  have pre : ι <+: ι ++ [p] := List.prefix_append ..
  have k : Keep H (upd H p (.lst vs)) := Keep.of_same (same_upd hp)
  refine po (ι ++ [p]) _ (.ref p) pre k (rel.push hp ⟨vs, upd_same, RVs.mono pre k _ _ b⟩) ?_
  simp only [RV]
  exact ⟨p, rfl, by rw [← rel.len]; simp⟩
/-- a new tuple -/
theorem po_tup {G : Wo} {E : WX'} {ι : List Addr} {H : Hp} {h : M} {xs : List D} {vs : List V} {Q : VK} (rel : Rel G ι H h) (b : RVs G ι H xs vs) (po : Post G (fun ι H d v => RV G ι H d v) E ι H (.ok (.tup xs) h) Q)
    (p : Addr) (hp : H p = none) : Q (.ref p) (upd H p (.tup vs)) := by
  have k : Keep H (upd H p (.tup vs)) := Keep.of_same (same_upd hp)
  refine po ι _ (.ref p) (List.prefix_refl _) k (rel.same (same_upd hp)) ?_
  simp only [RV]
  exact ⟨p, vs, rfl, upd_same, RVs.mono (List.prefix_refl _) k _ _ b⟩
/-- what stands at a place -/
theorem at_lst {G : Wo} {ι : List Addr} {H : Hp} {h : M} {l : Nat} {v : V} {xs : List D} (rel : Rel G ι H h) (rv : RV G ι H (.loc l) v) (e : h[l]? = some (.lst xs)) : ∃ a vs, v = .ref a ∧ ι[l]? = some a ∧ H a = some (.lst vs) ∧ RVs G ι H xs vs := by
  simp only [RV] at rv
  obtain ⟨a, rfl, ea⟩ := rv
  obtain ⟨vs, e1, r⟩ := rel.at e ea
  exact ⟨a, vs, rfl, ea, e1, r⟩
theorem at_dK {G : Wo} {ι : List Addr} {H : Hp} {h : M} {l : Nat} {v : V} {xs : List (Key × D)} (rel : Rel G ι H h) (rv : RV G ι H (.loc l) v) (e : h[l]? = some (.dK xs)) : ∃ a vs, v = .ref a ∧ ι[l]? = some a ∧ H a = some (.dK vs) ∧ RKs G ι H xs vs := by
  simp only [RV] at rv
  obtain ⟨a, rfl, ea⟩ := rv
  obtain ⟨vs, e1, r⟩ := rel.at e ea
  exact ⟨a, vs, rfl, ea, e1, r⟩
theorem at_dT {G : Wo} {ι : List Addr} {H : Hp} {h : M} {l : Nat} {v : V} {xs : List (List Key × D)} (rel : Rel G ι H h) (rv : RV G ι H (.loc l) v) (e : h[l]? = some (.dT xs)) : ∃ a vs, v = .ref a ∧ ι[l]? = some a ∧ H a = some (.dT vs) ∧ RKs G ι H xs vs := by
  simp only [RV] at rv
  obtain ⟨a, rfl, ea⟩ := rv
  obtain ⟨vs, e1, r⟩ := rel.at e ea
  exact ⟨a, vs, rfl, ea, e1, r⟩
theorem at_ins {G : Wo} {ι : List Addr} {H : Hp} {h : M} {l : Nat} {v : V} {x : Str} {fs : List (Str × D)} (rel : Rel G ι H h) (rv : RV G ι H (.loc l) v) (e : h[l]? = some (.ins x fs)) :
    ∃ a C dx vs, v = .ref a ∧ ι[l]? = some a ∧ G.mg x = some (.ref C) ∧ H a = some (.ins C dx vs) ∧ RKs G ι H fs vs := by
  simp only [RV] at rv
  obtain ⟨a, rfl, ea⟩ := rv
  obtain ⟨C, dx, vs, g, e1, r⟩ := rel.at e ea
  exact ⟨a, C, dx, vs, rfl, ea, g, e1, r⟩
/-- the items of a list: one of the machine's, a constant one -/
def lstOf (h : M) : D → Option (List D)
  | .loc l => match h[l]? with | some (.lst xs) => some xs | _ => none
  | .cl xs => some xs
  | _ => none
theorem lstOf_sq {G : Wo} {ι : List Addr} {H : Hp} {h : M} {d : D} {v : V} {xs : List D} (rel : Rel G ι H h) (rv : RV G ι H d v) (e : lstOf h d = some xs) : ∃ a vs, v = .ref a ∧ SqL G.K H a vs ∧ RVs G ι H xs vs := by
  cases d with
  | loc l =>
    simp only [lstOf] at e
    split at e
    · rename_i ys e1
      cases e
      obtain ⟨a, vs, rfl, _, e2, r⟩ := at_lst rel rv e1
      exact ⟨a, vs, rfl, SqL.of e2, r⟩
    · cases e
  | cl ys =>
    simp only [lstOf] at e
    cases e
    simp only [RV] at rv
    obtain ⟨a, vs, rfl, q, r⟩ := rv
    exact ⟨a, vs, rfl, q.sq, r⟩
  | _ => simp [lstOf] at e
@[simp] theorem lstOf_cl {h : M} {xs : List D} : lstOf h (.cl xs) = some xs := (rfl)
theorem lstOf_loc {h : M} {l : Nat} {xs : List D} (e : h[l]? = some (.lst xs)) : lstOf h (.loc l) = some xs := by simp only [lstOf, e]

/-- the items of a tuple: one of the run's, a constant one -/
def tupOf : D → Option (List D)
  | .tup xs => some xs
  | .ct xs => some xs
  | _ => none
theorem tupOf_sq {G : Wo} {ι : List Addr} {H : Hp} {d : D} {v : V} {xs : List D} (rv : RV G ι H d v) (e : tupOf d = some xs) : ∃ a vs, v = .ref a ∧ SqT G.K H a vs ∧ RVs G ι H xs vs := by
  cases d with
  | tup ys =>
    simp only [tupOf] at e
    cases e
    simp only [RV] at rv
    obtain ⟨a, vs, rfl, q, r⟩ := rv
    exact ⟨a, vs, rfl, SqT.of q, r⟩
  | ct ys =>
    simp only [tupOf] at e
    cases e
    simp only [RV] at rv
    obtain ⟨a, vs, rfl, q, r⟩ := rv
    exact ⟨a, vs, rfl, .inr q, r⟩
  | _ => simp [tupOf] at e
@[simp] theorem tupOf_tup {xs : List D} : tupOf (.tup xs) = some xs := (rfl)
@[simp] theorem tupOf_ct {xs : List D} : tupOf (.ct xs) = some xs := (rfl)

/-! ### arithmetic -/
def fAdd : D → D → M → Res D
  | .int i, .int j, h => .ok (.int (i + j)) h
  | .str i, .str j, h => if i.length + j.length ≤ sizeLine then .ok (.str (i ++ j)) h else .stuck
  | .loc a, .loc b, h => match h[a]?, h[b]? with
    | some (.lst xs), some (.lst ys) => if xs.length + ys.length ≤ sizeLine then .ok (.loc h.length) (h ++ [.lst (xs ++ ys)]) else .stuck
    | _, _ => .stuck
  | .tup xs, .tup ys, h => if xs.length + ys.length ≤ sizeLine ∧ xs ≠ [] then .ok (.tup (xs ++ ys)) h else .stuck
  | .int i, .bl k, h => .ok (.int (i + b2i k)) h
  | _, _, _ => .stuck

theorem fe_add (ha : FE X W ex a ma) (hb : FE X W ex b mb) : FE X W ex (.BinOp a .Add b pos) (m2 fAdd ma mb) := by
  refine fe_op (op_add.or (op_add_str.or (op_cat.or (op_catT.or op_add_ib)))) (fun E ι H h x y v u Q rel rx ry po => ?_) ha hb
  cases x <;> cases y <;> (try exact po.elim)
  case int.int i j =>
    simp only [RV] at rx ry
    subst rx; subst ry
    exact .inl ⟨i, j, rfl, rfl, po_ok rel (by simp [RV]) po⟩
  case int.bl i k =>
    simp only [RV] at rx ry
    subst rx; subst ry
    exact .inr (.inr (.inr (.inr ⟨i, k, rfl, rfl, po_ok rel (by simp [RV]) po⟩)))
  case str.str i j =>
    simp only [RV] at rx ry
    subst rx; subst ry
    simp only [fAdd] at po
    split at po
    · rename_i hz
      exact .inr (.inl ⟨i, j, rfl, rfl, hz, po_ok rel (by simp [RV]) po⟩)
    · exact po.elim
  case tup.tup xs ys =>
    simp only [fAdd] at po
    split at po
    · rename_i hz
      simp only [RV] at rx ry
      obtain ⟨a, vs, rfl, s1, r1⟩ := rx
      obtain ⟨b, ws, rfl, s2, r2⟩ := ry
      have l1 := RVs.length r1
      have l2 := RVs.length r2
      refine .inr (.inr (.inr (.inl ⟨a, b, vs, ws, rfl, rfl, SqT.of s1, SqT.of s2, fun z => hz.2 (by subst z; simpa using l1), by omega, fun z => ?_, fun z p hp => po_tup rel (r1.append r2) po p hp⟩)))
      subst z
      have : ys = [] := by simpa using l2
      subst this
      rw [List.append_nil] at po
      exact po_ok rel (by simp only [RV]; exact ⟨a, vs, rfl, s1, r1⟩) po
    · exact po.elim
  case loc.loc l k =>
    simp only [fAdd] at po
    split at po
    · rename_i xs ys e1 e2
      split at po
      · rename_i hz
        obtain ⟨a, vs, rfl, _, q1, r1⟩ := at_lst rel rx e1
        obtain ⟨b, ws, rfl, _, q2, r2⟩ := at_lst rel ry e2
        have l1 := RVs.length r1
        have l2 := RVs.length r2
        exact .inr (.inr (.inl ⟨a, b, vs, ws, rfl, rfl, q1, q2, by omega, fun p hp => po_lst rel (r1.append r2) po p hp⟩))
      · exact po.elim
    · exact po.elim
/-- two ints to a value -/
def fI (C : Int → Int → Prop) [∀ i j, Decidable (C i j)] (g : Int → Int → D) : D → D → M → Res D
  | .int i, .int j, h => if C i j then .ok (g i j) h else .stuck
  | _, _, _ => .stuck
theorem ab_I {G : Wo} {C : Int → Int → Prop} [∀ i j, Decidable (C i j)] {g : Int → Int → V} {g' : Int → Int → D} (hg : ∀ i j ι H, RV G ι H (g' i j) (g i j)) : Ab2 G (rI C g) (fI C g') := by
  intro E ι H h x y v u Q rel rx ry po
  cases x <;> cases y <;> (try exact po.elim)
  simp only [fI] at po
  split at po
  · rename_i i j hc
    simp only [RV] at rx ry
    subst rx; subst ry
    exact ⟨i, j, rfl, rfl, hc, po_ok rel (hg i j _ _) po⟩
  · exact po.elim
theorem ab_I0 {G : Wo} {g : Int → Int → V} {g' : Int → Int → D} (hg : ∀ i j ι H, RV G ι H (g' i j) (g i j)) : Ab2 G (rI0 g) (fI (fun _ _ => True) g') := by
  intro E ι H h x y v u Q rel rx ry po
  cases x <;> cases y <;> (try exact po.elim)
  simp only [fI, if_true] at po
  simp only [RV] at rx ry
  subst rx; subst ry
  exact ⟨_, _, rfl, rfl, po_ok rel (hg _ _ _ _) po⟩
def fSub := fI (fun _ _ => True) fun i j => .int (i - j)
theorem fe_sub (ha : FE X W ex a ma) (hb : FE X W ex b mb) : FE X W ex (.BinOp a .Sub b pos) (m2 fSub ma mb) := fe_op op_sub (ab_I0 fun _ _ _ _ => by simp [RV]) ha hb
instance (i j : Int) : Decidable (CMulW i j) := by unfold CMulW; infer_instance
instance (i j : Int) : Decidable (CDivW i j) := by unfold CDivW; infer_instance
instance (i j : Int) : Decidable (CPow i j) := by unfold CPow; infer_instance
def fMul : D → D → M → Res D
  | .int i, .int j, h => if CMulW i j then .ok (.int (i * j)) h else .stuck
  | .loc l, .int k, h => match h[l]? with
    | some (.lst xs) => if -(2 ^ 63) ≤ k ∧ k < 2 ^ 63 ∧ xs.length * k.toNat ≤ sizeLine then .ok (.loc h.length) (h ++ [.lst (List.replicate k.toNat xs).flatten]) else .stuck
    | _ => .stuck
  | _, _, _ => .stuck
theorem RVs.rep {G : Wo} {ι : List Addr} {H : Hp} {xs : List D} {vs : List V} (r : RVs G ι H xs vs) : ∀ n : Nat, RVs G ι H (List.replicate n xs).flatten (List.replicate n vs).flatten
  | 0 => by simp [RVs]
  | n + 1 => by
    simp only [List.replicate_succ, List.flatten_cons]
    exact r.append (RVs.rep r n)
theorem fe_mul (ha : FE X W ex a ma) (hb : FE X W ex b mb) : FE X W ex (.BinOp a .Mult b pos) (m2 fMul ma mb) := by
  refine fe_op (op_mulW.or op_rep) (fun E ι H h x y v u Q rel rx ry po => ?_) ha hb
  cases x <;> cases y <;> (try exact po.elim)
  case int.int i j =>
    simp only [fMul] at po
    split at po
    · rename_i hc
      simp only [RV] at rx ry
      subst rx; subst ry
      exact .inl ⟨i, j, rfl, rfl, hc, po_ok rel (by simp [RV]) po⟩
    · exact po.elim
  case loc.int l k =>
    simp only [fMul] at po
    split at po
    · rename_i xs e1
      split at po
      · rename_i hz
        obtain ⟨a, vs, rfl, _, q1, r1⟩ := at_lst rel rx e1
        have l1 := RVs.length r1
        simp only [RV] at ry
        subst ry
        exact .inr ⟨a, k, vs, rfl, rfl, q1, hz.1, hz.2.1, by rw [← l1]; exact hz.2.2, fun p hp => po_lst rel (r1.rep _) po p hp⟩
      · exact po.elim
    · exact po.elim
def fDiv := fI CDivW fun i j => .int (i / j)
theorem fe_div (ha : FE X W ex a ma) (hb : FE X W ex b mb) : FE X W ex (.BinOp a .FloorDiv b pos) (m2 fDiv ma mb) := fe_op op_fdivW (ab_I fun _ _ _ _ => by simp [RV]) ha hb
def fMod := fI (fun _ j => 0 < j) fun i j => .int (i % j)
theorem fe_mod (ha : FE X W ex a ma) (hb : FE X W ex b mb) : FE X W ex (.BinOp a .Mod b pos) (m2 fMod ma mb) := fe_op op_mod (ab_I fun _ _ _ _ => by simp [RV]) ha hb
def fPow := fI CPow fun i j => .int (i ^ j.toNat)
theorem fe_pow (ha : FE X W ex a ma) (hb : FE X W ex b mb) : FE X W ex (.BinOp a .Pow b pos) (m2 fPow ma mb) := fe_op op_pow (ab_I fun _ _ _ _ => by simp [RV]) ha hb
def fShr := fI (fun _ j => 0 ≤ j) fun i j => .int (i / 2 ^ j.toNat)
theorem fe_shr (ha : FE X W ex a ma) (hb : FE X W ex b mb) : FE X W ex (.BinOp a .RShift b pos) (m2 fShr ma mb) := fe_op op_shr (ab_I fun _ _ _ _ => by simp [RV]) ha hb
def fShl := fI CPow fun i j => .int (i * 2 ^ j.toNat)
theorem fe_shl (ha : FE X W ex a ma) (hb : FE X W ex b mb) : FE X W ex (.BinOp a .LShift b pos) (m2 fShl ma mb) := fe_op op_shl (ab_I fun _ _ _ _ => by simp [RV]) ha hb
def fAnd := fI (fun _ _ => True) fun i j => .int (Builtin.bitAnd i j)
theorem fe_band (ha : FE X W ex a ma) (hb : FE X W ex b mb) : FE X W ex (.BinOp a .BitAnd b pos) (m2 fAnd ma mb) := fe_op op_and (ab_I0 fun _ _ _ _ => by simp [RV]) ha hb
def fNeg : D → M → Res D
  | .int i, h => .ok (.int (-i)) h
  | _, _ => .stuck
theorem fe_neg (ha : FE X W ex a ma) : FE X W ex (.UnaryOp .USub a pos) (m1 fNeg ma) := by
  refine fe_un un_neg (fun E ι H h x v Q rel rx po => ?_) ha
  cases x <;> (try exact po.elim)
  simp only [RV] at rx
  subst rx
  exact ⟨_, rfl, po_ok rel (by simp [RV]) po⟩
/-! ### order of ints -/
def fLt := fI (fun _ _ => True) fun i j => .bl (decide (i < j))
def fLe := fI (fun _ _ => True) fun i j => .bl (decide (i ≤ j))
def fGt := fI (fun _ _ => True) fun i j => .bl (decide (j < i))
def fGe := fI (fun _ _ => True) fun i j => .bl (decide (j ≤ i))
theorem fc_lt (ha : FE X W ex a ma) (hb : FE X W ex b mb) : FC X W ex .Lt a b (m2 fLt ma mb) := fc_op op_lt (ab_I0 fun _ _ _ _ => by simp [RV]) ha hb
theorem fc_le (ha : FE X W ex a ma) (hb : FE X W ex b mb) : FC X W ex .LtE a b (m2 fLe ma mb) := fc_op op_le (ab_I0 fun _ _ _ _ => by simp [RV]) ha hb
theorem fc_gt (ha : FE X W ex a ma) (hb : FE X W ex b mb) : FC X W ex .Gt a b (m2 fGt ma mb) := fc_op op_gt (ab_I0 fun _ _ _ _ => by simp [RV]) ha hb
theorem fc_ge (ha : FE X W ex a ma) (hb : FE X W ex b mb) : FC X W ex .GtE a b (m2 fGe ma mb) := fc_op op_ge (ab_I0 fun _ _ _ _ => by simp [RV]) ha hb
end
end LF
set_option Elab.async false
set_option linter.all false
set_option maxRecDepth 100000
set_option maxHeartbeats 4000000
/-! LF2: equality, tests, displays, calls of built-ins, subscripts, slices. -/
namespace LF
open PySem PySem.Spec L2
open PyProof.Rows hiding St
section
variable {X : Cx} {W : WX} {ex : Ex} {e a b : Expr} {ma mb mc : ME} {pos : Pos}

/-! ### equality -/
/-- the plain data that a value stands for -/
def toPy (h : M) : Nat → D → Option PyData
  | _, .non => some .none
  | _, .bl b => some (.bool b)
  | _, .int i => some (.int i)
  | _, .str x => some (.str x)
  | n + 1, .tup xs => (xs.mapM (toPy h n)).map .tuple
  | n + 1, .ct xs => (xs.mapM (toPy h n)).map .tuple
  | n + 1, .cl xs => (xs.mapM (toPy h n)).map .list
  | n + 1, .loc l => match h[l]? with
    | some (.lst xs) => (xs.mapM (toPy h n)).map .list
    | _ => none
  | _, _ => none
theorem toPy_ok {G : Wo} {ι : List Addr} {H : Hp} {h : M} (rel : Rel G ι H h) : ∀ (n : Nat) (d : D) (v : V) (p : PyData), RV G ι H d v → toPy h n d = some p → Dp G.K H v p := by
  intro n
  induction n with
  | zero =>
    intro d v p r e
    cases d <;> simp only [toPy, reduceCtorEq] at e <;> (cases e; simp only [RV] at r; subst r)
    · exact .non
    · exact .bl _
    · exact .int _
    · exact .str _
  | succ n ih =>
    have all : ∀ (xs : List D) (vs : List V) (ps : List PyData), RVs G ι H xs vs → xs.mapM (toPy h n) = some ps → DpAll G.K H vs ps := by
      intro xs
      induction xs with
      | nil =>
        intro vs ps r e
        simp only [RVs] at r; subst r
        simp at e; subst e
        exact .nil
      | cons x xs ihx =>
        intro vs ps r e
        simp only [RVs] at r
        obtain ⟨v, q, rfl, r1, r2⟩ := r
        simp only [List.mapM_cons, bind, Option.bind_eq_some_iff, pure, Option.some.injEq] at e
        obtain ⟨p, e1, ps', e2, rfl⟩ := e
        exact .cons (ih x v p r1 e1) (ihx _ _ r2 e2)
    intro d v p r e
    cases d with
    | non => simp only [toPy] at e; cases e; simp only [RV] at r; subst r; exact .non
    | bl _ => simp only [toPy] at e; cases e; simp only [RV] at r; subst r; exact .bl _
    | int _ => simp only [toPy] at e; cases e; simp only [RV] at r; subst r; exact .int _
    | str _ => simp only [toPy] at e; cases e; simp only [RV] at r; subst r; exact .str _
    | tup xs =>
      simp only [toPy, Option.map_eq_some_iff] at e
      obtain ⟨ps, e1, rfl⟩ := e
      simp only [RV] at r
      obtain ⟨a, vs, rfl, s, r⟩ := r
      exact .tup (SqT.of s) (all _ _ _ r e1)
    | ct xs =>
      simp only [toPy, Option.map_eq_some_iff] at e
      obtain ⟨ps, e1, rfl⟩ := e
      simp only [RV] at r
      obtain ⟨a, vs, rfl, s, r⟩ := r
      exact .tup (.inr s) (all _ _ _ r e1)
    | cl xs =>
      simp only [toPy, Option.map_eq_some_iff] at e
      obtain ⟨ps, e1, rfl⟩ := e
      simp only [RV] at r
      obtain ⟨a, vs, rfl, s, r⟩ := r
      exact .lst s.sq (all _ _ _ r e1)
    | loc l =>
      simp only [toPy] at e
      split at e
      · rename_i xs e0
        simp only [Option.map_eq_some_iff] at e
        obtain ⟨ps, e1, rfl⟩ := e
        obtain ⟨a, vs, rfl, _, q, r⟩ := at_lst rel r e0
        exact .lst (SqL.of q) (all _ _ _ r e1)
      · cases e
    | _ => simp [toPy] at e
/-- scalars that compare by themselves -/
def scalD : D → D → Option Bool
  | .non, .non => some true
  | .int i, .int j => some (decide (i = j))
  | .bl i, .bl j => some (decide (i = j))
  | .str i, .str j => some (decide (i = j))
  | .non, .int _ => some false
  | .int _, .non => some false
  | .non, .bl _ => some false
  | .bl _, .non => some false
  | .non, .str _ => some false
  | .str _, .non => some false
  | .int _, .str _ => some false
  | .str _, .int _ => some false
  | .bl _, .str _ => some false
  | .str _, .bl _ => some false
  | _, _ => none
def eqD (x y : D) (h : M) : Option Bool :=
  match scalD x y with
  | some b => some b
  | none => match toPy h 50 x, toPy h 50 y with
    | some p, some q => if SeqAt.shaped p = true ∧ SeqAt.shaped q = true then some (PyData.eqv p q) else none
    | _, _ => none
def fEq (x y : D) (h : M) : Res D := match eqD x y h with | some b => .ok (.bl b) h | none => .stuck
def fNe (x y : D) (h : M) : Res D := match eqD x y h with | some b => .ok (.bl (!b)) h | none => .stuck
theorem scalD_ok {G : Wo} {ι : List Addr} {H : Hp} {x y : D} {v u : V} {b : Bool} (rx : RV G ι H x v) (ry : RV G ι H y u) (e : scalD x y = some b) : scal v u = true ∧ decide (v = u) = b := by
  cases x <;> cases y <;> simp only [scalD, Option.some.injEq, reduceCtorEq] at e <;> (simp only [RV] at rx ry; subst rx; subst ry; subst e; simp [scal])
theorem eqD_ok {G : Wo} {ι : List Addr} {H : Hp} {h : M} {x y : D} {v u : V} {b : Bool} (rel : Rel G ι H h) (rx : RV G ι H x v) (ry : RV G ι H y u) (e : eqD x y h = some b) :
    (scal v u = true ∧ decide (v = u) = b) ∨ ∃ d f, Dp G.K H v d ∧ Dp G.K H u f ∧ SeqAt.shaped d = true ∧ SeqAt.shaped f = true ∧ PyData.eqv d f = b := by
  unfold eqD at e
  split at e
  · rename_i c e1
    cases e
    exact .inl (scalD_ok rx ry e1)
  · split at e
    · rename_i p q e2 e3
      split at e
      · rename_i hs
        cases e
        exact .inr ⟨p, q, toPy_ok rel _ _ _ _ rx e2, toPy_ok rel _ _ _ _ ry e3, hs.1, hs.2, rfl⟩
      · cases e
    · cases e
theorem fc_eq {k : Nat} (hr : Room k X.A) (ha : FE X W ex a ma) (hb : FE X W ex b mb) : FC X W ex .Eq a b (m2 fEq ma mb) := by
  refine fc_op (op_eq.or (op_eqD hr.units)) (fun E ι H h x y v u Q rel rx ry po => ?_) ha hb
  unfold fEq at po
  split at po
  · rename_i b e
    rcases eqD_ok rel rx ry e with ⟨s, d⟩ | ⟨d, f, h1, h2, h3, h4, h5⟩
    · exact .inl ⟨s, by rw [d]; exact po_ok rel (by simp [RV]) po⟩
    · exact .inr ⟨d, f, h1, h2, h3, h4, by rw [h5]; exact po_ok rel (by simp [RV]) po⟩
  · exact po.elim
theorem fc_ne {k : Nat} (hr : Room k X.A) (ha : FE X W ex a ma) (hb : FE X W ex b mb) : FC X W ex .NotEq a b (m2 fNe ma mb) := by
  refine fc_op (op_ne.or (op_neD hr.units)) (fun E ι H h x y v u Q rel rx ry po => ?_) ha hb
  unfold fNe at po
  split at po
  · rename_i b e
    rcases eqD_ok rel rx ry e with ⟨s, d⟩ | ⟨d, f, h1, h2, h3, h4, h5⟩
    · exact .inl ⟨s, by rw [d]; exact po_ok rel (by simp [RV]) po⟩
    · exact .inr ⟨d, f, h1, h2, h3, h4, by rw [h5]; exact po_ok rel (by simp [RV]) po⟩
  · exact po.elim
/-- is None -/
def isN : D → Bool
  | .non => true
  | _ => false
theorem isN_ok {G : Wo} {ι : List Addr} {H : Hp} {x : D} {v : V} (rx : RV G ι H x v) : decide (v = .non) = isN x := by
  cases x <;> simp only [RV] at rx
  case non => subst rx; rfl
  case bl => subst rx; rfl
  case int => subst rx; rfl
  case str => subst rx; rfl
  case tup => obtain ⟨a, vs, rfl, _⟩ := rx; rfl
  case cl => obtain ⟨a, vs, rfl, _⟩ := rx; rfl
  case ct => obtain ⟨a, vs, rfl, _⟩ := rx; rfl
  case loc => obtain ⟨a, rfl, _⟩ := rx; rfl
  case ty => subst rx; rfl
  case cls => obtain ⟨a, rfl, _⟩ := rx; rfl
def fIsN : D → M → Res D := fun x h => .ok (.bl (isN x)) h
def fIsNN : D → M → Res D := fun x h => .ok (.bl (!isN x)) h
theorem fc_isN {j pos'} (ha : FE X W ex a ma) : FC X W ex .Is a (.Constant .none j pos') (m1 fIsN ma) := by
  refine PC.imp (pc_isN ha) fun σ H Q q => ?_
  obtain ⟨ι, h, env, rel, re, po⟩ := q
  refine ⟨ι, h, env, rel, re, post_bind po fun x h1 ι1 H1 v eq1 p1 k1 rel1 rv1 po1 => ?_⟩
  rw [isN_ok rv1]
  exact po_ok rel1 (by simp [RV]) po1
theorem fc_isNN {j pos'} (ha : FE X W ex a ma) : FC X W ex .IsNot a (.Constant .none j pos') (m1 fIsNN ma) := by
  refine PC.imp (pc_notN ha) fun σ H Q q => ?_
  obtain ⟨ι, h, env, rel, re, po⟩ := q
  refine ⟨ι, h, env, rel, re, post_bind po fun x h1 ι1 H1 v eq1 p1 k1 rel1 rv1 po1 => ?_⟩
  rw [isN_ok rv1]
  exact po_ok rel1 (by simp [RV]) po1

/-! ### tests -/
variable {ta tb tc : MT} {rest : List Expr}
def asB (d : D) (h : M) : Res Bool := match d with | .bl b => .ok b h | _ => .stuck
@[simp] theorem asB_bl {b : Bool} {h : M} : asB (.bl b) h = .ok b h := (rfl)
def mTest (ma : ME) : MT := fun env h => (ma env h).bind asB
theorem rd_test {G : Wo} {σ : St} {H : Hp} {Q : Bool → Hp → Prop} (q : rdT G ex W (mTest ma) σ H Q) : rdE G ex W ma σ H fun x H1 => ∃ c, x = .bl c ∧ Q c H1 := by
  obtain ⟨ι, h, env, rel, re, po⟩ := q
  refine ⟨ι, h, env, rel, re, post_bind po fun x h1 ι1 H1 v eq1 p1 k1 rel1 rv1 po1 => ?_⟩
  cases x <;> (try exact po1.elim)
  simp only [RV] at rv1
  exact ⟨_, rv1, po_ok rel1 rfl po1⟩
theorem ft_val (ha : FE X W ex a ma) (he : ∀ whole, isTrue a X.env whole = (do let v ← whole; standAt a.pos; holding [v] (truthy v)) := by intro _; rfl) : FT X W ex a (mTest ma) :=
  PT.imp (pt_val ha he) fun _ _ _ q => rd_test q
/-- a comparison as a test -/
theorem ft_c1 {op : CmpOp} {m : ME} (h : FC X W ex op a b m) (hm : behindInMarks op b = false := by first | exact nobehind _ (by decide) (by decide) | rfl) : FT X W ex (.Compare a [op] [b] pos) (mTest m) :=
  PT.imp (pt_cmp h hm) fun _ _ _ q => rd_test q
def mNotT (t : MT) : MT := fun env h => (t env h).bind fun b h => .ok (!b) h
theorem ft_not (ha : FT X W ex a ta) : FT X W ex (.UnaryOp .Not a pos) (mNotT ta) := by
  refine PT.imp (pt_not ha) fun σ H Q q => ?_
  obtain ⟨ι, h, env, rel, re, po⟩ := q
  refine ⟨ι, h, env, rel, re, post_bind po fun x h1 ι1 H1 v eq1 p1 k1 rel1 rv1 po1 => ?_⟩
  cases rv1
  exact po_ok rel1 rfl po1
def mAndT (t u : MT) : MT := fun env h => (t env h).bind fun b h => if b = true then u env h else .ok false h
def mOrT (t u : MT) : MT := fun env h => (t env h).bind fun b h => if b = true then .ok true h else u env h
theorem fw_and1 (ha : FT X W ex a ta) : FW X W ex (.BoolOp .And [a] pos) ta := pw_and1 ha
theorem fw_or1 (ha : FT X W ex a ta) : FW X W ex (.BoolOp .Or [a] pos) ta := pw_or1 ha
theorem fw_and (ha : FT X W ex a ta) (hb : FW X W ex (.BoolOp .And (b :: rest) pos) tb) : FW X W ex (.BoolOp .And (a :: b :: rest) pos) (mAndT ta tb) := by
  refine PW.imp (pw_and ha hb) fun σ H Q q => ?_
  obtain ⟨ι, h, env, rel, re, po⟩ := q
  refine ⟨ι, h, env, rel, re, post_bind po fun x h1 ι1 H1 v eq1 p1 k1 rel1 rv1 po1 => ?_⟩
  cases rv1
  split
  · rename_i hx
    rw [if_pos hx] at po1
    exact ⟨ι1, h1, env, rel1, re.mono p1 k1, po1⟩
  · rename_i hx
    rw [if_neg hx] at po1
    exact po_ok rel1 rfl po1
theorem fw_or (ha : FT X W ex a ta) (hb : FW X W ex (.BoolOp .Or (b :: rest) pos) tb) : FW X W ex (.BoolOp .Or (a :: b :: rest) pos) (mOrT ta tb) := by
  refine PW.imp (pw_or ha hb) fun σ H Q q => ?_
  obtain ⟨ι, h, env, rel, re, po⟩ := q
  refine ⟨ι, h, env, rel, re, post_bind po fun x h1 ι1 H1 v eq1 p1 k1 rel1 rv1 po1 => ?_⟩
  cases rv1
  split
  · rename_i hx
    rw [if_pos hx] at po1
    exact po_ok rel1 rfl po1
  · rename_i hx
    rw [if_neg hx] at po1
    exact ⟨ι1, h1, env, rel1, re.mono p1 k1, po1⟩
theorem FW.ft (h : FW X W ex e ta) : FT X W ex e ta := PW.pt h
/-! as values -/
def mNotV (ma : ME) : ME := fun env h => (ma env h).bind fun d h => (asB d h).bind fun b h => .ok (.bl (!b)) h
theorem fe_not (ha : FE X W ex a ma) : FE X W ex (.UnaryOp .Not a pos) (mNotV ma) := by
  refine PE.imp (pe_not ha) fun σ H Q q => ?_
  obtain ⟨ι, h, env, rel, re, po⟩ := q
  refine ⟨ι, h, env, rel, re, post_bind po fun x h1 ι1 H1 v eq1 p1 k1 rel1 rv1 po1 => ?_⟩
  cases x <;> (try exact po1.elim)
  simp only [RV] at rv1
  exact ⟨_, rv1, po_ok rel1 (by simp [RV]) po1⟩
def mAndV (ma mb : ME) : ME := fun env h => (ma env h).bind fun d h => (asB d h).bind fun b h => if b = true then mb env h else .ok (.bl false) h
def mOrV (ma mb : ME) : ME := fun env h => (ma env h).bind fun d h => (asB d h).bind fun b h => if b = true then .ok (.bl true) h else mb env h
theorem fe_one {op} (ha : FE X W ex a ma) : FE X W ex (.BoolOp op [a] pos) ma := pe_one ha
theorem fe_and (ha : FE X W ex a ma) (hb : FE X W ex (.BoolOp .And (b :: rest) pos) mb) : FE X W ex (.BoolOp .And (a :: b :: rest) pos) (mAndV ma mb) := by
  refine PE.imp (pe_and ha hb) fun σ H Q q => ?_
  obtain ⟨ι, h, env, rel, re, po⟩ := q
  refine ⟨ι, h, env, rel, re, post_bind po fun x h1 ι1 H1 v eq1 p1 k1 rel1 rv1 po1 => ?_⟩
  cases x <;> (try exact po1.elim)
  case bl c =>
  simp only [RV] at rv1
  refine ⟨_, rv1, ?_⟩
  cases c with
  | true => exact iteT ⟨ι1, h1, env, rel1, re.mono p1 k1, po1⟩
  | false => exact iteF (po_ok rel1 (by simp [RV]) po1)
theorem fe_or (ha : FE X W ex a ma) (hb : FE X W ex (.BoolOp .Or (b :: rest) pos) mb) : FE X W ex (.BoolOp .Or (a :: b :: rest) pos) (mOrV ma mb) := by
  refine PE.imp (pe_or ha hb) fun σ H Q q => ?_
  obtain ⟨ι, h, env, rel, re, po⟩ := q
  refine ⟨ι, h, env, rel, re, post_bind po fun x h1 ι1 H1 v eq1 p1 k1 rel1 rv1 po1 => ?_⟩
  cases x <;> (try exact po1.elim)
  case bl c =>
  simp only [RV] at rv1
  refine ⟨_, rv1, ?_⟩
  cases c with
  | false => exact iteF ⟨ι1, h1, env, rel1, re.mono p1 k1, po1⟩
  | true => exact iteT (po_ok rel1 (by simp [RV]) po1)
def mIf (t : MT) (ma mb : ME) : ME := fun env h => (t env h).bind fun b h => if b = true then ma env h else mb env h
theorem fe_if {c : Expr} (hc : FT X W ex c tc) (ha : FE X W ex a ma) (hb : FE X W ex b mb) : FE X W ex (.IfExp c a b pos) (mIf tc ma mb) := by
  refine PE.imp (pe_ifExp hc ha hb) fun σ H Q q => ?_
  obtain ⟨ι, h, env, rel, re, po⟩ := q
  refine ⟨ι, h, env, rel, re, post_bind po fun x h1 ι1 H1 v eq1 p1 k1 rel1 rv1 po1 => ?_⟩
  cases rv1
  cases x with
  | true => exact iteT ⟨ι1, h1, env, rel1, re.mono p1 k1, po1⟩
  | false => exact iteF ⟨ι1, h1, env, rel1, re.mono p1 k1, po1⟩

/-! ### arguments, displays -/
variable {es : List Expr} {mas : MA}
def mNil : MA := fun _ h => .ok [] h
def mCons (ma : ME) (mas : MA) : MA := fun env h => (ma env h).bind fun x h1 => (mas env h1).bind fun xs h2 => .ok (x :: xs) h2
theorem fa_nil : FA X W ex [] mNil := by
  refine PA.imp pa_nil fun σ H Q q => ?_
  obtain ⟨ι, h, env, rel, re, po⟩ := q
  exact po_ok rel RVs.nil po
theorem fa_cons (ha : FE X W ex a ma) (hs : FA X W ex es mas) (hst : starEach (a :: es) X.env = (false, eval a X.env) :: starEach es X.env := by rfl) : FA X W ex (a :: es) (mCons ma mas) := by
  refine PA.imp (pa_cons ha hs hst) fun σ H Q q => ?_
  obtain ⟨ι, h, env, rel, re, po⟩ := q
  refine ⟨ι, h, env, rel, re, post_bind po fun x h1 ι1 H1 v eq1 p1 k1 rel1 rv1 po1 => ?_⟩
  refine ⟨ι1, h1, env, rel1, re.mono p1 k1, post_bind po1 fun xs h2 ι2 H2 vs _ p2 k2 rel2 rv2 po2 => ?_⟩
  exact po_ok rel2 (RVs.cons (RV.mono p2 k2 _ _ rv1) rv2) po2
def fTup (xs : List D) (h : M) : Res D := if xs.length ≤ sizeLine then .ok (.tup xs) h else .stuck
def fLst (xs : List D) (h : M) : Res D := if xs.length ≤ sizeLine then .ok (.loc h.length) (h ++ [.lst xs]) else .stuck
def mL (f : List D → M → Res D) (mas : MA) : ME := fun env h => (mas env h).bind f
theorem fe_tup {x1} (hs : FA X W ex es mas) : FE X W ex (.Tuple es x1 pos) (mL fTup mas) := by
  refine PE.imp (pe_tup hs) fun σ H Q q => ?_
  obtain ⟨ι, h, env, rel, re, po⟩ := q
  refine ⟨ι, h, env, rel, re, post_bind po fun xs h1 ι1 H1 vs _ p1 k1 rel1 rv1 po1 => ?_⟩
  have hl := RVs.length rv1
  unfold fTup at po1
  split at po1
  · rename_i hz
    exact ⟨by omega, fun p hp => po_tup rel1 rv1 po1 p hp⟩
  · exact po1.elim
theorem fe_lst (hs : FA X W ex es mas) : FE X W ex (.List es pos) (mL fLst mas) := by
  refine PE.imp (pe_lst hs) fun σ H Q q => ?_
  obtain ⟨ι, h, env, rel, re, po⟩ := q
  refine ⟨ι, h, env, rel, re, post_bind po fun xs h1 ι1 H1 vs _ p1 k1 rel1 rv1 po1 => ?_⟩
  have hl := RVs.length rv1
  unfold fLst at po1
  split at po1
  · rename_i hz
    exact ⟨by omega, fun p hp => po_lst rel1 rv1 po1 p hp⟩
  · exact po1.elim

/-! ### calls of built-ins by values -/
theorem rd_call {G : Wo} {r : List V → Hp → VK → Prop} {f : List D → M → Res D} (hf : AbL G r f) {σ : St} {H : Hp} {Q : VK} (q : rdE G ex W (mL f mas) σ H Q) : tCB r (rdA G ex W mas) σ H Q := by
  obtain ⟨ι, h, env, rel, re, po⟩ := q
  refine ⟨ι, h, env, rel, re, post_bind po fun xs h1 ι1 H1 vs _ p1 k1 rel1 rv1 po1 => ?_⟩
  exact hf _ ι1 H1 h1 xs vs Q rel1 rv1 po1
theorem fe_callB {id : String} {x : Str} {p : Pos} {r : List V → Hp → VK → Prop} {f : List D → M → Res D} (hc : CallR X (.builtin id) r) (hf : AbL (wo X) r f) (hm : X.mg x = none) (hv : bootBuiltins x = some (.builtin id)) (hs : FA X W ex (e :: es) mas)
    (hg : Gl X x := by rfl) (hn : x ≠ "__name__" := by decide) (hdb : (x == ("__debug__" : Str)) = false := by decide) (he : starEach (e :: es) X.env = (false, eval e X.env) :: starEach es X.env := by rfl) (hpl : (backTo pos (starEach es X.env)).any (·.1) = false := by rfl) :
    FE X W ex (.Call (.Name x p) (e :: es) [] pos) (mL f mas) := PE.imp (pe_callB hc hg hm hv hs hn hdb he hpl) fun _ _ _ q => rd_call hf q
theorem fe_callTy {T : String} {x : Str} {p : Pos} {r : List V → Hp → VK → Prop} {f : List D → M → Res D} (hc : CallR X (.type T) r) (hf : AbL (wo X) r f) (hm : X.mg x = none) (hv : bootBuiltins x = some (.type T)) (hs : FA X W ex (e :: es) mas)
    (hg : Gl X x := by rfl) (hn : x ≠ "__name__" := by decide) (hdb : (x == ("__debug__" : Str)) = false := by decide) (he : starEach (e :: es) X.env = (false, eval e X.env) :: starEach es X.env := by rfl) (hpl : (backTo pos (starEach es X.env)).any (·.1) = false := by rfl) :
    FE X W ex (.Call (.Name x p) (e :: es) [] pos) (mL f mas) := PE.imp (pe_callTy hc hg hm hv hs hn hdb he hpl) fun _ _ _ q => rd_call hf q
end
end LF
set_option Elab.async false
set_option linter.all false
set_option maxRecDepth 100000
set_option maxHeartbeats 4000000
/-! LF3: built-ins, subscripts, slices, in, dicts, methods. -/
namespace LF
open PySem PySem.Spec L2
open PyProof.Rows hiding St
section
variable {X : Cx} {W : WX} {ex : Ex} {e a b i o : Expr} {es : List Expr} {ma mb mc : ME} {mas : MA} {pos : Pos}

theorem CallR_or {f : Value} {r r' : List V → Hp → VK → Prop} (h : CallR X f r) (h' : CallR X f r') : CallR X f (fun xs H Q => r xs H Q ∨ r' xs H Q) := by
  intro pins s σ H xs us Q I rx q
  rcases q with q | q
  · exact h pins s σ H xs us Q I rx q
  · exact h' pins s σ H xs us Q I rx q
theorem RVs.eq1 {G : Wo} {ι : List Addr} {H : Hp} {d : D} {vs : List V} (h : RVs G ι H [d] vs) : ∃ v, vs = [v] ∧ RV G ι H d v := by
  simp only [RVs] at h
  obtain ⟨v, r, rfl, h1, rfl⟩ := h
  exact ⟨v, rfl, h1⟩
theorem RVs.eq2 {G : Wo} {ι : List Addr} {H : Hp} {d f : D} {vs : List V} (h : RVs G ι H [d, f] vs) : ∃ v u, vs = [v, u] ∧ RV G ι H d v ∧ RV G ι H f u := by
  simp only [RVs] at h
  obtain ⟨v, r, rfl, h1, u, r2, rfl, h2, rfl⟩ := h
  exact ⟨v, u, rfl, h1, h2⟩

/-! ### len -/
def lenD (h : M) : D → Option Nat
  | .str x => if x.length ≤ sizeLine then some x.length else none
  | .tup xs => some xs.length
  | .ct xs => some xs.length
  | .cl xs => some xs.length
  | .loc l => match h[l]? with
    | some (.lst xs) => some xs.length
    | some (.dK kvs) => some kvs.length
    | _ => none
  | _ => none
def fLen (xs : List D) (h : M) : Res D := match xs with
  | [x] => match lenD h x with | some n => .ok (.int n) h | none => .stuck
  | _ => .stuck
theorem fe_len {x : Str} {p : Pos} (hx : bootBuiltins x = some (.builtin "len")) (hm : X.mg x = none) (hs : FA X W ex (e :: es) mas) (hg : Gl X x := by rfl) (hn : x ≠ "__name__" := by decide) (hdb : (x == ("__debug__" : Str)) = false := by decide)
    (he : starEach (e :: es) X.env = (false, eval e X.env) :: starEach es X.env := by rfl) (hpl : (backTo pos (starEach es X.env)).any (·.1) = false := by rfl) : FE X W ex (.Call (.Name x p) (e :: es) [] pos) (mL fLen mas) := by
  refine fe_callB (CallR_or call_len call_lenD) (fun E ι H h xs vs Q rel rx po => ?_) hm hx hs hg hn hdb he hpl
  unfold fLen at po
  split at po
  case h_2 => exact po.elim
  rename_i xs d
  obtain ⟨v, rfl, r⟩ := rx.eq1
  split at po
  case h_2 => exact po.elim
  rename_i n e1
  have fin := po_ok (v := V.int n) rel (by simp [RV]) po
  cases d with
  | str z =>
    simp only [lenD] at e1
    split at e1
    · rename_i hz
      cases e1
      simp only [RV] at r; subst r
      exact .inl ⟨_, _, rfl, ⟨hz, rfl⟩, fin⟩
    · cases e1
  | tup ys =>
    simp only [lenD] at e1; cases e1
    obtain ⟨a, ws, rfl, s, r⟩ := tupOf_sq (xs := ys) r rfl
    exact .inl ⟨_, _, rfl, .inr ⟨ws, s, RVs.length r⟩, fin⟩
  | ct ys =>
    simp only [lenD] at e1; cases e1
    obtain ⟨a, ws, rfl, s, r⟩ := tupOf_sq (xs := ys) r rfl
    exact .inl ⟨_, _, rfl, .inr ⟨ws, s, RVs.length r⟩, fin⟩
  | cl ys =>
    simp only [lenD] at e1; cases e1
    obtain ⟨a, ws, rfl, s, r⟩ := lstOf_sq (xs := ys) rel r rfl
    exact .inl ⟨_, _, rfl, .inl ⟨ws, s, RVs.length r⟩, fin⟩
  | loc l =>
    simp only [lenD] at e1
    split at e1
    · rename_i ys e2
      cases e1
      obtain ⟨a, ws, rfl, _, q, r⟩ := at_lst rel r e2
      exact .inl ⟨_, _, rfl, .inl ⟨ws, SqL.of q, RVs.length r⟩, fin⟩
    · rename_i kvs e2
      cases e1
      obtain ⟨a, ws, rfl, _, q, r⟩ := at_dK rel r e2
      have hl : kvs.length = ws.length := by have := congrArg List.length r.1; simpa using this
      rw [hl] at fin
      exact .inr ⟨a, ws, rfl, q, fin⟩
    · cases e1
  | _ => simp [lenD] at e1

/-! ### int(x), min, max, abs of two -/
def fInt (xs : List D) (h : M) : Res D := match xs with
  | [.int i] => .ok (.int i) h
  | [.bl k] => .ok (.int (if k then 1 else 0)) h
  | _ => .stuck
theorem fe_intc {p : Pos} (hm : X.mg "int" = none) (hs : FA X W ex (e :: es) mas) (hg : Gl X "int" := by rfl) (he : starEach (e :: es) X.env = (false, eval e X.env) :: starEach es X.env := by rfl) (hpl : (backTo pos (starEach es X.env)).any (·.1) = false := by rfl) :
    FE X W ex (.Call (.Name "int" p) (e :: es) [] pos) (mL fInt mas) := by
  refine fe_callTy call_int1 (fun E ι H h xs vs Q rel rx po => ?_) hm (by decide +kernel) hs hg (by decide) (by decide) he hpl
  unfold fInt at po
  split at po
  · obtain ⟨v, rfl, r⟩ := rx.eq1
    simp only [RV] at r; subst r
    exact .inl ⟨_, rfl, po_ok rel (by simp [RV]) po⟩
  · obtain ⟨v, rfl, r⟩ := rx.eq1
    simp only [RV] at r; subst r
    exact .inr ⟨_, rfl, po_ok rel (by simp [RV]) po⟩
  · exact po.elim
def fMin (xs : List D) (h : M) : Res D := match xs with
  | [.int i, .int j] => .ok (.int (if j < i then j else i)) h
  | _ => .stuck
def fMax (xs : List D) (h : M) : Res D := match xs with
  | [.int i, .int j] => .ok (.int (if j > i then j else i)) h
  | _ => .stuck
theorem fe_min2 {p : Pos} (hm : X.mg "min" = none) (hs : FA X W ex (e :: es) mas) (hc : X.calm = true := by rfl) (hg : Gl X "min" := by rfl) (he : starEach (e :: es) X.env = (false, eval e X.env) :: starEach es X.env := by rfl) (hpl : (backTo pos (starEach es X.env)).any (·.1) = false := by rfl) :
    FE X W ex (.Call (.Name "min" p) (e :: es) [] pos) (mL fMin mas) := by
  refine fe_callB (call_min2 hc) (fun E ι H h xs vs Q rel rx po => ?_) hm (by decide +kernel) hs hg (by decide) (by decide) he hpl
  unfold fMin at po
  split at po
  · obtain ⟨v, u, rfl, r, r2⟩ := rx.eq2
    simp only [RV] at r r2; subst r; subst r2
    exact ⟨_, _, rfl, po_ok rel (by simp [RV]) po⟩
  · exact po.elim
theorem fe_max2 {p : Pos} (hm : X.mg "max" = none) (hs : FA X W ex (e :: es) mas) (hc : X.calm = true := by rfl) (hg : Gl X "max" := by rfl) (he : starEach (e :: es) X.env = (false, eval e X.env) :: starEach es X.env := by rfl) (hpl : (backTo pos (starEach es X.env)).any (·.1) = false := by rfl) :
    FE X W ex (.Call (.Name "max" p) (e :: es) [] pos) (mL fMax mas) := by
  refine fe_callB (call_max2 hc) (fun E ι H h xs vs Q rel rx po => ?_) hm (by decide +kernel) hs hg (by decide) (by decide) he hpl
  unfold fMax at po
  split at po
  · obtain ⟨v, u, rfl, r, r2⟩ := rx.eq2
    simp only [RV] at r r2; subst r; subst r2
    exact ⟨_, _, rfl, po_ok rel (by simp [RV]) po⟩
  · exact po.elim
/-- list(x), tuple(x) -/
def seqOf (h : M) (d : D) : Option (List D) := match tupOf d with | some xs => some xs | none => lstOf h d
theorem seqOf_sq {G : Wo} {ι : List Addr} {H : Hp} {h : M} {d : D} {v : V} {xs : List D} (rel : Rel G ι H h) (rv : RV G ι H d v) (e : seqOf h d = some xs) : ∃ a vs, v = .ref a ∧ (SqL G.K H a vs ∨ SqT G.K H a vs) ∧ RVs G ι H xs vs := by
  unfold seqOf at e
  split at e
  · rename_i ys e1
    cases e
    obtain ⟨a, vs, rfl, s, r⟩ := tupOf_sq rv e1
    exact ⟨a, vs, rfl, .inr s, r⟩
  · obtain ⟨a, vs, rfl, s, r⟩ := lstOf_sq rel rv e
    exact ⟨a, vs, rfl, .inl s, r⟩
def fList (xs : List D) (h : M) : Res D := match xs with
  | [x] => match seqOf h x with | some ys => .ok (.loc h.length) (h ++ [.lst ys]) | none => .stuck
  | _ => .stuck
theorem fe_list {p : Pos} (hm : X.mg "list" = none) (hs : FA X W ex (e :: es) mas) (hg : Gl X "list" := by rfl) (he : starEach (e :: es) X.env = (false, eval e X.env) :: starEach es X.env := by rfl) (hpl : (backTo pos (starEach es X.env)).any (·.1) = false := by rfl) :
    FE X W ex (.Call (.Name "list" p) (e :: es) [] pos) (mL fList mas) := by
  refine fe_callTy call_list_of (fun E ι H h xs vs Q rel rx po => ?_) hm (by decide +kernel) hs hg (by decide) (by decide) he hpl
  unfold fList at po
  split at po
  case h_2 => exact po.elim
  obtain ⟨v, rfl, r⟩ := rx.eq1
  split at po
  case h_2 => exact po.elim
  rename_i ys e1
  obtain ⟨a, ws, rfl, s, r⟩ := seqOf_sq rel r e1
  exact ⟨a, ws, rfl, s, fun p hp => po_lst rel r po p hp⟩
def fTuple (xs : List D) (h : M) : Res D := match xs with
  | [.tup ys] => .ok (.tup ys) h
  | [.ct ys] => .ok (.ct ys) h
  | [x] => match lstOf h x with | some ys => .ok (.tup ys) h | none => .stuck
  | _ => .stuck
theorem fe_tuple {p : Pos} (hm : X.mg "tuple" = none) (hs : FA X W ex (e :: es) mas) (hg : Gl X "tuple" := by rfl) (he : starEach (e :: es) X.env = (false, eval e X.env) :: starEach es X.env := by rfl) (hpl : (backTo pos (starEach es X.env)).any (·.1) = false := by rfl) :
    FE X W ex (.Call (.Name "tuple" p) (e :: es) [] pos) (mL fTuple mas) := by
  refine fe_callTy call_tuple_of (fun E ι H h xs vs Q rel rx po => ?_) hm (by decide +kernel) hs hg (by decide) (by decide) he hpl
  unfold fTuple at po
  split at po
  · obtain ⟨v, rfl, r⟩ := rx.eq1
    obtain ⟨a, ws, rfl, s, r'⟩ := tupOf_sq (xs := _) r rfl
    exact ⟨a, ws, rfl, .inr ⟨s, po_ok rel r po⟩⟩
  · obtain ⟨v, rfl, r⟩ := rx.eq1
    obtain ⟨a, ws, rfl, s, r'⟩ := tupOf_sq (xs := _) r rfl
    exact ⟨a, ws, rfl, .inr ⟨s, po_ok rel r po⟩⟩
  · obtain ⟨v, rfl, r⟩ := rx.eq1
    split at po
    case h_2 => exact po.elim
    rename_i ys e1
    obtain ⟨a, ws, rfl, s, r⟩ := lstOf_sq rel r e1
    exact ⟨a, ws, rfl, .inl ⟨s, fun p hp => po_tup rel r po p hp⟩⟩
  · exact po.elim

/-! ### isinstance -/
def tyD (h : M) : D → Option String
  | .non => some "NoneType"
  | .bl _ => some "bool"
  | .int _ => some "int"
  | .str _ => some "str"
  | .tup _ => some "tuple"
  | .ct _ => some "tuple"
  | .cl _ => some "list"
  | .loc l => match h[l]? with
    | some (.lst _) => some "list"
    | some (.dK _) => some "dict"
    | some (.dT _) => some "dict"
    | _ => none
  | _ => none
theorem tyD_ok {G : Wo} {ι : List Addr} {H : Hp} {h : M} {d : D} {v : V} {t : String} (rel : Rel G ι H h) (r : RV G ι H d v) (e : tyD h d = some t) : TyX G.K H v (.type t) := by
  cases d with
  | non => cases e; simp only [RV] at r; subst r; exact .base .non
  | bl _ => cases e; simp only [RV] at r; subst r; exact .base (.bl _)
  | int _ => cases e; simp only [RV] at r; subst r; exact .base (.int _)
  | str _ => cases e; simp only [RV] at r; subst r; exact .base (.str _)
  | tup xs =>
    cases e; simp only [RV] at r
    obtain ⟨a, vs, rfl, q, _⟩ := r
    exact .base (.tup q)
  | ct xs =>
    cases e; simp only [RV] at r
    obtain ⟨a, vs, rfl, ⟨o, its, n, h1, h2, _⟩, _⟩ := r
    exact .kTuple h1 h2
  | cl xs =>
    cases e; simp only [RV] at r
    obtain ⟨a, vs, rfl, ⟨o, q⟩ | ⟨o, its, n, h1, h2, _⟩, _⟩ := r
    · exact .base (.frz q)
    · exact .kList h1 h2
  | loc l =>
    simp only [tyD] at e
    split at e
    · rename_i e2; cases e
      obtain ⟨a, ws, rfl, _, q, r⟩ := at_lst rel r e2
      exact .base (.lst q)
    · rename_i e2; cases e
      obtain ⟨a, ws, rfl, _, q, r⟩ := at_dK rel r e2
      exact .base (.dK q)
    · rename_i e2; cases e
      obtain ⟨a, ws, rfl, _, q, r⟩ := at_dT rel r e2
      exact .base (.dT q)
    · cases e
  | _ => cases e
def kinds : List String := ["NoneType", "bool", "int", "str", "tuple", "list", "dict"]
def isTy (s t : String) : Bool := s == t || (s == "bool" && t == "int")
theorem kitB_all : ∀ s ∈ kinds, ∀ t ∈ kinds, t ≠ "NoneType" → kitB s t = some (isTy s t) := by decide +kernel
def fIsI (xs : List D) (h : M) : Res D := match xs with
  | [x, .ty t] => match tyD h x with
    | some s => if s ∈ kinds ∧ t ∈ kinds ∧ t ≠ "NoneType" then .ok (.bl (isTy s t)) h else .stuck
    | none => .stuck
  | _ => .stuck
theorem fe_isI {p : Pos} (hm : X.mg "isinstance" = none) (hs : FA X W ex (e :: es) mas) (hg : Gl X "isinstance" := by rfl) (he : starEach (e :: es) X.env = (false, eval e X.env) :: starEach es X.env := by rfl) (hpl : (backTo pos (starEach es X.env)).any (·.1) = false := by rfl) :
    FE X W ex (.Call (.Name "isinstance" p) (e :: es) [] pos) (mL fIsI mas) := by
  refine fe_callB call_isi (fun E ι H h xs vs Q rel rx po => ?_) hm (by decide +kernel) hs hg (by decide) (by decide) he hpl
  unfold fIsI at po
  split at po
  case h_2 => exact po.elim
  rename_i d t
  obtain ⟨v, u, rfl, r, r2⟩ := rx.eq2
  split at po
  case h_2 => exact po.elim
  rename_i s e1
  split at po
  case isFalse => exact po.elim
  rename_i hk
  simp only [RV] at r2; subst r2
  exact ⟨_, _, _, _, _, rfl, .ty t, tyD_ok rel r e1, kit_ty (kitB_all s hk.1 t hk.2.1 hk.2.2), po_ok rel (by simp [RV]) po⟩

/-! ### subscripts -/
theorem RVs.atI {G : Wo} {ι : List Addr} {H : Hp} {xs : List D} {vs : List V} {i : Int} {d : D} (r : RVs G ι H xs vs) (e : atI xs i = some d) : ∃ v, L2.atI vs i = some v ∧ RV G ι H d v := by
  unfold L2.atI at e ⊢
  rw [← RVs.length r]
  cases h : ixN xs.length i with
  | none => rw [h] at e; simp at e
  | some j => rw [h] at e; exact r.get e
def keyD : D → Option Key
  | .int i => some (.inl i)
  | .str x => some (.inr x)
  | _ => none
def keysD : D → Option (List Key)
  | .tup xs => xs.mapM keyD
  | _ => none
theorem keyD_ok {G : Wo} {ι : List Addr} {H : Hp} {d : D} {v : V} {k : Key} (r : RV G ι H d v) (e : keyD d = some k) : v = kV k := by
  cases d <;> simp only [keyD, Option.some.injEq, reduceCtorEq] at e <;> (subst e; simp only [RV] at r; exact r)
theorem keysD_ok {G : Wo} {ι : List Addr} {H : Hp} {d : D} {v : V} {k : List Key} (r : RV G ι H d v) (e : keysD d = some k) : ∃ b, v = .ref b ∧ H b = some (.tup (k.map kV)) := by
  cases d <;> simp only [keysD, reduceCtorEq] at e
  rename_i xs
  simp only [RV] at r
  obtain ⟨a, vs, rfl, q, r⟩ := r
  refine ⟨a, rfl, ?_⟩
  have : vs = k.map kV := by
    clear q
    induction xs generalizing vs k with
    | nil => simp at e; subst e; simp only [RVs] at r; subst r; rfl
    | cons x xs ih =>
      simp only [List.mapM_cons, bind, Option.bind_eq_some_iff, pure, Option.some.injEq] at e
      obtain ⟨k1, e1, ks, e2, rfl⟩ := e
      simp only [RVs] at r
      obtain ⟨v1, r1, rfl, h1, h2⟩ := r
      rw [keyD_ok h1 e1, ih e2 _ h2]; rfl
  rw [← this]; exact q
section
variable {κ : Type} [DecidableEq κ]
def valD (kvs : List (κ × D)) (k : κ) : Option D := (kvs.find? fun kv => decide (kv.1 = k)).map (·.2)
def putD (kvs : List (κ × D)) (k : κ) (d : D) : List (κ × D) := if (kvs.any fun kv => decide (kv.1 = k)) = true then kvs.map (fun kv => if kv.1 = k then (kv.1, d) else kv) else kvs ++ [(k, d)]
def dropD (kvs : List (κ × D)) (k : κ) : List (κ × D) := kvs.filter fun kv => decide (kv.1 ≠ k)
theorem RKs.nil_iff {G : Wo} {ι : List Addr} {H : Hp} {kws : List (κ × V)} (h : RKs G ι H ([] : List (κ × D)) kws) : kws = [] := by
  have := h.1
  simpa using this.symm
theorem RKs.cons_iff {G : Wo} {ι : List Addr} {H : Hp} {k : κ} {d : D} {kvs : List (κ × D)} {kws : List (κ × V)} (h : RKs G ι H ((k, d) :: kvs) kws) : ∃ v r, kws = (k, v) :: r ∧ RV G ι H d v ∧ RKs G ι H kvs r := by
  obtain ⟨h1, h2⟩ := h
  cases kws with
  | nil => simp at h1
  | cons p r =>
    obtain ⟨k', v⟩ := p
    simp only [List.map_cons, List.cons.injEq] at h1
    obtain ⟨rfl, h1⟩ := h1
    simp only [List.map_cons, RVs] at h2
    obtain ⟨v', r', e, h3, h4⟩ := h2
    simp only [List.cons.injEq] at e
    obtain ⟨rfl, rfl⟩ := e
    exact ⟨v, r, rfl, h3, h1, h4⟩
theorem RKs.cons {G : Wo} {ι : List Addr} {H : Hp} {k : κ} {d : D} {v : V} {kvs : List (κ × D)} {kws : List (κ × V)} (r : RV G ι H d v) (h : RKs G ι H kvs kws) : RKs G ι H ((k, d) :: kvs) ((k, v) :: kws) :=
  ⟨by simp [h.1], by simp only [List.map_cons]; exact RVs.cons r h.2⟩
theorem RKs.nil {G : Wo} {ι : List Addr} {H : Hp} : RKs G ι H ([] : List (κ × D)) [] := ⟨rfl, by simp [RVs]⟩
theorem RKs.len {G : Wo} {ι : List Addr} {H : Hp} {kvs : List (κ × D)} {kws : List (κ × V)} (h : RKs G ι H kvs kws) : kvs.length = kws.length := by
  have := congrArg List.length h.1; simpa using this
theorem RKs.val {G : Wo} {ι : List Addr} {H : Hp} : ∀ {kvs : List (κ × D)} {kws : List (κ × V)} {k : κ}, RKs G ι H kvs kws → (∀ d, valD kvs k = some d → ∃ v, valV kws k = some v ∧ RV G ι H d v) ∧ (valD kvs k = none → valV kws k = none)
  | [], kws, k, h => by rw [h.nil_iff]; exact ⟨fun d e => by simp [valD] at e, fun _ => rfl⟩
  | (k', d') :: kvs, kws, k, h => by
    obtain ⟨v, r, rfl, h1, h2⟩ := h.cons_iff
    have ih := RKs.val (k := k) h2
    by_cases hk : k' = k
    · refine ⟨fun d e => ⟨v, valV_pos hk, ?_⟩, fun e => ?_⟩
      · have : d' = d := by simpa [valD, List.find?_cons, hk] using e
        rw [← this]; exact h1
      · simp [valD, List.find?_cons, hk] at e
    · have e1 : valD ((k', d') :: kvs) k = valD kvs k := by simp [valD, List.find?_cons, hk]
      rw [e1, valV_neg hk]
      exact ih
theorem RKs.any {G : Wo} {ι : List Addr} {H : Hp} : ∀ {kvs : List (κ × D)} {kws : List (κ × V)} {k : κ}, RKs G ι H kvs kws → (kvs.any fun kv => decide (kv.1 = k)) = (kws.any fun kv => decide (kv.1 = k))
  | [], kws, k, h => by rw [h.nil_iff]; rfl
  | (k', d') :: kvs, kws, k, h => by
    obtain ⟨v, r, rfl, h1, h2⟩ := h.cons_iff
    simp only [List.any_cons, RKs.any h2]
theorem RKs.app {G : Wo} {ι : List Addr} {H : Hp} {a b : List (κ × D)} {c d : List (κ × V)} (h : RKs G ι H a c) (h2 : RKs G ι H b d) : RKs G ι H (a ++ b) (c ++ d) :=
  ⟨by simp [h.1, h2.1], by simp only [List.map_append]; exact h.2.append h2.2⟩
theorem RKs.put {G : Wo} {ι : List Addr} {H : Hp} {kvs : List (κ × D)} {kws : List (κ × V)} {k : κ} {d : D} {v : V} (h : RKs G ι H kvs kws) (r : RV G ι H d v) : RKs G ι H (putD kvs k d) (putK kws k v) := by
  have go : ∀ {kvs : List (κ × D)} {kws : List (κ × V)}, RKs G ι H kvs kws → RKs G ι H (kvs.map (fun kv => if kv.1 = k then (kv.1, d) else kv)) (kws.map (fun kv => if kv.1 = k then (kv.1, v) else kv)) := by
    intro kvs
    induction kvs with
    | nil => intro kws h; rw [h.nil_iff]; exact RKs.nil
    | cons p kvs ih =>
      intro kws h
      obtain ⟨k', d'⟩ := p
      obtain ⟨v', q, rfl, h1, h2⟩ := h.cons_iff
      simp only [List.map_cons]
      by_cases hk : k' = k
      · rw [if_pos hk, if_pos hk]; exact RKs.cons r (ih h2)
      · rw [if_neg hk, if_neg hk]; exact RKs.cons h1 (ih h2)
  unfold putD putK
  rw [RKs.any h]
  split
  · exact go h
  · exact h.app (RKs.cons r RKs.nil)
theorem RKs.drop {G : Wo} {ι : List Addr} {H : Hp} {k : κ} : ∀ {kvs : List (κ × D)} {kws : List (κ × V)}, RKs G ι H kvs kws → RKs G ι H (dropD kvs k) (dropK kws k)
  | [], kws, h => by rw [h.nil_iff]; exact RKs.nil
  | (k', d') :: kvs, kws, h => by
    obtain ⟨v, r, rfl, h1, h2⟩ := h.cons_iff
    have ih := RKs.drop (k := k) h2
    unfold dropD dropK at ih ⊢
    simp only [List.filter_cons]
    by_cases hk : k' = k
    · simp only [hk, ne_eq, not_true_eq_false, decide_false, Bool.false_eq_true, if_false]; exact ih
    · simp only [hk, ne_eq, not_false_eq_true, decide_true, if_true]; exact RKs.cons h1 ih
end
/-- d[k], by the object's kind -/
def dGet (h : M) (x y : D) : Option (Option D) := match x with
  | .loc l => match h[l]? with
    | some (.dK kvs) => (keyD y).map (valD kvs)
    | some (.dT kvs) => (keysD y).map (valD kvs)
    | _ => none
  | _ => none
theorem dGet_ok {G : Wo} {ι : List Addr} {H : Hp} {h : M} {x y : D} {v u : V} {r : Option D} (rel : Rel G ι H h) (rx : RV G ι H x v) (ry : RV G ι H y u) (e : dGet h x y = some r) :
    ∃ a ro, v = .ref a ∧ IsD H a ∧ DGet H a u ro ∧ (∀ d, r = some d → ∃ w, ro = some w ∧ RV G ι H d w) ∧ (r = none → ro = none) := by
  cases x with
  | loc l =>
    simp only [dGet] at e
    split at e
    · rename_i kvs e1
      simp only [Option.map_eq_some_iff] at e
      obtain ⟨k, ek, rfl⟩ := e
      obtain ⟨a, ws, rfl, _, q, rk⟩ := at_dK rel rx e1
      rw [keyD_ok ry ek]
      exact ⟨a, _, rfl, .inl ⟨ws, .inl q⟩, DGet.k q, (RKs.val rk).1, (RKs.val rk).2⟩
    · rename_i kvs e1
      simp only [Option.map_eq_some_iff] at e
      obtain ⟨k, ek, rfl⟩ := e
      obtain ⟨a, ws, rfl, _, q, rk⟩ := at_dT rel rx e1
      obtain ⟨b, rfl, hb⟩ := keysD_ok ry ek
      exact ⟨a, _, rfl, .inr ⟨ws, .inl q⟩, DGet.t q hb, (RKs.val rk).1, (RKs.val rk).2⟩
    · cases e
  | _ => simp [dGet] at e
def fIx (x y : D) (h : M) : Res D := match x, y with
  | .str z, .int i => if z.length ≤ sizeLine then match atI z.cps.toList i with | some c => .ok (.str ⟨#[c]⟩) h | none => .stuck else .stuck
  | x, y => match seqOf h x, y with
    | some xs, .int i => match atI xs i with | some d => .ok d h | none => .stuck
    | some _, _ => .stuck
    | none, y => match dGet h x y with
      | some (some d) => .ok d h
      | _ => .stuck
theorem PE.or {t t' : TE} (p : PE X e t) (p' : PE X e t') : PE X e (fun σ H Q => t σ H Q ∨ t' σ H Q) := ⟨fun pins s σ H Q I h => by
  rcases h with h | h
  · exact p.run pins s σ H Q I h
  · exact p'.run pins s σ H Q I h⟩
theorem fe_ix {k : Nat} (hr : Room k X.A) (ha : FE X W ex a ma) (hb : FE X W ex b mb) (hs : PlainIx b := by exact fun _ _ => rfl) (hn : NoSl b := by exact fun _ _ => rfl) : FE X W ex (.Subscript a b pos) (m2 fIx ma mb) := by
  refine PE.imp (PE.or (pe_ix ix_seq ha hb hs) (pe_dget (hu_of hr) ha hb hn)) fun σ H Q q => ?_
  obtain ⟨ι, h, env, rel, re, po⟩ := q
  -- which way
  have way : ∀ (P : Prop) (c : Bool), (c = true → P) → (c = false → P) → P := fun P c h1 h2 => by cases c; exact h2 rfl; exact h1 rfl
  unfold m2 at po
  cases ea : ma env h with
  | stuck => rw [ea] at po; exact po.elim
  | exc x ns vs h1 => 
    rw [ea] at po
    exact .inl ⟨ι, h, env, rel, re, by rw [ea]; exact po⟩
  | ok x h1 =>
    rw [ea] at po
    simp only [bind_ok] at po
    cases eb : mb env h1 with
    | stuck => rw [eb] at po; exact po.elim
    | exc x' ns vs h2 =>
      rw [eb] at po
      refine .inl ⟨ι, h, env, rel, re, ?_⟩
      rw [ea]
      intro ι1 H1 v p1 k1 rel1 rv1
      refine ⟨ι1, h1, env, rel1, re.mono p1 k1, ?_⟩
      rw [eb]
      exact Post.mono p1 k1 po
    | ok y h2 =>
      rw [eb] at po
      simp only [bind_ok] at po
      -- the two values, then the rule's own question
      have run : ∀ (R : R2), (∀ ι2 H2 v u, ι <+: ι2 → Keep H H2 → Rel (wo X) ι2 H2 h2 → RV (wo X) ι2 H2 x v → RV (wo X) ι2 H2 y u → R v u H2 Q) → tOp R (rdE (wo X) ex W ma) (rdE (wo X) ex W mb) σ H Q := fun R hR => by
        refine ⟨ι, h, env, rel, re, ?_⟩
        rw [ea]
        intro ι1 H1 v p1 k1 rel1 rv1
        refine ⟨ι1, h1, env, rel1, re.mono p1 k1, ?_⟩
        rw [eb]
        intro ι2 H2 u p2 k2 rel2 rv2
        exact hR ι2 H2 v u (p1.trans p2) (k1.trans k2) rel2 (RV.mono p2 k2 _ _ rv1) rv2
      unfold fIx at po
      split at po
      · rename_i z i
        split at po
        case isFalse => exact po.elim
        rename_i hz
        split at po
        case h_2 => exact po.elim
        rename_i c ec
        refine .inl (run _ fun ι2 H2 v u p k rel2 r1 r2 => ?_)
        simp only [RV] at r1 r2; subst r1; subst r2
        exact .inr (.inr ⟨z, i, c, rfl, rfl, hz, ec, po_ok rel2 (by simp [RV]) (Post.mono p k po)⟩)
      · split at po
        · rename_i xs i es hno
          split at po
          case h_2 => exact po.elim
          rename_i d ed
          refine .inl (run _ fun ι2 H2 v u p k rel2 r1 r2 => ?_)
          simp only [RV] at r2; subst r2
          obtain ⟨a, ws, rfl, s, r⟩ := seqOf_sq rel2 r1 es
          obtain ⟨w, ew, rw'⟩ := r.atI ed
          rcases s with s | s
          · exact .inl ⟨a, ws, i, w, rfl, rfl, s, ew, po_ok rel2 rw' (Post.mono p k po)⟩
          · exact .inr (.inl ⟨a, ws, i, w, rfl, rfl, s, ew, po_ok rel2 rw' (Post.mono p k po)⟩)
        · exact po.elim
        · split at po
          case h_2 => exact po.elim
          rename_i d ed
          refine .inr ?_
          have z := run (fun x y H2 Q => ∃ a v, x = .ref a ∧ DGet H2 a y (some v) ∧ Q v H2) fun ι2 H2 v u p k rel2 r1 r2 => by
            obtain ⟨a, ro, rfl, _, g, g1, _⟩ := dGet_ok rel2 r1 r2 ed
            obtain ⟨w, rfl, rw'⟩ := g1 d rfl
            exact ⟨a, w, rfl, g, po_ok rel2 rw' (Post.mono p k po)⟩
          exact z
end
end LF
set_option Elab.async false
set_option linter.all false
set_option maxRecDepth 100000
set_option maxHeartbeats 4000000
/-! LF4: slices, in, methods of built-in types. -/
namespace LF
open PySem PySem.Spec L2
open PyProof.Rows hiding St
section
variable {X : Cx} {W : WX} {ex : Ex} {e a b i o : Expr} {es : List Expr} {ma mb mc : ME} {mas : MA} {pos : Pos}

/-! ### slices -/
abbrev MO := En → M → Res (Option Int)
abbrev BO : List Addr → Hp → Option Int → Option Int → Prop := fun _ _ b c => c = b
def rdO (G : Wo) (ex : Ex) (W : WX) (m : MO) : TO := fun σ H Q => ∃ ι h env, Rel G ι H h ∧ REn G ex ι H env σ ∧ Post G BO (fun c d H' => W c d σ H') ι H (m env h) Q
def FO (X : Cx) (W : WX) (ex : Ex) (e : Option Expr) (m : MO) : Prop := PO X e (rdO (wo X) ex W m)
theorem PO.imp {oe : Option Expr} {t t' : TO} (p : PO X oe t) (h : ∀ σ H Q, t' σ H Q → t σ H Q) : PO X oe t' := ⟨fun pins s σ H Q I q => p.run pins s σ H Q I (h σ H Q q)⟩
def mNoPart : MO := fun _ h => .ok none h
def mPart (m : ME) : MO := fun env h => (m env h).bind fun d h => match d with | .int i => .ok (some i) h | _ => .stuck
theorem fo_none : FO X W ex none mNoPart := by
  refine PO.imp po_none fun σ H Q q => ?_
  obtain ⟨ι, h, env, rel, re, po⟩ := q
  exact po_ok (α := Option Int) (β := Option Int) rel rfl po
theorem fo_some (ha : FE X W ex a ma) : FO X W ex (some a) (mPart ma) := by
  refine PO.imp (po_some ha) fun σ H Q q => ?_
  obtain ⟨ι, h, env, rel, re, po⟩ := q
  refine ⟨ι, h, env, rel, re, post_bind po fun x h1 ι1 H1 v eq1 p1 k1 rel1 rv1 po1 => ?_⟩
  cases x <;> (try exact po1.elim)
  simp only [RV] at rv1
  exact ⟨_, rv1, po_ok (α := Option Int) (β := Option Int) rel1 rfl po1⟩
def cutD (xs : List D) (lo hi : Option Int) : List D := (xs.drop (HT.sIx xs.length 0 lo)).take (HT.sIx xs.length xs.length hi - HT.sIx xs.length 0 lo)
theorem RVs.cut {G : Wo} {ι : List Addr} {H : Hp} {xs : List D} {vs : List V} (r : RVs G ι H xs vs) (lo hi : Option Int) : RVs G ι H (cutD xs lo hi) (cutV vs lo hi) := by
  unfold cutD cutV
  rw [RVs.length r]
  exact (r.drop _).take _
def fSl (x : D) (lo hi : Option Int) (h : M) : Res D := match x with
  | .str z => if z.length ≤ sizeLine then .ok (.str (cutS z lo hi)) h else .stuck
  | .tup xs => .ok (.tup (cutD xs lo hi)) h
  | .ct xs => if HT.sIx xs.length 0 lo = 0 ∧ HT.sIx xs.length xs.length hi = xs.length then .ok (.ct xs) h else .ok (.tup (cutD xs lo hi)) h
  | x => match lstOf h x with
    | some xs => .ok (.loc h.length) (h ++ [.lst (cutD xs lo hi)])
    | none => .stuck
def mSl (ma : ME) (lo hi : MO) : ME := fun env h => (ma env h).bind fun x h1 => (lo env h1).bind fun l h2 => (hi env h2).bind fun u h3 => fSl x l u h3
theorem fe_slice {lo hi : Option Expr} {ml mh : MO} {p2 : Pos} (ha : FE X W ex a ma) (hl : FO X W ex lo ml) (hh : FO X W ex hi mh) : FE X W ex (.Subscript a (.Slice lo hi none p2) pos) (mSl ma ml mh) := by
  refine PE.imp (pe_slice (sl_list.or (sl_tupA.or sl_str)) ha hl hh) fun σ H Q q => ?_
  obtain ⟨ι, h, env, rel, re, po⟩ := q
  refine ⟨ι, h, env, rel, re, post_bind po fun x h1 ι1 H1 v eq1 p1 k1 rel1 rv1 po1 => ?_⟩
  refine ⟨ι1, h1, env, rel1, re.mono p1 k1, post_bind (α := Option Int) po1 fun l h2 ι2 H2 l' eq2 p2 k2 rel2 rv2 po2 => ?_⟩
  cases rv2
  have rv1 := RV.mono p2 k2 _ _ rv1
  refine ⟨ι2, h2, env, rel2, (re.mono p1 k1).mono p2 k2, post_bind (α := Option Int) po2 fun u h3 ι3 H3 u' eq3 p3 k3 rel3 rv3 po3 => ?_⟩
  cases rv3
  have rv1 := RV.mono p3 k3 _ _ rv1
  have viaL : ∀ xs, lstOf h3 x = some xs → Post (wo X) (fun ι H d v => RV (wo X) ι H d v) (fun c d H' => W c d σ H') ι3 H3 (.ok (.loc h3.length) (h3 ++ [.lst (cutD xs l u)])) Q → rSlL X.K v l u H3 Q := fun xs e1 po => by
    obtain ⟨a, ws, rfl, s, r⟩ := lstOf_sq rel3 rv1 e1
    exact ⟨a, ws, rfl, s, fun p hp => po_lst rel3 (r.cut l u) po p hp⟩
  cases x with
  | str z =>
    simp only [fSl] at po3
    split at po3
    · rename_i hz
      simp only [RV] at rv1; subst rv1
      exact .inr (.inr ⟨z, rfl, hz, po_ok rel3 (by simp [RV]) po3⟩)
    · exact po3.elim
  | tup xs =>
    simp only [fSl] at po3
    obtain ⟨a, ws, rfl, s, r⟩ := tupOf_sq (xs := xs) rv1 rfl
    refine .inr (.inl ⟨a, ws, rfl, s, fun hw => ?_, fun hw p hp => po_tup rel3 (r.cut l u) po3 p hp⟩)
    have e : cutD xs l u = xs := by
      unfold cutD
      rw [RVs.length r, hw.1, hw.2, List.drop_zero, Nat.sub_zero, ← RVs.length r]
      exact List.take_length
    rw [e] at po3
    exact po_ok rel3 rv1 po3
  | ct xs =>
    simp only [fSl] at po3
    obtain ⟨a, ws, rfl, s, r⟩ := tupOf_sq (xs := xs) rv1 rfl
    rw [RVs.length r] at po3
    refine .inr (.inl ⟨a, ws, rfl, s, fun hw => ?_, fun hw p hp => ?_⟩)
    · rw [if_pos hw] at po3
      exact po_ok rel3 rv1 po3
    · rw [if_neg hw] at po3
      exact po_tup rel3 (r.cut l u) po3 p hp
  | cl xs => simp only [fSl, lstOf_cl] at po3; exact .inl (viaL xs rfl po3)
  | loc k =>
    simp only [fSl] at po3
    split at po3
    · rename_i xs e1
      exact .inl (viaL xs e1 po3)
    · exact po3.elim
  | _ => simp [fSl, lstOf, Post] at po3

/-! ### in -/
def flatD : D → Bool
  | .non => true
  | .bl _ => true
  | .int _ => true
  | .str _ => true
  | _ => false
def eqF : D → D → Bool
  | .non, .non => true
  | .bl a, .bl b => a == b
  | .bl a, .int b => (if a then 1 else 0) == b
  | .int a, .bl b => a == (if b then 1 else 0)
  | .int a, .int b => a == b
  | .str a, .str b => a == b
  | _, _ => false
theorem flatD_ok {G : Wo} {ι : List Addr} {H : Hp} {d : D} {v : V} (r : RV G ι H d v) (h : flatD d = true) : flatV v = true := by
  cases d <;> simp only [flatD, reduceCtorEq] at h <;> (simp only [RV] at r; subst r; rfl)
theorem flatDs_ok {G : Wo} {ι : List Addr} {H : Hp} : ∀ {xs : List D} {vs : List V}, RVs G ι H xs vs → xs.all flatD = true → vs.all flatV = true
  | [], vs, r, _ => by simp only [RVs] at r; subst r; rfl
  | x :: xs, vs, r, h => by
    simp only [RVs] at r
    obtain ⟨v, q, rfl, r1, r2⟩ := r
    simp only [List.all_cons, Bool.and_eq_true] at h ⊢
    exact ⟨flatD_ok r1 h.1, flatDs_ok r2 h.2⟩
theorem eqF_ok {G : Wo} {ι : List Addr} {H : Hp} {d f : D} {v u : V} (r : RV G ι H d v) (r2 : RV G ι H f u) (h : flatD d = true) (h2 : flatD f = true) : eqV v u = eqF d f := by
  cases d <;> simp only [flatD, reduceCtorEq] at h <;> cases f <;> simp only [flatD, reduceCtorEq] at h2 <;> (simp only [RV] at r r2; subst r; subst r2; rfl)
theorem inF_ok {G : Wo} {ι : List Addr} {H : Hp} {d : D} {v : V} (r : RV G ι H d v) (h : flatD d = true) : ∀ {xs : List D} {vs : List V}, RVs G ι H xs vs → xs.all flatD = true → inV v vs = xs.any fun y => eqF y d
  | [], vs, q, _ => by simp only [RVs] at q; subst q; rfl
  | x :: xs, vs, q, hx => by
    simp only [RVs] at q
    obtain ⟨w, q, rfl, r1, r2⟩ := q
    simp only [List.all_cons, Bool.and_eq_true] at hx
    have ih := inF_ok r h r2 hx.2
    unfold inV at ih ⊢
    simp only [List.any_cons, ih, eqF_ok r1 r hx.1 h]
def inD (h : M) (x y : D) : Option Bool := match x, y with
  | .str a, .str b => some (!(Builtin.Str.occurrences b a 0 b.length 1).isEmpty)
  | x, y => match seqOf h y with
    | some xs => if flatD x = true ∧ xs.all flatD = true then some (xs.any fun z => eqF z x) else none
    | none => (dGet h y x).map (·.isSome)
def rInA (K : PySem.W.Frag) (neg : Bool) : R2 := fun x y H Q => rIn K neg x y H Q ∨ ∃ i j, x = .str i ∧ y = .str j ∧ Q (.bl (if neg then !(!(Builtin.Str.occurrences j i 0 j.length 1).isEmpty) else !(Builtin.Str.occurrences j i 0 j.length 1).isEmpty)) H
def rDIn (neg : Bool) : R2 := fun y x H Q => ∃ a ov, x = .ref a ∧ DGet H a y ov ∧ Q (.bl (if neg then !ov.isSome else ov.isSome)) H
def fInN (neg : Bool) (x y : D) (h : M) : Res D := match inD h x y with | some b => .ok (.bl (if neg then !b else b)) h | none => .stuck
theorem inD_at {G : Wo} (neg : Bool) (x y : D) (h : M) : At2 G (rDIn neg) (fInN neg) x y h ∨ At2 G (rInA G.K neg) (fInN neg) x y h := by
  cases e : inD h x y with
  | none => exact .inl fun E ι H v u Q rel rx ry po => by unfold fInN at po; rw [e] at po; exact po.elim
  | some b =>
    have fin : ∀ {E : WX'} {ι : List Addr} {H : Hp} {Q : VK}, Rel G ι H h → Post G (fun ι H d v => RV G ι H d v) E ι H (fInN neg x y h) Q → Q (.bl (if neg then !b else b)) H := fun {E ι H Q} rel po => by
      unfold fInN at po; rw [e] at po
      exact po_ok (v := V.bl (if neg then !b else b)) rel (by simp [RV]) po
    have e0 := e
    unfold inD at e
    split at e
    · cases e
      refine .inr fun E ι H v u Q rel rx ry po => ?_
      have q := fin rel po
      simp only [RV] at rx ry
      exact .inr ⟨_, _, rx, ry, q⟩
    · split at e
      · rename_i xs es
        split at e
        · rename_i hf
          cases e
          refine .inr fun E ι H v u Q rel rx ry po => ?_
          have q := fin rel po
          obtain ⟨a, ws, rfl, s, r⟩ := seqOf_sq rel ry es
          exact .inl ⟨a, ws, rfl, s, flatD_ok rx hf.1, flatDs_ok r hf.2, by rw [inF_ok rx hf.1 r hf.2]; exact q⟩
        · cases e
      · simp only [Option.map_eq_some_iff] at e
        obtain ⟨ro, er, rfl⟩ := e
        refine .inl fun E ι H v u Q rel rx ry po => ?_
        have q := fin rel po
        obtain ⟨a, rv, rfl, _, g, g1, g2⟩ := dGet_ok rel ry rx er
        have : rv.isSome = ro.isSome := by
          cases ro with
          | none => rw [g2 rfl]; rfl
          | some d => obtain ⟨w, rfl, _⟩ := g1 d rfl; rfl
        rw [← this] at q
        exact ⟨a, rv, rfl, g, q⟩
def fIn := fInN false
def fNotIn := fInN true
theorem fc_in {k : Nat} (hr : Room k X.A) (ha : FE X W ex a ma) (hb : FE X W ex b mb) : FC X W ex .In a b (m2 fIn ma mb) := by
  have P1 : PC X .In a b (tOp (rDIn false) (rdE (wo X) ex W ma) (rdE (wo X) ex W mb)) := PC.imp (pc_din (hu_of hr) ha hb) fun σ H Q q => q
  have P2 : PC X .In a b (tOp (rInA X.K false) (rdE (wo X) ex W ma) (rdE (wo X) ex W mb)) := pc_of (op_in_seq.or op_in_str) ha hb
  exact PC.imp (PC.or P1 P2) fun σ H Q q => rd_op_or (inD_at false) q
theorem fc_notIn {k : Nat} (hr : Room k X.A) (ha : FE X W ex a ma) (hb : FE X W ex b mb) : FC X W ex .NotIn a b (m2 fNotIn ma mb) := by
  have P1 : PC X .NotIn a b (tOp (rDIn true) (rdE (wo X) ex W ma) (rdE (wo X) ex W mb)) := PC.imp (pc_dnotin (hu_of hr) ha hb) fun σ H Q q => q
  have P2 : PC X .NotIn a b (tOp (rInA X.K true) (rdE (wo X) ex W ma) (rdE (wo X) ex W mb)) := pc_of (op_notIn_seq.or op_notIn_str) ha hb
  exact PC.imp (PC.or P1 P2) fun σ H Q q => rd_op_or (inD_at true) q

/-! ### methods of built-in types -/
/-- what is asked of the receiver ahead of the arguments -/
def isTyp (h : M) (T : String) : D → Bool
  | .str _ => T == "str"
  | .cl _ => T == "list"
  | .loc l => match h[l]? with
    | some (.lst _) => T == "list"
    | some (.dK _) => T == "dict"
    | some (.dT _) => T == "dict"
    | _ => false
  | _ => false
theorem isTyp_ok {G : Wo} {ι : List Addr} {H : Hp} {h : M} {T : String} {d : D} {v : V} (rel : Rel G ι H h) (r : RV G ι H d v) (e : isTyp h T d = true) : tyV G.K T v H := by
  cases d with
  | str x => simp only [isTyp, beq_iff_eq] at e; subst e; simp only [RV] at r; subst r; exact rfl
  | cl xs =>
    simp only [isTyp, beq_iff_eq] at e; subst e
    obtain ⟨a, ws, rfl, s, _⟩ := lstOf_sq (xs := xs) rel r rfl
    exact .inl ⟨rfl, ws, s⟩
  | loc l =>
    simp only [isTyp] at e
    split at e
    · rename_i e1
      simp only [beq_iff_eq] at e; subst e
      obtain ⟨a, ws, rfl, _, q, _⟩ := at_lst rel r e1
      exact .inl ⟨rfl, ws, SqL.of q⟩
    · rename_i e1
      simp only [beq_iff_eq] at e; subst e
      obtain ⟨a, ws, rfl, _, q, _⟩ := at_dK rel r e1
      exact .inr (.inr (.inl ⟨rfl, .inl ⟨ws, q⟩⟩))
    · rename_i e1
      simp only [beq_iff_eq] at e; subst e
      obtain ⟨a, ws, rfl, _, q, _⟩ := at_dT rel r e1
      exact .inr (.inr (.inl ⟨rfl, .inr ⟨ws, q⟩⟩))
    · cases e
  | _ => simp [isTyp] at e
def AbM (G : Wo) (r : V → List V → Hp → VK → Prop) (f : D → List D → M → Res D) : Prop := ∀ (E : WX') ι H h x xs v vs (Q : VK), Rel G ι H h → RV G ι H x v → RVs G ι H xs vs → Post G (fun ι H d v => RV G ι H d v) E ι H (f x xs h) Q → r v vs H Q
def mBM (T : String) (f : D → List D → M → Res D) (mo : ME) (mas : MA) : ME := fun env h => (mo env h).bind fun x h1 => if isTyp h1 T x = true then (mas env h1).bind fun xs h2 => f x xs h2 else .stuck
variable {mo : ME} {name : Str} {apos cpos : Pos} {T id : String} {r : V → List V → Hp → VK → Prop} {f : D → List D → M → Res D}
theorem fe_bm (pa : PlainAttrs T) (slot : Slot T name id) (hty : typeOf (.builtin id) = pure (.type "method_descriptor")) (hm : MtR X id r) (hf : AbM (wo X) r f) (ho : FE X W ex o mo) (hs : FA X W ex (e :: es) mas)
    (hbase : attributeBase o name X.env (eval o X.env) = eval o X.env := by rfl)
    (hfew : ((backTo cpos (starEach (e :: es) X.env)).all (fun x => !x.1) && (backToKw cpos (keywordEach [] X.env)).all (fun x => x.1.isSome)
      && decide ((e :: es).length + ([] : List Keyword).length + (if ([] : List Keyword).isEmpty then 0 else 1) < 30)) = true := by rfl)
    (hline : (apos.endLine == cpos.line) = true := by rfl) (hst : starEach (e :: es) X.env = (false, eval e X.env) :: starEach es X.env := by rfl) (hplain : (backTo cpos (starEach es X.env)).any (·.1) = false := by rfl) :
    FE X W ex (.Call (.Attribute o name apos) (e :: es) [] cpos) (mBM T f mo mas) := by
  refine PE.imp (pe_bm pa slot hty hm ho hs hbase hfew hline hst hplain) fun σ H Q q => ?_
  obtain ⟨ι, h, env, rel, re, po⟩ := q
  refine ⟨ι, h, env, rel, re, post_bind po fun x h1 ι1 H1 v eq1 p1 k1 rel1 rv1 po1 => ?_⟩
  split at po1
  case isFalse => exact po1.elim
  rename_i ht
  refine ⟨isTyp_ok rel1 rv1 ht, ι1, h1, env, rel1, re.mono p1 k1, post_bind po1 fun xs h2 ι2 H2 vs eq2 p2 k2 rel2 rv2 po2 => ?_⟩
  exact hf _ ι2 H2 h2 x xs v vs Q rel2 (RV.mono p2 k2 _ _ rv1) rv2 po2
theorem fe_bm0 (pa : PlainAttrs T) (slot : Slot T name id) (hty : typeOf (.builtin id) = pure (.type "method_descriptor")) (hm : MtR X id r) (hf : AbM (wo X) r f) (ho : FE X W ex o mo)
    (hbase : attributeBase o name X.env (eval o X.env) = eval o X.env := by rfl) (hline : (apos.endLine == cpos.line) = true := by rfl) : FE X W ex (.Call (.Attribute o name apos) [] [] cpos) (mBM T f mo mNil) := by
  refine PE.imp (pe_bm0 pa slot hty hm ho hbase hline) fun σ H Q q => ?_
  obtain ⟨ι, h, env, rel, re, po⟩ := q
  refine ⟨ι, h, env, rel, re, post_bind po fun x h1 ι1 H1 v eq1 p1 k1 rel1 rv1 po1 => ?_⟩
  split at po1
  case isFalse => exact po1.elim
  rename_i ht
  exact ⟨isTyp_ok rel1 rv1 ht, hf _ ι1 H1 h1 x [] v [] Q rel1 rv1 RVs.nil po1⟩
/-- a list changed -/
theorem po_wr {G : Wo} {E : WX'} {ι : List Addr} {H : Hp} {h : M} {l : Nat} {a : Addr} {xs : List D} {vs : List V} {d : D} {v : V} {Q : VK} (rel : Rel G ι H h) (ea : ι[l]? = some a) (r : RVs G ι H xs vs)
    (rd : ∀ H', Keep H H' → RV G ι H' d v) (po : Post G (fun ι H d v => RV G ι H d v) E ι H (.ok d (h.set l (.lst xs))) Q) : Q v (upd H a (.lst vs)) := by
  have k : Keep H (upd H a (.lst vs)) := by
    obtain ⟨u0, e0, nf, mu⟩ := rel.tracked ea
    exact fun b o' eb f => by
      have : b ≠ a := fun z => by rw [z, e0] at eb; cases eb; exact nf f
      rw [upd_ne this]; exact eb
  have w := rel.write (o := .lst xs) (u := .lst vs) ea ⟨vs, upd_same, RVs.mono (List.prefix_refl _) k _ _ r⟩
  exact po ι _ v (List.prefix_refl _) k w.1 (rd _ k)
def fAppend (x : D) (xs : List D) (h : M) : Res D := match x, xs with
  | .loc l, [y] => match h[l]? with
    | some (.lst ys) => if ys.length < sizeLine then .ok .non (h.set l (.lst (ys ++ [y]))) else .stuck
    | _ => .stuck
  | _, _ => .stuck
theorem fe_append (ho : FE X W ex o mo) (hs : FA X W ex (e :: es) mas) (hbase : attributeBase o "append" X.env (eval o X.env) = eval o X.env := by rfl)
    (hfew : ((backTo cpos (starEach (e :: es) X.env)).all (fun x => !x.1) && (backToKw cpos (keywordEach [] X.env)).all (fun x => x.1.isSome)
      && decide ((e :: es).length + ([] : List Keyword).length + (if ([] : List Keyword).isEmpty then 0 else 1) < 30)) = true := by rfl)
    (hline : (apos.endLine == cpos.line) = true := by rfl) (hst : starEach (e :: es) X.env = (false, eval e X.env) :: starEach es X.env := by rfl) (hplain : (backTo cpos (starEach es X.env)).any (·.1) = false := by rfl) :
    FE X W ex (.Call (.Attribute o "append" apos) (e :: es) [] cpos) (mBM "list" fAppend mo mas) := by
  refine fe_bm PySem.F.plainAttrs_list PySem.F.slot_list_append PySem.F.type_list_append mt_append (fun E ι H h x xs v vs Q rel rx rxs po => ?_) ho hs hbase hfew hline hst hplain
  unfold fAppend at po
  split at po
  case h_2 => exact po.elim
  split at po
  case h_2 => exact po.elim
  rename_i ys e1
  split at po
  case isFalse => exact po.elim
  rename_i hz
  obtain ⟨w, rfl, rw'⟩ := rxs.eq1
  obtain ⟨a, ws, rfl, ea, q, r⟩ := at_lst rel rx e1
  have hl := RVs.length r
  exact ⟨a, ws, w, rfl, rfl, q, by omega, po_wr rel ea (r.append (RVs.one rw')) (fun _ _ => by simp [RV]) po⟩
end
/-- extend by a tuple -/
theorem extend_by_tup (l : Addr) (xs : Array Value) (k : Nat) (b : Addr) (ys : Array Value) (n2 : Nat) (dd : Option Addr) (sl : Array (Option Value)) (hs0 : ¬(!xs.isEmpty && Builtin.List.listTooLong (xs.size + ys.size)) = true) (hs1 : xs.size ≤ sizeLine) (hs2 : xs.size + ys.size ≤ sizeLine + 1) :
    Meets (Builtin.«list.extend» ⟨[.ref l, .ref b], []⟩) (fun _ R s => s.heap.get? l = some { cls := .type "list", dict := none, data := .seq xs k, slots := #[] } ∧ s.heap.get? b = some ⟨.type "tuple", dd, .seq ys n2, sl⟩ ∧
      R (.ok (.ret Value.none)) { s with heap := s.heap.update l (Obj.mapSeq fun x => x ++ ys), toks := s.toks }) :=
  .of_wp fun prog w A R s h => by
    obtain ⟨hp, g, d, tk, os⟩ := s
    obtain ⟨hl, hb, h⟩ := h
    have f1 := AutoSeq1.idx_int
    have f2 := AutoSeq1.sub_tuple_tuple; have f3 := AutoSeq1.sub_list_list; have f4 := AutoSeq1.sub_tuple_list; have f5 := AutoSeq1.sub_list_tuple
    have hz' : (xs ++ ys).size ≤ sizeLine + 1 := by rw [Array.size_append]; exact hs2
    wp_walk using (wpAny_updateSeq hl rfl (hz := hs1) (_hz' := hz')), AutoSeq1.wpAny_loadPart' hl, AutoSeq1.wpAny_loadPart' hb
    exact ⟨_, rfl, h⟩
section
variable {X : Cx} {W : WX} {ex : Ex} {e a b i o : Expr} {es : List Expr} {ma mb mc : ME} {mas : MA} {pos : Pos}
variable {mo : ME} {name : Str} {apos cpos : Pos} {T id : String} {r : V → List V → Hp → VK → Prop} {f : D → List D → M → Res D}
theorem mt_extendT : MtM X "list.extend" (fun x vs H Q => ∃ l b xs zs, x = .ref l ∧ vs = [.ref b] ∧ H l = some (.lst xs) ∧ SqT X.K H b zs ∧ xs.length + zs.length ≤ sizeLine ∧ Q .non (upd H l (.lst (xs ++ zs)))) := by
  intro pins s σ H x vs v us Q I rx rv h
  obtain ⟨l, b, xs, zs, rfl, rfl, hH, hB, hz, q⟩ := h
  cases rx
  obtain ⟨u, rfl, ru⟩ := rv.one
  cases ru
  obtain ⟨z, its, n, r, hl, e⟩ := I.lstM hH
  obtain ⟨its2, r2, ⟨ob, e2, c2, n2, d2⟩, hz2⟩ := I.tuple hB
  have hl2 := r2.length
  obtain ⟨oc, od, dt, sl⟩ := ob
  simp only at c2 d2
  subst c2 d2
  have hsz : its.toArray.size + its2.toArray.size ≤ sizeLine := by rw [List.size_toArray, List.size_toArray]; omega
  have hlong : ¬ (!its.toArray.isEmpty && Builtin.List.listTooLong (its.toArray.size + its2.toArray.size)) = true := by
    rw [notLongL hsz, Bool.and_false]
    exact Bool.false_ne_true
  refine call_meets F.slot_list_extend ⟨_, e, rfl⟩ F.entry_list_extend (F.args_list_extend_2 _ _)
    (extend_by_tup l its.toArray n b its2.toArray n2 _ _ hlong (by rw [List.size_toArray]; omega) (by omega)) ⟨e, e2, ?_⟩
  refine ⟨.non, _, I.lset (its' := its ++ its2) hH e (by simp) (r.append r2) ?_, rfl, q⟩
  rw [List.length_append]
  exact hz
theorem MtR_or {r r' : V → List V → Hp → VK → Prop} (h : MtR X id r) (h' : MtR X id r') : MtR X id (fun x xs H Q => r x xs H Q ∨ r' x xs H Q) := by
  intro pins s σ H x xs v us Q I rx rv q
  rcases q with q | q
  · exact h pins s σ H x xs v us Q I rx rv q
  · exact h' pins s σ H x xs v us Q I rx rv q
def fExtend (x : D) (xs : List D) (h : M) : Res D := match x, xs with
  | .loc l, [y] => match h[l]? with
    | some (.lst ys) => match tupOf y with
      | some zs => if ys.length + zs.length ≤ sizeLine then .ok .non (h.set l (.lst (ys ++ zs))) else .stuck
      | none => match y with
        | .loc k => match h[k]? with
          | some (.lst zs) => if ys.length + zs.length ≤ sizeLine then .ok .non (h.set l (.lst (ys ++ zs))) else .stuck
          | _ => .stuck
        | _ => .stuck
    | _ => .stuck
  | _, _ => .stuck
theorem fe_extend (ho : FE X W ex o mo) (hs : FA X W ex (e :: es) mas) (hbase : attributeBase o "extend" X.env (eval o X.env) = eval o X.env := by rfl)
    (hfew : ((backTo cpos (starEach (e :: es) X.env)).all (fun x => !x.1) && (backToKw cpos (keywordEach [] X.env)).all (fun x => x.1.isSome)
      && decide ((e :: es).length + ([] : List Keyword).length + (if ([] : List Keyword).isEmpty then 0 else 1) < 30)) = true := by rfl)
    (hline : (apos.endLine == cpos.line) = true := by rfl) (hst : starEach (e :: es) X.env = (false, eval e X.env) :: starEach es X.env := by rfl) (hplain : (backTo cpos (starEach es X.env)).any (·.1) = false := by rfl) :
    FE X W ex (.Call (.Attribute o "extend" apos) (e :: es) [] cpos) (mBM "list" fExtend mo mas) := by
  refine fe_bm PySem.F.plainAttrs_list PySem.F.slot_list_extend PySem.F.type_list_extend (MtR_or mt_extend mt_extendT) (fun E ι H h x xs v vs Q rel rx rxs po => ?_) ho hs hbase hfew hline hst hplain
  unfold fExtend at po
  split at po
  case h_2 => exact po.elim
  split at po
  case h_2 => exact po.elim
  rename_i ys e1
  obtain ⟨w, rfl, rw'⟩ := rxs.eq1
  obtain ⟨a, ws, rfl, ea, q, r⟩ := at_lst rel rx e1
  have hl := RVs.length r
  split at po
  · rename_i zs ez
    split at po
    case isFalse => exact po.elim
    rename_i hz
    obtain ⟨b, us, rfl, s, r2⟩ := tupOf_sq (G := wo X) rw' ez
    have hl2 := RVs.length r2
    exact .inr ⟨a, b, ws, us, rfl, rfl, q, s, by omega, po_wr rel ea (r.append r2) (fun _ _ => by simp [RV]) po⟩
  · split at po
    · split at po
      · rename_i zs ez
        split at po
        case isFalse => exact po.elim
        rename_i hz
        obtain ⟨b, us, rfl, _, s, r2⟩ := at_lst rel rw' ez
        have hl2 := RVs.length r2
        exact .inl ⟨a, b, ws, us, rfl, rfl, q, s, by omega, po_wr rel ea (r.append r2) (fun _ _ => by simp [RV]) po⟩
      · exact po.elim
    · exact po.elim
end
end LF
set_option Elab.async false
set_option linter.all false
set_option maxRecDepth 100000
set_option maxHeartbeats 4000000
/-! LF5: defs, statements, loops. -/
namespace LF
open PySem PySem.Spec L2
open PyProof.Rows hiding St

/-! ### defs -/
def spF (G : Wo) (n : Nat) (m : List D → M → Res D) : Sp := fun vs H Q E => vs.length = n ∧ ∃ ι h ds, Rel G ι H h ∧ RVs G ι H ds vs ∧ Post G (fun ι H d v => RV G ι H d v) E ι H (m ds h) Q
structure Def (P : Program) (w : World) (K : PySem.W.Frag) (mg : Str → Option Value) (base : Heap) (x : Str) (k n : Nat) (m : List D → M → Res D) : Prop where
  ex : ∃ f fd ps, ps.length = n ∧ mg x = some (.ref f) ∧ PySem.W.keepIn K (.ref f) = true ∧ Binds K fd ps [] ∧ FnOk P w K mg base (L2.CX P w) k f fd ps (spF ⟨K, mg⟩ n m)
theorem Def.mono {P : Program} {w : World} {K : PySem.W.Frag} {mg : Str → Option Value} {base : Heap} {x : Str} {k k' n : Nat} {m : List D → M → Res D} (F : Def P w K mg base x k n m) (h : k ≤ k') : Def P w K mg base x k' n m := by
  obtain ⟨f, fd, ps, h1, h2, h3, h4, h5⟩ := F.ex
  exact ⟨f, fd, ps, h1, h2, h3, h4, h5.mono h⟩
def mFix (n : Nat) (m : List D → M → Res D) : List D → M → Res D := fun ds h => if ds.length = n then m ds h else .stuck
def mFn (N n : Nat) (mb : MS) : List D → M → Res D := fun ds h =>
  match mb (ds.map .va ++ List.replicate (N - n) .no) h with
  | .nx _ h => .ok .non h
  | .rt d h => .ok d h
  | .exc x ns xs _ h => .exc x ns xs h
  | _ => .stuck
theorem REn.start {G : Wo} {ι : List Addr} {H : Hp} {N : List Str} {ds : List D} {vs : List V} (r : RVs G ι H ds vs) : REn G none ι H (ds.map .va ++ List.replicate (N.length - vs.length) .no) (start N vs) := by
  have hl := RVs.length r
  refine ⟨by simp [L2.start, hl], fun i d e => ?_, fun i e => ?_, fun c e => nomatch e⟩
  · by_cases hi : i < ds.length
    · rw [List.getElem?_append_left (by simpa using hi), List.getElem?_map] at e
      simp only [Option.map_eq_some_iff] at e
      obtain ⟨d', e1, e2⟩ := e
      cases e2
      obtain ⟨v, ev, rv⟩ := r.get e1
      refine ⟨v, ?_, rv⟩
      unfold L2.start
      rw [List.getElem?_append_left (by simp; omega), List.getElem?_map, ev]; rfl
    · rw [List.getElem?_append_right (by simpa using Nat.le_of_not_lt hi), List.getElem?_replicate] at e
      split at e <;> cases e
  · by_cases hi : i < ds.length
    · rw [List.getElem?_append_left (by simpa using hi), List.getElem?_map] at e
      simp only [Option.map_eq_some_iff] at e
      obtain ⟨d', e1, e2⟩ := e
      cases e2
    · rw [List.getElem?_append_right (by simpa using Nat.le_of_not_lt hi), List.getElem?_replicate] at e
      split at e <;> cases e
theorem body_end {G : Wo} {N ps : List Str} {mb : MS} {vs : List V} {H : Hp} {Q : VK} {E : XK} (hsp : spF G ps.length (mFn N.length ps.length mb) vs H Q E) :
    rdS G none (fun c d _ H => E c d H) mb { nx := fun _ H' => Q .non H', rt := Q } (start N vs) H := by
  obtain ⟨hl, ι, h, ds, rel, r, po⟩ := hsp
  refine ⟨ι, h, _, rel, REn.start r, ?_⟩
  unfold mFn at po
  rw [hl]
  generalize mb (ds.map .va ++ List.replicate (N.length - ps.length) .no) h = z at po ⊢
  cases z with
  | nx env h' => exact fun ι' H' σ' p k rel' _ => po ι' H' .non p k rel' (by simp [RV])
  | rt d h' => exact po
  | exc x ns xs env h' => exact fun ι' H' σ' C d p k rel' _ g xf => po ι' H' C d p k rel' g xf
  | bk _ _ => exact po.elim
  | ct _ _ => exact po.elim
  | stuck => exact po.elim
theorem def_of {P : Program} {w : World} {K : PySem.W.Frag} {mg : Str → Option Value} {base : Heap} {x qual : Str} {st : Stmt} {f : Addr} {fd : FuncData} {N ps : List Str} {k : Nat} {mb : MS} (F : Fun K x qual st f fd) (S : FnScope N ps (defScope st)) (gx : mg x = some (.ref f)) (hb : Binds K fd ps [])
    (body : ∀ (cdv : Value) (A : Around) (outer : List Env) (s : Shared) (H : Hp) (E : XK), Room k (A.deeper (envOfC qual (defScope st) s.heap.objs.size f cdv)) →
      FSs (cxOf (L2.CX P w) P w K mg base N qual (defScope st) f cdv A outer s H E) (fun c d _ H => E c d H) none (defBody st) mb) : Def P w K mg base x (k + 1) ps.length (mFn N.length ps.length mb) :=
  ⟨f, fd, ps, rfl, gx, F.kp, hb, F.okX S (fun vs H Q E h => h.1) fun cdv A outer s H vs Q E hr hsp => ⟨_, body cdv A outer s H E hr, body_end hsp⟩⟩

section
variable {X : Cx} {W : WX} {ex : Ex} {e a b i o : Expr} {es : List Expr} {ma mb mc me : ME} {mas : MA} {pos pos' p : Pos} {x : Str} {k n : Nat} {m : List D → M → Res D}
theorem fe_call (F : Def X.prog X.w X.K X.mg X.base x k n m) (tk : Takes X W) (hr : Room k X.A) (hs : FA X W ex (e :: es) mas) (hg : Gl X x := by rfl) (hdb : (x == ("__debug__" : Str)) = false := by decide)
    (he : starEach (e :: es) X.env = (false, eval e X.env) :: starEach es X.env := by rfl) (hpl : (backTo pos (starEach es X.env)).any (·.1) = false := by rfl) : FE X W ex (.Call (.Name x p) (e :: es) [] pos) (mL (mFix n m) mas) := by
  obtain ⟨f, fd, ps, h1, h2, h3, h4, h5⟩ := F.ex
  refine PE.imp (pe_callS h5 hr hg h2 h3 h4 (passAt tk) hs hdb he hpl) fun σ H Q q => ?_
  obtain ⟨ι, h, env, rel, re, po⟩ := q
  refine ⟨ι, h, env, rel, re, post_bind po fun xs h1 ι1 H1 vs eq1 p1 k1 rel1 rv1 po1 => ?_⟩
  unfold mFix at po1
  split at po1
  case isFalse => exact po1.elim
  rename_i hl
  exact ⟨by rw [← RVs.length rv1]; exact hl, ι1, h1, xs, rel1, rv1, po1⟩
theorem fe_call0 (F : Def X.prog X.w X.K X.mg X.base x k n m) (tk : Takes X W) (hr : Room k X.A) (hn : n = 0) (hg : Gl X x := by rfl) (hdb : (x == ("__debug__" : Str)) = false := by decide) : FE X W ex (.Call (.Name x p) [] [] pos) (mL m mNil) := by
  obtain ⟨f, fd, ps, h1, h2, h3, h4, h5⟩ := F.ex
  have P0 : PE X (.Call (.Name x p) [] [] pos) (fun σ H Q => spF ⟨X.K, X.mg⟩ n m [] H Q (WE W σ)) := by
    refine ⟨fun pins s σ H Q I h => ?_⟩
    refine wpAny_Call_Name_kw (ld_glob I hg h2 ?_ hdb)
    exact PySem.W.callWith_K0 I.kIn h3 (run_fnS (E := WE W) (us := []) h5 hr h4 (passAt tk σ) I .nil h)
  refine PE.imp P0 fun σ H Q q => ?_
  obtain ⟨ι, h, env, rel, re, po⟩ := q
  exact ⟨hn.symm, ι, h, [], rel, RVs.nil, po⟩

/-! ### small statements -/
def SR.of {α : Type} (r : Res α) (env : En) (k : α → M → SR) : SR :=
  match r with
  | .ok a h => k a h
  | .exc x ns vs h => .exc x ns vs env h
  | .stuck => .stuck
@[simp] theorem of_ok {α : Type} {a : α} {h : M} {env : En} {k : α → M → SR} : SR.of (.ok a h) env k = k a h := (rfl)
@[simp] theorem of_exc {α : Type} {x ns vs} {h : M} {env : En} {k : α → M → SR} : SR.of (.exc x ns vs h) env k = .exc x ns vs env h := (rfl)
@[simp] theorem of_stuck {α : Type} {env : En} {k : α → M → SR} : SR.of (.stuck : Res α) env k = .stuck := (rfl)
theorem post_of {α β : Type} {G : Wo} {B : List Addr → Hp → α → β → Prop} {ι : List Addr} {H : Hp} {r : Res α} {env : En} {σ : St} {k : α → M → SR} {D : Ends} {Q : β → Hp → Prop} (re : REn G ex ι H env σ)
    (h : PostS G ex W ι H (SR.of r env k) D) (hk : ∀ d h1 ι1 H1 v, r = .ok d h1 → ι <+: ι1 → Keep H H1 → Rel G ι1 H1 h1 → B ι1 H1 d v → PostS G ex W ι1 H1 (k d h1) D → Q v H1) : Post G B (fun c d H' => W c d σ H') ι H r Q := by
  cases r with
  | ok d h1 => exact fun ι1 H1 v p kk rel b => hk d h1 ι1 H1 v rfl p kk rel b (PostS.mono p kk h)
  | exc x ns xs h1 => exact fun ι1 H1 C d p kk rel g xf => h ι1 H1 σ C d p kk rel (re.mono p kk) g xf
  | stuck => exact h
theorem ps_nx {G : Wo} {ι : List Addr} {H : Hp} {env : En} {σ : St} {h : M} {D : Ends} (rel : Rel G ι H h) (re : REn G ex ι H env σ) (po : PostS G ex W ι H (.nx env h) D) : D.nx σ H := po ι H σ (List.prefix_refl _) (Keep.refl _) rel re
variable {st : Stmt} {rest body sa sb : List Stmt} {ms ms' msa msb : MS} {tc : MT} {c : Expr}
def mSkip : MS := fun env h => .nx env h
def mSeq (a b : MS) : MS := fun env h => match a env h with
  | .nx env' h' => b env' h'
  | r => r
theorem fs_nil : FSs X W ex [] mSkip := by
  refine PSs.imp pss_nil fun D σ H q => ?_
  obtain ⟨ι, h, env, rel, re, po⟩ := q
  exact ps_nx rel re po
theorem fs_cons (h1 : FS X W ex st ms) (h2 : FSs X W ex rest ms') : FSs X W ex (st :: rest) (mSeq ms ms') := by
  refine PSs.imp (pss_cons h1 h2) fun D σ H q => ?_
  obtain ⟨ι, h, env, rel, re, po⟩ := q
  refine ⟨ι, h, env, rel, re, ?_⟩
  unfold mSeq at po
  cases e : ms env h <;> rw [e] at po
  case nx env' h' => exact fun ι' H' σ' p k rel' re' => ⟨ι', h', env', rel', re', PostS.mono p k po⟩
  all_goals exact po
theorem fs_one (h1 : FS X W ex st ms) : FSs X W ex [st] ms := pss_one h1
theorem fs_pass : FS X W ex (.Pass pos) mSkip := by
  refine PS.imp ps_pass fun D σ H q => ?_
  obtain ⟨ι, h, env, rel, re, po⟩ := q
  exact ps_nx rel re po
theorem fs_doc {z j} : FS X W ex (.Expr (.Constant (.str z) j pos) pos') mSkip := by
  refine PS.imp ps_doc fun D σ H q => ?_
  obtain ⟨ι, h, env, rel, re, po⟩ := q
  exact ps_nx rel re po
def mBreak : MS := fun env h => .bk env h
def mCont : MS := fun env h => .ct env h
theorem fs_break : FS X W ex (.Break pos) mBreak := by
  refine PS.imp ps_break fun D σ H q => ?_
  obtain ⟨ι, h, env, rel, re, po⟩ := q
  exact po ι H σ (List.prefix_refl _) (Keep.refl _) rel re
theorem fs_cont : FS X W ex (.Continue pos) mCont := by
  refine PS.imp ps_continue fun D σ H q => ?_
  obtain ⟨ι, h, env, rel, re, po⟩ := q
  exact po ι H σ (List.prefix_refl _) (Keep.refl _) rel re
def mSet (i : Nat) (me : ME) : MS := fun env h => SR.of (me env h) env fun d h => .nx (env.set i (.va d)) h
theorem fs_set {i : Nat} (hN : X.N.Nodup) (he : FE X W ex e me) (hi : X.N[i]? = some x := by rfl) (hx : Loc X.env.scope x := by first | exact Or.inl rfl | exact Or.inr rfl) (hs : swapsWith e (some (.Name x pos')) pos.line X.env = pure false := by rfl)
    (hf : X.fn x = true ∨ X.env.scope.names.lookup x = some .local := by first | exact .inl rfl | exact .inr rfl | assumption) : FS X W ex (.Assign [.Name x pos'] e pos) (mSet i me) := by
  refine PS.imp (ps_set hN hi hx he hs hf) fun D σ H q => ?_
  obtain ⟨ι, h, env, rel, re, po⟩ := q
  refine ⟨ι, h, env, rel, re, post_of re po fun d h1 ι1 H1 v eq1 p1 k1 rel1 rv1 po1 => ?_⟩
  exact ps_nx rel1 ((re.mono p1 k1).set i rv1) po1
def mDo (me : ME) : MS := fun env h => SR.of (me env h) env fun _ h => .nx env h
theorem fs_expr (he : FE X W ex e me) (hs : swapsWith e none pos.line X.env = pure false := by rfl) : FS X W ex (.Expr e pos) (mDo me) := by
  refine PS.imp (ps_expr he hs) fun D σ H q => ?_
  obtain ⟨ι, h, env, rel, re, po⟩ := q
  refine ⟨ι, h, env, rel, re, post_of re po fun d h1 ι1 H1 v eq1 p1 k1 rel1 rv1 po1 => ?_⟩
  exact ps_nx rel1 (re.mono p1 k1) po1
def mRet (me : ME) : MS := fun env h => SR.of (me env h) env fun d h => .rt d h
theorem fs_ret (he : FE X W ex e me) : FS X W ex (.Return (some e) pos) (mRet me) := by
  refine PS.imp (ps_ret he) fun D σ H q => ?_
  obtain ⟨ι, h, env, rel, re, po⟩ := q
  refine ⟨ι, h, env, rel, re, post_of re po fun d h1 ι1 H1 v eq1 p1 k1 rel1 rv1 po1 => ?_⟩
  exact po1 ι1 H1 v (List.prefix_refl _) (Keep.refl _) rel1 rv1
def mRetN : MS := fun env h => .rt .non h
theorem fs_retN : FS X W ex (.Return none pos) mRetN := by
  refine PS.imp ps_retN fun D σ H q => ?_
  obtain ⟨ι, h, env, rel, re, po⟩ := q
  exact po ι H .non (List.prefix_refl _) (Keep.refl _) rel (by simp [RV])
def mIfS (t : MT) (a b : MS) : MS := fun env h => SR.of (t env h) env fun b' h => if b' = true then a env h else b env h
theorem fs_if (hc : FT X W ex c tc) (ha : FSs X W ex sa msa) (hb : FSs X W ex sb msb) : FS X W ex (.If c sa sb pos) (mIfS tc msa msb) := by
  refine PS.imp (ps_if hc ha hb) fun D σ H q => ?_
  obtain ⟨ι, h, env, rel, re, po⟩ := q
  refine ⟨ι, h, env, rel, re, post_of re po fun d h1 ι1 H1 v eq1 p1 k1 rel1 rv1 po1 => ?_⟩
  cases rv1
  cases d with
  | true => exact iteT ⟨ι1, h1, env, rel1, re.mono p1 k1, po1⟩
  | false => exact iteF ⟨ι1, h1, env, rel1, re.mono p1 k1, po1⟩
/-- name op= e -/
def mAug (i : Nat) (f : D → D → M → Res D) (me : ME) : MS := fun env h => match env[i]? with
  | some (.va d) => SR.of ((me env h).bind fun y h1 => f d y h1) env fun z h2 => .nx (env.set i (.va z)) h2
  | _ => .stuck
theorem fs_aug {i : Nat} {op : Operator} {r : R2} {f : D → D → M → Res D} (ho : OpR X (inplaceOp op) r) (hf : Ab2 (wo X) r f) (hN : X.N.Nodup) (he : FE X W ex e me) (hi : X.N[i]? = some x := by rfl) (hx : Loc X.env.scope x := by first | exact Or.inl rfl | exact Or.inr rfl)
    (hfn : X.fn x = true ∨ X.env.scope.names.lookup x = some .local := by first | exact .inl rfl | exact .inr rfl | assumption) : FS X W ex (.AugAssign (.Name x pos') op e pos) (mAug i f me) := by
  refine PS.imp (ps_aug (ti := r) hN hi hx he ho hfn) fun D σ H q => ?_
  obtain ⟨ι, h, env, rel, re, po⟩ := q
  unfold mAug at po
  split at po
  case h_2 => exact po.elim
  rename_i d ed
  obtain ⟨v, ev, rv⟩ := re.at_ i d ed
  refine ⟨v, ev, ι, h, env, rel, re, ?_⟩
  have po' := post_of (σ := σ) (B := fun ι H d v => RV (wo X) ι H d v) (Q := fun z H2 => D.nx (σ.set i (some z)) H2) re po fun z h2 ι2 H2 zv eq2 p2 k2 rel2 rv2 po2 => ps_nx rel2 ((re.mono p2 k2).set i rv2) po2
  exact post_bind po' fun y h1 ι1 H1 u eq1 p1 k1 rel1 rv1 po1 => hf _ ι1 H1 h1 d y v u _ rel1 (RV.mono p1 k1 _ _ rv) rv1 po1
theorem fs_augadd {i : Nat} (hN : X.N.Nodup) (he : FE X W ex e me) (hi : X.N[i]? = some x := by rfl) (hx : Loc X.env.scope x := by first | exact Or.inl rfl | exact Or.inr rfl)
    (hfn : X.fn x = true ∨ X.env.scope.names.lookup x = some .local := by first | exact .inl rfl | exact .inr rfl | assumption) : FS X W ex (.AugAssign (.Name x pos') .Add e pos) (mAug i (fI (fun _ _ => True) fun i j => .int (i + j)) me) :=
  fs_aug iop_add (ab_I0 fun _ _ _ _ => by simp [RV]) hN he hi hx hfn
theorem fs_augsub {i : Nat} (hN : X.N.Nodup) (he : FE X W ex e me) (hi : X.N[i]? = some x := by rfl) (hx : Loc X.env.scope x := by first | exact Or.inl rfl | exact Or.inr rfl)
    (hfn : X.fn x = true ∨ X.env.scope.names.lookup x = some .local := by first | exact .inl rfl | exact .inr rfl | assumption) : FS X W ex (.AugAssign (.Name x pos') .Sub e pos) (mAug i fSub me) :=
  fs_aug iop_sub (ab_I0 fun _ _ _ _ => by simp [RV]) hN he hi hx hfn

/-! ### targets -/
abbrev MG := D → En → M → Res En
abbrev MGs := List D → En → M → Res En
/-- the slots at sl alone may be changed -/
def Only' (sl : List Nat) (σ σ' : St) : Prop := ∀ vs : List Nat, (∀ i ∈ sl, i ∈ vs) → wipe σ' vs = wipe σ vs
def rdG (G : Wo) (ex : Ex) (W : WX) (sl : List Nat) (m : MG) : TG := fun v σ H Q => ∃ ι h env d, Rel G ι H h ∧ REn G ex ι H env σ ∧ RV G ι H d v ∧ Post G (fun ι H env' σ' => REn G ex ι H env' σ' ∧ Only' sl σ σ') (fun c d H' => W c d σ H') ι H (m d env h) Q
def rdGs (G : Wo) (ex : Ex) (W : WX) (sl : List Nat) (m : MGs) : TGs := fun vs σ H Q => ∃ ι h env ds, Rel G ι H h ∧ REn G ex ι H env σ ∧ RVs G ι H ds vs ∧ Post G (fun ι H env' σ' => REn G ex ι H env' σ' ∧ Only' sl σ σ') (fun c d H' => W c d σ H') ι H (m ds env h) Q
def FG (X : Cx) (W : WX) (ex : Ex) (e : Expr) (sl : List Nat) (m : MG) : Prop := PG X e (rdG (wo X) ex W sl m)
def FGs (X : Cx) (W : WX) (ex : Ex) (es : List Expr) (sl : List Nat) (m : MGs) : Prop := PGs X es (rdGs (wo X) ex W sl m)
theorem PG.imp {t t' : TG} (p : PG X e t) (h : ∀ v σ H Q, t' v σ H Q → t v σ H Q) : PG X e t' := ⟨fun pins s σ H v u Q I r q => p.run pins s σ H v u Q I r (h v σ H Q q)⟩
theorem PGs.imp {t t' : TGs} (p : PGs X es t) (h : ∀ v σ H Q, t' v σ H Q → t v σ H Q) : PGs X es t' := ⟨fun pins s σ H v u Q I r q => p.run pins s σ H v u Q I r (h v σ H Q q)⟩
def gN (i : Nat) : MG := fun d env h => .ok (env.set i (.va d)) h
theorem wipe_set (i : Nat) (v : Option V) : ∀ (vs : List Nat) (σ : St), i ∈ vs → wipe (σ.set i v) vs = wipe σ vs
  | [], _, h => by cases h
  | u :: vs, σ, h => by
    show (wipe (σ.set i v) vs).set u none = (wipe σ vs).set u none
    by_cases hi : i ∈ vs
    · rw [wipe_set i v vs σ hi]
    · have e : u = i := by
        rcases List.mem_cons.mp h with z | z
        · exact z.symm
        · exact absurd z hi
      subst e
      have out : ∀ (vs : List Nat) (σ : St), wipe (σ.set u v) vs = (wipe σ vs).set u v ∨ wipe (σ.set u v) vs = wipe σ vs := by
        intro vs
        induction vs with
        | nil => intro σ; exact .inl rfl
        | cons z vs ih =>
          intro σ
          show (wipe (σ.set u v) vs).set z none = ((wipe σ vs).set z none).set u v ∨ (wipe (σ.set u v) vs).set z none = (wipe σ vs).set z none
          rcases ih σ with e | e
          · rw [e]
            by_cases hz : z = u
            · subst hz; right; rw [List.set_set]
            · left; rw [List.set_comm _ _ hz]
          · right; rw [e]
      rcases out vs σ with e | e
      · rw [e, List.set_set]
      · rw [e]
theorem fg_name {i : Nat} (hN : X.N.Nodup) (hi : X.N[i]? = some x := by rfl) (hx : Loc X.env.scope x := by first | exact Or.inl rfl | exact Or.inr rfl) (hf : X.fn x = true ∨ X.env.scope.names.lookup x = some .local := by first | exact .inl rfl | exact .inr rfl | assumption) : FG X W ex (.Name x pos) [i] (gN i) := by
  refine PG.imp (pg_name hN hi hx hf) fun v σ H Q q => ?_
  obtain ⟨ι, h, env, d, rel, re, rv, po⟩ := q
  exact po_ok rel ⟨re.set i rv, fun vs hv => wipe_set i _ vs σ (hv i (by simp))⟩ po
def gNil' : MGs := fun ds env h => match ds with
  | [] => .ok env h
  | _ :: _ => .stuck
theorem fgs_nil : FGs X W ex [] [] gNil' := by
  refine PGs.imp pgs_nil fun v σ H Q q => ?_
  obtain ⟨ι, h, env, ds, rel, re, rv, po⟩ := q
  cases ds with
  | nil => simp only [RVs] at rv; exact ⟨rv, po_ok rel ⟨re, fun _ _ => rfl⟩ po⟩
  | cons d ds => exact po.elim
/-- a target's end that raises nothing: stuck in place of an exception -/
def noX {α : Type} (r : Res α) : Res α := match r with
  | .ok a h => .ok a h
  | _ => .stuck
@[simp] theorem noX_ok {α : Type} {a : α} {h : M} : noX (.ok a h) = .ok a h := (rfl)
theorem post_noX {α β : Type} {G : Wo} {B : List Addr → Hp → α → β → Prop} {E E' : WX'} {ι : List Addr} {H : Hp} {r : Res α} {Q : β → Hp → Prop} (h : Post G B E ι H (noX r) Q) : Post G B E' ι H r Q := by
  cases r with
  | ok d h1 => exact h
  | exc x ns xs h1 => exact h.elim
  | stuck => exact h
theorem post_B {α β : Type} {G : Wo} {B B' : List Addr → Hp → α → β → Prop} {E : WX'} {ι : List Addr} {H : Hp} {r : Res α} {Q : β → Hp → Prop} (h : Post G B E ι H r Q) (hb : ∀ ι' H' a b, B' ι' H' a b → B ι' H' a b) : Post G B' E ι H r Q := by
  cases r with
  | ok d h1 => exact fun ι' H' v p k rel b => h ι' H' v p k rel (hb _ _ _ _ b)
  | exc x ns xs h1 => exact h
  | stuck => exact h
def gCons' (g : MG) (gs : MGs) : MGs := fun ds env h => match ds with
  | d :: ds => (g d env h).bind fun env' h' => noX (gs ds env' h')
  | [] => .stuck
theorem fgs_cons {g : MG} {gs : MGs} {sl sl' : List Nat} (h1 : FG X W ex e sl g) (h2 : FGs X W ex es sl' gs) (hs : (assignEach (e :: es) X.env).map (·.2) = assign e X.env :: (assignEach es X.env).map (·.2) := by rfl) : FGs X W ex (e :: es) (sl ++ sl') (gCons' g gs) := by
  refine PGs.imp (pgs_cons h1 h2 hs) fun v σ H Q q => ?_
  obtain ⟨ι, h, env, ds, rel, re, rv, po⟩ := q
  cases ds with
  | nil => exact po.elim
  | cons d ds =>
    simp only [RVs] at rv
    obtain ⟨v1, vr, rfl, r1, r2⟩ := rv
    refine ⟨v1, vr, rfl, ι, h, env, d, rel, re, r1, post_bind po fun env1 h1 ι1 H1 σ1 eq1 p1 k1 rel1 re1 po1 => ?_⟩
    refine ⟨ι1, h1, env1, ds, rel1, re1.1, RVs.mono p1 k1 _ _ r2, post_noX (post_B po1 fun ι' H' env' σ' b => ⟨b.1, fun vs hv => ?_⟩)⟩
    rw [b.2 vs fun i hi => hv i (by simp [hi]), re1.2 vs fun i hi => hv i (by simp [hi])]
def gTp (n : Nat) (gs : MGs) : MG := fun d env h => match tupOf d with
  | some xs => if xs.length = n then gs xs env h else .stuck
  | none => .stuck
theorem fg_tup {gs : MGs} {kk : Nat} {sl : List Nat} (h : FGs X W ex es sl gs) (hc : X.calm = true := by rfl) (hn : (assignEach es X.env).length = n := by rfl) (hst : (assignEach es X.env).findIdx? (·.1) = none := by rfl) : FG X W ex (.Tuple es kk pos) sl (gTp n gs) := by
  refine PG.imp (pg_tup hc h hn hst) fun v σ H Q q => ?_
  obtain ⟨ι, h, env, d, rel, re, rv, po⟩ := q
  unfold gTp at po
  split at po
  case h_2 => exact po.elim
  rename_i xs ed
  split at po
  case isFalse => exact po.elim
  rename_i hl
  obtain ⟨a, vs, rfl, s, r⟩ := tupOf_sq (G := wo X) rv ed
  exact ⟨a, vs, rfl, s, by rw [← RVs.length r]; exact hl, ι, h, env, xs, rel, re, r, po⟩
/-- target = value -/
def mAsg (me : ME) (g : MG) : MS := fun env h => SR.of (me env h) env fun d h => SR.of (g d env h) env fun env' h => .nx env' h
theorem fs_asg {tg : Expr} {g : MG} {sl : List Nat} (he : FE X W ex e me) (hg : FG X W ex tg sl g) (hs : swapsWithSole [tg] e pos.line X.env = pure false := by rfl) (hw : swappedStores [tg] e X.env = pure none := by rfl)
    (h1 : (assignEach [tg] X.env).map (·.2) = [assign tg X.env] := by rfl) : FS X W ex (.Assign [tg] e pos) (mAsg me g) := by
  refine PS.imp (ps_asg he hg hs hw h1) fun D σ H q => ?_
  obtain ⟨ι, h, env, rel, re, po⟩ := q
  refine ⟨ι, h, env, rel, re, post_of re po fun d h1 ι1 H1 v eq1 p1 k1 rel1 rv1 po1 => ?_⟩
  refine ⟨ι1, h1, env, d, rel1, re.mono p1 k1, rv1, post_of (re.mono p1 k1) po1 fun env' h2 ι2 H2 σ2 eq2 p2 k2 rel2 re2 po2 => ?_⟩
  exact ps_nx rel2 re2.1 po2

/-! ### o[i] = e: a list, a dict -/
abbrev BU : List Addr → Hp → Unit → Unit → Prop := fun _ _ _ _ => True
abbrev R3 := V → V → V → Hp → (Hp → Prop) → Prop
def t3 (r : R3) (to ti te : TE) : TS := fun D σ H => te σ H fun v H1 => to σ H1 fun o H2 => ti σ H2 fun i H3 => r o i v H3 fun H4 => D.nx σ H4
def At3 (G : Wo) (r : R3) (f : D → D → D → M → Res Unit) (o i v : D) (h : M) : Prop := ∀ (E : WX') ι H ov iv vv (Q : Hp → Prop), Rel G ι H h → RV G ι H o ov → RV G ι H i iv → RV G ι H v vv → Post G BU E ι H (f o i v h) (fun _ H' => Q H') → r ov iv vv H Q
def m3 (f : D → D → D → M → Res Unit) (mo mi me : ME) : MS := fun env h => SR.of ((me env h).bind fun v h1 => (mo env h1).bind fun o h2 => (mi env h2).bind fun i h3 => f o i v h3) env fun _ h => .nx env h
theorem rd3_or {r r' : R3} {f : D → D → D → M → Res Unit} {G : Wo} {mo mi : ME} (hf : ∀ o i v h, At3 G r f o i v h ∨ At3 G r' f o i v h) {D : Ends} {σ : St} {H : Hp} (q : rdS G ex W (m3 f mo mi me) D σ H) :
    t3 r (rdE G ex W mo) (rdE G ex W mi) (rdE G ex W me) D σ H ∨ t3 r' (rdE G ex W mo) (rdE G ex W mi) (rdE G ex W me) D σ H := by
  obtain ⟨ι, h, env, rel, re, po⟩ := q
  -- the way by the values, where all three come to one
  have go : ∀ (R : R3), (∀ v h1 o h2 i h3, me env h = .ok v h1 → mo env h1 = .ok o h2 → mi env h2 = .ok i h3 → At3 G R f o i v h3) → t3 R (rdE G ex W mo) (rdE G ex W mi) (rdE G ex W me) D σ H := fun R hR => by
    have po' := post_of (σ := σ) (B := BU) (Q := fun _ H' => D.nx σ H') re po fun _ h2 ι2 H2 zv eq2 p2 k2 rel2 rv2 po2 => ps_nx rel2 (re.mono p2 k2) po2
    refine ⟨ι, h, env, rel, re, post_bind po' fun v h1 ι1 H1 vv eq1 p1 k1 rel1 rv1 po1 => ?_⟩
    refine ⟨ι1, h1, env, rel1, re.mono p1 k1, post_bind po1 fun o h2 ι2 H2 ov eq2 p2 k2 rel2 rv2 po2 => ?_⟩
    refine ⟨ι2, h2, env, rel2, (re.mono p1 k1).mono p2 k2, post_bind po2 fun i h3 ι3 H3 iv eq3 p3 k3 rel3 rv3 po3 => ?_⟩
    exact hR v h1 o h2 i h3 eq1 eq2 eq3 _ ι3 H3 ov iv vv _ rel3 (RV.mono p3 k3 _ _ rv2) rv3 (RV.mono (p2.trans p3) (k2.trans k3) _ _ rv1) po3
  cases e1 : me env h with
  | ok v h1 =>
    cases e2 : mo env h1 with
    | ok o h2 =>
      cases e3 : mi env h2 with
      | ok i h3 =>
        have sole : ∀ v' h1' o' h2' i' h3', me env h = .ok v' h1' → mo env h1' = .ok o' h2' → mi env h2' = .ok i' h3' → v' = v ∧ o' = o ∧ i' = i ∧ h3' = h3 := fun v' h1' o' h2' i' h3' a b c => by
          rw [e1] at a; cases a; rw [e2] at b; cases b; rw [e3] at c; cases c; exact ⟨rfl, rfl, rfl, rfl⟩
        rcases hf o i v h3 with z | z
        · exact .inl (go r fun v' h1' o' h2' i' h3' a b c => by obtain ⟨rfl, rfl, rfl, rfl⟩ := sole _ _ _ _ _ _ a b c; exact z)
        · exact .inr (go r' fun v' h1' o' h2' i' h3' a b c => by obtain ⟨rfl, rfl, rfl, rfl⟩ := sole _ _ _ _ _ _ a b c; exact z)
      | exc _ _ _ _ => exact .inl (go r fun v' h1' o' h2' i' h3' a b c => by rw [e1] at a; cases a; rw [e2] at b; cases b; rw [e3] at c; cases c)
      | stuck => exact .inl (go r fun v' h1' o' h2' i' h3' a b c => by rw [e1] at a; cases a; rw [e2] at b; cases b; rw [e3] at c; cases c)
    | exc _ _ _ _ => exact .inl (go r fun v' h1' o' h2' i' h3' a b c => by rw [e1] at a; cases a; rw [e2] at b; cases b)
    | stuck => exact .inl (go r fun v' h1' o' h2' i' h3' a b c => by rw [e1] at a; cases a; rw [e2] at b; cases b)
  | exc _ _ _ _ => exact .inl (go r fun v' h1' o' h2' i' h3' a b c => by rw [e1] at a; cases a)
  | stuck => exact .inl (go r fun v' h1' o' h2' i' h3' a b c => by rw [e1] at a; cases a)
def fPut (o i v : D) (h : M) : Res Unit := match o with
  | .loc l => match h[l]? with
    | some (.lst xs) => match i with
      | .int k => match ixN xs.length k with
        | some j => .ok () (h.set l (.lst (xs.set j v)))
        | none => .stuck
      | _ => .stuck
    | some (.dK kvs) => match keyD i with
      | some k => if kvs.length < sizeLine then .ok () (h.set l (.dK (putD kvs k v))) else .stuck
      | none => .stuck
    | some (.dT kvs) => match keysD i with
      | some k => if kvs.length < sizeLine then .ok () (h.set l (.dT (putD kvs k v))) else .stuck
      | none => .stuck
    | _ => .stuck
  | _ => .stuck
/-- an object written: the end -/
theorem po_wrU {G : Wo} {E : WX'} {ι : List Addr} {H : Hp} {h : M} {l : Nat} {a : Addr} {ob : O} {u : HO} {Q : Hp → Prop} (rel : Rel G ι H h) (ea : ι[l]? = some a) (ro : ∀ H', Keep H H' → H' = upd H a u → RO G ι H' a ob)
    (po : Post G BU E ι H (.ok () (h.set l ob)) (fun _ H' => Q H')) : Q (upd H a u) := by
  have k : Keep H (upd H a u) := by
    obtain ⟨u0, e0, nf, mu⟩ := rel.tracked ea
    exact fun b o' eb f => by
      have : b ≠ a := fun z => by rw [z, e0] at eb; cases eb; exact nf f
      rw [upd_ne this]; exact eb
  have w := rel.write (o := ob) (u := u) ea (ro _ k rfl)
  exact po ι _ () (List.prefix_refl _) k w.1 trivial
def rDPut : R3 := fun x y v H Q => ∃ a H', x = .ref a ∧ DPut H a y v H' ∧ Q H'
theorem put_at {G : Wo} (o i v : D) (h : M) : At3 G rSetL fPut o i v h ∨ At3 G rDPut fPut o i v h := by
  cases o with
  | loc l =>
    cases e : h[l]? with
    | none => exact .inl fun E ι H ov iv vv Q rel ro ri rv po => by simp only [fPut, e] at po; exact po.elim
    | some ob =>
      cases ob with
      | lst xs =>
        refine .inl fun E ι H ov iv vv Q rel ro ri rv po => ?_
        simp only [fPut, e] at po
        split at po
        case h_2 => exact po.elim
        rename_i k
        split at po
        case h_2 => exact po.elim
        rename_i j ej
        obtain ⟨a, ws, rfl, ea, q, r⟩ := at_lst rel ro e
        simp only [RV] at ri; subst ri
        exact ⟨a, ws, k, j, rfl, rfl, q, by rw [← RVs.length r]; exact ej, po_wrU (ob := .lst (xs.set j v)) rel ea (fun H' kp eq => ⟨_, by rw [eq]; exact upd_same, RVs.mono (List.prefix_refl _) kp _ _ (r.set j rv)⟩) po⟩
      | dK kvs =>
        refine .inr fun E ι H ov iv vv Q rel ro ri rv po => ?_
        simp only [fPut, e] at po
        split at po
        case h_2 => exact po.elim
        rename_i k ek
        split at po
        case isFalse => exact po.elim
        rename_i hz
        obtain ⟨a, ws, rfl, ea, q, r⟩ := at_dK rel ro e
        rw [keyD_ok ri ek]
        exact ⟨a, _, rfl, DPut.k q (by rw [← RKs.len r]; exact hz), po_wrU (ob := .dK (putD kvs k v)) rel ea (fun H' kp eq => ⟨_, by rw [eq]; exact upd_same, (r.put rv).mono (List.prefix_refl _) kp⟩) po⟩
      | dT kvs =>
        refine .inr fun E ι H ov iv vv Q rel ro ri rv po => ?_
        simp only [fPut, e] at po
        split at po
        case h_2 => exact po.elim
        rename_i k ek
        split at po
        case isFalse => exact po.elim
        rename_i hz
        obtain ⟨a, ws, rfl, ea, q, r⟩ := at_dT rel ro e
        obtain ⟨b, rfl, hb⟩ := keysD_ok ri ek
        exact ⟨a, _, rfl, DPut.t q hb (by rw [← RKs.len r]; exact hz), po_wrU (ob := .dT (putD kvs k v)) rel ea (fun H' kp eq => ⟨_, by rw [eq]; exact upd_same, (r.put rv).mono (List.prefix_refl _) kp⟩) po⟩
      | ins x fs => exact .inl fun E ι H ov iv vv Q rel ro ri rv po => by simp only [fPut, e] at po; exact po.elim
  | _ => exact .inl fun E ι H ov iv vv Q rel ro ri rv po => by simp only [fPut] at po; exact po.elim
theorem PS.or {t t' : TS} (p : PS X st t) (p' : PS X st t') : PS X st (fun D σ H => t D σ H ∨ t' D σ H) := ⟨fun pins s σ H D I h => by
  rcases h with h | h
  · exact p.run pins s σ H D I h
  · exact p'.run pins s σ H D I h⟩
theorem fs_put {k : Nat} {mo mi : ME} (hr : Room k X.A) (ho : FE X W ex o mo) (hi : FE X W ex i mi) (he : FE X W ex e me)
    (ha : ∀ v, assign (.Subscript o i pos') X.env v = (do
      let ov ← holding [v] (eval o X.env)
      let iv ← holding [v, ov] (eval i X.env)
      standAt pos'
      holding [v, ov, iv] (setItem ov iv v)
      release [v, ov, iv] []) := by intro _; rfl)
    (hs : swapsWithSole [.Subscript o i pos'] e pos.line X.env = pure false := by rfl) (hw : swappedStores [.Subscript o i pos'] e X.env = pure none := by rfl)
    (h1 : (assignEach [.Subscript o i pos'] X.env).map (·.2) = [assign (.Subscript o i pos') X.env] := by rfl) (hs2 : swapsWith e (some (.Subscript o i pos')) pos.line X.env = pure false := by rfl) :
    FS X W ex (.Assign [.Subscript o i pos'] e pos) (m3 fPut mo mi me) := by
  have P1 : PS X (.Assign [.Subscript o i pos'] e pos) (t3 rSetL (rdE (wo X) ex W mo) (rdE (wo X) ex W mi) (rdE (wo X) ex W me)) := PS.imp (ps_asg he (pg_sub ho hi set_list ha) hs hw h1) fun D σ H q => q
  have P2 : PS X (.Assign [.Subscript o i pos'] e pos) (t3 rDPut (rdE (wo X) ex W mo) (rdE (wo X) ex W mi) (rdE (wo X) ex W me)) := PS.imp (ps_dput (hu_of hr) ho hi he hs2) fun D σ H q => q
  exact PS.imp (PS.or P1 P2) fun D σ H q => rd3_or put_at q
end
end LF
set_option Elab.async false
set_option linter.all false
set_option maxRecDepth 100000
set_option maxHeartbeats 4000000
/-! LF6: iterators, for, while, comprehensions. -/
namespace LF
open PySem PySem.Spec L2
open PyProof.Rows hiding St
/-- what a loop walks: the items, and what must stay true of the machine's objects meanwhile -/
structure Itr' where
  items : List D
  chk : M → Prop
def JOk (G : Wo) (ι0 : List Addr) (H0 : Hp) (J : It) (it : Itr') : Prop :=
  ∀ (i : Nat) (ι : List Addr) (H : Hp) (h : M), ι0 <+: ι → Keep H0 H → Rel G ι H h → it.chk h →
    (∀ d, it.items[i]? = some d → J.go i H ∧ ∀ x H', J.yld i H x H' → Same H H' ∧ RV G ι H' d x) ∧ (it.items.length ≤ i → J.stop i H)
abbrev MI := En → M → Res Itr'
def rdI (G : Wo) (ex : Ex) (W : WX) (m : MI) : TI := fun σ H R => ∃ ι h env, Rel G ι H h ∧ REn G ex ι H env σ ∧ Post G (fun ι H it J => JOk G ι H J it) (fun c d H' => W c d σ H') ι H (m env h) R
def FI (X : Cx) (W : WX) (ex : Ex) (tg iter : Expr) (m : MI) : Prop := PI X tg iter (rdI (wo X) ex W m)
section
variable {X : Cx} {W : WX} {ex : Ex} {tg e a b i o iter : Expr} {es : List Expr} {ma mb mc me ml : ME} {mas : MA} {pos pos' p : Pos} {x : Str}
theorem PI.imp {t t' : TI} (p : PI X tg iter t) (h : ∀ σ H Q, t' σ H Q → t σ H Q) : PI X tg iter t' := ⟨fun pins s σ H R I q => p.run pins s σ H R I (h σ H R q)⟩
theorem PI.or {t t' : TI} (p : PI X tg iter t) (p' : PI X tg iter t') : PI X tg iter (fun σ H Q => t σ H Q ∨ t' σ H Q) := ⟨fun pins s σ H R I h => by
  rcases h with h | h
  · exact p.run pins s σ H R I h
  · exact p'.run pins s σ H R I h⟩
/-- a list's items, a tuple's, a text's signs -/
def itOf (d : D) (h : M) : Res Itr' := match d with
  | .str z => .ok ⟨z.cps.toList.map fun c => .str ⟨#[c]⟩, fun _ => True⟩ h
  | d => match tupOf d with
    | some xs => .ok ⟨xs, fun _ => True⟩ h
    | none => match lstOf h d with
      | some xs => .ok ⟨xs, fun h' => lstOf h' d = some xs⟩ h
      | none => .stuck
theorem itOf_not {d : D} {h : M} (hs : ¬ ∃ z, d = .str z) : itOf d h = (match tupOf d with
    | some xs => .ok ⟨xs, fun _ => True⟩ h
    | none => match lstOf h d with
      | some xs => .ok ⟨xs, fun h' => lstOf h' d = some xs⟩ h
      | none => .stuck) := by
  cases d <;> first | rfl | exact absurd ⟨_, rfl⟩ hs
def mIter (ml : ME) : MI := fun env h => (ml env h).bind itOf
theorem fi_any (hl : FE X W ex e ml) : FI X W ex tg e (mIter ml) := by
  refine PI.imp (PI.or (pi_list hl) (PI.or (pi_tup hl) (pi_str hl))) fun σ H R q => ?_
  obtain ⟨ι, h, env, rel, re, po⟩ := q
  -- told apart by the value
  have go : ∀ (Rr : V → Hp → Prop), (∀ d h1 ι1 H1 v, ml env h = .ok d h1 → ι <+: ι1 → Keep H H1 → Rel (wo X) ι1 H1 h1 → RV (wo X) ι1 H1 d v → Post (wo X) (fun ι H it J => JOk (wo X) ι H J it) (fun c d H' => W c d σ H') ι1 H1 (itOf d h1) R → Rr v H1) → rdE (wo X) ex W ml σ H Rr := fun Rr hR =>
    ⟨ι, h, env, rel, re, post_bind po fun d h1 ι1 H1 v eq1 p1 k1 rel1 rv1 po1 => hR d h1 ι1 H1 v eq1 p1 k1 rel1 rv1 po1⟩
  cases e1 : ml env h with
  | stuck => unfold mIter at po; rw [e1] at po; exact po.elim
  | exc _ _ _ _ => exact .inl (go _ fun d h1 ι1 H1 v eq1 => by rw [e1] at eq1; cases eq1)
  | ok d h1 =>
    have sole : ∀ {d' h1'}, ml env h = .ok d' h1' → d' = d ∧ h1' = h1 := fun eq => by rw [e1] at eq; cases eq; exact ⟨rfl, rfl⟩
    by_cases hs : ∃ z, d = .str z
    · obtain ⟨z, rfl⟩ := hs
      refine .inr (.inr (go _ fun d' h1' ι1 H1 v eq1 p1 k1 rel1 rv1 po1 => ?_))
      obtain ⟨rfl, rfl⟩ := sole eq1
      simp only [RV] at rv1; subst rv1
      simp only [itOf] at po1
      refine ⟨z, rfl, po_ok rel1 ?_ po1⟩
      intro i ι H h p k rel _
      refine ⟨fun d ed => ?_, fun hi => ?_⟩
      · rw [List.getElem?_map] at ed
        simp only [Option.map_eq_some_iff] at ed
        obtain ⟨c, ec, rfl⟩ := ed
        have ec' : z.cps[i]? = some c := by simpa using ec
        refine ⟨(Array.getElem?_eq_some_iff.mp ec').1, fun x H' hy => ?_⟩
        obtain ⟨rfl, c', e', rfl⟩ := hy
        rw [ec'] at e'; cases e'
        exact ⟨Same.refl _, by simp [RV]⟩
      · show z.cps.size ≤ i
        simpa using hi
    · cases et : tupOf d with
      | some xs =>
        refine .inr (.inl (go _ fun d' h1' ι1 H1 v eq1 p1 k1 rel1 rv1 po1 => ?_))
        obtain ⟨rfl, rfl⟩ := sole eq1
        rw [itOf_not hs, et] at po1
        obtain ⟨a, vs, rfl, s, r⟩ := tupOf_sq rv1 et
        refine ⟨a, rfl, ⟨vs, s⟩, po_ok rel1 ?_ po1⟩
        intro i ι H h p k rel _
        have s' := k.tup s
        have r' := RVs.mono p k _ _ r
        refine ⟨fun d ed => ?_, fun hi => ⟨vs, s', by rw [← RVs.length r]; exact hi⟩⟩
        obtain ⟨v, ev, rv⟩ := r'.get ed
        refine ⟨⟨vs, v, s', ev⟩, fun x H' hy => ?_⟩
        obtain ⟨rfl, hy⟩ := hy
        have := hy vs s'
        rw [ev] at this; cases this
        exact ⟨Same.refl _, rv⟩
      | none =>
        refine .inl (go _ fun d' h1' ι1 H1 v eq1 p1 k1 rel1 rv1 po1 => ?_)
        obtain ⟨rfl, rfl⟩ := sole eq1
        cases el : lstOf h1' d' with
        | none =>
          exfalso
          rw [itOf_not hs, et] at po1
          simp only [el] at po1
          exact po1
        | some xs =>
          rw [itOf_not hs, et] at po1
          simp only [el] at po1
          obtain ⟨a, vs, rfl, s, r⟩ := lstOf_sq rel1 rv1 el
          refine ⟨a, rfl, ⟨vs, s⟩, po_ok rel1 ?_ po1⟩
          intro i ι H h p k rel ck
          have rv' := RV.mono p k _ _ rv1
          obtain ⟨a', vs', e', s', r'⟩ := lstOf_sq rel rv' ck
          cases e'
          refine ⟨fun d ed => ?_, fun hi => ⟨vs', s', by rw [← RVs.length r']; exact hi⟩⟩
          obtain ⟨v, ev, rv⟩ := r'.get ed
          refine ⟨⟨vs', v, s', ev⟩, fun x H' hy => ?_⟩
          obtain ⟨rfl, hy⟩ := hy
          have := hy vs' s'
          rw [ev] at this; cases this
          exact ⟨Same.refl _, rv⟩
/-- range -/
def rgItems (lo : Int) (n : Nat) : List D := (List.range n).map fun i => .int (lo + (i : Nat))
theorem rg_ok {G : Wo} {ι : List Addr} {H : Hp} (lo : Int) (n : Nat) : JOk G ι H (Itr lo n) ⟨rgItems lo n, fun _ => True⟩ := by
  intro i ι' H' h p k rel _
  refine ⟨fun d ed => ?_, fun hi => ?_⟩
  · simp only [rgItems, List.getElem?_map, Option.map_eq_some_iff] at ed
    obtain ⟨j, ej, rfl⟩ := ed
    have hi : i < n := by have := (List.getElem?_eq_some_iff.mp ej).1; simpa using this
    have : j = i := by rw [List.getElem?_range hi] at ej; exact (Option.some.inj ej).symm
    subst this
    refine ⟨hi, fun x H'' hy => ?_⟩
    obtain ⟨rfl, rfl⟩ := hy
    exact ⟨Same.refl _, by simp [RV]⟩
  · show n ≤ i
    simpa [rgItems] using hi
def fRng (ds : List D) (h : M) : Res Itr' := match ds with
  | [.int j] => if -(2 ^ 62) ≤ j ∧ j < 2 ^ 62 then .ok ⟨rgItems 0 j.toNat, fun _ => True⟩ h else .stuck
  | [.int i, .int j] => if -(2 ^ 62) ≤ i ∧ i < 2 ^ 62 ∧ -(2 ^ 62) ≤ j ∧ j < 2 ^ 62 then .ok ⟨rgItems i (j - i).toNat, fun _ => True⟩ h else .stuck
  | _ => .stuck
def mRng (mas : MA) : MI := fun env h => (mas env h).bind fRng
theorem RVs.eq3 {G : Wo} {ι : List Addr} {H : Hp} {d f g : D} {vs : List V} (h : RVs G ι H [d, f, g] vs) : ∃ v u t, vs = [v, u, t] ∧ RV G ι H d v ∧ RV G ι H f u ∧ RV G ι H g t := by
  simp only [RVs] at h
  obtain ⟨v, r, rfl, h1, u, r2, rfl, h2, t, r3, rfl, h3, rfl⟩ := h
  exact ⟨v, u, t, rfl, h1, h2, h3⟩
theorem fi_range1 (hm : X.mg "range" = none) (hs : FA X W ex [a] mas) (hone : ∀ env h ds h', mas env h = .ok ds h' → ds.length = 1) (hg : Gl X "range" := by rfl) (hst : starEach [a] X.env = [(false, eval a X.env)] := by rfl) : FI X W ex tg (.Call (.Name "range" p) [a] [] pos) (mRng mas) := by
  refine PI.imp (pi_range1 hg hm hs hst) fun σ H R q => ?_
  obtain ⟨ι, h, env, rel, re, po⟩ := q
  refine ⟨ι, h, env, rel, re, post_bind po fun ds h1 ι1 H1 vs eq1 p1 k1 rel1 rv1 po1 => ?_⟩
  have hl := hone _ _ _ _ eq1
  unfold fRng at po1
  split at po1
  · split at po1
    case isFalse => exact po1.elim
    rename_i hz
    obtain ⟨v, rfl, r⟩ := rv1.eq1
    simp only [RV] at r; subst r
    exact ⟨_, rfl, hz.1, hz.2, po_ok rel1 (rg_ok _ _) po1⟩
  · simp at hl
  · exact po1.elim
theorem fi_range2 (hm : X.mg "range" = none) (hs : FA X W ex [a, b] mas) (hone : ∀ env h ds h', mas env h = .ok ds h' → ds.length = 2) (hg : Gl X "range" := by rfl) (hst : starEach [a, b] X.env = [(false, eval a X.env), (false, eval b X.env)] := by rfl) (hst2 : starEach [b] X.env = [(false, eval b X.env)] := by rfl) : FI X W ex tg (.Call (.Name "range" p) [a, b] [] pos) (mRng mas) := by
  refine PI.imp (pi_range2 hg hm hs hst hst2) fun σ H R q => ?_
  obtain ⟨ι, h, env, rel, re, po⟩ := q
  refine ⟨ι, h, env, rel, re, post_bind po fun ds h1 ι1 H1 vs eq1 p1 k1 rel1 rv1 po1 => ?_⟩
  have hl := hone _ _ _ _ eq1
  unfold fRng at po1
  split at po1
  · simp at hl
  · split at po1
    case isFalse => exact po1.elim
    rename_i hz
    obtain ⟨v, u, rfl, r, r2⟩ := rv1.eq2
    simp only [RV] at r r2; subst r; subst r2
    exact ⟨_, _, rfl, hz, po_ok rel1 (rg_ok _ _) po1⟩
  · exact po1.elim
theorem mCons_len {m : ME} {ms : MA} {n : Nat} (h : ∀ env h ds h', ms env h = .ok ds h' → ds.length = n) : ∀ env h ds h', mCons m ms env h = .ok ds h' → ds.length = n + 1 := by
  intro env hh ds h' eq
  unfold mCons at eq
  cases e1 : m env hh <;> rw [e1] at eq <;> simp only [bind_ok, bind_exc, bind_stuck, reduceCtorEq] at eq
  rename_i d h1
  cases e2 : ms env h1 <;> rw [e2] at eq <;> simp only [bind_ok, bind_exc, bind_stuck, reduceCtorEq] at eq
  cases eq
  simp [h _ _ _ _ e2]
theorem mNil_len : ∀ env h ds h', mNil env h = .ok ds h' → ds.length = 0 := by
  intro env h ds h' eq; cases eq; rfl

/-! ### for -/
open Classical in
noncomputable def floop (chk : M → Prop) (g : MG) (mb : MS) : List D → MS
  | [], env, h => if chk h then .nx env h else .stuck
  | d :: ds, env, h => if chk h then SR.of (g d env h) env fun env1 h1 => match mb env1 h1 with
      | .nx e2 h2 => floop chk g mb ds e2 h2
      | .ct e2 h2 => floop chk g mb ds e2 h2
      | .bk e2 h2 => .nx e2 h2
      | r => r
    else .stuck
noncomputable def mFor (mi : MI) (g : MG) (mb : MS) : MS := fun env h => SR.of (mi env h) env fun it h1 => floop it.chk g mb it.items env h1
variable {mi : MI} {g : MG} {sl : List Nat} {msb : MS} {body : List Stmt} {c : Expr} {tc : MT}
theorem fs_for (hp : PassesOwn (model X.prog X.w) X.A X.env X.xe) (hi : FI X W ex tg iter mi) (hg : FG X W ex tg sl g) (hb : FSs X W ex body msb) (hc : X.calm = true := by rfl) (hs : ∀ x, foldedSetIterable iter X.env x = pure x := by intro _; rfl) :
    FS X W ex (.For tg iter body [] pos) (mFor mi g msb) := by
  refine PS.imp (ps_for hp hc hi hg hb hs) fun D σ H q => ?_
  obtain ⟨ι, h, env, rel, re, po⟩ := q
  refine ⟨ι, h, env, rel, re, post_of re po fun it h1 ι1 H1 J eq1 p1 k1 rel1 jok po1 => ?_⟩
  refine ⟨fun i m σ2 H2 => ∃ ι2 h2 env2, ι1 <+: ι2 ∧ Keep H1 H2 ∧ Rel (wo X) ι2 H2 h2 ∧ REn (wo X) ex ι2 H2 env2 σ2 ∧ m = it.items.length - i ∧ i ≤ it.items.length ∧ PostS (wo X) ex W ι2 H2 (floop it.chk g msb (it.items.drop i) env2 h2) D, ?_, ?_⟩
  · exact ⟨it.items.length, ι1, h1, env, List.prefix_refl _, Keep.refl _, rel1, re.mono p1 k1, by simp, Nat.zero_le _, by simpa using po1⟩
  · rintro i m σ2 H2 ⟨ι2, h2, env2, p2, k2, rel2, re2, rfl, hi2, po2⟩
    by_cases hlt : i < it.items.length
    · have ed : it.items[i]? = some it.items[i] := List.getElem?_eq_getElem hlt
      rw [List.drop_eq_getElem_cons hlt] at po2
      unfold floop at po2
      split at po2
      case isFalse => exact po2.elim
      rename_i ck
      obtain ⟨go, yl⟩ := (jok i ι2 H2 h2 p2 k2 rel2 ck).1 _ ed
      refine .inr ⟨go, fun σ' H' => ∃ ι2 h2 env2, ι1 <+: ι2 ∧ Keep H1 H' ∧ Rel (wo X) ι2 H' h2 ∧ REn (wo X) ex ι2 H' env2 σ' ∧ PostS (wo X) ex W ι2 H' (floop it.chk g msb (it.items.drop (i + 1)) env2 h2) D, fun σ' H' n => ?_, fun x H' hy => ?_⟩
      · obtain ⟨ι3, h3, env3, a1, a2, a3, a4, a5⟩ := n
        exact ⟨_, by omega, ι3, h3, env3, a1, a2, a3, a4, rfl, hlt, a5⟩
      · obtain ⟨sm, rv⟩ := yl x H' hy
        have k3 := Keep.of_same sm
        have rel3 := rel2.same sm
        have re3 := re2.mono (List.prefix_refl _) k3
        have po3 := PostS.mono (List.prefix_refl _) k3 po2
        refine ⟨ι2, h2, env2, it.items[i], rel3, re3, rv, post_of re3 po3 fun env4 h4 ι4 H4 σ4 eq4 p4 k4 rel4 re4 po4 => ?_⟩
        refine ⟨ι4, h4, env4, rel4, re4.1, ?_⟩
        have fin : ∀ {env5 h5}, PostS (wo X) ex W ι4 H4 (floop it.chk g msb (it.items.drop (i + 1)) env5 h5) D → ∀ ι' H' σ', ι4 <+: ι' → Keep H4 H' → Rel (wo X) ι' H' h5 → REn (wo X) ex ι' H' env5 σ' → ∃ ι2 h2 env2, ι1 <+: ι2 ∧ Keep H1 H' ∧ Rel (wo X) ι2 H' h2 ∧ REn (wo X) ex ι2 H' env2 σ' ∧ PostS (wo X) ex W ι2 H' (floop it.chk g msb (it.items.drop (i + 1)) env2 h2) D :=
          fun {env5 h5} q ι' H' σ' a1 a2 a3 a4 => ⟨ι', h5, env5, (p2.trans p4).trans a1, ((k2.trans k3).trans k4).trans a2, a3, a4, PostS.mono a1 a2 q⟩
        generalize msb env4 h4 = z at po4 ⊢
        cases z with
        | nx e5 h5 => exact fin po4
        | ct e5 h5 => exact fin po4
        | bk e5 h5 => exact po4
        | rt d h5 => exact po4
        | exc _ _ _ _ _ => exact po4
        | stuck => exact po4
    · have e : i = it.items.length := by omega
      subst e
      simp only [List.drop_length] at po2
      unfold floop at po2
      split at po2
      case isFalse => exact po2.elim
      rename_i ck
      exact .inl ⟨(jok _ ι2 H2 h2 p2 k2 rel2 ck).2 (Nat.le_refl _), ps_nx rel2 re2 po2⟩

/-! ### while -/
def wloop (c : MT) (b : MS) : Nat → MS
  | 0, _, _ => .stuck
  | n + 1, env, h => SR.of (c env h) env fun t h1 => if t = true then match b env h1 with
      | .nx e2 h2 => wloop c b n e2 h2
      | .ct e2 h2 => wloop c b n e2 h2
      | .bk e2 h2 => .nx e2 h2
      | r => r
    else .nx env h1
def mWhile (fuel : Nat) (c : MT) (b : MS) : MS := wloop c b fuel
theorem fs_while (fuel : Nat) (hp : PassesOwn (model X.prog X.w) X.A X.env X.xe) (hc : FT X W ex c tc) (hb : FSs X W ex body msb) : FS X W ex (.While c body [] pos) (mWhile fuel tc msb) := by
  refine PS.imp (ps_while hp hc hb) fun D σ H q => ?_
  obtain ⟨ι, h, env, rel, re, po⟩ := q
  refine ⟨fun m σ2 H2 => ∃ ι2 h2 env2, Rel (wo X) ι2 H2 h2 ∧ REn (wo X) ex ι2 H2 env2 σ2 ∧ PostS (wo X) ex W ι2 H2 (wloop tc msb m env2 h2) D, ⟨fuel, ι, h, env, rel, re, po⟩, ?_⟩
  rintro m σ2 H2 ⟨ι2, h2, env2, rel2, re2, po2⟩
  cases m with
  | zero => exact po2.elim
  | succ m =>
    unfold wloop at po2
    refine ⟨ι2, h2, env2, rel2, re2, post_of re2 po2 fun t h3 ι3 H3 t' eq3 p3 k3 rel3 rv3 po3 => ?_⟩
    cases rv3
    cases t with
    | false => exact iteF (ps_nx rel3 (re2.mono p3 k3) po3)
    | true =>
      refine iteT ⟨fun σ' H' => ∃ ι2 h2 env2, Rel (wo X) ι2 H' h2 ∧ REn (wo X) ex ι2 H' env2 σ' ∧ PostS (wo X) ex W ι2 H' (wloop tc msb m env2 h2) D, fun σ' H' n => ⟨m, Nat.lt_succ_self _, n⟩, ι3, h3, env2, rel3, re2.mono p3 k3, ?_⟩
      simp only [if_true] at po3
      generalize msb env2 h3 = z at po3 ⊢
      cases z with
      | nx e5 h5 => exact fun ι' H' σ' a1 a2 a3 a4 => ⟨ι', h5, e5, a3, a4, PostS.mono a1 a2 po3⟩
      | ct e5 h5 => exact fun ι' H' σ' a1 a2 a3 a4 => ⟨ι', h5, e5, a3, a4, PostS.mono a1 a2 po3⟩
      | bk e5 h5 => exact po3
      | rt d h5 => exact po3
      | exc _ _ _ _ _ => exact po3
      | stuck => exact po3

/-! ### comprehensions -/
def wipeE (env : En) : List Nat → En
  | [] => env
  | v :: vs => (wipeE env vs).set v .no
theorem REn.wipe {G : Wo} {ι : List Addr} {H : Hp} {env : En} {σ : St} (r : REn G ex ι H env σ) : ∀ vs : List Nat, REn G ex ι H (wipeE env vs) (L2.wipe σ vs)
  | [] => r
  | v :: vs => (REn.wipe r vs).drop1 v none
def FTs (X : Cx) (W : WX) (ex : Ex) (ifs : List Expr) (m : MT) : Prop := PTs X ifs (rdT (wo X) ex W m)
theorem PTs.imp {ifs : List Expr} {t t' : TT} (p : PTs X ifs t) (h : ∀ σ H Q, t' σ H Q → t σ H Q) : PTs X ifs t' := ⟨fun pins s σ H R I q => p.run pins s σ H R I (h σ H R q)⟩
def mYes : MT := fun _ h => .ok true h
theorem fts_nil : FTs X W ex [] mYes := by
  refine PTs.imp pts_nil fun σ H Q q => ?_
  obtain ⟨ι, h, env, rel, re, po⟩ := q
  exact po_ok rel rfl po
theorem fts_one (hc : FT X W ex c tc) : FTs X W ex [c] tc := pts_one hc
open Classical in
noncomputable def lcloop (chk : M → Prop) (env : En) (g : MG) (tt : MT) (me : ME) (l : Nat) : List D → M → Res D
  | [], h => if chk h then .ok (.loc l) h else .stuck
  | d :: ds, h => if chk h then (g d env h).bind fun env2 h2 => (tt env2 h2).bind fun b h3 => if b = true then (me env2 h3).bind fun y h4 => match h4[l]? with
        | some (.lst acc) => if acc.length < sizeLine then lcloop chk env g tt me l ds (h4.set l (.lst (acc ++ [y]))) else .stuck
        | _ => .stuck
      else lcloop chk env g tt me l ds h3
    else .stuck
/-- own: the slots of the comprehension's own names -/
noncomputable def mLc (own : List Nat) (mi : MI) (g : MG) (tt : MT) (me : ME) : ME := fun env h => (mi env h).bind fun it h1 => lcloop it.chk (wipeE env own) g tt me h1.length it.items (h1 ++ [.lst []])
abbrev WN : WX := fun _ _ _ _ => False
/-- in a block no exception leaves -/
theorem post_WN {α β : Type} {G : Wo} {B : List Addr → Hp → α → β → Prop} {E : WX'} {ι : List Addr} {H : Hp} {r : Res α} {Q : β → Hp → Prop} (h : Post G B E ι H (noX r) Q) {E' : WX'} : Post G B E' ι H r Q := post_noX h
open Classical in
noncomputable def lcloopN (chk : M → Prop) (env : En) (g : MG) (tt : MT) (me : ME) (l : Nat) : List D → M → Res D
  | [], h => if chk h then .ok (.loc l) h else .stuck
  | d :: ds, h => if chk h then (noX (g d env h)).bind fun env2 h2 => (noX (tt env2 h2)).bind fun b h3 => if b = true then (noX (me env2 h3)).bind fun y h4 => match h4[l]? with
        | some (.lst acc) => if acc.length < sizeLine then lcloopN chk env g tt me l ds (h4.set l (.lst (acc ++ [y]))) else .stuck
        | _ => .stuck
      else lcloopN chk env g tt me l ds h3
    else .stuck
noncomputable def mLcN (own : List Nat) (mi : MI) (g : MG) (tt : MT) (me : ME) : ME := fun env h => (mi env h).bind fun it h1 => lcloopN it.chk (wipeE env own) g tt me h1.length it.items (h1 ++ [.lst []])
theorem wipe_idem (vs : List Nat) : ∀ (us : List Nat) (σ : St), (∀ i ∈ us, i ∈ vs) → L2.wipe (L2.wipe σ us) vs = L2.wipe σ vs
  | [], σ, _ => rfl
  | u :: us, σ, hu => by
    show L2.wipe ((L2.wipe σ us).set u none) vs = _
    rw [wipe_set u none vs _ (hu u (by simp))]
    exact wipe_idem vs us σ fun i hi => hu i (by simp [hi])
theorem rd_lc {own : List Nat} {g : MG} {tt : MT} {sl : List Nat} (hsl : ∀ i ∈ sl, i ∈ own) {σ : St} {Q : VK} {E : WX'} {ι1 : List Addr} {H1 : Hp} {h1 : M} {env : En} {it : Itr'} {J : It}
    (jok : JOk (wo X) ι1 H1 J it) (rel1 : Rel (wo X) ι1 H1 h1) (re1 : REn (wo X) ex ι1 H1 env σ)
    (po : Post (wo X) (fun ι H d v => RV (wo X) ι H d v) E ι1 H1 (lcloopN it.chk (wipeE env own) g tt me h1.length it.items (h1 ++ [.lst []])) Q) : ∀ L, H1 L = none → ∃ Wv : Nat → Nat → Hp → Prop, (∃ m, Wv 0 m (upd H1 L (.lst []))) ∧ ∀ i m H, Wv i m H →
      (J.stop i H ∧ Q (.ref L) H) ∨ (J.go i H ∧ ∃ Nx : Hp → Prop, (∀ H', Nx H' → ∃ m', m' < m ∧ Wv (i + 1) m' H') ∧ ∀ x H', J.yld i H x H' → rdG (wo X) ex WN sl g x (L2.wipe σ own) H' fun σ2 H2 => L2.wipe σ2 own = L2.wipe σ own ∧ rdT (wo X) ex WN tt σ2 H2 fun b H3 =>
        if b = true then rdE (wo X) ex WN me σ2 H3 fun y H4 => ∃ acc, H4 L = some (.lst acc) ∧ acc.length < sizeLine ∧ Nx (upd H4 L (.lst (acc ++ [y]))) else Nx H3) := by
  intro L hL
  have p0 : ι1 <+: ι1 ++ [L] := List.prefix_append ..
  have s0 : Same H1 (upd H1 L (.lst [])) := same_upd hL
  have k0 := Keep.of_same s0
  have rel0 : Rel (wo X) (ι1 ++ [L]) (upd H1 L (.lst [])) (h1 ++ [.lst []]) := rel1.push hL ⟨[], upd_same, RVs.nil⟩
  have eL : (ι1 ++ [L])[h1.length]? = some L := by rw [← rel1.len]; simp
  let Inv' : Nat → Hp → Prop := fun i H2 => ∃ ι2 h2, ι1 ++ [L] <+: ι2 ∧ Keep H1 H2 ∧ Rel (wo X) ι2 H2 h2 ∧ REn (wo X) ex ι2 H2 (wipeE env own) (L2.wipe σ own) ∧ Post (wo X) (fun ι H d v => RV (wo X) ι H d v) E ι2 H2 (lcloopN it.chk (wipeE env own) g tt me h1.length (it.items.drop i) h2) Q
  refine ⟨fun i m H2 => m = it.items.length - i ∧ i ≤ it.items.length ∧ Inv' i H2, ⟨it.items.length, by simp, Nat.zero_le _, ι1 ++ [L], h1 ++ [.lst []], List.prefix_refl _, k0, rel0, (re1.mono p0 k0).wipe own, by simpa using Post.mono p0 k0 po⟩, ?_⟩
  rintro i m H2 ⟨rfl, hi2, ι2, h2, p2, k2, rel2, re2, po2⟩
  by_cases hlt : i < it.items.length
  · have ed : it.items[i]? = some it.items[i] := List.getElem?_eq_getElem hlt
    rw [List.drop_eq_getElem_cons hlt] at po2
    unfold lcloopN at po2
    split at po2
    case isFalse => exact po2.elim
    rename_i ck
    obtain ⟨go, yl⟩ := (jok i ι2 H2 h2 (p0.trans p2) k2 rel2 ck).1 _ ed
    refine .inr ⟨go, Inv' (i + 1), fun H' n => ⟨_, by omega, rfl, hlt, n⟩, fun x H' hy => ?_⟩
    obtain ⟨sm, rv⟩ := yl x H' hy
    have k3 := Keep.of_same sm
    have rel3 := rel2.same sm
    have re3 := re2.mono (List.prefix_refl _) k3
    have po3 := Post.mono (List.prefix_refl _) k3 po2
    refine ⟨ι2, h2, wipeE env own, it.items[i], rel3, re3, rv, post_WN (E := E) (post_bind po3 fun env4 h4 ι4 H4 σ4 eq4 p4 k4 rel4 re4 po4 => ?_)⟩
    have hw : L2.wipe σ4 own = L2.wipe (L2.wipe σ own) own := re4.2 own hsl
    have hww : L2.wipe (L2.wipe σ own) own = L2.wipe σ own := wipe_idem own own σ fun _ h => h
    refine ⟨hw.trans hww, ι4, h4, env4, rel4, re4.1, post_WN (E := E) (post_bind po4 fun b h5 ι5 H5 b' eq5 p5 k5 rel5 rv5 po5 => ?_)⟩
    cases rv5
    have back : ∀ {ι6 H6}, ι5 <+: ι6 → Keep H5 H6 → ι1 ++ [L] <+: ι6 ∧ Keep H1 H6 ∧ REn (wo X) ex ι6 H6 (wipeE env own) (L2.wipe σ own) := fun {ι6 H6} a b =>
      ⟨((p2.trans p4).trans p5).trans a, ((((k2.trans k3).trans k4).trans k5).trans b), (((re3.mono p4 k4).mono p5 k5).mono a b)⟩
    cases b with
    | false =>
      refine iteF ?_
      simp only [Bool.false_eq_true, if_false] at po5
      obtain ⟨b1, b2, b3⟩ := back (List.prefix_refl _) (Keep.refl _)
      exact ⟨ι5, h5, b1, b2, rel5, b3, po5⟩
    | true =>
      refine iteT ?_
      simp only [if_true] at po5
      refine ⟨ι5, h5, env4, rel5, re4.1.mono p5 k5, post_WN (E := E) (post_bind po5 fun y h6 ι6 H6 yv eq6 p6 k6 rel6 rv6 po6 => ?_)⟩
      split at po6
      case h_2 => exact po6.elim
      rename_i acc ea
      split at po6
      case isFalse => exact po6.elim
      rename_i hz
      obtain ⟨b1, b2, b3⟩ := back p6 k6
      have eL6 : ι6[h1.length]? = some L := pre_get b1 eL
      obtain ⟨vs, ev, r⟩ := rel6.at ea eL6
      have hl := RVs.length r
      have w := rel6.write (o := .lst (acc ++ [y])) (u := .lst (vs ++ [yv])) eL6 ⟨_, upd_same, by
        have k7 : Keep H6 (upd H6 L (.lst (vs ++ [yv]))) := by
          obtain ⟨u0, e0, nf, mu⟩ := rel6.tracked eL6
          exact fun b o' eb f => by
            have : b ≠ L := fun z => by rw [z, e0] at eb; cases eb; exact nf f
            rw [upd_ne this]; exact eb
        exact RVs.mono (List.prefix_refl _) k7 _ _ (r.append (RVs.one rv6))⟩
      refine ⟨vs, ev, by omega, ι6, h6.set h1.length (.lst (acc ++ [y])), b1, b2.trans w.2, w.1, b3.mono (List.prefix_refl _) w.2, Post.mono (List.prefix_refl _) w.2 po6⟩
  · have e : i = it.items.length := by omega
    subst e
    simp only [List.drop_length] at po2
    unfold lcloopN at po2
    split at po2
    case isFalse => exact po2.elim
    rename_i ck
    refine .inl ⟨(jok _ ι2 H2 h2 (p0.trans p2) k2 rel2 ck).2 (Nat.le_refl _), ?_⟩
    refine po_ok rel2 ?_ po2
    simp only [RV]
    exact ⟨L, rfl, pre_get p2 eL⟩
variable {elt : Expr} {ifs : List Expr} {scope : Scope} {tt : MT} {spos py : Pos} {y : Str}
theorem fe_lc (own : List (Str × Nat)) (hN : X.N.Nodup) (hi : FI X W ex tg iter mi) (ok : BlkOk X.N X.env.scope scope own)
    (hg : ∀ (s : Shared) (H : Hp) (C : Addr) (cl : List (Str × Addr)) (fp : List Addr), FG (X.blk s H scope (compEnvC scope cl C X.env) fp) WN ex tg sl g)
    (ht : ∀ (s : Shared) (H : Hp) (C : Addr) (cl : List (Str × Addr)) (fp : List Addr), FTs (X.blk s H scope (compEnvC scope cl C X.env) fp) WN ex ifs tt)
    (he : ∀ (s : Shared) (H : Hp) (C : Addr) (cl : List (Str × Addr)) (fp : List Addr), FE (X.blk s H scope (compEnvC scope cl C X.env) fp) WN ex elt me)
    (hsl : ∀ i ∈ sl, i ∈ own.map (·.2) := by decide) (hc : X.calm = true := by rfl) (hs : ∀ x, foldedSetIterable iter X.env x = pure x := by intro _; rfl) : FE X W ex (.ListComp elt [⟨tg, iter, ifs, 0⟩] scope pos) (mLcN (own.map (·.2)) mi g tt me) := by
  refine PE.imp (pe_lc (g := rdG (wo X) ex WN sl g) (tt := rdT (wo X) ex WN tt) (te := rdE (wo X) ex WN me) hc hN hi ok hg ht he hs) fun σ H Q q => ?_
  obtain ⟨ι, h, env, rel, re, po⟩ := q
  exact ⟨ι, h, env, rel, re, post_bind po fun it h1 ι1 H1 J eq1 p1 k1 rel1 jok po1 => rd_lc hsl jok rel1 (re.mono p1 k1) po1⟩
theorem fs_setLc {i : Nat} (own : List (Str × Nat)) (hN : X.N.Nodup) (hi : FI X W ex tg iter mi) (ok : BlkOk X.N X.env.scope scope own)
    (hg : ∀ (s : Shared) (H : Hp) (C : Addr) (cl : List (Str × Addr)) (fp : List Addr), FG (X.blk s H scope (compEnvC scope cl C X.env) fp) WN ex tg sl g)
    (ht : ∀ (s : Shared) (H : Hp) (C : Addr) (cl : List (Str × Addr)) (fp : List Addr), FTs (X.blk s H scope (compEnvC scope cl C X.env) fp) WN ex ifs tt)
    (he : ∀ (s : Shared) (H : Hp) (C : Addr) (cl : List (Str × Addr)) (fp : List Addr), FE (X.blk s H scope (compEnvC scope cl C X.env) fp) WN ex elt me)
    (hsw : swapsWith (.ListComp elt [⟨tg, iter, ifs, 0⟩] scope pos) (some (.Name y py)) spos.line X.env = pure true)
    (hsl : ∀ i ∈ sl, i ∈ own.map (·.2) := by decide) (hy : X.N[i]? = some y := by rfl) (hyl : X.env.scope.names.lookup y = some .local := by rfl) (hc : X.calm = true := by rfl) (hs : ∀ x, foldedSetIterable iter X.env x = pure x := by intro _; rfl) :
    FS X W ex (.Assign [.Name y py] (.ListComp elt [⟨tg, iter, ifs, 0⟩] scope pos) spos) (mSet i (mLcN (own.map (·.2)) mi g tt me)) := by
  refine PS.imp (ps_setLc (g := rdG (wo X) ex WN sl g) (tt := rdT (wo X) ex WN tt) (te := rdE (wo X) ex WN me) hc hN hy hyl hsw hi ok hg ht he hs) fun D σ H q => ?_
  obtain ⟨ι, h, env, rel, re, po⟩ := q
  have po' := post_of (σ := σ) (B := fun ι H d v => RV (wo X) ι H d v) (Q := fun z H2 => D.nx (σ.set i (some z)) H2) re po fun z h2 ι2 H2 zv eq2 p2 k2 rel2 rv2 po2 => ps_nx rel2 ((re.mono p2 k2).set i rv2) po2
  exact ⟨ι, h, env, rel, re, post_bind po' fun it h1 ι1 H1 J eq1 p1 k1 rel1 jok po1 => rd_lc hsl jok rel1 (re.mono p1 k1) po1⟩
end
end LF
set_option Elab.async false
set_option linter.all false
set_option maxRecDepth 100000
set_option maxHeartbeats 4000000
/-! LF7: constants folded, truth, chains; what a proof of a law begins and ends with. -/
namespace LF
open PySem PySem.Spec L2
open PyProof.Rows hiding St
section
variable {X : Cx} {W : WX} {ex : Ex} {tg e a b c i o iter : Expr} {es : List Expr} {ma mb mc me ml : ME} {mas : MA} {pos pos' p : Pos} {x : Str}
theorem FE.to {m m' : ME} (h : FE X W ex e m) (he : ∀ env h, m env h = m' env h) : FE X W ex e m' := by
  have : m = m' := funext fun env => funext fun h => he env h
  rw [← this]; exact h
/-! ### constants -/
variable {k j v : Int}
theorem fk_add (ha : FE X W ex a (mC (.int k))) (hb : FE X W ex b (mC (.int j))) (hv : k + j = v) : FE X W ex (.BinOp a .Add b pos) (mC (.int v)) := by
  subst hv; exact (fe_add ha hb).to fun _ _ => rfl
theorem fk_sub (ha : FE X W ex a (mC (.int k))) (hb : FE X W ex b (mC (.int j))) (hv : k - j = v) : FE X W ex (.BinOp a .Sub b pos) (mC (.int v)) := by
  subst hv; exact (fe_sub ha hb).to fun _ _ => by simp [m2, mC, fSub, fI]
theorem fk_mul (ha : FE X W ex a (mC (.int k))) (hb : FE X W ex b (mC (.int j))) (hc : CMulW k j) (hv : k * j = v) : FE X W ex (.BinOp a .Mult b pos) (mC (.int v)) := by
  subst hv; exact (fe_mul ha hb).to fun _ _ => by simp [m2, mC, fMul, hc]
theorem fk_neg (ha : FE X W ex a (mC (.int k))) (hv : -k = v) : FE X W ex (.UnaryOp .USub a pos) (mC (.int v)) := by
  subst hv; exact (fe_neg ha).to fun _ _ => rfl
def CPowW (i j : Int) : Prop := 0 ≤ j ∧ (Builtin.Int.intBits i : Int) * j ≤ 2 ^ 27
instance (i j : Int) : Decidable (CPowW i j) := by unfold CPowW; infer_instance
theorem op_powW : OpR X (binaryOp .Pow) (rI CPowW fun i j => .int (i ^ j.toNat)) := opI fun _ _ _ _ _ _ _ hc q => pow_int hc.1 hc.2 q
def fPowW := fI CPowW fun i j => .int (i ^ j.toNat)
theorem fe_powW (ha : FE X W ex a ma) (hb : FE X W ex b mb) : FE X W ex (.BinOp a .Pow b pos) (m2 fPowW ma mb) := fe_op op_powW (ab_I fun _ _ _ _ => by simp [RV]) ha hb
theorem fk_pow (ha : FE X W ex a (mC (.int k))) (hb : FE X W ex b (mC (.int j))) (hc : CPowW k j) (hv : k ^ j.toNat = v) : FE X W ex (.BinOp a .Pow b pos) (mC (.int v)) := by
  subst hv; exact (fe_powW ha hb).to fun _ _ => by simp [m2, mC, fPowW, fI, hc]

/-! ### truth -/
def truD (h : M) : D → Option Bool
  | .non => some false
  | .bl b => some b
  | .int i => some (i != 0)
  | .str y => if y.length ≤ sizeLine then some ((y.length : Int) != 0) else none
  | .tup xs => some !xs.isEmpty
  | .ct xs => some !xs.isEmpty
  | .cl xs => some !xs.isEmpty
  | .loc l => match h[l]? with
    | some (.lst xs) => some !xs.isEmpty
    | some (.dK kvs) => some !kvs.isEmpty
    | _ => none
  | _ => none
theorem isEmpty_len {α β : Type} {xs : List α} {ys : List β} (h : xs.length = ys.length) : xs.isEmpty = ys.isEmpty := by
  cases xs <;> cases ys <;> simp at h ⊢
theorem truD_ok {G : Wo} {ι : List Addr} {H : Hp} {h : M} {d : D} {v : V} {t : Bool} (rel : Rel G ι H h) (r : RV G ι H d v) (e : truD h d = some t) : TruV G.K v H t := by
  cases d with
  | non => cases e; simp only [RV] at r; subst r; rfl
  | bl _ => cases e; simp only [RV] at r; subst r; rfl
  | int _ => cases e; simp only [RV] at r; subst r; rfl
  | str y =>
    simp only [truD] at e
    split at e
    · cases e; simp only [RV] at r; subst r; exact ⟨‹_›, rfl⟩
    · cases e
  | tup xs =>
    cases e
    obtain ⟨a, vs, rfl, s, r⟩ := tupOf_sq (xs := xs) r rfl
    exact .inr (.inl ⟨vs, s, by rw [isEmpty_len (RVs.length r)]⟩)
  | ct xs =>
    cases e
    obtain ⟨a, vs, rfl, s, r⟩ := tupOf_sq (xs := xs) r rfl
    exact .inr (.inl ⟨vs, s, by rw [isEmpty_len (RVs.length r)]⟩)
  | cl xs =>
    cases e
    obtain ⟨a, vs, rfl, s, r⟩ := lstOf_sq (xs := xs) rel r rfl
    exact .inl ⟨vs, s, by rw [isEmpty_len (RVs.length r)]⟩
  | loc l =>
    simp only [truD] at e
    split at e
    · rename_i xs e1
      cases e
      obtain ⟨a, vs, rfl, _, q, r⟩ := at_lst rel r e1
      exact .inl ⟨vs, SqL.of q, by rw [isEmpty_len (RVs.length r)]⟩
    · rename_i kvs e1
      cases e
      obtain ⟨a, vs, rfl, _, q, r⟩ := at_dK rel r e1
      exact .inr (.inr ⟨vs, q, by rw [isEmpty_len (RKs.len r)]⟩)
    · cases e
  | _ => cases e
def fTru (d : D) (h : M) : Res Bool := match truD h d with | some b => .ok b h | none => .stuck
@[simp] theorem fTru_bl {b : Bool} {h : M} : fTru (.bl b) h = .ok b h := (rfl)
def mTru (ma : ME) : MT := fun env h => (ma env h).bind fTru
theorem ft_tru (ha : FE X W ex a ma) (he : ∀ whole, isTrue a X.env whole = (do let v ← whole; standAt a.pos; holding [v] (truthy v)) := by intro _; rfl) : FT X W ex a (mTru ma) := by
  refine PT.imp (pt_truth ha he) fun σ H Q q => ?_
  obtain ⟨ι, h, env, rel, re, po⟩ := q
  refine ⟨ι, h, env, rel, re, post_bind po fun x h1 ι1 H1 v eq1 p1 k1 rel1 rv1 po1 => ?_⟩
  unfold fTru at po1
  split at po1
  · rename_i t e1
    exact ⟨t, truD_ok rel1 rv1 e1, po_ok rel1 rfl po1⟩
  · exact po1.elim

/-! ### chains -/
def mChain (f f' : D → D → M → Res D) (ma mb mc : ME) : ME := fun env h => (ma env h).bind fun x h1 => (mb env h1).bind fun y h2 => (f x y h2).bind fun z h3 => (asB z h3).bind fun t h3 => if t = true then (mc env h3).bind fun u h4 => f' y u h4 else .ok (.bl false) h3
/-- ints' order: what a chain's operator asks -/
theorem rd_chain {G : Wo} {g g' : Int → Int → Bool} {σ : St} {H : Hp} {Q : VK} (q : rdE G ex W (mChain (fI (fun _ _ => True) fun i j => .bl (g i j)) (fI (fun _ _ => True) fun i j => .bl (g' i j)) ma mb mc) σ H Q) :
    tChain (rI0 fun i j => .bl (g i j)) (rI0 fun i j => .bl (g' i j)) (rdE G ex W ma) (rdE G ex W mb) (rdE G ex W mc) σ H Q := by
  obtain ⟨ι, h, env, rel, re, po⟩ := q
  refine ⟨ι, h, env, rel, re, post_bind po fun x h1 ι1 H1 v eq1 p1 k1 rel1 rv1 po1 => ?_⟩
  refine ⟨ι1, h1, env, rel1, re.mono p1 k1, post_bind po1 fun y h2 ι2 H2 u eq2 p2 k2 rel2 rv2 po2 => ?_⟩
  have rv1 := RV.mono p2 k2 _ _ rv1
  cases x <;> (try exact po2.elim)
  cases y <;> (try exact po2.elim)
  simp only [RV] at rv1 rv2
  subst rv1; subst rv2
  simp only [fI, if_true, bind_ok, asB_bl] at po2
  refine ⟨_, _, rfl, rfl, _, rfl, ?_⟩
  split
  · rename_i ht
    rw [if_pos ht] at po2
    refine ⟨ι2, h2, env, rel2, (re.mono p1 k1).mono p2 k2, post_bind po2 fun w h3 ι3 H3 wv eq3 p3 k3 rel3 rv3 po3 => ?_⟩
    cases w <;> (try exact po3.elim)
    simp only [RV] at rv3
    subst rv3
    simp only [fI, if_true] at po3
    exact ⟨_, _, rfl, rfl, po_ok rel3 (by simp [RV]) po3⟩
  · rename_i ht
    rw [if_neg ht] at po2
    exact po_ok rel2 (by simp [RV]) po2

/-! ### a def's own contexts -/
section
variable {P : Program} {w : World} {K : PySem.W.Frag} {mg : Str → Option Value} {base : Heap} {N : List Str} {qual : Str} {sc : Scope} {f : Addr} {cd : Value} {A : Around} {outer : List Env} {s : Shared} {H : Hp} {E : XK}
theorem tkD : Takes (cxOf (L2.CX P w) P w K mg base N qual sc f cd A outer s H E) (fun c d _ H => E c d H) := takes_of rfl rfl rfl rfl
theorem poD : PassesOwn (model P w) (cxOf (L2.CX P w) P w K mg base N qual sc f cd A outer s H E).A (cxOf (L2.CX P w) P w K mg base N qual sc f cd A outer s H E).env (cxOf (L2.CX P w) P w K mg base N qual sc f cd A outer s H E).xe := passes_of rfl
end
theorem tkN : Takes X WN := takes0
end
/-- where a def of the text stands -/
structure FnAt (K : PySem.W.Frag) (mg : Str → Option Value) (x qual : Str) (st : Stmt) (ps : List Str) : Prop where
  ex : ∃ f fd, Fun K x qual st f fd ∧ mg x = some (.ref f) ∧ ∀ us : List Value, us.length = ps.length → bindArgs fd ⟨us, []⟩ = pure (ps.zip us)
theorem defOf {P : Program} {w : World} {K : PySem.W.Frag} {mg : Str → Option Value} {base : Heap} {x qual : Str} {st : Stmt} {N ps : List Str} {k : Nat} {mb : MS} (T : FnAt K mg x qual st ps) (S : FnScope N ps (defScope st))
    (body : ∀ (f : Addr) (cdv : Value) (A : Around) (outer : List Env) (s : Shared) (H : Hp) (E : XK), Room k (A.deeper (envOfC qual (defScope st) s.heap.objs.size f cdv)) →
      FSs (cxOf (L2.CX P w) P w K mg base N qual (defScope st) f cdv A outer s H E) (fun c d _ H => E c d H) none (defBody st) mb) : Def P w K mg base x (k + 1) ps.length (mFn N.length ps.length mb) := by
  obtain ⟨f, fd, F, gx, hb⟩ := T.ex
  exact def_of F S gx (.all hb) (body f)
theorem fnAt_mk {K : PySem.W.Frag} {h : Heap} {mg : Str → Option Value} (XK : K.In h) (G : h.Ns mainGlobals mg) {x : Str} {st : Stmt} {ps : List Str} {f : Addr} {oc : Value} {od an : Option Addr} {osl : Array (Option Value)} {kV doc pm cdv ct : Value}
    (hb : ∀ (kV doc pm : Value) (an : Option Addr) (cdv ct : Value) (us : List Value), us.length = ps.length → bindArgs (PySem.W.fnOf x x (defArgs st) (defBody st) (defScope st) .none kV doc pm an cdv ct) ⟨us, []⟩ = pure (ps.zip us))
    (a : PySem.W.nsIn K mainGlobals x = some (some (.ref f))) (l : K.lookup f = some ⟨oc, od, .func (PySem.W.fnOf x x (defArgs st) (defBody st) (defScope st) .none kV doc pm an cdv ct), osl⟩)
    (c : PySem.W.codeIn K cdv x = true) (k : PySem.W.keepIn K (.ref f) = true) : FnAt K mg x x st ps :=
  ⟨f, _, fun_mk (st := st) l c k, PySem.W.mg_of XK G a, hb kV doc pm an cdv ct⟩
/-- what the law's call is handed -/
def spL (K : PySem.W.Frag) : Sp := fun vs H Q _ => ∃ (a : Addr) (ns : List Int), vs = [.ref a] ∧ ns.length ≤ 63 ∧ (∀ z ∈ ns, Builtin.Int.intBits z ≤ 1048576) ∧ Only H ∧ SqL K H a (ns.map V.int) ∧ ∀ H', Q (.bl true) H'
/-- the mathematics' last word -/
def LawHolds (m : List D → M → Res D) : Prop := ∀ ns : List Int, ns.length ≤ 63 → (∀ z ∈ ns, Builtin.Int.intBits z ≤ 1048576) → ∃ h', m [.cl (ns.map D.int)] [] = .ok (.bl true) h'
theorem law_in {K : PySem.W.Frag} {mg : Str → Option Value} {m : List D → M → Res D} (hm : LawHolds m) (vs : List V) (H : Hp) (Q : VK) (E : XK) (h : spL K vs H Q E) : spF ⟨K, mg⟩ 1 m vs H Q E := by
  obtain ⟨a, ns, rfl, hl, hbits, hO, hS, hQ⟩ := h
  refine ⟨rfl, [], [], [.cl (ns.map D.int)], ⟨rfl, fun i j b h _ => by simp at h, fun l o h => by simp at h⟩, RVs.one ?_, ?_⟩
  · simp only [RV]
    refine ⟨a, ns.map V.int, rfl, ?_, ?_⟩
    · rcases hS with (h | ⟨o, h⟩) | h
      · exfalso
        rcases hO a with z | ⟨o, xs, z⟩
        · rw [z] at h; cases h
        · rw [z] at h; cases h
      · exact .inl ⟨o, h⟩
      · exact .inr h
    · clear hS hm hl hbits
      induction ns with
      | nil => exact RVs.nil
      | cons n ns ih => exact RVs.cons (by simp [RV]) ih
  · obtain ⟨h', e⟩ := hm ns hl hbits
    rw [e]
    intro ι' H' v _ _ _ rv
    simp only [RV] at rv
    subst rv
    exact hQ H'
theorem cx_none {P : Program} {w : World} (H : Hp) (s : Shared) (e : Value) (s' : Shared) (h : L2.CX P w [] H s (fun _ _ _ => False) e s') : False := by
  obtain ⟨_, _, _, _, _, _, _, _, _, _, _, _, z⟩ := h
  exact z.elim
/-- the law's own def -/
theorem lawOf {P : Program} {w : World} {K : PySem.W.Frag} {mg : Str → Option Value} {st : Stmt} {N : List Str} {k : Nat} {mb : MS} {fa : Addr} (T : FnAt K mg "law" "law" st ["script"]) (hmg : mg "law" = some (.ref fa)) (S : FnScope N ["script"] (defScope st))
    (body : ∀ (base : Heap) (f : Addr) (cdv : Value) (A : Around) (outer : List Env) (s : Shared) (H : Hp) (E : XK), Room k (A.deeper (envOfC "law" (defScope st) s.heap.objs.size f cdv)) →
      FSs (cxOf (L2.CX P w) P w K mg base N "law" (defScope st) f cdv A outer s H E) (fun c d _ H => E c d H) none (defBody st) mb) (hm : LawHolds (mFn N.length 1 mb)) :
    ∃ fd : FuncData, (∀ (s : Shared) (u : Value), BindsTo s fd ⟨[u], []⟩ [(("script" : Str), u)]) ∧ ∀ base : Heap, K.In base → base.Ns mainGlobals mg → FnOk P w K mg base (L2.CX P w) (k + 1) fa fd ["script"] (spL K) := by
  obtain ⟨f, fd, F, gx, hb⟩ := T.ex
  cases gx.symm.trans hmg
  refine ⟨fd, fun s u => .of_eq (hb [u] rfl), fun base _ _ => FnOk.imp (sp := spF ⟨K, mg⟩ 1 (mFn N.length 1 mb)) (F.okX S (fun vs H Q E h => h.1) fun cdv A outer s H vs Q E hr hsp => ⟨_, body base fa cdv A outer s H E hr, ?_⟩) fun vs H Q E h => law_in hm vs H Q E h⟩
  exact body_end (ps := ["script"]) hsp
/-- the end of a law's row -/
theorem law_walk {l : PySem.W.OpenLaw} {k : Nat} {q : Program} {loose : List Str} {XP : (Str → Option Value) → Heap → Prop} {YP : World → Heap → Prop} {d : DefRec} {K : Params → PySem.W.Frag}
    (hn : l.most = some 63) (hdf : d.params.defaults = []) (hr : Room k callerA) (hY : ∀ (w : World) (h : Heap), YP w h → (K w.params).In h)
    (F : ∀ (w : World) (mg : Str → Option Value) (fa : Addr) (h : Heap), (K w.params).In h → h.Ns mainGlobals mg → mg d.name = some (.ref fa) → ∃ fd : FuncData, (∀ (s : Shared) (u : Value), BindsTo s fd ⟨[u], []⟩ [(("script" : Str), u)]) ∧
        ∀ base : Heap, (K w.params).In base → base.Ns mainGlobals mg → FnOk l.prog w (K w.params) mg base (L2.CX l.prog w) k fa fd ["script"] (spL (K w.params))) :
    PySem.W.WalkO q loose XP YP l.row.toRowW d [] (fun f vs => PySem.call f vs) :=
  walk_ofB (n := 63) (CX := fun w => L2.CX l.prog w) (sp := fun w => spL (K w.params)) hn (by decide) hdf hr hY F
    (fun w H a ns h1 h2 h3 h4 => ⟨a, ns, rfl, h1, h2, h3, h4, fun _ => rfl⟩) fun w H s e s' z => cx_none H s e s' z
end LF
set_option Elab.async false
set_option linter.all false
set_option maxRecDepth 100000
set_option maxHeartbeats 4000000
/-! LFX: own exceptions: made, raised, caught. -/
namespace LF
open PySem PySem.Spec L2
open NdefX (NF NScope CellsAt startF ncx envF inv_startN)
open PyProof.Rows hiding St
section
open PySem.W
variable {prog : Program} {w : World} {A : Around} {E : Value → Shared → Prop} {h : Heap} {g : Array GenState} {d : Drawn} {t : Nat} {os : OsState}
variable {nm q : Str} {C N : Addr} {bs bm : List Value} {hdct : Bool} {sn : List Str} {sub : List Value} {ab : Bool} {col : Option Bool} {dd : Option Addr} {k0 k1 k2 k3 k5 : Option Value}
/-- the bound __init__ of ValueError, called -/
theorem call_mw {u e t0 : Addr} {rest : List Value} {Q : Value → Shared → Prop}
    (hC : h.get? C = some (excClassObj nm q C N bs bm hdct sn sub ab col dd k0 k1 k2 k3 k5 "ValueError.__new__")) (he : h.get? e = some (HandSPX.excO C t0)) (hu : h.get? u = some (kxs_mw "ValueError.__init__" e)) (hrest : rest.length ≤ sizeLine)
    (hq : ∀ h' t1, (∀ b o, b ≠ e → h.get? b = some o → h'.get? b = some o) → h'.get? e = some (HandSPX.excO C t1) → Q .none ⟨h', g, d, t, os⟩) :
    wpAny (model prog w) A (call (.ref u) rest) Q E ⟨h, g, d, t, os⟩ := by
  refine wpAny_call (codeAny_of_tree ?_)
  show wpAny _ A.in1 (callAny (.ref u) ⟨rest, []⟩) _ _ _
  simp only [callAny]
  refine wpAny_bind (wpAny_load hu ?_)
  simp only [kxs_mw, show (Value.type "method-wrapper" == Value.type "method" || Value.type "method-wrapper" == Value.type "builtin_function_or_method" || Value.type "method-wrapper" == Value.type "method-wrapper") = true by decide, if_true]
  refine KFB.if_so (by decide) ?_
  refine wpAny_bind (check_bound_init F.excBase_ValueError.toExcCallFacts hC he rfl ?_)
  refine wpAny_bind (wpAny_pure (wpAny_pure ?_))
  refine ⟨plainId_quiet F.excBase_ValueError.init.plain _, codeAny_builtin F.excBase_ValueError.initEntry ?_⟩
  rw [Around.under_plainId F.excBase_ValueError.init.plain _]
  wp_walk
  refine hq _ h.objs.size (fun b o hb ho => ?_) ?_
  · rw [Heap.get?_update_other _ _ (Ne.symm hb)]
    exact Heap.get?_push_of_some _ ho
  · rw [Heap.get?_update_self _ (Heap.get?_push_of_some _ he) rfl]
    rfl
end
/-- what the written part says around super().__init__ in the __init__ of the class at D, of an instance of the class at C -/
structure SupK (P : Program) (K : PySem.W.Frag) (mg : Str → Option Value) (C D f cc : Addr) (cdv : Value) (sf : Str) : Prop where
  fn : ∃ oc od fd osl ar, K.lookup f = some ⟨oc, od, .func fd, osl⟩ ∧ (fd.params.posonlyargs ++ fd.params.args).head? = some ar ∧ ar.arg = sf
  code : ∃ cda ccl cdd vs ccs file tf, cdv = .ref cda ∧ K.lookup cda = some ⟨ccl, cdd, .fields vs, ccs⟩ ∧ vs[2]? = some (.str file tf) ∧ ((P.main.file : Str) == file) = true
  top : (P.main.scope.names.lookup ("super" : Str)).isSome = false
  cell : ∃ cl cld csl, K.lookup cc = some ⟨cl, cld, .cell (some (.ref D)), csl⟩
  cls : (PySem.W.clsIn K D).isSome = true
  sub : PySem.W.mroIn K C (.ref D) = some true
  glob : mg "super" = none
  ini : PySem.W.ks_superIn K C D "__init__" = some (some (.builtin "ValueError.__init__"))
  nost : PySem.W.nsIn K cStatics "thirdparty.any" = some none
  ve : PySem.W.subIn K (.ref C) (.type "ValueError") = some true
section
variable {X : Cx} {pins : List (Addr × Obj)} {σ : St} {H : Hp} {s : Shared} {a C D f cc : Addr} {sf : Str} {m : Str} {body : List Stmt} {p0 p1 p2 p3 p4 p5 : Pos} {j : Nat} {Q : Flow → Shared → Prop} {pl : Sem Bool}
theorem super_init (S : SupK X.prog X.K X.mg C D f cc X.env.code sf) (T : OexC X.K C) (I : Inv X pins σ H s) (e : H a = some (exo a C none)) (hks : X.env.kindOf "super" = some .globalImplicit) (hkc : X.env.kindOf "__class__" = some .free) (hfu : X.env.func = some f)
    (hcl : X.env.cells.lookup ("__class__" : Str) = some cc) (hN : X.N[0]? = some sf) (hσ : σ[0]? = some (some (.ref a))) (hsf : X.env.kindOf sf = some .local) (hq : ∀ s', Inv X pins σ H s' → Q .next s')
    (hs : swapsWith (.Call (.Attribute (.Call (.Name "super" p0) [] [] p1) "__init__" p2) [.Constant (.str m) j p3] [] p4) none p5.line X.env = pure false := by rfl) (he : starEach [.Constant (.str m) j p3] X.env = (false, eval (.Constant (.str m) j p3) X.env) :: starEach [] X.env := by rfl)
    (hev : eval (.Call (.Attribute (.Call (.Name "super" p0) [] [] p1) "__init__" p2) [.Constant (.str m) j p3] [] p4) X.env = (do
      let ov ← attributeBase (.Call (.Name "super" p0) [] [] p1) "__init__" X.env (eval (.Call (.Name "super" p0) [] [] p1) X.env)
      standAt p2.atName
      let (f, first) ← holding [ov] (getMethod ov "__init__" pl)
      callWith p4 f first (backTo p4 (starEach [.Constant (.str m) j p3] X.env)) []) := by rfl) :
    PySem.wpAt (model X.prog X.w) X.A (.func body X.env) (exec (.Expr (.Call (.Attribute (.Call (.Name "super" p0) [] [] p1) "__init__" p2) [.Constant (.str m) j p3] [] p4) p5) X.env) Q X.xe s := by
  obtain ⟨oc, od, fd, osl, ar, hf, hp, har⟩ := S.fn
  obtain ⟨cda, ccl, cdd, vs, ccs, file, tf, hco, hcode, hvs, hfile⟩ := S.code
  obtain ⟨cl, cld, csl, hcell⟩ := S.cell
  obtain ⟨cdD, hD⟩ := Option.isSome_iff_exists.mp S.cls
  obtain ⟨oD, hD1, hD2⟩ : ∃ oD, X.K.lookup D = some oD ∧ oD.data = .cls cdD := by
    unfold PySem.W.clsIn at hD
    split at hD
    · rename_i c d cd' sl ho
      cases hD
      exact ⟨_, ho, rfl⟩
    · cases hD
  have hk := I.ok.kind
  have X1 := I.kIn
  obtain ⟨t1, hoe⟩ := exo_at I.hok e
  obtain ⟨nm, q, N, bs, bm, sn, sub, ab, col, dd, k0, k1, k2, k3, k5, hC, hbm⟩ := T.cls
  have hclC : PySem.W.clsIn X.K C = some { name := nm, bases := bs, mro := .ref C :: bm, ns := N, qualname := q, hasDict := true, slotNames := sn, subclasses := sub, abstract := ab, collection := col, hasDel := false } := by unfold PySem.W.clsIn; rw [hC] <;> rfl
  refine PySem.ks_wpAt_Expr_any (PySem.ks_wpAt_MethodCall ?_ hev) (I.quiet) hs
  refine PySem.ks_wpAt_super_base hks hkc rfl hfu (X1 _ _ hf) rfl hp hco (X1 _ _ hcode) rfl hvs hfile S.top ?_
  obtain ⟨mb, hb1, hb2⟩ := I.mod.blt
  refine PySem.W.ks_loadName_global hk hks (Calls.loadGlobal_builtin (by rw [I.ok.glob]; exact I.mod.glob.keeps I.bk) S.glob (by rw [I.ok.blt]; exact hb1.keeps I.bk) ((hb2 _ (by decide)).trans (by decide +kernel)) ⟨rfl, ?_⟩)
  refine wpAny_loadName_free hk hkc hcl ⟨_, X1 _ _ hcell, rfl⟩ ?_
  obtain ⟨ml, hn, hl⟩ := I.loc
  obtain ⟨u, ru, hu⟩ := hl 0 sf (.ref a) hN hσ (.inl hsf)
  obtain rfl : u = Value.ref a := ru
  have hml : ml sf = some (.ref a) := by
    rcases hu with ⟨_, h⟩ | ⟨h | h, _⟩
    · exact h
    · rw [hsf] at h; cases h
    · rw [hsf] at h; cases h
  rw [har]
  refine wpAny_loadName_local hk hsf hn hml ?_
  obtain ⟨hh, g, d, t, os⟩ := s
  refine PySem.ks_wpAny_isType_cls (X1 _ _ hD1) hD2 ⟨rfl, ?_⟩
  refine PySem.ks_wpAny_call_super (X1 _ _ hD1) hD2 hoe rfl (fun c z => by cases z) (PySem.W.looks_mroIn X1 S.sub) (fun h' e' k => ?_)
  have I2 : Inv X pins σ H ⟨h', g, d, t, os⟩ := I.kept (t' := t) k
  have X2 := I2.kIn
  have hoe2 := k _ _ hoe
  have IA : PySem.W.InstAt h' a _ C none := ⟨hoe2, rfl, rfl, trivial⟩
  have hsup := S.ini
  unfold PySem.W.ks_superIn at hsup
  rw [hclC] at hsup
  refine PySem.W.kxs_getMethod PySem.W.kxs_ValueError e' (PySem.W.looks_opaque X2 S.nost) (l₀ := .ref C :: bm) ?_ rfl X2 hsup (IA.type.andThen (PySem.W.looks_subIn X2 S.ve)) (PySem.W.ks_ne X2 IA hclC) (by decide) ?_
  · exact fun A Q E s k q => wpAny_bind ((PySem.W.looks_clsIn X2 hclC) A _ E s k (wpAny_pure q))
  have k3' : ∀ b o, h'.get? b = some o → (h'.push (PySem.W.kxs_mw "ValueError.__init__" a)).get? b = some o := fun b o z => Heap.get?_push_of_some _ z
  have I3 : Inv X pins σ H ⟨h'.push (PySem.W.kxs_mw "ValueError.__init__" a), g, d, t + 1, os⟩ := I2.kept (t' := t + 1) k3'
  have hw : (h'.push (PySem.W.kxs_mw "ValueError.__init__" a)).get? h'.objs.size = some (PySem.W.kxs_mw "ValueError.__init__" a) := Heap.get?_push_at rfl rfl
  have nH : H h'.objs.size = none := I2.hok.fresh (Nat.le_refl _)
  have I4 : Inv X ((h'.objs.size, PySem.W.kxs_mw "ValueError.__init__" a) :: pins) σ H ⟨h'.push (PySem.W.kxs_mw "ValueError.__init__" a), g, d, t + 1, os⟩ := I3.pins_of fun p hp => by
    rcases List.mem_cons.mp hp with rfl | hp
    · exact ⟨hw, nH, fun z => absurd I2.lt (by rw [← z]; exact Nat.lt_irrefl _), I2.nofs (Nat.le_refl _), fun v z => by cases z⟩
    · exact I3.pin p (List.mem_append_right _ hp)
  show wpAny _ _ (callWith p4 (.ref h'.objs.size) [] (backTo p4 (starEach [.Constant (.str m) j p3] X.env)) []) _ _ _
  rw [he]
  refine PySem.W.kxs_callWith (i := "ValueError.__init__") (x := a) rfl ?_
  refine Calls.evalArgs_plain ?_
  have R := (pa_cons (X := X) (pe_str (x := m) (j := j) (pos := p3)) pa_nil (hs := he)).run p4 _ _ σ H (fun vs H1 => vs = [V.str m] ∧ H = H1) I4 ⟨rfl, rfl⟩
  rw [he] at R
  refine wpAny_mono R (fun us s1 hh => ?_) fun _ _ z => ?_
  · obtain ⟨vs', H1, I5, r1, ev, eH⟩ := hh
    subst ev; subst eH
    have hu := (I5.pin (h'.objs.size, PySem.W.kxs_mw "ValueError.__init__" a) (List.mem_append_right _ List.mem_cons_self)).1
    refine ⟨hu, ?_⟩
    obtain ⟨t2, hoe5⟩ := exo_at I5.hok e
    have hlen : us.length ≤ sizeLine := by rw [← Paired.length r1]; show 1 ≤ sizeLine; decide
    obtain ⟨h5, g5, d5, tk5, os5⟩ := s1
    refine call_mw (I5.kIn _ _ hC) hoe5 hu hlen fun h6 t3 k6 hx6 => ?_
    have J := I5.write (t' := tk5) (x := a) (e := a) (o := exo a C none) (by rw [e]; exact True.intro) (.inl rfl) k6 ⟨_, hx6⟩ (exo_ok hx6)
    have eu : upd H a (exo a C none) = H := by
      funext b
      by_cases hb : b = a
      · rw [hb, upd_same, e]
      · rw [upd_ne hb]
    rw [eu] at J
    exact hq _ (J.pins_of fun p hp => J.pin p (List.mem_append_right _ (List.mem_cons_of_mem _ hp)))
  · exact z
end
/-! ### the __init__ of an own exception -/
abbrev clsN : Str := "__class__"
abbrev supSt (m : Str) (j : Nat) (p0 p1 p2 p3 p4 p5 : Pos) : Stmt := .Expr (.Call (.Attribute (.Call (.Name "super" p0) [] [] p1) "__init__" p2) [.Constant (.str m) j p3] [] p4) p5
section
variable {CX : CXT} {P : Program} {w : World} {K : PySem.W.Frag} {mg : Str → Option Value} {base : Heap} {ps : List Str} {F : NF} {f cc D : Addr} {k : Nat} {sp : Sp} {sf m : Str} {j : Nat} {p0 p1 p2 p3 p4 p5 : Pos} {rest : List Stmt} {dV kV doc pm ct oc : Value} {an od : Option Addr} {osl : Array (Option Value)}
theorem fn_sup (lk : K.lookup f = some ⟨oc, od, .func (PySem.W.ksFn F.name F.qual F.params F.body F.scope dV kV doc pm an (.ref F.c) ct cc), osl⟩) (hcd : PySem.W.codeIn K (.ref F.c) F.qual = true) (hF : F.cl = [(clsN, cc)]) (hb : F.body = supSt m j p0 p1 p2 p3 p4 p5 :: rest)
    (S : NScope (ps ++ [clsN]) ps [clsN] F.scope) (hps : ps[0]? = some sf) (hsu : F.scope.names.lookup ("super" : Str) = some .globalImplicit) (hcell : ∃ cl cld csl, K.lookup cc = some ⟨cl, cld, .cell (some (.ref D)), csl⟩)
    (len : ∀ vs H Q E, sp vs H Q E → vs.length = ps.length)
    (hq : ∀ L, swapsWith (.Call (.Attribute (.Call (.Name "super" p0) [] [] p1) "__init__" p2) [.Constant (.str m) j p3] [] p4) none p5.line (envF F f L) = pure false) (he : ∀ L, starEach [.Constant (.str m) j p3] (envF F f L) = (false, eval (.Constant (.str m) j p3) (envF F f L)) :: starEach [] (envF F f L))
    {pl : Sem Bool}
    (hev : ∀ L, eval (.Call (.Attribute (.Call (.Name "super" p0) [] [] p1) "__init__" p2) [.Constant (.str m) j p3] [] p4) (envF F f L) = (do
      let ov ← attributeBase (.Call (.Name "super" p0) [] [] p1) "__init__" (envF F f L) (eval (.Call (.Name "super" p0) [] [] p1) (envF F f L))
      standAt p2.atName
      let (fv, first) ← holding [ov] (getMethod ov "__init__" pl)
      callWith p4 fv first (backTo p4 (starEach [.Constant (.str m) j p3] (envF F f L))) []))
    (hbody : ∀ (A : Around) (outer : List Env) (s : Shared) (H : Hp) (vs : List V) (Q : VK) (E : XK), Room k (A.deeper (envF F f s.heap.objs.size)) → sp vs H Q E →
      ∃ a C, vs[0]? = some (.ref a) ∧ SupK P K mg C D f cc (.ref F.c) sf ∧ OexC K C ∧ H a = some (exo a C none) ∧
      ∃ t, PSs (ncx CX P w K mg base (ps ++ [clsN]) F f A outer s H E) rest t ∧ t { nx := fun _ H' => Q .non H', rt := Q } (startF (ps ++ [clsN]) vs [none]) H) :
    FnOk P w K mg base CX (k + 1) f (PySem.W.ksFn F.name F.qual F.params F.body F.scope dV kV doc pm an (.ref F.c) ct cc) ps sp := by
  refine ⟨len, fun A outer s H args us vs Q E hr e0 hbd r hsp => ?_⟩
  have hl := len _ _ _ _ hsp
  obtain ⟨cl, cld, csl, hcc⟩ := hcell
  have KB := e0.mod.kin
  have KX : K.In s.heap := e0.mod.kin.keeps fun b o e => (e0.bs b o e).1
  have lim : s.heap.NoLimit := e0.mod.nolimit.keeps fun b o e => (e0.bs b o e).1
  have hnd : ps.Nodup := (List.nodup_append.mp S.nd).1
  refine PySem.ks_codeAny_call_defAt (fd := PySem.W.ksFn F.name F.qual F.params F.body F.scope dV kV doc pm an (.ref F.c) ct cc) (body := F.body) (binds := ps.zip us) hr.depth (KX _ _ lk) rfl lim (PySem.W.codeRec_of KX hcd) rfl hbd S.nocell (fun x hx => S.par _ (List.of_mem_zip hx).1) (fun h₁ hns kp => ?_) S.co S.gen S.kind
  obtain ⟨a, C, ha, SK, T, ea, t, ht, q⟩ := hbody A outer s H vs Q E (hr.deeper _) hsp
  have C0 : CellsAt F.cl [clsN] [none] s.heap H := by
    rw [hF]
    refine ⟨rfl, fun y c z => ?_, fun x y c z1 z2 => ?_, fun i y z => ?_⟩
    · have : c = cc := by
        simp only [List.lookup] at z
        split at z
        · cases z; rfl
        · cases z
      subst this
      exact ⟨(e0.bs _ _ (KB _ _ hcc)).2, _, _, KX _ _ hcc, rfl⟩
    · have h1 : ∀ {x : Str} {c : Addr}, List.lookup x [(clsN, cc)] = some c → x = clsN := fun {x c} z => by
        simp only [List.lookup] at z
        split at z
        · rename_i h; exact beq_iff_eq.mp h
        · cases z
      rw [h1 z1, h1 z2]
    · cases i with
      | zero =>
        have : y = clsN := by simpa using z.symm
        subst this
        exact ⟨cc, rfl, fun v z => by cases z⟩
      | succ i => simp at z
  have I : Inv (ncx CX P w K mg base (ps ++ [clsN]) F f A outer s H E) [] (startF (ps ++ [clsN]) vs [none]) H { s with heap := h₁, toks := s.toks + (ps.zip us).length } := inv_startN S hr.hd e0 hl r C0 hns kp
  have fin : ∀ {σ' : St} {H' : Hp} {v : V} {u : Value} {s' : Shared}, Inv (ncx CX P w K mg base (ps ++ [clsN]) F f A outer s H E) [] σ' H' s' → RelV v u → Q v H' → CE outer P w H s Q u s' :=
    fun {σ' H' v u s'} J rv q => ⟨v, H', J.os, J.bare, J.base, J.hok, rv, q⟩
  have hp0 : 0 < ps.length := (List.getElem?_eq_some_iff.mp hps).1
  have hσ : (startF (ps ++ [clsN]) vs [none])[0]? = some (some (.ref a)) := by
    unfold startF
    rw [List.getElem?_append_left (by rw [List.length_map]; omega), List.getElem?_map, ha]; rfl
  have hev1 := hev s.heap.objs.size
  have eenv : callEnv (PySem.W.ksFn F.name F.qual F.params F.body F.scope dV kV doc pm an (.ref F.c) ct cc) s.heap.objs.size f = envF F f s.heap.objs.size := by unfold envF; rw [hF]; rfl
  rw [eenv]
  rw [hb] at *
  refine PySem.ks_wpAt_execs_cons ?_
  refine super_init (X := ncx CX P w K mg base (ps ++ [clsN]) F f A outer s H E) (pl := pl) SK T I ea hsu (S.frk _ (by simp)) rfl (by show List.lookup _ F.cl = _; rw [hF]; rfl) (by show (ps ++ [clsN])[0]? = _; rw [List.getElem?_append_left hp0]; exact hps) hσ (S.par _ (List.mem_of_getElem? hps)) (fun s' J => ?_) (hq _) (he _) hev1
  refine PySem.wpAt_of_wpAny (wpAny_mono (ht.run [] s' _ H _ J q) (fun fl s'' hs => ?_) fun e s' hs => hs)
  cases fl with
  | ret u =>
    obtain ⟨v, σ', H', J, rv, q⟩ := hs
    exact fin J rv q
  | next =>
    obtain ⟨σ', H', J, q⟩ := hs
    exact fin (v := V.non) (u := Value.none) J rfl q
  | brk =>
    obtain ⟨_, _, _, q⟩ := hs
    exact False.elim q
  | cont =>
    obtain ⟨_, _, _, q⟩ := hs
    exact False.elim q
end
/-! ### an own exception is made and raised -/
/-- what the __init__ of the class at C promises: the fields fs, out of the parameters of the same names -/
def spX (K : PySem.W.Frag) (C : Addr) (fs : List Str) : Sp := fun vs H Q _ => ∃ (a : Addr) (ws : List V), vs = .ref a :: ws ∧ ws.length = fs.length ∧ H a = some (exo a C none) ∧
  ∀ (dx : Addr) (H' : Hp), H dx = none → dx ≠ a → H' a = some (exo a C (some dx)) → H' dx = some (exd dx (fs.zip ws).reverse) → (∀ b, b ≠ a → b ≠ dx → H' b = H b) → Q .non H'
abbrev slfN : Str := "self"
structure ExcOk (P : Program) (w : World) (K : PySem.W.Frag) (mg : Str → Option Value) (base : Heap) (x : Str) (k : Nat) (fs : List Str) : Prop where
  ex : ∃ C fI fd, mg x = some (.ref C) ∧ OexC K C ∧ PySem.W.findIn K (.ref C) "__init__" = some (some (.ref fI)) ∧ PySem.W.typeIn K (.ref fI) = some (.type "function") ∧ FnOk P w K mg base (L2.CX P w) k fI fd (slfN :: fs) (spX K C fs) ∧ Binds K fd (slfN :: fs) []
abbrev asSt (f : Str) (q0 q1 q2 q3 : Pos) : Stmt := .Assign [.Attribute (.Name slfN q0) f q1] (.Name f q2) q3
section
variable {P : Program} {w : World} {K : PySem.W.Frag} {mg : Str → Option Value} {base : Heap} {F : NF} {fI cc C : Addr} {k : Nat} {x m f1 f2 : Str} {j : Nat} {p0 p1 p2 p3 p4 p5 q0 q1 q2 q3 r0 r1 r2 r3 : Pos} {dV kV doc pm ct oc : Value} {an od : Option Addr} {osl : Array (Option Value)} {pl : Sem Bool}
theorem excOk1 (gx : mg x = some (.ref C)) (T : OexC K C) (hi : PySem.W.findIn K (.ref C) "__init__" = some (some (.ref fI))) (hty : PySem.W.typeIn K (.ref fI) = some (.type "function"))
    (hbd : ∀ us : List Value, us.length = [slfN, f1].length → bindArgs (PySem.W.ksFn F.name F.qual F.params F.body F.scope dV kV doc pm an (.ref F.c) ct cc) ⟨us, []⟩ = pure ([slfN, f1].zip us))
    (SK : SupK P K mg C C fI cc (.ref F.c) slfN) (no1 : PySem.W.findIn K (.ref C) f1 = some none)
    (lk : K.lookup fI = some ⟨oc, od, .func (PySem.W.ksFn F.name F.qual F.params F.body F.scope dV kV doc pm an (.ref F.c) ct cc), osl⟩) (hcd : PySem.W.codeIn K (.ref F.c) F.qual = true) (hF : F.cl = [(clsN, cc)])
    (hb : F.body = supSt m j p0 p1 p2 p3 p4 p5 :: [asSt f1 q0 q1 q2 q3])
    (S : NScope ([slfN, f1] ++ [clsN]) [slfN, f1] [clsN] F.scope) (hsu : F.scope.names.lookup ("super" : Str) = some .globalImplicit)
    (hq : ∀ L, swapsWith (.Call (.Attribute (.Call (.Name "super" p0) [] [] p1) "__init__" p2) [.Constant (.str m) j p3] [] p4) none p5.line (envF F fI L) = pure false) (he : ∀ L, starEach [.Constant (.str m) j p3] (envF F fI L) = (false, eval (.Constant (.str m) j p3) (envF F fI L)) :: starEach [] (envF F fI L))
    (hev : ∀ L, eval (.Call (.Attribute (.Call (.Name "super" p0) [] [] p1) "__init__" p2) [.Constant (.str m) j p3] [] p4) (envF F fI L) = (do
      let ov ← attributeBase (.Call (.Name "super" p0) [] [] p1) "__init__" (envF F fI L) (eval (.Call (.Name "super" p0) [] [] p1) (envF F fI L))
      standAt p2.atName
      let (fv, first) ← holding [ov] (getMethod ov "__init__" pl)
      callWith p4 fv first (backTo p4 (starEach [.Constant (.str m) j p3] (envF F fI L))) []))
    (hs1 : ∀ L, swapsWith (.Name f1 q2) (some (.Attribute (.Name slfN q0) f1 q1)) q3.line (envF F fI L) = pure false)
    (hd1 : (f1 == ("__debug__" : Str)) = false) (hd2 : (f1 == ("__classdict__" : Str)) = false) :
    ExcOk P w K mg base x (k + 1) [f1] := by
  refine ⟨C, fI, _, gx, T, hi, hty, fn_sup (sf := slfN) (pl := pl) lk hcd hF hb S rfl hsu SK.cell (fun vs H Q E h => ?_) hq he hev (fun A outer s H vs Q E hr hsp => ?_), .all hbd⟩
  · obtain ⟨a, ws, rfl, hl, _⟩ := h
    simp at hl; simp [hl]
  · obtain ⟨a, ws, rfl, hl, ha, q⟩ := hsp
    obtain ⟨y, rfl⟩ : ∃ y, ws = [y] := by
      match ws, hl with
      | [y], _ => exact ⟨y, rfl⟩
    refine ⟨a, C, rfl, SK, T, ha, _, pss_one (ps_ost (pe_var (i := 0) rfl (.inl (S.par _ (by simp)))) (pe_var (i := 1) rfl (.inl (S.par _ (by simp))) hd1 hd2) (hs1 _)), ?_⟩
    refine ⟨y, rfl, .ref a, rfl, a, C, rfl, T, no1, .inl ⟨ha, fun dx hn hne => q dx _ hn hne upd_same ?_ fun b h1 h2 => ?_⟩⟩
    · rw [upd_ne hne, upd_same]; rfl
    · rw [upd_ne h1, upd_ne h2]
theorem excOk2 (gx : mg x = some (.ref C)) (T : OexC K C) (hi : PySem.W.findIn K (.ref C) "__init__" = some (some (.ref fI))) (hty : PySem.W.typeIn K (.ref fI) = some (.type "function"))
    (hbd : ∀ us : List Value, us.length = [slfN, f1, f2].length → bindArgs (PySem.W.ksFn F.name F.qual F.params F.body F.scope dV kV doc pm an (.ref F.c) ct cc) ⟨us, []⟩ = pure ([slfN, f1, f2].zip us))
    (SK : SupK P K mg C C fI cc (.ref F.c) slfN) (no1 : PySem.W.findIn K (.ref C) f1 = some none) (no2 : PySem.W.findIn K (.ref C) f2 = some none)
    (lk : K.lookup fI = some ⟨oc, od, .func (PySem.W.ksFn F.name F.qual F.params F.body F.scope dV kV doc pm an (.ref F.c) ct cc), osl⟩) (hcd : PySem.W.codeIn K (.ref F.c) F.qual = true) (hF : F.cl = [(clsN, cc)])
    (hb : F.body = supSt m j p0 p1 p2 p3 p4 p5 :: [asSt f1 q0 q1 q2 q3, asSt f2 r0 r1 r2 r3])
    (S : NScope ([slfN, f1, f2] ++ [clsN]) [slfN, f1, f2] [clsN] F.scope) (hsu : F.scope.names.lookup ("super" : Str) = some .globalImplicit)
    (hq : ∀ L, swapsWith (.Call (.Attribute (.Call (.Name "super" p0) [] [] p1) "__init__" p2) [.Constant (.str m) j p3] [] p4) none p5.line (envF F fI L) = pure false) (he : ∀ L, starEach [.Constant (.str m) j p3] (envF F fI L) = (false, eval (.Constant (.str m) j p3) (envF F fI L)) :: starEach [] (envF F fI L))
    (hev : ∀ L, eval (.Call (.Attribute (.Call (.Name "super" p0) [] [] p1) "__init__" p2) [.Constant (.str m) j p3] [] p4) (envF F fI L) = (do
      let ov ← attributeBase (.Call (.Name "super" p0) [] [] p1) "__init__" (envF F fI L) (eval (.Call (.Name "super" p0) [] [] p1) (envF F fI L))
      standAt p2.atName
      let (fv, first) ← holding [ov] (getMethod ov "__init__" pl)
      callWith p4 fv first (backTo p4 (starEach [.Constant (.str m) j p3] (envF F fI L))) []))
    (hs1 : ∀ L, swapsWith (.Name f1 q2) (some (.Attribute (.Name slfN q0) f1 q1)) q3.line (envF F fI L) = pure false) (hs2 : ∀ L, swapsWith (.Name f2 r2) (some (.Attribute (.Name slfN r0) f2 r1)) r3.line (envF F fI L) = pure false)
    (hd1 : (f1 == ("__debug__" : Str)) = false) (hd2 : (f1 == ("__classdict__" : Str)) = false) (hd3 : (f2 == ("__debug__" : Str)) = false) (hd4 : (f2 == ("__classdict__" : Str)) = false) :
    ExcOk P w K mg base x (k + 1) [f1, f2] := by
  refine ⟨C, fI, _, gx, T, hi, hty, fn_sup (sf := slfN) (pl := pl) lk hcd hF hb S rfl hsu SK.cell (fun vs H Q E h => ?_) hq he hev (fun A outer s H vs Q E hr hsp => ?_), .all hbd⟩
  · obtain ⟨a, ws, rfl, hl, _⟩ := h
    simp at hl; simp [hl]
  · obtain ⟨a, ws, rfl, hl, ha, q⟩ := hsp
    obtain ⟨y, z, rfl⟩ : ∃ y z, ws = [y, z] := by
      match ws, hl with
      | [y, z], _ => exact ⟨y, z, rfl⟩
    refine ⟨a, C, rfl, SK, T, ha, _, pss_cons (ps_ost (pe_var (i := 0) rfl (.inl (S.par _ (by simp)))) (pe_var (i := 1) rfl (.inl (S.par _ (by simp))) hd1 hd2) (hs1 _)) (pss_one (ps_ost (pe_var (i := 0) rfl (.inl (S.par _ (by simp)))) (pe_var (i := 2) rfl (.inl (S.par _ (by simp))) hd3 hd4) (hs2 _))), ?_⟩
    refine ⟨y, rfl, .ref a, rfl, a, C, rfl, T, no1, .inl ⟨ha, fun dx hn hne => ?_⟩⟩
    refine ⟨z, rfl, .ref a, rfl, a, C, rfl, T, no2, .inr ⟨dx, [(f1, y)], upd_same, ?_, by simp, q dx _ hn hne ?_ ?_ fun b h1 h2 => ?_⟩⟩
    · rw [upd_ne hne, upd_same]
    · rw [upd_ne (Ne.symm hne), upd_same]
    · rw [upd_same]; rfl
    · rw [upd_ne h2, upd_ne h1, upd_ne h2]
end
theorem zip_rev {α β : Type} : ∀ (as : List α) (bs : List β), as.length = bs.length → (as.zip bs).reverse = as.reverse.zip bs.reverse
  | [], [], _ => rfl
  | a :: as, b :: bs, h => by
    have h' : as.length = bs.length := by simpa using h
    rw [List.zip_cons_cons, List.reverse_cons, zip_rev as bs h', List.reverse_cons, List.reverse_cons, List.zip_append (by simp [h'])]; rfl
theorem RVs.rev {G : Wo} {ι : List Addr} {H : Hp} : ∀ {xs : List D} {vs : List V}, RVs G ι H xs vs → RVs G ι H xs.reverse vs.reverse
  | [], vs, r => by simp only [RVs] at r; subst r; exact RVs.nil
  | x :: xs, vs, r => by
    simp only [RVs] at r
    obtain ⟨v, q, rfl, r1, r2⟩ := r
    rw [List.reverse_cons, List.reverse_cons]
    exact (RVs.rev r2).append (RVs.one r1)
/-- raise X(e, ..) -/
def mRaise (x : Str) (fs : List Str) (mas : MA) : MS := fun env h => SR.of (mas env h) env fun ds h => if ds.length = fs.length then .exc x fs.reverse ds.reverse env h else .stuck
section
variable {X : Cx} {W : WX} {ex : Ex} {e : Expr} {es : List Expr} {mas : MA} {x : Str} {fs : List Str} {k : Nat} {p pos pos' : Pos}
theorem fs_raise (T : ExcOk X.prog X.w X.K X.mg X.base x k fs) (tk : Takes X W) (hr : Room (k + 1) X.A) (ha : FA X W ex (e :: es) mas) (hc : X.calm = true := by rfl) (hg : Gl X x := by rfl) (hn : fs.length ≤ 1000 := by decide) (hdb : (x == ("__debug__" : Str)) = false := by decide)
    (he : starEach (e :: es) X.env = (false, eval e X.env) :: starEach es X.env := by rfl) (hpl : (backTo pos (starEach es X.env)).any (·.1) = false := by rfl) :
    FS X W ex (.Raise (some (.Call (.Name x p) (e :: es) [] pos)) none pos') (mRaise x fs mas) := by
  obtain ⟨C, fI, fd, gx, T1, hi, hty, F1, hb⟩ := T.ex
  have hx : Passes (L2.CX X.prog X.w) X (fun _ _ _ => False) := fun pins σ H s e s' I c => by
    obtain ⟨_, _, _, _, _, _, _, _, _, _, _, _, z⟩ := c
    exact z.elim
  refine PS.imp (ps_raise hc tk (pmk_oex (ds := []) (dvs := []) T1 hi hty F1 hr hb .nil hx hg gx ha hdb he hpl)) fun D σ H q => ?_
  obtain ⟨ι, h, env, rel, re, po⟩ := q
  refine ⟨ι, h, env, rel, re, post_of re po fun ds h1 ι1 H1 vs eq1 p1 k1 rel1 rv1 po1 => ?_⟩
  split at po1
  case isFalse => exact po1.elim
  rename_i hl
  have hlv : vs.length = fs.length := by rw [← hl, RVs.length rv1]
  refine ⟨by omega, fun a na => ⟨a, vs, by simp, hlv, upd_same, fun dx H' hn hne h1 h2 h3 => ⟨rfl, dx, _, h1, h2, by rwa [upd_ne hne] at hn, ?_⟩⟩⟩
  have hd : H1 dx = none := by rwa [upd_ne hne] at hn
  have e3 : upd (del H' a) dx (.xd (fs.zip vs).reverse) = upd H1 dx (.xd (fs.zip vs).reverse) := by
    funext b
    by_cases hb : b = dx
    · rw [hb, upd_same, upd_same]
    · rw [upd_ne hb, upd_ne hb]
      by_cases ha : b = a
      · rw [ha, del_same, na]
      · rw [del_ne ha, h3 b ha hb, upd_ne ha]
  rw [e3]
  have sm : Same H1 (upd H1 dx (.xd (fs.zip vs).reverse)) := same_upd hd
  refine po1 ι1 _ σ C (some dx) (List.prefix_refl _) (Keep.of_same sm) (rel1.same sm) ((re.mono p1 k1).mono (List.prefix_refl _) (Keep.of_same sm)) gx ⟨by simp [hl], vs.reverse, .inr ⟨dx, rfl, ?_⟩, (RVs.rev rv1).mono (List.prefix_refl _) (Keep.of_same sm) _ _⟩
  rw [upd_same, zip_rev _ _ hlv.symm]
end
end LF
set_option Elab.async false
set_option linter.all false
set_option maxRecDepth 100000
set_option maxHeartbeats 4000000
/-! LFY: own exceptions caught. -/
namespace PySem.W
open PySem PySem.Spec PySem.Calls PyProof.Rows
section
variable {prog : Program} {w : World} {A : Around} {E : Value → Shared → Prop} {s : Shared} {K : Frag} {x D : Addr} {ox : Obj} {od : Option Obj}
theorem lf_findD {C : Addr} {name : Str} {a g : Value} (hc : (clsIn K C).isSome = true) (ha : findIn K (.ref C) name = some (some a)) (hg : specialIn K a "__get__" = some (some g)) (ht : takesIn K a = some true) : findObj K C od name = some (.bind g a) := by
  obtain ⟨cd, hc⟩ := Option.isSome_iff_exists.mp hc
  unfold findObj
  rw [hc, Option.bind_some, ha, Option.bind_some]
  simp [hg, ht]
theorem lf_classE {Q : Option Value → Shared → Prop} (hga : findIn K (.ref D) "__getattribute__" = some (some (.builtin "BaseException.__getattribute__"))) (hgt : findIn K (.ref D) "__getattr__" = some none) (hsub : subIn K (.ref D) (.type "BaseException") = some true)
    (hdct : hasDictIn K D = true) (ha : findIn K (.ref D) "__class__" = some (some (.builtin "object.__class__"))) (hn : specialIn K (.builtin "object.__class__") "__get__" = some (some (.builtin "getset_descriptor.__get__"))) (htk : takesIn K (.builtin "object.__class__") = some true) (hm : mroIn K D (.type "object") = some true)
    (X : K.In s.heap) (I : InstAt s.heap x ox D od) (h : Q (some (.ref D)) { s with toks := s.toks + 1 }) : wpAny (model prog w) A (getAttr? (.ref x) "__class__") Q E s := by
  have hf : findObj K D od "__class__" = some (.bind (.builtin "getset_descriptor.__get__") (.builtin "object.__class__")) := lf_findD (by obtain ⟨cd, hc, _⟩ := any_some hdct; rw [hc]; rfl) ha hn htk
  obtain ⟨hp, g, d, t, os⟩ := s
  have L0 := I.type (M := model prog w)
  have L1 := looks_findIn (M := model prog w) X hga
  have L2 := looks_findIn (M := model prog w) X hgt
  have L3 := looks_find (M := model prog w) X I hf
  have sub : Looks (model prog w) hp (isInstance (.ref x) (.type "BaseException")) true := L0.andThen (looks_subIn X hsub)
  have hx0 : (false && onTheHeap (Value.builtin "BaseException.__getattribute__")) = false := rfl
  have hx2 : (Value.builtin "BaseException.__getattribute__" == Value.builtin "object.__getattribute__") = false := by decide +kernel
  have hx1 : (onTheHeap (Value.ref D) && Value.builtin "BaseException.__getattribute__" == Value.builtin "object.__getattribute__") = false := by rw [hx2]; rfl
  unfold getAttr? getAttrBy? getAttrBy
  refine wpAny_bind (wpAny_mkText (wpAny_bind (wpAny_attempt (wpAny_holding (wpAny_bind (L0.at (wpAny_bind (L1.at ?_))))))))
  show wpAny _ _ (if (onTheHeap (Value.ref D) && Value.builtin "BaseException.__getattribute__" == Value.builtin "object.__getattribute__") = true then _ else _) _ _ _
  rw [hx1, if_neg Bool.false_ne_true]
  unfold getAttrByItsOwn hookBefore
  refine wpAny_bind ?_
  rw [if_pos (show onTheHeap (Value.ref D) = true from rfl)]
  refine L2.at ?_
  refine wpAny_bind (wpAny_attempt (wpAny_holding ?_))
  unfold callGetattribute
  rw [hx0, if_neg Bool.false_ne_true]
  unfold boundAndCalled
  rw [PySem.F.excAttr_ValueError.ga.bind (.ref x)]
  refine wpAny_bind (wpAny_pure ?_)
  show wpAny _ _ (call (.builtin "BaseException.__getattribute__") [.ref x, .str "__class__" t]) _ _ _
  refine wpAny_call (codeAny_call_builtin PySem.F.excAttr_ValueError.ga.plain PySem.F.entry_bexc_ga ?_)
  refine @check_slot (model prog w) _ _ ⟨hp, g, d, t + 1, os⟩ "BaseException.__getattribute__" "BaseException" "__getattribute__" (.ref x) [.str "__class__" t] [] _ (by decide +kernel) (by decide +kernel) sub (PySem.F.args_bexc_ga (.ref x) (.str "__class__" t)) ?_
  unfold Builtin.«object.__getattribute__»
  refine wpAny_bind (wpAny_of_eq (a := ((Value.ref x : Value), [Value.str "__class__" t])) (by first | rfl | (simp only [slotArgs]; rfl)) ?_)
  refine wpAny_bind (wpAny_pure (wpAny_bind (L0.at (wpAny_bind (L3.at ?_)))))
  show wpAny _ _ (holding [Value.builtin "object.__class__"] (call (.builtin "getset_descriptor.__get__") [.builtin "object.__class__", .ref x, .ref D]) >>= ret) _ _ _
  refine wpAny_bind (wpAny_holding (wpAny_call (class_get (s := ⟨hp, g, d, t + 1, os⟩) (ox := ox) (od := od) X I hm ?_)))
  refine wpAny_pure ?_
  show wpAny _ _ (handedOut (.ref D)) _ _ _
  rw [handedOut_of (v := .ref D) rfl]
  first
    | exact wpAny_pure (wpAny_pure h)
    | exact wpAny_pure h
    | exact wpAny_pure (wpAny_bind (wpAny_pure (wpAny_pure h)))
theorem lf_kitx (hga : findIn K (.ref D) "__getattribute__" = some (some (.builtin "BaseException.__getattribute__"))) (hgt : findIn K (.ref D) "__getattr__" = some none) (hsub : subIn K (.ref D) (.type "BaseException") = some true) (hdct : hasDictIn K D = true) (ha : findIn K (.ref D) "__class__" = some (some (.builtin "object.__class__")))
    (hn : specialIn K (.builtin "object.__class__") "__get__" = some (some (.builtin "getset_descriptor.__get__"))) (htk : takesIn K (.builtin "object.__class__") = some true) (hm : mroIn K D (.type "object") = some true) :
    KitX K (.ref x) (.ref D) (fun h => InstAt h x ox D od) where
  ty := fun _ _ _ I => I.type
  it := fun _ _ X _ => by
    obtain ⟨cdD, hcD, _⟩ := any_some hdct
    unfold clsIn at hcD
    split at hcD
    · rename_i c' d' cd' sl' ho
      intro A' Q' E' s' k q
      unfold isType loadHead
      exact wpAny_bind (wpAny_loadPart (k _ _ (X _ _ ho)) (wpAny_pure q))
    · cases hcD
  ne := fun h tp dd its n sl X htp => by
    obtain ⟨cdD, hcD, _⟩ := any_some hdct
    refine Bool.eq_false_iff.mpr fun q => ?_
    have e : D = tp := Value.ref.inj (beq_iff_eq.mp q)
    subst e
    unfold clsIn at hcD
    split at hcD
    · rename_i c' d' cd' sl' ho
      have z := (X _ _ ho).symm.trans htp
      cases z
    · cases hcD
  ca := fun X I k => lf_classE hga hgt hsub hdct ha hn htk hm X I k
end
end PySem.W
namespace LF
open PySem PySem.Spec L2
open PyProof.Rows hiding St
/-! ### tables of the written part's classes -/
def XTab (K : PySem.W.Frag) (mg : Str → Option Value) (tab : List ((Str × Str) × Bool)) : Prop := ∀ p ∈ tab, ∃ C C' : Addr, mg p.1.1 = some (.ref C) ∧ mg p.1.2 = some (.ref C') ∧ PySem.W.exmOne K (.ref C) (.ref C') = some p.2 ∧ PySem.W.kitOne K (.ref C) (.ref C') = some p.2
def TTab (K : PySem.W.Frag) (mg : Str → Option Value) (tab : List ((Str × String) × Bool)) : Prop := ∀ p ∈ tab, ∃ C : Addr, mg p.1.1 = some (.ref C) ∧ PySem.W.kitOne K (.ref C) (.type p.1.2) = some p.2
def FTab (K : PySem.W.Frag) (mg : Str → Option Value) (tab : List (Str × Str)) : Prop := ∀ p ∈ tab, ∃ C : Addr, mg p.1 = some (.ref C) ∧ XfC K C ∧ PySem.W.findIn K (.ref C) p.2 = some none
def ETab (K : PySem.W.Frag) (mg : Str → Option Value) (names : List Str) : Prop := ∀ x ∈ names, ∃ C : Addr, mg x = some (.ref C) ∧ ExcC K C
def lookT {α β : Type} [DecidableEq α] (tab : List (α × β)) (a : α) : Option β := (tab.find? fun p => decide (p.1 = a)).map (·.2)
theorem lookT_mem {α β : Type} [DecidableEq α] {tab : List (α × β)} {a : α} {b : β} (h : lookT tab a = some b) : (a, b) ∈ tab := by
  unfold lookT at h
  rw [Option.map_eq_some_iff] at h
  obtain ⟨p, h1, rfl⟩ := h
  have := List.find?_some h1
  simp at this
  have m := List.mem_of_find?_eq_some h1
  rw [← this]; exact m
/-- does an exception of the class x match d? -/
def isX1 (tk : List ((Str × Str) × Bool)) (tt : List ((Str × String) × Bool)) (x : Str) : D → Option Bool
  | .cls y => lookT tk (x, y)
  | .ty t => lookT tt (x, t)
  | _ => none
def isXs (tk : List ((Str × Str) × Bool)) (tt : List ((Str × String) × Bool)) (x : Str) : List D → Option Bool
  | [] => some false
  | d :: ds => match isX1 tk tt x d with
    | some true => some true
    | some false => isXs tk tt x ds
    | none => none
def isX (tk : List ((Str × Str) × Bool)) (tt : List ((Str × String) × Bool)) (x : Str) : D → Option Bool
  | .tup ds => isXs tk tt x ds
  | d => isX1 tk tt x d
theorem isX1_ok {G : Wo} {ι : List Addr} {H : Hp} {tk : List ((Str × Str) × Bool)} {tt : List ((Str × String) × Bool)} {x : Str} {C : Addr} {d : D} {v : V} {b : Bool} (h1 : XTab G.K G.mg tk) (h2 : TTab G.K G.mg tt) (gx : G.mg x = some (.ref C)) (r : RV G ι H d v) (e : isX1 tk tt x d = some b) :
    ∃ u, ClsV v u ∧ PySem.W.kitOne G.K (.ref C) u = some b := by
  cases d with
  | cls y =>
    obtain ⟨C1, C2, g1, g2, _, k⟩ := h1 _ (lookT_mem e)
    simp only [RV] at r
    obtain ⟨a, rfl, ga⟩ := r
    dsimp only at g1 g2 k
    rw [gx] at g1; cases g1
    rw [ga] at g2; cases g2
    exact ⟨_, .own _, k⟩
  | ty t =>
    obtain ⟨C1, g1, k⟩ := h2 _ (lookT_mem e)
    simp only [RV] at r
    subst r
    dsimp only at g1 k
    rw [gx] at g1; cases g1
    exact ⟨_, .ty _, k⟩
  | _ => cases e
theorem isXs_ok {G : Wo} {ι : List Addr} {H : Hp} {tk : List ((Str × Str) × Bool)} {tt : List ((Str × String) × Bool)} {x : Str} {C : Addr} (h1 : XTab G.K G.mg tk) (h2 : TTab G.K G.mg tt) (gx : G.mg x = some (.ref C)) : ∀ {ds : List D} {vs : List V} {b : Bool}, RVs G ι H ds vs → isXs tk tt x ds = some b → (∀ d ∈ ds, (isX1 tk tt x d).isSome = true) →
    ∃ us, Paired ClsV vs us ∧ PySem.W.kitAny G.K (.ref C) us = some b
  | [], vs, b, r, e, _ => by
    simp only [RVs] at r; subst r
    exact ⟨[], .nil, e⟩
  | d :: ds, vs, b, r, e, al => by
    simp only [RVs] at r
    obtain ⟨v, q, rfl, r1, r2⟩ := r
    obtain ⟨b1, e1⟩ := Option.isSome_iff_exists.mp (al d (by simp))
    obtain ⟨u, k, k1⟩ := isX1_ok h1 h2 gx r1 e1
    unfold isXs at e
    rw [e1] at e
    have al' : ∀ d ∈ ds, (isX1 tk tt x d).isSome = true := fun d m => al d (by simp [m])
    cases b1 with
    | true =>
      -- the others need only be classes
      have : ∃ b2, isXs tk tt x ds = some b2 := by
        clear e r2
        induction ds with
        | nil => exact ⟨_, rfl⟩
        | cons d ds ih =>
          obtain ⟨b3, e3⟩ := Option.isSome_iff_exists.mp (al' d (by simp))
          unfold isXs
          rw [e3]
          cases b3 with
          | true => exact ⟨_, rfl⟩
          | false => exact ih (fun d m => al d (by simp at m ⊢; rcases m with m | m <;> simp [m])) fun d m => al' d (by simp [m])
      obtain ⟨b2, e2⟩ := this
      obtain ⟨us, p, _⟩ := isXs_ok h1 h2 gx r2 e2 al'
      exact ⟨u :: us, .cons k p, by unfold PySem.W.kitAny; rw [k1]; exact e⟩
    | false =>
      obtain ⟨us, p, k2⟩ := isXs_ok h1 h2 gx r2 e al'
      exact ⟨u :: us, .cons k p, by unfold PySem.W.kitAny; rw [k1]; exact k2⟩
/-! ### isinstance of the exception that is handled -/
def rIsX (K : PySem.W.Frag) (C a : Addr) : List V → Hp → VK → Prop := fun xs H Q => ∃ (c : V) (b : Bool), xs = [.ref a, c] ∧
  ((∃ u, ClsV c u ∧ PySem.W.kitOne K (.ref C) u = some b) ∨ ∃ (tp : Addr) (cs : List V) (us : List Value), c = .ref tp ∧ H tp = some (.tup cs) ∧ Paired ClsV cs us ∧ PySem.W.kitAny K (.ref C) us = some b) ∧ Q (.bl b) H
abbrev XAt (ns : List Str) (xs : List D) (d : Option Addr) (H : Hp) : Prop := d = none ∨ ∃ dd fs, d = some dd ∧ H dd = some (.xd fs)
theorem call_isX {X : Cx} {a C : Addr} {d : Option Addr} {oe : Obj} {pn : List (Addr × Obj)} (T : ExcC X.K C) (hz : Zc (.ref C) d oe) (hf : ∃ vs, oe.data = .fields vs) :
    CallR (X.suite a ((a, oe) :: pn)) (.builtin "isinstance") (fun xs H Q => (d = none ∨ ∃ dd fs, d = some dd ∧ H dd = some (.xd fs)) ∧ rIsX X.K C a xs H Q) := by
  intro pins s σ H xs us Q I r h
  obtain ⟨hd, c, b, rfl, hc, q⟩ := h
  obtain ⟨u1, u2, rfl, r1, r2⟩ := vals2 r
  cases (show u1 = Value.ref a from r1)
  obtain ⟨hget, _⟩ := I.pin (a, oe) (List.mem_append_left _ List.mem_cons_self)
  obtain ⟨vs, hv⟩ := hf
  obtain ⟨od, J⟩ : ∃ od, PySem.W.InstAt s.heap a oe C od := by
    rcases hd with hd | ⟨dd, fs, hd, hx⟩
    · exact ⟨none, hget, hz.1, by unfold PySem.W.notCls; rw [hv] <;> rfl, by rw [hz.2, hd]; trivial⟩
    · have hx' : ObjOk (X.suite a ((a, oe) :: pn)).prog (X.suite a ((a, oe) :: pn)).w H s.heap dd (.xd fs) := I.hok dd _ hx
      obtain ⟨mA, hns, hr⟩ := hx'
      obtain ⟨od, ho, hl⟩ := lookIn_ns hns
      exact ⟨some od, hget, hz.1, by unfold PySem.W.notCls; rw [hv] <;> rfl, by rw [hz.2, hd]; exact ho⟩
  have Z := PySem.W.lf_kitx (x := a) (ox := oe) (od := od) T.hg T.hk T.hs T.hd T.ha T.hn T.ht T.hm
  rcases hc with ⟨u, k, e⟩ | ⟨tp, cs, ws, rfl, hT, k, e⟩
  · have e2 := k.eq r2
    subst e2
    exact PySem.W.kia_one Z I.kIn J e (fun z => nomatch z) fun tk => ⟨.bl b, H, I.tok tk, rfl, q⟩
  · cases (show u2 = Value.ref tp from r2)
    obtain ⟨_, its, rv, o, h1, h2, n, h3⟩ := (show ObjOk X.prog X.w H s.heap tp (.tup cs) from I.hok tp _ hT)
    have e3 := ClsV.all k rv
    subst e3
    obtain ⟨oc, od', dt, sl⟩ := o
    simp only at h2 h3
    subst h2 h3
    exact PySem.W.kia_tup Z I.kIn J h1 e (fun z => nomatch z) fun tk => ⟨.bl b, H, I.tok tk, rfl, q⟩
def allX (tk : List ((Str × Str) × Bool)) (tt : List ((Str × String) × Bool)) (x : Str) : D → Bool
  | .tup ds => ds.all fun y => (isX1 tk tt x y).isSome
  | _ => true
/-- isinstance(e, c) -/
def fIsX (tk : List ((Str × Str) × Bool)) (tt : List ((Str × String) × Bool)) (x : Str) (d : D) (h : M) : Res D :=
  if allX tk tt x d = true then match isX tk tt x d with | some b => .ok (.bl b) h | none => .stuck else .stuck
def mIsX (nm : List Str) (tk : List ((Str × Str) × Bool)) (tt : List ((Str × String) × Bool)) (x : Str) (i : Nat) (mc : ME) : ME := fun env h => match env[i]? with
  | some .ex => if x ∈ nm then (mc env h).bind fun d h => fIsX tk tt x d h else .stuck
  | _ => .stuck
section
variable {X : Cx} {W : WX} {a : Addr} {cls : Value} {d : Option Addr} {oe : Obj} {pn : List (Addr × Obj)} {x n y : Str} {ns : List Str} {xs : List D} {nm : List Str} {tk : List ((Str × Str) × Bool)} {tt : List ((Str × String) × Bool)} {i : Nat} {c : Expr} {mc : ME} {p p1 pos : Pos}
theorem fe_isX (hz : Zc cls d oe) (hf : ∃ vs, oe.data = .fields vs) (T : ETab X.K X.mg nm) (h1 : XTab X.K X.mg tk) (h2 : TTab X.K X.mg tt) (hm : X.mg "isinstance" = none) (hN : X.N[i]? = some n) (hv : Vis X.env.scope n)
    (hc : FE (X.suite a ((a, oe) :: pn)) W (some ((a, cls, d), x, ns, xs)) c mc) (hg : Gl X "isinstance" := by rfl) (hd1 : (n == ("__debug__" : Str)) = false := by decide) (hd2 : (n == ("__classdict__" : Str)) = false := by decide)
    (he : starEach [.Name n p1, c] X.env = (false, eval (.Name n p1) X.env) :: starEach [c] X.env := by rfl) (he2 : starEach [c] X.env = (false, eval c X.env) :: starEach [] X.env := by rfl) :
    FE (X.suite a ((a, oe) :: pn)) W (some ((a, cls, d), x, ns, xs)) (.Call (.Name "isinstance" p) [.Name n p1, c] [] pos) (mIsX nm tk tt x i mc) := by
  by_cases hx : x ∈ nm ∧ ∃ C, cls = .ref C ∧ X.mg x = some (.ref C)
  · obtain ⟨hx, C, rfl, gx⟩ := hx
    obtain ⟨C', g', EC⟩ := T x hx
    rw [gx] at g'; cases g'
    have P := pe_callB (X := X.suite a ((a, oe) :: pn)) (p := p) (pos := pos) (call_isX EC hz hf) hg hm (by decide +kernel) (pa_cons (pe_var (X := X.suite a ((a, oe) :: pn)) (pos := p1) hN hv hd1 hd2) (pa_cons hc pa_nil (hs := he2)) (hs := he)) (by decide) (by decide) he (by rw [he2]; rfl)
    refine PE.imp P fun σ H Q q => ?_
    obtain ⟨ι, h, env, rel, re, po⟩ := q
    unfold mIsX at po
    split at po
    case h_2 => exact po.elim
    rename_i ei
    rw [if_pos hx] at po
    obtain ⟨a', c', e1, e2, e3⟩ := re.atx i ei
    cases e1
    refine ⟨.ref a', by rw [e3, ← e2], ι, h, env, rel, re, post_bind po fun dd h1' ι1 H1 v eq1 p1' k1 rel1 rv1 po1 => ?_⟩
    obtain ⟨C2, ec, gx2, xl, vs, xd, rxs⟩ := re.exk _ rfl
    dsimp only at ec gx2 xl xd
    cases ec
    unfold fIsX at po1
    split at po1
    case isFalse => exact po1.elim
    rename_i hall
    split at po1
    case h_2 => exact po1.elim
    rename_i b eb
    have fin : Q (.bl b) H1 := po_ok rel1 (by simp [RV]) po1
    refine ⟨?_, v, b, by rw [← e2], ?_, fin⟩
    · rcases xd with ⟨_, rfl⟩ | ⟨dx, rfl, xd⟩
      · exact .inl rfl
      · exact .inr ⟨dx, _, rfl, k1 _ _ xd trivial⟩
    · cases dd with
      | tup ds =>
        simp only [RV] at rv1
        obtain ⟨tp, ws, rfl, ht, rw1⟩ := rv1
        obtain ⟨us, pu, ku⟩ := isXs_ok (G := wo X) h1 h2 gx rw1 eb (List.all_eq_true.mp hall)
        exact .inr ⟨tp, ws, us, rfl, ht, pu, ku⟩
      | _ => exact .inl (isX1_ok (G := wo X) h1 h2 gx rv1 eb)
  · refine PE.imp (t := fun _ _ _ => False) ⟨fun pins s σ H Q I h => h.elim⟩ fun σ H Q q => ?_
    obtain ⟨ι, h, env, rel, re, po⟩ := q
    unfold mIsX at po
    split at po
    case h_2 => exact po.elim
    obtain ⟨C2, ec, gx2, _⟩ := re.exk _ rfl
    dsimp only at ec gx2
    have hn : x ∉ nm := fun z => hx ⟨z, C2, ec, gx2⟩
    rw [if_neg hn] at po
    exact po.elim
end
/-! ### a field of the exception that is handled -/
def mXf (ft : List (Str × Str)) (x : Str) (ns : List Str) (xs : List D) (i : Nat) (f : Str) : ME := fun env h => match env[i]? with
  | some .ex => if (x, f) ∈ ft then match lookT (ns.zip xs) f with | some d => .ok d h | none => .stuck else .stuck
  | _ => .stuck
theorem lookT_zip {G : Wo} {ι : List Addr} {H : Hp} {f : Str} {d : D} : ∀ {ns : List Str} {xs : List D} {vs : List V}, RVs G ι H xs vs → lookT (ns.zip xs) f = some d → ∃ v, (ns.zip vs).lookup f = some v ∧ RV G ι H d v
  | [], xs, vs, _, e => by simp [lookT] at e
  | n :: ns, [], vs, _, e => by simp [lookT] at e
  | n :: ns, x :: xs, vs, r, e => by
    simp only [RVs] at r
    obtain ⟨v, q, rfl, r1, r2⟩ := r
    unfold lookT at e
    rw [List.zip_cons_cons, List.find?_cons] at e
    rw [List.zip_cons_cons]
    simp only [List.lookup]
    by_cases hn : n = f
    · subst hn
      simp at e
      subst e
      exact ⟨v, by simp, r1⟩
    · have hf : (f == n) = false := by simpa using Ne.symm hn
      rw [hf]
      simp [hn] at e
      exact lookT_zip r2 (by unfold lookT; rw [Option.map_eq_some_iff]; obtain ⟨y, h⟩ := e; exact ⟨(y, d), h, rfl⟩)
section
variable {X : Cx} {W : WX} {a : Addr} {cls : Value} {d : Option Addr} {oe : Obj} {pn : List (Addr × Obj)} {x n f : Str} {ns : List Str} {xs : List D} {ft : List (Str × Str)} {i : Nat} {p1 pos : Pos}
theorem fe_xf (hz : Zc cls d oe) (hf : ∃ vs, oe.data = .fields vs) (T : FTab X.K X.mg ft) (hN : X.N[i]? = some n) (hv : Vis X.env.scope n) (hd1 : (n == ("__debug__" : Str)) = false := by decide) (hd2 : (n == ("__classdict__" : Str)) = false := by decide)
    (hb : attributeBase (.Name n p1) f X.env (eval (.Name n p1) X.env) = eval (.Name n p1) X.env := by rfl) :
    FE (X.suite a ((a, oe) :: pn)) W (some ((a, cls, d), x, ns, xs)) (.Attribute (.Name n p1) f pos) (mXf ft x ns xs i f) := by
  by_cases hx : (x, f) ∈ ft ∧ ∃ C, cls = .ref C ∧ X.mg x = some (.ref C)
  · obtain ⟨hx, C, rfl, gx⟩ := hx
    obtain ⟨C', g', XC, hno⟩ := T _ hx
    dsimp only at g' hno
    rw [gx] at g'; cases g'
    refine PE.imp (pe_xf XC hno hz hf (pe_var (X := X.suite a ((a, oe) :: pn)) (pos := p1) hN hv hd1 hd2) hb) fun σ H Q q => ?_
    obtain ⟨ι, h, env, rel, re, po⟩ := q
    unfold mXf at po
    split at po
    case h_2 => exact po.elim
    rename_i ei
    rw [if_pos hx] at po
    split at po
    case h_2 => exact po.elim
    rename_i dd ed
    obtain ⟨a', c', e1, e2, e3⟩ := re.atx i ei
    cases e1
    obtain ⟨C2, ec, gx2, xl, vs, xd, rxs⟩ := re.exk _ rfl
    dsimp only at ec gx2 xl xd rxs
    cases ec
    obtain ⟨v, ev, rv⟩ := lookT_zip rxs ed
    refine ⟨.ref a', by rw [e3, ← e2], e2.symm ▸ rfl, rfl, ?_⟩
    rcases xd with ⟨rfl, _⟩ | ⟨dx, rfl, xd⟩
    · simp at ev
    · exact ⟨dx, _, v, rfl, xd, ev, po_ok rel rv po⟩
  · refine PE.imp (t := fun _ _ _ => False) ⟨fun pins s σ H Q I h => h.elim⟩ fun σ H Q q => ?_
    obtain ⟨ι, h, env, rel, re, po⟩ := q
    unfold mXf at po
    split at po
    case h_2 => exact po.elim
    obtain ⟨C2, ec, gx2, _⟩ := re.exk _ rfl
    dsimp only at ec gx2
    have hn : (x, f) ∉ ft := fun z => hx ⟨z, C2, ec, gx2⟩
    rw [if_neg hn] at po
    exact po.elim
end
end LF
set_option Elab.async false
set_option linter.all false
set_option maxRecDepth 100000
set_option maxHeartbeats 4000000
/-! LFZ: try. -/
namespace LF
open PySem PySem.Spec L2
open PyProof.Rows hiding St
open NdefX (NF NScope CellsAt startF ncx envF inv_startN)
def plainSl : Sl → Bool
  | .ex => false
  | _ => true
def calmE (e : En) : Bool := e.all plainSl
/-- behind a suite: its name is gone -/
def afterX (i : Nat) : SR → SR
  | .nx e h => if calmE (e.set i .no) = true then .nx (e.set i .no) h else .stuck
  | .bk e h => if calmE (e.set i .no) = true then .bk (e.set i .no) h else .stuck
  | .ct e h => if calmE (e.set i .no) = true then .ct (e.set i .no) h else .stuck
  | .rt d h => .rt d h
  | _ => .stuck
/-- try: .. except c as n: .. -/
def mTryAs (tk : List ((Str × Str) × Bool)) (c : Str) (i : Nat) (mb : MS) (ms : Str → List Str → List D → MS) : MS := fun env h => match mb env h with
  | .exc x ns xs e h' => match lookT tk (x, c) with
    | some true => afterX i (ms x ns xs (e.set i .ex) h')
    | some false => .exc x ns xs e h'
    | none => .stuck
  | r => r
theorem REn.setEx {G : Wo} {ι : List Addr} {H : Hp} {env : En} {σ : St} {a : Addr} {C : Addr} {d : Option Addr} {x : Str} {ns : List Str} {xs : List D} (r : REn G none ι H env σ) (i : Nat) (gx : G.mg x = some (.ref C)) (xf : XF G ι H d ns xs) :
    REn G (some ((a, .ref C, d), x, ns, xs)) ι H (env.set i .ex) (σ.set i (some (.ref a))) := by
  refine ⟨by simp [r.len], fun j d' e => ?_, fun j e => ?_, fun c e => ?_⟩
  · have hj : j < env.length := by have := (List.getElem?_eq_some_iff.mp e).1; simpa using this
    by_cases hji : j = i
    · subst hji
      rw [List.getElem?_set_self hj] at e; cases e
    · rw [List.getElem?_set_ne (Ne.symm hji)] at e
      obtain ⟨w, e1, q1⟩ := r.at_ j d' e
      exact ⟨w, by rw [List.getElem?_set_ne (Ne.symm hji)]; exact e1, q1⟩
  · have hj : j < env.length := by have := (List.getElem?_eq_some_iff.mp e).1; simpa using this
    by_cases hji : j = i
    · subst hji
      exact ⟨a, _, rfl, rfl, List.getElem?_set_self (by rw [← r.len]; exact hj)⟩
    · rw [List.getElem?_set_ne (Ne.symm hji)] at e
      obtain ⟨a', c', z, _⟩ := r.atx j e
      cases z
  · cases e
    exact ⟨C, rfl, gx, xf⟩
theorem REn.calm {G : Wo} {ex ex' : Ex} {ι : List Addr} {H : Hp} {env : En} {σ : St} (r : REn G ex ι H env σ) (hc : calmE env = true) (hn : ex' = none) : REn G ex' ι H env σ := by
  refine ⟨r.len, r.at_, fun i e => ?_, fun c e => by rw [hn] at e; cases e⟩
  have := List.all_eq_true.mp hc _ (List.mem_of_getElem? e)
  cases this
theorem after_ok {G : Wo} {C : (Addr × Value × Option Addr) × Str × List Str × List D} {W : WX} {i : Nat} {ι : List Addr} {H : Hp} {r : SR} {D : Ends} (h : PostS G none W ι H (afterX i r) D) :
    PostS G (some C) WN ι H r { nx := fun σ' H' => D.nx (σ'.set i none) H', rt := D.rt, bk := fun σ' H' => D.bk (σ'.set i none) H', ct := fun σ' H' => D.ct (σ'.set i none) H' } := by
  cases r with
  | nx e h1 =>
    simp only [afterX] at h
    split at h
    · rename_i hc; exact fun ι' H' σ' p k rel re => h ι' H' _ p k rel ((re.drop1 i none).calm hc rfl)
    · exact h.elim
  | bk e h1 =>
    simp only [afterX] at h
    split at h
    · rename_i hc; exact fun ι' H' σ' p k rel re => h ι' H' _ p k rel ((re.drop1 i none).calm hc rfl)
    · exact h.elim
  | ct e h1 =>
    simp only [afterX] at h
    split at h
    · rename_i hc; exact fun ι' H' σ' p k rel re => h ι' H' _ p k rel ((re.drop1 i none).calm hc rfl)
    · exact h.elim
  | rt d h1 => exact h
  | exc x ns xs e h1 => exact h.elim
  | stuck => exact h.elim
section
variable {X : Cx} {W : WX} {n c : Str} {i : Nat} {body suite : List Stmt} {b₀ : Stmt} {np pos pos' : Pos} {mb : MS} {ms : Str → List Str → List D → MS} {tk : List ((Str × Str) × Bool)}
theorem PSs.ex {X : Cx} {body : List Stmt} {α : Type} {t : α → TS} (h : ∀ x, PSs X body (t x)) : PSs X body (fun D σ H => ∃ x, t x D σ H) := ⟨fun pins s σ H D I ⟨x, q⟩ => (h x).run pins s σ H D I q⟩
theorem fs_try_as (T : XTab X.K X.mg tk) (tkW : Takes X W) (hN : X.N.Nodup) (hi : X.N[i]? = some n) (hln : X.env.kindOf n = some .local) (hcl : ∃ C : Addr, X.mg c = some (.ref C))
    (hb : ∀ (W : WX) (pn : List (Addr × Obj)) (xe : Value → Shared → Prop), Takes (X.tr pn xe) W → PassesOwn (model X.prog X.w) X.A X.env xe → FSs (X.tr pn xe) W none body mb)
    (hsu : ∀ (a : Addr) (oe : Obj) (cls : Value) (d : Option Addr) (pn : List (Addr × Obj)) (x : Str) (ns : List Str) (xs : List D), Zc cls d oe → (∃ vs, oe.data = .fields vs) → FSs (X.suite a ((a, oe) :: pn)) WN (some ((a, cls, d), x, ns, xs)) (b₀ :: suite) (ms x ns xs))
    (hs : X.stack = X.env :: X.outer := by rfl) (hf : X.env.frame = some X.env.locals := by rfl) (hg : Gl X c := by rfl) (hd : (c == ("__debug__" : Str)) = false := by decide) :
    FS X W none (.Try body [.ExceptHandler (some (.Name c np)) (some n) (b₀ :: suite) pos'] [] [] pos) (mTryAs tk c i mb ms) := by
  obtain ⟨Cc, hc⟩ := hcl
  refine PS.imp (ps_try_as (c := .ref Cc) (tb := fun W => rdS (wo X) none W mb) (ts := fun a cls d D' σ H => ∃ z : Str × List Str × List D, rdS (wo X) (some ((a, cls, d), z)) WN (ms z.1 z.2.1 z.2.2) D' σ H)
    hs hf hN hi hln ⟨hg, hd, .inl hc⟩ tkW hb (fun a oe cls d pn hz hv => PSs.ex fun z => hsu a oe cls d pn z.1 z.2.1 z.2.2 hz hv)) fun D σ H q => ?_
  obtain ⟨ι, h, env, rel, re, po⟩ := q
  refine ⟨ι, h, env, rel, re, ?_⟩
  unfold mTryAs at po
  cases e : mb env h with
  | nx _ _ => rw [e] at po; exact po
  | bk _ _ => rw [e] at po; exact po
  | ct _ _ => rw [e] at po; exact po
  | rt _ _ => rw [e] at po; exact po
  | stuck => rw [e] at po; exact po.elim
  | exc x ns xs e1 h1 =>
    rw [e] at po
    intro ι' H' σ' C d p k rel' re' gx xf
    dsimp only at po
    cases el : lookT tk (x, c) with
    | none => rw [el] at po; exact po.elim
    | some b =>
      rw [el] at po
      obtain ⟨C1, C2, g1, g2, ex1, _⟩ := T _ (lookT_mem el)
      dsimp only at g1 g2 ex1
      have gx' : X.mg x = some (.ref C) := gx
      rw [gx'] at g1; cases g1
      rw [hc] at g2; cases g2
      refine ⟨b, ex1, fun hb1 a na => ?_, fun hb1 => ?_⟩
      · subst hb1
        exact ⟨(x, ns, xs), ι', h1, _, rel', re'.setEx i gx xf, after_ok (PostS.mono p k po)⟩
      · subst hb1
        exact po ι' H' σ' C d p k rel' re' gx xf
end
/-! ### a class statement's parts -/
def clsBody (s : Stmt) : List Stmt := match s with
  | .ClassDef _ _ _ b _ _ _ _ _ _ _ => b
  | _ => []
def stAt (b : List Stmt) (i : Nat) : Stmt := b.getD i (.Pass ⟨0, 0, 0, 0⟩)
/-- the words of the written part on an own exception class with its own __init__ -/
structure ExcW (P : Program) (K : PySem.W.Frag) (x qual : Str) (st : Stmt) (C fI cc cda : Addr) : Prop where
  gx : PySem.W.nsIn K mainGlobals x = some (some (.ref C))
  obj : ∃ nm q N bs bm sn sub ab col dd k0 k1 k2 k3 k5, K.lookup C = some (excClassObj nm q C N bs bm true sn sub ab col dd k0 k1 k2 k3 k5 "ValueError.__new__") ∧ PySem.HandSPX.refsVE bm = true
  sa : PySem.W.findIn K (.ref C) "__setattr__" = some (some (.builtin "object.__setattr__"))
  exC : PySem.W.subIn K (.ref C) (.type "BaseException") = some true
  tyC : PySem.W.typeIn K (.ref C) = some (.type "type")
  kC : PySem.W.keepIn K (.ref C) = true
  ini : PySem.W.findIn K (.ref C) "__init__" = some (some (.ref fI))
  tyI : PySem.W.typeIn K (.ref fI) = some (.type "function")
  lk : ∃ oc od kV doc pm an ct osl, K.lookup fI = some ⟨oc, od, .func (PySem.W.ksFn "__init__" qual (defArgs st) (defBody st) (defScope st) .none kV doc pm an (.ref cda) ct cc), osl⟩
  hcd : PySem.W.codeIn K (.ref cda) qual = true
  cell : ∃ cl cld csl, K.lookup cc = some ⟨cl, cld, .cell (some (.ref C)), csl⟩
  code : ∃ ccl cdd vs ccs file tf, K.lookup cda = some ⟨ccl, cdd, .fields vs, ccs⟩ ∧ vs[2]? = some (.str file tf) ∧ ((P.main.file : Str) == file) = true
  top : (P.main.scope.names.lookup ("super" : Str)).isSome = false
  sup : PySem.W.nsIn K mainGlobals "super" = some none
  nost : PySem.W.nsIn K cStatics "thirdparty.any" = some none
  sini : PySem.W.ks_superIn K C C "__init__" = some (some (.builtin "ValueError.__init__"))
  mro : PySem.W.mroIn K C (.ref C) = some true
  ve : PySem.W.subIn K (.ref C) (.type "ValueError") = some true
theorem ExcW.oex {P : Program} {K : PySem.W.Frag} {x qual : Str} {st : Stmt} {C fI cc cda : Addr} (E : ExcW P K x qual st C fI cc cda) : OexC K C := ⟨E.obj, E.sa, E.exC, E.tyC, E.kC⟩
theorem ExcW.sk {P : Program} {K : PySem.W.Frag} {h : Heap} {mg : Str → Option Value} (XK : K.In h) (G : h.Ns mainGlobals mg) {x qual : Str} {st : Stmt} {C fI cc cda : Addr} {ar : Arg} (E : ExcW P K x qual st C fI cc cda) (hp : ((defArgs st).posonlyargs ++ (defArgs st).args).head? = some ar) (ha : ar.arg = slfN) : SupK P K mg C C fI cc (.ref cda) slfN := by
  obtain ⟨oc, od, kV, doc, pm, an, ct, osl, lk⟩ := E.lk
  obtain ⟨ccl, cdd, vs, ccs, file, tf, h1, h2, h3⟩ := E.code
  obtain ⟨nm, q, N, bs, bm, sn, sub, ab, col, dd, k0, k1, k2, k3, k5, hC, hbm⟩ := E.obj
  refine ⟨⟨oc, od, _, osl, ar, lk, hp, ha⟩, ⟨cda, ccl, cdd, vs, ccs, file, tf, rfl, h1, h2, h3⟩, E.top, E.cell, ?_, E.mro, PySem.W.mg_none_of XK G E.sup, E.sini, E.nost, E.ve⟩
  unfold PySem.W.clsIn; rw [hC]; rfl
/-- one field -/
theorem exc1 {P : Program} {w : World} {K : PySem.W.Frag} {h : Heap} {mg : Str → Option Value} {base : Heap} (XK : K.In h) (G : h.Ns mainGlobals mg) {x qual f1 m : Str} {st : Stmt} {C fI cc cda : Addr} {ar : Arg} {j : Nat} {p0 p1 p2 p3 p4 p5 q0 q1 q2 q3 : Pos} {pl : Sem Bool}
    (E : ExcW P K x qual st C fI cc cda) (no1 : PySem.W.findIn K (.ref C) f1 = some none)
    (hp : ((defArgs st).posonlyargs ++ (defArgs st).args).head? = some ar := by rfl) (ha : ar.arg = slfN := by rfl)
    (hb : defBody st = supSt m j p0 p1 p2 p3 p4 p5 :: [asSt f1 q0 q1 q2 q3] := by rfl)
    (hbd : ∀ (kV doc pm : Value) (an : Option Addr) (ct : Value) (us : List Value), us.length = [slfN, f1].length → bindArgs (PySem.W.ksFn "__init__" qual (defArgs st) (defBody st) (defScope st) .none kV doc pm an (.ref cda) ct cc) ⟨us, []⟩ = pure ([slfN, f1].zip us) := by
      intro _ _ _ _ _ us hl; match us, hl with | [_, _], _ => rfl)
    (S : NScope ([slfN, f1] ++ [clsN]) [slfN, f1] [clsN] (defScope st) := by exact NdefX.nscope_by (by decide +kernel)) (hsu : (defScope st).names.lookup ("super" : Str) = some .globalImplicit := by rfl)
    (hq : ∀ L, swapsWith (.Call (.Attribute (.Call (.Name "super" p0) [] [] p1) "__init__" p2) [.Constant (.str m) j p3] [] p4) none p5.line (envF ⟨"__init__", qual, defArgs st, defBody st, defScope st, [(clsN, cc)], cda⟩ fI L) = pure false := by intro _; rfl)
    (he : ∀ L, starEach [.Constant (.str m) j p3] (envF ⟨"__init__", qual, defArgs st, defBody st, defScope st, [(clsN, cc)], cda⟩ fI L) = (false, eval (.Constant (.str m) j p3) (envF ⟨"__init__", qual, defArgs st, defBody st, defScope st, [(clsN, cc)], cda⟩ fI L)) :: starEach [] (envF ⟨"__init__", qual, defArgs st, defBody st, defScope st, [(clsN, cc)], cda⟩ fI L) := by intro _; rfl)
    (hev : ∀ L, eval (.Call (.Attribute (.Call (.Name "super" p0) [] [] p1) "__init__" p2) [.Constant (.str m) j p3] [] p4) (envF ⟨"__init__", qual, defArgs st, defBody st, defScope st, [(clsN, cc)], cda⟩ fI L) = (do
      let ov ← attributeBase (.Call (.Name "super" p0) [] [] p1) "__init__" (envF ⟨"__init__", qual, defArgs st, defBody st, defScope st, [(clsN, cc)], cda⟩ fI L) (eval (.Call (.Name "super" p0) [] [] p1) (envF ⟨"__init__", qual, defArgs st, defBody st, defScope st, [(clsN, cc)], cda⟩ fI L))
      standAt p2.atName
      let (fv, first) ← holding [ov] (getMethod ov "__init__" pl)
      callWith p4 fv first (backTo p4 (starEach [.Constant (.str m) j p3] (envF ⟨"__init__", qual, defArgs st, defBody st, defScope st, [(clsN, cc)], cda⟩ fI L))) []) := by intro _; rfl)
    (hs1 : ∀ L, swapsWith (.Name f1 q2) (some (.Attribute (.Name slfN q0) f1 q1)) q3.line (envF ⟨"__init__", qual, defArgs st, defBody st, defScope st, [(clsN, cc)], cda⟩ fI L) = pure false := by intro _; rfl)
    (hd1 : (f1 == ("__debug__" : Str)) = false := by decide) (hd2 : (f1 == ("__classdict__" : Str)) = false := by decide) : ExcOk P w K mg base x 1 [f1] := by
  obtain ⟨oc, od, kV, doc, pm, an, ct, osl, lk⟩ := E.lk
  exact excOk1 (k := 0) (F := ⟨"__init__", qual, defArgs st, defBody st, defScope st, [(clsN, cc)], cda⟩) (PySem.W.mg_of XK G E.gx) E.oex E.ini E.tyI (hbd kV doc pm an ct) (E.sk XK G hp ha) no1 lk E.hcd rfl hb S hsu hq he hev hs1 hd1 hd2
/-- two fields -/
theorem exc2 {P : Program} {w : World} {K : PySem.W.Frag} {h : Heap} {mg : Str → Option Value} {base : Heap} (XK : K.In h) (G : h.Ns mainGlobals mg) {x qual f1 f2 m : Str} {st : Stmt} {C fI cc cda : Addr} {ar : Arg} {j : Nat} {p0 p1 p2 p3 p4 p5 q0 q1 q2 q3 r0 r1 r2 r3 : Pos} {pl : Sem Bool}
    (E : ExcW P K x qual st C fI cc cda) (no1 : PySem.W.findIn K (.ref C) f1 = some none) (no2 : PySem.W.findIn K (.ref C) f2 = some none)
    (hp : ((defArgs st).posonlyargs ++ (defArgs st).args).head? = some ar := by rfl) (ha : ar.arg = slfN := by rfl)
    (hb : defBody st = supSt m j p0 p1 p2 p3 p4 p5 :: [asSt f1 q0 q1 q2 q3, asSt f2 r0 r1 r2 r3] := by rfl)
    (hbd : ∀ (kV doc pm : Value) (an : Option Addr) (ct : Value) (us : List Value), us.length = [slfN, f1, f2].length → bindArgs (PySem.W.ksFn "__init__" qual (defArgs st) (defBody st) (defScope st) .none kV doc pm an (.ref cda) ct cc) ⟨us, []⟩ = pure ([slfN, f1, f2].zip us) := by
      intro _ _ _ _ _ us hl; match us, hl with | [_, _, _], _ => rfl)
    (S : NScope ([slfN, f1, f2] ++ [clsN]) [slfN, f1, f2] [clsN] (defScope st) := by exact NdefX.nscope_by (by decide +kernel)) (hsu : (defScope st).names.lookup ("super" : Str) = some .globalImplicit := by rfl)
    (hq : ∀ L, swapsWith (.Call (.Attribute (.Call (.Name "super" p0) [] [] p1) "__init__" p2) [.Constant (.str m) j p3] [] p4) none p5.line (envF ⟨"__init__", qual, defArgs st, defBody st, defScope st, [(clsN, cc)], cda⟩ fI L) = pure false := by intro _; rfl)
    (he : ∀ L, starEach [.Constant (.str m) j p3] (envF ⟨"__init__", qual, defArgs st, defBody st, defScope st, [(clsN, cc)], cda⟩ fI L) = (false, eval (.Constant (.str m) j p3) (envF ⟨"__init__", qual, defArgs st, defBody st, defScope st, [(clsN, cc)], cda⟩ fI L)) :: starEach [] (envF ⟨"__init__", qual, defArgs st, defBody st, defScope st, [(clsN, cc)], cda⟩ fI L) := by intro _; rfl)
    (hev : ∀ L, eval (.Call (.Attribute (.Call (.Name "super" p0) [] [] p1) "__init__" p2) [.Constant (.str m) j p3] [] p4) (envF ⟨"__init__", qual, defArgs st, defBody st, defScope st, [(clsN, cc)], cda⟩ fI L) = (do
      let ov ← attributeBase (.Call (.Name "super" p0) [] [] p1) "__init__" (envF ⟨"__init__", qual, defArgs st, defBody st, defScope st, [(clsN, cc)], cda⟩ fI L) (eval (.Call (.Name "super" p0) [] [] p1) (envF ⟨"__init__", qual, defArgs st, defBody st, defScope st, [(clsN, cc)], cda⟩ fI L))
      standAt p2.atName
      let (fv, first) ← holding [ov] (getMethod ov "__init__" pl)
      callWith p4 fv first (backTo p4 (starEach [.Constant (.str m) j p3] (envF ⟨"__init__", qual, defArgs st, defBody st, defScope st, [(clsN, cc)], cda⟩ fI L))) []) := by intro _; rfl)
    (hs1 : ∀ L, swapsWith (.Name f1 q2) (some (.Attribute (.Name slfN q0) f1 q1)) q3.line (envF ⟨"__init__", qual, defArgs st, defBody st, defScope st, [(clsN, cc)], cda⟩ fI L) = pure false := by intro _; rfl)
    (hs2 : ∀ L, swapsWith (.Name f2 r2) (some (.Attribute (.Name slfN r0) f2 r1)) r3.line (envF ⟨"__init__", qual, defArgs st, defBody st, defScope st, [(clsN, cc)], cda⟩ fI L) = pure false := by intro _; rfl)
    (hd1 : (f1 == ("__debug__" : Str)) = false := by decide) (hd2 : (f1 == ("__classdict__" : Str)) = false := by decide) (hd3 : (f2 == ("__debug__" : Str)) = false := by decide) (hd4 : (f2 == ("__classdict__" : Str)) = false := by decide) : ExcOk P w K mg base x 1 [f1, f2] := by
  obtain ⟨oc, od, kV, doc, pm, an, ct, osl, lk⟩ := E.lk
  exact excOk2 (k := 0) (F := ⟨"__init__", qual, defArgs st, defBody st, defScope st, [(clsN, cc)], cda⟩) (PySem.W.mg_of XK G E.gx) E.oex E.ini E.tyI (hbd kV doc pm an ct) (E.sk XK G hp ha) no1 no2 lk E.hcd rfl hb S hsu hq he hev hs1 hs2 hd1 hd2 hd3 hd4
/-- a def that calls itself too often for what is asked -/
theorem def_stuck {P : Program} {w : World} {K : PySem.W.Frag} {mg : Str → Option Value} {base : Heap} {x : Str} {st : Stmt} {ps : List Str} {k : Nat} (T : FnAt K mg x x st ps) : Def P w K mg base x k ps.length (fun _ _ => .stuck) := by
  obtain ⟨f, fd, F, gx, hb⟩ := T.ex
  refine ⟨f, fd, ps, rfl, gx, F.kp, .all hb, ⟨fun vs H Q E h => h.1, fun A outer s H args us vs Q E _ _ _ _ h => ?_⟩⟩
  obtain ⟨_, ι, h, ds, _, _, po⟩ := h
  exact po.elim
/-! ### yes and no about the written part, by computing -/
def excB (K : PySem.W.Frag) (D : Addr) : Bool := decide (PySem.W.findIn K (.ref D) "__getattribute__" = some (some (.builtin "BaseException.__getattribute__"))) && decide (PySem.W.findIn K (.ref D) "__getattr__" = some none) && decide (PySem.W.subIn K (.ref D) (.type "BaseException") = some true) && PySem.W.hasDictIn K D &&
  decide (PySem.W.findIn K (.ref D) "__class__" = some (some (.builtin "object.__class__"))) && decide (PySem.W.specialIn K (.builtin "object.__class__") "__get__" = some (some (.builtin "getset_descriptor.__get__"))) && decide (PySem.W.takesIn K (.builtin "object.__class__") = some true) && decide (PySem.W.mroIn K D (.type "object") = some true)
theorem excB_ok {K : PySem.W.Frag} {D : Addr} (h : excB K D = true) : ExcC K D := by
  unfold excB at h
  simp only [Bool.and_eq_true, decide_eq_true_eq] at h
  obtain ⟨⟨⟨⟨⟨⟨⟨h1, h2⟩, h3⟩, h4⟩, h5⟩, h6⟩, h7⟩, h8⟩ := h
  exact ⟨h1, h2, h3, h4, h5, h6, h7, h8⟩
end LF
set_option Elab.async false
set_option linter.all false
set_option maxRecDepth 100000
set_option maxHeartbeats 4000000
/-! LFV: texts and further methods. -/
namespace LF
open PySem PySem.Spec L2
open PyProof.Rows hiding St
instance (x : Str) (n : Int) : Decidable (MulOk x n) := by unfold MulOk; infer_instance
section
variable {X : Cx} {W : WX} {ex : Ex} {e a b c i o : Expr} {es : List Expr} {ma mb mc : ME} {mas : MA} {pos : Pos} {G : Wo}
theorem op_smul : OpR X (binaryOp .Mult) (fun x y H Q => ∃ i j, x = .str i ∧ y = .int j ∧ MulOk i j ∧ Q (.str (Txt.mul i j)) H) := by
  intro pins s σ H x y v u Q I rx ry h
  obtain ⟨i, j, rfl, rfl, hz, q⟩ := h
  obtain ⟨t, rfl⟩ := rx
  obtain ⟨t', rfl⟩ := ry
  exact SB.mul hz fun t' k => ⟨.str (Txt.mul i j), H, I.tok k, ⟨_, rfl⟩, q⟩
def fSMul (x y : D) (h : M) : Res D := match x, y with
  | .str i, .int j => if MulOk i j then .ok (.str (Txt.mul i j)) h else .stuck
  | _, _ => .stuck
theorem fe_smul (ha : FE X W ex a ma) (hb : FE X W ex b mb) : FE X W ex (.BinOp a .Mult b pos) (m2 fSMul ma mb) := by
  refine fe_op op_smul (fun E ι H h x y v u Q rel rx ry po => ?_) ha hb
  unfold fSMul at po
  split at po
  · rename_i i j
    split at po
    · rename_i hc
      simp only [RV] at rx ry
      subst rx; subst ry
      exact ⟨i, j, rfl, rfl, hc, po_ok rel (by simp [RV]) po⟩
    · exact po.elim
  · exact po.elim
def fSLt (x y : D) (h : M) : Res D := match x, y with
  | .str i, .str j => .ok (.bl (decide (i.cps.toList < j.cps.toList))) h
  | .int i, .int j => .ok (.bl (decide (i < j))) h
  | _, _ => .stuck
theorem fc_slt (ha : FE X W ex a ma) (hb : FE X W ex b mb) : FC X W ex .Lt a b (m2 fSLt ma mb) := by
  refine fc_op (op_lt.or op_lt_str) (fun E ι H h x y v u Q rel rx ry po => ?_) ha hb
  unfold fSLt at po
  split at po
  · rename_i i j
    simp only [RV] at rx ry
    subst rx; subst ry
    exact .inr ⟨i, j, rfl, rfl, po_ok rel (by simp [RV]) po⟩
  · rename_i i j
    simp only [RV] at rx ry
    subst rx; subst ry
    exact .inl ⟨i, j, rfl, rfl, po_ok rel (by simp [RV]) po⟩
  · exact po.elim
/-! ### methods of texts -/
def fFind (x : D) (xs : List D) (h : M) : Res D := match x, xs with
  | .str a, [.str b] => .ok (.int (Txt.find a b)) h
  | _, _ => .stuck
theorem ab_find : AbM G (fun x xs H Q => ∃ a b, x = .str a ∧ xs = [.str b] ∧ Q (.int (Txt.find a b)) H) fFind := by
  intro E ι H h x xs v vs Q rel rx rxs po
  unfold fFind at po
  split at po
  · obtain ⟨w, rfl, rw'⟩ := rxs.eq1
    simp only [RV] at rx rw'
    subst rx; subst rw'
    exact ⟨_, _, rfl, rfl, po_ok rel (by simp [RV]) po⟩
  · exact po.elim
def fSIndex (x : D) (xs : List D) (h : M) : Res D := match x, xs with
  | .str a, [.str b] => match Builtin.Str.occurrences a b 0 a.length 1 with
    | i :: _ => .ok (.int (i : Nat)) h
    | [] => .stuck
  | _, _ => .stuck
theorem ab_sindex : AbM G (fun x xs H Q => ∃ a b i rest, x = .str a ∧ xs = [.str b] ∧ Builtin.Str.occurrences a b 0 a.length 1 = i :: rest ∧ Q (.int (i : Nat)) H) fSIndex := by
  intro E ι H h x xs v vs Q rel rx rxs po
  unfold fSIndex at po
  split at po
  · split at po
    · rename_i i r eo
      obtain ⟨w, rfl, rw'⟩ := rxs.eq1
      simp only [RV] at rx rw'
      subst rx; subst rw'
      exact ⟨_, _, _, _, rfl, rfl, eo, po_ok rel (by simp [RV]) po⟩
    · exact po.elim
  · exact po.elim
def fStarts (x : D) (xs : List D) (h : M) : Res D := match x, xs with
  | .str a, [.str b] => .ok (.bl (Txt.startswith a b)) h
  | _, _ => .stuck
theorem ab_starts : AbM G (fun x xs H Q => ∃ a b, x = .str a ∧ xs = [.str b] ∧ Q (.bl (Txt.startswith a b)) H) fStarts := by
  intro E ι H h x xs v vs Q rel rx rxs po
  unfold fStarts at po
  split at po
  · obtain ⟨w, rfl, rw'⟩ := rxs.eq1
    simp only [RV] at rx rw'
    subst rx; subst rw'
    exact ⟨_, _, rfl, rfl, po_ok rel (by simp [RV]) po⟩
  · exact po.elim
def fUpper (x : D) (xs : List D) (h : M) : Res D := match x, xs with
  | .str a, [] => if a.length ≤ 5592405 then .ok (.str (Txt.upper a)) h else .stuck
  | _, _ => .stuck
theorem ab_upper : AbM G (fun x xs H Q => ∃ a, x = .str a ∧ xs = [] ∧ a.length ≤ 5592405 ∧ Q (.str (Txt.upper a)) H) fUpper := by
  intro E ι H h x xs v vs Q rel rx rxs po
  unfold fUpper at po
  split at po
  · split at po
    · rename_i hc
      simp only [RVs] at rxs
      simp only [RV] at rx
      subst rx; subst rxs
      exact ⟨_, rfl, rfl, hc, po_ok rel (by simp [RV]) po⟩
    · exact po.elim
  · exact po.elim
def fSplit (x : D) (xs : List D) (h : M) : Res D := match x, xs with
  | .str a, [.str b] => if (b.length == 0) = false ∧ a.length + 2 ≤ sizeLine then .ok (.loc h.length) (h ++ [.lst ((Txt.split a b).map .str)]) else .stuck
  | _, _ => .stuck
theorem RVs.strs {ι : List Addr} {H : Hp} : ∀ ys : List Str, RVs G ι H (ys.map .str) (ys.map V.str)
  | [] => RVs.nil
  | y :: ys => RVs.cons (by simp [RV]) (RVs.strs ys)
theorem ab_split : AbM G (fun x xs H Q => ∃ a b, x = .str a ∧ xs = [.str b] ∧ (b.length == 0) = false ∧ a.length + 2 ≤ sizeLine ∧ rNewStrs (Txt.split a b) H Q) fSplit := by
  intro E ι H h x xs v vs Q rel rx rxs po
  unfold fSplit at po
  split at po
  · split at po
    · rename_i hc
      obtain ⟨w, rfl, rw'⟩ := rxs.eq1
      simp only [RV] at rx rw'
      subst rx; subst rw'
      exact ⟨_, _, rfl, rfl, hc.1, hc.2, fun p hp => po_lst rel (RVs.strs _) po p hp⟩
    · exact po.elim
  · exact po.elim
def strsD : List D → Option (List Str)
  | [] => some []
  | .str y :: ds => (strsD ds).map (y :: ·)
  | _ => none
theorem strsD_ok {ι : List Addr} {H : Hp} : ∀ {ds : List D} {ys : List Str} {vs : List V}, strsD ds = some ys → RVs G ι H ds vs → vs = ys.map V.str
  | [], ys, vs, e, r => by
    simp only [strsD, Option.some.injEq] at e
    simp only [RVs] at r
    subst e; subst r; rfl
  | d :: ds, ys, vs, e, r => by
    simp only [RVs] at r
    obtain ⟨v, q, rfl, r1, r2⟩ := r
    cases d <;> simp only [strsD, reduceCtorEq, Option.map_eq_some_iff] at e
    obtain ⟨zs, e1, rfl⟩ := e
    simp only [RV] at r1
    rw [strsD_ok e1 r2, r1]; rfl
def fJoin (x : D) (xs : List D) (h : M) : Res D := match x, xs with
  | .str a, [y] => match seqOf h y with
    | some ds => match strsD ds with
      | some ys => if (ys.map (·.length)).sum + ys.length * a.length ≤ 16777216 then .ok (.str (Txt.join a ys)) h else .stuck
      | none => .stuck
    | none => .stuck
  | _, _ => .stuck
theorem ab_join : AbM G (fun x xs H Q => ∃ a p, ∃ ys : List Str, x = .str a ∧ xs = [.ref p] ∧ (SqL G.K H p (ys.map V.str) ∨ SqT G.K H p (ys.map V.str)) ∧
    (ys.map (·.length)).sum + ys.length * a.length ≤ 16777216 ∧ Q (.str (Txt.join a ys)) H) fJoin := by
  intro E ι H h x xs v vs Q rel rx rxs po
  unfold fJoin at po
  split at po
  case h_2 => exact po.elim
  split at po
  case h_2 => exact po.elim
  rename_i ds e1
  split at po
  case h_2 => exact po.elim
  rename_i ys e2
  split at po
  case isFalse => exact po.elim
  rename_i hc
  obtain ⟨w, rfl, rw'⟩ := rxs.eq1
  simp only [RV] at rx
  subst rx
  obtain ⟨p, ws, rfl, s, r⟩ := seqOf_sq rel rw' e1
  have := strsD_ok e2 r
  subst this
  exact ⟨_, p, ys, rfl, rfl, s, hc, po_ok rel (by simp [RV]) po⟩
/-! ### methods of lists -/
def fReverse (x : D) (xs : List D) (h : M) : Res D := match x, xs with
  | .loc l, [] => match h[l]? with
    | some (.lst ys) => .ok .non (h.set l (.lst ys.reverse))
    | _ => .stuck
  | _, _ => .stuck
theorem RVs.rev' {ι : List Addr} {H : Hp} : ∀ {xs : List D} {vs : List V}, RVs G ι H xs vs → RVs G ι H xs.reverse vs.reverse
  | [], vs, r => by simp only [RVs] at r; subst r; exact RVs.nil
  | x :: xs, vs, r => by
    simp only [RVs] at r
    obtain ⟨v, q, rfl, r1, r2⟩ := r
    rw [List.reverse_cons, List.reverse_cons]
    exact (RVs.rev' r2).append (RVs.one r1)
theorem ab_reverse : AbM G rReverse fReverse := by
  intro E ι H h x xs v vs Q rel rx rxs po
  unfold fReverse at po
  split at po
  case h_2 => exact po.elim
  split at po
  case h_2 => exact po.elim
  rename_i ys e1
  simp only [RVs] at rxs
  subst rxs
  obtain ⟨a, ws, rfl, ea, q, r⟩ := at_lst rel rx e1
  exact ⟨a, ws, rfl, rfl, q, po_wr rel ea (RVs.rev' r) (fun _ _ => by simp [RV]) po⟩
def fInsert (x : D) (xs : List D) (h : M) : Res D := match x, xs with
  | .loc l, [.int i, y] => match h[l]? with
    | some (.lst ys) => if ys.length < sizeLine ∧ 0 ≤ i ∧ i < 2 ^ 63 then .ok .non (h.set l (.lst (ys.take i.toNat ++ [y] ++ ys.drop i.toNat))) else .stuck
    | _ => .stuck
  | _, _ => .stuck
theorem ab_insert : AbM G (fun x vs H Q => ∃ (l : Addr) (xs : List V) (i : Int) (y : V), x = .ref l ∧ vs = [.int i, y] ∧ H l = some (.lst xs) ∧ xs.length < sizeLine ∧ 0 ≤ i ∧ i < 2 ^ 63 ∧
    Q .non (upd H l (.lst (xs.take i.toNat ++ [y] ++ xs.drop i.toNat)))) fInsert := by
  intro E ι H h x xs v vs Q rel rx rxs po
  unfold fInsert at po
  split at po
  case h_2 => exact po.elim
  split at po
  case h_2 => exact po.elim
  rename_i ys e1
  split at po
  case isFalse => exact po.elim
  rename_i hc
  obtain ⟨w, u, rfl, rw', ru⟩ := rxs.eq2
  simp only [RV] at rw'
  subst rw'
  obtain ⟨a, ws, rfl, ea, q, r⟩ := at_lst rel rx e1
  have hl := RVs.length r
  exact ⟨a, ws, _, u, rfl, rfl, q, by omega, hc.2.1, hc.2.2, po_wr rel ea (((r.take _).append (RVs.one ru)).append (r.drop _)) (fun _ _ => by simp [RV]) po⟩
def fPop (x : D) (xs : List D) (h : M) : Res D := match x, xs with
  | .loc l, [] => match h[l]? with
    | some (.lst ys) => match ys[ys.length - 1]? with
      | some y => .ok y (h.set l (.lst ys.dropLast))
      | none => .stuck
    | _ => .stuck
  | _, _ => .stuck
/-! ### chains -/
theorem fe_chain {op op' : CmpOp} {g g' : Int → Int → Bool} (ho : OpR X (compareOp op) (rI0 fun i j => .bl (g i j))) (ho' : OpR X (compareOp op') (rI0 fun i j => .bl (g' i j))) (ha : FE X W ex a ma) (hb : FE X W ex b mb) (hc : FE X W ex c mc)
    (hm : lastMarks [op, op'] [b, c] = false := by with_unfolding_all rfl) : FE X W ex (.Compare a [op, op'] [b, c] pos) (mChain (fI (fun _ _ => True) fun i j => .bl (g i j)) (fI (fun _ _ => True) fun i j => .bl (g' i j)) ma mb mc) :=
  PE.imp (pe_chain ho ho' ha hb hc hm) fun σ H Q q => rd_chain q
theorem ft_chain {op op' : CmpOp} {g g' : Int → Int → Bool} (ho : OpR X (compareOp op) (rI0 fun i j => .bl (g i j))) (ho' : OpR X (compareOp op') (rI0 fun i j => .bl (g' i j))) (ha : FE X W ex a ma) (hb : FE X W ex b mb) (hc : FE X W ex c mc)
    (hm : lastMarks [op, op'] [b, c] = false := by with_unfolding_all rfl) : FT X W ex (.Compare a [op, op'] [b, c] pos) (mTest (mChain (fI (fun _ _ => True) fun i j => .bl (g i j)) (fI (fun _ _ => True) fun i j => .bl (g' i j)) ma mb mc)) :=
  PT.imp (pt_chain ho ho' ha hb hc hm) fun σ H Q q => rd_chain (rd_test q)
def fMulX (x y : D) (h : M) : Res D := match x with
  | .str _ => fSMul x y h
  | _ => fMul x y h
theorem fe_mulX (ha : FE X W ex a ma) (hb : FE X W ex b mb) : FE X W ex (.BinOp a .Mult b pos) (m2 fMulX ma mb) := by
  refine PE.imp (PE.or (fe_mul ha hb) (fe_smul ha hb)) fun σ H Q q => ?_
  obtain ⟨ι, h, env, rel, re, po⟩ := q
  cases e : ma env h with
  | ok x h1 =>
    by_cases hx : ∃ z, x = .str z
    · obtain ⟨z, rfl⟩ := hx
      have e2 : m2 fMulX ma mb env h = m2 fSMul ma mb env h := by unfold m2; rw [e]; rfl
      rw [e2] at po
      exact .inr ⟨ι, h, env, rel, re, po⟩
    · have e2 : m2 fMulX ma mb env h = m2 fMul ma mb env h := by
        unfold m2; rw [e]
        simp only [bind_ok]
        congr 1; funext y h2
        cases x <;> first | rfl | exact absurd ⟨_, rfl⟩ hx
      rw [e2] at po
      exact .inl ⟨ι, h, env, rel, re, po⟩
  | exc x ns vs h1 =>
    have e2 : m2 fMulX ma mb env h = m2 fMul ma mb env h := by unfold m2; rw [e]; rfl
    rw [e2] at po
    exact .inl ⟨ι, h, env, rel, re, po⟩
  | stuck =>
    have e2 : m2 fMulX ma mb env h = m2 fMul ma mb env h := by unfold m2; rw [e]; rfl
    rw [e2] at po
    exact .inl ⟨ι, h, env, rel, re, po⟩
end
end LF
set_option Elab.async false
set_option linter.all false
set_option maxRecDepth 100000
set_option maxHeartbeats 4000000
/-! LFM: a small logic over the plain machine. -/
namespace LF
open PySem L2
abbrev XP := Str → List Str → List D → M → Prop
/-- what must hold behind an expression; a class, so that simp leaves it alone -/
class Kw (α : Type) where
  q : α → M → Prop
  x : XP
def Wc {α : Type} (r : Res α) [k : Kw α] : Prop := match r with
  | .ok a h => k.q a h
  | .exc x ns vs h => k.x x ns vs h
  | .stuck => False
class Kt where
  nx : En → M → Prop
  rt : D → M → Prop
  bk : En → M → Prop
  ct : En → M → Prop
  ex : Str → List Str → List D → En → M → Prop
def Ws (r : SR) [k : Kt] : Prop := match r with
  | .nx e h => k.nx e h
  | .rt d h => k.rt d h
  | .bk e h => k.bk e h
  | .ct e h => k.ct e h
  | .exc x ns vs e h => k.ex x ns vs e h
  | .stuck => False
abbrev noEx : XP := fun _ _ _ _ => False
/-- what a call that raises nothing comes to -/
def Wp {α : Type} (r : Res α) (Q : α → M → Prop) : Prop := @Wc α r ⟨Q, noEx⟩
/-- and one that may raise -/
def Wx {α : Type} (r : Res α) (Q : α → M → Prop) (X : XP) : Prop := @Wc α r ⟨Q, X⟩
theorem Wc.mono {α : Type} {r : Res α} {k k' : Kw α} (h : @Wc α r k) (hq : ∀ a h, k.q a h → k'.q a h) (hx : ∀ x ns vs h, k.x x ns vs h → k'.x x ns vs h) : @Wc α r k' := by
  cases r with
  | ok a h1 => exact hq _ _ h
  | exc x ns vs h1 => exact hx _ _ _ _ h
  | stuck => exact h
/-- behind a call that raises nothing -/
theorem Wp.call {α : Type} {r : Res α} {Q Q' : α → M → Prop} {X : XP} (h : Wp r Q) (hq : ∀ a h, Q a h → Q' a h) : @Wc α r ⟨Q', X⟩ := Wc.mono h hq fun _ _ _ _ z => z.elim
theorem Wx.call {α : Type} {r : Res α} {Q Q' : α → M → Prop} {X X' : XP} (h : Wx r Q X) (hq : ∀ a h, Q a h → Q' a h) (hx : ∀ x ns vs h, X x ns vs h → X' x ns vs h) : @Wc α r ⟨Q', X'⟩ := Wc.mono h hq hx
theorem Wp.mono {α : Type} {r : Res α} {Q Q' : α → M → Prop} (h : Wp r Q) (hq : ∀ a h, Q a h → Q' a h) : Wp r Q' := Wc.mono h hq fun _ _ _ _ z => z
theorem Ws.mono {r : SR} {k k' : Kt} (h : @Ws r k) (h1 : ∀ e m, k.nx e m → k'.nx e m) (h2 : ∀ d m, k.rt d m → k'.rt d m) (h3 : ∀ e m, k.bk e m → k'.bk e m) (h4 : ∀ e m, k.ct e m → k'.ct e m) (h5 : ∀ x ns vs e m, k.ex x ns vs e m → k'.ex x ns vs e m) : @Ws r k' := by
  cases r with
  | nx => exact h1 _ _ h
  | rt => exact h2 _ _ h
  | bk => exact h3 _ _ h
  | ct => exact h4 _ _ h
  | exc => exact h5 _ _ _ _ _ h
  | stuck => exact h
theorem wc_eq {α : Type} {r : Res α} {Q Q' : α → M → Prop} {X : XP} (e : ∀ a h, Q a h = Q' a h) : @Wc α r ⟨Q, X⟩ = @Wc α r ⟨Q', X⟩ := by
  have : Q = Q' := by funext a h; exact e a h
  rw [this]
theorem Wc.ok_of {α : Type} {r : Res α} {Q : α → M → Prop} (h : @Wc α r ⟨Q, noEx⟩) : ∃ a m, r = .ok a m ∧ Q a m := by
  cases r with
  | ok a m => exact ⟨a, m, rfl, h⟩
  | exc => exact h.elim
  | stuck => exact h.elim
section
variable {α β : Type} {Q : α → M → Prop} {X : XP} {env : En} {h : M} {nx : En → M → Prop} {rt : D → M → Prop} {bk ct : En → M → Prop} {ex : Str → List Str → List D → En → M → Prop}
@[simp] theorem wp_ok {a : α} : @Wc α (.ok a h) ⟨Q, X⟩ = Q a h := (rfl)
@[simp] theorem wp_exc {x ns vs} : @Wc α (.exc x ns vs h) ⟨Q, X⟩ = X x ns vs h := (rfl)
@[simp] theorem wp_stuck : @Wc α .stuck ⟨Q, X⟩ = False := (rfl)
@[simp] theorem wp_guard {c : Prop} [Decidable c] {r : Res α} : @Wc α (if c then r else .stuck) ⟨Q, X⟩ = (c ∧ @Wc α r ⟨Q, X⟩) := by
  split
  · rename_i hc; exact propext ⟨fun z => ⟨hc, z⟩, fun z => z.2⟩
  · rename_i hc; exact propext ⟨fun z => z.elim, fun z => hc z.1⟩
theorem wp_ite {c : Prop} [Decidable c] {r s : Res α} : @Wc α (if c then r else s) ⟨Q, X⟩ = if c then @Wc α r ⟨Q, X⟩ else @Wc α s ⟨Q, X⟩ := by split <;> rfl
@[simp] theorem wp_bind {r : Res β} {k : β → M → Res α} : @Wc α (r.bind k) ⟨Q, X⟩ = @Wc β r ⟨fun a h => @Wc α (k a h) ⟨Q, X⟩, X⟩ := by cases r <;> rfl
@[simp] theorem ws_of {r : Res α} {k : α → M → SR} : @Ws (SR.of r env k) ⟨nx, rt, bk, ct, ex⟩ = @Wc α r ⟨fun a h => @Ws (k a h) ⟨nx, rt, bk, ct, ex⟩, fun x ns vs h => ex x ns vs env h⟩ := by cases r <;> rfl
@[simp] theorem ws_nx : @Ws (.nx env h) ⟨nx, rt, bk, ct, ex⟩ = nx env h := (rfl)
@[simp] theorem ws_rt {d : D} : @Ws (.rt d h) ⟨nx, rt, bk, ct, ex⟩ = rt d h := (rfl)
@[simp] theorem ws_bk : @Ws (.bk env h) ⟨nx, rt, bk, ct, ex⟩ = bk env h := (rfl)
@[simp] theorem ws_ct : @Ws (.ct env h) ⟨nx, rt, bk, ct, ex⟩ = ct env h := (rfl)
@[simp] theorem ws_stuck : @Ws .stuck ⟨nx, rt, bk, ct, ex⟩ = False := (rfl)
@[simp] theorem ws_exc {x ns vs} : @Ws (.exc x ns vs env h) ⟨nx, rt, bk, ct, ex⟩ = ex x ns vs env h := (rfl)
@[simp] theorem ws_seq {a b : MS} : @Ws (mSeq a b env h) ⟨nx, rt, bk, ct, ex⟩ = @Ws (a env h) ⟨fun env h => @Ws (b env h) ⟨nx, rt, bk, ct, ex⟩, rt, bk, ct, ex⟩ := by
  unfold mSeq; cases a env h <;> rfl
@[simp] theorem ws_skip : @Ws (mSkip env h) ⟨nx, rt, bk, ct, ex⟩ = nx env h := (rfl)
@[simp] theorem ws_set {i : Nat} {m : ME} : @Ws (mSet i m env h) ⟨nx, rt, bk, ct, ex⟩ = @Wc D (m env h) ⟨fun d h => nx (env.set i (.va d)) h, fun x ns vs h => ex x ns vs env h⟩ := by unfold mSet; rw [ws_of]; rfl
@[simp] theorem ws_do {m : ME} : @Ws (mDo m env h) ⟨nx, rt, bk, ct, ex⟩ = @Wc D (m env h) ⟨fun _ h => nx env h, fun x ns vs h => ex x ns vs env h⟩ := by unfold mDo; rw [ws_of]; rfl
@[simp] theorem ws_ret {m : ME} : @Ws (mRet m env h) ⟨nx, rt, bk, ct, ex⟩ = @Wc D (m env h) ⟨rt, fun x ns vs h => ex x ns vs env h⟩ := by unfold mRet; rw [ws_of]; rfl
@[simp] theorem ws_retN : @Ws (mRetN env h) ⟨nx, rt, bk, ct, ex⟩ = rt .non h := (rfl)
@[simp] theorem ws_break : @Ws (mBreak env h) ⟨nx, rt, bk, ct, ex⟩ = bk env h := (rfl)
@[simp] theorem ws_cont : @Ws (mCont env h) ⟨nx, rt, bk, ct, ex⟩ = ct env h := (rfl)
@[simp] theorem ws_if {t : MT} {a b : MS} : @Ws (mIfS t a b env h) ⟨nx, rt, bk, ct, ex⟩ = @Wc Bool (t env h) ⟨fun c h => if c = true then @Ws (a env h) ⟨nx, rt, bk, ct, ex⟩ else @Ws (b env h) ⟨nx, rt, bk, ct, ex⟩, fun x ns vs h => ex x ns vs env h⟩ := by
  unfold mIfS
  rw [ws_of]
  exact wc_eq fun c _ => by cases c <;> rfl
@[simp] theorem ws_m3 {f : D → D → D → M → Res Unit} {mo mi me : ME} : @Ws (m3 f mo mi me env h) ⟨nx, rt, bk, ct, ex⟩ = @Wc D (me env h) ⟨fun v h => @Wc D (mo env h) ⟨fun o h => @Wc D (mi env h) ⟨fun i h => @Wc Unit (f o i v h) ⟨fun _ h => nx env h, fun x ns vs h => ex x ns vs env h⟩, fun x ns vs h => ex x ns vs env h⟩, fun x ns vs h => ex x ns vs env h⟩, fun x ns vs h => ex x ns vs env h⟩ := by
  unfold m3; rw [ws_of, wp_bind]; exact wc_eq fun _ _ => by rw [wp_bind]; exact wc_eq fun _ _ => by rw [wp_bind]; rfl
@[simp] theorem ws_asg {m : ME} {g : MG} : @Ws (mAsg m g env h) ⟨nx, rt, bk, ct, ex⟩ = @Wc D (m env h) ⟨fun d h => @Wc En (g d env h) ⟨fun env' h => nx env' h, fun x ns vs h => ex x ns vs env h⟩, fun x ns vs h => ex x ns vs env h⟩ := by
  unfold mAsg; rw [ws_of]; exact wc_eq fun _ _ => by rw [ws_of]; rfl
end
section
variable {Q : D → M → Prop} {QB : Bool → M → Prop} {QL : List D → M → Prop} {QO : Option Int → M → Prop} {QI : Itr' → M → Prop} {QE : En → M → Prop} {X : XP} {env : En} {h : M} {ma mb mc : ME} {mas : MA}
@[simp] theorem wp_c {d : D} : @Wc D (mC d env h) ⟨Q, X⟩ = Q d h := (rfl)
@[simp] theorem wp_m2 {f : D → D → M → Res D} : @Wc D (m2 f ma mb env h) ⟨Q, X⟩ = @Wc D (ma env h) ⟨fun x h => @Wc D (mb env h) ⟨fun y h => @Wc D (f x y h) ⟨Q, X⟩, X⟩, X⟩ := by
  unfold m2; rw [wp_bind]; exact wc_eq fun _ _ => by rw [wp_bind]
@[simp] theorem wp_m1 {f : D → M → Res D} : @Wc D (m1 f ma env h) ⟨Q, X⟩ = @Wc D (ma env h) ⟨fun x h => @Wc D (f x h) ⟨Q, X⟩, X⟩ := by
  unfold m1; rw [wp_bind]
@[simp] theorem wp_nil : @Wc (List D) (mNil env h) ⟨QL, X⟩ = QL [] h := (rfl)
@[simp] theorem wp_cons : @Wc (List D) (mCons ma mas env h) ⟨QL, X⟩ = @Wc D (ma env h) ⟨fun x h => @Wc (List D) (mas env h) ⟨fun xs h => QL (x :: xs) h, X⟩, X⟩ := by
  unfold mCons; rw [wp_bind]; exact wc_eq fun _ _ => by rw [wp_bind]; rfl
@[simp] theorem wp_L {f : List D → M → Res D} : @Wc D (mL f mas env h) ⟨Q, X⟩ = @Wc (List D) (mas env h) ⟨fun xs h => @Wc D (f xs h) ⟨Q, X⟩, X⟩ := by
  unfold mL; rw [wp_bind]
@[simp] theorem wp_test : @Wc Bool (mTest ma env h) ⟨QB, X⟩ = @Wc D (ma env h) ⟨fun d h => @Wc Bool (asB d h) ⟨QB, X⟩, X⟩ := by
  unfold mTest; rw [wp_bind]
@[simp] theorem wp_tru : @Wc Bool (mTru ma env h) ⟨QB, X⟩ = @Wc D (ma env h) ⟨fun d h => @Wc Bool (fTru d h) ⟨QB, X⟩, X⟩ := by
  unfold mTru; rw [wp_bind]
@[simp] theorem wp_notT {t : MT} : @Wc Bool (mNotT t env h) ⟨QB, X⟩ = @Wc Bool (t env h) ⟨fun b h => QB (!b) h, X⟩ := by
  unfold mNotT; rw [wp_bind]; rfl
@[simp] theorem wp_andT {t u : MT} : @Wc Bool (mAndT t u env h) ⟨QB, X⟩ = @Wc Bool (t env h) ⟨fun b h => if b = true then @Wc Bool (u env h) ⟨QB, X⟩ else QB false h, X⟩ := by
  simp only [mAndT, wp_bind]; exact wc_eq fun b _ => by cases b <;> rfl
@[simp] theorem wp_orT {t u : MT} : @Wc Bool (mOrT t u env h) ⟨QB, X⟩ = @Wc Bool (t env h) ⟨fun b h => if b = true then QB true h else @Wc Bool (u env h) ⟨QB, X⟩, X⟩ := by
  simp only [mOrT, wp_bind]; exact wc_eq fun b _ => by cases b <;> rfl
@[simp] theorem wp_notV : @Wc D (mNotV ma env h) ⟨Q, X⟩ = @Wc D (ma env h) ⟨fun d h => @Wc Bool (asB d h) ⟨fun b h => Q (.bl (!b)) h, X⟩, X⟩ := by
  unfold mNotV; rw [wp_bind]; exact wc_eq fun _ _ => by rw [wp_bind]; rfl
@[simp] theorem wp_andV : @Wc D (mAndV ma mb env h) ⟨Q, X⟩ = @Wc D (ma env h) ⟨fun d h => @Wc Bool (asB d h) ⟨fun b h => if b = true then @Wc D (mb env h) ⟨Q, X⟩ else Q (.bl false) h, X⟩, X⟩ := by
  unfold mAndV; rw [wp_bind]; exact wc_eq fun _ _ => by rw [wp_bind]; exact wc_eq fun b _ => by cases b <;> rfl
@[simp] theorem wp_orV : @Wc D (mOrV ma mb env h) ⟨Q, X⟩ = @Wc D (ma env h) ⟨fun d h => @Wc Bool (asB d h) ⟨fun b h => if b = true then Q (.bl true) h else @Wc D (mb env h) ⟨Q, X⟩, X⟩, X⟩ := by
  unfold mOrV; rw [wp_bind]; exact wc_eq fun _ _ => by rw [wp_bind]; exact wc_eq fun b _ => by cases b <;> rfl
@[simp] theorem wp_if {t : MT} : @Wc D (mIf t ma mb env h) ⟨Q, X⟩ = @Wc Bool (t env h) ⟨fun b h => if b = true then @Wc D (ma env h) ⟨Q, X⟩ else @Wc D (mb env h) ⟨Q, X⟩, X⟩ := by
  simp only [mIf, wp_bind]; exact wc_eq fun b _ => by cases b <;> rfl
@[simp] theorem wp_noPart : @Wc (Option Int) (mNoPart env h) ⟨QO, X⟩ = QO none h := (rfl)
@[simp] theorem wp_part : @Wc (Option Int) (mPart ma env h) ⟨QO, X⟩ = @Wc D (ma env h) ⟨fun d h => match d with | .int i => QO (some i) h | _ => False, X⟩ := by
  simp only [mPart, wp_bind]; exact wc_eq fun d _ => by cases d <;> rfl
@[simp] theorem wp_sl {lo hi : MO} : @Wc D (mSl ma lo hi env h) ⟨Q, X⟩ = @Wc D (ma env h) ⟨fun x h => @Wc (Option Int) (lo env h) ⟨fun l h => @Wc (Option Int) (hi env h) ⟨fun u h => @Wc D (fSl x l u h) ⟨Q, X⟩, X⟩, X⟩, X⟩ := by
  unfold mSl; rw [wp_bind]; exact wc_eq fun _ _ => by rw [wp_bind]; exact wc_eq fun _ _ => by rw [wp_bind]
@[simp] theorem wp_bm {T : String} {f : D → List D → M → Res D} : @Wc D (mBM T f ma mas env h) ⟨Q, X⟩ = @Wc D (ma env h) ⟨fun x h => isTyp h T x = true ∧ @Wc (List D) (mas env h) ⟨fun xs h => @Wc D (f x xs h) ⟨Q, X⟩, X⟩, X⟩ := by
  unfold mBM; rw [wp_bind]; exact wc_eq fun _ _ => by rw [wp_guard, wp_bind]
@[simp] theorem wp_fix {n : Nat} {m : List D → M → Res D} {ds : List D} : @Wc D (mFix n m ds h) ⟨Q, X⟩ = (ds.length = n ∧ @Wc D (m ds h) ⟨Q, X⟩) := by
  simp only [mFix, wp_guard]
@[simp] theorem wp_iter : @Wc Itr' (mIter ma env h) ⟨QI, X⟩ = @Wc D (ma env h) ⟨fun d h => @Wc Itr' (itOf d h) ⟨QI, X⟩, X⟩ := by
  unfold mIter; rw [wp_bind]
@[simp] theorem wp_rng : @Wc Itr' (mRng mas env h) ⟨QI, X⟩ = @Wc (List D) (mas env h) ⟨fun d h => @Wc Itr' (fRng d h) ⟨QI, X⟩, X⟩ := by
  unfold mRng; rw [wp_bind]
@[simp] theorem wp_gN {i : Nat} {d : D} : @Wc En (gN i d env h) ⟨QE, X⟩ = QE (env.set i (.va d)) h := (rfl)
@[simp] theorem wp_yes : @Wc Bool (mYes env h) ⟨QB, X⟩ = QB true h := (rfl)
/-- a def's body -/
theorem wp_fn {N n : Nat} {mb : MS} {ds : List D} : @Wc D (mFn N n mb ds h) ⟨Q, X⟩ = @Ws (mb (ds.map .va ++ List.replicate (N - n) .no) h) ⟨fun _ h => Q .non h, Q, fun _ _ => False, fun _ _ => False, fun x ns vs _ h => X x ns vs h⟩ := by
  unfold mFn; cases mb (ds.map .va ++ List.replicate (N - n) .no) h <;> rfl
/-! ### values -/
@[simp] theorem v_var {i : Nat} : mVar i env h = match env[i]? with | some (.va d) => .ok d h | _ => .stuck := (rfl)
@[simp] theorem v_asB {b : Bool} : asB (.bl b) h = .ok b h := (rfl)
@[simp] theorem v_add {i j : Int} : fAdd (.int i) (.int j) h = .ok (.int (i + j)) h := (rfl)
@[simp] theorem v_sub {i j : Int} : fSub (.int i) (.int j) h = .ok (.int (i - j)) h := by simp [fSub, fI]
theorem v_mulW {i j : Int} (hc : CMulW i j) : fMul (.int i) (.int j) h = .ok (.int (i * j)) h := by simp [fMul, hc]
theorem v_divW {i j : Int} (hc : CDivW i j) : fDiv (.int i) (.int j) h = .ok (.int (i / j)) h := by simp [fDiv, fI, hc]
theorem abs_lt {i : Int} (h1 : -1606938044258990275541962092341162602522202993782792835301376 < i) (h2 : i < 1606938044258990275541962092341162602522202993782792835301376) : i.natAbs < 2 ^ 200 := by omega
@[simp] theorem v_mul {i j : Int} : fMul (.int i) (.int j) h = if CMulW i j then .ok (.int (i * j)) h else .stuck := (rfl)
@[simp] theorem v_div {i j : Int} : fDiv (.int i) (.int j) h = if CDivW i j then .ok (.int (i / j)) h else .stuck := by simp [fDiv, fI]
@[simp] theorem v_mod {i j : Int} : fMod (.int i) (.int j) h = if 0 < j then .ok (.int (i % j)) h else .stuck := by simp [fMod, fI]
theorem cmulW {i j : Int} (h1 : -1606938044258990275541962092341162602522202993782792835301376 < i) (h2 : i < 1606938044258990275541962092341162602522202993782792835301376) (h3 : -1606938044258990275541962092341162602522202993782792835301376 < j) (h4 : j < 1606938044258990275541962092341162602522202993782792835301376) : CMulW i j :=
  wide_mul (abs_lt h1 h2) (abs_lt h3 h4) (by decide) (by decide) (by decide)
theorem cdivW {i j : Int} (h1 : 0 < j) (h2 : j < 1606938044258990275541962092341162602522202993782792835301376) : CDivW i j := wide_div h1 (abs_lt (by omega) h2) (by decide) (by decide)
@[simp] theorem v_lt {i j : Int} : fLt (.int i) (.int j) h = .ok (.bl (decide (i < j))) h := by simp [fLt, fI]
@[simp] theorem v_le {i j : Int} : fLe (.int i) (.int j) h = .ok (.bl (decide (i ≤ j))) h := by simp [fLe, fI]
@[simp] theorem v_gt {i j : Int} : fGt (.int i) (.int j) h = .ok (.bl (decide (j < i))) h := by simp [fGt, fI]
@[simp] theorem v_ge {i j : Int} : fGe (.int i) (.int j) h = .ok (.bl (decide (j ≤ i))) h := by simp [fGe, fI]
@[simp] theorem v_int {i : Int} : fInt [.int i] h = .ok (.int i) h := (rfl)
@[simp] theorem v_min {i j : Int} : fMin [.int i, .int j] h = .ok (.int (if j < i then j else i)) h := (rfl)
@[simp] theorem v_max {i j : Int} : fMax [.int i, .int j] h = .ok (.int (if j > i then j else i)) h := (rfl)
@[simp] theorem v_eqI {i j : Int} : fEq (.int i) (.int j) h = .ok (.bl (decide (i = j))) h := (rfl)
@[simp] theorem v_neI {i j : Int} : fNe (.int i) (.int j) h = .ok (.bl (!decide (i = j))) h := (rfl)
@[simp] theorem v_eqS {i j : Str} : fEq (.str i) (.str j) h = .ok (.bl (decide (i = j))) h := (rfl)
@[simp] theorem v_neS {i j : Str} : fNe (.str i) (.str j) h = .ok (.bl (!decide (i = j))) h := (rfl)
@[simp] theorem ixN_lit {len n : Nat} : ixN len (no_index (OfNat.ofNat n) : Int) = if n < len then some n else none := by
  unfold ixN
  have h0 : (0 : Int) ≤ (OfNat.ofNat n : Int) := Int.natCast_nonneg n
  rw [if_pos h0]
  have e : ((OfNat.ofNat n : Int) < (len : Int)) ↔ n < len := Int.ofNat_lt
  by_cases hl : n < len
  · rw [if_pos (e.mpr hl), if_pos hl]; rfl
  · rw [if_neg (fun z => hl (e.mp z)), if_neg hl]
theorem ixN_nat {len n : Nat} : ixN len (n : Int) = if n < len then some n else none := by
  unfold ixN
  rw [if_pos (Int.natCast_nonneg n)]
  by_cases hl : n < len
  · rw [if_pos (Int.ofNat_lt.mpr hl), if_pos hl]; rfl
  · rw [if_neg (fun z => hl (Int.ofNat_lt.mp z)), if_neg hl]
@[simp] theorem atI_lit {α : Type} {xs : List α} {n : Nat} : atI xs (no_index (OfNat.ofNat n) : Int) = xs[n]? := by
  unfold atI
  rw [ixN_lit]
  by_cases hl : n < xs.length
  · rw [if_pos hl]; rfl
  · rw [if_neg hl, List.getElem?_eq_none (Nat.le_of_not_lt hl)]; rfl
theorem atI_n {α : Type} {xs : List α} {n : Nat} : atI xs (n : Int) = xs[n]? := by
  unfold atI
  rw [ixN_nat]
  by_cases hl : n < xs.length
  · rw [if_pos hl]; rfl
  · rw [if_neg hl, List.getElem?_eq_none (Nat.le_of_not_lt hl)]; rfl
/-- a list's item -/
@[simp] theorem v_ixL {l : Nat} {i : Int} : fIx (.loc l) (.int i) h = match h[l]? with
    | some (.lst xs) => match atI xs i with | some d => .ok d h | none => .stuck
    | some (.dK kvs) => match valD kvs (.inl i) with | some d => .ok d h | none => .stuck
    | _ => .stuck := by
  unfold fIx seqOf
  simp only [tupOf, lstOf, dGet, keyD, keysD]
  cases h[l]? with
  | none => rfl
  | some o => cases o with
    | lst xs => rfl
    | dK kvs => simp only [Option.map_some]; cases valD kvs (.inl i) <;> rfl
    | dT kvs => rfl
    | ins x fs => rfl
@[simp] theorem v_ixT {xs : List D} {i : Int} : fIx (.tup xs) (.int i) h = match atI xs i with | some d => .ok d h | none => .stuck := (rfl)
@[simp] theorem v_ixC {xs : List D} {i : Int} : fIx (.cl xs) (.int i) h = match atI xs i with | some d => .ok d h | none => .stuck := (rfl)
@[simp] theorem v_ixK {xs : List D} {i : Int} : fIx (.ct xs) (.int i) h = match atI xs i with | some d => .ok d h | none => .stuck := (rfl)
@[simp] theorem v_putL {l : Nat} {i v : D} {xs : List D} (e : h[l]? = some (.lst xs)) : fPut (.loc l) i v h = match i with
    | .int k => match ixN xs.length k with | some j => .ok () (h.set l (.lst (xs.set j v))) | none => .stuck
    | _ => .stuck := by simp only [fPut, e] <;> cases i <;> rfl
@[simp] theorem v_app {l : Nat} {d : D} {xs : List D} (e : h[l]? = some (.lst xs)) (hz : xs.length < sizeLine) : fAppend (.loc l) [d] h = .ok .non (h.set l (.lst (xs ++ [d]))) := by simp only [fAppend, e, hz, if_true]
@[simp] theorem v_isN : fIsN .non h = .ok (.bl true) h := (rfl)
end
/-! ### loops -/
section
variable {chk : M → Prop} {g : MG} {mb : MS} {nx : En → M → Prop} {rt : D → M → Prop} {bk ct : En → M → Prop} {ex : Str → List Str → List D → En → M → Prop}
/-- a for loop by what holds ahead of each turn -/
theorem floop_inv {items : List D} {env : En} {h : M} (I : Nat → En → M → Prop) (h0 : I 0 env h) (ck : ∀ i env h, i ≤ items.length → I i env h → chk h)
    (step : ∀ i d env h, items[i]? = some d → I i env h → @Wc En (g d env h) ⟨fun env h => @Ws (mb env h) ⟨I (i + 1), rt, nx, I (i + 1), ex⟩, fun x ns vs h => ex x ns vs env h⟩) (fin : ∀ env h, I items.length env h → nx env h) :
    @Ws (floop chk g mb items env h) ⟨nx, rt, bk, ct, ex⟩ := by
  have go : ∀ (n i : Nat) (env : En) (h : M), items.length - i = n → i ≤ items.length → I i env h → @Ws (floop chk g mb (items.drop i) env h) ⟨nx, rt, bk, ct, ex⟩ := by
    intro n
    induction n with
    | zero =>
      intro i env h e hi p
      have : i = items.length := by omega
      subst this
      simp only [List.drop_length]
      unfold floop
      rw [if_pos (ck _ _ _ (Nat.le_refl _) p)]
      exact fin _ _ p
    | succ n ih =>
      intro i env h e hi p
      have hlt : i < items.length := by omega
      rw [List.drop_eq_getElem_cons hlt]
      unfold floop
      rw [if_pos (ck _ _ _ hi p), ws_of]
      refine Wc.mono (step i items[i] env h (List.getElem?_eq_getElem hlt) p) (fun env1 h1 q => ?_) fun _ _ _ _ z => z
      have q : @Ws (mb env1 h1) ⟨I (i + 1), rt, nx, I (i + 1), ex⟩ := q
      show @Ws _ ⟨nx, rt, bk, ct, ex⟩
      cases e1 : mb env1 h1 with
      | nx e2 h2 => rw [e1] at q; exact ih (i + 1) e2 h2 (by omega) hlt q
      | ct e2 h2 => rw [e1] at q; exact ih (i + 1) e2 h2 (by omega) hlt q
      | bk e2 h2 => rw [e1] at q; exact q
      | rt d h2 => rw [e1] at q; exact q
      | exc x ns vs e2 h2 => rw [e1] at q; exact q
      | stuck => rw [e1] at q; exact q
  simpa using go items.length 0 env h (by simp) (Nat.zero_le _) h0
@[simp] theorem ws_for {mi : MI} {env : En} {h : M} : @Ws (mFor mi g mb env h) ⟨nx, rt, bk, ct, ex⟩ = @Wc Itr' (mi env h) ⟨fun it h => @Ws (floop it.chk g mb it.items env h) ⟨nx, rt, bk, ct, ex⟩, fun x ns vs h => ex x ns vs env h⟩ := by
  unfold mFor; rw [ws_of]
/-- a comprehension by what holds ahead of each turn: I i acc h -/
theorem lcloop_inv {Q : D → M → Prop} {X : XP} {env : En} {tt : MT} {me : ME} {l : Nat} {items : List D} {h : M} (I : Nat → List D → M → Prop) (h0 : I 0 [] h) (ck : ∀ i acc h, i ≤ items.length → I i acc h → chk h)
    (step : ∀ i d acc h, items[i]? = some d → I i acc h → @Wc En (g d env h) ⟨fun env2 h => @Wc Bool (tt env2 h) ⟨fun b h => if b = true then @Wc D (me env2 h) ⟨fun y h => h[l]? = some (.lst acc) ∧ acc.length < sizeLine ∧ I (i + 1) (acc ++ [y]) (h.set l (.lst (acc ++ [y]))), noEx⟩ else I (i + 1) acc h, noEx⟩, noEx⟩)
    (fin : ∀ acc h, I items.length acc h → Q (.loc l) h) : @Wc D (lcloopN chk env g tt me l items h) ⟨Q, X⟩ := by
  have go : ∀ (n i : Nat) (acc : List D) (h : M), items.length - i = n → i ≤ items.length → I i acc h → @Wc D (lcloopN chk env g tt me l (items.drop i) h) ⟨Q, X⟩ := by
    intro n
    induction n with
    | zero =>
      intro i acc h e hi p
      have : i = items.length := by omega
      subst this
      simp only [List.drop_length]
      unfold lcloopN
      rw [if_pos (ck _ _ _ (Nat.le_refl _) p)]
      exact fin _ _ p
    | succ n ih =>
      intro i acc h e hi p
      have hlt : i < items.length := by omega
      rw [List.drop_eq_getElem_cons hlt]
      unfold lcloopN
      rw [if_pos (ck _ _ _ hi p)]
      obtain ⟨env2, h2, e1, q1⟩ := Wc.ok_of (step i items[i] acc h (List.getElem?_eq_getElem hlt) p)
      rw [e1]
      simp only [noX_ok, bind_ok]
      obtain ⟨b, h3, e2, q2⟩ := Wc.ok_of q1
      rw [e2]
      simp only [noX_ok, bind_ok]
      cases b with
      | false => exact ih (i + 1) acc h3 (by omega) hlt q2
      | true =>
        simp only [if_true] at q2 ⊢
        obtain ⟨y, h4, e3, q3, q4, q5⟩ := Wc.ok_of q2
        rw [e3]
        simp only [noX_ok, bind_ok, q3]
        rw [if_pos q4]
        exact ih (i + 1) (acc ++ [y]) _ (by omega) hlt q5
  simpa using go items.length 0 [] h (by simp) (Nat.zero_le _) h0
@[simp] theorem wp_lc {Q : D → M → Prop} {X : XP} {env : En} {own : List Nat} {mi : MI} {tt : MT} {me : ME} {h : M} : @Wc D (mLcN own mi g tt me env h) ⟨Q, X⟩ = @Wc Itr' (mi env h) ⟨fun it h1 => @Wc D (lcloopN it.chk (wipeE env own) g tt me h1.length it.items (h1 ++ [.lst []])) ⟨Q, X⟩, X⟩ := by
  unfold mLcN; rw [wp_bind]
theorem wloop_inv {c : MT} {n : Nat} {env : En} {h : M} (I : En → M → Prop) (μ : En → M → Nat) (h0 : I env h) (hn : μ env h < n)
    (step : ∀ env h, I env h → @Wc Bool (c env h) ⟨fun t h1 => if t = true then @Ws (mb env h1) ⟨fun e m => I e m ∧ μ e m < μ env h, rt, nx, fun e m => I e m ∧ μ e m < μ env h, ex⟩ else nx env h1, fun x ns vs h => ex x ns vs env h⟩) : @Ws (wloop c mb n env h) ⟨nx, rt, bk, ct, ex⟩ := by
  induction n generalizing env h with
  | zero => omega
  | succ n ih =>
    unfold wloop
    rw [ws_of]
    refine Wc.mono (step env h h0) (fun t h1 q => ?_) fun _ _ _ _ z => z
    cases t with
    | false => exact q
    | true =>
      have q : @Ws (mb env h1) ⟨fun e m => I e m ∧ μ e m < μ env h, rt, nx, fun e m => I e m ∧ μ e m < μ env h, ex⟩ := q
      show @Ws _ ⟨nx, rt, bk, ct, ex⟩
      simp only [if_true] at q ⊢
      cases e1 : mb env h1 with
      | nx e2 h2 => rw [e1] at q; exact ih q.1 (by have := q.2; omega)
      | ct e2 h2 => rw [e1] at q; exact ih q.1 (by have := q.2; omega)
      | bk e2 h2 => rw [e1] at q; exact q
      | rt d h2 => rw [e1] at q; exact q
      | exc x ns vs e2 h2 => rw [e1] at q; exact q
      | stuck => rw [e1] at q; exact q
@[simp] theorem ws_while {c : MT} {n : Nat} {env : En} {h : M} : @Ws (mWhile n c mb env h) ⟨nx, rt, bk, ct, ex⟩ = @Ws (wloop c mb n env h) ⟨nx, rt, bk, ct, ex⟩ := rfl
end
/-! ### heaps -/
/-- what stood in the places but those of S stands there yet -/
structure Fr (S : List Nat) (h h' : M) : Prop where
  len : h.length ≤ h'.length
  at_ : ∀ l o, l ∉ S → h[l]? = some o → h'[l]? = some o
theorem Fr.refl (S : List Nat) (h : M) : Fr S h h := ⟨Nat.le_refl _, fun _ _ _ e => e⟩
theorem Fr.trans {S : List Nat} {h h1 h2 : M} (a : Fr S h h1) (b : Fr S h1 h2) : Fr S h h2 := ⟨Nat.le_trans a.len b.len, fun l o n e => b.at_ l o n (a.at_ l o n e)⟩
theorem Fr.push {S : List Nat} {h : M} (o : O) : Fr S h (h ++ [o]) := ⟨by simp, fun l u _ e => by
  have hl : l < h.length := (List.getElem?_eq_some_iff.mp e).1
  rw [List.getElem?_append_left hl]; exact e⟩
theorem Fr.set {S : List Nat} {h : M} {l : Nat} (o : O) (hl : l ∈ S) : Fr S h (h.set l o) := ⟨by simp, fun k u n e => by
  rw [List.getElem?_set_ne (fun z => n (by rw [← z]; exact hl))]; exact e⟩
theorem Fr.mono {S S' : List Nat} {h h' : M} (a : Fr S h h') (s : ∀ l ∈ S, l ∈ S') : Fr S' h h' := ⟨a.len, fun l o n e => a.at_ l o (fun z => n (s l z)) e⟩
/-- new places do not count -/
theorem Fr.cut {S S' : List Nat} {h h' : M} (a : Fr S h h') (s : ∀ l ∈ S, l < h.length → l ∈ S') : Fr S' h h' := ⟨a.len, fun l o n e => a.at_ l o (fun z => n (s l z (List.getElem?_eq_some_iff.mp e).1)) e⟩
theorem at_lt {h : M} {l : Nat} {o : O} (e : h[l]? = some o) : l < h.length := (List.getElem?_eq_some_iff.mp e).1
theorem at_push {h : M} {o : O} : (h ++ [o])[h.length]? = some o := by simp
theorem at_app {h : M} {l : Nat} {o u : O} (e : h[l]? = some o) : (h ++ [u])[l]? = some o := by rw [List.getElem?_append_left (at_lt e)]; exact e
theorem at_set {h : M} {l : Nat} {o u : O} (e : h[l]? = some o) : (h.set l u)[l]? = some u := List.getElem?_set_self (at_lt e)
theorem at_setN {h : M} {l k : Nat} {o u : O} (e : h[l]? = some o) (n : k ≠ l) : (h.set k u)[l]? = some o := by rw [List.getElem?_set_ne n]; exact e
end LF
set_option Elab.async false
set_option linter.all false
set_option maxRecDepth 100000
set_option maxHeartbeats 4000000
/-! LFN: heaps, equality, lists of integers. -/
namespace LF
open PySem PySem.Spec L2
open PyProof.Rows hiding St
/-! ### places -/
section
variable {h os : M} {o u : O} {l k : Nat}
@[simp] theorem cat_at0 : (h ++ os)[h.length]? = os[0]? := by simp [List.getElem?_append_right]
@[simp] theorem cat_at : (h ++ os)[h.length + k]? = os[k]? := by rw [List.getElem?_append_right (by omega)]; congr 1; omega
@[simp] theorem cat_set0 : (h ++ os).set h.length o = h ++ os.set 0 o := by simp [List.set_append]
@[simp] theorem cat_set : (h ++ os).set (h.length + k) o = h ++ os.set k o := by
  rw [List.set_append, if_neg (by omega)]; congr 2; omega
theorem cat_old (hl : l < h.length) : (h ++ os)[l]? = h[l]? := List.getElem?_append_left hl
theorem cat_setO (hl : l < h.length) : (h ++ os).set l o = h.set l o ++ os := by rw [List.set_append, if_pos hl]
theorem Fr.cat {S : List Nat} (os : M) : Fr S h (h ++ os) := ⟨by simp, fun l u _ e => by rw [cat_old (at_lt e)]; exact e⟩
theorem Fr.at {S : List Nat} {h h' : M} {l : Nat} {o : O} (F : Fr S h h') (e : h[l]? = some o) (n : l ∉ S := by simp) : h'[l]? = some o := F.at_ l o n e
theorem Fr.nil {S : List Nat} {h h' : M} (F : Fr [] h h') : Fr S h h' := F.mono (by simp)
end
/-! ### plain values -/
def Pl (h : M) (n : Nat) (d : D) (p : PyData) : Prop := toPy h n d = some p ∧ p.canLay0 = true ∧ p.depth ≤ n
def PlA (h : M) (n : Nat) (xs : List D) (ps : List PyData) : Prop := xs.mapM (toPy h n) = some ps ∧ PyData.canLayAll0 ps = true ∧ PyData.depthAll ps ≤ n
section
variable {h : M} {n : Nat}
theorem pl_int (i : Int) : Pl h n (.int i) (.int i) := ⟨by cases n <;> rfl, rfl, Nat.zero_le _⟩
theorem pl_bl (i : Bool) : Pl h n (.bl i) (.bool i) := ⟨by cases n <;> rfl, rfl, Nat.zero_le _⟩
theorem pl_non : Pl h n .non .none := ⟨by cases n <;> rfl, rfl, Nat.zero_le _⟩
theorem pl_str {x : Str} (hx : PyData.strOk x = true) : Pl h n (.str x) (.str x) := ⟨by cases n <;> rfl, by simpa [PyData.canLay0] using hx, Nat.zero_le _⟩
theorem pla_nil : PlA h n [] [] := ⟨rfl, rfl, Nat.zero_le _⟩
theorem pla_cons {x : D} {p : PyData} {xs : List D} {ps : List PyData} (a : Pl h n x p) (b : PlA h n xs ps) : PlA h n (x :: xs) (p :: ps) :=
  ⟨by simp [List.mapM_cons, a.1, b.1], by simp [PyData.canLayAll0, a.2.1, b.2.1], by simp only [PyData.depthAll]; exact Nat.max_le.mpr ⟨a.2.2, b.2.2⟩⟩
theorem pla_map {α : Type} {f : α → D} {g : α → PyData} {xs : List α} (e : ∀ a ∈ xs, Pl h n (f a) (g a)) : PlA h n (xs.map f) (xs.map g) := by
  induction xs with
  | nil => exact pla_nil
  | cons x xs ih => exact pla_cons (e x (by simp)) (ih fun a m => e a (by simp [m]))
theorem pl_tup {xs : List D} {ps : List PyData} (a : PlA h n xs ps) : Pl h (n + 1) (.tup xs) (.tuple ps) :=
  ⟨by simp [toPy, a.1], by simpa [PyData.canLay0] using a.2.1, by simp only [PyData.depth]; have := a.2.2; omega⟩
theorem pl_ct {xs : List D} {ps : List PyData} (a : PlA h n xs ps) : Pl h (n + 1) (.ct xs) (.tuple ps) :=
  ⟨by simp [toPy, a.1], by simpa [PyData.canLay0] using a.2.1, by simp only [PyData.depth]; have := a.2.2; omega⟩
theorem pl_cl {xs : List D} {ps : List PyData} (a : PlA h n xs ps) : Pl h (n + 1) (.cl xs) (.list ps) :=
  ⟨by simp [toPy, a.1], by simpa [PyData.canLay0] using a.2.1, by simp only [PyData.depth]; have := a.2.2; omega⟩
theorem pl_loc {l : Nat} {xs : List D} {ps : List PyData} (e : h[l]? = some (.lst xs)) (a : PlA h n xs ps) : Pl h (n + 1) (.loc l) (.list ps) :=
  ⟨by simp [toPy, e, a.1], by simpa [PyData.canLay0] using a.2.1, by simp only [PyData.depth]; have := a.2.2; omega⟩
theorem pla_ints {xs : List Int} : PlA h n (xs.map .int) (xs.map .int) := pla_map fun a _ => pl_int a
theorem pl_shaped {d : D} {p : PyData} (hn : n ≤ 64) (a : Pl h n d p) : SeqAt.shaped p = true := by
  unfold SeqAt.shaped; rw [a.2.1]; simpa using Nat.le_trans a.2.2 hn
theorem eqD_pl {x y : D} {p q : PyData} (a : Pl h 50 x p) (b : Pl h 50 y q) (s : scalD x y = none) : eqD x y h = some (PyData.eqv p q) := by
  unfold eqD; rw [s]; simp only [a.1, b.1, pl_shaped (by decide) a, pl_shaped (by decide) b, and_self, if_true]
theorem eqD_same {x y : D} {p : PyData} (a : Pl h 50 x p) (b : Pl h 50 y p) : eqD x y h = some true := by
  cases e : scalD x y with
  | none => rw [eqD_pl a b e, SeqAt.eqv_refl p a.2.1]
  | some c =>
    have h1 := a.1
    have h2 := b.1
    unfold eqD; rw [e]
    cases x <;> cases y <;> simp only [scalD, reduceCtorEq, Option.some.injEq] at e <;> simp only [toPy, Option.some.injEq, reduceCtorEq] at h1 h2 <;> (try subst h1) <;> simp_all
theorem fEq_same {x y : D} {p : PyData} (a : Pl h 50 x p) (b : Pl h 50 y p) : fEq x y h = .ok (.bl true) h := by simp only [fEq, eqD_same a b]
theorem fNe_same {x y : D} {p : PyData} (a : Pl h 50 x p) (b : Pl h 50 y p) : fNe x y h = .ok (.bl false) h := by simp only [fNe, eqD_same a b]; rfl
theorem fEq_ints {a b : Nat} {xs : List Int} (e1 : h[a]? = some (.lst (xs.map .int))) (e2 : h[b]? = some (.lst (xs.map .int))) : fEq (.loc a) (.loc b) h = .ok (.bl true) h := fEq_same (pl_loc e1 pla_ints) (pl_loc e2 pla_ints)
theorem fNe_ints {a b : Nat} {xs : List Int} (e1 : h[a]? = some (.lst (xs.map .int))) (e2 : h[b]? = some (.lst (xs.map .int))) : fNe (.loc a) (.loc b) h = .ok (.bl false) h := fNe_same (pl_loc e1 pla_ints) (pl_loc e2 pla_ints)
end
/-! ### built-ins on lists -/
section
variable {h : M} {l k : Nat} {xs ys : List D}
@[simp] theorem v_Lst {ds : List D} : fLst ds h = if ds.length ≤ sizeLine then .ok (.loc h.length) (h ++ [.lst ds]) else .stuck := (rfl)
@[simp] theorem v_Tup {ds : List D} : fTup ds h = if ds.length ≤ sizeLine then .ok (.tup ds) h else .stuck := (rfl)
/-- the list at a place -/
def lsA (h : M) (l : Nat) : Option (List D) := match h[l]? with | some (.lst xs) => some xs | _ => none
theorem lsA_of (e : h[l]? = some (.lst xs)) : lsA h l = some xs := by simp [lsA, e]
theorem of_lsA (e : lsA h l = some xs) : h[l]? = some (.lst xs) := by
  simp only [lsA] at e
  split at e
  · rename_i e2; cases e; exact e2
  · cases e
@[simp] theorem v_list : fList [.loc l] h = match h[l]? with | some (.lst xs) => .ok (.loc h.length) (h ++ [.lst xs]) | _ => .stuck := by
  simp only [fList, seqOf, tupOf, lstOf]; split <;> rename_i e <;> (split at e <;> simp_all)
@[simp] theorem v_tuple : fTuple [.loc l] h = match h[l]? with | some (.lst xs) => .ok (.tup xs) h | _ => .stuck := by
  simp only [fTuple, lstOf]; split <;> rename_i e <;> (split at e <;> simp_all)
@[simp] theorem v_len : fLen [.loc l] h = match h[l]? with | some (.lst xs) => .ok (.int xs.length) h | some (.dK kvs) => .ok (.int kvs.length) h | _ => .stuck := by
  simp only [fLen, lenD]; cases h[l]? with
  | none => rfl
  | some o => cases o <;> rfl
@[simp] theorem v_slL {lo hi : Option Int} : fSl (.loc l) lo hi h = match h[l]? with | some (.lst xs) => .ok (.loc h.length) (h ++ [.lst (cutD xs lo hi)]) | _ => .stuck := by
  simp only [fSl, lstOf]; cases h[l]? with
  | none => rfl
  | some o => cases o <;> rfl
@[simp] theorem v_slC {lo hi : Option Int} : fSl (.cl xs) lo hi h = .ok (.loc h.length) (h ++ [.lst (cutD xs lo hi)]) := by simp [fSl, lstOf]
@[simp] theorem v_lenC : fLen [.cl xs] h = .ok (.int xs.length) h := by simp [fLen, lenD]
@[simp] theorem v_lenT : fLen [.tup xs] h = .ok (.int xs.length) h := by simp [fLen, lenD]
@[simp] theorem v_isTypL : isTyp h "list" (.loc l) = match h[l]? with | some (.lst xs) => true | _ => false := by
  simp only [isTyp]; cases h[l]? with
  | none => rfl
  | some o => cases o <;> rfl
@[simp] theorem v_truI {i : Int} : fTru (.int i) h = .ok (i != 0) h := (rfl)
@[simp] theorem v_truL : fTru (.loc l) h = match h[l]? with | some (.lst xs) => .ok (!xs.isEmpty) h | some (.dK xs) => .ok (!xs.isEmpty) h | _ => .stuck := by
  simp only [fTru, truD]; cases h[l]? with
  | none => rfl
  | some o => cases o <;> rfl
@[simp] theorem v_isLL : fIsI [.loc l, .ty "list"] h = match h[l]? with | some (.lst xs) => .ok (.bl true) h | some (.dK _) => .ok (.bl false) h | some (.dT _) => .ok (.bl false) h | _ => .stuck := by
  simp only [fIsI, tyD]; cases h[l]? with
  | none => rfl
  | some o => cases o <;> simp [kinds, isTy]
@[simp] theorem v_isII {i : Int} : fIsI [.int i, .ty "int"] h = .ok (.bl true) h := by simp [fIsI, tyD, kinds, isTy]
@[simp] theorem v_isIB {i : Int} : fIsI [.int i, .ty "bool"] h = .ok (.bl false) h := by simp [fIsI, tyD, kinds, isTy]
@[simp] theorem v_appL {d : D} : fAppend (.loc l) [d] h = match h[l]? with | some (.lst xs) => if xs.length < sizeLine then .ok .non (h.set l (.lst (xs ++ [d]))) else .stuck | _ => .stuck := (rfl)
@[simp] theorem v_extL : fExtend (.loc l) [.loc k] h = match h[l]?, h[k]? with | some (.lst xs), some (.lst ys) => if xs.length + ys.length ≤ sizeLine then .ok .non (h.set l (.lst (xs ++ ys))) else .stuck | _, _ => .stuck := by
  simp only [fExtend, tupOf]; cases h[l]? with
  | none => rfl
  | some o => cases o <;> (try rfl); cases h[k]? with
    | none => rfl
    | some o => cases o <;> rfl
@[simp] theorem v_extT : fExtend (.loc l) [.tup ys] h = match h[l]? with | some (.lst xs) => if xs.length + ys.length ≤ sizeLine then .ok .non (h.set l (.lst (xs ++ ys))) else .stuck | _ => .stuck := (rfl)
@[simp] theorem v_addL : fAdd (.loc l) (.loc k) h = match h[l]?, h[k]? with | some (.lst xs), some (.lst ys) => if xs.length + ys.length ≤ sizeLine then .ok (.loc h.length) (h ++ [.lst (xs ++ ys)]) else .stuck | _, _ => .stuck := (rfl)
@[simp] theorem v_mulL {i : Int} : fMul (.loc l) (.int i) h = match h[l]? with | some (.lst xs) => if -(2 ^ 63) ≤ i ∧ i < 2 ^ 63 ∧ xs.length * i.toNat ≤ sizeLine then .ok (.loc h.length) (h ++ [.lst (List.replicate i.toNat xs).flatten]) else .stuck | _ => .stuck := (rfl)
@[simp] theorem v_itL : itOf (.loc l) h = match h[l]? with | some (.lst xs) => .ok ⟨xs, fun h' => lstOf h' (.loc l) = some xs⟩ h | _ => .stuck := by
  simp only [itOf, tupOf, lstOf]; cases h[l]? with
  | none => rfl
  | some o => cases o <;> rfl
@[simp] theorem v_itT : itOf (.tup xs) h = .ok ⟨xs, fun _ => True⟩ h := (rfl)
theorem lstOf_at (e : h[l]? = some (.lst xs)) : lstOf h (.loc l) = some xs := by simp [lstOf, e]
theorem at_lstOf (e : lstOf h (.loc l) = some xs) : h[l]? = some (.lst xs) := by
  simp only [lstOf] at e
  split at e
  · rename_i e2; cases e; exact e2
  · cases e
@[simp] theorem v_rng1 {i : Int} : fRng [.int i] h = if -(2 ^ 62) ≤ i ∧ i < 2 ^ 62 then .ok ⟨rgItems 0 i.toNat, fun _ => True⟩ h else .stuck := (rfl)
@[simp] theorem v_rng2 {i j : Int} : fRng [.int i, .int j] h = if -(2 ^ 62) ≤ i ∧ i < 2 ^ 62 ∧ -(2 ^ 62) ≤ j ∧ j < 2 ^ 62 then .ok ⟨rgItems i (j - i).toNat, fun _ => True⟩ h else .stuck := (rfl)
@[simp] theorem rg_len {lo : Int} {n : Nat} : (rgItems lo n).length = n := by simp [rgItems]
theorem rg_at {lo : Int} {n i : Nat} {d : D} (e : (rgItems lo n)[i]? = some d) : i < n ∧ d = .int (lo + i) := by
  simp only [rgItems, List.getElem?_map, Option.map_eq_some_iff] at e
  obtain ⟨j, ej, rfl⟩ := e
  have hi : i < n := by have := (List.getElem?_eq_some_iff.mp ej).1; simpa using this
  rw [List.getElem?_range hi] at ej
  exact ⟨hi, by rw [Option.some.inj ej]⟩
theorem sIx_of {n d : Nat} {v : Int} (h0 : 0 ≤ v) : HT.sIx n d (some v) = min v.toNat n := by
  show (if v < 0 then (v + (n : Int)).toNat else min v.toNat n) = min v.toNat n
  rw [if_neg (by omega)]
theorem cutD_le {i j : Int} (h0 : 0 ≤ i) (h1 : 0 ≤ j) (h2 : i ≤ xs.length) (h3 : j ≤ xs.length) : cutD xs (some i) (some j) = (xs.drop i.toNat).take (j.toNat - i.toNat) := by
  unfold cutD; rw [sIx_of h0, sIx_of h1, Nat.min_eq_left (by omega), Nat.min_eq_left (by omega)]
theorem rep1 {α : Type} (n : Nat) (a : α) : (List.replicate n [a]).flatten = List.replicate n a := by
  induction n with
  | zero => rfl
  | succ n ih => rw [List.replicate_succ, List.flatten_cons, ih]; rfl
end
/-! ### targets -/
section
variable {QE : En → M → Prop} {X : XP} {env : En} {h : M} {g : MG} {gs : MGs} {d : D} {ds xs : List D} {n : Nat}
@[simp] theorem wp_noX {α : Type} {r : Res α} {Q : α → M → Prop} : @Wc α (noX r) ⟨Q, X⟩ = @Wc α r ⟨Q, noEx⟩ := by cases r <;> rfl
@[simp] theorem wp_gTp : @Wc En (gTp n gs (.tup xs) env h) ⟨QE, X⟩ = (xs.length = n ∧ @Wc En (gs xs env h) ⟨QE, X⟩) := by
  simp only [gTp, tupOf_tup, wp_guard]
@[simp] theorem wp_gTpC : @Wc En (gTp n gs (.ct xs) env h) ⟨QE, X⟩ = (xs.length = n ∧ @Wc En (gs xs env h) ⟨QE, X⟩) := by
  simp only [gTp, tupOf_ct, wp_guard]
@[simp] theorem wp_gCons : @Wc En (gCons' g gs (d :: ds) env h) ⟨QE, X⟩ = @Wc En (g d env h) ⟨fun env h => @Wc En (gs ds env h) ⟨QE, noEx⟩, X⟩ := by
  simp only [gCons', wp_bind]; exact wc_eq fun _ _ => by rw [wp_noX]
@[simp] theorem wp_gNil : @Wc En (gNil' [] env h) ⟨QE, X⟩ = QE env h := (rfl)
@[simp] theorem wipeE_nil : wipeE env [] = env := (rfl)
@[simp] theorem wipeE_cons {v : Nat} {vs : List Nat} : wipeE env (v :: vs) = (wipeE env vs).set v .no := (rfl)
end
theorem cutD_mid {pre mid post : List D} {i j : Int} (hi : i = pre.length) (hj : j = pre.length + mid.length) : cutD (pre ++ mid ++ post) (some i) (some j) = mid := by
  rw [cutD_le (by omega) (by omega) (by simp; omega) (by simp; omega)]
  have h1 : i.toNat = pre.length := by omega
  have h2 : j.toNat - i.toNat = mid.length := by omega
  rw [h2, h1]
  simp
/-! ### loops over what a list stands for -/
section
variable {α : Type} {f : α → D} {chk : M → Prop} {g : MG} {mb : MS} {nx : En → M → Prop} {rt : D → M → Prop} {bk ct : En → M → Prop} {ex : Str → List Str → List D → En → M → Prop}
theorem floop_map {xs : List α} {env : En} {h : M} (I : List α → En → M → Prop) (h0 : I [] env h) (ck : ∀ p env h, p <+: xs → I p env h → chk h)
    (step : ∀ p x q env h, xs = p ++ x :: q → I p env h → @Wc En (g (f x) env h) ⟨fun env h => @Ws (mb env h) ⟨I (p ++ [x]), rt, nx, I (p ++ [x]), ex⟩, fun x ns vs h => ex x ns vs env h⟩) (fin : ∀ env h, I xs env h → nx env h) :
    @Ws (floop chk g mb (xs.map f) env h) ⟨nx, rt, bk, ct, ex⟩ := by
  refine floop_inv (fun i => I (xs.take i)) (by simpa using h0) (fun i env h _ p => ck _ _ _ (List.take_prefix _ _) p) (fun i d env h e p => ?_) (fun env h p => fin _ _ (by simpa using p))
  rw [List.getElem?_map, Option.map_eq_some_iff] at e
  obtain ⟨x, ex, rfl⟩ := e
  have hlt : i < xs.length := (List.getElem?_eq_some_iff.mp ex).1
  have hx : xs[i] = x := (List.getElem?_eq_some_iff.mp ex).2
  have e1 : xs = xs.take i ++ x :: xs.drop (i + 1) := by
    conv => lhs; rw [← List.take_append_drop i xs, List.drop_eq_getElem_cons hlt, hx]
  have e2 : xs.take (i + 1) = xs.take i ++ [x] := by rw [List.take_succ, ex]; rfl
  have := step (xs.take i) x (xs.drop (i + 1)) env h e1 p
  rw [← e2] at this
  exact this
theorem lcloop_map {Q : D → M → Prop} {X : XP} {xs : List α} {env : En} {tt : MT} {me : ME} {l : Nat} {h : M} (I : List α → List D → M → Prop) (h0 : I [] [] h) (ck : ∀ p acc h, p <+: xs → I p acc h → chk h)
    (step : ∀ p x q acc h, xs = p ++ x :: q → I p acc h → @Wc En (g (f x) env h) ⟨fun env2 h => @Wc Bool (tt env2 h) ⟨fun b h => if b = true then @Wc D (me env2 h) ⟨fun y h => h[l]? = some (.lst acc) ∧ acc.length < sizeLine ∧ I (p ++ [x]) (acc ++ [y]) (h.set l (.lst (acc ++ [y]))), noEx⟩ else I (p ++ [x]) acc h, noEx⟩, noEx⟩)
    (fin : ∀ acc h, I xs acc h → Q (.loc l) h) : @Wc D (lcloopN chk env g tt me l (xs.map f) h) ⟨Q, X⟩ := by
  refine lcloop_inv (fun i => I (xs.take i)) (by simpa using h0) (fun i acc h _ p => ck _ _ _ (List.take_prefix _ _) p) (fun i d acc h e p => ?_) (fun acc h p => fin _ _ (by simpa using p))
  rw [List.getElem?_map, Option.map_eq_some_iff] at e
  obtain ⟨x, ex, rfl⟩ := e
  have hlt : i < xs.length := (List.getElem?_eq_some_iff.mp ex).1
  have hx : xs[i] = x := (List.getElem?_eq_some_iff.mp ex).2
  have e1 : xs = xs.take i ++ x :: xs.drop (i + 1) := by
    conv => lhs; rw [← List.take_append_drop i xs, List.drop_eq_getElem_cons hlt, hx]
  have e2 : xs.take (i + 1) = xs.take i ++ [x] := by rw [List.take_succ, ex]; rfl
  have := step (xs.take i) x (xs.drop (i + 1)) acc h e1 p
  rw [← e2] at this
  exact this
end
end LF
set_option Elab.async false
set_option linter.all false
set_option maxRecDepth 100000
set_option maxHeartbeats 4000000
/-! LFS: the logic of texts, of raise and try. -/
namespace LF
open PySem PySem.Spec L2
open PyProof.Rows hiding St
/-- a text by its signs -/
def T (l : List Nat) : Str := ⟨l.toArray⟩
theorem T_S (l : List Nat) : T l = SX.S l := rfl
@[simp] theorem T_inj {a b : List Nat} : (T a = T b) = (a = b) := propext ⟨fun h => congrArg (fun x : Str => x.cps.toList) h, fun h => by rw [h]⟩
@[simp] theorem T_len (a : List Nat) : (T a).length = a.length := SX.S_len a
@[simp] theorem T_cat (a b : List Nat) : T a ++ T b = T (a ++ b) := SX.S_cat a b
@[simp] theorem T_cps (a : List Nat) : (T a).cps.toList = a := by simp [T]
theorem T_of (x : Str) : T x.cps.toList = x := SX.S_tl x
section
variable {Q : D → M → Prop} {QE : En → M → Prop} {X : XP} {env : En} {h : M} {nx : En → M → Prop} {rt : D → M → Prop} {bk ct : En → M → Prop} {ex : Str → List Str → List D → En → M → Prop} {a b l : List Nat} {i j : Int} {c : Nat}
@[simp] theorem v_ixTx : fIx (.str (T l)) (.int i) h = if l.length ≤ sizeLine then match atI l i with | some c => .ok (.str (T [c])) h | none => .stuck else .stuck := by
  simp only [fIx, T_len, T_cps]; rfl
@[simp] theorem v_lenTx : fLen [.str (T l)] h = if l.length ≤ sizeLine then .ok (.int l.length) h else .stuck := by
  simp only [fLen, lenD, T_len]; split <;> rename_i e <;> split at e <;> simp_all
@[simp] theorem v_addTx : fAdd (.str (T a)) (.str (T b)) h = if a.length + b.length ≤ sizeLine then .ok (.str (T (a ++ b))) h else .stuck := by
  simp only [fAdd, T_len, T_cat]
def cutN (l : List Nat) (lo hi : Option Int) : List Nat := (l.drop (HT.sIx l.length 0 lo)).take (HT.sIx l.length l.length hi - HT.sIx l.length 0 lo)
@[simp] theorem v_slTx {lo hi : Option Int} : fSl (.str (T l)) lo hi h = if l.length ≤ sizeLine then .ok (.str (T (cutN l lo hi))) h else .stuck := by
  simp only [fSl, T_len, cutS, T_cps]; rfl
theorem cutN_to (h0 : 0 ≤ i) : cutN l none (some i) = l.take i.toNat := by
  unfold cutN
  rw [show HT.sIx l.length 0 none = 0 from rfl, sIx_of h0, Nat.sub_zero, List.drop_zero]
  by_cases hl : i.toNat ≤ l.length
  · rw [Nat.min_eq_left hl]
  · rw [Nat.min_eq_right (by omega), List.take_of_length_le (Nat.le_refl _), List.take_of_length_le (by omega)]
theorem cutN_from (h0 : 0 ≤ i) : cutN l (some i) none = l.drop i.toNat := by
  unfold cutN
  rw [show HT.sIx l.length l.length none = l.length from rfl, sIx_of h0]
  by_cases hl : i.toNat ≤ l.length
  · rw [Nat.min_eq_left hl, List.take_of_length_le (by simp)]
  · rw [Nat.min_eq_right (by omega)]
    rw [List.drop_eq_nil_of_le (Nat.le_refl _), List.drop_eq_nil_of_le (by omega)]; simp
@[simp] theorem v_itTx : itOf (.str (T l)) h = .ok ⟨l.map fun c => .str (T [c]), fun _ => True⟩ h := by
  show Res.ok (Itr'.mk _ _) h = _
  rw [T_cps]; rfl
@[simp] theorem v_sltI : fSLt (.int i) (.int j) h = .ok (.bl (decide (i < j))) h := (rfl)
@[simp] theorem v_sltT : fSLt (.str (T a)) (.str (T b)) h = .ok (.bl (decide (a < b))) h := by
  show Res.ok (D.bl (decide ((T a).cps.toList < (T b).cps.toList))) h = _
  rw [T_cps, T_cps]
@[simp] theorem v_eqTx : fEq (.str (T a)) (.str (T b)) h = .ok (.bl (decide (a = b))) h := by
  rw [v_eqS]; simp only [T_inj]
@[simp] theorem v_neTx : fNe (.str (T a)) (.str (T b)) h = .ok (.bl (!decide (a = b))) h := by
  rw [v_neS]; simp only [T_inj]
@[simp] theorem v_eqB {x y : Bool} : fEq (.bl x) (.bl y) h = .ok (.bl (decide (x = y))) h := (rfl)
@[simp] theorem v_neB {x y : Bool} : fNe (.bl x) (.bl y) h = .ok (.bl (!decide (x = y))) h := (rfl)
theorem inD_one : inD h (.str (T [c])) (.str (T l)) = some (decide (c ∈ l)) := by
  show some (!(Builtin.Str.occurrences (T l) (T [c]) 0 (T l).length 1).isEmpty) = _
  rw [show (!(Builtin.Str.occurrences (T l) (T [c]) 0 (T l).length 1).isEmpty) = decide (c ∈ l) from SX.in_one l c]
@[simp] theorem v_inTx : fIn (.str (T [c])) (.str (T l)) h = .ok (.bl (decide (c ∈ l))) h := by
  show (match inD h (.str (T [c])) (.str (T l)) with | some b => Res.ok (D.bl (if false = true then !b else b)) h | none => .stuck) = _
  rw [inD_one]; rfl
@[simp] theorem v_ninTx : fNotIn (.str (T [c])) (.str (T l)) h = .ok (.bl (!decide (c ∈ l))) h := by
  show (match inD h (.str (T [c])) (.str (T l)) with | some b => Res.ok (D.bl (if true = true then !b else b)) h | none => .stuck) = _
  rw [inD_one]; rfl
@[simp] theorem v_mulXI {y : D} : fMulX (.int i) y h = fMul (.int i) y h := (rfl)
@[simp] theorem v_mulXL {k : Nat} {y : D} : fMulX (.loc k) y h = fMul (.loc k) y h := (rfl)
theorem foldl_app (n : Nat) (l : List Nat) (acc : Array Nat) : ((List.replicate n l.toArray).foldl (· ++ ·) acc).toList = acc.toList ++ (List.replicate n l).flatten := by
  induction n generalizing acc with
  | zero => simp
  | succ n ih => rw [List.replicate_succ, List.foldl_cons, ih, List.replicate_succ, List.flatten_cons]; simp
theorem mul_T (h0 : 0 ≤ i) : Txt.mul (T l) i = T (List.replicate i.toNat l).flatten := by
  unfold Txt.mul
  split
  · have : i = 0 := by omega
    subst this; rfl
  · split
    · rename_i h1 h2
      simp only [Bool.or_eq_true, beq_iff_eq, T_len] at h2
      rcases h2 with h2 | h2
      · subst h2; simp
      · have : l = [] := List.eq_nil_of_length_eq_zero h2
        subst this; simp
    · apply congrArg Str.mk
      apply Array.ext'
      have := foldl_app i.toNat l #[]
      simpa [T] using this
theorem mulOk {x : Str} (h0 : x.length ≤ 4096) (h1 : -4096 ≤ i) (h2 : i ≤ 4096) : MulOk x i := by
  refine ⟨by simp; omega, fun h3 _ => ?_, fun h3 _ => ?_⟩
  · have h4 : (2 ^ 63 - 1) / 4096 ≤ (2 ^ 63 - 1 : Int) / i := Int.le_ediv_of_mul_le (by omega) (by
      have : ((2 ^ 63 - 1) / 4096 : Int) * i ≤ ((2 ^ 63 - 1) / 4096) * 4096 := Int.mul_le_mul_of_nonneg_left h2 (by decide)
      exact Int.le_trans this (by decide))
    have h5 : ((2 ^ 63 - 1) / 4096 : Int) = 2251799813685247 := by decide
    omega
  · have : x.length * i.toNat ≤ 4096 * 4096 := Nat.mul_le_mul h0 (by omega)
    show decide (_ > _) = false
    exact decide_eq_false (by have h6 : x.length * i.toNat ≤ 16777216 := this; rw [show sizeLine = 16777216 from rfl]; omega)
@[simp] theorem v_mulXT : fMulX (.str (T l)) (.int i) h = if MulOk (T l) i then .ok (.str (Txt.mul (T l) i)) h else .stuck := (rfl)
theorem strsD_map {α : Type} {f : α → List Nat} : ∀ xs : List α, strsD (xs.map fun x => .str (T (f x))) = some (xs.map fun x => T (f x))
  | [] => rfl
  | x :: xs => by simp only [List.map_cons, strsD, strsD_map xs]; rfl
theorem join_T (a : List Nat) (ys : List (List Nat)) : Txt.join (T a) (ys.map T) = T (TL.joinL a ys) := SX.join_S a ys
@[simp] theorem v_rev {k : Nat} : fReverse (.loc k) [] h = match h[k]? with | some (.lst ys) => .ok .non (h.set k (.lst ys.reverse)) | _ => .stuck := (rfl)
@[simp] theorem v_ins {k : Nat} {y : D} : fInsert (.loc k) [.int i, y] h = match h[k]? with | some (.lst ys) => if ys.length < sizeLine ∧ 0 ≤ i ∧ i < 2 ^ 63 then .ok .non (h.set k (.lst (ys.take i.toNat ++ [y] ++ ys.drop i.toNat))) else .stuck | _ => .stuck := (rfl)
/-! ### raise, try -/
@[simp] theorem ws_raise {x : Str} {fs : List Str} {mas : MA} : @Ws (mRaise x fs mas env h) ⟨nx, rt, bk, ct, ex⟩ = @Wc (List D) (mas env h) ⟨fun ds h => ds.length = fs.length ∧ ex x fs.reverse ds.reverse env h, fun x ns vs h => ex x ns vs env h⟩ := by
  unfold mRaise; rw [ws_of]
  exact wc_eq fun ds h => by
    split
    · rename_i e; rw [ws_exc]; simp [e]
    · rename_i e; rw [ws_stuck]; simp [e]
theorem ws_after {r : SR} {i : Nat} : @Ws (afterX i r) ⟨nx, rt, bk, ct, ex⟩ = @Ws r ⟨fun e h => calmE (e.set i .no) = true ∧ nx (e.set i .no) h, rt, fun e h => calmE (e.set i .no) = true ∧ bk (e.set i .no) h, fun e h => calmE (e.set i .no) = true ∧ ct (e.set i .no) h, fun _ _ _ _ _ => False⟩ := by
  cases r with
  | nx e h => simp only [afterX, ws_nx]; split <;> rename_i c <;> simp [c]
  | bk e h => simp only [afterX, ws_bk]; split <;> rename_i c <;> simp [c]
  | ct e h => simp only [afterX, ws_ct]; split <;> rename_i c <;> simp [c]
  | rt d h => rfl
  | exc => rfl
  | stuck => rfl
@[simp] theorem ws_tryAs {tk : List ((Str × Str) × Bool)} {c : Str} {i : Nat} {mb : MS} {ms : Str → List Str → List D → MS} : @Ws (mTryAs tk c i mb ms env h) ⟨nx, rt, bk, ct, ex⟩ =
    @Ws (mb env h) ⟨nx, rt, bk, ct, fun x ns xs e h => match lookT tk (x, c) with
      | some true => @Ws (ms x ns xs (e.set i .ex) h) ⟨fun e h => calmE (e.set i .no) = true ∧ nx (e.set i .no) h, rt, fun e h => calmE (e.set i .no) = true ∧ bk (e.set i .no) h, fun e h => calmE (e.set i .no) = true ∧ ct (e.set i .no) h, fun _ _ _ _ _ => False⟩
      | some false => ex x ns xs e h
      | none => False⟩ := by
  unfold mTryAs
  cases e : mb env h with
  | exc x ns xs e1 h1 =>
    simp only [ws_exc]
    cases lookT tk (x, c) with
    | none => rfl
    | some b => cases b with
      | false => rfl
      | true => exact ws_after
  | _ => rfl
@[simp] theorem wp_isX {nm : List Str} {tk : List ((Str × Str) × Bool)} {tt : List ((Str × String) × Bool)} {x : Str} {i : Nat} {mc : ME} : @Wc D (mIsX nm tk tt x i mc env h) ⟨Q, X⟩ =
    match env[i]? with
    | some .ex => x ∈ nm ∧ @Wc D (mc env h) ⟨fun d h => @Wc D (fIsX tk tt x d h) ⟨Q, X⟩, X⟩
    | _ => False := by
  unfold mIsX
  cases e : env[i]? with
  | none => rfl
  | some s => cases s with
    | ex => show @Wc D (if x ∈ nm then _ else _) ⟨Q, X⟩ = _; rw [wp_guard, wp_bind]
    | _ => rfl
@[simp] theorem v_xf {ft : List (Str × Str)} {x : Str} {ns : List Str} {xs : List D} {i : Nat} {f : Str} : mXf ft x ns xs i f env h = match env[i]? with
  | some .ex => if (x, f) ∈ ft then match lookT (ns.zip xs) f with | some d => .ok d h | none => .stuck else .stuck
  | _ => .stuck := (rfl)
@[simp] theorem wp_chain {f f' : D → D → M → Res D} {ma mb mc : ME} : @Wc D (mChain f f' ma mb mc env h) ⟨Q, X⟩ = @Wc D (ma env h) ⟨fun x h1 => @Wc D (mb env h1) ⟨fun y h2 => @Wc D (f x y h2) ⟨fun z h3 => @Wc Bool (asB z h3) ⟨fun t h3 => if t = true then @Wc D (mc env h3) ⟨fun u h4 => @Wc D (f' y u h4) ⟨Q, X⟩, X⟩ else Q (.bl false) h3, X⟩, X⟩, X⟩, X⟩ := by
  unfold mChain
  rw [wp_bind]; exact wc_eq fun _ _ => by
    rw [wp_bind]; exact wc_eq fun _ _ => by
      rw [wp_bind]; exact wc_eq fun _ _ => by
        rw [wp_bind]; exact wc_eq fun t _ => by cases t <;> simp
/-- what is between two statements -/
theorem Ws.cut {r : SR} (Mid : En → M → Prop) (h1 : @Ws r ⟨Mid, rt, bk, ct, ex⟩) (h2 : ∀ e m, Mid e m → nx e m) : @Ws r ⟨nx, rt, bk, ct, ex⟩ := Ws.mono h1 h2 (fun _ _ z => z) (fun _ _ z => z) (fun _ _ z => z) fun _ _ _ _ _ z => z
end
end LF
set_option Elab.async false
set_option linter.all false
set_option maxRecDepth 100000
set_option maxHeartbeats 4000000
/-! LFD: tables of the written part, zip, enumerate, index. -/
namespace LF
open PySem PySem.Spec L2
open PyProof.Rows hiding St
/-! ### values of the written part -/
mutual
def ckV (K : PySem.W.Frag) : D → Value → Bool
  | .non, .none => true
  | .bl b, .bool c => b == c
  | .int i, .int j _ => decide (i = j)
  | .str x, .str y _ => decide (x = y)
  | .ct xs, .ref a => match K.lookup a with
    | some ⟨.type "tuple", none, .seq its _, _⟩ => decide (its.size ≤ sizeLine) && ckVs K xs its.toList
    | _ => false
  | _, _ => false
def ckVs (K : PySem.W.Frag) : List D → List Value → Bool
  | [], [] => true
  | d :: ds, v :: vs => ckV K d v && ckVs K ds vs
  | _, _ => false
end
section
variable {K : PySem.W.Frag} {mg : Str → Option Value}
mutual
theorem ckV_ok : ∀ (d : D) (u : Value), ckV K d u = true → ∃ v, RelV v u ∧ ∀ ι H, RV ⟨K, mg⟩ ι H d v
  | .non, u, h => by
    cases u <;> simp only [ckV, Bool.false_eq_true] at h
    exact ⟨.non, rfl, fun _ _ => by simp [RV]⟩
  | .bl b, u, h => by
    cases u <;> simp only [ckV, Bool.false_eq_true] at h
    simp only [beq_iff_eq] at h; subst h
    exact ⟨.bl b, rfl, fun _ _ => by simp [RV]⟩
  | .int i, u, h => by
    cases u <;> simp only [ckV, Bool.false_eq_true] at h
    simp only [decide_eq_true_eq] at h; subst h
    exact ⟨.int i, ⟨_, rfl⟩, fun _ _ => by simp [RV]⟩
  | .str x, u, h => by
    cases u <;> simp only [ckV, Bool.false_eq_true] at h
    simp only [decide_eq_true_eq] at h; subst h
    exact ⟨.str x, ⟨_, rfl⟩, fun _ _ => by simp [RV]⟩
  | .ct xs, u, h => by
    cases u <;> simp only [ckV, Bool.false_eq_true] at h
    rename_i a
    split at h
    · rename_i its n sl e
      simp only [Bool.and_eq_true, decide_eq_true_eq] at h
      obtain ⟨vs, r, k⟩ := ckVs_ok xs its.toList h.2
      refine ⟨.ref a, rfl, fun ι H => ?_⟩
      simp only [RV]
      exact ⟨a, vs, rfl, ⟨_, its, n, e, rfl, rfl, h.1, r⟩, k ι H⟩
    · cases h
  | .tup _, u, h => by cases u <;> simp only [ckV, Bool.false_eq_true] at h
  | .cl _, u, h => by cases u <;> simp only [ckV, Bool.false_eq_true] at h
  | .loc _, u, h => by cases u <;> simp only [ckV, Bool.false_eq_true] at h
  | .ty _, u, h => by cases u <;> simp only [ckV, Bool.false_eq_true] at h
  | .cls _, u, h => by cases u <;> simp only [ckV, Bool.false_eq_true] at h
theorem ckVs_ok : ∀ (ds : List D) (us : List Value), ckVs K ds us = true → ∃ vs, Vals vs us ∧ ∀ ι H, RVs ⟨K, mg⟩ ι H ds vs
  | [], [], _ => ⟨[], .nil, fun _ _ => by simp [RVs]⟩
  | d :: ds, u :: us, h => by
    simp only [ckVs, Bool.and_eq_true] at h
    obtain ⟨v, r, k⟩ := ckV_ok d u h.1
    obtain ⟨vs, rs, ks⟩ := ckVs_ok ds us h.2
    exact ⟨v :: vs, .cons r rs, fun ι H => RVs.cons (k ι H) (ks ι H)⟩
  | [], _ :: _, h => by simp [ckVs] at h
  | _ :: _, [], h => by simp [ckVs] at h
end
/-- a tuple of the written part under a name -/
structure GCT (K : PySem.W.Frag) (mg : Str → Option Value) (x : Str) (xs : List D) : Prop where
  ex : ∃ p, mg x = some (.ref p) ∧ (∃ o, K.lookup p = some o ∧ o.cls = .type "tuple" ∧ o.dict = none) ∧ ∀ ι H, RV ⟨K, mg⟩ ι H (.ct xs) (.ref p)
theorem gct {x : Str} {p : Addr} {xs : List D} (hm : mg x = some (.ref p)) (h : ckV K (.ct xs) (.ref p) = true) : GCT K mg x xs := by
  obtain ⟨v, r, k⟩ := ckV_ok (mg := mg) _ _ h
  have z := k [] (fun _ => none)
  simp only [RV] at z
  obtain ⟨a, vs, rfl, _⟩ := z
  have r' : Value.ref p = Value.ref a := r
  cases r'
  refine ⟨p, hm, ?_, k⟩
  simp only [ckV] at h
  split at h
  · rename_i e
    exact ⟨_, e, rfl, rfl⟩
  · cases h
/-! ### dicts of the written part -/
def ckE (K : PySem.W.Frag) : List DictEntry → List (Str × D) → Bool
  | [], [] => true
  | e :: es, (k, d) :: kvs => e.key.isStr k && ckV K d e.val && ckE K es kvs
  | _, _ => false
def KLk (K : PySem.W.Frag) (w : World) (a : Addr) (z : Str) (r : Option Value) : Prop :=
  ∃ es n, K.lookup a = some ⟨.type "dict", none, .dict es n, #[]⟩ ∧ PySem.W.KeysLit w.params es.toList ∧ findBy Value.isStrOf es z = r
structure CDT (K : PySem.W.Frag) (mg : Str → Option Value) (w : World) (x : Str) (kvs : List (Str × D)) : Prop where
  ex : ∃ p, mg x = some (.ref p) ∧ (p == sysModules) = false ∧ ∀ z, (∀ d, valD kvs z = some d → ∃ u v, KLk K w p z (some u) ∧ L2.RelV v u ∧ ∀ ι H, RV ⟨K, mg⟩ ι H d v) ∧ (valD kvs z = none → KLk K w p z none)
theorem isStr_key {v : Value} {k : Str} (h : v.isStr k = true) : ∃ t, v = .str k t := by
  cases v <;> simp [Value.isStr] at h
  subst h; exact ⟨_, rfl⟩
theorem ckE_ok (z : Str) : ∀ (es : List DictEntry) (kvs : List (Str × D)), ckE K es kvs = true →
    (∀ d, valD kvs z = some d → ∃ e, es.find? (fun e => Value.isStrOf z e.key) = some e ∧ ckV K d e.val = true) ∧ (valD kvs z = none → es.find? (fun e => Value.isStrOf z e.key) = none)
  | [], [], _ => ⟨fun d e => by simp [valD] at e, fun _ => rfl⟩
  | e :: es, (k, d) :: kvs, h => by
    simp only [ckE, Bool.and_eq_true] at h
    have ih := ckE_ok z es kvs h.2
    by_cases hk : k = z
    · subst hk
      have e1 : valD ((k, d) :: kvs) k = some d := by simp [valD, List.find?_cons]
      have e2 : Value.isStrOf k e.key = true := by rw [← PySem.W.isStr_of]; exact h.1.1
      rw [e1]
      refine ⟨fun d' q => ?_, fun q => by cases q⟩
      cases q
      exact ⟨e, by rw [List.find?_cons, e2], h.1.2⟩
    · have e1 : valD ((k, d) :: kvs) z = valD kvs z := by simp [valD, List.find?_cons, hk]
      have e2 : Value.isStrOf z e.key = false := by
        obtain ⟨t, et⟩ := isStr_key h.1.1
        rw [← PySem.W.isStr_of, et]
        simp [Value.isStr, hk]
      rw [e1, List.find?_cons, e2]
      exact ih
  | [], _ :: _, h => by simp [ckE] at h
  | _ :: _, [], h => by simp [ckE] at h
theorem cdt_mk {w : World} {x : Str} {p : Addr} {es : Array DictEntry} {n : Nat} {kvs : List (Str × D)} (hm : mg x = some (.ref p)) (hs : (p == sysModules) = false) (hl : K.lookup p = some ⟨.type "dict", none, .dict es n, #[]⟩) (hk : PySem.W.KeysLit w.params es.toList) (h : ckE K es.toList kvs = true) : CDT K mg w x kvs := by
  refine ⟨p, hm, hs, fun z => ?_⟩
  have c := ckE_ok z es.toList kvs h
  have hf : ∀ r, es.toList.find? (fun e => Value.isStrOf z e.key) = r → findBy Value.isStrOf es z = r.map (·.val) := fun r e => by
    unfold findBy
    rw [← e, ← Array.find?_toList]
  refine ⟨fun d e => ?_, fun e => ⟨es, n, hl, hk, by rw [hf none (c.2 e)]; rfl⟩⟩
  obtain ⟨en, e1, e2⟩ := c.1 d e
  obtain ⟨v, r, k⟩ := ckV_ok (mg := mg) d en.val e2
  exact ⟨en.val, v, ⟨es, n, hl, hk, by rw [hf _ e1]; rfl⟩, r, k⟩
end
section
variable {X : Cx} {W : WX} {ex : Ex} {e a b i o : Expr} {es : List Expr} {ma mb mc : ME} {mas : MA} {pos p : Pos} {x : Str} {kvs : List (Str × D)}
def fKd (kvs : List (Str × D)) (d : D) (h : M) : Res D := match d with
  | .str z => match valD kvs z with | some r => .ok r h | none => .stuck
  | _ => .stuck
theorem ix_klk : IxR X (fun x y H Q => ∃ p z u r, x = .ref p ∧ y = .str z ∧ KLk X.K X.w p z (some u) ∧ L2.RelV r u ∧ Q r H) := by
  intro value slice pins s σ H x y v u Q I rx ry h hs
  obtain ⟨p, z, u0, r, rfl, rfl, ⟨es, n, hl, hk, e⟩, ru, q⟩ := h
  obtain rfl : v = Value.ref p := rx
  obtain ⟨t, rfl⟩ := ry
  have hm := PySem.W.mapOf_K (prog := X.prog) (w := X.w) I.kIn hl hk
  exact tail_any hm.typeIs slot_dict_getitem.lookup (wpAny_getItem_of (strKind_is X.prog X.w z t) hm e ⟨r, H, I.tok _, ru, q⟩) hs
theorem fe_kix (T : CDT X.K X.mg X.w x kvs) (hb : FE X W ex b mb) (hg : Gl X x := by rfl) (hd : (x == ("__debug__" : Str)) = false := by decide) (hs : PlainIx b := by exact fun _ _ => rfl) : FE X W ex (.Subscript (.Name x p) b pos) (m1 (fKd kvs) mb) := by
  obtain ⟨pa, hm, hsys, hz⟩ := T.ex
  refine PE.imp (pe_ix ix_klk (pe_glob hg hm (v := .ref pa) rfl hd) hb hs) fun σ H Q q => ?_
  obtain ⟨ι, h, env, rel, re, po⟩ := q
  refine ⟨ι, h, env, rel, re, post_bind po fun d h1 ι1 H1 v eq p k rel1 rv po1 => ?_⟩
  unfold fKd at po1
  split at po1
  case h_2 => exact po1.elim
  rename_i z
  split at po1
  case h_2 => exact po1.elim
  rename_i r er
  obtain ⟨u, w, lk, ru, rw'⟩ := (hz z).1 r er
  simp only [RV] at rv
  subst rv
  exact ⟨pa, z, u, w, rfl, rfl, lk, ru, po_ok rel1 (rw' _ _) po1⟩
def fKin (neg : Bool) (kvs : List (Str × D)) (d : D) (h : M) : Res D := match d with
  | .str z => .ok (.bl (if neg then !(valD kvs z).isSome else (valD kvs z).isSome)) h
  | _ => .stuck
def rKin (K : PySem.W.Frag) (w : World) (neg : Bool) : R2 := fun x y H Q => ∃ p z r, y = .ref p ∧ x = .str z ∧ (p == sysModules) = false ∧ KLk K w p z r ∧ Q (.bl (if neg then !r.isSome else r.isSome)) H
theorem op_kin : OpR X (compareOp .In) (rKin X.K X.w false) := by
  intro pins s σ H x y v u Q I rx ry h
  obtain ⟨p, z, r, rfl, rfl, hsys, ⟨es, n, hl, hk, e⟩, q⟩ := h
  obtain rfl : u = Value.ref p := ry
  obtain ⟨t, rfl⟩ := rx
  have hm := PySem.W.mapOf_K (prog := X.prog) (w := X.w) I.kIn hl hk
  exact wpAny_in_of (strKind_is X.prog X.w z t) hsys hm ⟨.bl _, H, I.tok _, by rw [e]; rfl, q⟩
theorem op_knin : OpR X (compareOp .NotIn) (rKin X.K X.w true) := by
  intro pins s σ H x y v u Q I rx ry h
  obtain ⟨p, z, r, rfl, rfl, hsys, ⟨es, n, hl, hk, e⟩, q⟩ := h
  obtain rfl : u = Value.ref p := ry
  obtain ⟨t, rfl⟩ := rx
  have hm := PySem.W.mapOf_K (prog := X.prog) (w := X.w) I.kIn hl hk
  exact wpAny_notIn_of (strKind_is X.prog X.w z t) hsys hm ⟨.bl _, H, I.tok _, by rw [e]; rfl, q⟩
theorem fc_kinN {op : CmpOp} {neg : Bool} (ho : OpR X (compareOp op) (rKin X.K X.w neg)) (T : CDT X.K X.mg X.w x kvs) (ha : FE X W ex a ma) (hg : Gl X x := by rfl) (hd : (x == ("__debug__" : Str)) = false := by decide) : FC X W ex op a (.Name x p) (m1 (fKin neg kvs) ma) := by
  obtain ⟨pa, hm, hsys, hz⟩ := T.ex
  refine PC.imp (pc_of ho ha (pe_glob hg hm (v := .ref pa) rfl hd)) fun σ H Q q => ?_
  obtain ⟨ι, h, env, rel, re, po⟩ := q
  refine ⟨ι, h, env, rel, re, post_bind po fun d h1 ι1 H1 v eq p k rel1 rv po1 => ?_⟩
  unfold fKin at po1
  split at po1
  case h_2 => exact po1.elim
  rename_i z
  simp only [RV] at rv
  subst rv
  have fin := po_ok (v := V.bl (if neg then !(valD kvs z).isSome else (valD kvs z).isSome)) rel1 (by simp [RV]) po1
  cases er : valD kvs z with
  | none =>
    rw [er] at fin
    exact ⟨pa, z, none, rfl, rfl, hsys, (hz z).2 er, fin⟩
  | some r =>
    rw [er] at fin
    obtain ⟨u, w, lk, ru, rw'⟩ := (hz z).1 r er
    exact ⟨pa, z, some u, rfl, rfl, hsys, lk, fin⟩
theorem fc_kin (T : CDT X.K X.mg X.w x kvs) (ha : FE X W ex a ma) (hg : Gl X x := by rfl) (hd : (x == ("__debug__" : Str)) = false := by decide) : FC X W ex .In a (.Name x p) (m1 (fKin false kvs) ma) := fc_kinN op_kin T ha hg hd
theorem fc_knin (T : CDT X.K X.mg X.w x kvs) (ha : FE X W ex a ma) (hg : Gl X x := by rfl) (hd : (x == ("__debug__" : Str)) = false := by decide) : FC X W ex .NotIn a (.Name x p) (m1 (fKin true kvs) ma) := fc_kinN op_knin T ha hg hd
/-- a tuple of the written part -/
theorem fe_gct {xs : List D} (T : GCT X.K X.mg x xs) (hg : Gl X x := by rfl) (hd : (x == ("__debug__" : Str)) = false := by decide) : FE X W ex (.Name x pos) (mC (.ct xs)) :=
  let ⟨_, hm, _, r⟩ := T.ex; fe_gref hm r hg hd
/-! ### zip, enumerate -/
def prs (xs ys : List D) : List D := (xs.zip ys).map fun p => .tup [p.1, p.2]
def fZip (ds : List D) (h : M) : Res Itr' := match ds with
  | [x, y] => match tupOf x, tupOf y with
    | some xs, some ys => .ok ⟨prs xs ys, fun _ => True⟩ h
    | _, _ => match lstOf h x, lstOf h y with
      | some xs, some ys => .ok ⟨prs xs ys, fun h' => lstOf h' x = some xs ∧ lstOf h' y = some ys⟩ h
      | _, _ => .stuck
  | _ => .stuck
def mZip (mas : MA) : MI := fun env h => (mas env h).bind fZip
theorem pair_rv {G : Wo} {ι : List Addr} {H : Hp} {T : Addr} {x y : V} {c d : D} (hT : H T = none) (r1 : RV G ι H c x) (r2 : RV G ι H d y) : RV G ι (upd H T (.tup [x, y])) (.tup [c, d]) (.ref T) := by
  have k : Keep H (upd H T (.tup [x, y])) := Keep.of_same (same_upd hT)
  simp only [RV]
  exact ⟨T, _, rfl, upd_same, RVs.mono (List.prefix_refl _) k _ _ (RVs.cons r1 (RVs.cons r2 RVs.nil))⟩
theorem prs_at {xs ys : List D} {i : Nat} {d : D} (h : (prs xs ys)[i]? = some d) : ∃ a b, xs[i]? = some a ∧ ys[i]? = some b ∧ d = .tup [a, b] := by
  simp only [prs, List.getElem?_map, Option.map_eq_some_iff] at h
  obtain ⟨⟨a, b⟩, e, rfl⟩ := h
  rw [List.getElem?_zip_eq_some] at e
  exact ⟨a, b, e.1, e.2, rfl⟩
theorem fi_zip {elts : List Expr} {kk : Nat} {tpos : Pos} {p : Pos} (hm : X.mg "zip" = none) (hs : FA X W ex [a, b] mas) (hg : Gl X "zip" := by rfl) (hst : starEach [a, b] X.env = (false, eval a X.env) :: starEach [b] X.env := by rfl) (hpl : (backTo pos (starEach [b] X.env)).any (·.1) = false := by rfl) :
    FI X W ex (.Tuple elts kk tpos) (.Call (.Name "zip" p) [a, b] [] pos) (mZip mas) := by
  refine PI.imp (RZ.pi_zipA hg hm hs hst hpl) fun σ H R q => ?_
  obtain ⟨ι, h, env, rel, re, po⟩ := q
  refine ⟨ι, h, env, rel, re, post_bind po fun ds h1 ι1 H1 vs eq1 p1 k1 rel1 rv1 po1 => ?_⟩
  unfold fZip at po1
  split at po1
  case h_2 => exact po1.elim
  rename_i x y
  obtain ⟨v, u, rfl, r1, r2⟩ := rv1.eq2
  split at po1
  · rename_i xs ys e1 e2
    obtain ⟨pa, ws, rfl, s1, q1⟩ := tupOf_sq r1 e1
    obtain ⟨pb, zs, rfl, s2, q2⟩ := tupOf_sq r2 e2
    refine ⟨pa, pb, ws, zs, rfl, .inr ⟨s1, s2, po_ok rel1 ?_ po1⟩⟩
    intro i ι H h p k rel _
    have t1 := k.tup s1
    have t2 := k.tup s2
    have g1 := RVs.mono p k _ _ q1
    have g2 := RVs.mono p k _ _ q2
    refine ⟨fun d ed => ?_, fun hi => ⟨ws, zs, t1, t2, ?_⟩⟩
    · obtain ⟨c, d', ec, ed', rfl⟩ := prs_at ed
      obtain ⟨v, ev, rv⟩ := g1.get ec
      obtain ⟨u, eu, ru⟩ := g2.get ed'
      refine ⟨⟨ws, zs, v, u, t1, t2, ev, eu⟩, fun xx H' hy => ?_⟩
      obtain ⟨T, x', y', rfl, hT, rfl, h1, h2⟩ := hy
      have z1 := h1 ws t1
      have z2 := h2 zs t2
      rw [ev] at z1; cases z1
      rw [eu] at z2; cases z2
      exact ⟨same_upd hT, pair_rv hT rv ru⟩
    · have l1 := RVs.length g1
      have l2 := RVs.length g2
      simp [prs] at hi
      omega
  · split at po1
    case h_2 => exact po1.elim
    rename_i xs ys e1 e2
    obtain ⟨pa, ws, rfl, s1, q1⟩ := lstOf_sq rel1 r1 e1
    obtain ⟨pb, zs, rfl, s2, q2⟩ := lstOf_sq rel1 r2 e2
    refine ⟨pa, pb, ws, zs, rfl, .inl ⟨s1, s2, po_ok rel1 ?_ po1⟩⟩
    intro i ι H h p k rel ck
    obtain ⟨pa', ws', ea', t1, g1⟩ := lstOf_sq rel (RV.mono p k _ _ r1) ck.1
    obtain ⟨pb', zs', eb', t2, g2⟩ := lstOf_sq rel (RV.mono p k _ _ r2) ck.2
    cases ea'; cases eb'
    refine ⟨fun d ed => ?_, fun hi => ⟨ws', zs', t1, t2, ?_⟩⟩
    · obtain ⟨c, d', ec, ed', rfl⟩ := prs_at ed
      obtain ⟨v, ev, rv⟩ := g1.get ec
      obtain ⟨u, eu, ru⟩ := g2.get ed'
      refine ⟨⟨ws', zs', v, u, t1, t2, ev, eu⟩, fun xx H' hy => ?_⟩
      obtain ⟨T, x', y', rfl, hT, rfl, h1, h2⟩ := hy
      have z1 := h1 ws' t1
      have z2 := h2 zs' t2
      rw [ev] at z1; cases z1
      rw [eu] at z2; cases z2
      exact ⟨same_upd hT, pair_rv hT rv ru⟩
    · have l1 := RVs.length g1
      have l2 := RVs.length g2
      simp [prs] at hi
      omega
def ens (xs : List D) : List D := xs.zipIdx.map fun p => .tup [.int (p.2 : Nat), p.1]
def fEnum (ds : List D) (h : M) : Res Itr' := match ds with
  | [x] => match lstOf h x with
    | some xs => .ok ⟨ens xs, fun h' => lstOf h' x = some xs⟩ h
    | none => .stuck
  | _ => .stuck
def mEnum (mas : MA) : MI := fun env h => (mas env h).bind fEnum
theorem ens_at {xs : List D} {i : Nat} {d : D} (h : (ens xs)[i]? = some d) : ∃ a, xs[i]? = some a ∧ d = .tup [.int (i : Nat), a] := by
  simp only [ens, List.getElem?_map, Option.map_eq_some_iff, List.getElem?_zipIdx] at h
  obtain ⟨⟨a, j⟩, ⟨c, e, e2⟩, rfl⟩ := h
  simp at e2
  obtain ⟨rfl, rfl⟩ := e2
  exact ⟨c, e, rfl⟩
theorem fi_enum {elts : List Expr} {kk : Nat} {tpos : Pos} {p : Pos} (hm : X.mg "enumerate" = none) (hs : FA X W ex [a] mas) (hg : Gl X "enumerate" := by rfl) (hst : starEach [a] X.env = [(false, eval a X.env)] := by rfl) :
    FI X W ex (.Tuple elts kk tpos) (.Call (.Name "enumerate" p) [a] [] pos) (mEnum mas) := by
  refine PI.imp (pi_enum hg hm hs hst) fun σ H R q => ?_
  obtain ⟨ι, h, env, rel, re, po⟩ := q
  refine ⟨ι, h, env, rel, re, post_bind po fun ds h1 ι1 H1 vs eq1 p1 k1 rel1 rv1 po1 => ?_⟩
  unfold fEnum at po1
  split at po1
  case h_2 => exact po1.elim
  rename_i x
  obtain ⟨v, rfl, r1⟩ := rv1.eq1
  split at po1
  case h_2 => exact po1.elim
  rename_i xs e1
  obtain ⟨pa, ws, rfl, s1, q1⟩ := lstOf_sq rel1 r1 e1
  refine ⟨pa, ws, rfl, s1, po_ok rel1 ?_ po1⟩
  intro i ι H h p k rel ck
  obtain ⟨pa', ws', ea', t1, g1⟩ := lstOf_sq rel (RV.mono p k _ _ r1) ck
  cases ea'
  refine ⟨fun d ed => ?_, fun hi => ⟨ws', t1, ?_⟩⟩
  · obtain ⟨c, ec, rfl⟩ := ens_at ed
    obtain ⟨v, ev, rv⟩ := g1.get ec
    refine ⟨⟨ws', v, t1, ev⟩, fun xx H' hy => ?_⟩
    obtain ⟨T, x', rfl, hT, rfl, h1⟩ := hy
    have z1 := h1 ws' t1
    rw [ev] at z1; cases z1
    exact ⟨same_upd hT, pair_rv hT (by simp [RV]) rv⟩
  · have l1 := RVs.length g1
    simp [ens] at hi
    omega
end
/-! ### index -/
section
variable {G : Wo}
def ixS (ys : List Str) (z : Str) : Option Nat := ys.findIdx? fun y => decide (y = z)
theorem ixS_ok {ys : List Str} {z : Str} {j : Nat} (h : ixS ys z = some j) : ys[j]? = some z ∧ ∀ m, m < j → ys[m]? ≠ some z := by
  unfold ixS at h
  rw [List.findIdx?_eq_some_iff_getElem] at h
  obtain ⟨hl, h1, h2⟩ := h
  simp only [decide_eq_true_eq] at h1 h2
  refine ⟨by rw [List.getElem?_eq_getElem hl, h1], fun m hm e => ?_⟩
  rw [List.getElem?_eq_getElem (by omega)] at e
  exact h2 m hm (Option.some.inj e)
def fTIx (x : D) (xs : List D) (h : M) : Res D := match xs with
  | [.str z] => match tupOf x with
    | some ds => match strsD ds with
      | some ys => match ixS ys z with | some j => .ok (.int (j : Nat)) h | none => .stuck
      | none => .stuck
    | none => .stuck
  | _ => .stuck
theorem ab_tix : AbM G (fun x xs H Q => ∃ p, ∃ ys : List Str, ∃ z j, x = .ref p ∧ xs = [.str z] ∧ SqT G.K H p (ys.map V.str) ∧ ys[j]? = some z ∧ (∀ m, m < j → ys[m]? ≠ some z) ∧ Q (.int (j : Nat)) H) fTIx := by
  intro E ι H h x xs v vs Q rel rx rxs po
  unfold fTIx at po
  split at po
  case h_2 => exact po.elim
  rename_i z
  obtain ⟨w, rfl, rw'⟩ := rxs.eq1
  simp only [RV] at rw'
  subst rw'
  split at po
  case h_2 => exact po.elim
  rename_i ds e1
  split at po
  case h_2 => exact po.elim
  rename_i ys e2
  split at po
  case h_2 => exact po.elim
  rename_i j e3
  obtain ⟨pa, ws, rfl, s, r⟩ := tupOf_sq rx e1
  have := strsD_ok e2 r
  subst this
  obtain ⟨h1, h2⟩ := ixS_ok e3
  exact ⟨pa, ys, z, j, rfl, rfl, s, h1, h2, po_ok rel (by simp [RV]) po⟩
def fLIx (x : D) (xs : List D) (h : M) : Res D := match xs with
  | [.str z] => match lstOf h x with
    | some ds => match strsD ds with
      | some ys => match ixS ys z with | some j => .ok (.int (j : Nat)) h | none => .stuck
      | none => .stuck
    | none => .stuck
  | _ => .stuck
theorem ab_lix : AbM G (rIndex G.K) fLIx := by
  intro E ι H h x xs v vs Q rel rx rxs po
  unfold fLIx at po
  split at po
  case h_2 => exact po.elim
  rename_i z
  obtain ⟨w, rfl, rw'⟩ := rxs.eq1
  simp only [RV] at rw'
  subst rw'
  split at po
  case h_2 => exact po.elim
  rename_i ds e1
  split at po
  case h_2 => exact po.elim
  rename_i ys e2
  split at po
  case h_2 => exact po.elim
  rename_i j e3
  obtain ⟨pa, ws, rfl, s, r⟩ := lstOf_sq rel rx e1
  have := strsD_ok e2 r
  subst this
  obtain ⟨h1, h2⟩ := ixS_ok e3
  refine ⟨pa, ys.map V.str, .str z, j, .str z, rfl, rfl, s, rfl, flat_strs ys, by rw [List.getElem?_map, h1]; rfl, by simp [eqV], fun m z' hm e => ?_, po_ok rel (by simp [RV]) po⟩
  rw [List.getElem?_map, Option.map_eq_some_iff] at e
  obtain ⟨y, ey, rfl⟩ := e
  have hne : y ≠ z := fun q => h2 m hm (by rw [ey, q])
  simp [eqV, hne]
end
section
variable {X : Cx} {W : WX} {ex : Ex} {e : Expr} {mas : MA} {pos p apos cpos : Pos} {x : Str}
theorem fe_kindex {xs : List D} (T : GCT X.K X.mg x xs) (ha : FA X W ex [e] mas) (hg : Gl X x := by rfl) (hd : (x == ("__debug__" : Str)) = false := by decide)
    (hbase : attributeBase (.Name x p) "index" X.env (eval (.Name x p) X.env) = eval (.Name x p) X.env := by rfl)
    (hfew : ((backTo cpos (starEach [e] X.env)).all (fun x => !x.1) && (backToKw cpos (keywordEach [] X.env)).all (fun x => x.1.isSome)
      && decide ([e].length + ([] : List Keyword).length + (if ([] : List Keyword).isEmpty then 0 else 1) < 30)) = true := by rfl)
    (hline : (apos.endLine == cpos.line) = true := by rfl) (hs : starEach [e] X.env = (false, eval e X.env) :: starEach [] X.env := by rfl) (hplain : (backTo cpos (starEach [] X.env)).any (·.1) = false := by rfl) :
    FE X W ex (.Call (.Attribute (.Name x p) "index" apos) [e] [] cpos) (mL (fTIx (.ct xs)) mas) := by
  obtain ⟨pa, hm, ⟨o, ho, hc, hdn⟩, r⟩ := T.ex
  refine PE.imp (pe_bm PySem.F.plainAttrs_tuple PySem.F.slot_tuple_index PySem.F.type_tuple_index mt_tup_index (pe_glob hg hm (v := .ref pa) rfl hd) ha hbase hfew hline hs hplain) fun σ H Q q => ?_
  obtain ⟨ι, h, env, rel, re, po⟩ := q
  refine ⟨.inr (.inl ⟨rfl, o, ho, hc, hdn⟩), ι, h, env, rel, re, post_bind po fun ds h1 ι1 H1 vs eq p k rel1 rv po1 => ?_⟩
  exact ab_tix _ _ _ _ (.ct xs) _ _ _ _ rel1 (r _ _) rv po1
end
end LF
set_option Elab.async false
set_option linter.all false
set_option maxRecDepth 100000
set_option maxHeartbeats 4000000
namespace K23
open PySem PySem.Spec L2 LF
open PyProof.Rows hiding St
/-! ### the text by places -/
def top (i : Nat) : Stmt := PySem.Challenge.pw_landfall_k23_pack_units.main.body.getD i (.Pass ⟨0, 0, 0, 0⟩)
abbrev s_law_kinds_u : Stmt := top 41
abbrev s_law_name_word_u : Stmt := top 44
abbrev s_law_record_u : Stmt := top 45
abbrev s_law_blocks_u : Stmt := top 48
abbrev s_law_pot_u : Stmt := top 36
abbrev s_law_same_u : Stmt := top 49
abbrev s_law_take_u : Stmt := top 37
abbrev s_law_name_u : Stmt := top 39
abbrev s_law_number_u : Stmt := top 38
abbrev s_law_path_u : Stmt := top 40
abbrev s_law_rest_u : Stmt := top 43
abbrev s_law_call_u : Stmt := top 42
abbrev s_law_fitted_u : Stmt := top 46
abbrev s_law_units_u : Stmt := top 47
abbrev s_is_name : Stmt := top 11
abbrev s_name_word : Stmt := top 12
abbrev s_item_words_u : Stmt := top 28
abbrev s_is_word : Stmt := top 10
abbrev s_are_cells_u : Stmt := top 24
abbrev s_is_path : Stmt := top 13
abbrev s_fits_u : Stmt := top 25
abbrev s_is_call_u : Stmt := top 26
abbrev s_check_call : Stmt := top 27
abbrev s_is_changing : Stmt := top 23
abbrev s_call_record : Stmt := top 29
abbrev s_unit_records_u : Stmt := top 32
abbrev s_pack_units : Stmt := top 33
abbrev s_packed_count : Stmt := top 34
abbrev s_law : Stmt := top 50
theorem sc_law_kinds_u : FnScope [] [] (defScope s_law_kinds_u) := ⟨rfl, rfl, rfl, by decide +kernel, rfl, by decide +kernel, by decide +kernel⟩
theorem sc_law_name_word_u : FnScope ["name", "signs", "word", "k"] ["name"] (defScope s_law_name_word_u) := ⟨rfl, rfl, rfl, by decide +kernel, rfl, by decide +kernel, by decide +kernel⟩
theorem sc_law_record_u : FnScope ["call", "is_last", "words", "k", "item", "one"] ["call", "is_last"] (defScope s_law_record_u) := ⟨rfl, rfl, rfl, by decide +kernel, rfl, by decide +kernel, by decide +kernel⟩
theorem sc_law_blocks_u : FnScope ["units", "packed", "unit", "k", "record"] ["units"] (defScope s_law_blocks_u) := ⟨rfl, rfl, rfl, by decide +kernel, rfl, by decide +kernel, by decide +kernel⟩
theorem sc_law_pot_u : FnScope ["script", "k", "cell", "digits"] ["script", "k"] (defScope s_law_pot_u) := ⟨rfl, rfl, rfl, by decide +kernel, rfl, by decide +kernel, by decide +kernel⟩
theorem sc_law_same_u : FnScope ["told", "due", "k"] ["told", "due"] (defScope s_law_same_u) := ⟨rfl, rfl, rfl, by decide +kernel, rfl, by decide +kernel, by decide +kernel⟩
theorem sc_law_take_u : FnScope ["pot", "many", "told"] ["pot", "many"] (defScope s_law_take_u) := ⟨rfl, rfl, rfl, by decide +kernel, rfl, by decide +kernel, by decide +kernel⟩
theorem sc_law_name_u : FnScope ["pot", "signs", "number", "name", "k"] ["pot"] (defScope s_law_name_u) := ⟨rfl, rfl, rfl, by decide +kernel, rfl, by decide +kernel, by decide +kernel⟩
theorem sc_law_number_u : FnScope ["pot", "many", "way"] ["pot", "many"] (defScope s_law_number_u) := ⟨rfl, rfl, rfl, by decide +kernel, rfl, by decide +kernel, by decide +kernel⟩
theorem sc_law_path_u : FnScope ["pot", "many", "k"] ["pot", "many"] (defScope s_law_path_u) := ⟨rfl, rfl, rfl, by decide +kernel, rfl, by decide +kernel, by decide +kernel⟩
theorem sc_law_rest_u : FnScope ["pot", "kind", "cells", "name", "k"] ["pot", "kind"] (defScope s_law_rest_u) := ⟨rfl, rfl, rfl, by decide +kernel, rfl, by decide +kernel, by decide +kernel⟩
theorem sc_law_call_u : FnScope ["pot", "kind", "user", "head", "owner", "most", "path"] ["pot"] (defScope s_law_call_u) := ⟨rfl, rfl, rfl, by decide +kernel, rfl, by decide +kernel, by decide +kernel⟩
theorem sc_law_fitted_u : FnScope ["pot", "call", "words", "least", "many", "path", "cells", "k"] ["pot", "call", "words"] (defScope s_law_fitted_u) := ⟨rfl, rfl, rfl, by decide +kernel, rfl, by decide +kernel, by decide +kernel⟩
theorem sc_law_units_u : FnScope ["script", "many", "units", "filled", "is_open", "k", "pot", "aim", "call", "words"] ["script", "many"] (defScope s_law_units_u) := ⟨rfl, rfl, rfl, by decide +kernel, rfl, by decide +kernel, by decide +kernel⟩
theorem sc_is_name : FnScope ["text", "sign"] ["text"] (defScope s_is_name) := ⟨rfl, rfl, rfl, by decide +kernel, rfl, by decide +kernel, by decide +kernel⟩
theorem sc_name_word : FnScope ["name", "word", "place"] ["name"] (defScope s_name_word) := ⟨rfl, rfl, rfl, by decide +kernel, rfl, by decide +kernel, by decide +kernel⟩
theorem sc_item_words_u : FnScope ["field", "item", "name"] ["field", "item"] (defScope s_item_words_u) := ⟨rfl, rfl, rfl, by decide +kernel, rfl, by decide +kernel, by decide +kernel⟩
theorem sc_is_word : FnScope ["x"] ["x"] (defScope s_is_word) := ⟨rfl, rfl, rfl, by decide +kernel, rfl, by decide +kernel, by decide +kernel⟩
theorem sc_are_cells_u : FnScope ["cells", "cell"] ["cells"] (defScope s_are_cells_u) := ⟨rfl, rfl, rfl, by decide +kernel, rfl, by decide +kernel, by decide +kernel⟩
theorem sc_is_path : FnScope ["path", "name"] ["path"] (defScope s_is_path) := ⟨rfl, rfl, rfl, by decide +kernel, rfl, by decide +kernel, by decide +kernel⟩
theorem sc_fits_u : FnScope ["field", "item"] ["field", "item"] (defScope s_fits_u) := ⟨rfl, rfl, rfl, by decide +kernel, rfl, by decide +kernel, by decide +kernel⟩
theorem sc_is_call_u : FnScope ["call", "fields", "field", "item"] ["call"] (defScope s_is_call_u) := ⟨rfl, rfl, rfl, by decide +kernel, rfl, by decide +kernel, by decide +kernel⟩
theorem sc_check_call : FnScope ["call"] ["call"] (defScope s_check_call) := ⟨rfl, rfl, rfl, by decide +kernel, rfl, by decide +kernel, by decide +kernel⟩
theorem sc_is_changing : FnScope ["call"] ["call"] (defScope s_is_changing) := ⟨rfl, rfl, rfl, by decide +kernel, rfl, by decide +kernel, by decide +kernel⟩
theorem sc_call_record : FnScope ["call", "is_last", "code", "words", "field", "item"] ["call", "is_last"] (defScope s_call_record) := ⟨rfl, rfl, rfl, by decide +kernel, rfl, by decide +kernel, by decide +kernel⟩
theorem sc_unit_records_u : FnScope ["unit", "last", "at", "call"] ["unit"] (defScope s_unit_records_u) := ⟨rfl, rfl, rfl, by decide +kernel, rfl, by decide +kernel, by decide +kernel⟩
theorem sc_pack_units : FnScope ["units", "blocks", "unit", "record"] ["units"] (defScope s_pack_units) := ⟨rfl, rfl, rfl, by decide +kernel, rfl, by decide +kernel, by decide +kernel⟩
theorem sc_packed_count : FnScope ["units"] ["units"] (defScope s_packed_count) := ⟨rfl, rfl, rfl, by decide +kernel, rfl, by decide +kernel, by decide +kernel⟩
theorem sc_law : FnScope ["script", "pot", "way", "many", "units", "handed", "due", "told", "count", "unit"] ["script"] (defScope s_law) := ⟨rfl, rfl, rfl, by decide +kernel, rfl, by decide +kernel, by decide +kernel⟩
/-! ### what the top has written -/
abbrev i_BadCall : Stmt := stAt (clsBody (top 3)) 0
abbrev i_BadName : Stmt := stAt (clsBody (top 2)) 0
def xTk : List ((Str × Str) × Bool) := []
def xTt : List ((Str × String) × Bool) := []
def xFt : List (Str × Str) := []
def xNm : List Str := []
def kd_FIELDS_u : List (Str × D) := [("create", (.ct [(.str "path")])), ("folder", (.ct [(.str "path")])), ("link", (.ct [(.str "path"), (.str "path")])), ("rename", (.ct [(.str "path"), (.str "path")])), ("remove", (.ct [(.str "path")])), ("rmdir", (.ct [(.str "path")])), ("write", (.ct [(.str "path"), (.str "at"), (.str "cells")])), ("resize", (.ct [(.str "path"), (.str "size")])), ("mark", (.ct [(.str "path"), (.str "name"), (.str "word")])), ("unmark", (.ct [(.str "path"), (.str "name")])), ("rights", (.ct [(.str "path"), (.str "mode")])), ("give", (.ct [(.str "path"), (.str "owner")])), ("limit", (.ct [(.str "owner"), (.str "most")])), ("snapshot", (.ct [(.str "name")])), ("clone", (.ct [(.str "name")])), ("drop", (.ct [])), ("read", (.ct [(.str "path"), (.str "at"), (.str "count")])), ("look", (.ct [(.str "path")])), ("names", (.ct [(.str "path")])), ("marks", (.ct [(.str "path")])), ("charge", (.ct [(.str "owner")]))]
def kd_LARGEST_u : List (Str × D) := [("at", (.int 1000000)), ("size", (.int 1000000)), ("mode", (.int 63)), ("owner", (.int 999)), ("count", (.int 64))]
structure Top (P : Program) (w : World) (K : PySem.W.Frag) (mg : Str → Option Value) : Prop where
  f_law_kinds_u : FnAt K mg "_law_kinds" "_law_kinds" s_law_kinds_u []
  f_law_name_word_u : FnAt K mg "_law_name_word" "_law_name_word" s_law_name_word_u ["name"]
  f_law_record_u : FnAt K mg "_law_record" "_law_record" s_law_record_u ["call", "is_last"]
  f_law_blocks_u : FnAt K mg "_law_blocks" "_law_blocks" s_law_blocks_u ["units"]
  f_law_pot_u : FnAt K mg "_law_pot" "_law_pot" s_law_pot_u ["script", "k"]
  f_law_same_u : FnAt K mg "_law_same" "_law_same" s_law_same_u ["told", "due"]
  f_law_take_u : FnAt K mg "_law_take" "_law_take" s_law_take_u ["pot", "many"]
  f_law_name_u : FnAt K mg "_law_name" "_law_name" s_law_name_u ["pot"]
  f_law_number_u : FnAt K mg "_law_number" "_law_number" s_law_number_u ["pot", "many"]
  f_law_path_u : FnAt K mg "_law_path" "_law_path" s_law_path_u ["pot", "many"]
  f_law_rest_u : FnAt K mg "_law_rest" "_law_rest" s_law_rest_u ["pot", "kind"]
  f_law_call_u : FnAt K mg "_law_call" "_law_call" s_law_call_u ["pot"]
  f_law_fitted_u : FnAt K mg "_law_fitted" "_law_fitted" s_law_fitted_u ["pot", "call", "words"]
  f_law_units_u : FnAt K mg "_law_units" "_law_units" s_law_units_u ["script", "many"]
  f_is_name : FnAt K mg "is_name" "is_name" s_is_name ["text"]
  f_name_word : FnAt K mg "name_word" "name_word" s_name_word ["name"]
  f_item_words_u : FnAt K mg "_item_words" "_item_words" s_item_words_u ["field", "item"]
  f_is_word : FnAt K mg "is_word" "is_word" s_is_word ["x"]
  f_are_cells_u : FnAt K mg "_are_cells" "_are_cells" s_are_cells_u ["cells"]
  f_is_path : FnAt K mg "is_path" "is_path" s_is_path ["path"]
  f_fits_u : FnAt K mg "_fits" "_fits" s_fits_u ["field", "item"]
  f_is_call_u : FnAt K mg "_is_call" "_is_call" s_is_call_u ["call"]
  f_check_call : FnAt K mg "check_call" "check_call" s_check_call ["call"]
  f_is_changing : FnAt K mg "is_changing" "is_changing" s_is_changing ["call"]
  f_call_record : FnAt K mg "call_record" "call_record" s_call_record ["call", "is_last"]
  f_unit_records_u : FnAt K mg "_unit_records" "_unit_records" s_unit_records_u ["unit"]
  f_pack_units : FnAt K mg "pack_units" "pack_units" s_pack_units ["units"]
  f_packed_count : FnAt K mg "packed_count" "packed_count" s_packed_count ["units"]
  f_law : FnAt K mg "law" "law" s_law ["script"]
  z_list : mg "list" = none
  z_len : mg "len" = none
  z_range : mg "range" = none
  z_int : mg "int" = none
  z_str : mg "str" = none
  z_isinstance : mg "isinstance" = none
  z_tuple : mg "tuple" = none
  z_bool : mg "bool" = none
  z_min : mg "min" = none
  z_max : mg "max" = none
  z_enumerate : mg "enumerate" = none
  z_zip : mg "zip" = none
  c_RECORD_WORDS_u : ∃ t, mg "_RECORD_WORDS" = some (.int 29 t)
  c_FIRST_ITEMS_u : ∃ t, mg "_FIRST_ITEMS" = some (.int 3 t)
  c_NAME_LENGTH_u : ∃ t, mg "_NAME_LENGTH" = some (.int 11 t)
  c_BASE_u : ∃ t, mg "_BASE" = some (.int 38 t)
  c_SIGNS_u : ∃ t, mg "_SIGNS" = some (.str "0123456789_abcdefghijklmnopqrstuvwxyz" t)
  c_LARGEST_USER_u : ∃ t, mg "_LARGEST_USER" = some (.int 999 t)
  c_LARGEST_SIZE_u : ∃ t, mg "_LARGEST_SIZE" = some (.int 1000000 t)
  c_LARGEST_LIMIT_u : ∃ t, mg "_LARGEST_LIMIT" = some (.int 1000000 t)
  c_MOST_CELLS_u : ∃ t, mg "_MOST_CELLS" = some (.int 16 t)
  c_PRIME : ∃ t, mg "PRIME" = some (.int 2305843009213693951 t)
  c_PATH_LENGTH_u : ∃ t, mg "_PATH_LENGTH" = some (.int 6 t)
  k_BadCall : ∃ C : Addr, mg "BadCall" = some (.ref C)
  k_BadName : ∃ C : Addr, mg "BadName" = some (.ref C)
  g_CHANGING : GCT K mg "CHANGING" [(.str "create"), (.str "folder"), (.str "link"), (.str "rename"), (.str "remove"), (.str "rmdir"), (.str "write"), (.str "resize"), (.str "mark"), (.str "unmark"), (.str "rights"), (.str "give"), (.str "limit"), (.str "snapshot"), (.str "clone"), (.str "drop")]
  d_FIELDS_u : CDT K mg w "_FIELDS" kd_FIELDS_u
  d_LARGEST_u : CDT K mg w "_LARGEST" kd_LARGEST_u
  x_BadCall : ∀ (w : World) (base : Heap), ExcOk P w K mg base "BadCall" 1 ["call"]
  x_BadName : ∀ (w : World) (base : Heap), ExcOk P w K mg base "BadName" 1 ["name"]
  x_nm : ETab K mg xNm
  x_tk : XTab K mg xTk
  x_tt : TTab K mg xTt
  x_ft : FTab K mg xFt
/-! ### the plain functions -/
noncomputable def b_law_kinds_u : MS := (mRet (mL fLst (mCons (mC (.str "create")) (mCons (mC (.str "folder")) (mCons (mC (.str "link")) (mCons (mC (.str "rename")) (mCons (mC (.str "remove")) (mCons (mC (.str "rmdir")) (mCons (mC (.str "write")) (mCons (mC (.str "resize")) (mCons (mC (.str "mark")) (mCons (mC (.str "unmark")) (mCons (mC (.str "rights")) (mCons (mC (.str "give")) (mCons (mC (.str "limit")) (mCons (mC (.str "snapshot")) (mCons (mC (.str "clone")) (mCons (mC (.str "drop")) mNil))))))))))))))))))
@[irreducible] noncomputable def m_law_kinds_u : List D → M → Res D := mFn 0 0 b_law_kinds_u
noncomputable def b_law_name_word_u : MS := (mSeq (mSet 1 (mC (.str "0123456789_abcdefghijklmnopqrstuvwxyz")))
  (mSeq (mSet 2 (mC (.int 0)))
  (mSeq (mFor (mRng (mCons (mC (.int 11)) mNil)) (gN 3)
  (mSeq (mSet 2 (m2 fMulX (mVar 2) (mC (.int 38))))
  (mIfS (mTest (m2 fSLt (mVar 3) (mL fLen (mCons (mVar 0) mNil))))
  (mSet 2 (m2 fAdd (m2 fAdd (mVar 2) (mBM "str" fSIndex (mVar 1) (mCons (m2 fIx (mVar 0) (mVar 3)) mNil))) (mC (.int 1))))
  mSkip)))
  (mRet (mVar 2)))))
@[irreducible] noncomputable def m_law_name_word_u : List D → M → Res D := mFn 4 1 b_law_name_word_u
noncomputable def b_law_record_u : MS := (mSeq (mSet 2 (mL fLst (mCons (m2 fAdd (m2 fMulX (mC (.int 2)) (m2 fAdd (mBM "list" fLIx (mL m_law_kinds_u mNil) (mCons (m2 fIx (mVar 0) (mC (.int 0))) mNil)) (mC (.int 1)))) (mL fInt (mCons (mVar 1) mNil))) (mCons (m2 fIx (mVar 0) (mC (.int 1))) (mCons (mL (mFix 1 m_law_name_word_u) (mCons (m2 fIx (mVar 0) (mC (.int 2))) mNil)) mNil)))))
  (mSeq (mFor (mRng (mCons (mC (.int 3)) (mCons (mL fLen (mCons (mVar 0) mNil)) mNil))) (gN 3)
  (mSeq (mSet 4 (m2 fIx (mVar 0) (mVar 3)))
  (mIfS (mTest (m1 fIsN (mVar 4)))
  (mDo (mBM "list" fAppend (mVar 2) (mCons (mC (.int 0)) mNil)))
  (mIfS (mTru (mL fIsI (mCons (mVar 4) (mCons (mC (.ty "str")) mNil))))
  (mDo (mBM "list" fAppend (mVar 2) (mCons (mL (mFix 1 m_law_name_word_u) (mCons (mVar 4) mNil)) mNil)))
  (mIfS (mNotT (mTru (mL fIsI (mCons (mVar 4) (mCons (mC (.ty "tuple")) mNil)))))
  (mDo (mBM "list" fAppend (mVar 2) (mCons (m2 fAdd (mVar 4) (mL fInt (mCons (mAndV (m2 fEq (m2 fIx (mVar 0) (mC (.int 0))) (mC (.str "limit"))) (m2 fEq (mVar 3) (mC (.int 4)))) mNil))) mNil)))
  (mSeq (mDo (mBM "list" fAppend (mVar 2) (mCons (mL fLen (mCons (mVar 4) mNil)) mNil)))
  (mFor (mIter (mVar 4)) (gN 5)
  (mIfS (mTru (mL fIsI (mCons (mVar 5) (mCons (mC (.ty "str")) mNil))))
  (mDo (mBM "list" fAppend (mVar 2) (mCons (mL (mFix 1 m_law_name_word_u) (mCons (mVar 5) mNil)) mNil)))
  (mDo (mBM "list" fAppend (mVar 2) (mCons (mVar 5) mNil)))))))))))
  (mRet (m2 fAdd (mL fLst (mCons (m2 fAdd (mL fLen (mCons (mVar 2) mNil)) (mC (.int 1))) mNil)) (mVar 2)))))
@[irreducible] noncomputable def m_law_record_u : List D → M → Res D := mFn 6 2 b_law_record_u
noncomputable def b_law_blocks_u : MS := (mSeq (mSet 1 (mL fLst mNil))
  (mSeq (mFor (mIter (mVar 0)) (gN 2)
  (mFor (mRng (mCons (mL fLen (mCons (mVar 2) mNil)) mNil)) (gN 3)
  (mSeq (mSet 4 (mL (mFix 2 m_law_record_u) (mCons (m2 fIx (mVar 2) (mVar 3)) (mCons (m2 fEq (m2 fAdd (mVar 3) (mC (.int 1))) (mL fLen (mCons (mVar 2) mNil))) mNil))))
  (mIfS (mOrT (mTest (m2 fEq (mVar 1) (mL fLst mNil))) (mTest (m2 fGt (m2 fAdd (mL fLen (mCons (m2 fIx (mVar 1) (mC (.int (-1)))) mNil)) (mL fLen (mCons (mVar 4) mNil))) (mC (.int 29)))))
  (mDo (mBM "list" fAppend (mVar 1) (mCons (mVar 4) mNil)))
  (m3 fPut (mVar 1) (mC (.int (-1))) (m2 fAdd (m2 fIx (mVar 1) (mC (.int (-1)))) (mVar 4)))))))
  (mRet (mVar 1))))
@[irreducible] noncomputable def m_law_blocks_u : List D → M → Res D := mFn 5 1 b_law_blocks_u
noncomputable def b_law_pot_u : MS := (mSeq (mSet 2 (m2 fAdd (m2 fMulX (mC (.int 5)) (mVar 1)) (mC (.int 314))))
  (mSeq (mIfS (mTest (m2 fSLt (mVar 1) (mL fLen (mCons (mVar 0) mNil))))
  (mSet 2 (m2 fIx (mVar 0) (mVar 1)))
  (mIfS (mTest (m2 fGt (mL fLen (mCons (mVar 0) mNil)) (mC (.int 0))))
  (mSet 2 (m2 fAdd (m2 fAdd (m2 fMod (mL fInt (mCons (m2 fIx (mVar 0) (mC (.int 0))) mNil)) (mC (.int 1000003))) (m2 fMulX (mC (.int 5)) (mVar 1))) (mC (.int 314))))
  mSkip))
  (mSeq (mSet 3 (mC (.int 0)))
  (mSeq (mIfS (mTest (m2 fGe (mVar 2) (mC (.int 1000000000000000000))))
  (mSet 3 (m2 fMod (mL fInt (mCons (mVar 2) mNil)) (mC (.int ((10 ^ 50) ^ 24)))))
  mSkip)
  (mRet (mL fLst (mCons (mVar 3) (mCons (m2 fAdd (m2 fAdd (m2 fMulX (m2 fMod (mL fInt (mCons (mVar 2) mNil)) (mC (.int 1000000000000000000000000))) (mC (.int 67))) (mVar 1)) (mC (.int 1))) (mCons (mC (.int 0)) mNil)))))))))
@[irreducible] noncomputable def m_law_pot_u : List D → M → Res D := mFn 4 2 b_law_pot_u
noncomputable def b_law_same_u (self : List D → M → Res D) : MS := (mSeq (mIfS (mTest (m1 fIsN (mVar 1)))
  (mRet (m1 fIsN (mVar 0)))
  mSkip)
  (mSeq (mIfS (mTru (mL fIsI (mCons (mVar 1) (mCons (mC (.ty "str")) mNil))))
  (mRet (mAndV (mL fIsI (mCons (mVar 0) (mCons (mC (.ty "str")) mNil))) (m2 fEq (mVar 0) (mVar 1))))
  mSkip)
  (mSeq (mIfS (mTru (mL fIsI (mCons (mVar 1) (mCons (mC (.ty "int")) mNil))))
  (mRet (mAndV (mL fIsI (mCons (mVar 0) (mCons (mC (.ty "int")) mNil))) (mAndV (mNotV (mL fIsI (mCons (mVar 0) (mCons (mC (.ty "bool")) mNil)))) (m2 fEq (mVar 0) (mVar 1)))))
  mSkip)
  (mSeq (mIfS (mAndT (mTru (mL fIsI (mCons (mVar 1) (mCons (mC (.ty "list")) mNil)))) (mNotT (mTru (mL fIsI (mCons (mVar 0) (mCons (mC (.ty "list")) mNil))))))
  (mRet (mC (.bl false)))
  mSkip)
  (mSeq (mIfS (mAndT (mTru (mL fIsI (mCons (mVar 1) (mCons (mC (.ty "tuple")) mNil)))) (mNotT (mTru (mL fIsI (mCons (mVar 0) (mCons (mC (.ty "tuple")) mNil))))))
  (mRet (mC (.bl false)))
  mSkip)
  (mSeq (mIfS (mTest (m2 fNe (mL fLen (mCons (mVar 0) mNil)) (mL fLen (mCons (mVar 1) mNil))))
  (mRet (mC (.bl false)))
  mSkip)
  (mSeq (mFor (mRng (mCons (mL fLen (mCons (mVar 1) mNil)) mNil)) (gN 2)
  (mIfS (mNotT (mTru (mL (mFix 2 self) (mCons (m2 fIx (mVar 0) (mVar 2)) (mCons (m2 fIx (mVar 1) (mVar 2)) mNil)))))
  (mRet (mC (.bl false)))
  mSkip))
  (mRet (mC (.bl true))))))))))
noncomputable def m0_law_same_u : Nat → List D → M → Res D
  | 0 => fun _ _ => .stuck
  | n + 1 => mFn 3 2 (b_law_same_u (m0_law_same_u n))
@[irreducible] noncomputable def m_law_same_u (n : Nat) : List D → M → Res D := m0_law_same_u n
noncomputable def b_law_take_u : MS := (mSeq (mIfS (mTest (m2 fGt (m2 fIx (mVar 0) (mC (.int 0))) (mC (.int 0))))
  (mSeq (mSet 2 (m2 fMod (mL fInt (mCons (m2 fIx (mVar 0) (mC (.int 0))) mNil)) (mVar 1)))
  (mSeq (m3 fPut (mVar 0) (mC (.int 0)) (m2 fDiv (m2 fIx (mVar 0) (mC (.int 0))) (mVar 1)))
  (mRet (mVar 2))))
  mSkip)
  (mSeq (m3 fPut (mVar 0) (mC (.int 2)) (m2 fAdd (m2 fIx (mVar 0) (mC (.int 2))) (mC (.int 1))))
  (mSeq (m3 fPut (mVar 0) (mC (.int 1)) (m2 fMod (mL fInt (mCons (m2 fAdd (m2 fAdd (m2 fMulX (m2 fIx (mVar 0) (mC (.int 1))) (mC (.int 48271))) (m2 fMulX (m2 fIx (mVar 0) (mC (.int 2))) (mC (.int 69621)))) (mC (.int 11))) mNil)) (mC (.int 2147483647))))
  (mRet (m2 fMod (mL fInt (mCons (m2 fDiv (m2 fMulX (m2 fMulX (m2 fIx (mVar 0) (mC (.int 1))) (m2 fIx (mVar 0) (mC (.int 1)))) (m2 fAdd (m2 fDiv (m2 fIx (mVar 0) (mC (.int 1))) (mC (.int 1024))) (mC (.int 5)))) (mC (.int 65536))) mNil)) (mVar 1))))))
@[irreducible] noncomputable def m_law_take_u : List D → M → Res D := mFn 3 2 b_law_take_u
noncomputable def b_law_name_u : MS := (mSeq (mSet 1 (mC (.str "0123456789_abcdefghijklmnopqrstuvwxyz")))
  (mSeq (mSet 2 (mL (mFix 2 m_law_take_u) (mCons (mVar 0) (mCons (mC (.int 177917621779460413)) mNil))))
  (mSeq (mSet 3 (mC (.str "")))
  (mSeq (mFor (mRng (mCons (m2 fAdd (mC (.int 1)) (mL (mFix 2 m_law_take_u) (mCons (mVar 0) (mCons (mC (.int 11)) mNil)))) mNil)) (gN 4)
  (mSeq (mSet 3 (m2 fAdd (mVar 3) (m2 fIx (mVar 1) (m2 fMod (mL fInt (mCons (mVar 2) mNil)) (mC (.int 37))))))
  (mSet 2 (m2 fDiv (mVar 2) (mC (.int 37))))))
  (mRet (mVar 3))))))
@[irreducible] noncomputable def m_law_name_u : List D → M → Res D := mFn 5 1 b_law_name_u
noncomputable def b_law_number_u : MS := (mSeq (mSet 2 (mL (mFix 2 m_law_take_u) (mCons (mVar 0) (mCons (mC (.int 4)) mNil))))
  (mSeq (mIfS (mTest (m2 fEq (mVar 2) (mC (.int 0))))
  (mRet (mL fMin (mCons (m2 fSub (mVar 1) (mC (.int 1))) (mCons (mL (mFix 2 m_law_take_u) (mCons (mVar 0) (mCons (mC (.int 3)) mNil))) mNil))))
  mSkip)
  (mSeq (mIfS (mTest (m2 fEq (mVar 2) (mC (.int 1))))
  (mRet (mL fMax (mCons (mC (.int 0)) (mCons (m2 fSub (m2 fSub (mVar 1) (mC (.int 1))) (mL (mFix 2 m_law_take_u) (mCons (mVar 0) (mCons (mC (.int 3)) mNil)))) mNil))))
  mSkip)
  (mRet (mL (mFix 2 m_law_take_u) (mCons (mVar 0) (mCons (mVar 1) mNil)))))))
@[irreducible] noncomputable def m_law_number_u : List D → M → Res D := mFn 3 2 b_law_number_u
noncomputable def b_law_path_u : MS := (mRet (mL fTuple (mCons (mLcN [2] (mRng (mCons (mVar 1) mNil)) (gN 2) mYes (mL (mFix 1 m_law_name_u) (mCons (mVar 0) mNil))) mNil)))
@[irreducible] noncomputable def m_law_path_u : List D → M → Res D := mFn 3 2 b_law_path_u
noncomputable def b_law_rest_u : MS := (mSeq (mIfS (mOrT (mTest (m2 fEq (mVar 1) (mC (.str "link")))) (mTest (m2 fEq (mVar 1) (mC (.str "rename")))))
  (mRet (mL fTup (mCons (mL (mFix 2 m_law_path_u) (mCons (mVar 0) (mCons (mL (mFix 2 m_law_take_u) (mCons (mVar 0) (mCons (mC (.int 7)) mNil))) mNil))) mNil)))
  mSkip)
  (mSeq (mIfS (mTest (m2 fEq (mVar 1) (mC (.str "write"))))
  (mSeq (mSet 2 (mL fTuple (mCons (mLcN [4] (mRng (mCons (m2 fAdd (mC (.int 1)) (mL (mFix 2 m_law_take_u) (mCons (mVar 0) (mCons (mC (.int 16)) mNil)))) mNil)) (gN 4) mYes (mL (mFix 2 m_law_number_u) (mCons (mVar 0) (mCons (mC (.int 2305843009213693951)) mNil)))) mNil)))
  (mRet (mL fTup (mCons (mL (mFix 2 m_law_number_u) (mCons (mVar 0) (mCons (m2 fSub (mC (.int 1000001)) (mL fLen (mCons (mVar 2) mNil))) mNil))) (mCons (mVar 2) mNil)))))
  mSkip)
  (mSeq (mIfS (mTest (m2 fEq (mVar 1) (mC (.str "resize"))))
  (mRet (mL fTup (mCons (mL (mFix 2 m_law_number_u) (mCons (mVar 0) (mCons (mC (.int 1000001)) mNil))) mNil)))
  mSkip)
  (mSeq (mIfS (mTest (m2 fEq (mVar 1) (mC (.str "mark"))))
  (mSeq (mSet 3 (mL (mFix 1 m_law_name_u) (mCons (mVar 0) mNil)))
  (mRet (mL fTup (mCons (mVar 3) (mCons (mL (mFix 2 m_law_number_u) (mCons (mVar 0) (mCons (mC (.int 2305843009213693951)) mNil))) mNil)))))
  mSkip)
  (mSeq (mIfS (mTest (m2 fEq (mVar 1) (mC (.str "unmark"))))
  (mRet (mL fTup (mCons (mL (mFix 1 m_law_name_u) (mCons (mVar 0) mNil)) mNil)))
  mSkip)
  (mSeq (mIfS (mTest (m2 fEq (mVar 1) (mC (.str "rights"))))
  (mRet (mL fTup (mCons (mL (mFix 2 m_law_number_u) (mCons (mVar 0) (mCons (mC (.int 64)) mNil))) mNil)))
  mSkip)
  (mSeq (mIfS (mTest (m2 fEq (mVar 1) (mC (.str "give"))))
  (mRet (mL fTup (mCons (mL (mFix 2 m_law_number_u) (mCons (mVar 0) (mCons (mC (.int 1000)) mNil))) mNil)))
  mSkip)
  (mRet (mL fTup mNil)))))))))
@[irreducible] noncomputable def m_law_rest_u : List D → M → Res D := mFn 5 2 b_law_rest_u
noncomputable def b_law_call_u : MS := (mSeq (mSet 1 (m2 fIx (mL m_law_kinds_u mNil) (mL (mFix 2 m_law_take_u) (mCons (mVar 0) (mCons (mC (.int 16)) mNil)))))
  (mSeq (mSet 2 (mL (mFix 2 m_law_number_u) (mCons (mVar 0) (mCons (mC (.int 1000)) mNil))))
  (mSeq (mSet 3 (mL fTup (mCons (mVar 1) (mCons (mVar 2) (mCons (mL (mFix 1 m_law_name_u) (mCons (mVar 0) mNil)) mNil)))))
  (mSeq (mIfS (mTest (m2 fEq (mVar 1) (mC (.str "drop"))))
  (mRet (mVar 3))
  mSkip)
  (mSeq (mIfS (mOrT (mTest (m2 fEq (mVar 1) (mC (.str "snapshot")))) (mTest (m2 fEq (mVar 1) (mC (.str "clone")))))
  (mRet (m2 fAdd (mVar 3) (mL fTup (mCons (mL (mFix 1 m_law_name_u) (mCons (mVar 0) mNil)) mNil))))
  mSkip)
  (mSeq (mIfS (mTest (m2 fEq (mVar 1) (mC (.str "limit"))))
  (mSeq (mSet 4 (mL (mFix 2 m_law_number_u) (mCons (mVar 0) (mCons (mC (.int 1000)) mNil))))
  (mSeq (mSet 5 (mL (mFix 2 m_law_number_u) (mCons (mVar 0) (mCons (mC (.int 1000002)) mNil))))
  (mSeq (mIfS (mTest (m2 fEq (mVar 5) (mC (.int 0))))
  (mRet (m2 fAdd (mVar 3) (mL fTup (mCons (mVar 4) (mCons (mC .non) mNil)))))
  mSkip)
  (mRet (m2 fAdd (mVar 3) (mL fTup (mCons (mVar 4) (mCons (m2 fSub (mVar 5) (mC (.int 1))) mNil))))))))
  mSkip)
  (mSeq (mSet 6 (mL (mFix 2 m_law_path_u) (mCons (mVar 0) (mCons (mL (mFix 2 m_law_take_u) (mCons (mVar 0) (mCons (mC (.int 7)) mNil))) mNil))))
  (mRet (m2 fAdd (m2 fAdd (mVar 3) (mL fTup (mCons (mVar 6) mNil))) (mL (mFix 2 m_law_rest_u) (mCons (mVar 0) (mCons (mVar 1) mNil))))))))))))
@[irreducible] noncomputable def m_law_call_u : List D → M → Res D := mFn 7 1 b_law_call_u
noncomputable def b_law_fitted_u : MS := (mSeq (mIfS (mTest (m2 fEq (mVar 2) (mC (.int 4))))
  (mRet (mL fTup (mCons (mC (.str "drop")) (mCons (m2 fIx (mVar 1) (mC (.int 1))) (mCons (m2 fIx (mVar 1) (mC (.int 2))) mNil)))))
  mSkip)
  (mSeq (mIfS (mTest (mChain (fI (fun _ _ => True) fun i j => .bl ((fun i j => decide (i ≤ j)) i j)) (fI (fun _ _ => True) fun i j => .bl ((fun i j => decide (i ≤ j)) i j)) (mC (.int 5)) (mVar 2) (mC (.int 7))))
  (mRet (mL fTup (mCons (mC (.str "rmdir")) (mCons (m2 fIx (mVar 1) (mC (.int 1))) (mCons (m2 fIx (mVar 1) (mC (.int 2))) (mCons (mL (mFix 2 m_law_path_u) (mCons (mVar 0) (mCons (m2 fSub (mVar 2) (mC (.int 5))) mNil))) mNil))))))
  mSkip)
  (mSeq (mIfS (mOrT (mTest (m2 fSLt (mVar 2) (mC (.int 8)))) (mTest (m2 fGt (mVar 2) (mC (.int 29)))))
  (mRet (mVar 1))
  mSkip)
  (mSeq (mSet 3 (mL fMax (mCons (mC (.int 0)) (mCons (m2 fSub (mVar 2) (mC (.int 23))) mNil))))
  (mSeq (mSet 4 (m2 fAdd (mVar 3) (mL (mFix 2 m_law_take_u) (mCons (mVar 0) (mCons (m2 fAdd (m2 fSub (mL fMin (mCons (mC (.int 6)) (mCons (m2 fSub (mVar 2) (mC (.int 8))) mNil))) (mVar 3)) (mC (.int 1))) mNil)))))
  (mSeq (mSet 5 (mL (mFix 2 m_law_path_u) (mCons (mVar 0) (mCons (mVar 4) mNil))))
  (mSeq (mSet 6 (mL fTuple (mCons (mLcN [7] (mRng (mCons (m2 fSub (m2 fSub (mVar 2) (mC (.int 7))) (mVar 4)) mNil)) (gN 7) mYes (mL (mFix 2 m_law_number_u) (mCons (mVar 0) (mCons (mC (.int 2305843009213693951)) mNil)))) mNil)))
  (mRet (mL fTup (mCons (mC (.str "write")) (mCons (m2 fIx (mVar 1) (mC (.int 1))) (mCons (m2 fIx (mVar 1) (mC (.int 2))) (mCons (mVar 5) (mCons (mL (mFix 2 m_law_number_u) (mCons (mVar 0) (mCons (m2 fSub (mC (.int 1000001)) (mL fLen (mCons (mVar 6) mNil))) mNil))) (mCons (mVar 6) mNil)))))))))))))))
@[irreducible] noncomputable def m_law_fitted_u : List D → M → Res D := mFn 8 3 b_law_fitted_u
noncomputable def b_law_units_u : MS := (mSeq (mSet 2 (mL fLst mNil))
  (mSeq (mSet 3 (mC (.int 0)))
  (mSeq (mSet 4 (mC (.bl false)))
  (mSeq (mFor (mRng (mCons (mVar 1) mNil)) (gN 5)
  (mSeq (mSet 6 (mL (mFix 2 m_law_pot_u) (mCons (mVar 0) (mCons (m2 fAdd (mC (.int 1)) (mVar 5)) mNil))))
  (mSeq (mSet 7 (mL (mFix 2 m_law_take_u) (mCons (mVar 6) (mCons (mC (.int 4)) mNil))))
  (mSeq (mSet 8 (mL (mFix 1 m_law_call_u) (mCons (mVar 6) mNil)))
  (mSeq (mIfS (mTest (m2 fSLt (mVar 7) (mC (.int 2))))
  (mSet 8 (mL (mFix 3 m_law_fitted_u) (mCons (mVar 6) (mCons (mVar 8) (mCons (m2 fAdd (m2 fSub (mC (.int 29)) (mVar 3)) (mVar 7)) mNil)))))
  mSkip)
  (mSeq (mSet 9 (mL fLen (mCons (mL (mFix 2 m_law_record_u) (mCons (mVar 8) (mCons (mC (.bl false)) mNil))) mNil)))
  (mSeq (mIfS (mTest (m2 fGt (m2 fAdd (mVar 3) (mVar 9)) (mC (.int 29))))
  (mSet 3 (mC (.int 0)))
  mSkip)
  (mSeq (mSet 3 (m2 fAdd (mVar 3) (mVar 9)))
  (mSeq (mIfS (mTru (mVar 4))
  (m3 fPut (mVar 2) (mC (.int (-1))) (m2 fAdd (m2 fIx (mVar 2) (mC (.int (-1)))) (mL fLst (mCons (mVar 8) mNil))))
  (mDo (mBM "list" fAppend (mVar 2) (mCons (mL fLst (mCons (mVar 8) mNil)) mNil))))
  (mSet 4 (m2 fGt (mL (mFix 2 m_law_take_u) (mCons (mVar 6) (mCons (mC (.int 3)) mNil))) (mC (.int 0)))))))))))))
  (mRet (mVar 2))))))
@[irreducible] noncomputable def m_law_units_u : List D → M → Res D := mFn 10 2 b_law_units_u
noncomputable def b_is_name : MS := (mSeq (mIfS (mOrT (mTest (m2 fSLt (mL fLen (mCons (mVar 0) mNil)) (mC (.int 1)))) (mTest (m2 fGt (mL fLen (mCons (mVar 0) mNil)) (mC (.int 11)))))
  (mRet (mC (.bl false)))
  mSkip)
  (mSeq (mFor (mIter (mVar 0)) (gN 1)
  (mIfS (mTest (m2 fNotIn (mVar 1) (mC (.str "0123456789_abcdefghijklmnopqrstuvwxyz"))))
  (mRet (mC (.bl false)))
  mSkip))
  (mRet (mC (.bl true)))))
@[irreducible] noncomputable def m_is_name : List D → M → Res D := mFn 2 1 b_is_name
noncomputable def b_name_word : MS := (mSeq (mIfS (mNotT (mTru (mL (mFix 1 m_is_name) (mCons (mVar 0) mNil))))
  (mRaise "BadName" ["name"] (mCons (mVar 0) mNil))
  mSkip)
  (mSeq (mSet 1 (mC (.int 0)))
  (mSeq (mFor (mRng (mCons (mC (.int 11)) mNil)) (gN 2)
  (mSeq (mSet 1 (m2 fMulX (mVar 1) (mC (.int 38))))
  (mIfS (mTest (m2 fSLt (mVar 2) (mL fLen (mCons (mVar 0) mNil))))
  (mSet 1 (m2 fAdd (m2 fAdd (mVar 1) (mBM "str" fSIndex (mC (.str "0123456789_abcdefghijklmnopqrstuvwxyz")) (mCons (m2 fIx (mVar 0) (mVar 2)) mNil))) (mC (.int 1))))
  mSkip)))
  (mRet (mVar 1)))))
@[irreducible] noncomputable def m_name_word : List D → M → Res D := mFn 3 1 b_name_word
noncomputable def b_item_words_u : MS := (mSeq (mIfS (mTest (m2 fEq (mVar 0) (mC (.str "path"))))
  (mRet (m2 fAdd (mL fLst (mCons (mL fLen (mCons (mVar 1) mNil)) mNil)) (mLcN [2] (mIter (mVar 1)) (gN 2) mYes (mL (mFix 1 m_name_word) (mCons (mVar 2) mNil)))))
  mSkip)
  (mSeq (mIfS (mTest (m2 fEq (mVar 0) (mC (.str "cells"))))
  (mRet (m2 fAdd (mL fLst (mCons (mL fLen (mCons (mVar 1) mNil)) mNil)) (mL fList (mCons (mVar 1) mNil))))
  mSkip)
  (mSeq (mIfS (mTest (m2 fEq (mVar 0) (mC (.str "name"))))
  (mRet (mL fLst (mCons (mL (mFix 1 m_name_word) (mCons (mVar 1) mNil)) mNil)))
  mSkip)
  (mSeq (mIfS (mTest (m2 fEq (mVar 0) (mC (.str "most"))))
  (mRet (mL fLst (mCons (mIf (mTest (m1 fIsN (mVar 1))) (mC (.int 0)) (m2 fAdd (mVar 1) (mC (.int 1)))) mNil)))
  mSkip)
  (mRet (mL fLst (mCons (mVar 1) mNil)))))))
@[irreducible] noncomputable def m_item_words_u : List D → M → Res D := mFn 3 2 b_item_words_u
noncomputable def b_is_word : MS := (mRet (mAndV (mL fIsI (mCons (mVar 0) (mCons (mC (.ty "int")) mNil))) (mAndV (mNotV (mL fIsI (mCons (mVar 0) (mCons (mC (.ty "bool")) mNil)))) (mChain (fI (fun _ _ => True) fun i j => .bl ((fun i j => decide (i ≤ j)) i j)) (fI (fun _ _ => True) fun i j => .bl ((fun i j => decide (i < j)) i j)) (mC (.int 0)) (mVar 0) (mC (.int 2305843009213693951))))))
@[irreducible] noncomputable def m_is_word : List D → M → Res D := mFn 1 1 b_is_word
noncomputable def b_are_cells_u : MS := (mSeq (mIfS (mOrT (mTest (m2 fSLt (mL fLen (mCons (mVar 0) mNil)) (mC (.int 1)))) (mTest (m2 fGt (mL fLen (mCons (mVar 0) mNil)) (mC (.int 16)))))
  (mRet (mC (.bl false)))
  mSkip)
  (mSeq (mFor (mIter (mVar 0)) (gN 1)
  (mIfS (mNotT (mTru (mL (mFix 1 m_is_word) (mCons (mVar 1) mNil))))
  (mRet (mC (.bl false)))
  mSkip))
  (mRet (mC (.bl true)))))
@[irreducible] noncomputable def m_are_cells_u : List D → M → Res D := mFn 2 1 b_are_cells_u
noncomputable def b_is_path : MS := (mSeq (mIfS (mTest (m2 fGt (mL fLen (mCons (mVar 0) mNil)) (mC (.int 6))))
  (mRet (mC (.bl false)))
  mSkip)
  (mSeq (mFor (mIter (mVar 0)) (gN 1)
  (mIfS (mNotT (mTru (mL (mFix 1 m_is_name) (mCons (mVar 1) mNil))))
  (mRet (mC (.bl false)))
  mSkip))
  (mRet (mC (.bl true)))))
@[irreducible] noncomputable def m_is_path : List D → M → Res D := mFn 2 1 b_is_path
noncomputable def b_fits_u : MS := (mSeq (mIfS (mTest (m2 fEq (mVar 0) (mC (.str "path"))))
  (mRet (mL (mFix 1 m_is_path) (mCons (mVar 1) mNil)))
  mSkip)
  (mSeq (mIfS (mTest (m2 fEq (mVar 0) (mC (.str "name"))))
  (mRet (mL (mFix 1 m_is_name) (mCons (mVar 1) mNil)))
  mSkip)
  (mSeq (mIfS (mTest (m2 fEq (mVar 0) (mC (.str "word"))))
  (mRet (mL (mFix 1 m_is_word) (mCons (mVar 1) mNil)))
  mSkip)
  (mSeq (mIfS (mTest (m2 fEq (mVar 0) (mC (.str "cells"))))
  (mRet (mL (mFix 1 m_are_cells_u) (mCons (mVar 1) mNil)))
  mSkip)
  (mSeq (mIfS (mTest (m2 fEq (mVar 0) (mC (.str "most"))))
  (mRet (mOrV (m1 fIsN (mVar 1)) (mChain (fI (fun _ _ => True) fun i j => .bl ((fun i j => decide (i ≤ j)) i j)) (fI (fun _ _ => True) fun i j => .bl ((fun i j => decide (i ≤ j)) i j)) (mC (.int 0)) (mVar 1) (mC (.int 1000000)))))
  mSkip)
  (mRet (mChain (fI (fun _ _ => True) fun i j => .bl ((fun i j => decide (i ≤ j)) i j)) (fI (fun _ _ => True) fun i j => .bl ((fun i j => decide (i ≤ j)) i j)) (mC (.int 0)) (mVar 1) (m1 (fKd kd_LARGEST_u) (mVar 0)))))))))
@[irreducible] noncomputable def m_fits_u : List D → M → Res D := mFn 2 2 b_fits_u
noncomputable def b_is_call_u : MS := (mSeq (mIfS (mOrT (mTest (m2 fSLt (mL fLen (mCons (mVar 0) mNil)) (mC (.int 3)))) (mTest (m1 (fKin true kd_FIELDS_u) (m2 fIx (mVar 0) (mC (.int 0))))))
  (mRet (mC (.bl false)))
  mSkip)
  (mSeq (mSet 1 (m1 (fKd kd_FIELDS_u) (m2 fIx (mVar 0) (mC (.int 0)))))
  (mSeq (mIfS (mTest (m2 fNe (mL fLen (mCons (mVar 0) mNil)) (m2 fAdd (mC (.int 3)) (mL fLen (mCons (mVar 1) mNil)))))
  (mRet (mC (.bl false)))
  mSkip)
  (mSeq (mIfS (mOrT (mTest (m2 fSLt (m2 fIx (mVar 0) (mC (.int 1))) (mC (.int 0)))) (mOrT (mTest (m2 fGt (m2 fIx (mVar 0) (mC (.int 1))) (mC (.int 999)))) (mNotT (mTru (mL (mFix 1 m_is_name) (mCons (m2 fIx (mVar 0) (mC (.int 2))) mNil))))))
  (mRet (mC (.bl false)))
  mSkip)
  (mSeq (mFor (mZip (mCons (mVar 1) (mCons (mSl (mVar 0) (mPart (mC (.int 3))) mNoPart) mNil))) (gTp 2 (gCons' (gN 2) (gCons' (gN 3) gNil')))
  (mIfS (mNotT (mTru (mL (mFix 2 m_fits_u) (mCons (mVar 2) (mCons (mVar 3) mNil)))))
  (mRet (mC (.bl false)))
  mSkip))
  (mSeq (mIfS (mTest (m2 fEq (m2 fIx (mVar 0) (mC (.int 0))) (mC (.str "write"))))
  (mRet (m2 fLe (m2 fAdd (m2 fIx (mVar 0) (mC (.int 4))) (mL fLen (mCons (m2 fIx (mVar 0) (mC (.int 5))) mNil))) (mC (.int 1000000))))
  mSkip)
  (mRet (mC (.bl true)))))))))
@[irreducible] noncomputable def m_is_call_u : List D → M → Res D := mFn 4 1 b_is_call_u
noncomputable def b_check_call : MS := (mIfS (mNotT (mTru (mL (mFix 1 m_is_call_u) (mCons (mVar 0) mNil))))
  (mRaise "BadCall" ["call"] (mCons (mVar 0) mNil))
  mSkip)
@[irreducible] noncomputable def m_check_call : List D → M → Res D := mFn 1 1 b_check_call
noncomputable def b_is_changing : MS := (mRet (mAndV (m2 fGt (mL fLen (mCons (mVar 0) mNil)) (mC (.int 0))) (m2 fIn (m2 fIx (mVar 0) (mC (.int 0))) (mC (.ct [(.str "create"), (.str "folder"), (.str "link"), (.str "rename"), (.str "remove"), (.str "rmdir"), (.str "write"), (.str "resize"), (.str "mark"), (.str "unmark"), (.str "rights"), (.str "give"), (.str "limit"), (.str "snapshot"), (.str "clone"), (.str "drop")])))))
@[irreducible] noncomputable def m_is_changing : List D → M → Res D := mFn 1 1 b_is_changing
noncomputable def b_call_record : MS := (mSeq (mDo (mL (mFix 1 m_check_call) (mCons (mVar 0) mNil)))
  (mSeq (mIfS (mNotT (mTru (mL (mFix 1 m_is_changing) (mCons (mVar 0) mNil))))
  (mRaise "BadCall" ["call"] (mCons (mVar 0) mNil))
  mSkip)
  (mSeq (mSet 2 (m2 fMulX (mC (.int 2)) (m2 fAdd (mL (fTIx (.ct [(.str "create"), (.str "folder"), (.str "link"), (.str "rename"), (.str "remove"), (.str "rmdir"), (.str "write"), (.str "resize"), (.str "mark"), (.str "unmark"), (.str "rights"), (.str "give"), (.str "limit"), (.str "snapshot"), (.str "clone"), (.str "drop")])) (mCons (m2 fIx (mVar 0) (mC (.int 0))) mNil)) (mC (.int 1)))))
  (mSeq (mIfS (mTru (mVar 1))
  (mSet 2 (m2 fAdd (mVar 2) (mC (.int 1))))
  mSkip)
  (mSeq (mSet 3 (mL fLst (mCons (mVar 2) (mCons (m2 fIx (mVar 0) (mC (.int 1))) (mCons (mL (mFix 1 m_name_word) (mCons (m2 fIx (mVar 0) (mC (.int 2))) mNil)) mNil)))))
  (mSeq (mFor (mZip (mCons (m1 (fKd kd_FIELDS_u) (m2 fIx (mVar 0) (mC (.int 0)))) (mCons (mSl (mVar 0) (mPart (mC (.int 3))) mNoPart) mNil))) (gTp 2 (gCons' (gN 4) (gCons' (gN 5) gNil')))
  (mDo (mBM "list" fExtend (mVar 3) (mCons (mL (mFix 2 m_item_words_u) (mCons (mVar 4) (mCons (mVar 5) mNil))) mNil))))
  (mRet (m2 fAdd (mL fLst (mCons (m2 fAdd (mL fLen (mCons (mVar 3) mNil)) (mC (.int 1))) mNil)) (mVar 3)))))))))
@[irreducible] noncomputable def m_call_record : List D → M → Res D := mFn 6 2 b_call_record
noncomputable def b_unit_records_u : MS := (mSeq (mSet 1 (m2 fSub (mL fLen (mCons (mVar 0) mNil)) (mC (.int 1))))
  (mRet (mLcN [2, 3] (mEnum (mCons (mVar 0) mNil)) (gTp 2 (gCons' (gN 2) (gCons' (gN 3) gNil'))) mYes (mL (mFix 2 m_call_record) (mCons (mVar 3) (mCons (m2 fEq (mVar 2) (mVar 1)) mNil))))))
@[irreducible] noncomputable def m_unit_records_u : List D → M → Res D := mFn 4 1 b_unit_records_u
noncomputable def b_pack_units : MS := (mSeq (mSet 1 (mL fLst mNil))
  (mSeq (mFor (mIter (mVar 0)) (gN 2)
  (mFor (mIter (mL (mFix 1 m_unit_records_u) (mCons (mVar 2) mNil))) (gN 3)
  (mSeq (mIfS (mOrT (mTest (m2 fEq (mL fLen (mCons (mVar 1) mNil)) (mC (.int 0)))) (mTest (m2 fGt (m2 fAdd (mL fLen (mCons (m2 fIx (mVar 1) (mC (.int (-1)))) mNil)) (mL fLen (mCons (mVar 3) mNil))) (mC (.int 29)))))
  (mDo (mBM "list" fAppend (mVar 1) (mCons (mL fLst mNil) mNil)))
  mSkip)
  (mDo (mBM "list" fExtend (m2 fIx (mVar 1) (mC (.int (-1)))) (mCons (mVar 3) mNil))))))
  (mRet (mVar 1))))
@[irreducible] noncomputable def m_pack_units : List D → M → Res D := mFn 4 1 b_pack_units
noncomputable def b_packed_count : MS := (mRet (mL fLen (mCons (mL (mFix 1 m_pack_units) (mCons (mVar 0) mNil)) mNil)))
@[irreducible] noncomputable def m_packed_count : List D → M → Res D := mFn 1 1 b_packed_count
noncomputable def b_law : MS := (mSeq (mSet 1 (mL (mFix 2 m_law_pot_u) (mCons (mVar 0) (mCons (mC (.int 0)) mNil))))
  (mSeq (mSet 2 (mL (mFix 2 m_law_take_u) (mCons (mVar 1) (mCons (mC (.int 4)) mNil))))
  (mSeq (mSet 3 (mL (mFix 2 m_law_take_u) (mCons (mVar 1) (mCons (mC (.int 3)) mNil))))
  (mSeq (mIfS (mTest (m2 fGt (mVar 2) (mC (.int 0))))
  (mSet 3 (mL (mFix 2 m_law_take_u) (mCons (mVar 1) (mCons (mC (.int 41)) mNil))))
  mSkip)
  (mSeq (mSet 4 (mL (mFix 2 m_law_units_u) (mCons (mVar 0) (mCons (mVar 3) mNil))))
  (mSeq (mSet 5 (mLcN [9] (mIter (mVar 4)) (gN 9) mYes (mL fList (mCons (mVar 9) mNil))))
  (mSeq (mIfS (mTest (m2 fEq (mVar 2) (mC (.int 3))))
  (mSeq (mSet 4 (m2 fAdd (m2 fAdd (mVar 4) (mVar 4)) (mVar 4)))
  (mSet 5 (m2 fAdd (m2 fAdd (mVar 5) (mVar 5)) (mVar 5))))
  mSkip)
  (mSeq (mSet 6 (mL (mFix 1 m_law_blocks_u) (mCons (mVar 4) mNil)))
  (mSeq (mSet 7 (mL (mFix 1 m_pack_units) (mCons (mVar 5) mNil)))
  (mSeq (mIfS (mOrT (mNotT (mTru (mL (mFix 2 (m_law_same_u 12)) (mCons (mVar 5) (mCons (mVar 4) mNil))))) (mNotT (mTru (mL (mFix 2 (m_law_same_u 12)) (mCons (mVar 7) (mCons (mVar 6) mNil))))))
  (mRet (mC (.bl false)))
  mSkip)
  (mSeq (mSet 8 (mL (mFix 1 m_packed_count) (mCons (mVar 5) mNil)))
  (mRet (mAndV (mL (mFix 2 (m_law_same_u 12)) (mCons (mVar 5) (mCons (mVar 4) mNil))) (mL (mFix 2 (m_law_same_u 12)) (mCons (mVar 8) (mCons (mL fLen (mCons (mVar 6) mNil)) mNil))))))))))))))))
@[irreducible] noncomputable def m_law : List D → M → Res D := mFn 10 1 b_law
/-! ### the derivations -/
section
variable {P : Program} {w : World} {K : PySem.W.Frag} {mg : Str → Option Value} {base : Heap}
theorem bd_law_kinds_u (T : Top P w K mg) (f : Addr) (cdv : Value) (A : Around) (outer : List Env) (s : Shared) (H : Hp) (E : XK) (hr : Room 0 (A.deeper (envOfC "_law_kinds" (defScope s_law_kinds_u) s.heap.objs.size f cdv))) :
    FSs (cxOf (L2.CX P w) P w K mg base [] "_law_kinds" (defScope s_law_kinds_u) f cdv A outer s H E) (fun c d _ H => E c d H) none (defBody s_law_kinds_u) b_law_kinds_u :=
  (fs_one (fs_ret (fe_lst (fa_cons fe_str (fa_cons fe_str (fa_cons fe_str (fa_cons fe_str (fa_cons fe_str (fa_cons fe_str (fa_cons fe_str (fa_cons fe_str (fa_cons fe_str (fa_cons fe_str (fa_cons fe_str (fa_cons fe_str (fa_cons fe_str (fa_cons fe_str (fa_cons fe_str (fa_cons fe_str fa_nil)))))))))))))))))))
theorem ok_law_kinds_u (T : Top P w K mg) : Def P w K mg base "_law_kinds" 1 0 m_law_kinds_u := by unfold m_law_kinds_u; exact defOf T.f_law_kinds_u sc_law_kinds_u (bd_law_kinds_u T)
theorem bd_law_name_word_u (T : Top P w K mg) (f : Addr) (cdv : Value) (A : Around) (outer : List Env) (s : Shared) (H : Hp) (E : XK) (hr : Room 0 (A.deeper (envOfC "_law_name_word" (defScope s_law_name_word_u) s.heap.objs.size f cdv))) :
    FSs (cxOf (L2.CX P w) P w K mg base ["name", "signs", "word", "k"] "_law_name_word" (defScope s_law_name_word_u) f cdv A outer s H E) (fun c d _ H => E c d H) none (defBody s_law_name_word_u) b_law_name_word_u :=
  (fs_cons (fs_set (i := 1) sc_law_name_word_u.nd fe_str)
  (fs_cons (fs_set (i := 2) sc_law_name_word_u.nd fe_int)
  (fs_cons (fs_for poD (fi_range1 T.z_range (fa_cons fe_int fa_nil) (mCons_len mNil_len)) (fg_name (i := 3) sc_law_name_word_u.nd)
  (fs_cons (fs_set (i := 2) sc_law_name_word_u.nd (fe_mulX (fv 2) fe_int))
  (fs_one (fs_if (ft_c1 (fc_slt (fv 3) (fe_len (by decide +kernel) T.z_len (fa_cons (fv 0) fa_nil))))
  (fs_one (fs_set (i := 2) sc_law_name_word_u.nd (fe_add (fe_add (fv 2) (fe_bm PySem.F.plainAttrs_str PySem.F.slot_str_index PySem.F.type_str_index mt_sindex ab_sindex (fv 1) (fa_cons (fe_ix hr (fv 0) (fv 3)) fa_nil))) fe_int)))
  fs_nil))))
  (fs_one (fs_ret (fv 2))))))
theorem ok_law_name_word_u (T : Top P w K mg) : Def P w K mg base "_law_name_word" 1 1 m_law_name_word_u := by unfold m_law_name_word_u; exact defOf T.f_law_name_word_u sc_law_name_word_u (bd_law_name_word_u T)
theorem bd_law_record_u (T : Top P w K mg) (f : Addr) (cdv : Value) (A : Around) (outer : List Env) (s : Shared) (H : Hp) (E : XK) (hr : Room 1 (A.deeper (envOfC "_law_record" (defScope s_law_record_u) s.heap.objs.size f cdv))) :
    FSs (cxOf (L2.CX P w) P w K mg base ["call", "is_last", "words", "k", "item", "one"] "_law_record" (defScope s_law_record_u) f cdv A outer s H E) (fun c d _ H => E c d H) none (defBody s_law_record_u) b_law_record_u :=
  (fs_cons (fs_set (i := 2) sc_law_record_u.nd (fe_lst (fa_cons (fe_add (fe_mulX fe_int (fe_add (fe_bm PySem.F.plainAttrs_list PySem.F.slot_list_index PySem.F.type_list_index mt_index ab_lix (fe_call0 (ok_law_kinds_u T) tkD (hr.mono (by decide)) rfl) (fa_cons (fe_ix hr (fv 0) fe_int) fa_nil)) fe_int)) (fe_intc T.z_int (fa_cons (fv 1) fa_nil))) (fa_cons (fe_ix hr (fv 0) fe_int) (fa_cons (fe_call (ok_law_name_word_u T) tkD (hr.mono (by decide)) (fa_cons (fe_ix hr (fv 0) fe_int) fa_nil)) fa_nil)))))
  (fs_cons (fs_for poD (fi_range2 T.z_range (fa_cons fe_int (fa_cons (fe_len (by decide +kernel) T.z_len (fa_cons (fv 0) fa_nil)) fa_nil)) (mCons_len (mCons_len mNil_len))) (fg_name (i := 3) sc_law_record_u.nd)
  (fs_cons (fs_set (i := 4) sc_law_record_u.nd (fe_ix hr (fv 0) (fv 3)))
  (fs_one (fs_if (ft_c1 (fc_isN (fv 4)))
  (fs_one (fs_expr (fe_append (fv 2) (fa_cons fe_int fa_nil))))
  (fs_one (fs_if (ft_tru (fe_isI T.z_isinstance (fa_cons (fv 4) (fa_cons (fe_ty T.z_str (by decide +kernel)) fa_nil))))
  (fs_one (fs_expr (fe_append (fv 2) (fa_cons (fe_call (ok_law_name_word_u T) tkD (hr.mono (by decide)) (fa_cons (fv 4) fa_nil)) fa_nil))))
  (fs_one (fs_if (ft_not (ft_tru (fe_isI T.z_isinstance (fa_cons (fv 4) (fa_cons (fe_ty T.z_tuple (by decide +kernel)) fa_nil)))))
  (fs_one (fs_expr (fe_append (fv 2) (fa_cons (fe_add (fv 4) (fe_intc T.z_int (fa_cons (fe_and (fe_c1 (fc_eq hr (fe_ix hr (fv 0) fe_int) fe_str)) (fe_one (fe_c1 (fc_eq hr (fv 3) fe_int)))) fa_nil))) fa_nil))))
  (fs_cons (fs_expr (fe_append (fv 2) (fa_cons (fe_len (by decide +kernel) T.z_len (fa_cons (fv 4) fa_nil)) fa_nil)))
  (fs_one (fs_for poD (fi_any (fv 4)) (fg_name (i := 5) sc_law_record_u.nd)
  (fs_one (fs_if (ft_tru (fe_isI T.z_isinstance (fa_cons (fv 5) (fa_cons (fe_ty T.z_str (by decide +kernel)) fa_nil))))
  (fs_one (fs_expr (fe_append (fv 2) (fa_cons (fe_call (ok_law_name_word_u T) tkD (hr.mono (by decide)) (fa_cons (fv 5) fa_nil)) fa_nil))))
  (fs_one (fs_expr (fe_append (fv 2) (fa_cons (fv 5) fa_nil)))))))))))))))))
  (fs_one (fs_ret (fe_add (fe_lst (fa_cons (fe_add (fe_len (by decide +kernel) T.z_len (fa_cons (fv 2) fa_nil)) fe_int) fa_nil)) (fv 2))))))
theorem ok_law_record_u (T : Top P w K mg) : Def P w K mg base "_law_record" 2 2 m_law_record_u := by unfold m_law_record_u; exact defOf T.f_law_record_u sc_law_record_u (bd_law_record_u T)
theorem bd_law_blocks_u (T : Top P w K mg) (f : Addr) (cdv : Value) (A : Around) (outer : List Env) (s : Shared) (H : Hp) (E : XK) (hr : Room 2 (A.deeper (envOfC "_law_blocks" (defScope s_law_blocks_u) s.heap.objs.size f cdv))) :
    FSs (cxOf (L2.CX P w) P w K mg base ["units", "packed", "unit", "k", "record"] "_law_blocks" (defScope s_law_blocks_u) f cdv A outer s H E) (fun c d _ H => E c d H) none (defBody s_law_blocks_u) b_law_blocks_u :=
  (fs_cons (fs_set (i := 1) sc_law_blocks_u.nd (fe_lst fa_nil))
  (fs_cons (fs_for poD (fi_any (fv 0)) (fg_name (i := 2) sc_law_blocks_u.nd)
  (fs_one (fs_for poD (fi_range1 T.z_range (fa_cons (fe_len (by decide +kernel) T.z_len (fa_cons (fv 2) fa_nil)) fa_nil) (mCons_len mNil_len)) (fg_name (i := 3) sc_law_blocks_u.nd)
  (fs_cons (fs_set (i := 4) sc_law_blocks_u.nd (fe_call (ok_law_record_u T) tkD (hr.mono (by decide)) (fa_cons (fe_ix hr (fv 2) (fv 3)) (fa_cons (fe_c1 (fc_eq hr (fe_add (fv 3) fe_int) (fe_len (by decide +kernel) T.z_len (fa_cons (fv 2) fa_nil)))) fa_nil))))
  (fs_one (fs_if (FW.ft (fw_or (ft_c1 (fc_eq hr (fv 1) (fe_lst fa_nil))) (fw_or1 (ft_c1 (fc_gt (fe_add (fe_len (by decide +kernel) T.z_len (fa_cons (fe_ix hr (fv 1) (fk_neg (v := (-1)) fe_int (by decide +kernel))) fa_nil)) (fe_len (by decide +kernel) T.z_len (fa_cons (fv 4) fa_nil))) fe_int)))))
  (fs_one (fs_expr (fe_append (fv 1) (fa_cons (fv 4) fa_nil))))
  (fs_one (fs_put hr (fv 1) (fk_neg (v := (-1)) fe_int (by decide +kernel)) (fe_add (fe_ix hr (fv 1) (fk_neg (v := (-1)) fe_int (by decide +kernel))) (fv 4))))))))))
  (fs_one (fs_ret (fv 1)))))
theorem ok_law_blocks_u (T : Top P w K mg) : Def P w K mg base "_law_blocks" 3 1 m_law_blocks_u := by unfold m_law_blocks_u; exact defOf T.f_law_blocks_u sc_law_blocks_u (bd_law_blocks_u T)
theorem bd_law_pot_u (T : Top P w K mg) (f : Addr) (cdv : Value) (A : Around) (outer : List Env) (s : Shared) (H : Hp) (E : XK) (hr : Room 0 (A.deeper (envOfC "_law_pot" (defScope s_law_pot_u) s.heap.objs.size f cdv))) :
    FSs (cxOf (L2.CX P w) P w K mg base ["script", "k", "cell", "digits"] "_law_pot" (defScope s_law_pot_u) f cdv A outer s H E) (fun c d _ H => E c d H) none (defBody s_law_pot_u) b_law_pot_u :=
  (fs_cons (fs_set (i := 2) sc_law_pot_u.nd (fe_add (fe_mulX fe_int (fv 1)) fe_int))
  (fs_cons (fs_if (ft_c1 (fc_slt (fv 1) (fe_len (by decide +kernel) T.z_len (fa_cons (fv 0) fa_nil))))
  (fs_one (fs_set (i := 2) sc_law_pot_u.nd (fe_ix hr (fv 0) (fv 1))))
  (fs_one (fs_if (ft_c1 (fc_gt (fe_len (by decide +kernel) T.z_len (fa_cons (fv 0) fa_nil)) fe_int))
  (fs_one (fs_set (i := 2) sc_law_pot_u.nd (fe_add (fe_add (fe_mod (fe_intc T.z_int (fa_cons (fe_ix hr (fv 0) fe_int) fa_nil)) fe_int) (fe_mulX fe_int (fv 1))) fe_int)))
  fs_nil)))
  (fs_cons (fs_set (i := 3) sc_law_pot_u.nd fe_int)
  (fs_cons (fs_if (ft_c1 (fc_ge (fv 2) (fk_pow (v := 1000000000000000000) fe_int fe_int (by decide +kernel) (by decide +kernel))))
  (fs_one (fs_set (i := 3) sc_law_pot_u.nd (fe_mod (fe_intc T.z_int (fa_cons (fv 2) fa_nil)) (fk_pow (v := ((10 ^ 50) ^ 24)) (fk_pow (v := (10 ^ 50)) fe_int fe_int (by decide +kernel) (by decide +kernel)) fe_int (by decide +kernel) (by decide +kernel)))))
  fs_nil)
  (fs_one (fs_ret (fe_lst (fa_cons (fv 3) (fa_cons (fe_add (fe_add (fe_mulX (fe_mod (fe_intc T.z_int (fa_cons (fv 2) fa_nil)) (fk_pow (v := 1000000000000000000000000) fe_int fe_int (by decide +kernel) (by decide +kernel))) fe_int) (fv 1)) fe_int) (fa_cons fe_int fa_nil))))))))))
theorem ok_law_pot_u (T : Top P w K mg) : Def P w K mg base "_law_pot" 1 2 m_law_pot_u := by unfold m_law_pot_u; exact defOf T.f_law_pot_u sc_law_pot_u (bd_law_pot_u T)
theorem bd_law_same_u (T : Top P w K mg) {k : Nat} {self : List D → M → Res D} (F : Def P w K mg base "_law_same" (0 + k) 2 self) (f : Addr) (cdv : Value) (A : Around) (outer : List Env) (s : Shared) (H : Hp) (E : XK) (hr : Room (0 + k) (A.deeper (envOfC "_law_same" (defScope s_law_same_u) s.heap.objs.size f cdv))) :
    FSs (cxOf (L2.CX P w) P w K mg base ["told", "due", "k"] "_law_same" (defScope s_law_same_u) f cdv A outer s H E) (fun c d _ H => E c d H) none (defBody s_law_same_u) (b_law_same_u self) :=
  (fs_cons (fs_if (ft_c1 (fc_isN (fv 1)))
  (fs_one (fs_ret (fe_c1 (fc_isN (fv 0)))))
  fs_nil)
  (fs_cons (fs_if (ft_tru (fe_isI T.z_isinstance (fa_cons (fv 1) (fa_cons (fe_ty T.z_str (by decide +kernel)) fa_nil))))
  (fs_one (fs_ret (fe_and (fe_isI T.z_isinstance (fa_cons (fv 0) (fa_cons (fe_ty T.z_str (by decide +kernel)) fa_nil))) (fe_one (fe_c1 (fc_eq hr (fv 0) (fv 1)))))))
  fs_nil)
  (fs_cons (fs_if (ft_tru (fe_isI T.z_isinstance (fa_cons (fv 1) (fa_cons (fe_ty T.z_int (by decide +kernel)) fa_nil))))
  (fs_one (fs_ret (fe_and (fe_isI T.z_isinstance (fa_cons (fv 0) (fa_cons (fe_ty T.z_int (by decide +kernel)) fa_nil))) (fe_and (fe_not (fe_isI T.z_isinstance (fa_cons (fv 0) (fa_cons (fe_ty T.z_bool (by decide +kernel)) fa_nil)))) (fe_one (fe_c1 (fc_eq hr (fv 0) (fv 1))))))))
  fs_nil)
  (fs_cons (fs_if (FW.ft (fw_and (ft_tru (fe_isI T.z_isinstance (fa_cons (fv 1) (fa_cons (fe_ty T.z_list (by decide +kernel)) fa_nil)))) (fw_and1 (ft_not (ft_tru (fe_isI T.z_isinstance (fa_cons (fv 0) (fa_cons (fe_ty T.z_list (by decide +kernel)) fa_nil))))))))
  (fs_one (fs_ret fe_bl))
  fs_nil)
  (fs_cons (fs_if (FW.ft (fw_and (ft_tru (fe_isI T.z_isinstance (fa_cons (fv 1) (fa_cons (fe_ty T.z_tuple (by decide +kernel)) fa_nil)))) (fw_and1 (ft_not (ft_tru (fe_isI T.z_isinstance (fa_cons (fv 0) (fa_cons (fe_ty T.z_tuple (by decide +kernel)) fa_nil))))))))
  (fs_one (fs_ret fe_bl))
  fs_nil)
  (fs_cons (fs_if (ft_c1 (fc_ne hr (fe_len (by decide +kernel) T.z_len (fa_cons (fv 0) fa_nil)) (fe_len (by decide +kernel) T.z_len (fa_cons (fv 1) fa_nil))))
  (fs_one (fs_ret fe_bl))
  fs_nil)
  (fs_cons (fs_for poD (fi_range1 T.z_range (fa_cons (fe_len (by decide +kernel) T.z_len (fa_cons (fv 1) fa_nil)) fa_nil) (mCons_len mNil_len)) (fg_name (i := 2) sc_law_same_u.nd)
  (fs_one (fs_if (ft_not (ft_tru (fe_call F tkD hr (fa_cons (fe_ix hr (fv 0) (fv 2)) (fa_cons (fe_ix hr (fv 1) (fv 2)) fa_nil)))))
  (fs_one (fs_ret fe_bl))
  fs_nil)))
  (fs_one (fs_ret fe_bl)))))))))
theorem ok0_law_same_u (T : Top P w K mg) : ∀ n, Def P w K mg base "_law_same" (0 + n) 2 (m0_law_same_u n)
  | 0 => def_stuck T.f_law_same_u
  | n + 1 => defOf T.f_law_same_u sc_law_same_u (bd_law_same_u T (ok0_law_same_u T n))
theorem ok_law_same_u (T : Top P w K mg) (n : Nat) : Def P w K mg base "_law_same" (0 + n) 2 (m_law_same_u n) := by unfold m_law_same_u; exact ok0_law_same_u T n
theorem bd_law_take_u (T : Top P w K mg) (f : Addr) (cdv : Value) (A : Around) (outer : List Env) (s : Shared) (H : Hp) (E : XK) (hr : Room 0 (A.deeper (envOfC "_law_take" (defScope s_law_take_u) s.heap.objs.size f cdv))) :
    FSs (cxOf (L2.CX P w) P w K mg base ["pot", "many", "told"] "_law_take" (defScope s_law_take_u) f cdv A outer s H E) (fun c d _ H => E c d H) none (defBody s_law_take_u) b_law_take_u :=
  (fs_cons (fs_if (ft_c1 (fc_gt (fe_ix hr (fv 0) fe_int) fe_int))
  (fs_cons (fs_set (i := 2) sc_law_take_u.nd (fe_mod (fe_intc T.z_int (fa_cons (fe_ix hr (fv 0) fe_int) fa_nil)) (fv 1)))
  (fs_cons (fs_put hr (fv 0) fe_int (fe_div (fe_ix hr (fv 0) fe_int) (fv 1)))
  (fs_one (fs_ret (fv 2)))))
  fs_nil)
  (fs_cons (fs_put hr (fv 0) fe_int (fe_add (fe_ix hr (fv 0) fe_int) fe_int))
  (fs_cons (fs_put hr (fv 0) fe_int (fe_mod (fe_intc T.z_int (fa_cons (fe_add (fe_add (fe_mulX (fe_ix hr (fv 0) fe_int) fe_int) (fe_mulX (fe_ix hr (fv 0) fe_int) fe_int)) fe_int) fa_nil)) fe_int))
  (fs_one (fs_ret (fe_mod (fe_intc T.z_int (fa_cons (fe_div (fe_mulX (fe_mulX (fe_ix hr (fv 0) fe_int) (fe_ix hr (fv 0) fe_int)) (fe_add (fe_div (fe_ix hr (fv 0) fe_int) fe_int) fe_int)) fe_int) fa_nil)) (fv 1)))))))
theorem ok_law_take_u (T : Top P w K mg) : Def P w K mg base "_law_take" 1 2 m_law_take_u := by unfold m_law_take_u; exact defOf T.f_law_take_u sc_law_take_u (bd_law_take_u T)
theorem bd_law_name_u (T : Top P w K mg) (f : Addr) (cdv : Value) (A : Around) (outer : List Env) (s : Shared) (H : Hp) (E : XK) (hr : Room 1 (A.deeper (envOfC "_law_name" (defScope s_law_name_u) s.heap.objs.size f cdv))) :
    FSs (cxOf (L2.CX P w) P w K mg base ["pot", "signs", "number", "name", "k"] "_law_name" (defScope s_law_name_u) f cdv A outer s H E) (fun c d _ H => E c d H) none (defBody s_law_name_u) b_law_name_u :=
  (fs_cons (fs_set (i := 1) sc_law_name_u.nd fe_str)
  (fs_cons (fs_set (i := 2) sc_law_name_u.nd (fe_call (ok_law_take_u T) tkD (hr.mono (by decide)) (fa_cons (fv 0) (fa_cons (fk_pow (v := 177917621779460413) fe_int fe_int (by decide +kernel) (by decide +kernel)) fa_nil))))
  (fs_cons (fs_set (i := 3) sc_law_name_u.nd fe_str)
  (fs_cons (fs_for poD (fi_range1 T.z_range (fa_cons (fe_add fe_int (fe_call (ok_law_take_u T) tkD (hr.mono (by decide)) (fa_cons (fv 0) (fa_cons fe_int fa_nil)))) fa_nil) (mCons_len mNil_len)) (fg_name (i := 4) sc_law_name_u.nd)
  (fs_cons (fs_set (i := 3) sc_law_name_u.nd (fe_add (fv 3) (fe_ix hr (fv 1) (fe_mod (fe_intc T.z_int (fa_cons (fv 2) fa_nil)) fe_int))))
  (fs_one (fs_set (i := 2) sc_law_name_u.nd (fe_div (fv 2) fe_int)))))
  (fs_one (fs_ret (fv 3)))))))
theorem ok_law_name_u (T : Top P w K mg) : Def P w K mg base "_law_name" 2 1 m_law_name_u := by unfold m_law_name_u; exact defOf T.f_law_name_u sc_law_name_u (bd_law_name_u T)
theorem bd_law_number_u (T : Top P w K mg) (f : Addr) (cdv : Value) (A : Around) (outer : List Env) (s : Shared) (H : Hp) (E : XK) (hr : Room 1 (A.deeper (envOfC "_law_number" (defScope s_law_number_u) s.heap.objs.size f cdv))) :
    FSs (cxOf (L2.CX P w) P w K mg base ["pot", "many", "way"] "_law_number" (defScope s_law_number_u) f cdv A outer s H E) (fun c d _ H => E c d H) none (defBody s_law_number_u) b_law_number_u :=
  (fs_cons (fs_set (i := 2) sc_law_number_u.nd (fe_call (ok_law_take_u T) tkD (hr.mono (by decide)) (fa_cons (fv 0) (fa_cons fe_int fa_nil))))
  (fs_cons (fs_if (ft_c1 (fc_eq hr (fv 2) fe_int))
  (fs_one (fs_ret (fe_min2 T.z_min (fa_cons (fe_sub (fv 1) fe_int) (fa_cons (fe_call (ok_law_take_u T) tkD (hr.mono (by decide)) (fa_cons (fv 0) (fa_cons fe_int fa_nil))) fa_nil)))))
  fs_nil)
  (fs_cons (fs_if (ft_c1 (fc_eq hr (fv 2) fe_int))
  (fs_one (fs_ret (fe_max2 T.z_max (fa_cons fe_int (fa_cons (fe_sub (fe_sub (fv 1) fe_int) (fe_call (ok_law_take_u T) tkD (hr.mono (by decide)) (fa_cons (fv 0) (fa_cons fe_int fa_nil)))) fa_nil)))))
  fs_nil)
  (fs_one (fs_ret (fe_call (ok_law_take_u T) tkD (hr.mono (by decide)) (fa_cons (fv 0) (fa_cons (fv 1) fa_nil))))))))
theorem ok_law_number_u (T : Top P w K mg) : Def P w K mg base "_law_number" 2 2 m_law_number_u := by unfold m_law_number_u; exact defOf T.f_law_number_u sc_law_number_u (bd_law_number_u T)
theorem bd_law_path_u (T : Top P w K mg) (f : Addr) (cdv : Value) (A : Around) (outer : List Env) (s : Shared) (H : Hp) (E : XK) (hr : Room 2 (A.deeper (envOfC "_law_path" (defScope s_law_path_u) s.heap.objs.size f cdv))) :
    FSs (cxOf (L2.CX P w) P w K mg base ["pot", "many", "k"] "_law_path" (defScope s_law_path_u) f cdv A outer s H E) (fun c d _ H => E c d H) none (defBody s_law_path_u) b_law_path_u :=
  (fs_one (fs_ret (fe_tuple T.z_tuple (fa_cons (fe_lc [("k", 2)] sc_law_path_u.nd (fi_range1 T.z_range (fa_cons (fv 1) fa_nil) (mCons_len mNil_len)) (blkOk_by (N := ["pot", "many", "k"]) (sc := defScope s_law_path_u) (own := [("k", 2)]) (by decide +kernel)) (fun _ _ _ _ _ => (fg_name (i := 2) sc_law_path_u.nd)) (fun _ _ _ _ _ => fts_nil) (fun _ _ _ _ _ => (fe_call (ok_law_name_u T) tkN (hr.mono (by decide)) (fa_cons (fv 0) fa_nil)))) fa_nil))))
theorem ok_law_path_u (T : Top P w K mg) : Def P w K mg base "_law_path" 3 2 m_law_path_u := by unfold m_law_path_u; exact defOf T.f_law_path_u sc_law_path_u (bd_law_path_u T)
theorem bd_law_rest_u (T : Top P w K mg) (f : Addr) (cdv : Value) (A : Around) (outer : List Env) (s : Shared) (H : Hp) (E : XK) (hr : Room 3 (A.deeper (envOfC "_law_rest" (defScope s_law_rest_u) s.heap.objs.size f cdv))) :
    FSs (cxOf (L2.CX P w) P w K mg base ["pot", "kind", "cells", "name", "k"] "_law_rest" (defScope s_law_rest_u) f cdv A outer s H E) (fun c d _ H => E c d H) none (defBody s_law_rest_u) b_law_rest_u :=
  (fs_cons (fs_if (FW.ft (fw_or (ft_c1 (fc_eq hr (fv 1) fe_str)) (fw_or1 (ft_c1 (fc_eq hr (fv 1) fe_str)))))
  (fs_one (fs_ret (fe_tup (fa_cons (fe_call (ok_law_path_u T) tkD (hr.mono (by decide)) (fa_cons (fv 0) (fa_cons (fe_call (ok_law_take_u T) tkD (hr.mono (by decide)) (fa_cons (fv 0) (fa_cons fe_int fa_nil))) fa_nil))) fa_nil))))
  fs_nil)
  (fs_cons (fs_if (ft_c1 (fc_eq hr (fv 1) fe_str))
  (fs_cons (fs_set (i := 2) sc_law_rest_u.nd (fe_tuple T.z_tuple (fa_cons (fe_lc [("k", 4)] sc_law_rest_u.nd (fi_range1 T.z_range (fa_cons (fe_add fe_int (fe_call (ok_law_take_u T) tkD (hr.mono (by decide)) (fa_cons (fv 0) (fa_cons fe_int fa_nil)))) fa_nil) (mCons_len mNil_len)) (blkOk_by (N := ["pot", "kind", "cells", "name", "k"]) (sc := defScope s_law_rest_u) (own := [("k", 4)]) (by decide +kernel)) (fun _ _ _ _ _ => (fg_name (i := 4) sc_law_rest_u.nd)) (fun _ _ _ _ _ => fts_nil) (fun _ _ _ _ _ => (fe_call (ok_law_number_u T) tkN (hr.mono (by decide)) (fa_cons (fv 0) (fa_cons (fk_sub (v := 2305843009213693951) (fk_pow (v := 2305843009213693952) fe_int fe_int (by decide +kernel) (by decide +kernel)) fe_int (by decide +kernel)) fa_nil))))) fa_nil)))
  (fs_one (fs_ret (fe_tup (fa_cons (fe_call (ok_law_number_u T) tkD (hr.mono (by decide)) (fa_cons (fv 0) (fa_cons (fe_sub fe_int (fe_len (by decide +kernel) T.z_len (fa_cons (fv 2) fa_nil))) fa_nil))) (fa_cons (fv 2) fa_nil))))))
  fs_nil)
  (fs_cons (fs_if (ft_c1 (fc_eq hr (fv 1) fe_str))
  (fs_one (fs_ret (fe_tup (fa_cons (fe_call (ok_law_number_u T) tkD (hr.mono (by decide)) (fa_cons (fv 0) (fa_cons fe_int fa_nil))) fa_nil))))
  fs_nil)
  (fs_cons (fs_if (ft_c1 (fc_eq hr (fv 1) fe_str))
  (fs_cons (fs_set (i := 3) sc_law_rest_u.nd (fe_call (ok_law_name_u T) tkD (hr.mono (by decide)) (fa_cons (fv 0) fa_nil)))
  (fs_one (fs_ret (fe_tup (fa_cons (fv 3) (fa_cons (fe_call (ok_law_number_u T) tkD (hr.mono (by decide)) (fa_cons (fv 0) (fa_cons (fk_sub (v := 2305843009213693951) (fk_pow (v := 2305843009213693952) fe_int fe_int (by decide +kernel) (by decide +kernel)) fe_int (by decide +kernel)) fa_nil))) fa_nil))))))
  fs_nil)
  (fs_cons (fs_if (ft_c1 (fc_eq hr (fv 1) fe_str))
  (fs_one (fs_ret (fe_tup (fa_cons (fe_call (ok_law_name_u T) tkD (hr.mono (by decide)) (fa_cons (fv 0) fa_nil)) fa_nil))))
  fs_nil)
  (fs_cons (fs_if (ft_c1 (fc_eq hr (fv 1) fe_str))
  (fs_one (fs_ret (fe_tup (fa_cons (fe_call (ok_law_number_u T) tkD (hr.mono (by decide)) (fa_cons (fv 0) (fa_cons fe_int fa_nil))) fa_nil))))
  fs_nil)
  (fs_cons (fs_if (ft_c1 (fc_eq hr (fv 1) fe_str))
  (fs_one (fs_ret (fe_tup (fa_cons (fe_call (ok_law_number_u T) tkD (hr.mono (by decide)) (fa_cons (fv 0) (fa_cons fe_int fa_nil))) fa_nil))))
  fs_nil)
  (fs_one (fs_ret (fe_tup fa_nil))))))))))
theorem ok_law_rest_u (T : Top P w K mg) : Def P w K mg base "_law_rest" 4 2 m_law_rest_u := by unfold m_law_rest_u; exact defOf T.f_law_rest_u sc_law_rest_u (bd_law_rest_u T)
theorem bd_law_call_u (T : Top P w K mg) (f : Addr) (cdv : Value) (A : Around) (outer : List Env) (s : Shared) (H : Hp) (E : XK) (hr : Room 4 (A.deeper (envOfC "_law_call" (defScope s_law_call_u) s.heap.objs.size f cdv))) :
    FSs (cxOf (L2.CX P w) P w K mg base ["pot", "kind", "user", "head", "owner", "most", "path"] "_law_call" (defScope s_law_call_u) f cdv A outer s H E) (fun c d _ H => E c d H) none (defBody s_law_call_u) b_law_call_u :=
  (fs_cons (fs_set (i := 1) sc_law_call_u.nd (fe_ix hr (fe_call0 (ok_law_kinds_u T) tkD (hr.mono (by decide)) rfl) (fe_call (ok_law_take_u T) tkD (hr.mono (by decide)) (fa_cons (fv 0) (fa_cons fe_int fa_nil)))))
  (fs_cons (fs_set (i := 2) sc_law_call_u.nd (fe_call (ok_law_number_u T) tkD (hr.mono (by decide)) (fa_cons (fv 0) (fa_cons fe_int fa_nil))))
  (fs_cons (fs_set (i := 3) sc_law_call_u.nd (fe_tup (fa_cons (fv 1) (fa_cons (fv 2) (fa_cons (fe_call (ok_law_name_u T) tkD (hr.mono (by decide)) (fa_cons (fv 0) fa_nil)) fa_nil)))))
  (fs_cons (fs_if (ft_c1 (fc_eq hr (fv 1) fe_str))
  (fs_one (fs_ret (fv 3)))
  fs_nil)
  (fs_cons (fs_if (FW.ft (fw_or (ft_c1 (fc_eq hr (fv 1) fe_str)) (fw_or1 (ft_c1 (fc_eq hr (fv 1) fe_str)))))
  (fs_one (fs_ret (fe_add (fv 3) (fe_tup (fa_cons (fe_call (ok_law_name_u T) tkD (hr.mono (by decide)) (fa_cons (fv 0) fa_nil)) fa_nil)))))
  fs_nil)
  (fs_cons (fs_if (ft_c1 (fc_eq hr (fv 1) fe_str))
  (fs_cons (fs_set (i := 4) sc_law_call_u.nd (fe_call (ok_law_number_u T) tkD (hr.mono (by decide)) (fa_cons (fv 0) (fa_cons fe_int fa_nil))))
  (fs_cons (fs_set (i := 5) sc_law_call_u.nd (fe_call (ok_law_number_u T) tkD (hr.mono (by decide)) (fa_cons (fv 0) (fa_cons fe_int fa_nil))))
  (fs_cons (fs_if (ft_c1 (fc_eq hr (fv 5) fe_int))
  (fs_one (fs_ret (fe_add (fv 3) (fe_tup (fa_cons (fv 4) (fa_cons fe_non fa_nil))))))
  fs_nil)
  (fs_one (fs_ret (fe_add (fv 3) (fe_tup (fa_cons (fv 4) (fa_cons (fe_sub (fv 5) fe_int) fa_nil)))))))))
  fs_nil)
  (fs_cons (fs_set (i := 6) sc_law_call_u.nd (fe_call (ok_law_path_u T) tkD (hr.mono (by decide)) (fa_cons (fv 0) (fa_cons (fe_call (ok_law_take_u T) tkD (hr.mono (by decide)) (fa_cons (fv 0) (fa_cons fe_int fa_nil))) fa_nil))))
  (fs_one (fs_ret (fe_add (fe_add (fv 3) (fe_tup (fa_cons (fv 6) fa_nil))) (fe_call (ok_law_rest_u T) tkD (hr.mono (by decide)) (fa_cons (fv 0) (fa_cons (fv 1) fa_nil)))))))))))))
theorem ok_law_call_u (T : Top P w K mg) : Def P w K mg base "_law_call" 5 1 m_law_call_u := by unfold m_law_call_u; exact defOf T.f_law_call_u sc_law_call_u (bd_law_call_u T)
theorem bd_law_fitted_u (T : Top P w K mg) (f : Addr) (cdv : Value) (A : Around) (outer : List Env) (s : Shared) (H : Hp) (E : XK) (hr : Room 3 (A.deeper (envOfC "_law_fitted" (defScope s_law_fitted_u) s.heap.objs.size f cdv))) :
    FSs (cxOf (L2.CX P w) P w K mg base ["pot", "call", "words", "least", "many", "path", "cells", "k"] "_law_fitted" (defScope s_law_fitted_u) f cdv A outer s H E) (fun c d _ H => E c d H) none (defBody s_law_fitted_u) b_law_fitted_u :=
  (fs_cons (fs_if (ft_c1 (fc_eq hr (fv 2) fe_int))
  (fs_one (fs_ret (fe_tup (fa_cons fe_str (fa_cons (fe_ix hr (fv 1) fe_int) (fa_cons (fe_ix hr (fv 1) fe_int) fa_nil))))))
  fs_nil)
  (fs_cons (fs_if (ft_chain (g := fun i j => decide (i ≤ j)) (g' := fun i j => decide (i ≤ j)) op_le op_le fe_int (fv 2) fe_int)
  (fs_one (fs_ret (fe_tup (fa_cons fe_str (fa_cons (fe_ix hr (fv 1) fe_int) (fa_cons (fe_ix hr (fv 1) fe_int) (fa_cons (fe_call (ok_law_path_u T) tkD (hr.mono (by decide)) (fa_cons (fv 0) (fa_cons (fe_sub (fv 2) fe_int) fa_nil))) fa_nil)))))))
  fs_nil)
  (fs_cons (fs_if (FW.ft (fw_or (ft_c1 (fc_slt (fv 2) fe_int)) (fw_or1 (ft_c1 (fc_gt (fv 2) fe_int)))))
  (fs_one (fs_ret (fv 1)))
  fs_nil)
  (fs_cons (fs_set (i := 3) sc_law_fitted_u.nd (fe_max2 T.z_max (fa_cons fe_int (fa_cons (fe_sub (fv 2) fe_int) fa_nil))))
  (fs_cons (fs_set (i := 4) sc_law_fitted_u.nd (fe_add (fv 3) (fe_call (ok_law_take_u T) tkD (hr.mono (by decide)) (fa_cons (fv 0) (fa_cons (fe_add (fe_sub (fe_min2 T.z_min (fa_cons fe_int (fa_cons (fe_sub (fv 2) fe_int) fa_nil))) (fv 3)) fe_int) fa_nil)))))
  (fs_cons (fs_set (i := 5) sc_law_fitted_u.nd (fe_call (ok_law_path_u T) tkD (hr.mono (by decide)) (fa_cons (fv 0) (fa_cons (fv 4) fa_nil))))
  (fs_cons (fs_set (i := 6) sc_law_fitted_u.nd (fe_tuple T.z_tuple (fa_cons (fe_lc [("k", 7)] sc_law_fitted_u.nd (fi_range1 T.z_range (fa_cons (fe_sub (fe_sub (fv 2) fe_int) (fv 4)) fa_nil) (mCons_len mNil_len)) (blkOk_by (N := ["pot", "call", "words", "least", "many", "path", "cells", "k"]) (sc := defScope s_law_fitted_u) (own := [("k", 7)]) (by decide +kernel)) (fun _ _ _ _ _ => (fg_name (i := 7) sc_law_fitted_u.nd)) (fun _ _ _ _ _ => fts_nil) (fun _ _ _ _ _ => (fe_call (ok_law_number_u T) tkN (hr.mono (by decide)) (fa_cons (fv 0) (fa_cons (fk_sub (v := 2305843009213693951) (fk_pow (v := 2305843009213693952) fe_int fe_int (by decide +kernel) (by decide +kernel)) fe_int (by decide +kernel)) fa_nil))))) fa_nil)))
  (fs_one (fs_ret (fe_tup (fa_cons fe_str (fa_cons (fe_ix hr (fv 1) fe_int) (fa_cons (fe_ix hr (fv 1) fe_int) (fa_cons (fv 5) (fa_cons (fe_call (ok_law_number_u T) tkD (hr.mono (by decide)) (fa_cons (fv 0) (fa_cons (fe_sub fe_int (fe_len (by decide +kernel) T.z_len (fa_cons (fv 6) fa_nil))) fa_nil))) (fa_cons (fv 6) fa_nil))))))))))))))))
theorem ok_law_fitted_u (T : Top P w K mg) : Def P w K mg base "_law_fitted" 4 3 m_law_fitted_u := by unfold m_law_fitted_u; exact defOf T.f_law_fitted_u sc_law_fitted_u (bd_law_fitted_u T)
theorem bd_law_units_u (T : Top P w K mg) (f : Addr) (cdv : Value) (A : Around) (outer : List Env) (s : Shared) (H : Hp) (E : XK) (hr : Room 5 (A.deeper (envOfC "_law_units" (defScope s_law_units_u) s.heap.objs.size f cdv))) :
    FSs (cxOf (L2.CX P w) P w K mg base ["script", "many", "units", "filled", "is_open", "k", "pot", "aim", "call", "words"] "_law_units" (defScope s_law_units_u) f cdv A outer s H E) (fun c d _ H => E c d H) none (defBody s_law_units_u) b_law_units_u :=
  (fs_cons (fs_set (i := 2) sc_law_units_u.nd (fe_lst fa_nil))
  (fs_cons (fs_set (i := 3) sc_law_units_u.nd fe_int)
  (fs_cons (fs_set (i := 4) sc_law_units_u.nd fe_bl)
  (fs_cons (fs_for poD (fi_range1 T.z_range (fa_cons (fv 1) fa_nil) (mCons_len mNil_len)) (fg_name (i := 5) sc_law_units_u.nd)
  (fs_cons (fs_set (i := 6) sc_law_units_u.nd (fe_call (ok_law_pot_u T) tkD (hr.mono (by decide)) (fa_cons (fv 0) (fa_cons (fe_add fe_int (fv 5)) fa_nil))))
  (fs_cons (fs_set (i := 7) sc_law_units_u.nd (fe_call (ok_law_take_u T) tkD (hr.mono (by decide)) (fa_cons (fv 6) (fa_cons fe_int fa_nil))))
  (fs_cons (fs_set (i := 8) sc_law_units_u.nd (fe_call (ok_law_call_u T) tkD (hr.mono (by decide)) (fa_cons (fv 6) fa_nil)))
  (fs_cons (fs_if (ft_c1 (fc_slt (fv 7) fe_int))
  (fs_one (fs_set (i := 8) sc_law_units_u.nd (fe_call (ok_law_fitted_u T) tkD (hr.mono (by decide)) (fa_cons (fv 6) (fa_cons (fv 8) (fa_cons (fe_add (fe_sub fe_int (fv 3)) (fv 7)) fa_nil))))))
  fs_nil)
  (fs_cons (fs_set (i := 9) sc_law_units_u.nd (fe_len (by decide +kernel) T.z_len (fa_cons (fe_call (ok_law_record_u T) tkD (hr.mono (by decide)) (fa_cons (fv 8) (fa_cons fe_bl fa_nil))) fa_nil)))
  (fs_cons (fs_if (ft_c1 (fc_gt (fe_add (fv 3) (fv 9)) fe_int))
  (fs_one (fs_set (i := 3) sc_law_units_u.nd fe_int))
  fs_nil)
  (fs_cons (fs_set (i := 3) sc_law_units_u.nd (fe_add (fv 3) (fv 9)))
  (fs_cons (fs_if (ft_tru (fv 4))
  (fs_one (fs_put hr (fv 2) (fk_neg (v := (-1)) fe_int (by decide +kernel)) (fe_add (fe_ix hr (fv 2) (fk_neg (v := (-1)) fe_int (by decide +kernel))) (fe_lst (fa_cons (fv 8) fa_nil)))))
  (fs_one (fs_expr (fe_append (fv 2) (fa_cons (fe_lst (fa_cons (fv 8) fa_nil)) fa_nil)))))
  (fs_one (fs_set (i := 4) sc_law_units_u.nd (fe_c1 (fc_gt (fe_call (ok_law_take_u T) tkD (hr.mono (by decide)) (fa_cons (fv 6) (fa_cons fe_int fa_nil))) fe_int)))))))))))))
  (fs_one (fs_ret (fv 2)))))))
theorem ok_law_units_u (T : Top P w K mg) : Def P w K mg base "_law_units" 6 2 m_law_units_u := by unfold m_law_units_u; exact defOf T.f_law_units_u sc_law_units_u (bd_law_units_u T)
theorem bd_is_name (T : Top P w K mg) (f : Addr) (cdv : Value) (A : Around) (outer : List Env) (s : Shared) (H : Hp) (E : XK) (hr : Room 0 (A.deeper (envOfC "is_name" (defScope s_is_name) s.heap.objs.size f cdv))) :
    FSs (cxOf (L2.CX P w) P w K mg base ["text", "sign"] "is_name" (defScope s_is_name) f cdv A outer s H E) (fun c d _ H => E c d H) none (defBody s_is_name) b_is_name :=
  (fs_cons (fs_if (FW.ft (fw_or (ft_c1 (fc_slt (fe_len (by decide +kernel) T.z_len (fa_cons (fv 0) fa_nil)) fe_int)) (fw_or1 (ft_c1 (fc_gt (fe_len (by decide +kernel) T.z_len (fa_cons (fv 0) fa_nil)) (T.c_NAME_LENGTH_u.elim fun _ e => fe_gint e))))))
  (fs_one (fs_ret fe_bl))
  fs_nil)
  (fs_cons (fs_for poD (fi_any (fv 0)) (fg_name (i := 1) sc_is_name.nd)
  (fs_one (fs_if (ft_c1 (fc_notIn hr (fv 1) (T.c_SIGNS_u.elim fun _ e => fe_gstr e)))
  (fs_one (fs_ret fe_bl))
  fs_nil)))
  (fs_one (fs_ret fe_bl))))
theorem ok_is_name (T : Top P w K mg) : Def P w K mg base "is_name" 1 1 m_is_name := by unfold m_is_name; exact defOf T.f_is_name sc_is_name (bd_is_name T)
theorem bd_name_word (T : Top P w K mg) (f : Addr) (cdv : Value) (A : Around) (outer : List Env) (s : Shared) (H : Hp) (E : XK) (hr : Room 2 (A.deeper (envOfC "name_word" (defScope s_name_word) s.heap.objs.size f cdv))) :
    FSs (cxOf (L2.CX P w) P w K mg base ["name", "word", "place"] "name_word" (defScope s_name_word) f cdv A outer s H E) (fun c d _ H => E c d H) none (defBody s_name_word) b_name_word :=
  (fs_cons (fs_if (ft_not (ft_tru (fe_call (ok_is_name T) tkD (hr.mono (by decide)) (fa_cons (fv 0) fa_nil))))
  (fs_one (fs_raise (T.x_BadName _ _) tkD (hr.mono (by decide)) (fa_cons (fv 0) fa_nil)))
  fs_nil)
  (fs_cons (fs_set (i := 1) sc_name_word.nd fe_int)
  (fs_cons (fs_for poD (fi_range1 T.z_range (fa_cons (T.c_NAME_LENGTH_u.elim fun _ e => fe_gint e) fa_nil) (mCons_len mNil_len)) (fg_name (i := 2) sc_name_word.nd)
  (fs_cons (fs_set (i := 1) sc_name_word.nd (fe_mulX (fv 1) (T.c_BASE_u.elim fun _ e => fe_gint e)))
  (fs_one (fs_if (ft_c1 (fc_slt (fv 2) (fe_len (by decide +kernel) T.z_len (fa_cons (fv 0) fa_nil))))
  (fs_one (fs_set (i := 1) sc_name_word.nd (fe_add (fe_add (fv 1) (fe_bm PySem.F.plainAttrs_str PySem.F.slot_str_index PySem.F.type_str_index mt_sindex ab_sindex (T.c_SIGNS_u.elim fun _ e => fe_gstr e) (fa_cons (fe_ix hr (fv 0) (fv 2)) fa_nil))) fe_int)))
  fs_nil))))
  (fs_one (fs_ret (fv 1))))))
theorem ok_name_word (T : Top P w K mg) : Def P w K mg base "name_word" 3 1 m_name_word := by unfold m_name_word; exact defOf T.f_name_word sc_name_word (bd_name_word T)
theorem bd_item_words_u (T : Top P w K mg) (f : Addr) (cdv : Value) (A : Around) (outer : List Env) (s : Shared) (H : Hp) (E : XK) (hr : Room 3 (A.deeper (envOfC "_item_words" (defScope s_item_words_u) s.heap.objs.size f cdv))) :
    FSs (cxOf (L2.CX P w) P w K mg base ["field", "item", "name"] "_item_words" (defScope s_item_words_u) f cdv A outer s H E) (fun c d _ H => E c d H) none (defBody s_item_words_u) b_item_words_u :=
  (fs_cons (fs_if (ft_c1 (fc_eq hr (fv 0) fe_str))
  (fs_one (fs_ret (fe_add (fe_lst (fa_cons (fe_len (by decide +kernel) T.z_len (fa_cons (fv 1) fa_nil)) fa_nil)) (fe_lc [("name", 2)] sc_item_words_u.nd (fi_any (fv 1)) (blkOk_by (N := ["field", "item", "name"]) (sc := defScope s_item_words_u) (own := [("name", 2)]) (by decide +kernel)) (fun _ _ _ _ _ => (fg_name (i := 2) sc_item_words_u.nd)) (fun _ _ _ _ _ => fts_nil) (fun _ _ _ _ _ => (fe_call (ok_name_word T) tkN (hr.mono (by decide)) (fa_cons (fv 2) fa_nil)))))))
  fs_nil)
  (fs_cons (fs_if (ft_c1 (fc_eq hr (fv 0) fe_str))
  (fs_one (fs_ret (fe_add (fe_lst (fa_cons (fe_len (by decide +kernel) T.z_len (fa_cons (fv 1) fa_nil)) fa_nil)) (fe_list T.z_list (fa_cons (fv 1) fa_nil)))))
  fs_nil)
  (fs_cons (fs_if (ft_c1 (fc_eq hr (fv 0) fe_str))
  (fs_one (fs_ret (fe_lst (fa_cons (fe_call (ok_name_word T) tkD (hr.mono (by decide)) (fa_cons (fv 1) fa_nil)) fa_nil))))
  fs_nil)
  (fs_cons (fs_if (ft_c1 (fc_eq hr (fv 0) fe_str))
  (fs_one (fs_ret (fe_lst (fa_cons (fe_if (ft_c1 (fc_isN (fv 1))) fe_int (fe_add (fv 1) fe_int)) fa_nil))))
  fs_nil)
  (fs_one (fs_ret (fe_lst (fa_cons (fv 1) fa_nil))))))))
theorem ok_item_words_u (T : Top P w K mg) : Def P w K mg base "_item_words" 4 2 m_item_words_u := by unfold m_item_words_u; exact defOf T.f_item_words_u sc_item_words_u (bd_item_words_u T)
theorem bd_is_word (T : Top P w K mg) (f : Addr) (cdv : Value) (A : Around) (outer : List Env) (s : Shared) (H : Hp) (E : XK) (hr : Room 0 (A.deeper (envOfC "is_word" (defScope s_is_word) s.heap.objs.size f cdv))) :
    FSs (cxOf (L2.CX P w) P w K mg base ["x"] "is_word" (defScope s_is_word) f cdv A outer s H E) (fun c d _ H => E c d H) none (defBody s_is_word) b_is_word :=
  (fs_one (fs_ret (fe_and (fe_isI T.z_isinstance (fa_cons (fv 0) (fa_cons (fe_ty T.z_int (by decide +kernel)) fa_nil))) (fe_and (fe_not (fe_isI T.z_isinstance (fa_cons (fv 0) (fa_cons (fe_ty T.z_bool (by decide +kernel)) fa_nil)))) (fe_one (fe_chain (g := fun i j => decide (i ≤ j)) (g' := fun i j => decide (i < j)) op_le op_lt fe_int (fv 0) (T.c_PRIME.elim fun _ e => fe_gint e)))))))
theorem ok_is_word (T : Top P w K mg) : Def P w K mg base "is_word" 1 1 m_is_word := by unfold m_is_word; exact defOf T.f_is_word sc_is_word (bd_is_word T)
theorem bd_are_cells_u (T : Top P w K mg) (f : Addr) (cdv : Value) (A : Around) (outer : List Env) (s : Shared) (H : Hp) (E : XK) (hr : Room 1 (A.deeper (envOfC "_are_cells" (defScope s_are_cells_u) s.heap.objs.size f cdv))) :
    FSs (cxOf (L2.CX P w) P w K mg base ["cells", "cell"] "_are_cells" (defScope s_are_cells_u) f cdv A outer s H E) (fun c d _ H => E c d H) none (defBody s_are_cells_u) b_are_cells_u :=
  (fs_cons (fs_if (FW.ft (fw_or (ft_c1 (fc_slt (fe_len (by decide +kernel) T.z_len (fa_cons (fv 0) fa_nil)) fe_int)) (fw_or1 (ft_c1 (fc_gt (fe_len (by decide +kernel) T.z_len (fa_cons (fv 0) fa_nil)) (T.c_MOST_CELLS_u.elim fun _ e => fe_gint e))))))
  (fs_one (fs_ret fe_bl))
  fs_nil)
  (fs_cons (fs_for poD (fi_any (fv 0)) (fg_name (i := 1) sc_are_cells_u.nd)
  (fs_one (fs_if (ft_not (ft_tru (fe_call (ok_is_word T) tkD (hr.mono (by decide)) (fa_cons (fv 1) fa_nil))))
  (fs_one (fs_ret fe_bl))
  fs_nil)))
  (fs_one (fs_ret fe_bl))))
theorem ok_are_cells_u (T : Top P w K mg) : Def P w K mg base "_are_cells" 2 1 m_are_cells_u := by unfold m_are_cells_u; exact defOf T.f_are_cells_u sc_are_cells_u (bd_are_cells_u T)
theorem bd_is_path (T : Top P w K mg) (f : Addr) (cdv : Value) (A : Around) (outer : List Env) (s : Shared) (H : Hp) (E : XK) (hr : Room 1 (A.deeper (envOfC "is_path" (defScope s_is_path) s.heap.objs.size f cdv))) :
    FSs (cxOf (L2.CX P w) P w K mg base ["path", "name"] "is_path" (defScope s_is_path) f cdv A outer s H E) (fun c d _ H => E c d H) none (defBody s_is_path) b_is_path :=
  (fs_cons (fs_if (ft_c1 (fc_gt (fe_len (by decide +kernel) T.z_len (fa_cons (fv 0) fa_nil)) (T.c_PATH_LENGTH_u.elim fun _ e => fe_gint e)))
  (fs_one (fs_ret fe_bl))
  fs_nil)
  (fs_cons (fs_for poD (fi_any (fv 0)) (fg_name (i := 1) sc_is_path.nd)
  (fs_one (fs_if (ft_not (ft_tru (fe_call (ok_is_name T) tkD (hr.mono (by decide)) (fa_cons (fv 1) fa_nil))))
  (fs_one (fs_ret fe_bl))
  fs_nil)))
  (fs_one (fs_ret fe_bl))))
theorem ok_is_path (T : Top P w K mg) : Def P w K mg base "is_path" 2 1 m_is_path := by unfold m_is_path; exact defOf T.f_is_path sc_is_path (bd_is_path T)
theorem bd_fits_u (T : Top P w K mg) (f : Addr) (cdv : Value) (A : Around) (outer : List Env) (s : Shared) (H : Hp) (E : XK) (hr : Room 2 (A.deeper (envOfC "_fits" (defScope s_fits_u) s.heap.objs.size f cdv))) :
    FSs (cxOf (L2.CX P w) P w K mg base ["field", "item"] "_fits" (defScope s_fits_u) f cdv A outer s H E) (fun c d _ H => E c d H) none (defBody s_fits_u) b_fits_u :=
  (fs_cons (fs_if (ft_c1 (fc_eq hr (fv 0) fe_str))
  (fs_one (fs_ret (fe_call (ok_is_path T) tkD (hr.mono (by decide)) (fa_cons (fv 1) fa_nil))))
  fs_nil)
  (fs_cons (fs_if (ft_c1 (fc_eq hr (fv 0) fe_str))
  (fs_one (fs_ret (fe_call (ok_is_name T) tkD (hr.mono (by decide)) (fa_cons (fv 1) fa_nil))))
  fs_nil)
  (fs_cons (fs_if (ft_c1 (fc_eq hr (fv 0) fe_str))
  (fs_one (fs_ret (fe_call (ok_is_word T) tkD (hr.mono (by decide)) (fa_cons (fv 1) fa_nil))))
  fs_nil)
  (fs_cons (fs_if (ft_c1 (fc_eq hr (fv 0) fe_str))
  (fs_one (fs_ret (fe_call (ok_are_cells_u T) tkD (hr.mono (by decide)) (fa_cons (fv 1) fa_nil))))
  fs_nil)
  (fs_cons (fs_if (ft_c1 (fc_eq hr (fv 0) fe_str))
  (fs_one (fs_ret (fe_or (fe_c1 (fc_isN (fv 1))) (fe_one (fe_chain (g := fun i j => decide (i ≤ j)) (g' := fun i j => decide (i ≤ j)) op_le op_le fe_int (fv 1) (T.c_LARGEST_LIMIT_u.elim fun _ e => fe_gint e))))))
  fs_nil)
  (fs_one (fs_ret (fe_chain (g := fun i j => decide (i ≤ j)) (g' := fun i j => decide (i ≤ j)) op_le op_le fe_int (fv 1) (fe_kix T.d_LARGEST_u (fv 0))))))))))
theorem ok_fits_u (T : Top P w K mg) : Def P w K mg base "_fits" 3 2 m_fits_u := by unfold m_fits_u; exact defOf T.f_fits_u sc_fits_u (bd_fits_u T)
theorem bd_is_call_u (T : Top P w K mg) (f : Addr) (cdv : Value) (A : Around) (outer : List Env) (s : Shared) (H : Hp) (E : XK) (hr : Room 3 (A.deeper (envOfC "_is_call" (defScope s_is_call_u) s.heap.objs.size f cdv))) :
    FSs (cxOf (L2.CX P w) P w K mg base ["call", "fields", "field", "item"] "_is_call" (defScope s_is_call_u) f cdv A outer s H E) (fun c d _ H => E c d H) none (defBody s_is_call_u) b_is_call_u :=
  (fs_cons (fs_if (FW.ft (fw_or (ft_c1 (fc_slt (fe_len (by decide +kernel) T.z_len (fa_cons (fv 0) fa_nil)) (T.c_FIRST_ITEMS_u.elim fun _ e => fe_gint e))) (fw_or1 (ft_c1 (fc_knin T.d_FIELDS_u (fe_ix hr (fv 0) fe_int))))))
  (fs_one (fs_ret fe_bl))
  fs_nil)
  (fs_cons (fs_set (i := 1) sc_is_call_u.nd (fe_kix T.d_FIELDS_u (fe_ix hr (fv 0) fe_int)))
  (fs_cons (fs_if (ft_c1 (fc_ne hr (fe_len (by decide +kernel) T.z_len (fa_cons (fv 0) fa_nil)) (fe_add (T.c_FIRST_ITEMS_u.elim fun _ e => fe_gint e) (fe_len (by decide +kernel) T.z_len (fa_cons (fv 1) fa_nil)))))
  (fs_one (fs_ret fe_bl))
  fs_nil)
  (fs_cons (fs_if (FW.ft (fw_or (ft_c1 (fc_slt (fe_ix hr (fv 0) fe_int) fe_int)) (fw_or (ft_c1 (fc_gt (fe_ix hr (fv 0) fe_int) (T.c_LARGEST_USER_u.elim fun _ e => fe_gint e))) (fw_or1 (ft_not (ft_tru (fe_call (ok_is_name T) tkD (hr.mono (by decide)) (fa_cons (fe_ix hr (fv 0) fe_int) fa_nil))))))))
  (fs_one (fs_ret fe_bl))
  fs_nil)
  (fs_cons (fs_for poD (fi_zip T.z_zip (fa_cons (fv 1) (fa_cons (fe_slice (fv 0) (fo_some (T.c_FIRST_ITEMS_u.elim fun _ e => fe_gint e)) fo_none) fa_nil))) (fg_tup (fgs_cons (fg_name (i := 2) sc_is_call_u.nd) (fgs_cons (fg_name (i := 3) sc_is_call_u.nd) fgs_nil)))
  (fs_one (fs_if (ft_not (ft_tru (fe_call (ok_fits_u T) tkD (hr.mono (by decide)) (fa_cons (fv 2) (fa_cons (fv 3) fa_nil)))))
  (fs_one (fs_ret fe_bl))
  fs_nil)))
  (fs_cons (fs_if (ft_c1 (fc_eq hr (fe_ix hr (fv 0) fe_int) fe_str))
  (fs_one (fs_ret (fe_c1 (fc_le (fe_add (fe_ix hr (fv 0) fe_int) (fe_len (by decide +kernel) T.z_len (fa_cons (fe_ix hr (fv 0) fe_int) fa_nil))) (T.c_LARGEST_SIZE_u.elim fun _ e => fe_gint e)))))
  fs_nil)
  (fs_one (fs_ret fe_bl))))))))
theorem ok_is_call_u (T : Top P w K mg) : Def P w K mg base "_is_call" 4 1 m_is_call_u := by unfold m_is_call_u; exact defOf T.f_is_call_u sc_is_call_u (bd_is_call_u T)
theorem bd_check_call (T : Top P w K mg) (f : Addr) (cdv : Value) (A : Around) (outer : List Env) (s : Shared) (H : Hp) (E : XK) (hr : Room 4 (A.deeper (envOfC "check_call" (defScope s_check_call) s.heap.objs.size f cdv))) :
    FSs (cxOf (L2.CX P w) P w K mg base ["call"] "check_call" (defScope s_check_call) f cdv A outer s H E) (fun c d _ H => E c d H) none (defBody s_check_call) b_check_call :=
  (fs_one (fs_if (ft_not (ft_tru (fe_call (ok_is_call_u T) tkD (hr.mono (by decide)) (fa_cons (fv 0) fa_nil))))
  (fs_one (fs_raise (T.x_BadCall _ _) tkD (hr.mono (by decide)) (fa_cons (fv 0) fa_nil)))
  fs_nil))
theorem ok_check_call (T : Top P w K mg) : Def P w K mg base "check_call" 5 1 m_check_call := by unfold m_check_call; exact defOf T.f_check_call sc_check_call (bd_check_call T)
theorem bd_is_changing (T : Top P w K mg) (f : Addr) (cdv : Value) (A : Around) (outer : List Env) (s : Shared) (H : Hp) (E : XK) (hr : Room 0 (A.deeper (envOfC "is_changing" (defScope s_is_changing) s.heap.objs.size f cdv))) :
    FSs (cxOf (L2.CX P w) P w K mg base ["call"] "is_changing" (defScope s_is_changing) f cdv A outer s H E) (fun c d _ H => E c d H) none (defBody s_is_changing) b_is_changing :=
  (fs_one (fs_ret (fe_and (fe_c1 (fc_gt (fe_len (by decide +kernel) T.z_len (fa_cons (fv 0) fa_nil)) fe_int)) (fe_one (fe_c1 (fc_in hr (fe_ix hr (fv 0) fe_int) (fe_gct T.g_CHANGING)))))))
theorem ok_is_changing (T : Top P w K mg) : Def P w K mg base "is_changing" 1 1 m_is_changing := by unfold m_is_changing; exact defOf T.f_is_changing sc_is_changing (bd_is_changing T)
theorem bd_call_record (T : Top P w K mg) (f : Addr) (cdv : Value) (A : Around) (outer : List Env) (s : Shared) (H : Hp) (E : XK) (hr : Room 5 (A.deeper (envOfC "call_record" (defScope s_call_record) s.heap.objs.size f cdv))) :
    FSs (cxOf (L2.CX P w) P w K mg base ["call", "is_last", "code", "words", "field", "item"] "call_record" (defScope s_call_record) f cdv A outer s H E) (fun c d _ H => E c d H) none (defBody s_call_record) b_call_record :=
  (fs_cons (fs_expr (fe_call (ok_check_call T) tkD (hr.mono (by decide)) (fa_cons (fv 0) fa_nil)))
  (fs_cons (fs_if (ft_not (ft_tru (fe_call (ok_is_changing T) tkD (hr.mono (by decide)) (fa_cons (fv 0) fa_nil))))
  (fs_one (fs_raise (T.x_BadCall _ _) tkD (hr.mono (by decide)) (fa_cons (fv 0) fa_nil)))
  fs_nil)
  (fs_cons (fs_set (i := 2) sc_call_record.nd (fe_mulX fe_int (fe_add (fe_kindex T.g_CHANGING (fa_cons (fe_ix hr (fv 0) fe_int) fa_nil)) fe_int)))
  (fs_cons (fs_if (ft_tru (fv 1))
  (fs_one (fs_set (i := 2) sc_call_record.nd (fe_add (fv 2) fe_int)))
  fs_nil)
  (fs_cons (fs_set (i := 3) sc_call_record.nd (fe_lst (fa_cons (fv 2) (fa_cons (fe_ix hr (fv 0) fe_int) (fa_cons (fe_call (ok_name_word T) tkD (hr.mono (by decide)) (fa_cons (fe_ix hr (fv 0) fe_int) fa_nil)) fa_nil)))))
  (fs_cons (fs_for poD (fi_zip T.z_zip (fa_cons (fe_kix T.d_FIELDS_u (fe_ix hr (fv 0) fe_int)) (fa_cons (fe_slice (fv 0) (fo_some (T.c_FIRST_ITEMS_u.elim fun _ e => fe_gint e)) fo_none) fa_nil))) (fg_tup (fgs_cons (fg_name (i := 4) sc_call_record.nd) (fgs_cons (fg_name (i := 5) sc_call_record.nd) fgs_nil)))
  (fs_one (fs_expr (fe_extend (fv 3) (fa_cons (fe_call (ok_item_words_u T) tkD (hr.mono (by decide)) (fa_cons (fv 4) (fa_cons (fv 5) fa_nil))) fa_nil)))))
  (fs_one (fs_ret (fe_add (fe_lst (fa_cons (fe_add (fe_len (by decide +kernel) T.z_len (fa_cons (fv 3) fa_nil)) fe_int) fa_nil)) (fv 3))))))))))
theorem ok_call_record (T : Top P w K mg) : Def P w K mg base "call_record" 6 2 m_call_record := by unfold m_call_record; exact defOf T.f_call_record sc_call_record (bd_call_record T)
theorem bd_unit_records_u (T : Top P w K mg) (f : Addr) (cdv : Value) (A : Around) (outer : List Env) (s : Shared) (H : Hp) (E : XK) (hr : Room 6 (A.deeper (envOfC "_unit_records" (defScope s_unit_records_u) s.heap.objs.size f cdv))) :
    FSs (cxOf (L2.CX P w) P w K mg base ["unit", "last", "at", "call"] "_unit_records" (defScope s_unit_records_u) f cdv A outer s H E) (fun c d _ H => E c d H) none (defBody s_unit_records_u) b_unit_records_u :=
  (fs_cons (fs_set (i := 1) sc_unit_records_u.nd (fe_sub (fe_len (by decide +kernel) T.z_len (fa_cons (fv 0) fa_nil)) fe_int))
  (fs_one (fs_ret (fe_lc [("at", 2), ("call", 3)] sc_unit_records_u.nd (fi_enum T.z_enumerate (fa_cons (fv 0) fa_nil)) (blkOk_by (N := ["unit", "last", "at", "call"]) (sc := defScope s_unit_records_u) (own := [("at", 2), ("call", 3)]) (by decide +kernel)) (fun _ _ _ _ _ => (fg_tup (fgs_cons (fg_name (i := 2) sc_unit_records_u.nd) (fgs_cons (fg_name (i := 3) sc_unit_records_u.nd) fgs_nil)))) (fun _ _ _ _ _ => fts_nil) (fun _ _ _ _ _ => (fe_call (ok_call_record T) tkN (hr.mono (by decide)) (fa_cons (fv 3) (fa_cons (fe_c1 (fc_eq hr (fv 2) (fv 1))) fa_nil))))))))
theorem ok_unit_records_u (T : Top P w K mg) : Def P w K mg base "_unit_records" 7 1 m_unit_records_u := by unfold m_unit_records_u; exact defOf T.f_unit_records_u sc_unit_records_u (bd_unit_records_u T)
theorem bd_pack_units (T : Top P w K mg) (f : Addr) (cdv : Value) (A : Around) (outer : List Env) (s : Shared) (H : Hp) (E : XK) (hr : Room 7 (A.deeper (envOfC "pack_units" (defScope s_pack_units) s.heap.objs.size f cdv))) :
    FSs (cxOf (L2.CX P w) P w K mg base ["units", "blocks", "unit", "record"] "pack_units" (defScope s_pack_units) f cdv A outer s H E) (fun c d _ H => E c d H) none (defBody s_pack_units) b_pack_units :=
  (fs_cons (fs_set (i := 1) sc_pack_units.nd (fe_lst fa_nil))
  (fs_cons (fs_for poD (fi_any (fv 0)) (fg_name (i := 2) sc_pack_units.nd)
  (fs_one (fs_for poD (fi_any (fe_call (ok_unit_records_u T) tkD (hr.mono (by decide)) (fa_cons (fv 2) fa_nil))) (fg_name (i := 3) sc_pack_units.nd)
  (fs_cons (fs_if (FW.ft (fw_or (ft_c1 (fc_eq hr (fe_len (by decide +kernel) T.z_len (fa_cons (fv 1) fa_nil)) fe_int)) (fw_or1 (ft_c1 (fc_gt (fe_add (fe_len (by decide +kernel) T.z_len (fa_cons (fe_ix hr (fv 1) (fk_neg (v := (-1)) fe_int (by decide +kernel))) fa_nil)) (fe_len (by decide +kernel) T.z_len (fa_cons (fv 3) fa_nil))) (T.c_RECORD_WORDS_u.elim fun _ e => fe_gint e))))))
  (fs_one (fs_expr (fe_append (fv 1) (fa_cons (fe_lst fa_nil) fa_nil))))
  fs_nil)
  (fs_one (fs_expr (fe_extend (fe_ix hr (fv 1) (fk_neg (v := (-1)) fe_int (by decide +kernel))) (fa_cons (fv 3) fa_nil))))))))
  (fs_one (fs_ret (fv 1)))))
theorem ok_pack_units (T : Top P w K mg) : Def P w K mg base "pack_units" 8 1 m_pack_units := by unfold m_pack_units; exact defOf T.f_pack_units sc_pack_units (bd_pack_units T)
theorem bd_packed_count (T : Top P w K mg) (f : Addr) (cdv : Value) (A : Around) (outer : List Env) (s : Shared) (H : Hp) (E : XK) (hr : Room 8 (A.deeper (envOfC "packed_count" (defScope s_packed_count) s.heap.objs.size f cdv))) :
    FSs (cxOf (L2.CX P w) P w K mg base ["units"] "packed_count" (defScope s_packed_count) f cdv A outer s H E) (fun c d _ H => E c d H) none (defBody s_packed_count) b_packed_count :=
  (fs_one (fs_ret (fe_len (by decide +kernel) T.z_len (fa_cons (fe_call (ok_pack_units T) tkD (hr.mono (by decide)) (fa_cons (fv 0) fa_nil)) fa_nil))))
theorem ok_packed_count (T : Top P w K mg) : Def P w K mg base "packed_count" 9 1 m_packed_count := by unfold m_packed_count; exact defOf T.f_packed_count sc_packed_count (bd_packed_count T)
theorem bd_law (T : Top P w K mg) (f : Addr) (cdv : Value) (A : Around) (outer : List Env) (s : Shared) (H : Hp) (E : XK) (hr : Room 12 (A.deeper (envOfC "law" (defScope s_law) s.heap.objs.size f cdv))) :
    FSs (cxOf (L2.CX P w) P w K mg base ["script", "pot", "way", "many", "units", "handed", "due", "told", "count", "unit"] "law" (defScope s_law) f cdv A outer s H E) (fun c d _ H => E c d H) none (defBody s_law) b_law :=
  (fs_cons (fs_set (i := 1) sc_law.nd (fe_call (ok_law_pot_u T) tkD (hr.mono (by decide)) (fa_cons (fv 0) (fa_cons fe_int fa_nil))))
  (fs_cons (fs_set (i := 2) sc_law.nd (fe_call (ok_law_take_u T) tkD (hr.mono (by decide)) (fa_cons (fv 1) (fa_cons fe_int fa_nil))))
  (fs_cons (fs_set (i := 3) sc_law.nd (fe_call (ok_law_take_u T) tkD (hr.mono (by decide)) (fa_cons (fv 1) (fa_cons fe_int fa_nil))))
  (fs_cons (fs_if (ft_c1 (fc_gt (fv 2) fe_int))
  (fs_one (fs_set (i := 3) sc_law.nd (fe_call (ok_law_take_u T) tkD (hr.mono (by decide)) (fa_cons (fv 1) (fa_cons fe_int fa_nil)))))
  fs_nil)
  (fs_cons (fs_set (i := 4) sc_law.nd (fe_call (ok_law_units_u T) tkD (hr.mono (by decide)) (fa_cons (fv 0) (fa_cons (fv 3) fa_nil))))
  (fs_cons (fs_setLc (i := 5) [("unit", 9)] sc_law.nd (fi_any (fv 4)) (blkOk_by (N := ["script", "pot", "way", "many", "units", "handed", "due", "told", "count", "unit"]) (sc := defScope s_law) (own := [("unit", 9)]) (by decide +kernel)) (fun _ _ _ _ _ => (fg_name (i := 9) sc_law.nd)) (fun _ _ _ _ _ => fts_nil) (fun _ _ _ _ _ => (fe_list T.z_list (fa_cons (fv 9) fa_nil))) (sw_true rfl rfl rfl (by decide +kernel)))
  (fs_cons (fs_if (ft_c1 (fc_eq hr (fv 2) fe_int))
  (fs_cons (fs_set (i := 4) sc_law.nd (fe_add (fe_add (fv 4) (fv 4)) (fv 4)))
  (fs_one (fs_set (i := 5) sc_law.nd (fe_add (fe_add (fv 5) (fv 5)) (fv 5)))))
  fs_nil)
  (fs_cons (fs_set (i := 6) sc_law.nd (fe_call (ok_law_blocks_u T) tkD (hr.mono (by decide)) (fa_cons (fv 4) fa_nil)))
  (fs_cons (fs_set (i := 7) sc_law.nd (fe_call (ok_pack_units T) tkD (hr.mono (by decide)) (fa_cons (fv 5) fa_nil)))
  (fs_cons (fs_if (FW.ft (fw_or (ft_not (ft_tru (fe_call (ok_law_same_u T 12) tkD (hr.mono (by decide)) (fa_cons (fv 5) (fa_cons (fv 4) fa_nil))))) (fw_or1 (ft_not (ft_tru (fe_call (ok_law_same_u T 12) tkD (hr.mono (by decide)) (fa_cons (fv 7) (fa_cons (fv 6) fa_nil))))))))
  (fs_one (fs_ret fe_bl))
  fs_nil)
  (fs_cons (fs_set (i := 8) sc_law.nd (fe_call (ok_packed_count T) tkD (hr.mono (by decide)) (fa_cons (fv 5) fa_nil)))
  (fs_one (fs_ret (fe_and (fe_call (ok_law_same_u T 12) tkD (hr.mono (by decide)) (fa_cons (fv 5) (fa_cons (fv 4) fa_nil))) (fe_one (fe_call (ok_law_same_u T 12) tkD (hr.mono (by decide)) (fa_cons (fv 8) (fa_cons (fe_len (by decide +kernel) T.z_len (fa_cons (fv 6) fa_nil)) fa_nil))))))))))))))))))
theorem ok_law (T : Top P w K mg) : Def P w K mg base "law" 13 1 m_law := by unfold m_law; exact defOf T.f_law sc_law (bd_law T)
end
end K23
set_option Elab.async false
set_option linter.all false
set_option maxRecDepth 100000
set_option maxHeartbeats 4000000
/-! MA00: names as numbers to the base of 38. -/
namespace NW
open PySem L2 LF
def SGL : List Nat := [48, 49, 50, 51, 52, 53, 54, 55, 56, 57, 95, 97, 98, 99, 100, 101, 102, 103, 104, 105, 106, 107, 108, 109, 110, 111, 112, 113, 114, 115, 116, 117, 118, 119, 120, 121, 122]
theorem sg_lit : ("0123456789_abcdefghijklmnopqrstuvwxyz" : Str) = T SGL := by decide +kernel
theorem nil_lit : ("" : Str) = T [] := by decide +kernel
def sg (c : Nat) : Nat := SGL.getD c 0
theorem sg_at {c : Nat} (h : c < 37) : SGL[c]? = some (sg c) := by
  have hl : c < SGL.length := h
  unfold sg
  rw [List.getElem?_eq_getElem hl, List.getD_eq_getElem?_getD, List.getElem?_eq_getElem hl]; rfl
theorem sg_mem {c : Nat} (h : c < 37) : sg c ∈ SGL := List.mem_of_getElem? (sg_at h)
theorem sg_of {x : Nat} (h : x ∈ SGL) : ∃ c, c < 37 ∧ sg c = x := by
  obtain ⟨c, hc⟩ := List.mem_iff_getElem?.mp h
  have hl : c < 37 := (List.getElem?_eq_some_iff.mp hc).1
  exact ⟨c, hl, by rw [sg_at hl] at hc; exact Option.some.inj hc⟩
theorem sg_occ : ∀ c, c < 37 → Builtin.Str.occurrences (T SGL) (T [sg c]) 0 (T SGL).length 1 = [c] := by decide +kernel
theorem sg_lt : ∀ c, c < 37 → ∀ d, d < 37 → (sg c < sg d ↔ c < d) := by decide +kernel
theorem sg_inj {c d : Nat} (hc : c < 37) (hd : d < 37) (e : sg c = sg d) : c = d := by
  have h1 := sg_lt c hc d hd
  have h2 := sg_lt d hd c hc
  omega
theorem sg_find {c : Nat} (h : c < 37) : Txt.find (T SGL) (T [sg c]) = (c : Int) := by
  unfold Txt.find; rw [sg_occ c h]
/-- a name: 1 to 11 codes -/
structure IsN (cs : List Nat) : Prop where
  lo : 1 ≤ cs.length
  hi : cs.length ≤ 11
  all : ∀ c ∈ cs, c < 37
def nm (cs : List Nat) : List Nat := cs.map sg
@[simp] theorem nm_len {cs : List Nat} : (nm cs).length = cs.length := by simp [nm]
theorem nm_inj {a b : List Nat} (ha : ∀ c ∈ a, c < 37) (hb : ∀ c ∈ b, c < 37) (e : nm a = nm b) : a = b := by
  induction a generalizing b with
  | nil => cases b with
    | nil => rfl
    | cons d b => cases e
  | cons c a ih => cases b with
    | nil => cases e
    | cons d b =>
      simp only [nm, List.map_cons, List.cons.injEq] at e
      rw [sg_inj (ha c (by simp)) (hb d (by simp)) e.1, ih (fun x m => ha x (by simp [m])) (fun x m => hb x (by simp [m])) e.2]
/-! ### digits -/
def VL (ds : List Nat) : Int := ds.foldl (fun (w : Int) (d : Nat) => w * 38 + d) 0
theorem VL_snoc {ds : List Nat} {d : Nat} : VL (ds ++ [d]) = VL ds * 38 + d := by simp [VL]
theorem VL_app (a b : List Nat) : VL (a ++ b) = VL a * 38 ^ b.length + VL b := by
  have key : ∀ (b : List Nat) (w : Int), b.foldl (fun (w : Int) (d : Nat) => w * 38 + d) w = w * 38 ^ b.length + VL b := by
    intro b
    induction b with
    | nil => intro w; simp [VL]
    | cons d b ih =>
      intro w
      unfold VL
      rw [List.foldl_cons, List.foldl_cons, ih, ih, List.length_cons, Int.pow_succ]
      have : (0 * 38 + (d : Int)) = d := by omega
      rw [this, Int.add_mul, Int.mul_assoc, Int.mul_comm 38, Int.add_assoc]
  unfold VL
  rw [List.foldl_append, key]; rfl
theorem VL_bound {ds : List Nat} (h : ∀ d ∈ ds, d < 38) : 0 ≤ VL ds ∧ VL ds < 38 ^ ds.length := by
  induction ds with
  | nil => simp [VL]
  | cons d ds ih =>
    have ih := ih fun x m => h x (by simp [m])
    have e : VL (d :: ds) = (d : Int) * 38 ^ ds.length + VL ds := by
      have := VL_app [d] ds
      simpa [VL] using this
    have hd := h d (by simp)
    have hp : (0 : Int) < 38 ^ ds.length := Int.pow_pos (by decide)
    have h1 : (d : Int) * 38 ^ ds.length ≤ 37 * 38 ^ ds.length := Int.mul_le_mul_of_nonneg_right (by omega) (by omega)
    have h0 : 0 ≤ (d : Int) * 38 ^ ds.length := Int.mul_nonneg (by omega) (by omega)
    rw [e, List.length_cons, Int.pow_succ]
    omega
theorem VL_mod {ds : List Nat} {d : Nat} (hd : d < 38) : VL (ds ++ [d]) % 38 = d ∧ VL (ds ++ [d]) / 38 = VL ds := by
  rw [VL_snoc]; omega
theorem VL_zeros (n : Nat) : VL (List.replicate n 0) = 0 := by
  induction n with
  | zero => rfl
  | succ n ih => rw [List.replicate_succ', VL_snoc, ih]; rfl
/-- the digits of a number -/
def dgs : Nat → Int → List Nat
  | 0, _ => []
  | n + 1, w => dgs n (w / 38) ++ [(w % 38).toNat]
theorem dgs_len : ∀ (n : Nat) (w : Int), (dgs n w).length = n
  | 0, _ => rfl
  | n + 1, w => by simp [dgs, dgs_len n]
theorem dgs_lt : ∀ (n : Nat) (w : Int), ∀ d ∈ dgs n w, d < 38
  | 0, _, d, h => by simp [dgs] at h
  | n + 1, w, d, h => by
    simp only [dgs, List.mem_append, List.mem_singleton] at h
    rcases h with h | rfl
    · exact dgs_lt n _ d h
    · omega
theorem dgs_val : ∀ (n : Nat) (w : Int), 0 ≤ w → w < 38 ^ n → VL (dgs n w) = w
  | 0, w, h0, h1 => by simp at h1; simp [dgs, VL]; omega
  | n + 1, w, h0, h1 => by
    rw [Int.pow_succ] at h1
    have h2 : w / 38 < 38 ^ n := Int.ediv_lt_of_lt_mul (by decide) h1
    rw [dgs, VL_snoc, dgs_val n _ (by omega) h2]
    omega
/-- read from the right: the codes, if no digit is missing among them -/
def fs : List Nat → Option (List Nat)
  | [] => some []
  | d :: s => match fs s with
    | none => none
    | some cs => if 0 < d then some ((d - 1) :: cs) else if cs = [] then some [] else none
theorem fs_app_none {a b : List Nat} (h : fs b = none) : fs (a ++ b) = none := by
  induction a with
  | nil => exact h
  | cons d a ih => simp [fs, ih]
theorem fs_zeros (k : Nat) : fs (List.replicate k 0) = some [] := by
  induction k with
  | zero => rfl
  | succ k ih => simp [List.replicate_succ, fs, ih]
theorem fs_gap {k d : Nat} {q : List Nat} (hk : 0 < k) (hd : 0 < d) : fs (List.replicate k 0 ++ d :: q) = none := by
  induction k with
  | zero => omega
  | succ k ih =>
    rw [List.replicate_succ, List.cons_append]
    cases k with
    | zero =>
      simp only [List.replicate_zero, List.nil_append, fs]
      cases fs q with
      | none => rfl
      | some cs => simp [hd]
    | succ k =>
      have := ih (by omega)
      simp only [fs, this]
theorem fs_codes {cs : List Nat} {k : Nat} : fs (cs.map (· + 1) ++ List.replicate k 0) = some cs := by
  induction cs with
  | nil => simpa using fs_zeros k
  | cons c cs ih => simp [fs, ih]
theorem fs_len {ds cs : List Nat} (h : fs ds = some cs) : cs.length ≤ ds.length := by
  induction ds generalizing cs with
  | nil => cases h; simp
  | cons d ds ih =>
    simp only [fs] at h
    split at h
    · cases h
    · rename_i c e
      have := ih e
      split at h
      · cases h; simp; omega
      · split at h
        · cases h; simp
        · cases h
theorem fs_lt {ds cs : List Nat} (hd : ∀ d ∈ ds, d < 38) (h : fs ds = some cs) : ∀ c ∈ cs, c < 37 := by
  induction ds generalizing cs with
  | nil => cases h; simp
  | cons d ds ih =>
    simp only [fs] at h
    split at h
    · cases h
    · rename_i c e
      have := ih (fun x m => hd x (by simp [m])) e
      have h1 := hd d (by simp)
      split at h
      · cases h
        intro x hx
        simp only [List.mem_cons] at hx
        rcases hx with rfl | hx
        · omega
        · exact this x hx
      · split at h
        · cases h; simp
        · cases h
/-- the digits of a name -/
def pad (cs : List Nat) : List Nat := cs.map (· + 1) ++ List.replicate (11 - cs.length) 0
def W (cs : List Nat) : Int := VL (pad cs)
theorem pad_len {cs : List Nat} (h : cs.length ≤ 11) : (pad cs).length = 11 := by simp [pad]; omega
theorem pad_lt {cs : List Nat} (h : ∀ c ∈ cs, c < 37) : ∀ d ∈ pad cs, d < 38 := by
  intro d hd
  simp only [pad, List.mem_append, List.mem_map, List.mem_replicate] at hd
  rcases hd with ⟨c, hc, rfl⟩ | ⟨_, rfl⟩
  · have := h c hc; omega
  · decide
theorem pad_fs {cs : List Nat} : fs (pad cs) = some cs := fs_codes
theorem fs_pad {ds cs : List Nat} (h : fs ds = some cs) : ds = cs.map (· + 1) ++ List.replicate (ds.length - cs.length) 0 := by
  induction ds generalizing cs with
  | nil => cases h; rfl
  | cons d ds ih =>
    simp only [fs] at h
    split at h
    · cases h
    · rename_i c e
      have i := ih e
      have l := fs_len e
      split at h
      · rename_i hd
        cases h
        simp only [List.map_cons, List.length_cons, List.cons_append]
        rw [show ds.length + 1 - (c.length + 1) = ds.length - c.length from by omega, ← i]
        congr 1; omega
      · rename_i hd
        split at h
        · rename_i hc
          cases h
          subst hc
          have : d = 0 := by omega
          subst this
          simp only [List.map_nil, List.nil_append, List.length_nil, Nat.sub_zero, List.length_cons] at i ⊢
          rw [List.replicate_succ, ← i]
        · cases h
theorem W_bound {cs : List Nat} (h : IsN cs) : 0 < W cs ∧ W cs < 238572050223552512 := by
  have h1 := VL_bound (pad_lt h.all)
  rw [pad_len h.hi] at h1
  refine ⟨?_, ?_⟩
  · unfold W
    obtain ⟨c, cs', e⟩ : ∃ c cs', cs = c :: cs' := by
      cases cs with
      | nil => have := h.lo; simp at this
      | cons c cs' => exact ⟨c, cs', rfl⟩
    have e2 : pad cs = [c + 1] ++ (cs'.map (· + 1) ++ List.replicate (11 - cs.length) 0) := by unfold pad; rw [e]; rfl
    rw [e2, VL_app]
    have h2 : 0 ≤ VL (cs'.map (· + 1) ++ List.replicate (11 - cs.length) 0) := (VL_bound fun d hd => by
      refine pad_lt h.all d ?_
      rw [e2]; exact List.mem_append_right _ hd).1
    have hp : (0 : Int) < 38 ^ (cs'.map (· + 1) ++ List.replicate (11 - cs.length) 0).length := Int.pow_pos (by decide)
    have h3 : VL [c + 1] = (c + 1 : Nat) := by simp [VL]
    rw [h3]
    have h4 : 0 < ((c + 1 : Nat) : Int) * 38 ^ (cs'.map (· + 1) ++ List.replicate (11 - cs.length) 0).length := Int.mul_pos (by omega) hp
    omega
  · have : (38 : Int) ^ 11 = 238572050223552512 := by decide
    unfold W; omega
/-! ### order -/
def VP : Nat → List Nat → Int
  | 0, _ => 0
  | _ + 1, [] => 0
  | n + 1, c :: cs => (c + 1 : Nat) * 38 ^ n + VP n cs
theorem VP_bound : ∀ (n : Nat) (cs : List Nat), (∀ c ∈ cs, c < 37) → 0 ≤ VP n cs ∧ VP n cs < 38 ^ n
  | 0, _, _ => by simp [VP]
  | n + 1, [], _ => by
    have hp : (0 : Int) < 38 ^ (n + 1) := Int.pow_pos (by decide)
    simp only [VP]; omega
  | n + 1, c :: cs, h => by
    have ih := VP_bound n cs fun x m => h x (by simp [m])
    have hc := h c (by simp)
    have hp : (0 : Int) < 38 ^ n := Int.pow_pos (by decide)
    have h1 : ((c + 1 : Nat) : Int) * 38 ^ n ≤ 37 * 38 ^ n := Int.mul_le_mul_of_nonneg_right (by omega) (by omega)
    have h0 : 0 ≤ ((c + 1 : Nat) : Int) * 38 ^ n := Int.mul_nonneg (by omega) (by omega)
    simp only [VP, Int.pow_succ]
    omega
theorem VP_val : ∀ (n : Nat) (cs : List Nat), cs.length ≤ n → VL (cs.map (· + 1) ++ List.replicate (n - cs.length) 0) = VP n cs
  | 0, [], _ => rfl
  | n + 1, [], _ => by simpa [VP] using VL_zeros (n + 1)
  | n + 1, c :: cs, h => by
    have h' : cs.length ≤ n := by simpa using h
    have e : (c :: cs).map (· + 1) ++ List.replicate (n + 1 - (c :: cs).length) 0 = [c + 1] ++ (cs.map (· + 1) ++ List.replicate (n - cs.length) 0) := by
      simp
    rw [e, VL_app, VP_val n cs h']
    have hl : (cs.map (· + 1) ++ List.replicate (n - cs.length) 0).length = n := by simp; omega
    rw [hl]
    simp [VP, VL]
theorem W_VP {cs : List Nat} (h : cs.length ≤ 11) : W cs = VP 11 cs := VP_val 11 cs h
theorem VP_cmp : ∀ (n : Nat) (a b : List Nat), a.length ≤ n → b.length ≤ n → (∀ c ∈ a, c < 37) → (∀ c ∈ b, c < 37) → (nm a < nm b ↔ VP n a < VP n b) ∧ (a = b ↔ VP n a = VP n b)
  | 0, a, b, ha, hb, _, _ => by
    have : a = [] := List.eq_nil_of_length_eq_zero (by omega)
    subst this
    have : b = [] := List.eq_nil_of_length_eq_zero (by omega)
    subst this
    simp [VP, nm]
  | n + 1, [], [], _, _, _, _ => by simp [VP, nm]
  | n + 1, [], d :: b, _, _, _, hb => by
    have h1 := VP_bound n b fun x m => hb x (by simp [m])
    have hp : (0 : Int) < 38 ^ n := Int.pow_pos (by decide)
    have h4 : 0 < ((d + 1 : Nat) : Int) * 38 ^ n := Int.mul_pos (by omega) hp
    simp only [VP, nm, List.map_nil, List.map_cons]
    refine ⟨⟨fun _ => by omega, fun _ => List.nil_lt_cons _ _⟩, ⟨fun e => (by cases e), fun e => (by omega)⟩⟩
  | n + 1, c :: a, [], _, _, ha, _ => by
    have h1 := VP_bound n a fun x m => ha x (by simp [m])
    have hp : (0 : Int) < 38 ^ n := Int.pow_pos (by decide)
    have h4 : 0 < ((c + 1 : Nat) : Int) * 38 ^ n := Int.mul_pos (by omega) hp
    simp only [VP, nm, List.map_nil, List.map_cons]
    refine ⟨⟨fun h => absurd h (List.not_lt_nil _), fun _ => by omega⟩, ⟨fun e => (by cases e), fun e => (by omega)⟩⟩
  | n + 1, c :: a, d :: b, hla, hlb, ha, hb => by
    have ih := VP_cmp n a b (by simpa using hla) (by simpa using hlb) (fun x m => ha x (by simp [m])) (fun x m => hb x (by simp [m]))
    have b1 := VP_bound n a fun x m => ha x (by simp [m])
    have b2 := VP_bound n b fun x m => hb x (by simp [m])
    have hc := ha c (by simp)
    have hd := hb d (by simp)
    have hp : (0 : Int) < 38 ^ n := Int.pow_pos (by decide)
    have e1 : nm (c :: a) < nm (d :: b) ↔ c < d ∨ (c = d ∧ nm a < nm b) := by
      simp only [nm, List.map_cons, List.cons_lt_cons_iff, sg_lt c hc d hd]
      constructor
      · rintro (h | ⟨h1, h2⟩)
        · exact .inl h
        · exact .inr ⟨sg_inj hc hd h1, h2⟩
      · rintro (h | ⟨rfl, h2⟩)
        · exact .inl h
        · exact .inr ⟨rfl, h2⟩
    have k1 : c < d → VP (n + 1) (c :: a) < VP (n + 1) (d :: b) := fun h => by
      have : ((c + 1 : Nat) : Int) * 38 ^ n + 38 ^ n ≤ ((d + 1 : Nat) : Int) * 38 ^ n := by
        have h5 : ((c + 1 : Nat) : Int) * 38 ^ n + 38 ^ n = ((c + 2 : Nat) : Int) * 38 ^ n := by
          rw [show ((c + 2 : Nat) : Int) = ((c + 1 : Nat) : Int) + 1 from by omega, Int.add_mul, Int.one_mul]
        rw [h5]; exact Int.mul_le_mul_of_nonneg_right (by omega) (by omega)
      simp only [VP]; omega
    have k2 : d < c → VP (n + 1) (d :: b) < VP (n + 1) (c :: a) := fun h => by
      have : ((d + 1 : Nat) : Int) * 38 ^ n + 38 ^ n ≤ ((c + 1 : Nat) : Int) * 38 ^ n := by
        have h5 : ((d + 1 : Nat) : Int) * 38 ^ n + 38 ^ n = ((d + 2 : Nat) : Int) * 38 ^ n := by
          rw [show ((d + 2 : Nat) : Int) = ((d + 1 : Nat) : Int) + 1 from by omega, Int.add_mul, Int.one_mul]
        rw [h5]; exact Int.mul_le_mul_of_nonneg_right (by omega) (by omega)
      simp only [VP]; omega
    rcases Nat.lt_trichotomy c d with h | rfl | h
    · have := k1 h
      refine ⟨e1.trans ⟨fun _ => this, fun _ => .inl h⟩, ⟨fun e => (by cases e; omega), fun e => (by omega)⟩⟩
    · refine ⟨e1.trans ⟨fun z => ?_, fun z => .inr ⟨rfl, ih.1.mpr ?_⟩⟩, ⟨fun e => (by cases e; rfl), fun e => ?_⟩⟩
      · rcases z with z | ⟨_, z⟩
        · omega
        · have := ih.1.mp z; simp only [VP]; omega
      · simp only [VP] at z; omega
      · simp only [VP] at e
        rw [ih.2.mpr (by omega)]
    · have := k2 h
      refine ⟨e1.trans ⟨fun z => ?_, fun z => ?_⟩, ⟨fun e => (by cases e; omega), fun e => (by omega)⟩⟩
      · rcases z with z | ⟨z, _⟩ <;> omega
      · omega
theorem W_lt {a b : List Nat} (ha : IsN a) (hb : IsN b) : (nm a < nm b ↔ W a < W b) := by
  rw [W_VP ha.hi, W_VP hb.hi]; exact (VP_cmp 11 a b ha.hi hb.hi ha.all hb.all).1
theorem W_eq {a b : List Nat} (ha : IsN a) (hb : IsN b) : (a = b ↔ W a = W b) := by
  rw [W_VP ha.hi, W_VP hb.hi]; exact (VP_cmp 11 a b ha.hi hb.hi ha.all hb.all).2
end NW
set_option Elab.async false
set_option linter.all false
set_option maxRecDepth 100000
set_option maxHeartbeats 1000000
namespace K23
open PySem L2 LF NW
theorem size24 : sizeLine = 16777216 := rfl
/-- the pot: the digits' rest, a mixed number, a count of at most m -/
def Pot (h : M) (b : Nat) (m : Int) : Prop := ∃ r f s : Int, h[b]? = some (.lst [.int r, .int f, .int s]) ∧ 0 ≤ r ∧ 0 ≤ f ∧ f < 10 ^ 30 ∧ 0 ≤ s ∧ s ≤ m
theorem Pot.fr {S : List Nat} {h h' : M} {b : Nat} {m : Int} (B : Pot h b m) (F : Fr S h h') (hS : b ∉ S) : Pot h' b m := by
  obtain ⟨r, f, s, hb, hr⟩ := B
  exact ⟨r, f, s, F.at_ _ _ hS hb, hr⟩
theorem Pot.lt {h : M} {b : Nat} {m : Int} (B : Pot h b m) : b < h.length := by
  obtain ⟨_, _, _, hb, _⟩ := B
  exact at_lt hb
theorem Pot.le {h : M} {b : Nat} {m m' : Int} (B : Pot h b m) (hm : m ≤ m') : Pot h b m' := by
  obtain ⟨r, f, s, hb, h1, h2, h3, h4, h5⟩ := B
  exact ⟨r, f, s, hb, h1, h2, h3, h4, by omega⟩
section
variable {h : M} {b : Nat} {m : Int} {Q : D → M → Prop} {X : XP}
theorem cm {i j : Int} (h1 : -1000000000000000000000000000000000000000000000000000000000000 < i) (h2 : i < 1000000000000000000000000000000000000000000000000000000000000) (h3 : -1000000000000000000000000000000000000000000000000000000000000 < j) (h4 : j < 1000000000000000000000000000000000000000000000000000000000000) : CMulW i j := cmulW (by omega) (by omega) (by omega) (by omega)
theorem take {many : Int} (B : Pot h b m) (hm : m ≤ 1000000) (h0 : 0 < many) (h1 : many < 2 ^ 100) (K : ∀ z h', 0 ≤ z → z < many → Pot h' b (m + 1) → Fr [b] h h' → Q (.int z) h') : @Wc D (m_law_take_u [.loc b, .int many] h) ⟨Q, X⟩ := by
  obtain ⟨r, f, s, hb, hr, hf, hf2, hs, hs2⟩ := B
  unfold m_law_take_u; rw [wp_fn]; unfold b_law_take_u
  have hset : ∀ o, (List.set h b o)[b]? = some o := fun o => at_set hb
  have fin : ∀ (r' f' s' : Int), 0 ≤ r' → 0 ≤ f' → f' < 10 ^ 30 → 0 ≤ s' → s' ≤ m + 1 → ∀ z, 0 ≤ z → z < many → Q (.int z) (List.set h b (.lst [.int r', .int f', .int s'])) :=
    fun r' f' s' h1 h2 h3 h4 h5 z z0 z1 => K z _ z0 z1 ⟨r', f', s', hset _, h1, h2, h3, h4, h5⟩ (Fr.set _ (by simp))
  simp [hb, hset, h0]
  split
  · exact ⟨cdivW h0 (by omega), fin _ _ _ (Int.ediv_nonneg hr (by omega)) hf hf2 hs (by omega) _ (Int.emod_nonneg _ (by omega)) (Int.emod_lt_of_pos _ h0)⟩
  · have hf3 : f < 1000000000000000000000000000000 := hf2
    obtain ⟨g, hg⟩ : ∃ g, (f * 48271 + (s + 1) * 69621 + 11) % 2147483647 = g := ⟨_, rfl⟩
    have g0 : 0 ≤ g := by omega
    have g1 : g < 2147483647 := by omega
    have gg : 0 ≤ g * g ∧ g * g ≤ 2147483646 * 2147483646 := ⟨Int.mul_nonneg g0 g0, Int.mul_le_mul (by omega) (by omega) g0 (by omega)⟩
    simp [hg]
    refine ⟨cm (by omega) (by omega) (by omega) (by omega), cm (by omega) (by omega) (by omega) (by omega), cm (by omega) (by omega) (by omega) (by omega), cdivW (by omega) (by omega), ?_, cdivW (by omega) (by omega), ?_⟩
    · exact cm (by omega) (by omega) (by omega) (by omega)
    · exact fin _ _ _ hr g0 (by omega) (by omega) (by omega) _ (Int.emod_nonneg _ (by omega)) (Int.emod_lt_of_pos _ h0)
theorem atI_in {xs : List D} {i : Int} (h0 : 0 ≤ i) (h1 : i < xs.length) : ∃ d, xs[i.toNat]? = some d ∧ atI xs i = some d := by
  have hl : i.toNat < xs.length := by omega
  refine ⟨xs[i.toNat], List.getElem?_eq_getElem hl, ?_⟩
  have := atI_n (xs := xs) (n := i.toNat)
  rw [Int.toNat_of_nonneg h0] at this
  rw [this]; exact List.getElem?_eq_getElem hl
theorem pot {ns : List Int} {p : Int} (p0 : 0 ≤ p) (p1 : p ≤ 1000) (K : ∀ b h', Pot h' b 0 → h.length ≤ b → Fr [] h h' → Q (.loc b) h') : @Wc D (m_law_pot_u [.cl (ns.map .int), .int p] h) ⟨Q, X⟩ := by
  unfold m_law_pot_u; rw [wp_fn]; unfold b_law_pot_u
  have fin : ∀ (r' f' : Int), 0 ≤ r' → 0 ≤ f' → f' < 10 ^ 30 → Q (.loc h.length) (h ++ [.lst [.int r', .int f', .int 0]]) :=
    fun r' f' h1 h2 h3 => K _ _ ⟨r', f', 0, by simp, h1, h2, h3, by omega, by omega⟩ (Nat.le_refl _) (.cat _)
  have c5 : CMulW 5 p := cm (by omega) (by omega) (by omega) (by omega)
  have hm : (0 : Int) < (10 ^ 50) ^ 24 := by decide +kernel
  generalize hbig : ((10 : Int) ^ 50) ^ 24 = big at hm ⊢
  rw [ws_seq]
  refine Ws.cut (fun e h' => h = h' ∧ ∃ c : Int, e = [.va (.cl (ns.map .int)), .va (.int p), .va (.int c), .no]) ?_ ?_
  · simp [c5]
  rintro _ _ ⟨rfl, c, rfl⟩
  rw [ws_seq]
  refine Ws.cut (fun e h' => h = h' ∧ ∃ c : Int, e = [.va (.cl (ns.map .int)), .va (.int p), .va (.int c), .no]) ?_ ?_
  · by_cases hl : p < ns.length
    · obtain ⟨d, e1, e2⟩ := atI_in (xs := ns.map D.int) (i := p) p0 (by simpa using hl)
      rw [List.getElem?_map, Option.map_eq_some_iff] at e1
      obtain ⟨z, e1, rfl⟩ := e1
      simp [e2, hl]
    · cases ns with
      | nil => simp [hl]; omega
      | cons n ns =>
        have hl' : ¬ p < (ns.length : Int) + 1 := by simpa using hl
        simp [hl', c5]
  rintro _ _ ⟨rfl, c, rfl⟩
  simp [hm, size24]
  split
  · exact ⟨cm (by omega) (by omega) (by omega) (by omega), fin _ _ (Int.emod_nonneg _ (Int.ne_of_gt hm)) (by omega) (by omega)⟩
  · exact ⟨cm (by omega) (by omega) (by omega) (by omega), fin _ _ (by omega) (by omega) (by omega)⟩
/-- the draws: a pot, n of them at most -/
def Tk (b : Nat) (m : Int) (h h' : M) : Prop := Pot h' b m ∧ Fr [b] h h'
theorem Tk.tr {m m' : Int} {h h1 h2 : M} (T : Tk b m h h1) (T2 : Tk b m' h1 h2) : Tk b m' h h2 := ⟨T2.1, T.2.trans T2.2⟩
theorem number {many : Int} (B : Pot h b m) (hm : m ≤ 900000) (h0 : 0 < many) (h1 : many < 2 ^ 100) (K : ∀ z h', 0 ≤ z → z < many → Tk b (m + 2) h h' → Q (.int z) h') : @Wc D (m_law_number_u [.loc b, .int many] h) ⟨Q, X⟩ := by
  unfold m_law_number_u; rw [wp_fn]; unfold b_law_number_u
  simp
  refine take B (by omega) (by omega) (by omega) fun w h1 w0 w1 B1 F1 => ?_
  simp
  split
  · refine take B1 (by omega) (by omega) (by omega) fun z h2 z0 z1 B2 F2 => ?_
    simp
    have T : Tk b (m + 2) h h2 := ⟨B2.le (by omega), F1.trans F2⟩
    split
    · exact K _ _ (by omega) (by omega) T
    · exact K _ _ (by omega) (by omega) T
  split
  · refine take B1 (by omega) (by omega) (by omega) fun z h2 z0 z1 B2 F2 => ?_
    simp
    have T : Tk b (m + 2) h h2 := ⟨B2.le (by omega), F1.trans F2⟩
    split
    · exact K _ _ (by omega) (by omega) T
    · exact K _ _ (by omega) (by omega) T
  · refine take B1 (by omega) (by omega) (by omega) fun z h2 z0 z1 B2 F2 => ?_
    exact K _ _ (by omega) (by omega) ⟨B2.le (by omega), F1.trans F2⟩
theorem SGL_len : SGL.length = 37 := rfl
theorem sg_ix {y : Int} (y0 : 0 ≤ y) (y1 : y < 37) : atI SGL y = some (sg y.toNat) := by
  obtain ⟨c, rfl⟩ : ∃ c : Nat, y = (c : Int) := ⟨y.toNat, by omega⟩
  rw [atI_n, sg_at (by omega)]; simp
theorem name (B : Pot h b m) (hm : m ≤ 900000) (K : ∀ cs h', IsN cs → Tk b (m + 2) h h' → Q (.str (T (nm cs))) h') : @Wc D (m_law_name_u [.loc b] h) ⟨Q, X⟩ := by
  unfold m_law_name_u; rw [wp_fn]; unfold b_law_name_u
  simp [sg_lit, nil_lit]
  refine take B (by omega) (by omega) (by omega) fun w h1 w0 w1 B1 F1 => ?_
  simp
  refine take B1 (by omega) (by omega) (by omega) fun k h2 k0 k1 B2 F2 => ?_
  have T2 : Tk b (m + 2) h h2 := ⟨B2.le (by omega), F1.trans F2⟩
  simp
  refine ⟨by omega, ?_⟩
  refine floop_inv (fun i env h' => h2 = h' ∧ ∃ (cs : List Nat) (w : Int) (s : Sl), env = [.va (.loc b), .va (.str (T SGL)), .va (.int w), .va (.str (T (nm cs))), s] ∧ cs.length = i ∧ ∀ c ∈ cs, c < 37) ⟨rfl, [], w, _, rfl, rfl, by simp⟩ (fun _ _ _ _ _ => trivial) ?_ ?_
  · rintro i d _ _ hd ⟨rfl, cs, w, s, rfl, hl, hc⟩
    obtain ⟨hi, rfl⟩ := rg_at hd
    have hq := sg_ix (y := w % 37) (by omega) (by omega)
    simp [size24, SGL_len, hq]
    refine ⟨by omega, cdivW (by omega) (by omega), cs ++ [(w % 37).toNat], by simp [nm], by simp [hl], fun c hc' => ?_⟩
    simp only [List.mem_append, List.mem_singleton] at hc'
    rcases hc' with hc' | rfl
    · exact hc c hc'
    · omega
  · rintro _ _ ⟨rfl, cs, w, s, rfl, hl, hc⟩
    simp at hl ⊢
    exact K cs _ ⟨by omega, by omega, hc⟩ T2
end
end K23
set_option Elab.async false
set_option linter.all false
set_option maxRecDepth 100000
set_option maxHeartbeats 1000000
namespace K23
open PySem L2 LF NW
def nD (cs : List Nat) : D := .str (T (nm cs))
inductive Fd where
  | path | name | word | cells | most | «at» | size | mode | owner | count
deriving DecidableEq
def fdS : Fd → Str
  | .path => "path" | .name => "name" | .word => "word" | .cells => "cells" | .most => "most" | .at => "at" | .size => "size" | .mode => "mode" | .owner => "owner" | .count => "count"
inductive It where
  | path (ps : List (List Nat)) | name (cs : List Nat) | num (i : Int) | non | lim (i : Int) | cells (ws : List Int)
def itD : It → D
  | .path ps => .tup (ps.map nD)
  | .name cs => nD cs
  | .num i => .int i
  | .non => .non
  | .lim i => .int i
  | .cells ws => .tup (ws.map .int)
def itW : It → List Int
  | .path ps => (ps.length : Int) :: ps.map W
  | .name cs => [W cs]
  | .num i => [i]
  | .non => [0]
  | .lim i => [i + 1]
  | .cells ws => (ws.length : Int) :: ws
abbrev PR : Int := 2305843009213693951
def Pth (ps : List (List Nat)) : Prop := ps.length ≤ 6 ∧ ∀ p ∈ ps, IsN p
def Cel (ws : List Int) : Prop := 1 ≤ ws.length ∧ ws.length ≤ 16 ∧ ∀ w ∈ ws, 0 ≤ w ∧ w < PR
def Fit : Fd → It → Prop
  | .path, .path ps => Pth ps
  | .name, .name cs => IsN cs
  | .word, .num i => 0 ≤ i ∧ i < PR
  | .cells, .cells ws => Cel ws
  | .most, .non => True
  | .most, .lim i => 0 ≤ i ∧ i ≤ 1000000
  | .at, .num i => 0 ≤ i ∧ i ≤ 1000000
  | .size, .num i => 0 ≤ i ∧ i ≤ 1000000
  | .mode, .num i => 0 ≤ i ∧ i ≤ 63
  | .owner, .num i => 0 ≤ i ∧ i ≤ 999
  | _, _ => False
def Fits : List Fd → List It → Prop
  | [], [] => True
  | f :: fs, i :: is => Fit f i ∧ Fits fs is
  | _, _ => False
def KT : List (Str × List Fd) := [("create", [.path]), ("folder", [.path]), ("link", [.path, .path]), ("rename", [.path, .path]), ("remove", [.path]), ("rmdir", [.path]), ("write", [.path, .at, .cells]), ("resize", [.path, .size]), ("mark", [.path, .name, .word]), ("unmark", [.path, .name]), ("rights", [.path, .mode]), ("give", [.path, .owner]), ("limit", [.owner, .most]), ("snapshot", [.name]), ("clone", [.name]), ("drop", [])]
def kn (k : Nat) : Str := (KT.getD k ("", [])).1
def fds (k : Nat) : List Fd := (KT.getD k ("", [])).2
structure Cl where
  k : Nat
  u : Int
  v : List Nat
  its : List It
def clD (c : Cl) : D := .tup (.str (kn c.k) :: .int c.u :: nD c.v :: c.its.map itD)
structure Ok (c : Cl) : Prop where
  hk : c.k < 16
  hu : 0 ≤ c.u ∧ c.u ≤ 999
  hv : IsN c.v
  hf : Fits (fds c.k) c.its
  hw : ∀ ps a ws, c.its = [.path ps, .num a, .cells ws] → a + ws.length ≤ 1000000
theorem kn_inj : ∀ j, j < 16 → ∀ k, k < 16 → ((kn k = kn j) ↔ k = j) := by decide +kernel
theorem klit : ([.str "create", .str "folder", .str "link", .str "rename", .str "remove", .str "rmdir", .str "write", .str "resize", .str "mark", .str "unmark", .str "rights", .str "give", .str "limit", .str "snapshot", .str "clone", .str "drop"] : List D) = (List.range 16).map fun k => .str (kn k) := by rfl
theorem l2 : ("link" : Str) = kn 2 := by rfl
theorem l3 : ("rename" : Str) = kn 3 := by rfl
theorem l5 : ("rmdir" : Str) = kn 5 := by rfl
theorem l6 : ("write" : Str) = kn 6 := by rfl
theorem l7 : ("resize" : Str) = kn 7 := by rfl
theorem l8 : ("mark" : Str) = kn 8 := by rfl
theorem l9 : ("unmark" : Str) = kn 9 := by rfl
theorem l10 : ("rights" : Str) = kn 10 := by rfl
theorem l11 : ("give" : Str) = kn 11 := by rfl
theorem l12 : ("limit" : Str) = kn 12 := by rfl
theorem l13 : ("snapshot" : Str) = kn 13 := by rfl
theorem l14 : ("clone" : Str) = kn 14 := by rfl
theorem l15 : ("drop" : Str) = kn 15 := by rfl
theorem kd_at : ∀ k, k < 16 → valD kd_FIELDS_u (kn k) = some (.ct ((fds k).map fun f => .str (fdS f)))
  | 0, _ => by kernel_rfl
  | 1, _ => by kernel_rfl
  | 2, _ => by kernel_rfl
  | 3, _ => by kernel_rfl
  | 4, _ => by kernel_rfl
  | 5, _ => by kernel_rfl
  | 6, _ => by kernel_rfl
  | 7, _ => by kernel_rfl
  | 8, _ => by kernel_rfl
  | 9, _ => by kernel_rfl
  | 10, _ => by kernel_rfl
  | 11, _ => by kernel_rfl
  | 12, _ => by kernel_rfl
  | 13, _ => by kernel_rfl
  | 14, _ => by kernel_rfl
  | 15, _ => by kernel_rfl
  | n + 16, h => by omega
section
variable {h : M} {b : Nat} {m : Int} {Q : D → M → Prop} {X : XP}
/-- a list that is drawn, two draws an item -/
theorem compG {α : Type} {P : α → Prop} {f : α → D} {me : ME} {env : En} {k n : Nat} (B : Pot h b m) (hn : n ≤ 1000)
    (step : ∀ (i : Nat) g, i < n → Pot g b (m + 2 * i) → @Wc D (me (env.set k (.va (.int i))) g) ⟨fun d g' => ∃ a, d = f a ∧ P a ∧ Tk b (m + 2 * i + 2) g g', noEx⟩)
    (K : ∀ (xs : List α) h', xs.length = n → (∀ x ∈ xs, P x) → h'[h.length]? = some (.lst (xs.map f)) → Tk b (m + 2 * n) h h' → Q (.loc h.length) h') : @Wc D (lcloopN (fun _ => True) env (gN k) mYes me h.length (rgItems 0 n) (h ++ [.lst []])) ⟨Q, X⟩ := by
  have hb1 := B.lt
  refine lcloop_inv (fun i acc h' => ∃ xs : List α, acc = xs.map f ∧ xs.length = i ∧ (∀ x ∈ xs, P x) ∧ h'[h.length]? = some (.lst acc) ∧ Pot h' b (m + 2 * i) ∧ Fr [b, h.length] (h ++ [.lst []]) h') ⟨[], rfl, rfl, by simp, by simp, (B.fr (.cat (S := []) _) (by simp)).le (by omega), .refl _ _⟩ (fun _ _ _ _ _ => trivial) ?_ ?_
  · rintro i d acc h' hd ⟨xs, rfl, hl, ha, e, B, F⟩
    obtain ⟨hi, rfl⟩ := rg_at hd
    simp
    refine Wc.mono (step i h' hi B) ?_ (fun _ _ _ _ z => z)
    rintro _ h3 ⟨a, rfl, pa, T3⟩
    have e3 := T3.2.at e (by simp; omega)
    refine ⟨e3, by simp [size24]; omega, xs ++ [a], by simp, by simp; omega, ?_, at_set e3, (T3.1.fr (.set (S := [h.length]) _ (by simp)) (by simp; omega)).le (by omega), F.trans ((T3.2.mono (by simp)).trans (.set _ (by simp)))⟩
    intro c m
    simp only [List.mem_append, List.mem_singleton] at m
    rcases m with m | rfl
    · exact ha c m
    · exact pa
  rintro _ h3 ⟨xs, rfl, hl, ha, e, B3, F3⟩
  rw [rg_len] at hl B3
  exact K xs h3 hl ha e ⟨B3, ((Fr.cat [.lst []]).trans F3).cut (by simp)⟩
theorem path {n : Int} (B : Pot h b m) (hm : m ≤ 800000) (n0 : 0 ≤ n) (n1 : n ≤ 6) (K : ∀ (ps : List (List Nat)) h', ps.length = n.toNat → Pth ps → Tk b (m + 12) h h' → Q (.tup (ps.map nD)) h') : @Wc D (m_law_path_u [.loc b, .int n] h) ⟨Q, X⟩ := by
  unfold m_law_path_u; rw [wp_fn]; unfold b_law_path_u
  simp
  refine ⟨⟨by omega, by omega⟩, ?_⟩
  refine compG (P := IsN) (f := nD) B (by omega) (fun i g hi Bg => ?_) fun ps h' hl hP e T => ?_
  · simp
    refine name Bg (by omega) fun cs g' N T => ?_
    exact ⟨cs, rfl, N, T.1.le (by omega), T.2⟩
  · simp [e]
    exact K ps h' hl ⟨by omega, hP⟩ ⟨T.1.le (by omega), T.2⟩
theorem cellsL {n : Nat} {env : En} {k : Nat} {me : ME} (B : Pot h b m) (hm : m ≤ 800000) (n1 : n ≤ 16) (hme : ∀ i g, me (env.set k (.va (.int i))) g = m_law_number_u [.loc b, .int 2305843009213693951] g) (K : ∀ (ws : List Int) h', ws.length = n → (∀ w ∈ ws, 0 ≤ w ∧ w < PR) → h'[h.length]? = some (.lst (ws.map .int)) → Tk b (m + 32) h h' → Q (.loc h.length) h') : @Wc D (lcloopN (fun _ => True) env (gN k) mYes me h.length (rgItems 0 n) (h ++ [.lst []])) ⟨Q, X⟩ := by
  refine compG (P := fun w => 0 ≤ w ∧ w < PR) (f := D.int) B (by omega) (fun i g hi Bg => ?_) fun ws h' hl hP e T => ?_
  · rw [hme]
    refine number Bg (by omega) (by omega) (by omega) fun w g' w0 w1 T => ?_
    exact ⟨w, rfl, ⟨w0, w1⟩, T.1.le (by omega), T.2⟩
  · exact K ws h' hl hP e ⟨T.1.le (by omega), T.2⟩
end
end K23
set_option Elab.async false
set_option linter.all false
set_option maxRecDepth 100000
set_option maxHeartbeats 1000000
namespace K23
open PySem L2 LF NW
section
variable {h : M} {b : Nat} {m : Int} {Q : D → M → Prop} {X : XP}
theorem keq {k : Nat} (hk : k < 16) (j : Nat) (hj : j < 16) : (kn k = kn j) = (k = j) := propext (kn_inj j hj k hk)
theorem Fits.len : ∀ {fs : List Fd} {is : List It}, Fits fs is → fs.length = is.length
  | [], [], _ => rfl
  | f :: fs, i :: is, h => by simp [Fits.len h.2]
  | [], _ :: _, h => h.elim
  | _ :: _, [], h => h.elim
theorem fds_len : ∀ k, k < 16 → (fds k).length ≤ 3 := by decide +kernel
theorem rest {k : Nat} (hk : k < 12) (B : Pot h b m) (hm : m ≤ 700000) (K : ∀ its h', Fits ((fds k).drop 1) its → (∀ a ws, its = [.num a, .cells ws] → a + ws.length ≤ 1000000) → Tk b (m + 60) h h' → Q (.tup (its.map itD)) h') : @Wc D (m_law_rest_u [.loc b, .str (kn k)] h) ⟨Q, X⟩ := by
  unfold m_law_rest_u; rw [wp_fn]; unfold b_law_rest_u
  have hk16 : k < 16 := by omega
  simp [l2, l3, l6, l7, l8, l9, l10, l11, keq hk16 2, keq hk16 3, keq hk16 6, keq hk16 7, keq hk16 8, keq hk16 9, keq hk16 10, keq hk16 11, size24]
  have pathEnd : ∀ (hk' : k = 2 ∨ k = 3), @Wc D (m_law_take_u [D.loc b, D.int 7] h) ⟨fun z h => ∃ i, z = .int i ∧ @Wc D (m_law_path_u [.loc b, .int i] h) ⟨fun x h => Q (.tup [x]) h, X⟩, X⟩ := fun hk' => by
    refine take B (by omega) (by omega) (by omega) fun n h1 n0 n1 B1 F1 => ⟨n, rfl, ?_⟩
    refine path B1 (by omega) n0 (by omega) fun ps h2 hl hp T => ?_
    refine K [.path ps] _ ?_ (by simp) ⟨T.1.le (by omega), F1.trans T.2⟩
    rcases hk' with rfl | rfl
    · exact ⟨hp, trivial⟩
    · exact ⟨hp, trivial⟩
  split
  · rename_i hk'
    refine Wc.mono (pathEnd (.inl hk')) ?_ (fun _ _ _ _ z => z)
    rintro _ g ⟨i, rfl, q⟩
    simp
    exact q
  split
  · rename_i hk'
    refine Wc.mono (pathEnd (.inr hk')) ?_ (fun _ _ _ _ z => z)
    rintro _ g ⟨i, rfl, q⟩
    simp
    exact q
  split
  · rename_i hk'
    refine take B (by omega) (by omega) (by omega) fun n h1 n0 n1 B1 F1 => ?_
    simp
    refine ⟨by omega, ?_⟩
    refine cellsL B1 (by omega) (by omega) (fun i g => by simp [mL, mFix, mCons, mVar, mC, mNil]) fun ws h2 hl hw e T => ?_
    simp [e]
    refine number T.1 (by omega) (by omega) (by omega) fun a h3 a0 a1 T3 => ?_
    simp [size24]
    refine K [.num a, .cells ws] _ ?_ ?_ ⟨T3.1.le (by omega), F1.trans (T.2.trans T3.2)⟩
    · subst hk'
      exact ⟨⟨a0, by omega⟩, ⟨by omega, by omega, hw⟩, trivial⟩
    · intro a' ws' e'
      simp at e'
      obtain ⟨rfl, rfl⟩ := e'
      omega
  split
  · rename_i hk'
    refine number B (by omega) (by omega) (by omega) fun a h3 a0 a1 T3 => ?_
    simp [size24]
    refine K [.num a] _ ?_ (by simp) ⟨T3.1.le (by omega), T3.2⟩
    subst hk'
    exact ⟨⟨a0, by omega⟩, trivial⟩
  split
  · rename_i hk'
    refine name B (by omega) fun cs h2 N T2 => ?_
    simp
    refine number T2.1 (by omega) (by omega) (by omega) fun a h3 a0 a1 T3 => ?_
    simp [size24]
    refine K [.name cs, .num a] _ ?_ (by simp) ⟨T3.1.le (by omega), T2.2.trans T3.2⟩
    subst hk'
    exact ⟨N, ⟨a0, a1⟩, trivial⟩
  split
  · rename_i hk'
    refine name B (by omega) fun cs h2 N T2 => ?_
    simp [size24]
    refine K [.name cs] _ ?_ (by simp) ⟨T2.1.le (by omega), T2.2⟩
    subst hk'
    exact ⟨N, trivial⟩
  split
  · rename_i hk'
    refine number B (by omega) (by omega) (by omega) fun a h3 a0 a1 T3 => ?_
    simp [size24]
    refine K [.num a] _ ?_ (by simp) ⟨T3.1.le (by omega), T3.2⟩
    subst hk'
    exact ⟨⟨a0, by omega⟩, trivial⟩
  split
  · rename_i hk'
    refine number B (by omega) (by omega) (by omega) fun a h3 a0 a1 T3 => ?_
    simp [size24]
    refine K [.num a] _ ?_ (by simp) ⟨T3.1.le (by omega), T3.2⟩
    subst hk'
    exact ⟨⟨a0, by omega⟩, trivial⟩
  · refine K [] _ ?_ (by simp) ⟨B.le (by omega), .refl _ _⟩
    have : k = 0 ∨ k = 1 ∨ k = 4 ∨ k = 5 := by omega
    rcases this with rfl | rfl | rfl | rfl <;> trivial
@[simp] theorem v_addT {xs ys : List D} : fAdd (.tup xs) (.tup ys) h = if xs.length + ys.length ≤ sizeLine ∧ xs ≠ [] then .ok (.tup (xs ++ ys)) h else .stuck := (rfl)
theorem kindsL {Q : D → M → Prop} (K : Q (.loc h.length) (h ++ [O.lst ((List.range 16).map fun k => .str (kn k))]) ) : @Wc D (m_law_kinds_u [] h) ⟨Q, X⟩ := by
  unfold m_law_kinds_u; rw [wp_fn]; unfold b_law_kinds_u
  simp [size24]
  rw [← klit] at K
  exact K
theorem kat {k : Nat} (hk : k < 16) : atI ((List.range 16).map fun k => D.str (kn k)) (k : Int) = some (.str (kn k)) := by
  rw [atI_n, List.getElem?_map, List.getElem?_range hk]; rfl
theorem call (B : Pot h b m) (hm : m ≤ 600000) (K : ∀ c h', Ok c → Tk b (m + 100) h h' → Q (clD c) h') : @Wc D (m_law_call_u [.loc b] h) ⟨Q, X⟩ := by
  unfold m_law_call_u; rw [wp_fn]; unfold b_law_call_u
  have hb := B.lt
  simp
  refine kindsL ?_
  simp
  have C1 : Fr [] h (h ++ [O.lst ((List.range 16).map fun k => D.str (kn k))]) := Fr.cat _
  have e1 : (h ++ [O.lst ((List.range 16).map fun k => D.str (kn k))])[h.length]? = some (.lst ((List.range 16).map fun k => D.str (kn k))) := by simp
  refine take (B.fr C1 (by simp)) (by omega) (by omega) (by omega) fun k h2 k0 k1 B2 F2 => ?_
  obtain ⟨k, rfl⟩ : ∃ n : Nat, k = (n : Int) := ⟨k.toNat, by omega⟩
  have hk : k < 16 := by omega
  have e2 := F2.at e1 (by simp; omega)
  have F02 : Fr [b] h h2 := C1.nil.trans F2
  simp [e2, kat hk]
  refine number B2 (by omega) (by omega) (by omega) fun u h3 u0 u1 T3 => ?_
  simp
  refine name T3.1 (by omega) fun v h4 N T4 => ?_
  have T34 := T3.tr T4
  simp [l12, l13, l14, l15, keq hk 12, keq hk 13, keq hk 14, keq hk 15, size24]
  have hu : 0 ≤ u ∧ u ≤ 999 := by omega
  split
  · rename_i hk'
    refine K ⟨k, u, v, []⟩ _ ⟨hk, hu, N, ?_, by simp⟩ ⟨T4.1.le (by omega), F02.trans T34.2⟩
    subst hk'; trivial
  split
  · rename_i hk'
    refine name T4.1 (by omega) fun cs h5 N5 T5 => ?_
    simp [size24]
    refine K ⟨k, u, v, [.name cs]⟩ _ ⟨hk, hu, N, ?_, by simp⟩ ⟨T5.1.le (by omega), F02.trans (T34.2.trans T5.2)⟩
    subst hk'; exact ⟨N5, trivial⟩
  split
  · rename_i hk'
    refine name T4.1 (by omega) fun cs h5 N5 T5 => ?_
    simp [size24]
    refine K ⟨k, u, v, [.name cs]⟩ _ ⟨hk, hu, N, ?_, by simp⟩ ⟨T5.1.le (by omega), F02.trans (T34.2.trans T5.2)⟩
    subst hk'; exact ⟨N5, trivial⟩
  split
  · rename_i hk'
    refine number T4.1 (by omega) (by omega) (by omega) fun o h5 o0 o1 T5 => ?_
    simp
    refine number T5.1 (by omega) (by omega) (by omega) fun x h6 x0 x1 T6 => ?_
    have T := T34.tr (T5.tr T6)
    simp [size24]
    split
    · refine K ⟨k, u, v, [.num o, .non]⟩ _ ⟨hk, hu, N, ?_, by simp⟩ ⟨T6.1.le (by omega), F02.trans T.2⟩
      subst hk'; exact ⟨⟨o0, by omega⟩, trivial, trivial⟩
    · refine K ⟨k, u, v, [.num o, .lim (x - 1)]⟩ _ ⟨hk, hu, N, ?_, by simp⟩ ⟨T6.1.le (by omega), F02.trans T.2⟩
      subst hk'; exact ⟨⟨o0, by omega⟩, ⟨by omega, by omega⟩, trivial⟩
  · refine take T4.1 (by omega) (by omega) (by omega) fun n h5 n0 n1 B5 F5 => ?_
    simp
    refine path B5 (by omega) n0 (by omega) fun ps h6 hl hp T6 => ?_
    simp [size24]
    refine rest (k := k) (by omega) T6.1 (by omega) fun its h7 hf hw T7 => ?_
    have hfl := hf.len
    have hfl2 := fds_len k hk
    simp at hfl
    simp [size24]
    refine ⟨by omega, ?_⟩
    refine K ⟨k, u, v, .path ps :: its⟩ _ ⟨hk, hu, N, ?_, ?_⟩ ⟨T7.1.le (by omega), F02.trans (T34.2.trans (F5.trans (T6.2.trans T7.2)))⟩
    · have hfd : ∃ t, fds k = .path :: t := by
        have : k = 0 ∨ k = 1 ∨ k = 2 ∨ k = 3 ∨ k = 4 ∨ k = 5 ∨ k = 6 ∨ k = 7 ∨ k = 8 ∨ k = 9 ∨ k = 10 ∨ k = 11 := by omega
        rcases this with rfl | rfl | rfl | rfl | rfl | rfl | rfl | rfl | rfl | rfl | rfl | rfl <;> exact ⟨_, rfl⟩
      obtain ⟨t, ht⟩ := hfd
      show Fits (fds k) _
      rw [ht] at hf ⊢
      exact ⟨hp, hf⟩
    · intro ps' a ws e
      simp at e
      exact hw a ws e.2
end
end K23
set_option Elab.async false
set_option linter.all false
set_option maxRecDepth 100000
set_option maxHeartbeats 1000000
namespace K23
open PySem L2 LF NW
def is (xs : List Int) : List D := xs.map .int
theorem is_len {xs : List Int} : (is xs).length = xs.length := by simp [is]
section
variable {h : M} {b : Nat} {m : Int} {Q : D → M → Prop} {X : XP}
theorem fitted {c : Cl} {n : Int} (o : Ok c) (B : Pot h b m) (hm : m ≤ 500000) (K : ∀ c' h', Ok c' → Tk b (m + 100) h h' → Q (clD c') h') : @Wc D (m_law_fitted_u [.loc b, clD c, .int n] h) ⟨Q, X⟩ := by
  unfold m_law_fitted_u; rw [wp_fn]; unfold b_law_fitted_u
  have K0 := K c h o ⟨B.le (by omega), .refl _ _⟩
  obtain ⟨k, u, v, its⟩ := c
  simp [clD, size24] at K0 ⊢
  split
  · exact K ⟨15, u, v, []⟩ _ ⟨show (15 : Nat) < 16 by omega, o.hu, o.hv, trivial, by simp⟩ ⟨B.le (by omega), .refl _ _⟩
  by_cases h5 : 5 ≤ n
  · by_cases h7 : n ≤ 7
    · simp [fI, h5, h7, size24]
      refine path B (by omega) (by omega) (by omega) fun ps h2 hl hp T => ?_
      simp [size24]
      exact K ⟨5, u, v, [.path ps]⟩ _ ⟨show (5 : Nat) < 16 by omega, o.hu, o.hv, ⟨hp, trivial⟩, by simp⟩ ⟨T.1.le (by omega), T.2⟩
    · simp [fI, h5, h7, size24]
      by_cases h8 : n < 8
      · simp [h8]; exact K0
      by_cases h29 : 29 < n
      · simp [h8, h29]; exact K0
      · simp [h8, h29]
        obtain ⟨le, hle⟩ : ∃ le, (if 23 < n then n - 23 else 0) = le := ⟨_, rfl⟩
        obtain ⟨mi, hmi⟩ : ∃ mi, (if n - 8 < 6 then n - 8 else 6) = mi := ⟨_, rfl⟩
        have hle' : le = 0 ∧ n ≤ 23 ∨ le = n - 23 ∧ 23 < n := by split at hle <;> omega
        have hmi' : mi = 6 ∧ 14 ≤ n ∨ mi = n - 8 ∧ n < 14 := by split at hmi <;> omega
        rw [hle, hmi]
        refine take B (by omega) (by omega) (by omega) fun z h2 z0 z1 B2 F2 => ?_
        simp [hle]
        refine path B2 (by omega) (by omega) (by omega) fun ps h3 hl hp T3 => ?_
        simp
        refine ⟨by omega, ?_⟩
        refine cellsL T3.1 (by omega) (by omega) (fun i g => by simp [mL, mFix, mCons, mVar, mC, mNil]) fun ws h4 hwl hw e T4 => ?_
        simp [e]
        refine number T4.1 (by omega) (by omega) (by omega) fun a h5 a0 a1 T5 => ?_
        simp [size24]
        refine K ⟨6, u, v, [.path ps, .num a, .cells ws]⟩ _ ⟨show (6 : Nat) < 16 by omega, o.hu, o.hv, ⟨hp, ⟨a0, by omega⟩, ⟨by omega, by omega, hw⟩, trivial⟩, ?_⟩ ⟨T5.1.le (by omega), F2.trans (T3.2.trans (T4.2.trans T5.2))⟩
        intro ps' a' ws' e'
        simp at e'
        obtain ⟨rfl, rfl, rfl⟩ := e'
        omega
  · have h8 : n < 8 := by omega
    simp [fI, h5, h8]; exact K0
end
end K23
set_option Elab.async false
set_option linter.all false
set_option maxRecDepth 100000
set_option maxHeartbeats 1000000
namespace K23
open PySem L2 LF NW
section
variable {h : M} {b : Nat} {m : Int} {Q : D → M → Prop} {X : XP}
theorem isName {l : List Nat} (hl : l.length ≤ 4096) (K : Q (.bl (decide (1 ≤ l.length ∧ l.length ≤ 11 ∧ ∀ c ∈ l, c ∈ SGL))) h) : @Wc D (m_is_name [.str (T l)] h) ⟨Q, X⟩ := by
  unfold m_is_name; rw [wp_fn]; unfold b_is_name
  simp [sg_lit]
  have h24 : l.length ≤ sizeLine := by rw [size24]; omega
  by_cases h1 : l.length < 1
  · have : l = [] := List.eq_nil_of_length_eq_zero (by omega)
    subst this
    simpa using K
  · by_cases h2 : 11 < l.length
    · have e : decide (1 ≤ l.length ∧ l.length ≤ 11 ∧ ∀ c ∈ l, c ∈ SGL) = false := decide_eq_false (by omega)
      rw [e] at K
      simp [h24, show ¬ ((l.length : Int) < 1) from by omega, show (11 : Int) < l.length from by omega]
      exact K
    · simp [h24, show ¬ ((l.length : Int) < 1) from by omega, show ¬ ((11 : Int) < l.length) from by omega]
      refine floop_map (fun p env h' => h = h' ∧ (∃ s, env = [.va (.str (T l)), s]) ∧ ∀ c ∈ p, c ∈ SGL) ⟨rfl, ⟨_, rfl⟩, by simp⟩ (fun _ _ _ _ _ => trivial) ?_ ?_
      · rintro p c q _ _ hx ⟨rfl, ⟨s, rfl⟩, hp⟩
        simp
        by_cases hc : c ∈ SGL
        · simp [hc]
          intro x hx'
          rcases hx' with hx' | rfl
          · exact hp x hx'
          · exact hc
        · simp [hc]
          have e : decide (1 ≤ l.length ∧ l.length ≤ 11 ∧ ∀ c ∈ l, c ∈ SGL) = false := decide_eq_false fun z => hc (z.2.2 c (by rw [hx]; simp))
          rw [e] at K
          exact K
      · rintro _ _ ⟨rfl, ⟨s, rfl⟩, hp⟩
        simp
        have e : decide (1 ≤ l.length ∧ l.length ≤ 11 ∧ ∀ c ∈ l, c ∈ SGL) = true := decide_eq_true ⟨by omega, by omega, hp⟩
        rw [e] at K
        exact K
theorem isN_ok {cs : List Nat} (N : IsN cs) : decide (1 ≤ (nm cs).length ∧ (nm cs).length ≤ 11 ∧ ∀ c ∈ nm cs, c ∈ SGL) = true := by
  refine decide_eq_true ⟨by simpa using N.lo, by simpa using N.hi, fun c hc => ?_⟩
  simp only [nm, List.mem_map] at hc
  obtain ⟨d, hd, rfl⟩ := hc
  exact sg_mem (N.all d hd)
theorem pad_at {cs : List Nat} {k : Nat} (N : IsN cs) (hk : k < 11) : (pad cs)[k]? = some (match cs[k]? with | some c => c + 1 | none => 0) := by
  unfold pad
  by_cases hl : k < cs.length
  · rw [List.getElem?_append_left (by simpa using hl), List.getElem?_map, List.getElem?_eq_getElem hl]; rfl
  · rw [List.getElem?_append_right (by simpa using Nat.le_of_not_lt hl), List.getElem?_replicate, List.getElem?_eq_none (by omega)]
    have := N.hi
    simp; omega
theorem VL_take {ds : List Nat} {k d : Nat} (e : ds[k]? = some d) : VL (ds.take (k + 1)) = VL (ds.take k) * 38 + d := by
  rw [List.take_succ, e]; exact VL_snoc
theorem VLt_bound {ds : List Nat} (hd : ∀ d ∈ ds, d < 38) (k : Nat) : 0 ≤ VL (ds.take k) ∧ VL (ds.take k) < 38 ^ k := by
  have h1 := VL_bound (ds := ds.take k) fun d m => hd d (List.mem_of_mem_take m)
  have h2 : (ds.take k).length ≤ k := by simp; omega
  have h3 : (38 : Int) ^ (ds.take k).length ≤ 38 ^ k := by
    have := Nat.pow_le_pow_right (n := 38) (by decide) h2
    exact_mod_cast this
  omega
theorem p11 : (38 : Int) ^ 11 = 238572050223552512 := by decide
theorem VLt11 {ds : List Nat} (hd : ∀ d ∈ ds, d < 38) {k : Nat} (hk : k ≤ 11) : 0 ≤ VL (ds.take k) ∧ VL (ds.take k) < 238572050223552512 := by
  have h1 := VLt_bound hd k
  have h3 : (38 : Int) ^ k ≤ 38 ^ 11 := by
    have := Nat.pow_le_pow_right (n := 38) (by decide) hk
    exact_mod_cast this
  rw [p11] at h3; omega
theorem sg_occ' {c : Nat} (hc : c < 37) : Builtin.Str.occurrences (T SGL) (T [sg c]) 0 SGL.length 1 = [c] := by
  have := sg_occ c hc; rwa [T_len] at this
theorem nameWord {cs : List Nat} (N : IsN cs) (K : Q (.int (W cs)) h) : @Wc D (m_name_word [.str (T (nm cs))] h) ⟨Q, X⟩ := by
  unfold m_name_word; rw [wp_fn]; unfold b_name_word
  have hi := N.hi
  simp
  refine isName (by simp; omega) ?_
  rw [isN_ok N]
  simp
  refine floop_inv (fun i env h' => h = h' ∧ ∃ s, env = [.va (.str (T (nm cs))), .va (.int (VL ((pad cs).take i))), s]) ⟨rfl, _, rfl⟩ (fun _ _ _ _ _ => trivial) ?_ ?_
  · rintro i d _ _ hd ⟨rfl, s, rfl⟩
    obtain ⟨hi2, rfl⟩ := rg_at hd
    have hi2 : i < 11 := by simpa using hi2
    have hv := VL_take (pad_at N hi2)
    have hb := VLt11 (pad_lt N.all) (k := i) (by omega)
    simp [size24, show cs.length ≤ 16777216 from by omega, sg_lit]
    refine ⟨cmulW (by omega) (by omega) (by omega) (by omega), ?_⟩
    by_cases hl : i < cs.length
    · have ec : cs[i]? = some cs[i] := List.getElem?_eq_getElem hl
      have hc : cs[i] < 37 := N.all _ (List.getElem_mem hl)
      have ea : atI (nm cs) (i : Int) = some (sg cs[i]) := by rw [atI_n, nm, List.getElem?_map, ec]; rfl
      simp [hl, ea, fSIndex, isTyp]
      rw [sg_occ' hc]
      simp
      rw [hv, ec]
      show _ = _ * 38 + ((cs[i] + 1 : Nat) : Int)
      omega
    · have ec : cs[i]? = none := List.getElem?_eq_none (by omega)
      simp [hl]
      rw [hv, ec]; simp
  · rintro _ _ ⟨rfl, s, rfl⟩
    simp
    rw [List.take_of_length_le (by rw [pad_len hi]; simp)]
    exact K
theorem lawWord {cs : List Nat} (N : IsN cs) (K : Q (.int (W cs)) h) : @Wc D (m_law_name_word_u [.str (T (nm cs))] h) ⟨Q, X⟩ := by
  unfold m_law_name_word_u; rw [wp_fn]; unfold b_law_name_word_u
  have hi := N.hi
  simp [sg_lit]
  refine floop_inv (fun i env h' => h = h' ∧ ∃ t, env = [.va (.str (T (nm cs))), .va (.str (T SGL)), .va (.int (VL ((pad cs).take i))), t]) ⟨rfl, _, rfl⟩ (fun _ _ _ _ _ => trivial) ?_ ?_
  · rintro i d _ _ hd ⟨rfl, t, rfl⟩
    obtain ⟨hi2, rfl⟩ := rg_at hd
    have hi2 : i < 11 := by simpa using hi2
    have hv := VL_take (pad_at N hi2)
    have hb := VLt11 (pad_lt N.all) (k := i) (by omega)
    simp [size24, show cs.length ≤ 16777216 from by omega]
    refine ⟨cmulW (by omega) (by omega) (by omega) (by omega), ?_⟩
    by_cases hl : i < cs.length
    · have ec : cs[i]? = some cs[i] := List.getElem?_eq_getElem hl
      have hc : cs[i] < 37 := N.all _ (List.getElem_mem hl)
      have ea : atI (nm cs) (i : Int) = some (sg cs[i]) := by rw [atI_n, nm, List.getElem?_map, ec]; rfl
      simp [hl, ea, fSIndex, isTyp]
      rw [sg_occ' hc]
      simp
      rw [hv, ec]
      show _ = _ * 38 + ((cs[i] + 1 : Nat) : Int)
      omega
    · have ec : cs[i]? = none := List.getElem?_eq_none (by omega)
      simp [hl]
      rw [hv, ec]; simp
  · rintro _ _ ⟨rfl, t, rfl⟩
    simp
    rw [List.take_of_length_le (by rw [pad_len hi]; simp)]
    exact K
def rc (c : Cl) (l : Bool) : List Int :=
  ((([2 * ((c.k : Int) + 1) + (if l then 1 else 0), c.u, W c.v] ++ c.its.flatMap itW).length : Int) + 1) :: ([2 * ((c.k : Int) + 1) + (if l then 1 else 0), c.u, W c.v] ++ c.its.flatMap itW)
def kL : List D := (List.range 16).map fun k => .str (kn k)
def KN : List Str := (List.range 16).map kn
theorem kn_ix : ∀ k, k < 16 → ixS KN (kn k) = some k := by decide +kernel
theorem strsD_kL : strsD kL = some KN := by kernel_rfl
theorem v_lix {l k : Nat} (hk : k < 16) (e : h[l]? = some (.lst kL)) : fLIx (.loc l) [.str (kn k)] h = .ok (.int k) h := by
  unfold fLIx
  simp only [lstOf_at e, strsD_kL, kn_ix k hk]
theorem Fits.get : ∀ {fs : List Fd} {is : List It} {i : Nat} {x : It}, Fits fs is → is[i]? = some x → ∃ f, fs[i]? = some f ∧ Fit f x
  | [], [], i, x, _, e => by simp at e
  | f :: fs, y :: ys, 0, x, h, e => by simp at e; subst e; exact ⟨f, rfl, h.1⟩
  | f :: fs, y :: ys, i + 1, x, h, e => by simpa using Fits.get (i := i) h.2 (by simpa using e)
  | [], _ :: _, _, _, h, _ => h.elim
  | _ :: _, [], _, _, h, _ => h.elim
theorem most_at : ∀ k, k < 16 → ∀ i, i < 3 → ((fds k)[i]? = some Fd.most ↔ k = 12 ∧ i = 1) := by decide +kernel
theorem itW_len {f : Fd} {x : It} (p : Fit f x) : (itW x).length ≤ 18 := by
  cases x with
  | path ps => cases f <;> simp only [Fit] at p; have := p.1; simp [itW]; omega
  | cells ws => cases f <;> simp only [Fit] at p; have := p.2.1; simp [itW]; omega
  | _ => simp [itW]
/-- the words ahead of the item i -/
def wdTo (c : Cl) (l : Bool) (i : Nat) : List Int := [2 * ((c.k : Int) + 1) + (if l then 1 else 0), c.u, W c.v] ++ (c.its.take i).flatMap itW
theorem wdTo_succ {c : Cl} {l : Bool} {i : Nat} {x : It} (e : c.its[i]? = some x) : wdTo c l (i + 1) = wdTo c l i ++ itW x := by
  unfold wdTo; rw [List.take_succ, e, List.flatMap_append]; simp
theorem wdTo_len {c : Cl} (o : Ok c) {l : Bool} : ∀ {i : Nat}, (wdTo c l i).length ≤ 3 + 18 * i
  | 0 => by simp [wdTo]
  | i + 1 => by
    cases e : c.its[i]? with
    | none =>
      have : wdTo c l (i + 1) = wdTo c l i := by unfold wdTo; rw [List.take_succ, e]; simp
      rw [this]; have := wdTo_len o (l := l) (i := i); omega
    | some x =>
      obtain ⟨f, _, p⟩ := o.hf.get e
      rw [wdTo_succ e, List.length_append]
      have h1 := wdTo_len o (l := l) (i := i)
      have h2 := itW_len p
      omega
theorem wdTo_all {c : Cl} {l : Bool} {i : Nat} (h : c.its.length ≤ i) : wdTo c l i = [2 * ((c.k : Int) + 1) + (if l then 1 else 0), c.u, W c.v] ++ c.its.flatMap itW := by
  unfold wdTo; rw [List.take_of_length_le h]
theorem Ok.its {c : Cl} (o : Ok c) : c.its.length ≤ 3 := by
  have := o.hf.len
  have := fds_len c.k o.hk
  omega
end
end K23
set_option Elab.async false
set_option linter.all false
set_option maxRecDepth 100000
set_option maxHeartbeats 1000000
namespace K23
open PySem L2 LF NW
section
variable {h : M} {b : Nat} {m : Int} {Q : D → M → Prop} {X : XP}
@[simp] theorem v_intB {b : Bool} : fInt [.bl b] h = .ok (.int (if b = true then 1 else 0)) h := (rfl)
theorem is_app {xs ys : List Int} : is (xs ++ ys) = is xs ++ is ys := by simp [is]
theorem lawRecord {c : Cl} (o : Ok c) {l : Bool} (K : ∀ a h', h.length ≤ a → h'[a]? = some (.lst (is (rc c l))) → Fr [] h h' → Q (.loc a) h') : @Wc D (m_law_record_u [clD c, .bl l] h) ⟨Q, X⟩ := by
  unfold m_law_record_u; rw [wp_fn]; unfold b_law_record_u
  obtain ⟨k, u, v, its⟩ := c
  have hk : k < 16 := o.hk
  have h3 : its.length ≤ 3 := o.its
  simp [clD]
  refine kindsL ?_
  have C1 : Fr [] h (h ++ [O.lst kL]) := Fr.cat _
  have e1 : (h ++ [O.lst kL])[h.length]? = some (.lst kL) := by simp
  have e1' : (h ++ [O.lst (List.map (fun k => D.str (kn k)) (List.range 16))])[h.length]? = some (.lst kL) := e1
  have hx := v_lix hk e1
  have cm2 : CMulW 2 ((k : Int) + 1) := cm (by omega) (by omega) (by omega) (by omega)
  simp only [show (List.map (fun k => D.str (kn k)) (List.range 16)) = kL from rfl]
  generalize h ++ [O.lst kL] = h1 at *
  simp [e1, hx, cm2]
  refine lawWord o.hv ?_
  simp [size24]
  refine ⟨⟨by omega, by omega⟩, ?_⟩
  rw [show ((its.length : Int) + 1 + 1 + 1 - 3).toNat = its.length by omega]
  have ats : ∀ (i : Nat) (x : It), its[i]? = some x → atI (D.str (kn k) :: D.int u :: nD v :: List.map itD its) (3 + (i : Int)) = some (itD x) := fun i x e => by
    rw [show 3 + (i : Int) = ((i + 3 : Nat) : Int) by omega, atI_n]; simp [e]
  have at0 : (D.str (kn k) :: D.int u :: nD v :: List.map itD its)[0]? = some (.str (kn k)) := by simp
  generalize hcd : (D.str (kn k) :: D.int u :: nD v :: List.map itD its) = cd at *
  have hw0 : [D.int (2 * (↑k + 1) + if l = true then 1 else 0), D.int u, D.int (W v)] = is (wdTo ⟨k, u, v, its⟩ l 0) := by simp [wdTo, is]
  rw [hw0]
  have hle := C1.len
  obtain ⟨w, hw⟩ : ∃ w, w = h1.length := ⟨_, rfl⟩
  rw [← hw]
  have eg : (h1 ++ [O.lst (is (wdTo ⟨k, u, v, its⟩ l 0))])[w]? = some (.lst (is (wdTo ⟨k, u, v, its⟩ l 0))) := by rw [hw]; simp
  have Fg : Fr [] h1 (h1 ++ [O.lst (is (wdTo ⟨k, u, v, its⟩ l 0))]) := Fr.cat _
  generalize h1 ++ [O.lst (is (wdTo ⟨k, u, v, its⟩ l 0))] = g0 at *
  obtain ⟨I, hI⟩ : ∃ I, I = (fun (i : Nat) (env : En) (h' : M) => ∃ (s1 s2 s3 : Sl), env = [.va (.tup cd), .va (.bl l), .va (.loc w), s1, s2, s3] ∧ h'[w]? = some (.lst (is (wdTo ⟨k, u, v, its⟩ l i))) ∧ Fr [w] g0 h') := ⟨_, rfl⟩
  refine floop_inv I (by rw [hI]; exact ⟨_, _, _, rfl, eg, .refl _ _⟩) (fun _ _ _ _ _ => trivial) ?_ ?_
  · intro i d env g hd z
    rw [hI] at z
    obtain ⟨s1, s2, s3, rfl, ew, F⟩ := z
    obtain ⟨hi, rfl⟩ := rg_at hd
    obtain ⟨x, ex⟩ : ∃ x, its[i]? = some x := ⟨_, List.getElem?_eq_getElem hi⟩
    obtain ⟨f, ef, fit⟩ := o.hf.get ex
    have hlen := wdTo_len o (l := l) (i := i)
    have hnx : wdTo ⟨k, u, v, its⟩ l (i + 1) = wdTo ⟨k, u, v, its⟩ l i ++ itW x := wdTo_succ ex
    have hi3 : i < 3 := by omega
    have hmost := most_at k hk i hi3
    have hz : (is (wdTo ⟨k, u, v, its⟩ l i)).length < sizeLine := by rw [is_len, size24]; omega
    have fin : ∀ (h' : M) (ys : List Int), ys = itW x → h' = g.set w (.lst (is (wdTo ⟨k, u, v, its⟩ l i) ++ is ys)) → ∀ s1 s2 s3, I (i + 1) [.va (.tup cd), .va (.bl l), .va (.loc w), s1, s2, s3] h' := fun h' ys ey eh s1 s2 s3 => by
      subst ey
      rw [hI, eh, ← is_app, ← hnx]
      exact ⟨_, _, _, rfl, at_set ew, F.trans (.set _ (by simp))⟩
    simp [ats i x ex]
    cases x with
    | non =>
      simp [itD, ew, hz]
      exact fin _ [0] rfl rfl _ _ _
    | name cs =>
      cases f <;> simp only [Fit] at fit
      simp [itD, nD, fIsN, isN, fIsI, tyD, kinds, isTy, ew]
      refine lawWord fit ?_
      simp [ew, hz]
      exact fin _ [W cs] rfl rfl _ _ _
    | num a =>
      have hno : ¬ (k = 12 ∧ (3 : Int) + i = 4) := fun q => by
        have := hmost.mpr ⟨q.1, by omega⟩
        rw [this] at ef; cases ef
        simp only [Fit] at fit
      simp [itD, fIsN, isN, fIsI, tyD, kinds, isTy, ew, at0, l12, keq hk 12]
      split
      · rename_i hk'
        have : ¬ ((3 : Int) + i = 4) := fun q => hno ⟨hk', q⟩
        simp [this, hz]
        exact fin _ [a] rfl rfl _ _ _
      · simp [hz]
        exact fin _ [a] rfl rfl _ _ _
    | lim a =>
      cases f <;> simp only [Fit] at fit
      obtain ⟨hk12, hi1⟩ := hmost.mp ef
      subst hk12
      subst hi1
      simp [itD, fIsN, isN, fIsI, tyD, kinds, isTy, ew, at0, l12, hz]
      exact fin _ [a + 1] rfl rfl _ _ _
    | path ps =>
      cases f <;> simp only [Fit] at fit
      simp [itD, fIsN, isN, fIsI, tyD, kinds, isTy, ew, hz]
      have hl6 := fit.1
      refine floop_map (fun p env h' => ∃ s2 s3, env = [.va (.tup cd), .va (.bl l), .va (.loc w), .va (.int (3 + i)), s2, s3] ∧ h' = g.set w (.lst (is (wdTo ⟨k, u, v, its⟩ l i) ++ is ((ps.length : Int) :: p.map W)))) ⟨_, _, rfl, by simp [is]⟩ (fun _ _ _ _ _ => trivial) ?_ ?_
      · rintro p x q _ _ hx ⟨s2, s3, rfl, rfl⟩
        have hpl : p.length < 6 := by rw [hx] at hl6; simp at hl6; omega
        have e2 := at_set (u := O.lst (is (wdTo ⟨k, u, v, its⟩ l i) ++ is ((ps.length : Int) :: p.map W))) ew
        simp [nD, fIsI, tyD, kinds, isTy, e2]
        refine lawWord (fit.2 x (by rw [hx]; simp)) ?_
        have hz2 : (is (wdTo ⟨k, u, v, its⟩ l i)).length + (is ((ps.length : Int) :: p.map W)).length < sizeLine := by rw [is_len, is_len, size24]; simp; omega
        simp [e2, hz2]
        simp [is]
      · rintro _ _ ⟨s2, s3, rfl, rfl⟩
        exact fin _ _ rfl rfl _ _ _
    | cells ws =>
      cases f <;> simp only [Fit] at fit
      simp [itD, fIsN, isN, fIsI, tyD, kinds, isTy, ew, hz]
      have hl6 := fit.2.1
      refine floop_map (fun p env h' => ∃ s2 s3, env = [.va (.tup cd), .va (.bl l), .va (.loc w), .va (.int (3 + i)), s2, s3] ∧ h' = g.set w (.lst (is (wdTo ⟨k, u, v, its⟩ l i) ++ is ((ws.length : Int) :: p)))) ⟨_, _, rfl, by simp [is]⟩ (fun _ _ _ _ _ => trivial) ?_ ?_
      · rintro p x q _ _ hx ⟨s2, s3, rfl, rfl⟩
        have hpl : p.length < 16 := by rw [hx] at hl6; simp at hl6; omega
        have e2 := at_set (u := O.lst (is (wdTo ⟨k, u, v, its⟩ l i) ++ is ((ws.length : Int) :: p))) ew
        have hz2 : (is (wdTo ⟨k, u, v, its⟩ l i)).length + (is ((ws.length : Int) :: p)).length < sizeLine := by rw [is_len, is_len, size24]; simp; omega
        simp [fIsI, tyD, kinds, isTy, e2, hz2]
        simp [is]
      · rintro _ _ ⟨s2, s3, rfl, rfl⟩
        exact fin _ _ rfl rfl _ _ _
  intro env g z
  rw [hI] at z
  obtain ⟨s1, s2, s3, rfl, ew, F⟩ := z
  rw [rg_len] at ew
  have hlen := wdTo_len o (l := l) (i := its.length)
  have hwl : w < g.length := at_lt ew
  have ew2 := (Fr.cat (S := []) [O.lst [D.int ((is (wdTo ⟨k, u, v, its⟩ l its.length)).length + 1)]]).at ew
  simp [ew]
  simp [ew2, size24]
  refine ⟨by rw [is_len]; omega, ?_⟩
  have hr : D.int (((is (wdTo ⟨k, u, v, its⟩ l its.length)).length : Int) + 1) :: is (wdTo ⟨k, u, v, its⟩ l its.length) = is (rc ⟨k, u, v, its⟩ l) := by
    rw [is_len, wdTo_all (Nat.le_refl _)]
    simp [rc, is]
  rw [hr]
  have FF : Fr [] h g := C1.trans (((Fg.nil (S := [w])).trans F).cut (S' := []) (by simp; omega))
  refine K (g.length + 1) _ (by have := FF.len; omega) (by simp) (FF.trans (Fr.cat _))
end
end K23
set_option Elab.async false
set_option linter.all false
set_option maxRecDepth 100000
set_option maxHeartbeats 1000000
namespace K23
open PySem L2 LF NW
theorem fd_inj : ∀ f g : Fd, (fdS f = fdS g) ↔ f = g := by
  intro f g
  cases f <;> cases g <;> decide +kernel
theorem fdq (f g : Fd) : (fdS f = fdS g) = (f = g) := propext (fd_inj f g)
theorem q1 : ("path" : Str) = fdS .path := by rfl
theorem q2 : ("name" : Str) = fdS .name := by rfl
theorem q3 : ("word" : Str) = fdS .word := by rfl
theorem q4 : ("cells" : Str) = fdS .cells := by rfl
theorem q5 : ("most" : Str) = fdS .most := by rfl
theorem lg1 : valD kd_LARGEST_u (fdS .at) = some (.int 1000000) := by kernel_rfl
theorem lg2 : valD kd_LARGEST_u (fdS .size) = some (.int 1000000) := by kernel_rfl
theorem lg3 : valD kd_LARGEST_u (fdS .mode) = some (.int 63) := by kernel_rfl
theorem lg4 : valD kd_LARGEST_u (fdS .owner) = some (.int 999) := by kernel_rfl
section
variable {h : M} {b : Nat} {m : Int} {Q : D → M → Prop} {X : XP}
@[simp] theorem v_kd {kvs : List (Str × D)} {z : Str} : fKd kvs (.str z) h = match valD kvs z with | some r => .ok r h | none => .stuck := (rfl)
@[simp] theorem v_kin {kvs : List (Str × D)} {z : Str} {neg : Bool} : fKin neg kvs (.str z) h = .ok (.bl (if neg then !(valD kvs z).isSome else (valD kvs z).isSome)) h := (rfl)
theorem isPath {ps : List (List Nat)} (p : Pth ps) (K : Q (.bl true) h) : @Wc D (m_is_path [.tup (ps.map nD)] h) ⟨Q, X⟩ := by
  unfold m_is_path; rw [wp_fn]; unfold b_is_path
  have h6 := p.1
  simp
  have : ¬ (6 : Int) < ps.length := by omega
  simp [this]
  refine floop_map (fun p env h' => h = h' ∧ ∃ s, env = [.va (.tup (ps.map nD)), s]) ⟨rfl, _, rfl⟩ (fun _ _ _ _ _ => trivial) ?_ ?_
  · rintro pr x q _ _ hx ⟨rfl, s, rfl⟩
    simp [nD]
    have N := p.2 x (by rw [hx]; simp)
    have := N.hi
    refine isName (by simp; omega) ?_
    rw [isN_ok N]
    simp
  · rintro _ _ ⟨rfl, s, rfl⟩
    simp
    exact K
theorem isWord {w : Int} (w0 : 0 ≤ w) (w1 : w < PR) (K : Q (.bl true) h) : @Wc D (m_is_word [.int w] h) ⟨Q, X⟩ := by
  unfold m_is_word; rw [wp_fn]; unfold b_is_word
  simp only [PR] at w1
  simp [fI, w0, w1]
  exact K
theorem areCells {ws : List Int} (p : Cel ws) (K : Q (.bl true) h) : @Wc D (m_are_cells_u [.tup (ws.map .int)] h) ⟨Q, X⟩ := by
  unfold m_are_cells_u; rw [wp_fn]; unfold b_are_cells_u
  have h1 := p.1
  have h2 := p.2.1
  have n1 : ¬ (ws.length : Int) < 1 := by omega
  have n2 : ¬ (16 : Int) < ws.length := by omega
  simp [n1, n2]
  refine floop_map (fun p env h' => h = h' ∧ ∃ s, env = [.va (.tup (ws.map .int)), s]) ⟨rfl, _, rfl⟩ (fun _ _ _ _ _ => trivial) ?_ ?_
  · rintro pr x q _ _ hx ⟨rfl, s, rfl⟩
    simp
    have := p.2.2 x (by rw [hx]; simp)
    refine isWord this.1 this.2 ?_
    simp
  · rintro _ _ ⟨rfl, s, rfl⟩
    simp
    exact K
theorem fits {f : Fd} {x : It} (p : Fit f x) (K : Q (.bl true) h) : @Wc D (m_fits_u [.str (fdS f), itD x] h) ⟨Q, X⟩ := by
  unfold m_fits_u; rw [wp_fn]; unfold b_fits_u
  cases f <;> cases x <;> simp only [Fit] at p
  · simp [q1, itD]; exact isPath p K
  · simp [q1, q2, fdq, itD, nD]
    have := p.hi
    refine isName (by simp; omega) ?_
    rw [isN_ok p]; exact K
  · simp [q1, q2, q3, fdq, itD]; exact isWord p.1 p.2 K
  · simp [q1, q2, q3, q4, fdq, itD]; exact areCells p K
  · simp [q1, q2, q3, q4, q5, fdq, itD]; exact K
  · simp [q1, q2, q3, q4, q5, fdq, itD, fIsN, isN, fI, p.1, p.2]; exact K
  · simp [q1, q2, q3, q4, q5, fdq, itD, fI, p.1, p.2, lg1]; exact K
  · simp [q1, q2, q3, q4, q5, fdq, itD, fI, p.1, p.2, lg2]; exact K
  · simp [q1, q2, q3, q4, q5, fdq, itD, fI, p.1, p.2, lg3]; exact K
  · simp [q1, q2, q3, q4, q5, fdq, itD, fI, p.1, p.2, lg4]; exact K
end
end K23
set_option Elab.async false
set_option linter.all false
set_option maxRecDepth 100000
set_option maxHeartbeats 1000000
namespace K23
open PySem L2 LF NW
/-- the pairs of fields and items -/
def fis (fs : List Fd) (is : List It) : List (Fd × It) := fs.zip is
theorem prs_fis : ∀ {fs : List Fd} {is : List It}, prs (fs.map fun f => .str (fdS f)) (is.map itD) = (fis fs is).map fun p => .tup [.str (fdS p.1), itD p.2]
  | [], _ => by simp [prs, fis]
  | _ :: _, [] => by simp [prs, fis]
  | f :: fs, i :: is => by
    have := prs_fis (fs := fs) (is := is)
    simp only [prs, fis, List.map_cons, List.zip_cons_cons] at this ⊢
    rw [this]
theorem fis_fit : ∀ {fs : List Fd} {is : List It}, Fits fs is → ∀ p ∈ fis fs is, Fit p.1 p.2
  | [], [], _ => by simp [fis]
  | f :: fs, i :: is, h => by
    intro p m
    simp only [fis, List.zip_cons_cons, List.mem_cons] at m
    rcases m with rfl | m
    · exact h.1
    · exact fis_fit h.2 p m
  | [], _ :: _, h => h.elim
  | _ :: _, [], h => h.elim
theorem fis_its : ∀ {fs : List Fd} {is : List It}, Fits fs is → (fis fs is).map (·.2) = is
  | [], [], _ => rfl
  | f :: fs, i :: is, h => by simp only [fis, List.zip_cons_cons, List.map_cons]; rw [← fis, fis_its h.2]
  | [], _ :: _, h => h.elim
  | _ :: _, [], h => h.elim
section
variable {h : M} {b : Nat} {m : Int} {Q : D → M → Prop} {X : XP}
@[simp] theorem v_sl3 {x y z : D} {r : List D} : fSl (.tup (x :: y :: z :: r)) (some 3) none h = .ok (.tup r) h := by
  show Res.ok (D.tup (cutD (x :: y :: z :: r) (some 3) none)) h = _
  have : cutD (x :: y :: z :: r) (some 3) none = r := by
    unfold cutD
    rw [show HT.sIx (x :: y :: z :: r).length (x :: y :: z :: r).length none = (x :: y :: z :: r).length from rfl, sIx_of (by omega)]
    have : min (3 : Int).toNat (x :: y :: z :: r).length = 3 := by simp
    rw [this]
    simp
  rw [this]
@[simp] theorem wp_zip {QI : Itr' → M → Prop} {X : XP} {mas : MA} {env : En} : @Wc Itr' (mZip mas env h) ⟨QI, X⟩ = @Wc (List D) (mas env h) ⟨fun d h => @Wc Itr' (fZip d h) ⟨QI, X⟩, X⟩ := by
  unfold mZip; rw [wp_bind]
@[simp] theorem wp_enum {QI : Itr' → M → Prop} {X : XP} {mas : MA} {env : En} : @Wc Itr' (mEnum mas env h) ⟨QI, X⟩ = @Wc (List D) (mas env h) ⟨fun d h => @Wc Itr' (fEnum d h) ⟨QI, X⟩, X⟩ := by
  unfold mEnum; rw [wp_bind]
@[simp] theorem v_zipCT {xs ys : List D} : fZip [.ct xs, .tup ys] h = .ok ⟨prs xs ys, fun _ => True⟩ h := by simp [fZip]
@[simp] theorem v_lenCT {xs : List D} : fLen [.ct xs] h = .ok (.int xs.length) h := by simp [fLen, lenD]
theorem isCall {c : Cl} (o : Ok c) (K : Q (.bl true) h) : @Wc D (m_is_call_u [clD c] h) ⟨Q, X⟩ := by
  unfold m_is_call_u; rw [wp_fn]; unfold b_is_call_u
  obtain ⟨k, u, v, its⟩ := c
  have hk : k < 16 := o.hk
  have hf : Fits (fds k) its := o.hf
  have hl := hf.len
  have hu : 0 ≤ u ∧ u ≤ 999 := o.hu
  have kd := kd_at k hk
  have N : IsN v := o.hv
  have n1 : ¬ u < 0 := by omega
  have n2 : ¬ 999 < u := by omega
  have n3 : ¬ (its.length : Int) + 1 + 1 + 1 < 3 := by omega
  have n4 : (its.length : Int) + 1 + 1 + 1 = 3 + (its.length : Int) := by omega
  simp [clD, kd, n1, n2, n3, hl, nD]
  simp [n4]
  have := N.hi
  refine isName (by simp; omega) ?_
  rw [isN_ok N]
  simp [kd, prs_fis, size24]
  refine floop_map (f := fun p : Fd × It => D.tup [.str (fdS p.1), itD p.2]) (fun p env h' => h = h' ∧ ∃ s1 s2, env = [.va (.tup (.str (kn k) :: .int u :: .str (T (nm v)) :: its.map itD)), .va (.ct ((fds k).map fun f => .str (fdS f))), s1, s2]) ⟨rfl, _, _, rfl⟩ (fun _ _ _ _ _ => trivial) ?_ ?_
  · rintro pr x q _ _ hx ⟨rfl, s1, s2, rfl⟩
    simp
    refine fits (fis_fit hf x (by rw [hx]; simp)) ?_
    simp
  · rintro _ _ ⟨rfl, s1, s2, rfl⟩
    simp [l6, keq hk 6]
    split
    · rename_i hk6
      subst hk6
      have hits : ∃ ps a ws, its = [.path ps, .num a, .cells ws] := by
        have h1 : Fits [.path, .at, .cells] its := hf
        match its, h1 with
        | [.path ps, .num a, .cells ws], _ => exact ⟨_, _, _, rfl⟩
      obtain ⟨ps, a, ws, rfl⟩ := hits
      have := o.hw ps a ws rfl
      simp [itD, this]
      exact K
    · exact K
theorem checkCall {c : Cl} (o : Ok c) (K : Q .non h) : @Wc D (m_check_call [clD c] h) ⟨Q, X⟩ := by
  unfold m_check_call; rw [wp_fn]; unfold b_check_call
  simp
  refine isCall o ?_
  simp
  exact K
theorem kL_any : ∀ k, k < 16 → (kL.any fun z => eqF z (.str (kn k))) = true := by decide +kernel
theorem kL_flat : kL.all flatD = true := by decide +kernel
theorem in_kL {k : Nat} (hk : k < 16) : fIn (.str (kn k)) (.ct kL) h = .ok (.bl true) h := by
  show fInN false (.str (kn k)) (.ct kL) h = _
  have : inD h (.str (kn k)) (.ct kL) = some true := by
    unfold inD
    have e : seqOf h (.ct kL) = some kL := by simp [seqOf]
    simp only [e]
    rw [if_pos ⟨rfl, kL_flat⟩, kL_any k hk]
  unfold fInN
  rw [this]; rfl
theorem ix_kL {k : Nat} (hk : k < 16) : fTIx (.ct kL) [.str (kn k)] h = .ok (.int k) h := by
  unfold fTIx
  simp only [tupOf_ct, strsD_kL, kn_ix k hk]
theorem klit2 : ([.str "create", .str "folder", .str "link", .str "rename", .str "remove", .str "rmdir", .str "write", .str "resize", .str "mark", .str "unmark", .str "rights", .str "give", .str "limit", .str "snapshot", .str "clone", .str "drop"] : List D) = kL := by rfl
theorem isChanging {c : Cl} (o : Ok c) (K : Q (.bl true) h) : @Wc D (m_is_changing [clD c] h) ⟨Q, X⟩ := by
  unfold m_is_changing; rw [wp_fn]; unfold b_is_changing
  rw [klit2]
  obtain ⟨k, u, v, its⟩ := c
  have hk : k < 16 := o.hk
  have n : (0 : Int) < (its.length : Int) + 1 + 1 + 1 := by omega
  simp [clD, n, in_kL hk]
  exact K
theorem itemWords {f : Fd} {x : It} (p : Fit f x) (K : ∀ a h', h.length ≤ a → h'[a]? = some (.lst (is (itW x))) → Fr [] h h' → Q (.loc a) h') : @Wc D (m_item_words_u [.str (fdS f), itD x] h) ⟨Q, X⟩ := by
  unfold m_item_words_u; rw [wp_fn]; unfold b_item_words_u
  cases f <;> cases x <;> simp only [Fit] at p
  · rename_i ps
    simp [q1, itD, size24]
    have h6 := p.1
    refine lcloop_map (f := nD) (fun pr acc h' => acc = is (pr.map W) ∧ h' = h ++ [O.lst [.int ps.length], O.lst (is (pr.map W))]) ⟨rfl, by simp [is]⟩ (fun _ _ _ _ _ => trivial) ?_ ?_
    · rintro pr x q acc _ hx ⟨rfl, rfl⟩
      simp [nD]
      refine nameWord (p.2 x (by rw [hx]; simp)) ?_
      have : pr.length ≤ 6 := by rw [hx] at h6; simp at h6; omega
      refine ⟨by simp, by rw [is_len, size24]; simp; omega, by simp [is], by simp [is]⟩
    · rintro acc _ ⟨rfl, rfl⟩
      simp [is, size24]
      refine ⟨by omega, K _ _ (by omega) ?_ (Fr.cat _)⟩
      simp [is, itW]
  · rename_i cs
    simp [q1, q2, q4, fdq, itD, nD]
    refine nameWord p ?_
    simp [size24]
    exact K _ _ (Nat.le_refl _) (by simp [is, itW]) (Fr.cat _)
  · simp [q1, q2, q4, q5, fdq, itD, size24]
    exact K _ _ (Nat.le_refl _) (by simp [is, itW]) (Fr.cat _)
  · rename_i ws
    have h6 := p.2.1
    simp [q1, q2, q4, q5, fdq, itD, fList, seqOf, size24]
    refine ⟨by omega, K _ _ (by omega) ?_ (Fr.cat _)⟩
    simp [is, itW]
  · simp [q1, q2, q4, q5, fdq, itD, size24]
    exact K _ _ (Nat.le_refl _) (by simp [is, itW]) (Fr.cat _)
  · simp [q1, q2, q4, q5, fdq, itD, fIsN, isN, size24]
    exact K _ _ (Nat.le_refl _) (by simp [is, itW]) (Fr.cat _)
  all_goals
    simp [q1, q2, q4, q5, fdq, itD, size24]
    exact K _ _ (Nat.le_refl _) (by simp [is, itW]) (Fr.cat _)
/-- the words behind the fields that are done -/
def wds (c : Cl) (l : Bool) (p : List (Fd × It)) : List Int := [2 * ((c.k : Int) + 1) + (if l then 1 else 0), c.u, W c.v] ++ (p.map (·.2)).flatMap itW
theorem wds_len {c : Cl} {l : Bool} {p : List (Fd × It)} (hp : ∀ q ∈ p, Fit q.1 q.2) : (wds c l p).length ≤ 3 + 18 * p.length := by
  unfold wds
  induction p with
  | nil => simp
  | cons q p ih =>
    have h1 := ih fun r m => hp r (by simp [m])
    have h2 := itW_len (hp q (by simp))
    simp only [List.map_cons, List.flatMap_cons, List.length_append, List.length_cons] at h1 ⊢
    omega
theorem callRecord {c : Cl} (o : Ok c) {l : Bool} (K : ∀ a h', h.length ≤ a → h'[a]? = some (.lst (is (rc c l))) → Fr [] h h' → Q (.loc a) h') : @Wc D (m_call_record [clD c, .bl l] h) ⟨Q, X⟩ := by
  unfold m_call_record; rw [wp_fn]; unfold b_call_record
  rw [klit2]
  simp
  refine checkCall o ?_
  rw [ws_seq]
  refine Ws.cut (fun e h' => h = h' ∧ e = [.va (clD c), .va (.bl l), .no, .no, .no, .no]) ?_ ?_
  · simp
    refine isChanging o ?_
    simp
  rintro _ _ ⟨rfl, rfl⟩
  obtain ⟨k, u, v, its⟩ := c
  have hk : k < 16 := o.hk
  have hf : Fits (fds k) its := o.hf
  have h3 : its.length ≤ 3 := o.its
  have kd := kd_at k hk
  have N : IsN v := o.hv
  have cm2 : CMulW 2 ((k : Int) + 1) := cm (by omega) (by omega) (by omega) (by omega)
  have key : ∀ e : Int, e = 2 * ((k : Int) + 1) + (if l then 1 else 0) → @Ws (mSeq (mSet 3 (mL fLst (mCons (mVar 2) (mCons (m2 fIx (mVar 0) (mC (.int 1))) (mCons (mL (mFix 1 m_name_word) (mCons (m2 fIx (mVar 0) (mC (.int 2))) mNil)) mNil)))))
      (mSeq (mFor (mZip (mCons (m1 (fKd kd_FIELDS_u) (m2 fIx (mVar 0) (mC (.int 0)))) (mCons (mSl (mVar 0) (mPart (mC (.int 3))) mNoPart) mNil))) (gTp 2 (gCons' (gN 4) (gCons' (gN 5) gNil')))
      (mDo (mBM "list" fExtend (mVar 3) (mCons (mL (mFix 2 m_item_words_u) (mCons (mVar 4) (mCons (mVar 5) mNil))) mNil))))
      (mRet (m2 fAdd (mL fLst (mCons (m2 fAdd (mL fLen (mCons (mVar 3) mNil)) (mC (.int 1))) mNil)) (mVar 3))))
      [.va (clD ⟨k, u, v, its⟩), .va (.bl l), .va (.int e), .no, .no, .no] h) ⟨fun _ h => Q .non h, Q, fun _ _ => False, fun _ _ => False, fun x ns vs _ h => X x ns vs h⟩ := fun e he => by
    simp [clD, nD]
    refine nameWord N ?_
    simp [size24, kd, prs_fis]
    have hw0 : [D.int e, D.int u, D.int (W v)] = is (wds ⟨k, u, v, its⟩ l []) := by simp [wds, is, he]
    rw [hw0]
    have eg : (h ++ [O.lst (is (wds ⟨k, u, v, its⟩ l []))])[h.length]? = some (.lst (is (wds ⟨k, u, v, its⟩ l []))) := by simp
    have Fg : Fr [] h (h ++ [O.lst (is (wds ⟨k, u, v, its⟩ l []))]) := Fr.cat _
    obtain ⟨w, hw⟩ : ∃ w, w = h.length := ⟨_, rfl⟩
    rw [← hw] at eg ⊢
    generalize h ++ [O.lst (is (wds ⟨k, u, v, its⟩ l []))] = g0 at *
    obtain ⟨cd, hcd⟩ : ∃ cd, cd = (D.str (kn k) :: D.int u :: D.str (T (nm v)) :: its.map itD) := ⟨_, rfl⟩
    rw [← hcd]
    have hfl : (fis (fds k) its).length ≤ 3 := by unfold fis; simp; omega
    refine floop_map (f := fun p : Fd × It => D.tup [.str (fdS p.1), itD p.2]) (fun p env h' => ∃ s1 s2, env = [.va (.tup cd), .va (.bl l), .va (.int e), .va (.loc w), s1, s2] ∧ h'[w]? = some (.lst (is (wds ⟨k, u, v, its⟩ l p))) ∧ Fr [w] g0 h') ⟨_, _, rfl, eg, .refl _ _⟩ (fun _ _ _ _ _ => trivial) ?_ ?_
    · rintro pr x q _ g hx ⟨s1, s2, rfl, ew, F⟩
      have hp : ∀ q ∈ fis (fds k) its, Fit q.1 q.2 := fis_fit hf
      have hpr : pr.length < 3 := by rw [hx] at hfl; simp at hfl; omega
      have hlen := wds_len (c := ⟨k, u, v, its⟩) (l := l) (p := pr) fun q m => hp q (by rw [hx]; simp [m])
      have px := hp x (by rw [hx]; simp)
      simp [ew]
      refine itemWords px fun a h2 ha ea F2 => ?_
      have ew2 := F2.at ew
      have hwl := at_lt ew
      have hil := itW_len px
      simp [ew2, ea]
      refine ⟨by rw [is_len, is_len, size24]; omega, ?_, F.trans (F2.nil.trans (.set _ (by simp)))⟩
      rw [at_set ew2, ← is_app]
      simp [wds]
    · rintro _ g ⟨s1, s2, rfl, ew, F⟩
      have hlen := wds_len (c := ⟨k, u, v, its⟩) (l := l) (p := fis (fds k) its) (fis_fit hf)
      have hall : wds ⟨k, u, v, its⟩ l (fis (fds k) its) = [2 * ((k : Int) + 1) + (if l then 1 else 0), u, W v] ++ its.flatMap itW := by unfold wds; rw [fis_its hf]
      have ew2 := (Fr.cat (S := []) [O.lst [D.int ((is (wds ⟨k, u, v, its⟩ l (fis (fds k) its))).length + 1)]]).at ew
      simp [ew]
      simp [ew2, size24]
      refine ⟨by rw [is_len]; omega, ?_⟩
      have hr : D.int (((is (wds ⟨k, u, v, its⟩ l (fis (fds k) its))).length : Int) + 1) :: is (wds ⟨k, u, v, its⟩ l (fis (fds k) its)) = is (rc ⟨k, u, v, its⟩ l) := by
        rw [is_len, hall]
        simp [rc, is]
      rw [hr]
      have FF : Fr [] h g := ((Fg.nil (S := [w])).trans F).cut (S' := []) (by simp; omega)
      exact K (g.length + 1) _ (by have := FF.len; omega) (by simp) (FF.trans (Fr.cat _))
  rw [ws_seq]
  refine Ws.cut (fun e h' => h = h' ∧ e = [.va (clD ⟨k, u, v, its⟩), .va (.bl l), .va (.int (2 * ((k : Int) + 1))), .no, .no, .no]) ?_ ?_
  · simp [clD, ix_kL hk, cm2]
  rintro _ _ ⟨rfl, rfl⟩
  rw [ws_seq]
  refine Ws.cut (fun e h' => h = h' ∧ e = [.va (clD ⟨k, u, v, its⟩), .va (.bl l), .va (.int (2 * ((k : Int) + 1) + (if l then 1 else 0))), .no, .no, .no]) ?_ ?_
  · cases l <;> simp [fTru, truD]
  rintro _ _ ⟨rfl, rfl⟩
  exact key _ rfl
end
end K23
set_option Elab.async false
set_option linter.all false
set_option maxRecDepth 100000
set_option maxHeartbeats 1000000
namespace K23
open PySem L2 LF NW
def pk (bs : List (List Int)) (r : List Int) : List (List Int) := match bs.getLast? with
  | none => [r]
  | some x => if 29 < x.length + r.length then bs ++ [r] else bs.dropLast ++ [x ++ r]
theorem pk_nil {r : List Int} : pk [] r = [r] := rfl
theorem pk_snoc {bs : List (List Int)} {x r : List Int} : pk (bs ++ [x]) r = if 29 < x.length + r.length then bs ++ [x] ++ [r] else bs ++ [x ++ r] := by
  simp [pk]
def recAt (n : Nat) (c : Cl) (i : Nat) : List Int := rc c (decide (i + 1 = n))
/-- the records of a unit up to i -/
def recTo (cs : List Cl) : Nat → List (List Int)
  | 0 => []
  | i + 1 => recTo cs i ++ (match cs[i]? with | some c => [recAt cs.length c i] | none => [])
def recs (cs : List Cl) : List (List Int) := recTo cs cs.length
theorem recTo_succ {cs : List Cl} {i : Nat} {c : Cl} (e : cs[i]? = some c) : recTo cs (i + 1) = recTo cs i ++ [recAt cs.length c i] := by simp [recTo, e]
theorem recTo_len {cs : List Cl} : ∀ {i : Nat}, i ≤ cs.length → (recTo cs i).length = i
  | 0, _ => rfl
  | i + 1, h => by rw [recTo_succ (List.getElem?_eq_getElem (by omega)), List.length_append, recTo_len (by omega)]; rfl
theorem rc_len {c : Cl} (o : Ok c) {l : Bool} : (rc c l).length ≤ 58 := by
  have h1 := wdTo_len o (l := l) (i := c.its.length)
  rw [wdTo_all (Nat.le_refl _)] at h1
  have h2 := o.its
  simp [rc] at h1 ⊢
  omega
theorem atI_last {α : Type} {xs : List α} {x : α} : atI (xs ++ [x]) (-1) = some x := by
  have : ixN (xs ++ [x]).length (-1) = some xs.length := by
    unfold ixN; simp; omega
  unfold atI
  rw [this]; simp
theorem ixN_last {n : Nat} : ixN (n + 1) (-1) = some n := by
  unfold ixN; simp; omega
def ll (ls : List Nat) : List D := ls.map .loc
/-- lists of words under places -/
structure RL (h : M) (P : Nat → Prop) (ls : List Nat) (rs : List (List Int)) : Prop where
  len : ls.length = rs.length
  at_ : ∀ (j l : Nat), ls[j]? = some l → P l ∧ ∃ r, rs[j]? = some r ∧ h[l]? = some (.lst (is r))
theorem RL.nil {h : M} {P : Nat → Prop} : RL h P [] [] := ⟨rfl, fun j l e => by simp at e⟩
theorem RL.snoc {h : M} {P : Nat → Prop} {ls : List Nat} {rs : List (List Int)} {l : Nat} {r : List Int} (R : RL h P ls rs) (p : P l) (e : h[l]? = some (.lst (is r))) : RL h P (ls ++ [l]) (rs ++ [r]) := by
  refine ⟨by simp [R.len], fun j k ek => ?_⟩
  by_cases hj : j < ls.length
  · rw [List.getElem?_append_left hj] at ek
    obtain ⟨q, r', er, eh⟩ := R.at_ j k ek
    have : j < rs.length := by rw [← R.len]; exact hj
    exact ⟨q, r', by rw [List.getElem?_append_left this]; exact er, eh⟩
  · have hj2 : j < (ls ++ [l]).length := (List.getElem?_eq_some_iff.mp ek).1
    have : j = ls.length := by simp at hj2; omega
    subst this
    simp at ek; subst ek
    exact ⟨p, r, by rw [R.len]; simp, e⟩
theorem RL.mono {h h' : M} {P P' : Nat → Prop} {ls : List Nat} {rs : List (List Int)} (R : RL h P ls rs) (k : ∀ l ∈ ls, ∀ o, P l → h[l]? = some o → P' l ∧ h'[l]? = some o) : RL h' P' ls rs :=
  ⟨R.len, fun j l e => by
    obtain ⟨p, r, er, eh⟩ := R.at_ j l e
    obtain ⟨p', e'⟩ := k l (List.mem_of_getElem? e) _ p eh
    exact ⟨p', r, er, e'⟩⟩
theorem RL.front {h : M} {P : Nat → Prop} {ls : List Nat} {rs : List (List Int)} {l : Nat} {r : List Int} (R : RL h P (ls ++ [l]) (rs ++ [r])) : RL h P ls rs ∧ P l ∧ h[l]? = some (.lst (is r)) := by
  have hl : ls.length = rs.length := by have := R.len; simpa using this
  refine ⟨⟨hl, fun j k e => ?_⟩, ?_⟩
  · have hj : j < ls.length := (List.getElem?_eq_some_iff.mp e).1
    obtain ⟨p, r', er, eh⟩ := R.at_ j k (by rw [List.getElem?_append_left hj]; exact e)
    rw [List.getElem?_append_left (by omega)] at er
    exact ⟨p, r', er, eh⟩
  · obtain ⟨p, r', er, eh⟩ := R.at_ ls.length l (by simp)
    rw [hl] at er
    simp at er; subst er
    exact ⟨p, eh⟩
theorem RL.all {h : M} {P : Nat → Prop} {ls : List Nat} {rs : List (List Int)} (R : RL h P ls rs) : ∀ l ∈ ls, P l := fun l m => by
  obtain ⟨j, e⟩ := List.mem_iff_getElem?.mp m
  exact (R.at_ j l e).1
/-- units: lists of calls under places -/
structure UL (h : M) (ls : List Nat) (css : List (List Cl)) : Prop where
  len : ls.length = css.length
  at_ : ∀ (j l : Nat), ls[j]? = some l → ∃ cs, css[j]? = some cs ∧ h[l]? = some (.lst (cs.map clD)) ∧ (∀ c ∈ cs, Ok c) ∧ cs.length ≤ 100
theorem UL.fr {h h' : M} {S : List Nat} {ls : List Nat} {css : List (List Cl)} (U : UL h ls css) (F : Fr S h h') (n : ∀ l ∈ ls, l ∉ S) : UL h' ls css :=
  ⟨U.len, fun j l e => by
    obtain ⟨cs, e1, e2, e3⟩ := U.at_ j l e
    exact ⟨cs, e1, F.at e2 (n l (List.mem_of_getElem? e)), e3⟩⟩
section
variable {h : M} {Q : D → M → Prop} {X : XP}
@[simp] theorem v_enum {l : Nat} : fEnum [.loc l] h = match h[l]? with | some (.lst xs) => .ok ⟨ens xs, fun h' => lstOf h' (.loc l) = some xs⟩ h | _ => .stuck := by
  simp only [fEnum, lstOf]; cases h[l]? with
  | none => rfl
  | some o => cases o <;> rfl
theorem unitRecords {u : Nat} {cs : List Cl} (e : h[u]? = some (.lst (cs.map clD))) (o : ∀ c ∈ cs, Ok c) (hl : cs.length ≤ 100) (K : ∀ h' ls, h'[h.length]? = some (.lst (ll ls)) → RL h' (fun l => h.length ≤ l ∧ l < h'.length) ls (recs cs) → Fr [] h h' → Q (.loc h.length) h') : @Wc D (m_unit_records_u [.loc u] h) ⟨Q, X⟩ := by
  unfold m_unit_records_u; rw [wp_fn]; unfold b_unit_records_u
  have hul := at_lt e
  simp [e]
  have e1 := (Fr.cat (S := []) [O.lst []]).at e
  refine lcloop_inv (fun i acc h' => ∃ ls, acc = ll ls ∧ h'[h.length]? = some (.lst (ll ls)) ∧ RL h' (fun l => h.length + 1 ≤ l ∧ l < h'.length) ls (recTo cs i) ∧ Fr [h.length] (h ++ [.lst []]) h') ⟨[], rfl, by simp [ll], RL.nil, .refl _ _⟩ (fun i acc h' _ z => ?_) ?_ ?_
  · obtain ⟨ls, _, _, _, F⟩ := z
    exact lstOf_at (F.at e1 (by simp; omega))
  · rintro i d acc g hd ⟨ls, rfl, eg, R, F⟩
    obtain ⟨d', ed', rfl⟩ := ens_at hd
    rw [List.getElem?_map, Option.map_eq_some_iff] at ed'
    obtain ⟨c, ec, rfl⟩ := ed'
    have hi : i < cs.length := (List.getElem?_eq_some_iff.mp ec).1
    simp
    have hb : decide ((i : Int) = (cs.length : Int) - 1) = decide (i + 1 = cs.length) := by
      by_cases q : i + 1 = cs.length
      · rw [decide_eq_true q, decide_eq_true (by omega)]
      · rw [decide_eq_false q, decide_eq_false (by omega)]
    rw [hb]
    refine callRecord (o c (List.mem_of_getElem? ec)) fun a g2 ha ea F2 => ?_
    have eg2 := F2.at eg
    have hgl := at_lt eg
    have hal := at_lt ea
    have hl2 := F2.len
    refine ⟨eg2, by simp [ll, R.len, recTo_len (cs := cs) (i := i) (by omega), size24]; omega, ls ++ [a], by simp [ll], ?_, ?_, F.trans (F2.nil.trans (.set _ (by simp)))⟩
    · rw [at_set eg2]; simp [ll]
    · rw [recTo_succ ec]
      have hset : ∀ l o, h.length + 1 ≤ l → g2[l]? = some o → (g2.set h.length (O.lst (ll ls ++ [D.loc a])))[l]? = some o := fun l o hl e => at_setN e (by omega)
      refine RL.snoc (R.mono fun l _ o p eo => ⟨⟨p.1, by simp; omega⟩, hset l o p.1 (F2.at eo)⟩) ⟨by omega, by simp; exact hal⟩ ?_
      exact hset a _ (by omega) ea
  · rintro acc g ⟨ls, rfl, eg, R, F⟩
    have hlen : (ens (cs.map clD)).length = cs.length := by simp [ens]
    rw [hlen] at R
    exact K g ls eg (R.mono fun l _ o p eo => ⟨⟨by omega, p.2⟩, eo⟩) (((Fr.cat [.lst []]).trans F).cut (by simp))
end
end K23
set_option Elab.async false
set_option linter.all false
set_option maxRecDepth 100000
set_option maxHeartbeats 1000000
namespace K23
open PySem L2 LF NW
def Sml (rs : List (List Int)) : Prop := ∀ r ∈ rs, r.length ≤ 100
theorem pk_sml {bs : List (List Int)} {r : List Int} (hb : Sml bs) (hr : r.length ≤ 100) : Sml (pk bs r) := by
  rcases List.eq_nil_or_concat bs with rfl | ⟨b', x, rfl⟩
  · intro q m; simp [pk_nil] at m; subst m; exact hr
  · rw [List.concat_eq_append] at hb ⊢
    rw [pk_snoc]
    split
    · intro q m
      simp only [List.mem_append, List.mem_singleton] at m
      rcases m with (m | rfl) | rfl
      · exact hb q (by simp [m])
      · exact hb q (by simp)
      · exact hr
    · intro q m
      simp only [List.mem_append, List.mem_singleton] at m
      rcases m with m | rfl
      · exact hb q (by simp [m])
      · simp; omega
theorem pk_len {bs : List (List Int)} {r : List Int} : (pk bs r).length ≤ bs.length + 1 := by
  rcases List.eq_nil_or_concat bs with rfl | ⟨b', x, rfl⟩
  · simp [pk_nil]
  · rw [List.concat_eq_append, pk_snoc]
    split <;> simp
/-- what stood outside of P stands there yet -/
structure FrP (P : Nat → Prop) (h h' : M) : Prop where
  len : h.length ≤ h'.length
  at_ : ∀ l o, ¬ P l → h[l]? = some o → h'[l]? = some o
theorem FrP.refl {P : Nat → Prop} {h : M} : FrP P h h := ⟨Nat.le_refl _, fun _ _ _ e => e⟩
theorem FrP.set {P : Nat → Prop} {g h : M} {l : Nat} {o : O} (F : FrP P g h) (p : P l ∨ g.length ≤ l) : FrP P g (h.set l o) := ⟨by simpa using F.len, fun k u n e => by
  have hk := at_lt e
  have : l ≠ k := by rintro rfl; rcases p with p | p; exact n p; omega
  exact at_setN (F.at_ k u n e) this⟩
theorem FrP.cat {P : Nat → Prop} {g h : M} (os : M) (F : FrP P g h) : FrP P g (h ++ os) := ⟨by have := F.len; simp; omega, fun k u n e => by
  have := F.at_ k u n e
  rw [cat_old (at_lt this)]; exact this⟩
/-- blocks: lists of words under places that no two share -/
structure BL (h : M) (P : Nat → Prop) (b : Nat) (ls : List Nat) (bs : List (List Int)) : Prop where
  eb : h[b]? = some (.lst (ll ls))
  rl : RL h P ls bs
  nd : ls.Nodup
  nb : b ∉ ls
  pb : P b
/-- a record packed -/
theorem BL.step {h : M} {P : Nat → Prop} {b : Nat} {ls : List Nat} {bs : List (List Int)} {a : Nat} {r : List Int} (B : BL h P b ls bs) (ea : h[a]? = some (.lst (is r))) (na : ¬ P a) (hb : Sml bs) (hr : r.length ≤ 100) (hl : bs.length ≤ 100000) (up : ∀ l, h.length ≤ l → P l)
    {X : XP} {nx : En → M → Prop} {rt : D → M → Prop} {bk ct : En → M → Prop} {U : D} {s2 : D}
    (K : ∀ h' ls', BL h' P b ls' (pk bs r) → FrP P h h' → nx [.va U, .va (.loc b), .va s2, .va (.loc a)] h') :
    @Ws (mSeq (mIfS (mOrT (mTest (m2 fEq (mL fLen (mCons (mVar 1) mNil)) (mC (.int 0)))) (mTest (m2 fGt (m2 fAdd (mL fLen (mCons (m2 fIx (mVar 1) (mC (.int (-1)))) mNil)) (mL fLen (mCons (mVar 3) mNil))) (mC (.int 29)))))
      (mDo (mBM "list" fAppend (mVar 1) (mCons (mL fLst mNil) mNil)))
      mSkip)
      (mDo (mBM "list" fExtend (m2 fIx (mVar 1) (mC (.int (-1)))) (mCons (mVar 3) mNil))) [.va U, .va (.loc b), .va s2, .va (.loc a)] h) ⟨nx, rt, bk, ct, fun x ns vs _ h => X x ns vs h⟩ := by
  obtain ⟨eb, rl, nd, nb, pb⟩ := B
  have hbl := at_lt eb
  have hal := at_lt ea
  have hlen := rl.len
  -- a new block
  have new : pk bs r = bs ++ [r] → @Ws (mSeq (mDo (mBM "list" fAppend (mVar 1) (mCons (mL fLst mNil) mNil))) (mDo (mBM "list" fExtend (m2 fIx (mVar 1) (mC (.int (-1)))) (mCons (mVar 3) mNil))) [.va U, .va (.loc b), .va s2, .va (.loc a)] h) ⟨nx, rt, bk, ct, fun x ns vs _ h => X x ns vs h⟩ := fun hp => by
    have eb1 := (Fr.cat (S := []) [O.lst []]).at eb
    have ea1 := (Fr.cat (S := []) [O.lst []]).at ea
    have e1 : (h ++ [O.lst []])[h.length]? = some (.lst []) := by simp
    have hz : (ll ls).length < sizeLine := by simp [ll, hlen, size24]; omega
    have hlast : atI (ll ls ++ [D.loc h.length]) (-1) = some (.loc h.length) := atI_last
    have hne : b ≠ h.length := by omega
    have hna : a ≠ b := fun q => na (q ▸ pb)
    simp [eb]
    have eb2 := at_set (u := O.lst (ll ls ++ [D.loc h.length])) eb1
    have e2 := at_setN (u := O.lst (ll ls ++ [D.loc h.length])) e1 hne
    have ea2 := at_setN (u := O.lst (ll ls ++ [D.loc h.length])) ea1 hna.symm
    simp [eb1, hz]
    have hg2 : ∃ g2, g2 = (h ++ [O.lst []]).set b (O.lst (ll ls ++ [D.loc h.length])) := ⟨_, rfl⟩
    obtain ⟨g2, hg2⟩ := hg2
    rw [← hg2] at eb2 e2 ea2 ⊢
    simp [eb2, hlast, e2, ea2]
    refine ⟨by rw [is_len, size24]; omega, ?_⟩
    have hpl := up h.length (Nat.le_refl _)
    have hnl : h.length ∉ ls := fun m => by
      obtain ⟨j, e⟩ := List.mem_iff_getElem?.mp m
      obtain ⟨_, r', _, eh⟩ := rl.at_ j _ e
      have := at_lt eh; omega
    have big : ∀ l o, l ≠ b → h[l]? = some o → (g2.set h.length (O.lst (is r)))[l]? = some o := fun l o n1 e => by
      have := at_lt e
      rw [hg2]
      exact at_setN (at_setN ((Fr.cat (S := []) [O.lst []]).at e) (Ne.symm n1)) (by omega)
    refine K _ (ls ++ [h.length]) ⟨?_, ?_, ?_, ?_, pb⟩ (by rw [hg2]; exact ((FrP.refl.cat _).set (.inl pb)).set (.inl hpl))
    · rw [at_setN eb2 (Ne.symm hne)]; simp [ll]
    · rw [hp]
      refine RL.snoc (rl.mono fun l m o p e => ⟨p, big l o (fun q => nb (q ▸ m)) e⟩) hpl ?_
      rw [at_set e2]
    · rw [List.nodup_append]
      exact ⟨nd, by simp, fun x m y m2 => by simp at m2; subst m2; rintro rfl; exact hnl m⟩
    · simp only [List.mem_append, List.mem_singleton, not_or]; exact ⟨nb, hne⟩
  rcases List.eq_nil_or_concat bs with hbs | ⟨bs', x, hbs⟩
  · subst hbs
    have hls : ls = [] := List.eq_nil_of_length_eq_zero (by simpa using hlen)
    subst hls
    have := new rfl
    simp [eb, ll] at this ⊢
    exact this
  · rw [List.concat_eq_append] at hbs
    subst hbs
    rcases List.eq_nil_or_concat ls with hls | ⟨ls', k, hls⟩
    · subst hls; simp at hlen
    rw [List.concat_eq_append] at hls
    subst hls
    obtain ⟨R', pk', ek⟩ := rl.front
    have hlast : atI (ll (ls' ++ [k])) (-1) = some (.loc k) := by
      rw [show ll (ls' ++ [k]) = ll ls' ++ [.loc k] by simp [ll]]; exact atI_last
    have hne : ¬ (ll (ls' ++ [k]) = []) := by simp [ll]
    have hxl : (is x).length = x.length := is_len
    have hrl : (is r).length = r.length := is_len
    have hx100 := hb x (by simp)
    by_cases hfull : 29 < x.length + r.length
    · have := new (by rw [pk_snoc, if_pos hfull])
      have hf : (29 : Int) < (x.length : Int) + (r.length : Int) := by omega
      simp [eb, hne, hlast, ek, ea, hxl, hrl, hf] at this ⊢
      exact this
    · have hf : ¬ (29 : Int) < (x.length : Int) + (r.length : Int) := by omega
      simp [eb, hne, hlast, ek, ea, hxl, hrl, hf]
      refine ⟨by rw [size24]; omega, ?_⟩
      have hkb : k ≠ b := fun q => nb (by simp [q])
      have hnd := List.nodup_append.mp nd
      refine K _ (ls' ++ [k]) ⟨at_setN eb hkb, ?_, nd, nb, pb⟩ (FrP.refl.set (.inl pk'))
      rw [pk_snoc, if_neg hfull]
      refine RL.snoc (R'.mono fun l m o p e => ⟨p, at_setN e fun q => hnd.2.2 l m k (by simp) q.symm⟩) pk' ?_
      rw [at_set ek, is_app]
end K23
set_option Elab.async false
set_option linter.all false
set_option maxRecDepth 100000
set_option maxHeartbeats 1000000
namespace K23
open PySem L2 LF NW
theorem recTo_sml {cs : List Cl} (o : ∀ c ∈ cs, Ok c) : ∀ i, ∀ r ∈ recTo cs i, r.length ≤ 100
  | 0, r, m => by simp [recTo] at m
  | i + 1, r, m => by
    simp only [recTo, List.mem_append] at m
    rcases m with m | m
    · exact recTo_sml o i r m
    · cases e : cs[i]? with
      | none => rw [e] at m; simp at m
      | some c =>
        rw [e] at m
        simp at m; subst m
        have := rc_len (o c (List.mem_of_getElem? e)) (l := decide (i + 1 = cs.length))
        unfold recAt; omega
theorem recs_len {cs : List Cl} : (recs cs).length = cs.length := recTo_len (Nat.le_refl _)
theorem recTo_at {cs : List Cl} : ∀ {i j : Nat} {c : Cl}, j < i → i ≤ cs.length → cs[j]? = some c → (recTo cs i)[j]? = some (recAt cs.length c j)
  | 0, _, _, h, _, _ => by omega
  | i + 1, j, c, h, hi, e => by
    have hl := recTo_len (cs := cs) (i := i) (by omega)
    by_cases hj : j < i
    · rw [recTo_succ (List.getElem?_eq_getElem (by omega)), List.getElem?_append_left (by omega)]
      exact recTo_at hj (by omega) e
    · have : j = i := by omega
      subst this
      rw [recTo_succ e, List.getElem?_append_right (by omega), hl]; simp
theorem recs_at {cs : List Cl} {j : Nat} {c : Cl} (e : cs[j]? = some c) : (recs cs)[j]? = some (recAt cs.length c j) := recTo_at (List.getElem?_eq_some_iff.mp e).1 (Nat.le_refl _) e
theorem take_snoc {α : Type} {xs : List α} {j : Nat} {r : α} (e : xs[j]? = some r) : xs.take (j + 1) = xs.take j ++ [r] := by rw [List.take_succ, e]; rfl
theorem foldl_sml : ∀ {rs : List (List Int)} {bs : List (List Int)}, Sml bs → (∀ r ∈ rs, r.length ≤ 100) → Sml (rs.foldl pk bs)
  | [], bs, hb, _ => hb
  | r :: rs, bs, hb, h => by rw [List.foldl_cons]; exact foldl_sml (pk_sml hb (h r (by simp))) fun q m => h q (by simp [m])
theorem foldl_len : ∀ {rs : List (List Int)} {bs : List (List Int)}, (rs.foldl pk bs).length ≤ bs.length + rs.length
  | [], bs => by simp
  | r :: rs, bs => by
    have h1 := foldl_len (rs := rs) (bs := pk bs r)
    have h2 := pk_len (bs := bs) (r := r)
    simp only [List.foldl_cons, List.length_cons]; omega
/-- the records of the units up to i -/
def allTo (css : List (List Cl)) (i : Nat) : List (List Int) := (css.take i).flatMap recs
theorem allTo_succ {css : List (List Cl)} {i : Nat} {cs : List Cl} (e : css[i]? = some cs) : allTo css (i + 1) = allTo css i ++ recs cs := by
  unfold allTo; rw [take_snoc e, List.flatMap_append]; simp
theorem allTo_sml {css : List (List Cl)} (o : ∀ cs ∈ css, ∀ c ∈ cs, Ok c) (i : Nat) : ∀ r ∈ allTo css i, r.length ≤ 100 := fun r m => by
  unfold allTo at m
  rw [List.mem_flatMap] at m
  obtain ⟨cs, mc, m⟩ := m
  exact recTo_sml (o cs (List.mem_of_mem_take mc)) _ r m
theorem allTo_len {css : List (List Cl)} (o : ∀ cs ∈ css, cs.length ≤ 100) : ∀ {i : Nat}, (allTo css i).length ≤ 100 * i
  | 0 => by simp [allTo]
  | i + 1 => by
    have ih := allTo_len o (i := i)
    cases e : css[i]? with
    | none =>
      have : allTo css (i + 1) = allTo css i := by unfold allTo; rw [List.take_succ, e]; simp
      rw [this]; omega
    | some cs =>
      have := o cs (List.mem_of_getElem? e)
      rw [allTo_succ e, List.length_append, recs_len]; omega
def due (css : List (List Cl)) : List (List Int) := (css.flatMap recs).foldl pk []
theorem allTo_all {css : List (List Cl)} : allTo css css.length = css.flatMap recs := by unfold allTo; rw [List.take_length]
theorem UL.ok {h : M} {us : List Nat} {css : List (List Cl)} (U : UL h us css) : ∀ cs ∈ css, (∀ c ∈ cs, Ok c) ∧ cs.length ≤ 100 := fun cs m => by
  obtain ⟨j, e⟩ := List.mem_iff_getElem?.mp m
  have hj : j < us.length := by rw [U.len]; exact (List.getElem?_eq_some_iff.mp e).1
  obtain ⟨cs', e1, _, e3⟩ := U.at_ j us[j] (List.getElem?_eq_getElem hj)
  rw [e] at e1; cases e1
  exact e3
section
variable {h : M} {Q : D → M → Prop} {X : XP}
theorem packUnits {u : Nat} {us : List Nat} {css : List (List Cl)} (e : h[u]? = some (.lst (ll us))) (U : UL h us css) (hl : css.length ≤ 500) (K : ∀ h' b ls, BL h' (fun l => h.length ≤ l) b ls (due css) → Fr [] h h' → Q (.loc b) h') : @Wc D (m_pack_units [.loc u] h) ⟨Q, X⟩ := by
  unfold m_pack_units; rw [wp_fn]; unfold b_pack_units
  have hul := at_lt e
  have e1 := (Fr.cat (S := []) [O.lst []]).at e
  have hok := U.ok
  simp [e1]
  obtain ⟨I, hI⟩ : ∃ I, I = (fun (i : Nat) (env : En) (h' : M) => ∃ ls s2 s3, env = [.va (.loc u), .va (.loc h.length), s2, s3] ∧ BL h' (fun l => h.length ≤ l) h.length ls ((allTo css i).foldl pk []) ∧ Fr [] h h') := ⟨_, rfl⟩
  refine floop_inv I (by rw [hI]; exact ⟨[], _, _, rfl, ⟨by simp [ll], RL.nil, by simp, by simp, Nat.le_refl _⟩, .cat _⟩) (fun i env q _ z => ?_) ?_ ?_
  · rw [hI] at z
    obtain ⟨_, _, _, _, _, F⟩ := z
    exact lstOf_at (F.at e)
  · intro i d env g hd z
    rw [hI] at z
    obtain ⟨ls, s2, s3, rfl, B, F⟩ := z
    rw [ll, List.getElem?_map, Option.map_eq_some_iff] at hd
    obtain ⟨ui, eui, rfl⟩ := hd
    obtain ⟨cs, ecs, eu, oc, hcl⟩ := U.at_ i ui eui
    have hi : i < css.length := (List.getElem?_eq_some_iff.mp ecs).1
    have hgl := F.len
    have hbg := at_lt B.eb
    simp
    refine unitRecords (F.at eu) oc hcl fun g1 rl eR R FR => ?_
    have hRl := at_lt eR
    have hg1 := FR.len
    simp [eR]
    obtain ⟨P, hP⟩ : ∃ P : Nat → Prop, P = fun l => (h.length ≤ l ∧ l < g.length) ∨ g1.length ≤ l := ⟨_, rfl⟩
    have B1 : BL g1 P h.length ls ((allTo css i).foldl pk []) := ⟨FR.at B.eb, B.rl.mono fun l _ o p eo => ⟨by rw [hP]; exact .inl ⟨p, at_lt eo⟩, FR.at eo⟩, B.nd, B.nb, by rw [hP]; exact .inl ⟨Nat.le_refl _, hbg⟩⟩
    have hsml : Sml ((allTo css i).foldl pk []) := foldl_sml (by intro r m; simp at m) (allTo_sml (fun cs m => (hok cs m).1) i)
    have hlen1 := allTo_len (fun cs m => (hok cs m).2) (i := i)
    have hlen2 := foldl_len (rs := allTo css i) (bs := [])
    obtain ⟨J, hJ⟩ : ∃ J, J = (fun (j : Nat) (env : En) (h' : M) => ∃ ls s3, env = [.va (.loc u), .va (.loc h.length), .va (.loc ui), s3] ∧ BL h' P h.length ls (((recs cs).take j).foldl pk ((allTo css i).foldl pk [])) ∧ FrP P g1 h') := ⟨_, rfl⟩
    refine floop_inv J (by rw [hJ]; exact ⟨ls, _, rfl, by simpa using B1, FrP.refl⟩) (fun j env q _ z => ?_) ?_ ?_
    · rw [hJ] at z
      obtain ⟨_, _, _, _, FP⟩ := z
      exact lstOf_at (FP.at_ _ _ (by rw [hP]; omega) eR)
    · intro j d env q hd z
      rw [hJ] at z
      obtain ⟨ls', s3, rfl, B', FP⟩ := z
      rw [ll, List.getElem?_map, Option.map_eq_some_iff] at hd
      obtain ⟨a, ea, rfl⟩ := hd
      obtain ⟨pa, r, er, ea1⟩ := R.at_ j a ea
      have hj : j < cs.length := by rw [← recs_len (cs := cs)]; exact (List.getElem?_eq_some_iff.mp er).1
      have na : ¬ P a := by rw [hP]; omega
      have hq := FP.len
      have rsm := recTo_sml oc cs.length
      have hlen3 := foldl_len (rs := (recs cs).take j) (bs := (allTo css i).foldl pk [])
      have hlen4 : ((recs cs).take j).length ≤ 100 := by rw [List.length_take, recs_len]; omega
      simp only [List.length_nil] at hlen2
      rw [show @Wc En (gN 3 (D.loc a) [.va (.loc u), .va (.loc h.length), .va (.loc ui), s3] q) = @Wc En (Res.ok [.va (.loc u), .va (.loc h.length), .va (.loc ui), .va (.loc a)] q) from rfl, wp_ok]
      refine BL.step B' (FP.at_ _ _ na ea1) na (foldl_sml hsml fun x m => rsm x (List.mem_of_mem_take m)) (rsm r (List.mem_of_getElem? er)) (by omega) (fun l hll => by rw [hP]; exact .inr (by omega)) fun h2 ls2 B2 F2 => ?_
      rw [hJ]
      refine ⟨ls2, _, rfl, ?_, ⟨Nat.le_trans FP.len F2.len, fun l o n eo => F2.at_ l o n (FP.at_ l o n eo)⟩⟩
      rw [take_snoc er, List.foldl_append]
      exact B2
    · intro env q z
      rw [hJ] at z
      obtain ⟨ls', s3, rfl, B', FP⟩ := z
      have hrl : (ll rl).length = (recs cs).length := by simp [ll, R.len]
      rw [hrl, List.take_length, ← List.foldl_append, ← allTo_succ ecs] at B'
      rw [hI]
      refine ⟨ls', _, _, rfl, ⟨B'.eb, B'.rl.mono fun l _ o p eo => ⟨by rw [hP] at p; omega, eo⟩, B'.nd, B'.nb, Nat.le_refl _⟩, ⟨by have := FP.len; omega, fun l o _ eo => ?_⟩⟩
      have := at_lt eo
      exact FP.at_ l o (by rw [hP]; omega) (FR.at (F.at eo))
  · intro env g z
    rw [hI] at z
    obtain ⟨ls, s2, s3, rfl, B, F⟩ := z
    have hll : (ll us).length = css.length := by simp [ll, U.len]
    rw [hll, allTo_all] at B
    simp
    exact K g _ ls B F
end
end K23
set_option Elab.async false
set_option linter.all false
set_option maxRecDepth 100000
set_option maxHeartbeats 1000000
namespace K23
open PySem L2 LF NW
section
variable {h : M} {Q : D → M → Prop} {X : XP}
theorem pla_ll {h : M} {P : Nat → Prop} {n : Nat} : ∀ {ls : List Nat} {bs : List (List Int)}, RL h P ls bs → PlA h (n + 1) (ll ls) (bs.map fun r => .list (r.map .int))
  | [], [], _ => pla_nil
  | l :: ls, r :: bs, R => by
    have h0 := R.at_ 0 l (by simp)
    obtain ⟨_, r', er, eh⟩ := h0
    simp at er; subst er
    refine pla_cons (pl_loc eh pla_ints) (pla_ll (P := P) ⟨by have := R.len; simpa using this, fun j k e => ?_⟩)
    obtain ⟨p, r', er, eh⟩ := R.at_ (j + 1) k (by simpa using e)
    exact ⟨p, r', by simpa using er, eh⟩
  | [], _ :: _, R => by have := R.len; simp at this
  | _ :: _, [], R => by have := R.len; simp at this
theorem fEq_nil {P : Nat → Prop} {a c : Nat} {ls : List Nat} {bs : List (List Int)} (e1 : h[a]? = some (.lst (ll ls))) (R : RL h P ls bs) (e2 : h[c]? = some (.lst [])) : fEq (.loc a) (.loc c) h = .ok (.bl (decide (bs = []))) h := by
  have := eqD_pl (h := h) (pl_loc e1 (pla_ll R)) (pl_loc e2 pla_nil) rfl
  simp only [fEq, this, PyData.eqv]
  cases bs with
  | nil => simp [PyData.eqvAll]
  | cons b bs => simp [PyData.eqvAll]
theorem lawBlocks {u : Nat} {us : List Nat} {css : List (List Cl)} (e : h[u]? = some (.lst (ll us))) (U : UL h us css) (hl : css.length ≤ 500) (K : ∀ h' b ls, h'[b]? = some (.lst (ll ls)) → RL h' (fun _ => True) ls (due css) → Fr [] h h' → Q (.loc b) h') : @Wc D (m_law_blocks_u [.loc u] h) ⟨Q, X⟩ := by
  unfold m_law_blocks_u; rw [wp_fn]; unfold b_law_blocks_u
  have hul := at_lt e
  have e1 := (Fr.cat (S := []) [O.lst []]).at e
  have hok := U.ok
  simp [e1]
  obtain ⟨b, hb⟩ : ∃ b, b = h.length := ⟨_, rfl⟩
  rw [← hb]
  obtain ⟨I, hI⟩ : ∃ I, I = (fun (i : Nat) (env : En) (h' : M) => ∃ ls s2 s3 s4, env = [.va (.loc u), .va (.loc b), s2, s3, s4] ∧ h'[b]? = some (.lst (ll ls)) ∧ RL h' (fun l => l ≠ b) ls ((allTo css i).foldl pk []) ∧ Fr [] h h') := ⟨_, rfl⟩
  refine floop_inv I (by rw [hI]; exact ⟨[], _, _, _, rfl, by simp [ll, hb], RL.nil, .cat _⟩) (fun i env q _ z => ?_) ?_ ?_
  · rw [hI] at z
    obtain ⟨_, _, _, _, _, _, _, F⟩ := z
    exact lstOf_at (F.at e)
  · intro i d env g hd z
    rw [hI] at z
    obtain ⟨ls, s2, s3, s4, rfl, eb, R, F⟩ := z
    rw [ll, List.getElem?_map, Option.map_eq_some_iff] at hd
    obtain ⟨ui, eui, rfl⟩ := hd
    obtain ⟨cs, ecs, eu, oc, hcl⟩ := U.at_ i ui eui
    have hi : i < css.length := (List.getElem?_eq_some_iff.mp ecs).1
    have hgl := F.len
    have eug := F.at eu
    have hui := at_lt eu
    have hsml : Sml ((allTo css i).foldl pk []) := foldl_sml (by intro r m; simp at m) (allTo_sml (fun cs m => (hok cs m).1) i)
    have hlen1 := allTo_len (fun cs m => (hok cs m).2) (i := i)
    have hlen2 := foldl_len (rs := allTo css i) (bs := [])
    simp only [List.length_nil] at hlen2
    simp [eug]
    refine ⟨by omega, ?_⟩
    obtain ⟨J, hJ⟩ : ∃ J, J = (fun (j : Nat) (env : En) (h' : M) => ∃ ls s3 s4, env = [.va (.loc u), .va (.loc b), .va (.loc ui), s3, s4] ∧ h'[b]? = some (.lst (ll ls)) ∧ RL h' (fun l => l ≠ b) ls (((recs cs).take j).foldl pk ((allTo css i).foldl pk [])) ∧ Fr [] h h') := ⟨_, rfl⟩
    refine floop_inv J (by rw [hJ]; exact ⟨ls, _, _, rfl, eb, by simpa using R, F⟩) (fun _ _ _ _ _ => trivial) ?_ ?_
    · intro j d env q hd z
      rw [hJ] at z
      obtain ⟨ls', s3, s4, rfl, eb', R', F'⟩ := z
      obtain ⟨hj, rfl⟩ := rg_at hd
      obtain ⟨c, ec⟩ : ∃ c, cs[j]? = some c := ⟨_, List.getElem?_eq_getElem hj⟩
      have euq := F'.at eu
      have er := recs_at ec
      have rsm := recTo_sml oc cs.length
      have hlen3 := foldl_len (rs := (recs cs).take j) (bs := (allTo css i).foldl pk [])
      have hlen4 : ((recs cs).take j).length ≤ 100 := by rw [List.length_take, recs_len]; omega
      have hsm2 := foldl_sml (rs := (recs cs).take j) hsml fun x m => rsm x (List.mem_of_mem_take m)
      have hr100 := rsm _ (List.mem_of_getElem? er)
      have hat : atI (cs.map clD) (j : Int) = some (clD c) := by rw [atI_n, List.getElem?_map, ec]; rfl
      have hdec : decide ((j : Int) + 1 = (cs.length : Int)) = decide (j + 1 = cs.length) := by
        by_cases q : j + 1 = cs.length
        · rw [decide_eq_true q, decide_eq_true (by omega)]
        · rw [decide_eq_false q, decide_eq_false (by omega)]
      have hb0 : h.length ≤ b := by omega
      have fin : ∀ (h2 : M) (ls2 : List Nat) (s3 s4 : Sl), h2[b]? = some (.lst (ll ls2)) → RL h2 (fun l => l ≠ b) ls2 (pk (((recs cs).take j).foldl pk ((allTo css i).foldl pk [])) (recAt cs.length c j)) → Fr [] h h2 → J (j + 1) [.va (.loc u), .va (.loc b), .va (.loc ui), s3, s4] h2 := fun h2 ls2 s3 s4 eb2 R2 F2 => by
        rw [hJ]
        refine ⟨ls2, _, _, rfl, eb2, ?_, F2⟩
        rw [take_snoc er, List.foldl_append]
        exact R2
      generalize ((recs cs).take j).foldl pk ((allTo css i).foldl pk []) = bs at *
      simp [euq, hat, hdec]
      refine lawRecord (oc c (List.mem_of_getElem? ec)) fun a q2 ha ea F2 => ?_
      have ha2 := at_lt ea
      have hbq := at_lt eb'
      have hlq := F2.len
      have hrec : rc c (decide (j + 1 = cs.length)) = recAt cs.length c j := rfl
      rw [hrec] at ea
      generalize recAt cs.length c j = r at *
      have C3 : Fr [] q2 (q2 ++ [O.lst []]) := Fr.cat _
      have eb3 := C3.at (F2.at eb')
      have ea3 := C3.at ea
      have R3 : RL (q2 ++ [O.lst []]) (fun l => l ≠ b) ls' bs := R'.mono fun l _ o p eo => ⟨p, C3.at (F2.at eo)⟩
      have e3 : (q2 ++ [O.lst []])[q2.length]? = some (.lst []) := by simp
      have F03 : Fr [] h (q2 ++ [O.lst []]) := F'.trans (F2.trans C3)
      have hlen := R3.len
      have hq := fEq_nil eb3 R3 e3
      have hab : b ≠ a := by omega
      simp [size24]
      generalize q2 ++ [O.lst []] = q3 at *
      simp [hq]
      have app : pk bs r = bs ++ [r] → ∀ s3, J (j + 1) [.va (.loc u), .va (.loc b), .va (.loc ui), s3, .va (.loc a)] (q3.set b (.lst (ll ls' ++ [.loc a]))) := fun hp s3 => by
        refine fin _ (ls' ++ [a]) _ _ (by rw [at_set eb3]; simp [ll]) ?_ ⟨by simpa using F03.len, fun l o _ eo => at_setN (F03.at eo) (by have := at_lt eo; omega)⟩
        rw [hp]
        exact RL.snoc (R3.mono fun l _ o p eo => ⟨p, at_setN eo (Ne.symm p)⟩) (Ne.symm hab) (at_setN ea3 hab)
      have hz : (ll ls').length < sizeLine := by rw [size24]; simp [ll, hlen]; omega
      rcases List.eq_nil_or_concat bs with hbs | ⟨bs', x, hbs⟩
      · subst hbs
        simp [eb3, hz]
        exact app rfl _
      · rw [List.concat_eq_append] at hbs
        subst hbs
        rcases List.eq_nil_or_concat ls' with hls | ⟨ls'', k, hls⟩
        · subst hls; simp at hlen
        rw [List.concat_eq_append] at hls
        subst hls
        obtain ⟨R'', pk', ek⟩ := R3.front
        have hll : ll (ls'' ++ [k]) = ll ls'' ++ [.loc k] := by simp [ll]
        have hlast : atI (ll (ls'' ++ [k])) (-1) = some (.loc k) := by rw [hll]; exact atI_last
        have hix : ixN (ll (ls'' ++ [k])).length (-1) = some ls''.length := by rw [hll]; simp [ll]; exact ixN_last
        have hx100 := hsm2 x (by simp)
        by_cases hfull : 29 < x.length + r.length
        · have hf : (29 : Int) < (x.length : Int) + (r.length : Int) := by omega
          simp [eb3, hlast, ek, ea3, is_len, hf, hz]
          exact app (by rw [pk_snoc, if_pos hfull]) _
        · have hf : ¬ (29 : Int) < (x.length : Int) + (r.length : Int) := by omega
          simp [eb3, hlast, ek, ea3, is_len, hf]
          refine ⟨by rw [size24]; omega, ?_⟩
          have C4 : Fr [] q3 (q3 ++ [O.lst (is x ++ is r)]) := Fr.cat _
          have eb4 := C4.at eb3
          simp [eb4, hix]
          have hbq3 := at_lt eb3
          refine fin _ (ls'' ++ [q3.length]) _ _ ?_ ?_ ⟨by have := F03.len; simp; omega, fun l o _ eo => at_setN (C4.at (F03.at eo)) (by have := at_lt eo; omega)⟩
          · rw [at_set eb4, hll]
            simp [ll]
          · rw [pk_snoc, if_neg hfull]
            have hne : b ≠ q3.length := by omega
            refine RL.snoc (R''.mono fun l _ o p eo => ⟨p, at_setN (C4.at eo) (Ne.symm p)⟩) (Ne.symm hne) ?_
            rw [at_setN (o := O.lst (is x ++ is r)) (by simp) hne, is_app]
    · intro env q z
      rw [hJ] at z
      obtain ⟨ls', s3, s4, rfl, eb', R', F'⟩ := z
      rw [rg_len] at R'
      have hrl : cs.length = (recs cs).length := recs_len.symm
      rw [hrl, List.take_length, ← List.foldl_append, ← allTo_succ ecs] at R'
      rw [hI]
      exact ⟨ls', _, _, _, rfl, eb', R', F'⟩
  · intro env g z
    rw [hI] at z
    obtain ⟨ls, s2, s3, s4, rfl, eb, R, F⟩ := z
    have hll : (ll us).length = css.length := by simp [ll, U.len]
    rw [hll, allTo_all] at R
    simp
    exact K g _ ls eb (R.mono fun l _ o _ eo => ⟨trivial, eo⟩) F
end
end K23
set_option Elab.async false
set_option linter.all false
set_option maxRecDepth 100000
set_option maxHeartbeats 1000000
namespace K23
open PySem L2 LF NW
theorem UL.snoc {h : M} {ls : List Nat} {css : List (List Cl)} {l : Nat} {cs : List Cl} (U : UL h ls css) (e : h[l]? = some (.lst (cs.map clD))) (o : ∀ c ∈ cs, Ok c) (hl : cs.length ≤ 100) : UL h (ls ++ [l]) (css ++ [cs]) := by
  refine ⟨by simp [U.len], fun j k ek => ?_⟩
  by_cases hj : j < ls.length
  · rw [List.getElem?_append_left hj] at ek
    obtain ⟨cs', er, eh⟩ := U.at_ j k ek
    have : j < css.length := by rw [← U.len]; exact hj
    exact ⟨cs', by rw [List.getElem?_append_left this]; exact er, eh⟩
  · have hj2 : j < (ls ++ [l]).length := (List.getElem?_eq_some_iff.mp ek).1
    have : j = ls.length := by simp at hj2; omega
    subst this
    simp at ek; subst ek
    exact ⟨cs, by rw [U.len]; simp, e, o, hl⟩
theorem UL.front {h : M} {ls : List Nat} {css : List (List Cl)} {l : Nat} {cs : List Cl} (U : UL h (ls ++ [l]) (css ++ [cs])) : UL h ls css ∧ h[l]? = some (.lst (cs.map clD)) ∧ ∀ c ∈ cs, Ok c := by
  have hl : ls.length = css.length := by have := U.len; simpa using this
  refine ⟨⟨hl, fun j k e => ?_⟩, ?_⟩
  · have hj : j < ls.length := (List.getElem?_eq_some_iff.mp e).1
    obtain ⟨cs', er, eh⟩ := U.at_ j k (by rw [List.getElem?_append_left hj]; exact e)
    rw [List.getElem?_append_left (by omega)] at er
    exact ⟨cs', er, eh⟩
  · obtain ⟨cs', er, eh⟩ := U.at_ ls.length l (by simp)
    rw [hl] at er
    simp at er; subst er
    exact ⟨eh.1, eh.2.1⟩
theorem UL.mono {h h' : M} {ls : List Nat} {css : List (List Cl)} (U : UL h ls css) (k : ∀ l ∈ ls, ∀ o, h[l]? = some o → h'[l]? = some o) : UL h' ls css :=
  ⟨U.len, fun j l e => by
    obtain ⟨cs, e1, e2, e3⟩ := U.at_ j l e
    exact ⟨cs, e1, k l (List.mem_of_getElem? e) _ e2, e3⟩⟩
theorem UL.app {h : M} {ls ks : List Nat} {css dss : List (List Cl)} (U : UL h ls css) (V : UL h ks dss) : UL h (ls ++ ks) (css ++ dss) := by
  refine ⟨by simp [U.len, V.len], fun j k ek => ?_⟩
  by_cases hj : j < ls.length
  · rw [List.getElem?_append_left hj] at ek
    obtain ⟨cs', er, eh⟩ := U.at_ j k ek
    have : j < css.length := by rw [← U.len]; exact hj
    exact ⟨cs', by rw [List.getElem?_append_left this]; exact er, eh⟩
  · rw [List.getElem?_append_right (by omega)] at ek
    obtain ⟨cs', er, eh⟩ := V.at_ _ k ek
    refine ⟨cs', by rw [List.getElem?_append_right (by rw [← U.len]; omega), ← U.len]; exact er, eh⟩
section
variable {h : M} {Q : D → M → Prop} {X : XP}
theorem units {ns : List Int} {n : Int} (n0 : 0 ≤ n) (n1 : n ≤ 41) (K : ∀ h' b us css, h'[b]? = some (.lst (ll us)) → UL h' us css → css.length ≤ 41 → Fr [] h h' → Q (.loc b) h') : @Wc D (m_law_units_u [.cl (ns.map .int), .int n] h) ⟨Q, X⟩ := by
  unfold m_law_units_u; rw [wp_fn]; unfold b_law_units_u
  simp
  refine ⟨⟨by omega, by omega⟩, ?_⟩
  obtain ⟨b, hb⟩ : ∃ b, b = h.length := ⟨_, rfl⟩
  rw [← hb]
  obtain ⟨I, hI⟩ : ∃ I, I = (fun (i : Nat) (env : En) (h' : M) => ∃ (us : List Nat) (css : List (List Cl)) (fl : Int) (op : Bool) (s5 s6 s7 s8 s9 : Sl), env = [.va (.cl (ns.map .int)), .va (.int n), .va (.loc b), .va (.int fl), .va (.bl op), s5, s6, s7, s8, s9] ∧ h'[b]? = some (.lst (ll us)) ∧ UL h' us css ∧ b ∉ us ∧ css.length ≤ i ∧ (∀ cs ∈ css, cs.length ≤ i) ∧ (op = true → css ≠ []) ∧ Fr [] h h') := ⟨_, rfl⟩
  refine floop_inv I (by rw [hI]; exact ⟨[], [], 0, false, _, _, _, _, _, rfl, by simp [ll, hb], ⟨rfl, fun j l e => by simp at e⟩, by simp, by simp, by simp, by simp, .cat _⟩) (fun _ _ _ _ _ => trivial) ?_ ?_
  · intro i d env g hd z
    rw [hI] at z
    obtain ⟨us, css, fl, op, s5, s6, s7, s8, s9, rfl, eb, U, nb, hcl, hcs, hop, F⟩ := z
    obtain ⟨hi, rfl⟩ := rg_at hd
    have hbg := at_lt eb
    simp
    refine pot (by omega) (by omega) fun p g1 P1 hp F1 => ?_
    simp
    refine take P1 (by omega) (by omega) (by omega) fun am g2 a0 a1 P2 F2 => ?_
    simp
    refine call P2 (by omega) fun c g3 o3 T3 => ?_
    -- the call that is taken
    have F13 : Fr [p] g g3 := F1.nil.trans (F2.trans T3.2)
    rw [ws_seq]
    refine Ws.cut (fun e h' => ∃ (c : Cl) (s9 : Sl), Ok c ∧ e = [.va (.cl (ns.map .int)), .va (.int n), .va (.loc b), .va (.int fl), .va (.bl op), .va (.int i), .va (.loc p), .va (.int am), .va (clD c), s9] ∧ Pot h' p 400 ∧ Fr [p] g h') ?_ ?_
    · simp
      split
      · refine fitted o3 T3.1 (by omega) fun c' g4 o4 T4 => ?_
        exact ⟨c', _, o4, rfl, T4.1.le (by omega), F13.trans T4.2⟩
      · exact ⟨c, o3, rfl, T3.1.le (by omega), F13⟩
    rintro _ g4 ⟨c, s9, oc, rfl, P4, F4⟩
    have hpb : b ≠ p := by have := F1.len; omega
    have eb4 := F4.at eb (by simpa using hpb)
    have hg4 := F4.len
    have pus : ∀ l ∈ us, l ≠ p := fun l m => by
      obtain ⟨j, e⟩ := List.mem_iff_getElem?.mp m
      obtain ⟨_, _, e2, _⟩ := U.at_ j l e
      have := at_lt e2; omega
    have U4 : UL g4 us css := U.mono fun l m o e => F4.at e (by simpa using pus l m)
    have F04 : Fr [] h g4 := ⟨by have := F.len; omega, fun l o _ e => F4.at (F.at e) (by have := at_lt e; have := F.len; simp; omega)⟩
    rw [ws_seq]
    refine Ws.cut (fun e h' => ∃ (w : Int), e = [.va (.cl (ns.map .int)), .va (.int n), .va (.loc b), .va (.int fl), .va (.bl op), .va (.int i), .va (.loc p), .va (.int am), .va (clD c), .va (.int w)] ∧ Fr [] g4 h') ?_ ?_
    · simp
      refine lawRecord oc fun a g5 ha ea F5 => ?_
      simp [ea]
      exact F5
    rintro _ g5 ⟨w, rfl, F5⟩
    have P5 := P4.fr F5 (by simp)
    have eb5 := F5.at eb4
    have U5 : UL g5 us css := U4.mono fun l m o e => F5.at e
    have F05 : Fr [] h g5 := F04.trans F5
    have hp5 := P5.lt
    rw [ws_seq]
    refine Ws.cut (fun e h' => g5 = h' ∧ ∃ (fl : Int), e = [.va (.cl (ns.map .int)), .va (.int n), .va (.loc b), .va (.int fl), .va (.bl op), .va (.int i), .va (.loc p), .va (.int am), .va (clD c), .va (.int w)]) ?_ ?_
    · simp
    rintro _ _ ⟨rfl, fl, rfl⟩
    have hlen := U5.len
    have fin : ∀ (us' : List Nat) (css' : List (List Cl)) (g6 : M) (s5 s6 s7 s8 s9 : Sl) (op' : Bool) (fl' : Int), g6[b]? = some (.lst (ll us')) → UL g6 us' css' → b ∉ us' → css'.length ≤ i + 1 → (∀ cs ∈ css', cs.length ≤ i + 1) → css' ≠ [] → Fr [] h g6 →
        I (i + 1) [.va (.cl (ns.map .int)), .va (.int n), .va (.loc b), .va (.int fl'), .va (.bl op'), s5, s6, s7, s8, s9] g6 := fun us' css' g6 s5 s6 s7 s8 s9 op' fl' e1 e2 e3 e4 e5 e6 e7 => by
      rw [hI]
      exact ⟨us', css', fl', op', _, _, _, _, _, rfl, e1, e2, e3, e4, e5, fun _ => e6, e7⟩
    have fin2 : ∀ (us' : List Nat) (css' : List (List Cl)) (g6 : M) (e : En), (∀ op', ∃ fl' s5 s6 s7 s8 s9, e.set 4 (.va (.bl op')) = [.va (.cl (ns.map .int)), .va (.int n), .va (.loc b), .va (.int fl'), .va (.bl op'), s5, s6, s7, s8, s9]) → g6[b]? = some (.lst (ll us')) → UL g6 us' css' → b ∉ us' → css'.length ≤ i + 1 → (∀ cs ∈ css', cs.length ≤ i + 1) → css' ≠ [] → Fr [] h g6 → Pot g6 p 400 → (∀ l ∈ us', l ≠ p) →
        @Wc D (m_law_take_u [.loc p, .int 3] g6) ⟨fun d g7 => ∃ z, d = .int z ∧ I (i + 1) (e.set 4 (.va (.bl (decide (0 < z))))) g7, fun x ns vs h => X x ns vs h⟩ := fun us' css' g6 e he e1 e2 e3 e4 e5 e6 e7 P6 np => by
      refine take P6 (by omega) (by omega) (by omega) fun z g7 z0 z1 P7 F7 => ⟨z, rfl, ?_⟩
      obtain ⟨fl', s5, s6, s7, s8, s9, q⟩ := he (decide (0 < z))
      rw [q]
      have hlp : h.length ≤ p := by have := F.len; omega
      refine fin us' css' g7 _ _ _ _ _ _ _ (F7.at e1 (by simpa using hpb)) (e2.mono fun l m o eo => F7.at eo (by simpa using np l m)) e3 e4 e5 e6 ⟨by have := F7.len; have := e7.len; omega, fun l o _ eo => F7.at (e7.at eo) (by have := at_lt eo; simp; omega)⟩
    cases op with
    | false =>
      have C6 : Fr [] g5 (g5 ++ [O.lst [clD c]]) := Fr.cat _
      have eb6 := C6.at eb5
      have hb6 := at_lt eb5
      have hz : (ll us).length < sizeLine := by rw [size24]; simp [ll, hlen]; omega
      simp [eb5]
      simp [eb6, hz]
      have hn : g5.length ∉ us := fun m => by
        obtain ⟨j, e⟩ := List.mem_iff_getElem?.mp m
        obtain ⟨_, _, e2, _⟩ := U5.at_ j _ e
        have := at_lt e2; omega
      refine ⟨by rw [size24]; omega, Wc.mono (fin2 (us ++ [g5.length]) (css ++ [[c]]) _ [.va (.cl (ns.map .int)), .va (.int n), .va (.loc b), .va (.int (fl + w)), .va (.bl false), .va (.int i), .va (.loc p), .va (.int am), .va (clD c), .va (.int w)] (fun op' => ⟨_, _, _, _, _, _, rfl⟩) ?_ ?_ ?_ (by simp; omega) ?_ (by simp) ?_ ?_ ?_) ?_ (fun _ _ _ _ z => z)⟩
      · rw [at_set eb6]; simp [ll]
      · refine UL.snoc (U5.mono fun l m o e => at_setN (C6.at e) (by rintro rfl; exact nb m)) ?_ (by simpa using oc) (by simp)
        rw [at_setN (o := O.lst [clD c]) (by simp) (by omega)]; simp
      · simp only [List.mem_append, List.mem_singleton, not_or]; exact ⟨nb, by omega⟩
      · intro x m
        simp only [List.mem_append, List.mem_singleton] at m
        rcases m with m | rfl
        · have := hcs x m; omega
        · simp
      · exact ⟨by have := F05.len; simp; omega, fun l o _ e => at_setN (C6.at (F05.at e)) (by have := at_lt e; omega)⟩
      · exact (P5.fr C6 (by simp)).fr (S := [b]) (.set _ (by simp)) (by simpa using hpb.symm)
      · intro l m
        simp only [List.mem_append, List.mem_singleton] at m
        rcases m with m | rfl
        · exact pus l m
        · omega
      · rintro _ g7 ⟨z, rfl, q⟩
        simp
        exact q
    | true =>
      rcases List.eq_nil_or_concat css with hcss | ⟨css', cs, hcss⟩
      · exact absurd hcss (hop rfl)
      rw [List.concat_eq_append] at hcss
      subst hcss
      rcases List.eq_nil_or_concat us with hus | ⟨us', k, hus⟩
      · subst hus; simp at hlen
      rw [List.concat_eq_append] at hus
      subst hus
      obtain ⟨U', ek, ok⟩ := U5.front
      have hll : ll (us' ++ [k]) = ll us' ++ [.loc k] := by simp [ll]
      have hlast : atI (ll (us' ++ [k])) (-1) = some (.loc k) := by rw [hll]; exact atI_last
      have hix : ixN (ll (us' ++ [k])).length (-1) = some us'.length := by rw [hll]; simp [ll]; exact ixN_last
      have hcsl := hcs cs (by simp)
      have C6 : Fr [] g5 (g5 ++ [O.lst [clD c]]) := Fr.cat _
      have ek6 := C6.at ek
      have C7 : Fr [] g5 (g5 ++ [O.lst [clD c], O.lst (cs.map clD ++ [clD c])]) := Fr.cat _
      have eb7 := C7.at eb5
      have e7 : (g5 ++ [O.lst [clD c], O.lst (cs.map clD ++ [clD c])])[g5.length + 1]? = some (.lst ((cs ++ [c]).map clD)) := by simp
      have hb6 := at_lt eb5
      simp [eb5, hlast]
      simp [ek6]
      simp only [List.mem_append, List.mem_singleton, not_or] at nb
      have hn : ∀ l ∈ us' ++ [k], l < g5.length := fun l m => by
        obtain ⟨j, e⟩ := List.mem_iff_getElem?.mp m
        obtain ⟨_, _, e2, _⟩ := U5.at_ j _ e
        exact at_lt e2
      simp [eb7, hix]
      refine ⟨by rw [size24]; omega, by rw [size24]; omega, Wc.mono (fin2 (us' ++ [g5.length + 1]) (css' ++ [cs ++ [c]]) _ [.va (.cl (ns.map .int)), .va (.int n), .va (.loc b), .va (.int (fl + w)), .va (.bl true), .va (.int i), .va (.loc p), .va (.int am), .va (clD c), .va (.int w)] (fun op' => ⟨_, _, _, _, _, _, rfl⟩) ?_ ?_ ?_ (by simp at hcl ⊢; omega) ?_ (by simp) ?_ ?_ ?_) ?_ (fun _ _ _ _ z => z)⟩
      · rw [at_set eb7, hll]; simp [ll]
      · refine UL.snoc (U'.mono fun l m o e => at_setN (C7.at e) (by rintro rfl; exact nb.1 m)) ?_ (fun x m => ?_) (by simp; omega)
        · rw [at_setN e7 (by omega)]
        · simp only [List.mem_append, List.mem_singleton] at m
          rcases m with m | rfl
          · exact ok x m
          · exact oc
      · simp only [List.mem_append, List.mem_singleton, not_or]; exact ⟨nb.1, by omega⟩
      · intro x m
        simp only [List.mem_append, List.mem_singleton] at m
        rcases m with m | rfl
        · have := hcs x (by simp [m]); omega
        · simp; omega
      · exact ⟨by have := F05.len; simp; omega, fun l o _ e => at_setN (C7.at (F05.at e)) (by have := at_lt e; omega)⟩
      · exact (P5.fr C7 (by simp)).fr (S := [b]) (.set _ (by simp)) (by simpa using hpb.symm)
      · intro l m
        simp only [List.mem_append, List.mem_singleton] at m
        rcases m with m | rfl
        · exact pus l (by simp [m])
        · omega
      · rintro _ g7 ⟨z, rfl, q⟩
        simp
        exact q
  · intro env g z
    rw [hI] at z
    obtain ⟨us, css, fl, op, s5, s6, s7, s8, s9, rfl, eb, U, nb, hcl, hcs, hop, F⟩ := z
    simp
    exact K g b us css eb U (by simp at hcl; omega) F
end
end K23
set_option Elab.async false
set_option linter.all false
set_option maxRecDepth 100000
set_option maxHeartbeats 1000000
namespace K23
open PySem L2 LF NW
inductive Sim (h : M) : Nat → D → D → Prop where
  | non (n : Nat) : Sim h n .non .non
  | int (n : Nat) (a : Int) : Sim h n (.int a) (.int a)
  | str (n : Nat) (a : Str) : Sim h n (.str a) (.str a)
  | tup {n : Nat} {xs ys : List D} (hl : xs.length = ys.length) (hz : xs.length < 1000000) (hs : ∀ (i : Nat) (x y : D), xs[i]? = some x → ys[i]? = some y → Sim h n x y) : Sim h (n + 1) (.tup xs) (.tup ys)
  | lst {n a b : Nat} {xs ys : List D} (e1 : h[a]? = some (.lst xs)) (e2 : h[b]? = some (.lst ys)) (hl : xs.length = ys.length) (hz : xs.length < 1000000) (hs : ∀ (i : Nat) (x y : D), xs[i]? = some x → ys[i]? = some y → Sim h n x y) : Sim h (n + 1) (.loc a) (.loc b)
section
variable {h : M} {Q : D → M → Prop} {X : XP}
theorem same : ∀ (m n : Nat) {x y : D} {Q : D → M → Prop}, n < m → Sim h n x y → Q (.bl true) h → @Wc D (m0_law_same_u m [x, y] h) ⟨Q, X⟩
  | 0, _, _, _, _, hn, _, _ => by omega
  | m + 1, n, x, y, Q, hn, hs, K => by
    unfold m0_law_same_u; rw [wp_fn]; unfold b_law_same_u
    cases hs with
    | non => simp [fIsN, isN]; exact K
    | int => simp [fIsN, isN, fIsI, tyD, kinds, isTy]; exact K
    | str => simp [fIsN, isN, fIsI, tyD, kinds, isTy]; exact K
    | @tup n xs ys hl hz hs =>
      simp [fIsN, isN, fIsI, tyD, kinds, isTy, fLen, lenD, hl]
      refine ⟨by omega, floop_inv (fun i env h' => h = h' ∧ ∃ s, env = [.va (.tup xs), .va (.tup ys), s]) ⟨rfl, _, rfl⟩ (fun _ _ _ _ _ => trivial) ?_ ?_⟩
      · rintro i d _ _ hd ⟨rfl, s, rfl⟩
        obtain ⟨hi, rfl⟩ := rg_at hd
        have e1 : xs[i]? = some xs[i] := List.getElem?_eq_getElem (by omega)
        have e2 : ys[i]? = some ys[i] := List.getElem?_eq_getElem (by omega)
        simp [atI_n, e1, e2]
        refine same m n (by omega) (hs i _ _ e1 e2) ?_
        simp
      · rintro _ _ ⟨rfl, s, rfl⟩
        simpa using K
    | @lst n a b xs ys e1 e2 hl hz hs =>
      simp [fIsN, isN, fIsI, tyD, kinds, isTy, fLen, lenD, hl, e1, e2]
      refine ⟨by omega, floop_inv (fun i env h' => h = h' ∧ ∃ s, env = [.va (.loc a), .va (.loc b), s]) ⟨rfl, _, rfl⟩ (fun _ _ _ _ _ => trivial) ?_ ?_⟩
      · rintro i d _ _ hd ⟨rfl, s, rfl⟩
        obtain ⟨hi, rfl⟩ := rg_at hd
        have f1 : xs[i]? = some xs[i] := List.getElem?_eq_getElem (by omega)
        have f2 : ys[i]? = some ys[i] := List.getElem?_eq_getElem (by omega)
        simp [atI_n, e1, e2, f1, f2]
        refine same m n (by omega) (hs i _ _ f1 f2) ?_
        simp
      · rintro _ _ ⟨rfl, s, rfl⟩
        simpa using K
theorem same12 {x y : D} (n : Nat) (hn : n < 12) (hs : Sim h n x y) (K : Q (.bl true) h) : @Wc D (m_law_same_u 12 [x, y] h) ⟨Q, X⟩ := by unfold m_law_same_u; exact same 12 n hn hs K
theorem simI {xs : List Int} {n a b : Nat} (e1 : h[a]? = some (.lst (is xs))) (e2 : h[b]? = some (.lst (is xs))) (hl : xs.length ≤ 1000) : Sim h (n + 1) (.loc a) (.loc b) := .lst e1 e2 rfl (by rw [is_len]; omega) fun i x y f1 f2 => by
  rw [f1] at f2; cases f2
  simp only [is, List.getElem?_map, Option.map_eq_some_iff] at f1
  obtain ⟨w, _, rfl⟩ := f1
  exact .int _ _
theorem simIt {f : Fd} {x : It} (p : Fit f x) : Sim h 1 (itD x) (itD x) := by
  cases x with
  | non => exact .non _
  | num i => exact .int _ _
  | lim i => exact .int _ _
  | name cs => exact .str _ _
  | path ps =>
    cases f <;> simp only [Fit] at p
    have := p.1
    exact .tup rfl (by simp; omega) fun i x y f1 f2 => by
      rw [f1] at f2; cases f2
      simp only [List.getElem?_map, Option.map_eq_some_iff] at f1
      obtain ⟨w, _, rfl⟩ := f1
      exact .str _ _
  | cells ws =>
    cases f <;> simp only [Fit] at p
    have := p.2.1
    exact .tup rfl (by simp; omega) fun i x y f1 f2 => by
      rw [f1] at f2; cases f2
      simp only [List.getElem?_map, Option.map_eq_some_iff] at f1
      obtain ⟨w, _, rfl⟩ := f1
      exact .int _ _
theorem simCl {c : Cl} (o : Ok c) : Sim h 2 (clD c) (clD c) := by
  have h3 := o.its
  refine .tup rfl (by simp; omega) fun i x y f1 f2 => ?_
  rw [f1] at f2; cases f2
  match i, f1 with
  | 0, f1 => simp at f1; subst f1; exact .str _ _
  | 1, f1 => simp at f1; subst f1; exact .int _ _
  | 2, f1 => simp at f1; subst f1; exact .str _ _
  | i + 3, f1 =>
    simp only [List.getElem?_cons_succ, List.getElem?_map, Option.map_eq_some_iff] at f1
    obtain ⟨w, ew, rfl⟩ := f1
    obtain ⟨f, _, p⟩ := o.hf.get ew
    exact simIt p
theorem simUL {a b : Nat} {ls ks : List Nat} {css : List (List Cl)} (e1 : h[a]? = some (.lst (ll ls))) (e2 : h[b]? = some (.lst (ll ks))) (U : UL h ls css) (V : UL h ks css) (hl : css.length ≤ 500) : Sim h 4 (.loc a) (.loc b) := by
  have l1 := U.len
  have l2 := V.len
  refine .lst e1 e2 (by simp [ll]; omega) (by simp [ll]; omega) fun i x y f1 f2 => ?_
  simp only [ll, List.getElem?_map, Option.map_eq_some_iff] at f1 f2
  obtain ⟨l, el, rfl⟩ := f1
  obtain ⟨k, ek, rfl⟩ := f2
  obtain ⟨cs, c1, c2, c3, c4⟩ := U.at_ i l el
  obtain ⟨ds, d1, d2, _, _⟩ := V.at_ i k ek
  rw [c1] at d1; cases d1
  refine .lst c2 d2 rfl (by simp; omega) fun j x y g1 g2 => ?_
  rw [g1] at g2; cases g2
  simp only [List.getElem?_map, Option.map_eq_some_iff] at g1
  obtain ⟨w, ew, rfl⟩ := g1
  exact simCl (c3 w (List.mem_of_getElem? ew))
theorem simRL {a b : Nat} {P P' : Nat → Prop} {ls ks : List Nat} {bs : List (List Int)} (e1 : h[a]? = some (.lst (ll ls))) (e2 : h[b]? = some (.lst (ll ks))) (U : RL h P ls bs) (V : RL h P' ks bs) (hl : bs.length ≤ 100000) (hs : Sml bs) : Sim h 2 (.loc a) (.loc b) := by
  have l1 := U.len
  have l2 := V.len
  refine .lst e1 e2 (by simp [ll]; omega) (by simp [ll]; omega) fun i x y f1 f2 => ?_
  simp only [ll, List.getElem?_map, Option.map_eq_some_iff] at f1 f2
  obtain ⟨l, el, rfl⟩ := f1
  obtain ⟨k, ek, rfl⟩ := f2
  obtain ⟨_, r, c1, c2⟩ := U.at_ i l el
  obtain ⟨_, r', d1, d2⟩ := V.at_ i k ek
  rw [c1] at d1; cases d1
  have := hs r (List.mem_of_getElem? c1)
  exact simI c2 d2 (by omega)
theorem packedCount {u : Nat} {us : List Nat} {css : List (List Cl)} (e : h[u]? = some (.lst (ll us))) (U : UL h us css) (hl : css.length ≤ 500) (K : ∀ h', Fr [] h h' → Q (.int (due css).length) h') : @Wc D (m_packed_count [.loc u] h) ⟨Q, X⟩ := by
  unfold m_packed_count; rw [wp_fn]; unfold b_packed_count
  simp
  refine packUnits e U hl fun h' b ls B F => ?_
  have := B.rl.len
  simp [B.eb, ll, this]
  exact K h' F
theorem due_sml {css : List (List Cl)} (o : ∀ cs ∈ css, ∀ c ∈ cs, Ok c) : Sml (due css) := by
  unfold due
  rw [← allTo_all]
  exact foldl_sml (by intro r m; simp at m) (allTo_sml o _)
theorem due_len {css : List (List Cl)} (o : ∀ cs ∈ css, cs.length ≤ 100) : (due css).length ≤ 100 * css.length := by
  unfold due
  rw [← allTo_all]
  have h1 := foldl_len (rs := allTo css css.length) (bs := [])
  have h2 := allTo_len o (i := css.length)
  simp only [List.length_nil] at h1
  omega
theorem law_ok (ns : List Int) : @Wc D (m_law [.cl (ns.map D.int)] []) ⟨fun d _ => d = .bl true, noEx⟩ := by
  unfold m_law; rw [wp_fn]; unfold b_law
  simp
  refine pot (by omega) (by omega) fun p g1 P1 hp F1 => ?_
  simp
  refine take P1 (by omega) (by omega) (by omega) fun w g2 w0 w1 P2 F2 => ?_
  simp
  refine take P2 (by omega) (by omega) (by omega) fun m g3 m0 m1 P3 F3 => ?_
  rw [ws_seq]
  refine Ws.cut (fun e h' => ∃ (m : Int), 0 ≤ m ∧ m ≤ 41 ∧ e = [.va (.cl (ns.map .int)), .va (.loc p), .va (.int w), .va (.int m), .no, .no, .no, .no, .no, .no]) ?_ ?_
  · simp
    split
    · refine take P3 (by omega) (by omega) (by omega) fun m g4 m0 m1 P4 F4 => ?_
      exact ⟨m, m0, by omega, rfl⟩
    · exact ⟨m0, by omega⟩
  rintro _ g4 ⟨m, m0, m1, rfl⟩
  simp
  refine units m0 m1 fun g5 b us css eb U hcl F5 => ?_
  have hbl := at_lt eb
  have hus := U.len
  simp [eb]
  have eb1 := (Fr.cat (S := []) [O.lst []]).at eb
  refine lcloop_inv (fun i acc h' => ∃ hs, acc = ll hs ∧ h'[g5.length]? = some (.lst (ll hs)) ∧ UL h' hs (css.take i) ∧ (∀ l ∈ hs, g5.length < l) ∧ Fr [g5.length] (g5 ++ [O.lst []]) h') ⟨[], rfl, by simp [ll], ⟨by simp, fun j l e => by simp at e⟩, by simp, .refl _ _⟩ (fun i acc h' _ z => ?_) ?_ ?_
  · obtain ⟨hs, _, _, _, _, F⟩ := z
    exact lstOf_at (F.at eb1 (by simp; omega))
  · rintro i d acc g hd ⟨hs, rfl, eh, V, hlt, F⟩
    rw [ll, List.getElem?_map, Option.map_eq_some_iff] at hd
    obtain ⟨ui, eui, rfl⟩ := hd
    obtain ⟨cs, ecs, eu, oc, hc⟩ := U.at_ i ui eui
    have hui := at_lt eu
    have eu2 := F.at ((Fr.cat (S := []) [O.lst []]).at eu) (by simp; omega)
    have hi : i < css.length := (List.getElem?_eq_some_iff.mp ecs).1
    have hgl := at_lt eh
    have vl := V.len
    have C : Fr [] g (g ++ [O.lst (cs.map clD)]) := Fr.cat _
    have eh2 := C.at eh
    simp [eu2]
    refine ⟨eh2, by simp [ll, vl, size24]; omega, hs ++ [g.length], by simp [ll], ?_, ?_, ?_, F.trans (C.nil.trans (.set _ (by simp)))⟩
    · rw [at_set eh2]; simp [ll]
    · rw [take_snoc ecs]
      refine UL.snoc (V.mono fun l m o e => at_setN (C.at e) (by have := hlt l m; omega)) ?_ oc hc
      rw [at_setN (o := O.lst (cs.map clD)) (by simp) (by omega)]
    · intro l m
      simp only [List.mem_append, List.mem_singleton] at m
      rcases m with m | rfl
      · exact hlt l m
      · exact hgl
  rintro acc g6 ⟨hs, rfl, eh, V, hlt, F6⟩
  have hll : (ll us).length = css.length := by simp [ll, hus]
  rw [hll, List.take_length] at V
  have F56 : Fr [] g5 g6 := ((Fr.cat [O.lst []]).trans F6).cut (by simp)
  have U6 : UL g6 us css := U.mono fun l _ o e => F56.at e
  have eb6 := F56.at eb
  have hvs := V.len
  rw [ws_seq]
  obtain ⟨Mid, hMid⟩ : ∃ Mid : En → M → Prop, Mid = (fun e h' => ∃ (b c : Nat) (us hs : List Nat) (css : List (List Cl)), e = [.va (.cl (ns.map .int)), .va (.loc p), .va (.int w), .va (.int m), .va (.loc b), .va (.loc c), .no, .no, .no, .no] ∧ h'[b]? = some (.lst (ll us)) ∧ h'[c]? = some (.lst (ll hs)) ∧ UL h' us css ∧ UL h' hs css ∧ css.length ≤ 200) := ⟨_, rfl⟩
  refine Ws.cut Mid ?_ ?_
  · simp
    split
    · have C1 : Fr [] g6 (g6 ++ [O.lst (ll us ++ ll us)]) := Fr.cat _
      have C2 : Fr [] g6 (g6 ++ [O.lst (ll us ++ ll us), O.lst (ll us ++ ll us ++ ll us)]) := Fr.cat _
      have C3 : Fr [] g6 (g6 ++ [O.lst (ll us ++ ll us), O.lst (ll us ++ ll us ++ ll us), O.lst (ll hs ++ ll hs)]) := Fr.cat _
      have C4 : Fr [] g6 (g6 ++ [O.lst (ll us ++ ll us), O.lst (ll us ++ ll us ++ ll us), O.lst (ll hs ++ ll hs), O.lst (ll hs ++ ll hs ++ ll hs)]) := Fr.cat _
      have b1 := C1.at eb6
      have c2 := C2.at eh
      have c3 := C3.at eh
      simp only [List.append_assoc] at b1 c2 c3
      have z1 : (ll us).length + (ll us).length ≤ sizeLine := by simp [ll, size24]; omega
      have z2 : (ll us).length + (ll us).length + (ll us).length ≤ sizeLine := by simp [ll, size24]; omega
      have z3 : (ll hs).length + (ll hs).length ≤ sizeLine := by simp [ll, size24]; omega
      have z4 : (ll hs).length + (ll hs).length + (ll hs).length ≤ sizeLine := by simp [ll, size24]; omega
      simp [eb6, z1, b1, z2]
      simp [c2, z3, c3, z4]
      rw [hMid]
      refine ⟨_, _, us ++ us ++ us, hs ++ hs ++ hs, css ++ css ++ css, rfl, ?_, ?_, ?_, ?_, by simp; omega⟩
      · simp [ll]
      · simp [ll]
      · exact ((U6.app U6).app U6).mono fun l _ o e => by have := C4.at e; simpa using this
      · exact ((V.app V).app V).mono fun l _ o e => by have := C4.at e; simpa using this
    · rw [hMid]
      exact ⟨_, _, us, hs, css, rfl, eb6, eh, U6, V, by omega⟩
  clear eb6 U6 V eh F6 F56 eb1 hbl U eb
  intro env g7 z
  rw [hMid] at z
  clear hMid Mid
  obtain ⟨b, c, us, hs, css, rfl, eb, eh, U, V, hl⟩ := z
  have hok := U.ok
  simp
  refine lawBlocks eb U (by omega) fun g8 d ds ed R F8 => ?_
  simp
  refine packUnits (F8.at eh) (V.fr F8 (by simp)) (by omega) fun g9 t ts B F9 => ?_
  have F79 := F8.trans F9
  have eb9 := F79.at eb
  have eh9 := F79.at eh
  have U9 := U.fr F79 (by simp)
  have V9 := V.fr F79 (by simp)
  have ed9 := F9.at ed
  have R9 : RL g9 (fun _ => True) ds (due css) := R.mono fun l _ o _ e => ⟨trivial, F9.at e⟩
  have hd1 := due_len fun cs m => (hok cs m).2
  have hd2 := due_sml fun cs m => (hok cs m).1
  simp
  refine same12 4 (by omega) (simUL eh9 eb9 V9 U9 (by omega)) ?_
  simp
  refine same12 2 (by omega) (simRL B.eb ed9 B.rl R9 (by omega) hd2) ?_
  simp
  refine packedCount eh9 V9 (by omega) fun g10 F10 => ?_
  have hdl := R9.len
  simp
  refine same12 4 (by omega) (simUL (F10.at eh9) (F10.at eb9) (V9.fr F10 (by simp)) (U9.fr F10 (by simp)) (by omega)) ?_
  have ed10 := F10.at ed9
  simp [ed10, ll, hdl]
  exact same12 0 (by omega) (.int _ _) rfl
theorem holds : LawHolds m_law := fun ns _ _ => by
  obtain ⟨a, m, e, rfl⟩ := Wc.ok_of (law_ok ns)
  exact ⟨m, e⟩
end
end K23
namespace K23
open PySem PySem.Spec L2 LF
open PyProof.Rows hiding St
theorem all_mk {P : Program} {w : World} {K : PySem.W.Frag} {h : Heap} {mg : Str → Option Value} {fa : Addr} (X : K.In h) (G : h.Ns mainGlobals mg) (hmg : mg "law" = some (.ref fa))
    {f0 f1 f2 f3 f4 f5 f6 f7 f8 f9 f10 f11 f12 f13 f14 f15 f16 f17 f18 f19 f20 f21 f22 f23 f24 f25 f26 f27 f28 : Addr} {od0 an0 od1 an1 od2 an2 od3 an3 od4 an4 od5 an5 od6 an6 od7 an7 od8 an8 od9 an9 od10 an10 od11 an11 od12 an12 od13 an13 od14 an14 od15 an15 od16 an16 od17 an17 od18 an18 od19 an19 od20 an20 od21 an21 od22 an22 od23 an23 od24 an24 od25 an25 od26 an26 od27 an27 od28 an28 : Option Addr} {sl0 sl1 sl2 sl3 sl4 sl5 sl6 sl7 sl8 sl9 sl10 sl11 sl12 sl13 sl14 sl15 sl16 sl17 sl18 sl19 sl20 sl21 sl22 sl23 sl24 sl25 sl26 sl27 sl28 : Array (Option Value)}
    {oc0 kV0 dc0 pm0 cd0 ct0 oc1 kV1 dc1 pm1 cd1 ct1 oc2 kV2 dc2 pm2 cd2 ct2 oc3 kV3 dc3 pm3 cd3 ct3 oc4 kV4 dc4 pm4 cd4 ct4 oc5 kV5 dc5 pm5 cd5 ct5 oc6 kV6 dc6 pm6 cd6 ct6 oc7 kV7 dc7 pm7 cd7 ct7 oc8 kV8 dc8 pm8 cd8 ct8 oc9 kV9 dc9 pm9 cd9 ct9 oc10 kV10 dc10 pm10 cd10 ct10 oc11 kV11 dc11 pm11 cd11 ct11 oc12 kV12 dc12 pm12 cd12 ct12 oc13 kV13 dc13 pm13 cd13 ct13 oc14 kV14 dc14 pm14 cd14 ct14 oc15 kV15 dc15 pm15 cd15 ct15 oc16 kV16 dc16 pm16 cd16 ct16 oc17 kV17 dc17 pm17 cd17 ct17 oc18 kV18 dc18 pm18 cd18 ct18 oc19 kV19 dc19 pm19 cd19 ct19 oc20 kV20 dc20 pm20 cd20 ct20 oc21 kV21 dc21 pm21 cd21 ct21 oc22 kV22 dc22 pm22 cd22 ct22 oc23 kV23 dc23 pm23 cd23 ct23 oc24 kV24 dc24 pm24 cd24 ct24 oc25 kV25 dc25 pm25 cd25 ct25 oc26 kV26 dc26 pm26 cd26 ct26 oc27 kV27 dc27 pm27 cd27 ct27 oc28 kV28 dc28 pm28 cd28 ct28 : Value} {t0 t1 t2 t3 t4 t5 t6 t7 t8 t9 t10 : Tok} {C0 C1 : Addr}
    {gp0 : Addr}
    {dp0 dp1 : Addr} {de0 de1 : Array DictEntry} {dn0 dn1 : Nat}
    {xI0 xC0 xD0 xN0 : Addr} {xn0 xq0 : Str} {xb0 xm0 xs0 : List Value} {xS0 : List Str} {xa0 : Bool} {xc0 : Option Bool} {xd0 xod0 xan0 xe0 xg0 : Option Addr} {xk0 xl0 xo0 xp0 xr0 : Option Value} {xoc0 xkV0 xdo0 xpm0 xct0 xcl0 xcc0 : Value} {xos0 xcs0 xsl0 : Array (Option Value)} {xv0 : Array Value} {xf0 : Str} {xt0 : Tok}
    {xI1 xC1 xD1 xN1 : Addr} {xn1 xq1 : Str} {xb1 xm1 xs1 : List Value} {xS1 : List Str} {xa1 : Bool} {xc1 : Option Bool} {xd1 xod1 xan1 xe1 xg1 : Option Addr} {xk1 xl1 xo1 xp1 xr1 : Option Value} {xoc1 xkV1 xdo1 xpm1 xct1 xcl1 xcc1 : Value} {xos1 xcs1 xsl1 : Array (Option Value)} {xv1 : Array Value} {xf1 : Str} {xt1 : Tok}
    (a0 : PySem.W.nsIn K mainGlobals "_law_kinds" = some (some (.ref f0))) (l0 : K.lookup f0 = some ⟨oc0, od0, .func (PySem.W.fnOf "_law_kinds" "_law_kinds" (defArgs s_law_kinds_u) (defBody s_law_kinds_u) (defScope s_law_kinds_u) .none kV0 dc0 pm0 an0 cd0 ct0), sl0⟩) (c0 : PySem.W.codeIn K cd0 "_law_kinds" = true) (k0 : PySem.W.keepIn K (.ref f0) = true)
    (a1 : PySem.W.nsIn K mainGlobals "_law_name_word" = some (some (.ref f1))) (l1 : K.lookup f1 = some ⟨oc1, od1, .func (PySem.W.fnOf "_law_name_word" "_law_name_word" (defArgs s_law_name_word_u) (defBody s_law_name_word_u) (defScope s_law_name_word_u) .none kV1 dc1 pm1 an1 cd1 ct1), sl1⟩) (c1 : PySem.W.codeIn K cd1 "_law_name_word" = true) (k1 : PySem.W.keepIn K (.ref f1) = true)
    (a2 : PySem.W.nsIn K mainGlobals "_law_record" = some (some (.ref f2))) (l2 : K.lookup f2 = some ⟨oc2, od2, .func (PySem.W.fnOf "_law_record" "_law_record" (defArgs s_law_record_u) (defBody s_law_record_u) (defScope s_law_record_u) .none kV2 dc2 pm2 an2 cd2 ct2), sl2⟩) (c2 : PySem.W.codeIn K cd2 "_law_record" = true) (k2 : PySem.W.keepIn K (.ref f2) = true)
    (a3 : PySem.W.nsIn K mainGlobals "_law_blocks" = some (some (.ref f3))) (l3 : K.lookup f3 = some ⟨oc3, od3, .func (PySem.W.fnOf "_law_blocks" "_law_blocks" (defArgs s_law_blocks_u) (defBody s_law_blocks_u) (defScope s_law_blocks_u) .none kV3 dc3 pm3 an3 cd3 ct3), sl3⟩) (c3 : PySem.W.codeIn K cd3 "_law_blocks" = true) (k3 : PySem.W.keepIn K (.ref f3) = true)
    (a4 : PySem.W.nsIn K mainGlobals "_law_pot" = some (some (.ref f4))) (l4 : K.lookup f4 = some ⟨oc4, od4, .func (PySem.W.fnOf "_law_pot" "_law_pot" (defArgs s_law_pot_u) (defBody s_law_pot_u) (defScope s_law_pot_u) .none kV4 dc4 pm4 an4 cd4 ct4), sl4⟩) (c4 : PySem.W.codeIn K cd4 "_law_pot" = true) (k4 : PySem.W.keepIn K (.ref f4) = true)
    (a5 : PySem.W.nsIn K mainGlobals "_law_same" = some (some (.ref f5))) (l5 : K.lookup f5 = some ⟨oc5, od5, .func (PySem.W.fnOf "_law_same" "_law_same" (defArgs s_law_same_u) (defBody s_law_same_u) (defScope s_law_same_u) .none kV5 dc5 pm5 an5 cd5 ct5), sl5⟩) (c5 : PySem.W.codeIn K cd5 "_law_same" = true) (k5 : PySem.W.keepIn K (.ref f5) = true)
    (a6 : PySem.W.nsIn K mainGlobals "_law_take" = some (some (.ref f6))) (l6 : K.lookup f6 = some ⟨oc6, od6, .func (PySem.W.fnOf "_law_take" "_law_take" (defArgs s_law_take_u) (defBody s_law_take_u) (defScope s_law_take_u) .none kV6 dc6 pm6 an6 cd6 ct6), sl6⟩) (c6 : PySem.W.codeIn K cd6 "_law_take" = true) (k6 : PySem.W.keepIn K (.ref f6) = true)
    (a7 : PySem.W.nsIn K mainGlobals "_law_name" = some (some (.ref f7))) (l7 : K.lookup f7 = some ⟨oc7, od7, .func (PySem.W.fnOf "_law_name" "_law_name" (defArgs s_law_name_u) (defBody s_law_name_u) (defScope s_law_name_u) .none kV7 dc7 pm7 an7 cd7 ct7), sl7⟩) (c7 : PySem.W.codeIn K cd7 "_law_name" = true) (k7 : PySem.W.keepIn K (.ref f7) = true)
    (a8 : PySem.W.nsIn K mainGlobals "_law_number" = some (some (.ref f8))) (l8 : K.lookup f8 = some ⟨oc8, od8, .func (PySem.W.fnOf "_law_number" "_law_number" (defArgs s_law_number_u) (defBody s_law_number_u) (defScope s_law_number_u) .none kV8 dc8 pm8 an8 cd8 ct8), sl8⟩) (c8 : PySem.W.codeIn K cd8 "_law_number" = true) (k8 : PySem.W.keepIn K (.ref f8) = true)
    (a9 : PySem.W.nsIn K mainGlobals "_law_path" = some (some (.ref f9))) (l9 : K.lookup f9 = some ⟨oc9, od9, .func (PySem.W.fnOf "_law_path" "_law_path" (defArgs s_law_path_u) (defBody s_law_path_u) (defScope s_law_path_u) .none kV9 dc9 pm9 an9 cd9 ct9), sl9⟩) (c9 : PySem.W.codeIn K cd9 "_law_path" = true) (k9 : PySem.W.keepIn K (.ref f9) = true)
    (a10 : PySem.W.nsIn K mainGlobals "_law_rest" = some (some (.ref f10))) (l10 : K.lookup f10 = some ⟨oc10, od10, .func (PySem.W.fnOf "_law_rest" "_law_rest" (defArgs s_law_rest_u) (defBody s_law_rest_u) (defScope s_law_rest_u) .none kV10 dc10 pm10 an10 cd10 ct10), sl10⟩) (c10 : PySem.W.codeIn K cd10 "_law_rest" = true) (k10 : PySem.W.keepIn K (.ref f10) = true)
    (a11 : PySem.W.nsIn K mainGlobals "_law_call" = some (some (.ref f11))) (l11 : K.lookup f11 = some ⟨oc11, od11, .func (PySem.W.fnOf "_law_call" "_law_call" (defArgs s_law_call_u) (defBody s_law_call_u) (defScope s_law_call_u) .none kV11 dc11 pm11 an11 cd11 ct11), sl11⟩) (c11 : PySem.W.codeIn K cd11 "_law_call" = true) (k11 : PySem.W.keepIn K (.ref f11) = true)
    (a12 : PySem.W.nsIn K mainGlobals "_law_fitted" = some (some (.ref f12))) (l12 : K.lookup f12 = some ⟨oc12, od12, .func (PySem.W.fnOf "_law_fitted" "_law_fitted" (defArgs s_law_fitted_u) (defBody s_law_fitted_u) (defScope s_law_fitted_u) .none kV12 dc12 pm12 an12 cd12 ct12), sl12⟩) (c12 : PySem.W.codeIn K cd12 "_law_fitted" = true) (k12 : PySem.W.keepIn K (.ref f12) = true)
    (a13 : PySem.W.nsIn K mainGlobals "_law_units" = some (some (.ref f13))) (l13 : K.lookup f13 = some ⟨oc13, od13, .func (PySem.W.fnOf "_law_units" "_law_units" (defArgs s_law_units_u) (defBody s_law_units_u) (defScope s_law_units_u) .none kV13 dc13 pm13 an13 cd13 ct13), sl13⟩) (c13 : PySem.W.codeIn K cd13 "_law_units" = true) (k13 : PySem.W.keepIn K (.ref f13) = true)
    (a14 : PySem.W.nsIn K mainGlobals "is_name" = some (some (.ref f14))) (l14 : K.lookup f14 = some ⟨oc14, od14, .func (PySem.W.fnOf "is_name" "is_name" (defArgs s_is_name) (defBody s_is_name) (defScope s_is_name) .none kV14 dc14 pm14 an14 cd14 ct14), sl14⟩) (c14 : PySem.W.codeIn K cd14 "is_name" = true) (k14 : PySem.W.keepIn K (.ref f14) = true)
    (a15 : PySem.W.nsIn K mainGlobals "name_word" = some (some (.ref f15))) (l15 : K.lookup f15 = some ⟨oc15, od15, .func (PySem.W.fnOf "name_word" "name_word" (defArgs s_name_word) (defBody s_name_word) (defScope s_name_word) .none kV15 dc15 pm15 an15 cd15 ct15), sl15⟩) (c15 : PySem.W.codeIn K cd15 "name_word" = true) (k15 : PySem.W.keepIn K (.ref f15) = true)
    (a16 : PySem.W.nsIn K mainGlobals "_item_words" = some (some (.ref f16))) (l16 : K.lookup f16 = some ⟨oc16, od16, .func (PySem.W.fnOf "_item_words" "_item_words" (defArgs s_item_words_u) (defBody s_item_words_u) (defScope s_item_words_u) .none kV16 dc16 pm16 an16 cd16 ct16), sl16⟩) (c16 : PySem.W.codeIn K cd16 "_item_words" = true) (k16 : PySem.W.keepIn K (.ref f16) = true)
    (a17 : PySem.W.nsIn K mainGlobals "is_word" = some (some (.ref f17))) (l17 : K.lookup f17 = some ⟨oc17, od17, .func (PySem.W.fnOf "is_word" "is_word" (defArgs s_is_word) (defBody s_is_word) (defScope s_is_word) .none kV17 dc17 pm17 an17 cd17 ct17), sl17⟩) (c17 : PySem.W.codeIn K cd17 "is_word" = true) (k17 : PySem.W.keepIn K (.ref f17) = true)
    (a18 : PySem.W.nsIn K mainGlobals "_are_cells" = some (some (.ref f18))) (l18 : K.lookup f18 = some ⟨oc18, od18, .func (PySem.W.fnOf "_are_cells" "_are_cells" (defArgs s_are_cells_u) (defBody s_are_cells_u) (defScope s_are_cells_u) .none kV18 dc18 pm18 an18 cd18 ct18), sl18⟩) (c18 : PySem.W.codeIn K cd18 "_are_cells" = true) (k18 : PySem.W.keepIn K (.ref f18) = true)
    (a19 : PySem.W.nsIn K mainGlobals "is_path" = some (some (.ref f19))) (l19 : K.lookup f19 = some ⟨oc19, od19, .func (PySem.W.fnOf "is_path" "is_path" (defArgs s_is_path) (defBody s_is_path) (defScope s_is_path) .none kV19 dc19 pm19 an19 cd19 ct19), sl19⟩) (c19 : PySem.W.codeIn K cd19 "is_path" = true) (k19 : PySem.W.keepIn K (.ref f19) = true)
    (a20 : PySem.W.nsIn K mainGlobals "_fits" = some (some (.ref f20))) (l20 : K.lookup f20 = some ⟨oc20, od20, .func (PySem.W.fnOf "_fits" "_fits" (defArgs s_fits_u) (defBody s_fits_u) (defScope s_fits_u) .none kV20 dc20 pm20 an20 cd20 ct20), sl20⟩) (c20 : PySem.W.codeIn K cd20 "_fits" = true) (k20 : PySem.W.keepIn K (.ref f20) = true)
    (a21 : PySem.W.nsIn K mainGlobals "_is_call" = some (some (.ref f21))) (l21 : K.lookup f21 = some ⟨oc21, od21, .func (PySem.W.fnOf "_is_call" "_is_call" (defArgs s_is_call_u) (defBody s_is_call_u) (defScope s_is_call_u) .none kV21 dc21 pm21 an21 cd21 ct21), sl21⟩) (c21 : PySem.W.codeIn K cd21 "_is_call" = true) (k21 : PySem.W.keepIn K (.ref f21) = true)
    (a22 : PySem.W.nsIn K mainGlobals "check_call" = some (some (.ref f22))) (l22 : K.lookup f22 = some ⟨oc22, od22, .func (PySem.W.fnOf "check_call" "check_call" (defArgs s_check_call) (defBody s_check_call) (defScope s_check_call) .none kV22 dc22 pm22 an22 cd22 ct22), sl22⟩) (c22 : PySem.W.codeIn K cd22 "check_call" = true) (k22 : PySem.W.keepIn K (.ref f22) = true)
    (a23 : PySem.W.nsIn K mainGlobals "is_changing" = some (some (.ref f23))) (l23 : K.lookup f23 = some ⟨oc23, od23, .func (PySem.W.fnOf "is_changing" "is_changing" (defArgs s_is_changing) (defBody s_is_changing) (defScope s_is_changing) .none kV23 dc23 pm23 an23 cd23 ct23), sl23⟩) (c23 : PySem.W.codeIn K cd23 "is_changing" = true) (k23 : PySem.W.keepIn K (.ref f23) = true)
    (a24 : PySem.W.nsIn K mainGlobals "call_record" = some (some (.ref f24))) (l24 : K.lookup f24 = some ⟨oc24, od24, .func (PySem.W.fnOf "call_record" "call_record" (defArgs s_call_record) (defBody s_call_record) (defScope s_call_record) .none kV24 dc24 pm24 an24 cd24 ct24), sl24⟩) (c24 : PySem.W.codeIn K cd24 "call_record" = true) (k24 : PySem.W.keepIn K (.ref f24) = true)
    (a25 : PySem.W.nsIn K mainGlobals "_unit_records" = some (some (.ref f25))) (l25 : K.lookup f25 = some ⟨oc25, od25, .func (PySem.W.fnOf "_unit_records" "_unit_records" (defArgs s_unit_records_u) (defBody s_unit_records_u) (defScope s_unit_records_u) .none kV25 dc25 pm25 an25 cd25 ct25), sl25⟩) (c25 : PySem.W.codeIn K cd25 "_unit_records" = true) (k25 : PySem.W.keepIn K (.ref f25) = true)
    (a26 : PySem.W.nsIn K mainGlobals "pack_units" = some (some (.ref f26))) (l26 : K.lookup f26 = some ⟨oc26, od26, .func (PySem.W.fnOf "pack_units" "pack_units" (defArgs s_pack_units) (defBody s_pack_units) (defScope s_pack_units) .none kV26 dc26 pm26 an26 cd26 ct26), sl26⟩) (c26 : PySem.W.codeIn K cd26 "pack_units" = true) (k26 : PySem.W.keepIn K (.ref f26) = true)
    (a27 : PySem.W.nsIn K mainGlobals "packed_count" = some (some (.ref f27))) (l27 : K.lookup f27 = some ⟨oc27, od27, .func (PySem.W.fnOf "packed_count" "packed_count" (defArgs s_packed_count) (defBody s_packed_count) (defScope s_packed_count) .none kV27 dc27 pm27 an27 cd27 ct27), sl27⟩) (c27 : PySem.W.codeIn K cd27 "packed_count" = true) (k27 : PySem.W.keepIn K (.ref f27) = true)
    (a28 : PySem.W.nsIn K mainGlobals "law" = some (some (.ref f28))) (l28 : K.lookup f28 = some ⟨oc28, od28, .func (PySem.W.fnOf "law" "law" (defArgs s_law) (defBody s_law) (defScope s_law) .none kV28 dc28 pm28 an28 cd28 ct28), sl28⟩) (c28 : PySem.W.codeIn K cd28 "law" = true) (k28 : PySem.W.keepIn K (.ref f28) = true)
    (z_list : PySem.W.nsIn K mainGlobals "list" = some none)
    (z_len : PySem.W.nsIn K mainGlobals "len" = some none)
    (z_range : PySem.W.nsIn K mainGlobals "range" = some none)
    (z_int : PySem.W.nsIn K mainGlobals "int" = some none)
    (z_str : PySem.W.nsIn K mainGlobals "str" = some none)
    (z_isinstance : PySem.W.nsIn K mainGlobals "isinstance" = some none)
    (z_tuple : PySem.W.nsIn K mainGlobals "tuple" = some none)
    (z_bool : PySem.W.nsIn K mainGlobals "bool" = some none)
    (z_min : PySem.W.nsIn K mainGlobals "min" = some none)
    (z_max : PySem.W.nsIn K mainGlobals "max" = some none)
    (z_enumerate : PySem.W.nsIn K mainGlobals "enumerate" = some none)
    (z_zip : PySem.W.nsIn K mainGlobals "zip" = some none)
    (c_RECORD_WORDS_u : PySem.W.nsIn K mainGlobals "_RECORD_WORDS" = some (some (.int 29 t0)))
    (c_FIRST_ITEMS_u : PySem.W.nsIn K mainGlobals "_FIRST_ITEMS" = some (some (.int 3 t1)))
    (c_NAME_LENGTH_u : PySem.W.nsIn K mainGlobals "_NAME_LENGTH" = some (some (.int 11 t2)))
    (c_BASE_u : PySem.W.nsIn K mainGlobals "_BASE" = some (some (.int 38 t3)))
    (c_SIGNS_u : PySem.W.nsIn K mainGlobals "_SIGNS" = some (some (.str "0123456789_abcdefghijklmnopqrstuvwxyz" t4)))
    (c_LARGEST_USER_u : PySem.W.nsIn K mainGlobals "_LARGEST_USER" = some (some (.int 999 t5)))
    (c_LARGEST_SIZE_u : PySem.W.nsIn K mainGlobals "_LARGEST_SIZE" = some (some (.int 1000000 t6)))
    (c_LARGEST_LIMIT_u : PySem.W.nsIn K mainGlobals "_LARGEST_LIMIT" = some (some (.int 1000000 t7)))
    (c_MOST_CELLS_u : PySem.W.nsIn K mainGlobals "_MOST_CELLS" = some (some (.int 16 t8)))
    (c_PRIME : PySem.W.nsIn K mainGlobals "PRIME" = some (some (.int 2305843009213693951 t9)))
    (c_PATH_LENGTH_u : PySem.W.nsIn K mainGlobals "_PATH_LENGTH" = some (some (.int 6 t10)))
    (k_BadCall : PySem.W.nsIn K mainGlobals "BadCall" = some (some (.ref C0)))
    (k_BadName : PySem.W.nsIn K mainGlobals "BadName" = some (some (.ref C1)))
    (g_CHANGING : PySem.W.nsIn K mainGlobals "CHANGING" = some (some (.ref gp0))) (gv_CHANGING : ckV K (.ct [(.str "create"), (.str "folder"), (.str "link"), (.str "rename"), (.str "remove"), (.str "rmdir"), (.str "write"), (.str "resize"), (.str "mark"), (.str "unmark"), (.str "rights"), (.str "give"), (.str "limit"), (.str "snapshot"), (.str "clone"), (.str "drop")]) (.ref gp0) = true)
    (d_FIELDS_u : PySem.W.nsIn K mainGlobals "_FIELDS" = some (some (.ref dp0))) (ds_FIELDS_u : (dp0 == sysModules) = false) (dl_FIELDS_u : K.lookup dp0 = some ⟨.type "dict", none, .dict de0 dn0, #[]⟩) (dk_FIELDS_u : PySem.W.KeysLit w.params de0.toList) (dc_FIELDS_u : ckE K de0.toList kd_FIELDS_u = true)
    (d_LARGEST_u : PySem.W.nsIn K mainGlobals "_LARGEST" = some (some (.ref dp1))) (ds_LARGEST_u : (dp1 == sysModules) = false) (dl_LARGEST_u : K.lookup dp1 = some ⟨.type "dict", none, .dict de1 dn1, #[]⟩) (dk_LARGEST_u : PySem.W.KeysLit w.params de1.toList) (dc_LARGEST_u : ckE K de1.toList kd_LARGEST_u = true)
    (x_sup : PySem.W.nsIn K mainGlobals "super" = some none)
    (x_nost : PySem.W.nsIn K cStatics "thirdparty.any" = some none)
    (x_top : (P.main.scope.names.lookup ("super" : Str)).isSome = false)
    (xo_0 : K.lookup C0 = some (excClassObj xn0 xq0 C0 xN0 xb0 xm0 true xS0 xs0 xa0 xc0 xd0 xk0 xl0 xo0 xp0 xr0 "ValueError.__new__"))
    (xm_0 : PySem.HandSPX.refsVE xm0 = true)
    (xsa_0 : PySem.W.findIn K (.ref C0) "__setattr__" = some (some (.builtin "object.__setattr__")))
    (xex_0 : PySem.W.subIn K (.ref C0) (.type "BaseException") = some true)
    (xty_0 : PySem.W.typeIn K (.ref C0) = some (.type "type"))
    (xkp_0 : PySem.W.keepIn K (.ref C0) = true)
    (xin_0 : PySem.W.findIn K (.ref C0) "__init__" = some (some (.ref xI0)))
    (xti_0 : PySem.W.typeIn K (.ref xI0) = some (.type "function"))
    (xlk_0 : K.lookup xI0 = some ⟨xoc0, xod0, .func (PySem.W.ksFn "__init__" "BadCall.__init__" (defArgs i_BadCall) (defBody i_BadCall) (defScope i_BadCall) .none xkV0 xdo0 xpm0 xan0 (.ref xD0) xct0 xC0), xos0⟩)
    (xcd_0 : PySem.W.codeIn K (.ref xD0) "BadCall.__init__" = true)
    (xce_0 : K.lookup xC0 = some ⟨xcl0, xe0, .cell (some (.ref C0)), xcs0⟩)
    (xco_0 : K.lookup xD0 = some ⟨xcc0, xg0, .fields xv0, xsl0⟩)
    (xvs_0 : xv0[2]? = some (.str xf0 xt0))
    (xfi_0 : ((P.main.file : Str) == xf0) = true)
    (xsi_0 : PySem.W.ks_superIn K C0 C0 "__init__" = some (some (.builtin "ValueError.__init__")))
    (xmr_0 : PySem.W.mroIn K C0 (.ref C0) = some true)
    (xve_0 : PySem.W.subIn K (.ref C0) (.type "ValueError") = some true)
    (xno_0_call : PySem.W.findIn K (.ref C0) "call" = some none)
    (xo_1 : K.lookup C1 = some (excClassObj xn1 xq1 C1 xN1 xb1 xm1 true xS1 xs1 xa1 xc1 xd1 xk1 xl1 xo1 xp1 xr1 "ValueError.__new__"))
    (xm_1 : PySem.HandSPX.refsVE xm1 = true)
    (xsa_1 : PySem.W.findIn K (.ref C1) "__setattr__" = some (some (.builtin "object.__setattr__")))
    (xex_1 : PySem.W.subIn K (.ref C1) (.type "BaseException") = some true)
    (xty_1 : PySem.W.typeIn K (.ref C1) = some (.type "type"))
    (xkp_1 : PySem.W.keepIn K (.ref C1) = true)
    (xin_1 : PySem.W.findIn K (.ref C1) "__init__" = some (some (.ref xI1)))
    (xti_1 : PySem.W.typeIn K (.ref xI1) = some (.type "function"))
    (xlk_1 : K.lookup xI1 = some ⟨xoc1, xod1, .func (PySem.W.ksFn "__init__" "BadName.__init__" (defArgs i_BadName) (defBody i_BadName) (defScope i_BadName) .none xkV1 xdo1 xpm1 xan1 (.ref xD1) xct1 xC1), xos1⟩)
    (xcd_1 : PySem.W.codeIn K (.ref xD1) "BadName.__init__" = true)
    (xce_1 : K.lookup xC1 = some ⟨xcl1, xe1, .cell (some (.ref C1)), xcs1⟩)
    (xco_1 : K.lookup xD1 = some ⟨xcc1, xg1, .fields xv1, xsl1⟩)
    (xvs_1 : xv1[2]? = some (.str xf1 xt1))
    (xfi_1 : ((P.main.file : Str) == xf1) = true)
    (xsi_1 : PySem.W.ks_superIn K C1 C1 "__init__" = some (some (.builtin "ValueError.__init__")))
    (xmr_1 : PySem.W.mroIn K C1 (.ref C1) = some true)
    (xve_1 : PySem.W.subIn K (.ref C1) (.type "ValueError") = some true)
    (xno_1_name : PySem.W.findIn K (.ref C1) "name" = some none)
    (hm : LawHolds m_law) : ∃ fd : FuncData, (∀ (s : Shared) (u : Value), BindsTo s fd ⟨[u], []⟩ [(("script" : Str), u)]) ∧ ∀ base : Heap, K.In base → base.Ns mainGlobals mg → FnOk P w K mg base (L2.CX P w) 13 fa fd ["script"] (spL K) := by
  have T : Top P w K mg := ⟨fnAt_mk X G (fun _ _ _ _ _ _ us hl => match us, hl with | [], _ => rfl) a0 l0 c0 k0,
    fnAt_mk X G (fun _ _ _ _ _ _ us hl => match us, hl with | [_], _ => rfl) a1 l1 c1 k1,
    fnAt_mk X G (fun _ _ _ _ _ _ us hl => match us, hl with | [_, _], _ => rfl) a2 l2 c2 k2,
    fnAt_mk X G (fun _ _ _ _ _ _ us hl => match us, hl with | [_], _ => rfl) a3 l3 c3 k3,
    fnAt_mk X G (fun _ _ _ _ _ _ us hl => match us, hl with | [_, _], _ => rfl) a4 l4 c4 k4,
    fnAt_mk X G (fun _ _ _ _ _ _ us hl => match us, hl with | [_, _], _ => rfl) a5 l5 c5 k5,
    fnAt_mk X G (fun _ _ _ _ _ _ us hl => match us, hl with | [_, _], _ => rfl) a6 l6 c6 k6,
    fnAt_mk X G (fun _ _ _ _ _ _ us hl => match us, hl with | [_], _ => rfl) a7 l7 c7 k7,
    fnAt_mk X G (fun _ _ _ _ _ _ us hl => match us, hl with | [_, _], _ => rfl) a8 l8 c8 k8,
    fnAt_mk X G (fun _ _ _ _ _ _ us hl => match us, hl with | [_, _], _ => rfl) a9 l9 c9 k9,
    fnAt_mk X G (fun _ _ _ _ _ _ us hl => match us, hl with | [_, _], _ => rfl) a10 l10 c10 k10,
    fnAt_mk X G (fun _ _ _ _ _ _ us hl => match us, hl with | [_], _ => rfl) a11 l11 c11 k11,
    fnAt_mk X G (fun _ _ _ _ _ _ us hl => match us, hl with | [_, _, _], _ => rfl) a12 l12 c12 k12,
    fnAt_mk X G (fun _ _ _ _ _ _ us hl => match us, hl with | [_, _], _ => rfl) a13 l13 c13 k13,
    fnAt_mk X G (fun _ _ _ _ _ _ us hl => match us, hl with | [_], _ => rfl) a14 l14 c14 k14,
    fnAt_mk X G (fun _ _ _ _ _ _ us hl => match us, hl with | [_], _ => rfl) a15 l15 c15 k15,
    fnAt_mk X G (fun _ _ _ _ _ _ us hl => match us, hl with | [_, _], _ => rfl) a16 l16 c16 k16,
    fnAt_mk X G (fun _ _ _ _ _ _ us hl => match us, hl with | [_], _ => rfl) a17 l17 c17 k17,
    fnAt_mk X G (fun _ _ _ _ _ _ us hl => match us, hl with | [_], _ => rfl) a18 l18 c18 k18,
    fnAt_mk X G (fun _ _ _ _ _ _ us hl => match us, hl with | [_], _ => rfl) a19 l19 c19 k19,
    fnAt_mk X G (fun _ _ _ _ _ _ us hl => match us, hl with | [_, _], _ => rfl) a20 l20 c20 k20,
    fnAt_mk X G (fun _ _ _ _ _ _ us hl => match us, hl with | [_], _ => rfl) a21 l21 c21 k21,
    fnAt_mk X G (fun _ _ _ _ _ _ us hl => match us, hl with | [_], _ => rfl) a22 l22 c22 k22,
    fnAt_mk X G (fun _ _ _ _ _ _ us hl => match us, hl with | [_], _ => rfl) a23 l23 c23 k23,
    fnAt_mk X G (fun _ _ _ _ _ _ us hl => match us, hl with | [_, _], _ => rfl) a24 l24 c24 k24,
    fnAt_mk X G (fun _ _ _ _ _ _ us hl => match us, hl with | [_], _ => rfl) a25 l25 c25 k25,
    fnAt_mk X G (fun _ _ _ _ _ _ us hl => match us, hl with | [_], _ => rfl) a26 l26 c26 k26,
    fnAt_mk X G (fun _ _ _ _ _ _ us hl => match us, hl with | [_], _ => rfl) a27 l27 c27 k27,
    fnAt_mk X G (fun _ _ _ _ _ _ us hl => match us, hl with | [_], _ => rfl) a28 l28 c28 k28,
    PySem.W.mg_none_of X G z_list,
    PySem.W.mg_none_of X G z_len,
    PySem.W.mg_none_of X G z_range,
    PySem.W.mg_none_of X G z_int,
    PySem.W.mg_none_of X G z_str,
    PySem.W.mg_none_of X G z_isinstance,
    PySem.W.mg_none_of X G z_tuple,
    PySem.W.mg_none_of X G z_bool,
    PySem.W.mg_none_of X G z_min,
    PySem.W.mg_none_of X G z_max,
    PySem.W.mg_none_of X G z_enumerate,
    PySem.W.mg_none_of X G z_zip,
    ⟨_, PySem.W.mg_of X G c_RECORD_WORDS_u⟩,
    ⟨_, PySem.W.mg_of X G c_FIRST_ITEMS_u⟩,
    ⟨_, PySem.W.mg_of X G c_NAME_LENGTH_u⟩,
    ⟨_, PySem.W.mg_of X G c_BASE_u⟩,
    ⟨_, PySem.W.mg_of X G c_SIGNS_u⟩,
    ⟨_, PySem.W.mg_of X G c_LARGEST_USER_u⟩,
    ⟨_, PySem.W.mg_of X G c_LARGEST_SIZE_u⟩,
    ⟨_, PySem.W.mg_of X G c_LARGEST_LIMIT_u⟩,
    ⟨_, PySem.W.mg_of X G c_MOST_CELLS_u⟩,
    ⟨_, PySem.W.mg_of X G c_PRIME⟩,
    ⟨_, PySem.W.mg_of X G c_PATH_LENGTH_u⟩,
    ⟨_, PySem.W.mg_of X G k_BadCall⟩,
    ⟨_, PySem.W.mg_of X G k_BadName⟩,
    gct (PySem.W.mg_of X G g_CHANGING) gv_CHANGING,
    cdt_mk (PySem.W.mg_of X G d_FIELDS_u) ds_FIELDS_u dl_FIELDS_u dk_FIELDS_u dc_FIELDS_u,
    cdt_mk (PySem.W.mg_of X G d_LARGEST_u) ds_LARGEST_u dl_LARGEST_u dk_LARGEST_u dc_LARGEST_u,
    fun w base => exc1 (st := i_BadCall) X G ⟨k_BadCall, ⟨_, _, _, _, _, _, _, _, _, _, _, _, _, _, _, xo_0, xm_0⟩, xsa_0, xex_0, xty_0, xkp_0, xin_0, xti_0, ⟨_, _, _, _, _, _, _, _, xlk_0⟩, xcd_0, ⟨_, _, _, xce_0⟩, ⟨_, _, _, _, _, _, xco_0, xvs_0, xfi_0⟩, x_top, x_sup, x_nost, xsi_0, xmr_0, xve_0⟩ xno_0_call,
    fun w base => exc1 (st := i_BadName) X G ⟨k_BadName, ⟨_, _, _, _, _, _, _, _, _, _, _, _, _, _, _, xo_1, xm_1⟩, xsa_1, xex_1, xty_1, xkp_1, xin_1, xti_1, ⟨_, _, _, _, _, _, _, _, xlk_1⟩, xcd_1, ⟨_, _, _, xce_1⟩, ⟨_, _, _, _, _, _, xco_1, xvs_1, xfi_1⟩, x_top, x_sup, x_nost, xsi_1, xmr_1, xve_1⟩ xno_1_name,
    fun p hp => absurd hp List.not_mem_nil,
    fun p hp => absurd hp List.not_mem_nil,
    fun p hp => absurd hp List.not_mem_nil,
    fun p hp => absurd hp List.not_mem_nil⟩
  unfold m_law at hm
  exact lawOf T.f_law hmg sc_law (fun base => bd_law T) hm
end K23
open PySem PySem.W PyProof.Rows
set_option maxRecDepth 100000 in
set_option maxHeartbeats 0 in
theorem PySem.Challenge.cw_landfall_k23_pack_units_holds : PySem.Challenge.rw_landfall_k23_pack_units.Holds := by
  w_on; o_law; k_head; (case hw => w_witness2)
  k_fill
  refine LF.law_walk (l := PySem.Challenge.rw_landfall_k23_pack_units) (k := 13) rfl rfl ⟨rfl, by decide, by decide⟩ (fun w h Y => PySem.W.kIn_of Y) ?F
  case F =>
    intro w mg fa h KX G hmg
    refine' K23.all_mk KX G hmg ?a0 ?l0 ?c0 ?k0 ?a1 ?l1 ?c1 ?k1 ?a2 ?l2 ?c2 ?k2 ?a3 ?l3 ?c3 ?k3 ?a4 ?l4 ?c4 ?k4 ?a5 ?l5 ?c5 ?k5 ?a6 ?l6 ?c6 ?k6 ?a7 ?l7 ?c7 ?k7 ?a8 ?l8 ?c8 ?k8 ?a9 ?l9 ?c9 ?k9 ?a10 ?l10 ?c10 ?k10 ?a11 ?l11 ?c11 ?k11 ?a12 ?l12 ?c12 ?k12 ?a13 ?l13 ?c13 ?k13 ?a14 ?l14 ?c14 ?k14 ?a15 ?l15 ?c15 ?k15 ?a16 ?l16 ?c16 ?k16 ?a17 ?l17 ?c17 ?k17 ?a18 ?l18 ?c18 ?k18 ?a19 ?l19 ?c19 ?k19 ?a20 ?l20 ?c20 ?k20 ?a21 ?l21 ?c21 ?k21 ?a22 ?l22 ?c22 ?k22 ?a23 ?l23 ?c23 ?k23 ?a24 ?l24 ?c24 ?k24 ?a25 ?l25 ?c25 ?k25 ?a26 ?l26 ?c26 ?k26 ?a27 ?l27 ?c27 ?k27 ?a28 ?l28 ?c28 ?k28 ?z_list ?z_len ?z_range ?z_int ?z_str ?z_isinstance ?z_tuple ?z_bool ?z_min ?z_max ?z_enumerate ?z_zip ?c_RECORD_WORDS_u ?c_FIRST_ITEMS_u ?c_NAME_LENGTH_u ?c_BASE_u ?c_SIGNS_u ?c_LARGEST_USER_u ?c_LARGEST_SIZE_u ?c_LARGEST_LIMIT_u ?c_MOST_CELLS_u ?c_PRIME ?c_PATH_LENGTH_u ?k_BadCall ?k_BadName ?g_CHANGING ?gv_CHANGING ?d_FIELDS_u ?ds_FIELDS_u ?dl_FIELDS_u ?dk_FIELDS_u ?dc_FIELDS_u ?d_LARGEST_u ?ds_LARGEST_u ?dl_LARGEST_u ?dk_LARGEST_u ?dc_LARGEST_u ?x_sup ?x_nost ?x_top ?xo_0 ?xm_0 ?xsa_0 ?xex_0 ?xty_0 ?xkp_0 ?xin_0 ?xti_0 ?xlk_0 ?xcd_0 ?xce_0 ?xco_0 ?xvs_0 ?xfi_0 ?xsi_0 ?xmr_0 ?xve_0 ?xno_0_call ?xo_1 ?xm_1 ?xsa_1 ?xex_1 ?xty_1 ?xkp_1 ?xin_1 ?xti_1 ?xlk_1 ?xcd_1 ?xce_1 ?xco_1 ?xvs_1 ?xfi_1 ?xsi_1 ?xmr_1 ?xve_1 ?xno_1_name K23.holds
    (case a0 => k_is); (case l0 => k_is); (case c0 => k_is); (case k0 => k_is); (case a1 => k_is); (case l1 => k_is); (case c1 => k_is); (case k1 => k_is)
    (case a2 => k_is); (case l2 => k_is); (case c2 => k_is); (case k2 => k_is); (case a3 => k_is); (case l3 => k_is); (case c3 => k_is); (case k3 => k_is)
    (case a4 => k_is); (case l4 => k_is); (case c4 => k_is); (case k4 => k_is); (case a5 => k_is); (case l5 => k_is); (case c5 => k_is); (case k5 => k_is)
    (case a6 => k_is); (case l6 => k_is); (case c6 => k_is); (case k6 => k_is); (case a7 => k_is); (case l7 => k_is); (case c7 => k_is); (case k7 => k_is)
    (case a8 => k_is); (case l8 => k_is); (case c8 => k_is); (case k8 => k_is); (case a9 => k_is); (case l9 => k_is); (case c9 => k_is); (case k9 => k_is)
    (case a10 => k_is); (case l10 => k_is); (case c10 => k_is); (case k10 => k_is); (case a11 => k_is); (case l11 => k_is); (case c11 => k_is); (case k11 => k_is)
    (case a12 => k_is); (case l12 => k_is); (case c12 => k_is); (case k12 => k_is); (case a13 => k_is); (case l13 => k_is); (case c13 => k_is); (case k13 => k_is)
    (case a14 => k_is); (case l14 => k_is); (case c14 => k_is); (case k14 => k_is); (case a15 => k_is); (case l15 => k_is); (case c15 => k_is); (case k15 => k_is)
    (case a16 => k_is); (case l16 => k_is); (case c16 => k_is); (case k16 => k_is); (case a17 => k_is); (case l17 => k_is); (case c17 => k_is); (case k17 => k_is)
    (case a18 => k_is); (case l18 => k_is); (case c18 => k_is); (case k18 => k_is); (case a19 => k_is); (case l19 => k_is); (case c19 => k_is); (case k19 => k_is)
    (case a20 => k_is); (case l20 => k_is); (case c20 => k_is); (case k20 => k_is); (case a21 => k_is); (case l21 => k_is); (case c21 => k_is); (case k21 => k_is)
    (case a22 => k_is); (case l22 => k_is); (case c22 => k_is); (case k22 => k_is); (case a23 => k_is); (case l23 => k_is); (case c23 => k_is); (case k23 => k_is)
    (case a24 => k_is); (case l24 => k_is); (case c24 => k_is); (case k24 => k_is); (case a25 => k_is); (case l25 => k_is); (case c25 => k_is); (case k25 => k_is)
    (case a26 => k_is); (case l26 => k_is); (case c26 => k_is); (case k26 => k_is); (case a27 => k_is); (case l27 => k_is); (case c27 => k_is); (case k27 => k_is)
    (case a28 => k_is); (case l28 => k_is); (case c28 => k_is); (case k28 => k_is); (case z_list => k_is); (case z_len => k_is); (case z_range => k_is); (case z_int => k_is)
    (case z_str => k_is); (case z_isinstance => k_is); (case z_tuple => k_is); (case z_bool => k_is); (case z_min => k_is); (case z_max => k_is); (case z_enumerate => k_is); (case z_zip => k_is)
    (case c_RECORD_WORDS_u => k_is); (case c_FIRST_ITEMS_u => k_is); (case c_NAME_LENGTH_u => k_is); (case c_BASE_u => k_is); (case c_SIGNS_u => k_is); (case c_LARGEST_USER_u => k_is); (case c_LARGEST_SIZE_u => k_is); (case c_LARGEST_LIMIT_u => k_is)
    (case c_MOST_CELLS_u => k_is); (case c_PRIME => k_is); (case c_PATH_LENGTH_u => k_is); (case k_BadCall => k_is); (case k_BadName => k_is)
    (case g_CHANGING => first | k_is | rfl | kernel_rfl | decide +kernel)
    (case gv_CHANGING => first | k_is | rfl | kernel_rfl | decide +kernel)
    (case d_FIELDS_u => first | k_is | rfl | kernel_rfl | decide +kernel)
    (case ds_FIELDS_u => first | k_is | rfl | kernel_rfl | decide +kernel)
    (case dl_FIELDS_u => first | k_is | rfl | kernel_rfl | decide +kernel)
    (case dk_FIELDS_u => (repeat (first | exact trivial | (refine ⟨⟨_, _, rfl, rfl⟩, ?_⟩))))
    (case dc_FIELDS_u => first | k_is | rfl | kernel_rfl | decide +kernel)
    (case d_LARGEST_u => first | k_is | rfl | kernel_rfl | decide +kernel)
    (case ds_LARGEST_u => first | k_is | rfl | kernel_rfl | decide +kernel)
    (case dl_LARGEST_u => first | k_is | rfl | kernel_rfl | decide +kernel)
    (case dk_LARGEST_u => (repeat (first | exact trivial | (refine ⟨⟨_, _, rfl, rfl⟩, ?_⟩))))
    (case dc_LARGEST_u => first | k_is | rfl | kernel_rfl | decide +kernel)
    (case x_sup => first | k_is | rfl | kernel_rfl | decide +kernel)
    (case x_nost => first | k_is | rfl | kernel_rfl | decide +kernel)
    (case x_top => first | k_is | rfl | kernel_rfl | decide +kernel)
    (case xo_0 => first | k_is | rfl | kernel_rfl | decide +kernel)
    (case xm_0 => first | k_is | rfl | kernel_rfl | decide +kernel)
    (case xsa_0 => first | k_is | rfl | kernel_rfl | decide +kernel)
    (case xex_0 => first | k_is | rfl | kernel_rfl | decide +kernel)
    (case xty_0 => first | k_is | rfl | kernel_rfl | decide +kernel)
    (case xkp_0 => first | k_is | rfl | kernel_rfl | decide +kernel)
    (case xin_0 => first | k_is | rfl | kernel_rfl | decide +kernel)
    (case xti_0 => first | k_is | rfl | kernel_rfl | decide +kernel)
    (case xlk_0 => first | k_is | rfl | kernel_rfl | decide +kernel)
    (case xcd_0 => first | k_is | rfl | kernel_rfl | decide +kernel)
    (case xce_0 => first | k_is | rfl | kernel_rfl | decide +kernel)
    (case xco_0 => first | k_is | rfl | kernel_rfl | decide +kernel)
    (case xvs_0 => first | k_is | rfl | kernel_rfl | decide +kernel)
    (case xfi_0 => first | k_is | rfl | kernel_rfl | decide +kernel)
    (case xsi_0 => first | k_is | rfl | kernel_rfl | decide +kernel)
    (case xmr_0 => first | k_is | rfl | kernel_rfl | decide +kernel)
    (case xve_0 => first | k_is | rfl | kernel_rfl | decide +kernel)
    (case xno_0_call => first | k_is | rfl | kernel_rfl | decide +kernel)
    (case xo_1 => first | k_is | rfl | kernel_rfl | decide +kernel)
    (case xm_1 => first | k_is | rfl | kernel_rfl | decide +kernel)
    (case xsa_1 => first | k_is | rfl | kernel_rfl | decide +kernel)
    (case xex_1 => first | k_is | rfl | kernel_rfl | decide +kernel)
    (case xty_1 => first | k_is | rfl | kernel_rfl | decide +kernel)
    (case xkp_1 => first | k_is | rfl | kernel_rfl | decide +kernel)
    (case xin_1 => first | k_is | rfl | kernel_rfl | decide +kernel)
    (case xti_1 => first | k_is | rfl | kernel_rfl | decide +kernel)
    (case xlk_1 => first | k_is | rfl | kernel_rfl | decide +kernel)
    (case xcd_1 => first | k_is | rfl | kernel_rfl | decide +kernel)
    (case xce_1 => first | k_is | rfl | kernel_rfl | decide +kernel)
    (case xco_1 => first | k_is | rfl | kernel_rfl | decide +kernel)
    (case xvs_1 => first | k_is | rfl | kernel_rfl | decide +kernel)
    (case xfi_1 => first | k_is | rfl | kernel_rfl | decide +kernel)
    (case xsi_1 => first | k_is | rfl | kernel_rfl | decide +kernel)
    (case xmr_1 => first | k_is | rfl | kernel_rfl | decide +kernel)
    (case xve_1 => first | k_is | rfl | kernel_rfl | decide +kernel)
    (case xno_1_name => first | k_is | rfl | kernel_rfl | decide +kernel)
