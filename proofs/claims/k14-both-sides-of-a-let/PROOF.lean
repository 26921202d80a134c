import PyProof.Rows.All
import Wide.All
import OpenK.AllK
import Wide.FinOn
import HandS.ForMost
import HandS.ForExc
import HandS.Flow
import HandS.Wide
import HandS.IsInst
import HandS.ExcField
import HandS.ExcIs
import HandS.CallSlots
import HandS.TryMany
import HandS.Codes
import HandS.HotCalls
import HandS.ExcInitHot
import HandS.TupAny
import HandS.EndBits
import KE.KExcSuper
import HandS.ExcInit
import HandS.Nested
import HandS.TryOnly
import HandS.StrMore
import HandS.Replace
import HandS.More
import HandS.Text
import HandS.Zip
import HandS.Strs
import HandS.Property
import PySem.Challenge.RW_landfall_k14_both_sides_of_a_let
set_option Elab.async false
set_option linter.all false
set_option maxRecDepth 100000
set_option maxHeartbeats 4000000
/-! LF0: a plain machine over data and a list of objects; what it means that a judgement of the hand layer runs it. -/
namespace LF
open PySem PySem.Spec L2
open PyProof.Rows hiding St

/-! ### data, objects, results -/
inductive D where
  | non | bl (b : Bool) | int (i : Int) | str (x : Str)
  | tup (xs : List D) | ct (xs : List D) | cl (xs : List D) | loc (l : Nat) | ty (n : String) | cls (x : Str)
inductive O where
  | lst (xs : List D)
  | dK (kvs : List (Key × D))
  | dT (kvs : List (List Key × D))
  | ins (x : Str) (fs : List (Str × D))
abbrev M := List O
inductive Res (α : Type) where
  | ok (a : α) (h : M)
  | exc (x : Str) (ns : List Str) (vs : List D) (h : M)
  | stuck
def Res.bind {α β : Type} (r : Res α) (k : α → M → Res β) : Res β :=
  match r with
  | .ok a h => k a h
  | .exc x ns vs h => .exc x ns vs h
  | .stuck => .stuck
@[simp] theorem bind_ok {α β : Type} {a : α} {h : M} {k : α → M → Res β} : (Res.ok a h).bind k = k a h := (rfl)
@[simp] theorem bind_exc {α β : Type} {x ns vs} {h : M} {k : α → M → Res β} : (Res.exc x ns vs h).bind k = .exc x ns vs h := (rfl)
@[simp] theorem bind_stuck {α β : Type} {k : α → M → Res β} : (Res.stuck : Res α).bind k = .stuck := (rfl)
/-- a slot: nothing yet, a value, the exception that is handled -/
inductive Sl where
  | no | va (d : D) | ex
abbrev En := List Sl
abbrev ME := En → M → Res D
abbrev MA := En → M → Res (List D)
abbrev MT := En → M → Res Bool
inductive SR where
  | nx (env : En) (h : M) | rt (d : D) (h : M) | bk (env : En) (h : M) | ct (env : En) (h : M)
  | exc (x : Str) (ns : List Str) (vs : List D) (env : En) (h : M) | stuck
abbrev MS := En → M → SR

/-! ### how data stand in the abstract heap -/
structure Wo where
  K : PySem.W.Frag
  mg : Str → Option Value
def SqLP (K : PySem.W.Frag) (H : Hp) (a : Addr) (xs : List V) : Prop :=
  (∃ o, H a = some (.frz o (.lst xs))) ∨
    ∃ (o : Obj) (its : Array Value) (n : Nat), K.lookup a = some o ∧ o.cls = .type "list" ∧ o.dict = none ∧ o.data = .seq its n ∧ its.size ≤ sizeLine ∧ Vals xs its.toList
theorem SqLP.sq {K : PySem.W.Frag} {H : Hp} {a : Addr} {xs : List V} (h : SqLP K H a xs) : SqL K H a xs := by
  rcases h with h | h
  · exact .inl (.inr h)
  · exact .inr h
def SqTP (K : PySem.W.Frag) (a : Addr) (xs : List V) : Prop :=
  ∃ (o : Obj) (its : Array Value) (n : Nat), K.lookup a = some o ∧ o.cls = .type "tuple" ∧ o.data = .seq its n ∧ its.size ≤ sizeLine ∧ Vals xs its.toList
def Fix : HO → Prop
  | .tup _ => True
  | .frz _ _ => True
  | .xd _ => True
  | _ => False
def Keep (H H' : Hp) : Prop := ∀ a o, H a = some o → Fix o → H' a = some o
theorem Keep.refl (H : Hp) : Keep H H := fun _ _ h _ => h
theorem Keep.trans {H H1 H2 : Hp} (a : Keep H H1) (b : Keep H1 H2) : Keep H H2 := fun c o h f => b c o (a c o h f) f
theorem Keep.of_same {H H' : Hp} (s : Same H H') : Keep H H' := fun a o h _ => s a o h
theorem same_upd {H : Hp} {p : Addr} {o : HO} (h : H p = none) : Same H (upd H p o) := fun b x e => by
  rw [upd_ne (ne_of_none e h)]; exact e
theorem Keep.tup {K : PySem.W.Frag} {H H' : Hp} {a : Addr} {xs : List V} (k : Keep H H') (h : SqT K H a xs) : SqT K H' a xs := by
  rcases h with (h | ⟨o, h⟩) | h
  · exact .inl (.inl (k _ _ h trivial))
  · exact .inl (.inr ⟨o, k _ _ h trivial⟩)
  · exact .inr h
theorem Keep.sqlp {K : PySem.W.Frag} {H H' : Hp} {a : Addr} {xs : List V} (k : Keep H H') (h : SqLP K H a xs) : SqLP K H' a xs := by
  rcases h with ⟨o, h⟩ | h
  · exact .inl ⟨o, k _ _ h trivial⟩
  · exact .inr h

mutual
def RV (G : Wo) (ι : List Addr) (H : Hp) : D → V → Prop
  | .non, v => v = .non
  | .bl b, v => v = .bl b
  | .int i, v => v = .int i
  | .str x, v => v = .str x
  | .tup xs, v => ∃ a vs, v = .ref a ∧ H a = some (.tup vs) ∧ RVs G ι H xs vs
  | .ct xs, v => ∃ a vs, v = .ref a ∧ SqTP G.K a vs ∧ RVs G ι H xs vs
  | .cl xs, v => ∃ a vs, v = .ref a ∧ SqLP G.K H a vs ∧ RVs G ι H xs vs
  | .loc l, v => ∃ a, v = .ref a ∧ ι[l]? = some a
  | .ty n, v => v = .ty n
  | .cls x, v => ∃ a, v = .ref a ∧ G.mg x = some (.ref a)
def RVs (G : Wo) (ι : List Addr) (H : Hp) : List D → List V → Prop
  | [], vs => vs = []
  | x :: xs, vs => ∃ v r, vs = v :: r ∧ RV G ι H x v ∧ RVs G ι H xs r
end

theorem pre_get {ι ι' : List Addr} (p : ι <+: ι') {l : Nat} {a : Addr} (h : ι[l]? = some a) : ι'[l]? = some a := by
  obtain ⟨t, rfl⟩ := p
  have hl : l < ι.length := (List.getElem?_eq_some_iff.mp h).1
  rw [List.getElem?_append_left hl]; exact h

mutual
theorem RV.mono {G : Wo} {ι ι' : List Addr} {H H' : Hp} (p : ι <+: ι') (k : Keep H H') : ∀ (d : D) (v : V), RV G ι H d v → RV G ι' H' d v
  | .non, _, h => h
  | .bl _, _, h => h
  | .int _, _, h => h
  | .str _, _, h => h
  | .tup xs, _, h => by
    simp only [RV] at h ⊢
    obtain ⟨a, vs, e, q, r⟩ := h
    exact ⟨a, vs, e, k _ _ q trivial, RVs.mono p k xs vs r⟩
  | .ct xs, _, h => by
    simp only [RV] at h ⊢
    obtain ⟨a, vs, e, q, r⟩ := h
    exact ⟨a, vs, e, q, RVs.mono p k xs vs r⟩
  | .cl xs, _, h => by
    simp only [RV] at h ⊢
    obtain ⟨a, vs, e, q, r⟩ := h
    exact ⟨a, vs, e, k.sqlp q, RVs.mono p k xs vs r⟩
  | .loc l, _, h => by
    simp only [RV] at h ⊢
    obtain ⟨a, e, q⟩ := h
    exact ⟨a, e, pre_get p q⟩
  | .ty _, _, h => h
  | .cls _, _, h => h
theorem RVs.mono {G : Wo} {ι ι' : List Addr} {H H' : Hp} (p : ι <+: ι') (k : Keep H H') : ∀ (xs : List D) (vs : List V), RVs G ι H xs vs → RVs G ι' H' xs vs
  | [], _, h => h
  | x :: xs, _, h => by
    simp only [RVs] at h ⊢
    obtain ⟨v, r, e, h1, h2⟩ := h
    exact ⟨v, r, e, RV.mono p k x v h1, RVs.mono p k xs r h2⟩
end
theorem RVs.length {G : Wo} {ι : List Addr} {H : Hp} : ∀ {xs : List D} {vs : List V}, RVs G ι H xs vs → xs.length = vs.length
  | [], vs, h => by simp only [RVs] at h; subst h; rfl
  | x :: xs, vs, h => by
    simp only [RVs] at h
    obtain ⟨v, r, rfl, _, h2⟩ := h
    simp [RVs.length h2]
theorem RVs.get {G : Wo} {ι : List Addr} {H : Hp} : ∀ {xs : List D} {vs : List V} {i : Nat} {d : D}, RVs G ι H xs vs → xs[i]? = some d → ∃ v, vs[i]? = some v ∧ RV G ι H d v
  | [], _, _, _, _, e => by simp at e
  | x :: xs, vs, 0, d, h, e => by
    simp only [RVs] at h
    obtain ⟨v, r, rfl, h1, h2⟩ := h
    simp at e; subst e
    exact ⟨v, rfl, h1⟩
  | x :: xs, vs, i + 1, d, h, e => by
    simp only [RVs] at h
    obtain ⟨v, r, rfl, h1, h2⟩ := h
    simpa using RVs.get (i := i) h2 (by simpa using e)
theorem RVs.getV {G : Wo} {ι : List Addr} {H : Hp} : ∀ {xs : List D} {vs : List V} {i : Nat} {v : V}, RVs G ι H xs vs → vs[i]? = some v → ∃ d, xs[i]? = some d ∧ RV G ι H d v
  | [], vs, i, v, h, e => by simp only [RVs] at h; subst h; simp at e
  | x :: xs, vs, 0, v, h, e => by
    simp only [RVs] at h
    obtain ⟨w, r, rfl, h1, h2⟩ := h
    simp at e; subst e
    exact ⟨x, rfl, h1⟩
  | x :: xs, vs, i + 1, v, h, e => by
    simp only [RVs] at h
    obtain ⟨w, r, rfl, h1, h2⟩ := h
    simpa using RVs.getV (i := i) h2 (by simpa using e)
theorem RVs.append {G : Wo} {ι : List Addr} {H : Hp} : ∀ {xs ys : List D} {vs ws : List V}, RVs G ι H xs vs → RVs G ι H ys ws → RVs G ι H (xs ++ ys) (vs ++ ws)
  | [], ys, vs, ws, h, h2 => by simp only [RVs] at h; subst h; exact h2
  | x :: xs, ys, vs, ws, h, h2 => by
    simp only [RVs] at h
    obtain ⟨w, r, rfl, h1, h3⟩ := h
    show RVs G ι H (x :: (xs ++ ys)) _
    simp only [RVs]
    exact ⟨w, r ++ ws, rfl, h1, RVs.append h3 h2⟩
theorem RVs.take {G : Wo} {ι : List Addr} {H : Hp} : ∀ (n : Nat) {xs : List D} {vs : List V}, RVs G ι H xs vs → RVs G ι H (xs.take n) (vs.take n)
  | 0, xs, vs, h => by simp [RVs]
  | n + 1, [], vs, h => by simp only [RVs] at h; subst h; simp [RVs]
  | n + 1, x :: xs, vs, h => by
    simp only [RVs] at h
    obtain ⟨w, r, rfl, h1, h3⟩ := h
    simp only [List.take_succ_cons, RVs]
    exact ⟨w, _, rfl, h1, RVs.take n h3⟩
theorem RVs.drop {G : Wo} {ι : List Addr} {H : Hp} : ∀ (n : Nat) {xs : List D} {vs : List V}, RVs G ι H xs vs → RVs G ι H (xs.drop n) (vs.drop n)
  | 0, xs, vs, h => by simpa using h
  | n + 1, [], vs, h => by simp only [RVs] at h; subst h; simp [RVs]
  | n + 1, x :: xs, vs, h => by
    simp only [RVs] at h
    obtain ⟨w, r, rfl, h1, h3⟩ := h
    simpa using RVs.drop n h3
theorem RVs.set {G : Wo} {ι : List Addr} {H : Hp} : ∀ {xs : List D} {vs : List V} (i : Nat) {d : D} {v : V}, RVs G ι H xs vs → RV G ι H d v → RVs G ι H (xs.set i d) (vs.set i v)
  | [], vs, i, d, v, h, r => by simp only [RVs] at h; subst h; simp [RVs]
  | x :: xs, vs, 0, d, v, h, r => by
    simp only [RVs] at h
    obtain ⟨w, q, rfl, h1, h3⟩ := h
    simp only [List.set_cons_zero, RVs]
    exact ⟨v, q, rfl, r, h3⟩
  | x :: xs, vs, i + 1, d, v, h, r => by
    simp only [RVs] at h
    obtain ⟨w, q, rfl, h1, h3⟩ := h
    simp only [List.set_cons_succ, RVs]
    exact ⟨w, _, rfl, h1, RVs.set i h3 r⟩
theorem RVs.one {G : Wo} {ι : List Addr} {H : Hp} {d : D} {v : V} (h : RV G ι H d v) : RVs G ι H [d] [v] := by
  simp only [RVs]; exact ⟨v, [], rfl, h, rfl⟩
theorem RVs.nil {G : Wo} {ι : List Addr} {H : Hp} : RVs G ι H [] [] := by simp [RVs]
theorem RVs.cons {G : Wo} {ι : List Addr} {H : Hp} {d : D} {v : V} {xs : List D} {vs : List V} (h : RV G ι H d v) (t : RVs G ι H xs vs) : RVs G ι H (d :: xs) (v :: vs) := by
  simp only [RVs]; exact ⟨v, vs, rfl, h, t⟩
/-- pairs by keys -/
def RKs {κ : Type} (G : Wo) (ι : List Addr) (H : Hp) (kvs : List (κ × D)) (kws : List (κ × V)) : Prop := kvs.map (·.1) = kws.map (·.1) ∧ RVs G ι H (kvs.map (·.2)) (kws.map (·.2))
theorem RKs.mono {κ : Type} {G : Wo} {ι ι' : List Addr} {H H' : Hp} (p : ι <+: ι') (k : Keep H H') {kvs : List (κ × D)} {kws : List (κ × V)} (h : RKs G ι H kvs kws) : RKs G ι' H' kvs kws :=
  ⟨h.1, RVs.mono p k _ _ h.2⟩
def RO (G : Wo) (ι : List Addr) (H : Hp) (a : Addr) : O → Prop
  | .lst xs => ∃ vs, H a = some (.lst vs) ∧ RVs G ι H xs vs
  | .dK kvs => ∃ kws, H a = some (.dK kws) ∧ RKs G ι H kvs kws
  | .dT kvs => ∃ kws, H a = some (.dT kws) ∧ RKs G ι H kvs kws
  | .ins x fs => ∃ C dx fvs, G.mg x = some (.ref C) ∧ H a = some (.ins C dx fvs) ∧ RKs G ι H fs fvs
theorem RO.there {G : Wo} {ι : List Addr} {H : Hp} {a : Addr} {o : O} (h : RO G ι H a o) : ∃ u, H a = some u ∧ ¬ Fix u ∧ Mut (some u) := by
  cases o with
  | lst xs => obtain ⟨vs, e, _⟩ := h; exact ⟨_, e, fun z => z, trivial⟩
  | dK xs => obtain ⟨vs, e, _⟩ := h; exact ⟨_, e, fun z => z, trivial⟩
  | dT xs => obtain ⟨vs, e, _⟩ := h; exact ⟨_, e, fun z => z, trivial⟩
  | ins x fs => obtain ⟨C, dx, fvs, _, e, _⟩ := h; exact ⟨_, e, fun z => z, trivial⟩
/-- the object stands as it stood -/
theorem RO.stay {G : Wo} {ι ι' : List Addr} {H H' : Hp} {a : Addr} {o : O} (h : RO G ι H a o) (p : ι <+: ι') (k : Keep H H') (e : ∀ u, H a = some u → H' a = some u) : RO G ι' H' a o := by
  cases o with
  | lst xs => obtain ⟨vs, q, r⟩ := h; exact ⟨vs, e _ q, RVs.mono p k _ _ r⟩
  | dK xs => obtain ⟨vs, q, r⟩ := h; exact ⟨vs, e _ q, r.mono p k⟩
  | dT xs => obtain ⟨vs, q, r⟩ := h; exact ⟨vs, e _ q, r.mono p k⟩
  | ins x fs => obtain ⟨C, dx, fvs, g, q, r⟩ := h; exact ⟨C, dx, fvs, g, e _ q, r.mono p k⟩

structure Rel (G : Wo) (ι : List Addr) (H : Hp) (h : M) : Prop where
  len : ι.length = h.length
  inj : ∀ (i j : Nat) (a : Addr), ι[i]? = some a → ι[j]? = some a → i = j
  ok : ∀ (l : Nat) (o : O), h[l]? = some o → ∃ a, ι[l]? = some a ∧ RO G ι H a o
theorem Rel.at {G : Wo} {ι : List Addr} {H : Hp} {h : M} (r : Rel G ι H h) {l : Nat} {a : Addr} {o : O} (e : h[l]? = some o) (ea : ι[l]? = some a) : RO G ι H a o := by
  obtain ⟨b, eb, q⟩ := r.ok l o e
  rw [ea] at eb; cases eb; exact q
/-- all objects stand as they stood -/
theorem Rel.same {G : Wo} {ι : List Addr} {H H' : Hp} {h : M} (r : Rel G ι H h) (s : Same H H') : Rel G ι H' h :=
  ⟨r.len, r.inj, fun l o e => let ⟨a, ea, q⟩ := r.ok l o e; ⟨a, ea, q.stay (List.prefix_refl _) (Keep.of_same s) (fun u z => s _ _ z)⟩⟩
theorem Rel.tracked {G : Wo} {ι : List Addr} {H : Hp} {h : M} (r : Rel G ι H h) {l : Nat} {a : Addr} (e : ι[l]? = some a) : ∃ u, H a = some u ∧ ¬ Fix u ∧ Mut (some u) := by
  have hl : l < h.length := by rw [← r.len]; exact (List.getElem?_eq_some_iff.mp e).1
  exact (r.at (List.getElem?_eq_getElem hl) e).there
/-- a new object -/
theorem Rel.push {G : Wo} {ι : List Addr} {H : Hp} {h : M} (r : Rel G ι H h) {p : Addr} {o : O} {u : HO} (hp : H p = none) (ro : RO G (ι ++ [p]) (upd H p u) p o) : Rel G (ι ++ [p]) (upd H p u) (h ++ [o]) := by
  have pre : ι <+: ι ++ [p] := List.prefix_append ..
  have s : Same H (upd H p u) := same_upd hp
  refine ⟨by simp [r.len], fun i j a ei ej => ?_, fun l o' e => ?_⟩
  · have key : ∀ (k : Nat), (ι ++ [p])[k]? = some a → (k < ι.length ∧ ι[k]? = some a) ∨ (k = ι.length ∧ a = p) := fun k ek => by
      by_cases hk : k < ι.length
      · rw [List.getElem?_append_left hk] at ek; exact .inl ⟨hk, ek⟩
      · have hk2 : k < (ι ++ [p]).length := (List.getElem?_eq_some_iff.mp ek).1
        have hk3 : k = ι.length := by simp at hk2; omega
        subst hk3
        simp at ek
        exact .inr ⟨rfl, ek.symm⟩
    have np : ∀ (k : Nat), ι[k]? = some a → a ≠ p := fun k ek z => by
      obtain ⟨u', e', _⟩ := r.tracked ek
      rw [z, hp] at e'; cases e'
    rcases key i ei with ⟨_, a1⟩ | ⟨a1, a2⟩
    · rcases key j ej with ⟨_, b1⟩ | ⟨b1, b2⟩
      · exact r.inj i j a a1 b1
      · exact absurd b2 (np i a1)
    · rcases key j ej with ⟨_, b1⟩ | ⟨b1, b2⟩
      · exact absurd a2 (np j b1)
      · rw [a1, b1]
  · by_cases hl : l < h.length
    · rw [List.getElem?_append_left hl] at e
      obtain ⟨a, ea, q⟩ := r.ok l o' e
      exact ⟨a, pre_get pre ea, q.stay pre (Keep.of_same s) fun u z => s _ _ z⟩
    · have hk2 : l < (h ++ [o]).length := (List.getElem?_eq_some_iff.mp e).1
      have hk3 : l = h.length := by simp at hk2; omega
      subst hk3
      simp at e; subst e
      exact ⟨p, by rw [← r.len]; simp, ro⟩
/-- an object changed -/
theorem Rel.write {G : Wo} {ι : List Addr} {H : Hp} {h : M} (r : Rel G ι H h) {l : Nat} {a : Addr} {o : O} {u : HO} (ea : ι[l]? = some a) (ro : RO G ι (upd H a u) a o) : Rel G ι (upd H a u) (h.set l o) ∧ Keep H (upd H a u) := by
  obtain ⟨u0, e0, nf, mu⟩ := r.tracked ea
  have kp : Keep H (upd H a u) := fun b o' eb f => by
    have : b ≠ a := fun z => by rw [z, e0] at eb; cases eb; exact nf f
    rw [upd_ne this]; exact eb
  refine ⟨⟨by simp [r.len], r.inj, fun k o' e => ?_⟩, kp⟩
  have hk : k < h.length := by have := (List.getElem?_eq_some_iff.mp e).1; simpa using this
  by_cases hkl : k = l
  · subst hkl
    rw [List.getElem?_set_self hk] at e
    cases e
    exact ⟨a, ea, ro⟩
  · rw [List.getElem?_set_ne (Ne.symm hkl)] at e
    obtain ⟨b, eb, q⟩ := r.ok k o' e
    have nb : b ≠ a := fun z => by subst z; exact hkl (r.inj k l _ eb ea)
    exact ⟨b, eb, q.stay (List.prefix_refl _) kp fun u' z => by rw [upd_ne nb]; exact z⟩

/-! ### slots -/
/-- an exception as it lies behind a raise -/
def XF (G : Wo) (ι : List Addr) (H : Hp) (d : Option Addr) (ns : List Str) (xs : List D) : Prop :=
  ns.length = xs.length ∧ ∃ vs, ((ns = [] ∧ d = none) ∨ ∃ dd, d = some dd ∧ H dd = some (.xd (ns.zip vs))) ∧ RVs G ι H xs vs
theorem XF.mono {G : Wo} {ι ι' : List Addr} {H H' : Hp} {d : Option Addr} {ns : List Str} {xs : List D} (h : XF G ι H d ns xs) (p : ι <+: ι') (k : Keep H H') : XF G ι' H' d ns xs := by
  obtain ⟨e, vs, q, r⟩ := h
  refine ⟨e, vs, ?_, RVs.mono p k _ _ r⟩
  rcases q with q | ⟨dd, q1, q2⟩
  · exact .inl q
  · exact .inr ⟨dd, q1, k _ _ q2 trivial⟩
/-- the exception that is handled: its address, its class, its dict; what it is to the machine -/
abbrev Ex := Option ((Addr × Value × Option Addr) × Str × List Str × List D)
structure REn (G : Wo) (ex : Ex) (ι : List Addr) (H : Hp) (env : En) (σ : St) : Prop where
  len : env.length = σ.length
  at_ : ∀ (i : Nat) (d : D), env[i]? = some (.va d) → ∃ v, σ[i]? = some (some v) ∧ RV G ι H d v
  atx : ∀ (i : Nat), env[i]? = some .ex → ∃ a c, ex = some c ∧ c.1.1 = a ∧ σ[i]? = some (some (.ref a))
  exk : ∀ c, ex = some c → ∃ C, c.1.2.1 = .ref C ∧ G.mg c.2.1 = some (.ref C) ∧ XF G ι H c.1.2.2 c.2.2.1 c.2.2.2
theorem REn.mono {G : Wo} {ex : Ex} {ι ι' : List Addr} {H H' : Hp} {env : En} {σ : St} (r : REn G ex ι H env σ) (p : ι <+: ι') (k : Keep H H') : REn G ex ι' H' env σ :=
  ⟨r.len, fun i d e => let ⟨v, e1, q⟩ := r.at_ i d e; ⟨v, e1, RV.mono p k d v q⟩, r.atx, fun c e => let ⟨C, h1, h2, h3⟩ := r.exk c e; ⟨C, h1, h2, h3.mono p k⟩⟩
theorem REn.set {G : Wo} {ex : Ex} {ι : List Addr} {H : Hp} {env : En} {σ : St} (r : REn G ex ι H env σ) (i : Nat) {d : D} {v : V} (q : RV G ι H d v) : REn G ex ι H (env.set i (.va d)) (σ.set i (some v)) := by
  refine ⟨by simp [r.len], fun j d' e => ?_, fun j e => ?_, r.exk⟩
  · have hj : j < env.length := by have := (List.getElem?_eq_some_iff.mp e).1; simpa using this
    by_cases hji : j = i
    · subst hji
      rw [List.getElem?_set_self hj] at e
      cases e
      exact ⟨v, List.getElem?_set_self (by rw [← r.len]; exact hj), q⟩
    · rw [List.getElem?_set_ne (Ne.symm hji)] at e
      obtain ⟨w, e1, q1⟩ := r.at_ j d' e
      exact ⟨w, by rw [List.getElem?_set_ne (Ne.symm hji)]; exact e1, q1⟩
  · have hj : j < env.length := by have := (List.getElem?_eq_some_iff.mp e).1; simpa using this
    by_cases hji : j = i
    · subst hji
      rw [List.getElem?_set_self hj] at e
      cases e
    · rw [List.getElem?_set_ne (Ne.symm hji)] at e
      obtain ⟨a, c, e1, e2, e3⟩ := r.atx j e
      exact ⟨a, c, e1, e2, by rw [List.getElem?_set_ne (Ne.symm hji)]; exact e3⟩
theorem REn.drop1 {G : Wo} {ex : Ex} {ι : List Addr} {H : Hp} {env : En} {σ : St} (r : REn G ex ι H env σ) (i : Nat) (v : Option V) : REn G ex ι H (env.set i .no) (σ.set i v) := by
  refine ⟨by simp [r.len], fun j d' e => ?_, fun j e => ?_, r.exk⟩
  · have hj : j < env.length := by have := (List.getElem?_eq_some_iff.mp e).1; simpa using this
    by_cases hji : j = i
    · subst hji
      rw [List.getElem?_set_self hj] at e
      cases e
    · rw [List.getElem?_set_ne (Ne.symm hji)] at e
      obtain ⟨w, e1, q1⟩ := r.at_ j d' e
      exact ⟨w, by rw [List.getElem?_set_ne (Ne.symm hji)]; exact e1, q1⟩
  · have hj : j < env.length := by have := (List.getElem?_eq_some_iff.mp e).1; simpa using this
    by_cases hji : j = i
    · subst hji
      rw [List.getElem?_set_self hj] at e
      cases e
    · rw [List.getElem?_set_ne (Ne.symm hji)] at e
      obtain ⟨a, c, e1, e2, e3⟩ := r.atx j e
      exact ⟨a, c, e1, e2, by rw [List.getElem?_set_ne (Ne.symm hji)]; exact e3⟩

/-! ### readings -/
abbrev WX' := Value → Option Addr → Hp → Prop
/-- the end that a result leads to: B says how its value lies -/
def Post {α β : Type} (G : Wo) (B : List Addr → Hp → α → β → Prop) (E : WX') (ι : List Addr) (H : Hp) (r : Res α) (Q : β → Hp → Prop) : Prop :=
  match r with
  | .ok d h' => ∀ ι' H' v, ι <+: ι' → Keep H H' → Rel G ι' H' h' → B ι' H' d v → Q v H'
  | .exc x ns xs h' => ∀ ι' H' C d, ι <+: ι' → Keep H H' → Rel G ι' H' h' → G.mg x = some (.ref C) → XF G ι' H' d ns xs → E (.ref C) d H'
  | .stuck => False
theorem Post.mono {α β : Type} {G : Wo} {B : List Addr → Hp → α → β → Prop} {E : WX'} {ι ι1 : List Addr} {H H1 : Hp} {r : Res α} {Q : β → Hp → Prop} (p : ι <+: ι1) (k : Keep H H1) (h : Post G B E ι H r Q) : Post G B E ι1 H1 r Q := by
  cases r with
  | ok d h' => exact fun ι' H' v p' k' => h ι' H' v (p.trans p') (k.trans k')
  | exc x ns xs h' => exact fun ι' H' C d p' k' => h ι' H' C d (p.trans p') (k.trans k')
  | stuck => exact h
abbrev PoV (G : Wo) := Post G (RV G)
abbrev BLs (G : Wo) : List Addr → Hp → List D → List V → Prop := fun ι H ds vs => RVs G ι H ds vs
abbrev BB : List Addr → Hp → Bool → Bool → Prop := fun _ _ b c => c = b

def rdE (G : Wo) (ex : Ex) (W : WX) (m : ME) : TE := fun σ H Q => ∃ ι h env, Rel G ι H h ∧ REn G ex ι H env σ ∧ Post G (fun ι H d v => RV G ι H d v) (fun c d H' => W c d σ H') ι H (m env h) Q
def rdA (G : Wo) (ex : Ex) (W : WX) (m : MA) : TA := fun σ H Q => ∃ ι h env, Rel G ι H h ∧ REn G ex ι H env σ ∧ Post G (fun ι H d v => RVs G ι H d v) (fun c d H' => W c d σ H') ι H (m env h) Q
def rdT (G : Wo) (ex : Ex) (W : WX) (m : MT) : TT := fun σ H Q => ∃ ι h env, Rel G ι H h ∧ REn G ex ι H env σ ∧ Post G BB (fun c d H' => W c d σ H') ι H (m env h) Q
def PostS (G : Wo) (ex : Ex) (W : WX) (ι : List Addr) (H : Hp) (r : SR) (D : Ends) : Prop :=
  match r with
  | .nx env h' => ∀ ι' H' σ', ι <+: ι' → Keep H H' → Rel G ι' H' h' → REn G ex ι' H' env σ' → D.nx σ' H'
  | .bk env h' => ∀ ι' H' σ', ι <+: ι' → Keep H H' → Rel G ι' H' h' → REn G ex ι' H' env σ' → D.bk σ' H'
  | .ct env h' => ∀ ι' H' σ', ι <+: ι' → Keep H H' → Rel G ι' H' h' → REn G ex ι' H' env σ' → D.ct σ' H'
  | .rt d h' => ∀ ι' H' v, ι <+: ι' → Keep H H' → Rel G ι' H' h' → RV G ι' H' d v → D.rt v H'
  | .exc x ns xs env h' => ∀ ι' H' σ' C d, ι <+: ι' → Keep H H' → Rel G ι' H' h' → REn G ex ι' H' env σ' → G.mg x = some (.ref C) → XF G ι' H' d ns xs → W (.ref C) d σ' H'
  | .stuck => False
theorem PostS.mono {G : Wo} {ex : Ex} {W : WX} {ι ι1 : List Addr} {H H1 : Hp} {r : SR} {D : Ends} (p : ι <+: ι1) (k : Keep H H1) (h : PostS G ex W ι H r D) : PostS G ex W ι1 H1 r D := by
  cases r with
  | nx env h' => exact fun ι' H' v p' k' => h ι' H' v (p.trans p') (k.trans k')
  | bk env h' => exact fun ι' H' v p' k' => h ι' H' v (p.trans p') (k.trans k')
  | ct env h' => exact fun ι' H' v p' k' => h ι' H' v (p.trans p') (k.trans k')
  | rt d h' => exact fun ι' H' v p' k' => h ι' H' v (p.trans p') (k.trans k')
  | exc x ns xs env h' => exact fun ι' H' σ' C d p' k' => h ι' H' σ' C d (p.trans p') (k.trans k')
  | stuck => exact h
def rdS (G : Wo) (ex : Ex) (W : WX) (m : MS) : TS := fun D σ H => ∃ ι h env, Rel G ι H h ∧ REn G ex ι H env σ ∧ PostS G ex W ι H (m env h) D

abbrev wo (X : Cx) : Wo := ⟨X.K, X.mg⟩
def FE (X : Cx) (W : WX) (ex : Ex) (e : Expr) (m : ME) : Prop := PE X e (rdE (wo X) ex W m)
def FA (X : Cx) (W : WX) (ex : Ex) (es : List Expr) (m : MA) : Prop := PA X es (rdA (wo X) ex W m)
def FT (X : Cx) (W : WX) (ex : Ex) (e : Expr) (m : MT) : Prop := PT X e (rdT (wo X) ex W m)
def FW (X : Cx) (W : WX) (ex : Ex) (e : Expr) (m : MT) : Prop := PW X e (rdT (wo X) ex W m)
def FS (X : Cx) (W : WX) (ex : Ex) (st : Stmt) (m : MS) : Prop := PS X st (rdS (wo X) ex W m)
def FSs (X : Cx) (W : WX) (ex : Ex) (st : List Stmt) (m : MS) : Prop := PSs X st (rdS (wo X) ex W m)

theorem PE.imp {X : Cx} {e : Expr} {t t' : TE} (p : PE X e t) (h : ∀ σ H Q, t' σ H Q → t σ H Q) : PE X e t' := ⟨fun pins s σ H Q I q => p.run pins s σ H Q I (h σ H Q q)⟩
theorem PA.imp {X : Cx} {e : List Expr} {t t' : TA} (p : PA X e t) (h : ∀ σ H Q, t' σ H Q → t σ H Q) : PA X e t' := ⟨fun po pins s σ H Q I q => p.run po pins s σ H Q I (h σ H Q q)⟩
theorem PT.imp {X : Cx} {e : Expr} {t t' : TT} (p : PT X e t) (h : ∀ σ H Q, t' σ H Q → t σ H Q) : PT X e t' := ⟨fun pins s σ H Q I q => p.run pins s σ H Q I (h σ H Q q)⟩
theorem PW.imp {X : Cx} {e : Expr} {t t' : TT} (p : PW X e t) (h : ∀ σ H Q, t' σ H Q → t σ H Q) : PW X e t' := ⟨fun wh pins s σ H Q I q => p.run wh pins s σ H Q I (h σ H Q q)⟩
theorem PS.imp {X : Cx} {e : Stmt} {t t' : TS} (p : PS X e t) (h : ∀ D σ H, t' D σ H → t D σ H) : PS X e t' := ⟨fun pins s σ H D I q => p.run pins s σ H D I (h D σ H q)⟩
theorem PSs.imp {X : Cx} {e : List Stmt} {t t' : TS} (p : PSs X e t) (h : ∀ D σ H, t' D σ H → t D σ H) : PSs X e t' := ⟨fun pins s σ H D I q => p.run pins s σ H D I (h D σ H q)⟩

/-- a part is run, then the rest: the end of a bind -/
theorem post_bind {α β α' β' : Type} {G : Wo} {B : List Addr → Hp → α → β → Prop} {B' : List Addr → Hp → α' → β' → Prop} {E : WX'} {ι : List Addr} {H : Hp} {r : Res α} {k : α → M → Res α'} {Q' : β' → Hp → Prop} {Q : β → Hp → Prop}
    (h : Post G B' E ι H (r.bind k) Q') (hk : ∀ d h1 ι1 H1 v, r = .ok d h1 → ι <+: ι1 → Keep H H1 → Rel G ι1 H1 h1 → B ι1 H1 d v → Post G B' E ι1 H1 (k d h1) Q' → Q v H1) : Post G B E ι H r Q := by
  cases r with
  | ok d h1 => exact fun ι1 H1 v p kk rel b => hk d h1 ι1 H1 v rfl p kk rel b (Post.mono p kk h)
  | exc x ns xs h1 => exact h
  | stuck => exact h
end LF
set_option Elab.async false
set_option linter.all false
set_option maxRecDepth 100000
set_option maxHeartbeats 4000000
/-! LF1: expressions. -/
namespace LF
open PySem PySem.Spec L2
open PyProof.Rows hiding St
section
variable {X : Cx} {W : WX} {ex : Ex} {e a b : Expr} {ma mb mc : ME} {pos : Pos}

/-! ### names, constants -/
def mVar (i : Nat) : ME := fun env h => match env[i]? with | some (.va d) => .ok d h | _ => .stuck
theorem fe_var {i : Nat} {x : Str} (hN : X.N[i]? = some x) (hv : Vis X.env.scope x) (hd : (x == ("__debug__" : Str)) = false) (hcd : (x == ("__classdict__" : Str)) = false) : FE X W ex (.Name x pos) (mVar i) := by
  refine PE.imp (pe_var hN hv hd hcd) fun σ H Q q => ?_
  obtain ⟨ι, h, env, rel, re, po⟩ := q
  unfold mVar at po
  split at po
  · rename_i d ed
    obtain ⟨v, e1, q⟩ := re.at_ i d ed
    exact ⟨v, e1, po ι H v (List.prefix_refl _) (Keep.refl _) rel q⟩
  · exact po.elim
theorem fv (i : Nat) {x : Str} (hN : X.N[i]? = some x := by rfl) (hv : Vis X.env.scope x := by first | exact Or.inl rfl | exact Or.inr (Or.inl rfl) | exact Or.inr (Or.inr rfl)) (hd : (x == ("__debug__" : Str)) = false := by decide)
    (hcd : (x == ("__classdict__" : Str)) = false := by decide) : FE X W ex (.Name x pos) (mVar i) := fe_var hN hv hd hcd
def mC (d : D) : ME := fun _ h => .ok d h
theorem fe_c {v : V} {d : D} (p : PE X e (tC v)) (r : ∀ ι H, RV (wo X) ι H d v) : FE X W ex e (mC d) := by
  refine PE.imp p fun σ H Q q => ?_
  obtain ⟨ι, h, env, rel, re, po⟩ := q
  exact po ι H v (List.prefix_refl _) (Keep.refl _) rel (r ι H)
theorem fe_int {i j} : FE X W ex (.Constant (.int i) j pos) (mC (.int i)) := fe_c pe_int fun _ _ => by simp [RV]
theorem fe_bl {i j} : FE X W ex (.Constant (.bool i) j pos) (mC (.bl i)) := fe_c pe_bl fun _ _ => by simp [RV]
theorem fe_str {i j} : FE X W ex (.Constant (.str i) j pos) (mC (.str i)) := fe_c pe_str fun _ _ => by simp [RV]
theorem fe_non {j} : FE X W ex (.Constant .none j pos) (mC .non) := fe_c pe_non fun _ _ => by simp [RV]
/-- a module's name: an int, a class -/
theorem fe_gint {x : Str} {i : Int} {t : Tok} (hm : X.mg x = some (.int i t)) (hg : Gl X x := by rfl) (hd : (x == ("__debug__" : Str)) = false := by decide) : FE X W ex (.Name x pos) (mC (.int i)) :=
  fe_c (pe_glob hg hm (v := .int i) ⟨t, rfl⟩ hd) fun _ _ => by simp [RV]
theorem fe_gstr {x z : Str} {t : Tok} (hm : X.mg x = some (.str z t)) (hg : Gl X x := by rfl) (hd : (x == ("__debug__" : Str)) = false := by decide) : FE X W ex (.Name x pos) (mC (.str z)) :=
  fe_c (pe_glob hg hm (v := .str z) ⟨t, rfl⟩ hd) fun _ _ => by simp [RV]
theorem fe_cls {x : Str} {C : Addr} (hm : X.mg x = some (.ref C)) (hg : Gl X x := by rfl) (hd : (x == ("__debug__" : Str)) = false := by decide) : FE X W ex (.Name x pos) (mC (.cls x)) :=
  fe_c (pe_glob hg hm (v := .ref C) rfl hd) fun _ _ => by simp only [RV]; exact ⟨C, rfl, hm⟩
theorem fe_ty {x : Str} {n : String} (hm : X.mg x = none) (hv : bootBuiltins x = some (.type n)) (hg : Gl X x := by rfl) (hn : x ≠ "__name__" := by decide) (hd : (x == ("__debug__" : Str)) = false := by decide) : FE X W ex (.Name x pos) (mC (.ty n)) :=
  fe_c (pe_bltn (v := .ty n) hg hm hv rfl hn hd) fun _ _ => by simp [RV]
/-- a value of the module's that stands in the written part -/
theorem fe_gref {x : Str} {p : Addr} {d : D} (hm : X.mg x = some (.ref p)) (r : ∀ ι H, RV (wo X) ι H d (.ref p)) (hg : Gl X x := by rfl) (hd : (x == ("__debug__" : Str)) = false := by decide) : FE X W ex (.Name x pos) (mC d) :=
  fe_c (pe_glob hg hm (v := .ref p) rfl hd) r

/-! ### two parts, one -/
def m2 (f : D → D → M → Res D) (ma mb : ME) : ME := fun env h => (ma env h).bind fun x h1 => (mb env h1).bind fun y h2 => f x y h2
def m1 (f : D → M → Res D) (ma : ME) : ME := fun env h => (ma env h).bind fun x h1 => f x h1
/-- what an operator asks is met by f -/
def Ab2 (G : Wo) (r : R2) (f : D → D → M → Res D) : Prop := ∀ (E : WX') ι H h x y v u (Q : VK), Rel G ι H h → RV G ι H x v → RV G ι H y u → Post G (fun ι H d v => RV G ι H d v) E ι H (f x y h) Q → r v u H Q
def Ab1 (G : Wo) (r : V → Hp → VK → Prop) (f : D → M → Res D) : Prop := ∀ (E : WX') ι H h x v (Q : VK), Rel G ι H h → RV G ι H x v → Post G (fun ι H d v => RV G ι H d v) E ι H (f x h) Q → r v H Q
def AbL (G : Wo) (r : List V → Hp → VK → Prop) (f : List D → M → Res D) : Prop := ∀ (E : WX') ι H h x v (Q : VK), Rel G ι H h → RVs G ι H x v → Post G (fun ι H d v => RV G ι H d v) E ι H (f x h) Q → r v H Q
theorem rd_op {r : R2} {f : D → D → M → Res D} {G : Wo} (hf : Ab2 G r f) {σ : St} {H : Hp} {Q : VK} (q : rdE G ex W (m2 f ma mb) σ H Q) : tOp r (rdE G ex W ma) (rdE G ex W mb) σ H Q := by
  obtain ⟨ι, h, env, rel, re, po⟩ := q
  refine ⟨ι, h, env, rel, re, post_bind po fun x h1 ι1 H1 v _ p1 k1 rel1 rv1 po1 => ?_⟩
  refine ⟨ι1, h1, env, rel1, re.mono p1 k1, post_bind po1 fun y h2 ι2 H2 u _ p2 k2 rel2 rv2 po2 => ?_⟩
  exact hf _ ι2 H2 h2 x y v u Q rel2 (RV.mono p2 k2 _ _ rv1) rv2 po2
theorem fe_op {op : Operator} {r : R2} {f : D → D → M → Res D} (ho : OpR X (binaryOp op) r) (hf : Ab2 (wo X) r f) (ha : FE X W ex a ma) (hb : FE X W ex b mb) : FE X W ex (.BinOp a op b pos) (m2 f ma mb) :=
  PE.imp (pe_op ho ha hb) fun _ _ _ q => rd_op hf q
/-- a comparison, by what it asks -/
def FC (X : Cx) (W : WX) (ex : Ex) (op : CmpOp) (a b : Expr) (m : ME) : Prop := PC X op a b (rdE (wo X) ex W m)
theorem PC.imp {op : CmpOp} {t t' : TE} (p : PC X op a b t) (h : ∀ σ H Q, t' σ H Q → t σ H Q) : PC X op a b t' := ⟨fun pins s σ H Q I q => p.run pins s σ H Q I (h σ H Q q)⟩
theorem PC.or {op : CmpOp} {t t' : TE} (p : PC X op a b t) (p' : PC X op a b t') : PC X op a b (fun σ H Q => t σ H Q ∨ t' σ H Q) := ⟨fun pins s σ H Q I h => by
  rcases h with h | h
  · exact p.run pins s σ H Q I h
  · exact p'.run pins s σ H Q I h⟩
theorem pc_of {op : CmpOp} {r : R2} {ta tb : TE} (ho : OpR X (compareOp op) r) (ha : PE X a ta) (hb : PE X b tb) : PC X op a b (tOp r ta tb) :=
  ⟨fun pins s σ H Q I h => bin ha hb I h fun v u s2 x y H2 I2 rx ry q => ho pins s2 σ H2 x y v u Q I2 rx ry q⟩
theorem fc_op {op : CmpOp} {r : R2} {f : D → D → M → Res D} (ho : OpR X (compareOp op) r) (hf : Ab2 (wo X) r f) (ha : FE X W ex a ma) (hb : FE X W ex b mb) : FC X W ex op a b (m2 f ma mb) :=
  PC.imp (pc_of ho ha hb) fun _ _ _ q => rd_op hf q
theorem fe_c1 {op : CmpOp} {m : ME} (h : FC X W ex op a b m) (hm : behindInMarks op b = false := by first | exact nobehind _ (by decide) (by decide) | rfl) : FE X W ex (.Compare a [op] [b] pos) m := pe_cmp h hm
/-- what an operator asks at two values is met by f -/
def At2 (G : Wo) (r : R2) (f : D → D → M → Res D) (x y : D) (h : M) : Prop := ∀ (E : WX') ι H v u (Q : VK), Rel G ι H h → RV G ι H x v → RV G ι H y u → Post G (fun ι H d v => RV G ι H d v) E ι H (f x y h) Q → r v u H Q
/-- two ways, told apart by the values -/
theorem rd_op_or {r r' : R2} {f : D → D → M → Res D} {G : Wo} (hf : ∀ x y h, At2 G r f x y h ∨ At2 G r' f x y h) {σ : St} {H : Hp} {Q : VK} (q : rdE G ex W (m2 f ma mb) σ H Q) :
    tOp r (rdE G ex W ma) (rdE G ex W mb) σ H Q ∨ tOp r' (rdE G ex W ma) (rdE G ex W mb) σ H Q := by
  obtain ⟨ι, h, env, rel, re, po⟩ := q
  unfold m2 at po
  cases ea : ma env h with
  | stuck => rw [ea] at po; exact po.elim
  | exc x ns vs h1 =>
    rw [ea] at po
    exact .inl ⟨ι, h, env, rel, re, by rw [ea]; exact po⟩
  | ok x h1 =>
    rw [ea] at po
    simp only [bind_ok] at po
    cases eb : mb env h1 with
    | stuck => rw [eb] at po; exact po.elim
    | exc x' ns vs h2 =>
      rw [eb] at po
      refine .inl ⟨ι, h, env, rel, re, ?_⟩
      rw [ea]
      intro ι1 H1 v p1 k1 rel1 rv1
      refine ⟨ι1, h1, env, rel1, re.mono p1 k1, ?_⟩
      rw [eb]
      exact Post.mono p1 k1 po
    | ok y h2 =>
      rw [eb] at po
      simp only [bind_ok] at po
      have run : ∀ (R : R2), At2 G R f x y h2 → tOp R (rdE G ex W ma) (rdE G ex W mb) σ H Q := fun R hR => by
        refine ⟨ι, h, env, rel, re, ?_⟩
        rw [ea]
        intro ι1 H1 v p1 k1 rel1 rv1
        refine ⟨ι1, h1, env, rel1, re.mono p1 k1, ?_⟩
        rw [eb]
        intro ι2 H2 u p2 k2 rel2 rv2
        exact hR _ ι2 H2 v u Q rel2 (RV.mono p2 k2 _ _ rv1) rv2 (Post.mono (p1.trans p2) (k1.trans k2) po)
      rcases hf x y h2 with z | z
      · exact .inl (run _ z)
      · exact .inr (run _ z)
theorem rd_un {r : V → Hp → VK → Prop} {f : D → M → Res D} {G : Wo} (hf : Ab1 G r f) {σ : St} {H : Hp} {Q : VK} (q : rdE G ex W (m1 f ma) σ H Q) : tUn r (rdE G ex W ma) σ H Q := by
  obtain ⟨ι, h, env, rel, re, po⟩ := q
  refine ⟨ι, h, env, rel, re, post_bind po fun x h1 ι1 H1 v _ p1 k1 rel1 rv1 po1 => ?_⟩
  exact hf _ ι1 H1 h1 x v Q rel1 rv1 po1
theorem fe_un {op : UnaryOp} {r : V → Hp → VK → Prop} {f : D → M → Res D} (ho : UnR X (unaryOp op) r) (hf : Ab1 (wo X) r f) (ha : FE X W ex a ma) : FE X W ex (.UnaryOp op a pos) (m1 f ma) :=
  PE.imp (pe_un ho ha) fun _ _ _ q => rd_un hf q

/-! ### ends of an operator -/
theorem po_ok {α β : Type} {G : Wo} {B : List Addr → Hp → α → β → Prop} {E : WX'} {ι : List Addr} {H : Hp} {h : M} {d : α} {v : β} {Q : β → Hp → Prop} (rel : Rel G ι H h) (b : B ι H d v) (po : Post G B E ι H (.ok d h) Q) : Q v H :=
  po ι H v (List.prefix_refl _) (Keep.refl _) rel b
/-- a new list -/
theorem po_lst {G : Wo} {E : WX'} {ι : List Addr} {H : Hp} {h : M} {xs : List D} {vs : List V} {Q : VK} (rel : Rel G ι H h) (b : RVs G ι H xs vs) (po : Post G (fun ι H d v => RV G ι H d v) E ι H (.ok (.loc h.length) (h ++ [.lst xs])) Q)
    (p : Addr) (hp : H p = none) : Q (.ref p) (upd H p (.lst vs)) := by
  have pre : ι <+: ι ++ [p] := List.prefix_append ..
  have k : Keep H (upd H p (.lst vs)) := Keep.of_same (same_upd hp)
  refine po (ι ++ [p]) _ (.ref p) pre k (rel.push hp ⟨vs, upd_same, RVs.mono pre k _ _ b⟩) ?_
  simp only [RV]
  exact ⟨p, rfl, by rw [← rel.len]; simp⟩
/-- a new tuple -/
theorem po_tup {G : Wo} {E : WX'} {ι : List Addr} {H : Hp} {h : M} {xs : List D} {vs : List V} {Q : VK} (rel : Rel G ι H h) (b : RVs G ι H xs vs) (po : Post G (fun ι H d v => RV G ι H d v) E ι H (.ok (.tup xs) h) Q)
    (p : Addr) (hp : H p = none) : Q (.ref p) (upd H p (.tup vs)) := by
  have k : Keep H (upd H p (.tup vs)) := Keep.of_same (same_upd hp)
  refine po ι _ (.ref p) (List.prefix_refl _) k (rel.same (same_upd hp)) ?_
  simp only [RV]
  exact ⟨p, vs, rfl, upd_same, RVs.mono (List.prefix_refl _) k _ _ b⟩
/-- what stands at a place -/
theorem at_lst {G : Wo} {ι : List Addr} {H : Hp} {h : M} {l : Nat} {v : V} {xs : List D} (rel : Rel G ι H h) (rv : RV G ι H (.loc l) v) (e : h[l]? = some (.lst xs)) : ∃ a vs, v = .ref a ∧ ι[l]? = some a ∧ H a = some (.lst vs) ∧ RVs G ι H xs vs := by
  simp only [RV] at rv
  obtain ⟨a, rfl, ea⟩ := rv
  obtain ⟨vs, e1, r⟩ := rel.at e ea
  exact ⟨a, vs, rfl, ea, e1, r⟩
theorem at_dK {G : Wo} {ι : List Addr} {H : Hp} {h : M} {l : Nat} {v : V} {xs : List (Key × D)} (rel : Rel G ι H h) (rv : RV G ι H (.loc l) v) (e : h[l]? = some (.dK xs)) : ∃ a vs, v = .ref a ∧ ι[l]? = some a ∧ H a = some (.dK vs) ∧ RKs G ι H xs vs := by
  simp only [RV] at rv
  obtain ⟨a, rfl, ea⟩ := rv
  obtain ⟨vs, e1, r⟩ := rel.at e ea
  exact ⟨a, vs, rfl, ea, e1, r⟩
theorem at_dT {G : Wo} {ι : List Addr} {H : Hp} {h : M} {l : Nat} {v : V} {xs : List (List Key × D)} (rel : Rel G ι H h) (rv : RV G ι H (.loc l) v) (e : h[l]? = some (.dT xs)) : ∃ a vs, v = .ref a ∧ ι[l]? = some a ∧ H a = some (.dT vs) ∧ RKs G ι H xs vs := by
  simp only [RV] at rv
  obtain ⟨a, rfl, ea⟩ := rv
  obtain ⟨vs, e1, r⟩ := rel.at e ea
  exact ⟨a, vs, rfl, ea, e1, r⟩
theorem at_ins {G : Wo} {ι : List Addr} {H : Hp} {h : M} {l : Nat} {v : V} {x : Str} {fs : List (Str × D)} (rel : Rel G ι H h) (rv : RV G ι H (.loc l) v) (e : h[l]? = some (.ins x fs)) :
    ∃ a C dx vs, v = .ref a ∧ ι[l]? = some a ∧ G.mg x = some (.ref C) ∧ H a = some (.ins C dx vs) ∧ RKs G ι H fs vs := by
  simp only [RV] at rv
  obtain ⟨a, rfl, ea⟩ := rv
  obtain ⟨C, dx, vs, g, e1, r⟩ := rel.at e ea
  exact ⟨a, C, dx, vs, rfl, ea, g, e1, r⟩
/-- the items of a list: one of the machine's, a constant one -/
def lstOf (h : M) : D → Option (List D)
  | .loc l => match h[l]? with | some (.lst xs) => some xs | _ => none
  | .cl xs => some xs
  | _ => none
theorem lstOf_sq {G : Wo} {ι : List Addr} {H : Hp} {h : M} {d : D} {v : V} {xs : List D} (rel : Rel G ι H h) (rv : RV G ι H d v) (e : lstOf h d = some xs) : ∃ a vs, v = .ref a ∧ SqL G.K H a vs ∧ RVs G ι H xs vs := by
  cases d with
  | loc l =>
    simp only [lstOf] at e
    split at e
    · rename_i ys e1
      cases e
      obtain ⟨a, vs, rfl, _, e2, r⟩ := at_lst rel rv e1
      exact ⟨a, vs, rfl, SqL.of e2, r⟩
    · cases e
  | cl ys =>
    simp only [lstOf] at e
    cases e
    simp only [RV] at rv
    obtain ⟨a, vs, rfl, q, r⟩ := rv
    exact ⟨a, vs, rfl, q.sq, r⟩
  | _ => simp [lstOf] at e
@[simp] theorem lstOf_cl {h : M} {xs : List D} : lstOf h (.cl xs) = some xs := (rfl)
theorem lstOf_loc {h : M} {l : Nat} {xs : List D} (e : h[l]? = some (.lst xs)) : lstOf h (.loc l) = some xs := by simp only [lstOf, e]

/-- the items of a tuple: one of the run's, a constant one -/
def tupOf : D → Option (List D)
  | .tup xs => some xs
  | .ct xs => some xs
  | _ => none
theorem tupOf_sq {G : Wo} {ι : List Addr} {H : Hp} {d : D} {v : V} {xs : List D} (rv : RV G ι H d v) (e : tupOf d = some xs) : ∃ a vs, v = .ref a ∧ SqT G.K H a vs ∧ RVs G ι H xs vs := by
  cases d with
  | tup ys =>
    simp only [tupOf] at e
    cases e
    simp only [RV] at rv
    obtain ⟨a, vs, rfl, q, r⟩ := rv
    exact ⟨a, vs, rfl, SqT.of q, r⟩
  | ct ys =>
    simp only [tupOf] at e
    cases e
    simp only [RV] at rv
    obtain ⟨a, vs, rfl, q, r⟩ := rv
    exact ⟨a, vs, rfl, .inr q, r⟩
  | _ => simp [tupOf] at e
@[simp] theorem tupOf_tup {xs : List D} : tupOf (.tup xs) = some xs := (rfl)
@[simp] theorem tupOf_ct {xs : List D} : tupOf (.ct xs) = some xs := (rfl)

/-! ### arithmetic -/
def fAdd : D → D → M → Res D
  | .int i, .int j, h => .ok (.int (i + j)) h
  | .str i, .str j, h => if i.length + j.length ≤ sizeLine then .ok (.str (i ++ j)) h else .stuck
  | .loc a, .loc b, h => match h[a]?, h[b]? with
    | some (.lst xs), some (.lst ys) => if xs.length + ys.length ≤ sizeLine then .ok (.loc h.length) (h ++ [.lst (xs ++ ys)]) else .stuck
    | _, _ => .stuck
  | .tup xs, .tup ys, h => if xs.length + ys.length ≤ sizeLine ∧ xs ≠ [] then .ok (.tup (xs ++ ys)) h else .stuck
  | .int i, .bl k, h => .ok (.int (i + b2i k)) h
  | _, _, _ => .stuck

theorem fe_add (ha : FE X W ex a ma) (hb : FE X W ex b mb) : FE X W ex (.BinOp a .Add b pos) (m2 fAdd ma mb) := by
  refine fe_op (op_add.or (op_add_str.or (op_cat.or (op_catT.or op_add_ib)))) (fun E ι H h x y v u Q rel rx ry po => ?_) ha hb
  cases x <;> cases y <;> (try exact po.elim)
  case int.int i j =>
    simp only [RV] at rx ry
    subst rx; subst ry
    exact .inl ⟨i, j, rfl, rfl, po_ok rel (by simp [RV]) po⟩
  case int.bl i k =>
    simp only [RV] at rx ry
    subst rx; subst ry
    exact .inr (.inr (.inr (.inr ⟨i, k, rfl, rfl, po_ok rel (by simp [RV]) po⟩)))
  case str.str i j =>
    simp only [RV] at rx ry
    subst rx; subst ry
    simp only [fAdd] at po
    split at po
    · rename_i hz
      exact .inr (.inl ⟨i, j, rfl, rfl, hz, po_ok rel (by simp [RV]) po⟩)
    · exact po.elim
  case tup.tup xs ys =>
    simp only [fAdd] at po
    split at po
    · rename_i hz
      simp only [RV] at rx ry
      obtain ⟨a, vs, rfl, s1, r1⟩ := rx
      obtain ⟨b, ws, rfl, s2, r2⟩ := ry
      have l1 := RVs.length r1
      have l2 := RVs.length r2
      refine .inr (.inr (.inr (.inl ⟨a, b, vs, ws, rfl, rfl, SqT.of s1, SqT.of s2, fun z => hz.2 (by subst z; simpa using l1), by omega, fun z => ?_, fun z p hp => po_tup rel (r1.append r2) po p hp⟩)))
      subst z
      have : ys = [] := by simpa using l2
      subst this
      rw [List.append_nil] at po
      exact po_ok rel (by simp only [RV]; exact ⟨a, vs, rfl, s1, r1⟩) po
    · exact po.elim
  case loc.loc l k =>
    simp only [fAdd] at po
    split at po
    · rename_i xs ys e1 e2
      split at po
      · rename_i hz
        obtain ⟨a, vs, rfl, _, q1, r1⟩ := at_lst rel rx e1
        obtain ⟨b, ws, rfl, _, q2, r2⟩ := at_lst rel ry e2
        have l1 := RVs.length r1
        have l2 := RVs.length r2
        exact .inr (.inr (.inl ⟨a, b, vs, ws, rfl, rfl, q1, q2, by omega, fun p hp => po_lst rel (r1.append r2) po p hp⟩))
      · exact po.elim
    · exact po.elim
/-- two ints to a value -/
def fI (C : Int → Int → Prop) [∀ i j, Decidable (C i j)] (g : Int → Int → D) : D → D → M → Res D
  | .int i, .int j, h => if C i j then .ok (g i j) h else .stuck
  | _, _, _ => .stuck
theorem ab_I {G : Wo} {C : Int → Int → Prop} [∀ i j, Decidable (C i j)] {g : Int → Int → V} {g' : Int → Int → D} (hg : ∀ i j ι H, RV G ι H (g' i j) (g i j)) : Ab2 G (rI C g) (fI C g') := by
  intro E ι H h x y v u Q rel rx ry po
  cases x <;> cases y <;> (try exact po.elim)
  simp only [fI] at po
  split at po
  · rename_i i j hc
    simp only [RV] at rx ry
    subst rx; subst ry
    exact ⟨i, j, rfl, rfl, hc, po_ok rel (hg i j _ _) po⟩
  · exact po.elim
theorem ab_I0 {G : Wo} {g : Int → Int → V} {g' : Int → Int → D} (hg : ∀ i j ι H, RV G ι H (g' i j) (g i j)) : Ab2 G (rI0 g) (fI (fun _ _ => True) g') := by
  intro E ι H h x y v u Q rel rx ry po
  cases x <;> cases y <;> (try exact po.elim)
  simp only [fI, if_true] at po
  simp only [RV] at rx ry
  subst rx; subst ry
  exact ⟨_, _, rfl, rfl, po_ok rel (hg _ _ _ _) po⟩
def fSub := fI (fun _ _ => True) fun i j => .int (i - j)
theorem fe_sub (ha : FE X W ex a ma) (hb : FE X W ex b mb) : FE X W ex (.BinOp a .Sub b pos) (m2 fSub ma mb) := fe_op op_sub (ab_I0 fun _ _ _ _ => by simp [RV]) ha hb
instance (i j : Int) : Decidable (CMulW i j) := by unfold CMulW; infer_instance
instance (i j : Int) : Decidable (CDivW i j) := by unfold CDivW; infer_instance
instance (i j : Int) : Decidable (CPow i j) := by unfold CPow; infer_instance
def fMul : D → D → M → Res D
  | .int i, .int j, h => if CMulW i j then .ok (.int (i * j)) h else .stuck
  | .loc l, .int k, h => match h[l]? with
    | some (.lst xs) => if -(2 ^ 63) ≤ k ∧ k < 2 ^ 63 ∧ xs.length * k.toNat ≤ sizeLine then .ok (.loc h.length) (h ++ [.lst (List.replicate k.toNat xs).flatten]) else .stuck
    | _ => .stuck
  | _, _, _ => .stuck
theorem RVs.rep {G : Wo} {ι : List Addr} {H : Hp} {xs : List D} {vs : List V} (r : RVs G ι H xs vs) : ∀ n : Nat, RVs G ι H (List.replicate n xs).flatten (List.replicate n vs).flatten
  | 0 => by simp [RVs]
  | n + 1 => by
    simp only [List.replicate_succ, List.flatten_cons]
    exact r.append (RVs.rep r n)
theorem fe_mul (ha : FE X W ex a ma) (hb : FE X W ex b mb) : FE X W ex (.BinOp a .Mult b pos) (m2 fMul ma mb) := by
  refine fe_op (op_mulW.or op_rep) (fun E ι H h x y v u Q rel rx ry po => ?_) ha hb
  cases x <;> cases y <;> (try exact po.elim)
  case int.int i j =>
    simp only [fMul] at po
    split at po
    · rename_i hc
      simp only [RV] at rx ry
      subst rx; subst ry
      exact .inl ⟨i, j, rfl, rfl, hc, po_ok rel (by simp [RV]) po⟩
    · exact po.elim
  case loc.int l k =>
    simp only [fMul] at po
    split at po
    · rename_i xs e1
      split at po
      · rename_i hz
        obtain ⟨a, vs, rfl, _, q1, r1⟩ := at_lst rel rx e1
        have l1 := RVs.length r1
        simp only [RV] at ry
        subst ry
        exact .inr ⟨a, k, vs, rfl, rfl, q1, hz.1, hz.2.1, by rw [← l1]; exact hz.2.2, fun p hp => po_lst rel (r1.rep _) po p hp⟩
      · exact po.elim
    · exact po.elim
def fDiv := fI CDivW fun i j => .int (i / j)
theorem fe_div (ha : FE X W ex a ma) (hb : FE X W ex b mb) : FE X W ex (.BinOp a .FloorDiv b pos) (m2 fDiv ma mb) := fe_op op_fdivW (ab_I fun _ _ _ _ => by simp [RV]) ha hb
def fMod := fI (fun _ j => 0 < j) fun i j => .int (i % j)
theorem fe_mod (ha : FE X W ex a ma) (hb : FE X W ex b mb) : FE X W ex (.BinOp a .Mod b pos) (m2 fMod ma mb) := fe_op op_mod (ab_I fun _ _ _ _ => by simp [RV]) ha hb
def fPow := fI CPow fun i j => .int (i ^ j.toNat)
theorem fe_pow (ha : FE X W ex a ma) (hb : FE X W ex b mb) : FE X W ex (.BinOp a .Pow b pos) (m2 fPow ma mb) := fe_op op_pow (ab_I fun _ _ _ _ => by simp [RV]) ha hb
def fShr := fI (fun _ j => 0 ≤ j) fun i j => .int (i / 2 ^ j.toNat)
theorem fe_shr (ha : FE X W ex a ma) (hb : FE X W ex b mb) : FE X W ex (.BinOp a .RShift b pos) (m2 fShr ma mb) := fe_op op_shr (ab_I fun _ _ _ _ => by simp [RV]) ha hb
def fShl := fI CPow fun i j => .int (i * 2 ^ j.toNat)
theorem fe_shl (ha : FE X W ex a ma) (hb : FE X W ex b mb) : FE X W ex (.BinOp a .LShift b pos) (m2 fShl ma mb) := fe_op op_shl (ab_I fun _ _ _ _ => by simp [RV]) ha hb
def fAnd := fI (fun _ _ => True) fun i j => .int (Builtin.bitAnd i j)
theorem fe_band (ha : FE X W ex a ma) (hb : FE X W ex b mb) : FE X W ex (.BinOp a .BitAnd b pos) (m2 fAnd ma mb) := fe_op op_and (ab_I0 fun _ _ _ _ => by simp [RV]) ha hb
def fNeg : D → M → Res D
  | .int i, h => .ok (.int (-i)) h
  | _, _ => .stuck
theorem fe_neg (ha : FE X W ex a ma) : FE X W ex (.UnaryOp .USub a pos) (m1 fNeg ma) := by
  refine fe_un un_neg (fun E ι H h x v Q rel rx po => ?_) ha
  cases x <;> (try exact po.elim)
  simp only [RV] at rx
  subst rx
  exact ⟨_, rfl, po_ok rel (by simp [RV]) po⟩
/-! ### order of ints -/
def fLt := fI (fun _ _ => True) fun i j => .bl (decide (i < j))
def fLe := fI (fun _ _ => True) fun i j => .bl (decide (i ≤ j))
def fGt := fI (fun _ _ => True) fun i j => .bl (decide (j < i))
def fGe := fI (fun _ _ => True) fun i j => .bl (decide (j ≤ i))
theorem fc_lt (ha : FE X W ex a ma) (hb : FE X W ex b mb) : FC X W ex .Lt a b (m2 fLt ma mb) := fc_op op_lt (ab_I0 fun _ _ _ _ => by simp [RV]) ha hb
theorem fc_le (ha : FE X W ex a ma) (hb : FE X W ex b mb) : FC X W ex .LtE a b (m2 fLe ma mb) := fc_op op_le (ab_I0 fun _ _ _ _ => by simp [RV]) ha hb
theorem fc_gt (ha : FE X W ex a ma) (hb : FE X W ex b mb) : FC X W ex .Gt a b (m2 fGt ma mb) := fc_op op_gt (ab_I0 fun _ _ _ _ => by simp [RV]) ha hb
theorem fc_ge (ha : FE X W ex a ma) (hb : FE X W ex b mb) : FC X W ex .GtE a b (m2 fGe ma mb) := fc_op op_ge (ab_I0 fun _ _ _ _ => by simp [RV]) ha hb
end
end LF
set_option Elab.async false
set_option linter.all false
set_option maxRecDepth 100000
set_option maxHeartbeats 4000000
/-! LF2: equality, tests, displays, calls of built-ins, subscripts, slices. -/
namespace LF
open PySem PySem.Spec L2
open PyProof.Rows hiding St
section
variable {X : Cx} {W : WX} {ex : Ex} {e a b : Expr} {ma mb mc : ME} {pos : Pos}

/-! ### equality -/
/-- the plain data that a value stands for -/
def toPy (h : M) : Nat → D → Option PyData
  | _, .non => some .none
  | _, .bl b => some (.bool b)
  | _, .int i => some (.int i)
  | _, .str x => some (.str x)
  | n + 1, .tup xs => (xs.mapM (toPy h n)).map .tuple
  | n + 1, .ct xs => (xs.mapM (toPy h n)).map .tuple
  | n + 1, .cl xs => (xs.mapM (toPy h n)).map .list
  | n + 1, .loc l => match h[l]? with
    | some (.lst xs) => (xs.mapM (toPy h n)).map .list
    | _ => none
  | _, _ => none
theorem toPy_ok {G : Wo} {ι : List Addr} {H : Hp} {h : M} (rel : Rel G ι H h) : ∀ (n : Nat) (d : D) (v : V) (p : PyData), RV G ι H d v → toPy h n d = some p → Dp G.K H v p := by
  intro n
  induction n with
  | zero =>
    intro d v p r e
    cases d <;> simp only [toPy, reduceCtorEq] at e <;> (cases e; simp only [RV] at r; subst r)
    · exact .non
    · exact .bl _
    · exact .int _
    · exact .str _
  | succ n ih =>
    have all : ∀ (xs : List D) (vs : List V) (ps : List PyData), RVs G ι H xs vs → xs.mapM (toPy h n) = some ps → DpAll G.K H vs ps := by
      intro xs
      induction xs with
      | nil =>
        intro vs ps r e
        simp only [RVs] at r; subst r
        simp at e; subst e
        exact .nil
      | cons x xs ihx =>
        intro vs ps r e
        simp only [RVs] at r
        obtain ⟨v, q, rfl, r1, r2⟩ := r
        simp only [List.mapM_cons, bind, Option.bind_eq_some_iff, pure, Option.some.injEq] at e
        obtain ⟨p, e1, ps', e2, rfl⟩ := e
        exact .cons (ih x v p r1 e1) (ihx _ _ r2 e2)
    intro d v p r e
    cases d with
    | non => simp only [toPy] at e; cases e; simp only [RV] at r; subst r; exact .non
    | bl _ => simp only [toPy] at e; cases e; simp only [RV] at r; subst r; exact .bl _
    | int _ => simp only [toPy] at e; cases e; simp only [RV] at r; subst r; exact .int _
    | str _ => simp only [toPy] at e; cases e; simp only [RV] at r; subst r; exact .str _
    | tup xs =>
      simp only [toPy, Option.map_eq_some_iff] at e
      obtain ⟨ps, e1, rfl⟩ := e
      simp only [RV] at r
      obtain ⟨a, vs, rfl, s, r⟩ := r
      exact .tup (SqT.of s) (all _ _ _ r e1)
    | ct xs =>
      simp only [toPy, Option.map_eq_some_iff] at e
      obtain ⟨ps, e1, rfl⟩ := e
      simp only [RV] at r
      obtain ⟨a, vs, rfl, s, r⟩ := r
      exact .tup (.inr s) (all _ _ _ r e1)
    | cl xs =>
      simp only [toPy, Option.map_eq_some_iff] at e
      obtain ⟨ps, e1, rfl⟩ := e
      simp only [RV] at r
      obtain ⟨a, vs, rfl, s, r⟩ := r
      exact .lst s.sq (all _ _ _ r e1)
    | loc l =>
      simp only [toPy] at e
      split at e
      · rename_i xs e0
        simp only [Option.map_eq_some_iff] at e
        obtain ⟨ps, e1, rfl⟩ := e
        obtain ⟨a, vs, rfl, _, q, r⟩ := at_lst rel r e0
        exact .lst (SqL.of q) (all _ _ _ r e1)
      · cases e
    | _ => simp [toPy] at e
/-- scalars that compare by themselves -/
def scalD : D → D → Option Bool
  | .non, .non => some true
  | .int i, .int j => some (decide (i = j))
  | .bl i, .bl j => some (decide (i = j))
  | .str i, .str j => some (decide (i = j))
  | .non, .int _ => some false
  | .int _, .non => some false
  | .non, .bl _ => some false
  | .bl _, .non => some false
  | .non, .str _ => some false
  | .str _, .non => some false
  | .int _, .str _ => some false
  | .str _, .int _ => some false
  | .bl _, .str _ => some false
  | .str _, .bl _ => some false
  | _, _ => none
def eqD (x y : D) (h : M) : Option Bool :=
  match scalD x y with
  | some b => some b
  | none => match toPy h 50 x, toPy h 50 y with
    | some p, some q => if SeqAt.shaped p = true ∧ SeqAt.shaped q = true then some (PyData.eqv p q) else none
    | _, _ => none
def fEq (x y : D) (h : M) : Res D := match eqD x y h with | some b => .ok (.bl b) h | none => .stuck
def fNe (x y : D) (h : M) : Res D := match eqD x y h with | some b => .ok (.bl (!b)) h | none => .stuck
theorem scalD_ok {G : Wo} {ι : List Addr} {H : Hp} {x y : D} {v u : V} {b : Bool} (rx : RV G ι H x v) (ry : RV G ι H y u) (e : scalD x y = some b) : scal v u = true ∧ decide (v = u) = b := by
  cases x <;> cases y <;> simp only [scalD, Option.some.injEq, reduceCtorEq] at e <;> (simp only [RV] at rx ry; subst rx; subst ry; subst e; simp [scal])
theorem eqD_ok {G : Wo} {ι : List Addr} {H : Hp} {h : M} {x y : D} {v u : V} {b : Bool} (rel : Rel G ι H h) (rx : RV G ι H x v) (ry : RV G ι H y u) (e : eqD x y h = some b) :
    (scal v u = true ∧ decide (v = u) = b) ∨ ∃ d f, Dp G.K H v d ∧ Dp G.K H u f ∧ SeqAt.shaped d = true ∧ SeqAt.shaped f = true ∧ PyData.eqv d f = b := by
  unfold eqD at e
  split at e
  · rename_i c e1
    cases e
    exact .inl (scalD_ok rx ry e1)
  · split at e
    · rename_i p q e2 e3
      split at e
      · rename_i hs
        cases e
        exact .inr ⟨p, q, toPy_ok rel _ _ _ _ rx e2, toPy_ok rel _ _ _ _ ry e3, hs.1, hs.2, rfl⟩
      · cases e
    · cases e
theorem hu64 {k : Nat} {A : Around} (r : L2H.RoomH k A) : A.units + 64 < cLine := by have := r.un; omega
theorem hu1 {k : Nat} {A : Around} (r : L2H.RoomH k A) : A.units + 1 < cLine := by have := r.un; omega
theorem fc_eq {k : Nat} (hr : L2H.RoomH k X.A) (ha : FE X W ex a ma) (hb : FE X W ex b mb) : FC X W ex .Eq a b (m2 fEq ma mb) := by
  refine fc_op (op_eq.or (op_eqD (hu64 hr))) (fun E ι H h x y v u Q rel rx ry po => ?_) ha hb
  unfold fEq at po
  split at po
  · rename_i b e
    rcases eqD_ok rel rx ry e with ⟨s, d⟩ | ⟨d, f, h1, h2, h3, h4, h5⟩
    · exact .inl ⟨s, by rw [d]; exact po_ok rel (by simp [RV]) po⟩
    · exact .inr ⟨d, f, h1, h2, h3, h4, by rw [h5]; exact po_ok rel (by simp [RV]) po⟩
  · exact po.elim
theorem fc_ne {k : Nat} (hr : L2H.RoomH k X.A) (ha : FE X W ex a ma) (hb : FE X W ex b mb) : FC X W ex .NotEq a b (m2 fNe ma mb) := by
  refine fc_op (op_ne.or (op_neD (hu64 hr))) (fun E ι H h x y v u Q rel rx ry po => ?_) ha hb
  unfold fNe at po
  split at po
  · rename_i b e
    rcases eqD_ok rel rx ry e with ⟨s, d⟩ | ⟨d, f, h1, h2, h3, h4, h5⟩
    · exact .inl ⟨s, by rw [d]; exact po_ok rel (by simp [RV]) po⟩
    · exact .inr ⟨d, f, h1, h2, h3, h4, by rw [h5]; exact po_ok rel (by simp [RV]) po⟩
  · exact po.elim
/-- is None -/
def isN : D → Bool
  | .non => true
  | _ => false
theorem isN_ok {G : Wo} {ι : List Addr} {H : Hp} {x : D} {v : V} (rx : RV G ι H x v) : decide (v = .non) = isN x := by
  cases x <;> simp only [RV] at rx
  case non => subst rx; rfl
  case bl => subst rx; rfl
  case int => subst rx; rfl
  case str => subst rx; rfl
  case tup => obtain ⟨a, vs, rfl, _⟩ := rx; rfl
  case cl => obtain ⟨a, vs, rfl, _⟩ := rx; rfl
  case ct => obtain ⟨a, vs, rfl, _⟩ := rx; rfl
  case loc => obtain ⟨a, rfl, _⟩ := rx; rfl
  case ty => subst rx; rfl
  case cls => obtain ⟨a, rfl, _⟩ := rx; rfl
def fIsN : D → M → Res D := fun x h => .ok (.bl (isN x)) h
def fIsNN : D → M → Res D := fun x h => .ok (.bl (!isN x)) h
theorem fc_isN {j pos'} (ha : FE X W ex a ma) : FC X W ex .Is a (.Constant .none j pos') (m1 fIsN ma) := by
  refine PC.imp (pc_isN ha) fun σ H Q q => ?_
  obtain ⟨ι, h, env, rel, re, po⟩ := q
  refine ⟨ι, h, env, rel, re, post_bind po fun x h1 ι1 H1 v eq1 p1 k1 rel1 rv1 po1 => ?_⟩
  rw [isN_ok rv1]
  exact po_ok rel1 (by simp [RV]) po1
theorem fc_isNN {j pos'} (ha : FE X W ex a ma) : FC X W ex .IsNot a (.Constant .none j pos') (m1 fIsNN ma) := by
  refine PC.imp (pc_notN ha) fun σ H Q q => ?_
  obtain ⟨ι, h, env, rel, re, po⟩ := q
  refine ⟨ι, h, env, rel, re, post_bind po fun x h1 ι1 H1 v eq1 p1 k1 rel1 rv1 po1 => ?_⟩
  rw [isN_ok rv1]
  exact po_ok rel1 (by simp [RV]) po1

/-! ### tests -/
variable {ta tb tc : MT} {rest : List Expr}
def asB (d : D) (h : M) : Res Bool := match d with | .bl b => .ok b h | _ => .stuck
@[simp] theorem asB_bl {b : Bool} {h : M} : asB (.bl b) h = .ok b h := (rfl)
def mTest (ma : ME) : MT := fun env h => (ma env h).bind asB
theorem rd_test {G : Wo} {σ : St} {H : Hp} {Q : Bool → Hp → Prop} (q : rdT G ex W (mTest ma) σ H Q) : rdE G ex W ma σ H fun x H1 => ∃ c, x = .bl c ∧ Q c H1 := by
  obtain ⟨ι, h, env, rel, re, po⟩ := q
  refine ⟨ι, h, env, rel, re, post_bind po fun x h1 ι1 H1 v eq1 p1 k1 rel1 rv1 po1 => ?_⟩
  cases x <;> (try exact po1.elim)
  simp only [RV] at rv1
  exact ⟨_, rv1, po_ok rel1 rfl po1⟩
theorem ft_val (ha : FE X W ex a ma) (he : ∀ whole, isTrue a X.env whole = (do let v ← whole; standAt a.pos; holding [v] (truthy v)) := by intro _; rfl) : FT X W ex a (mTest ma) :=
  PT.imp (pt_val ha he) fun _ _ _ q => rd_test q
/-- a comparison as a test -/
theorem ft_c1 {op : CmpOp} {m : ME} (h : FC X W ex op a b m) (hm : behindInMarks op b = false := by first | exact nobehind _ (by decide) (by decide) | rfl) : FT X W ex (.Compare a [op] [b] pos) (mTest m) :=
  PT.imp (pt_cmp h hm) fun _ _ _ q => rd_test q
def mNotT (t : MT) : MT := fun env h => (t env h).bind fun b h => .ok (!b) h
theorem ft_not (ha : FT X W ex a ta) : FT X W ex (.UnaryOp .Not a pos) (mNotT ta) := by
  refine PT.imp (pt_not ha) fun σ H Q q => ?_
  obtain ⟨ι, h, env, rel, re, po⟩ := q
  refine ⟨ι, h, env, rel, re, post_bind po fun x h1 ι1 H1 v eq1 p1 k1 rel1 rv1 po1 => ?_⟩
  cases rv1
  exact po_ok rel1 rfl po1
def mAndT (t u : MT) : MT := fun env h => (t env h).bind fun b h => if b = true then u env h else .ok false h
def mOrT (t u : MT) : MT := fun env h => (t env h).bind fun b h => if b = true then .ok true h else u env h
theorem fw_and1 (ha : FT X W ex a ta) : FW X W ex (.BoolOp .And [a] pos) ta := pw_and1 ha
theorem fw_or1 (ha : FT X W ex a ta) : FW X W ex (.BoolOp .Or [a] pos) ta := pw_or1 ha
theorem fw_and (ha : FT X W ex a ta) (hb : FW X W ex (.BoolOp .And (b :: rest) pos) tb) : FW X W ex (.BoolOp .And (a :: b :: rest) pos) (mAndT ta tb) := by
  refine PW.imp (pw_and ha hb) fun σ H Q q => ?_
  obtain ⟨ι, h, env, rel, re, po⟩ := q
  refine ⟨ι, h, env, rel, re, post_bind po fun x h1 ι1 H1 v eq1 p1 k1 rel1 rv1 po1 => ?_⟩
  cases rv1
  split
  · rename_i hx
    rw [if_pos hx] at po1
    exact ⟨ι1, h1, env, rel1, re.mono p1 k1, po1⟩
  · rename_i hx
    rw [if_neg hx] at po1
    exact po_ok rel1 rfl po1
theorem fw_or (ha : FT X W ex a ta) (hb : FW X W ex (.BoolOp .Or (b :: rest) pos) tb) : FW X W ex (.BoolOp .Or (a :: b :: rest) pos) (mOrT ta tb) := by
  refine PW.imp (pw_or ha hb) fun σ H Q q => ?_
  obtain ⟨ι, h, env, rel, re, po⟩ := q
  refine ⟨ι, h, env, rel, re, post_bind po fun x h1 ι1 H1 v eq1 p1 k1 rel1 rv1 po1 => ?_⟩
  cases rv1
  split
  · rename_i hx
    rw [if_pos hx] at po1
    exact po_ok rel1 rfl po1
  · rename_i hx
    rw [if_neg hx] at po1
    exact ⟨ι1, h1, env, rel1, re.mono p1 k1, po1⟩
theorem FW.ft (h : FW X W ex e ta) : FT X W ex e ta := PW.pt h
/-! as values -/
def mNotV (ma : ME) : ME := fun env h => (ma env h).bind fun d h => (asB d h).bind fun b h => .ok (.bl (!b)) h
theorem fe_not (ha : FE X W ex a ma) : FE X W ex (.UnaryOp .Not a pos) (mNotV ma) := by
  refine PE.imp (pe_not ha) fun σ H Q q => ?_
  obtain ⟨ι, h, env, rel, re, po⟩ := q
  refine ⟨ι, h, env, rel, re, post_bind po fun x h1 ι1 H1 v eq1 p1 k1 rel1 rv1 po1 => ?_⟩
  cases x <;> (try exact po1.elim)
  simp only [RV] at rv1
  exact ⟨_, rv1, po_ok rel1 (by simp [RV]) po1⟩
def mAndV (ma mb : ME) : ME := fun env h => (ma env h).bind fun d h => (asB d h).bind fun b h => if b = true then mb env h else .ok (.bl false) h
def mOrV (ma mb : ME) : ME := fun env h => (ma env h).bind fun d h => (asB d h).bind fun b h => if b = true then .ok (.bl true) h else mb env h
theorem fe_one {op} (ha : FE X W ex a ma) : FE X W ex (.BoolOp op [a] pos) ma := pe_one ha
theorem fe_and (ha : FE X W ex a ma) (hb : FE X W ex (.BoolOp .And (b :: rest) pos) mb) : FE X W ex (.BoolOp .And (a :: b :: rest) pos) (mAndV ma mb) := by
  refine PE.imp (pe_and ha hb) fun σ H Q q => ?_
  obtain ⟨ι, h, env, rel, re, po⟩ := q
  refine ⟨ι, h, env, rel, re, post_bind po fun x h1 ι1 H1 v eq1 p1 k1 rel1 rv1 po1 => ?_⟩
  cases x <;> (try exact po1.elim)
  case bl c =>
  simp only [RV] at rv1
  refine ⟨_, rv1, ?_⟩
  cases c with
  | true => exact iteT ⟨ι1, h1, env, rel1, re.mono p1 k1, po1⟩
  | false => exact iteF (po_ok rel1 (by simp [RV]) po1)
theorem fe_or (ha : FE X W ex a ma) (hb : FE X W ex (.BoolOp .Or (b :: rest) pos) mb) : FE X W ex (.BoolOp .Or (a :: b :: rest) pos) (mOrV ma mb) := by
  refine PE.imp (pe_or ha hb) fun σ H Q q => ?_
  obtain ⟨ι, h, env, rel, re, po⟩ := q
  refine ⟨ι, h, env, rel, re, post_bind po fun x h1 ι1 H1 v eq1 p1 k1 rel1 rv1 po1 => ?_⟩
  cases x <;> (try exact po1.elim)
  case bl c =>
  simp only [RV] at rv1
  refine ⟨_, rv1, ?_⟩
  cases c with
  | false => exact iteF ⟨ι1, h1, env, rel1, re.mono p1 k1, po1⟩
  | true => exact iteT (po_ok rel1 (by simp [RV]) po1)
def mIf (t : MT) (ma mb : ME) : ME := fun env h => (t env h).bind fun b h => if b = true then ma env h else mb env h
theorem fe_if {c : Expr} (hc : FT X W ex c tc) (ha : FE X W ex a ma) (hb : FE X W ex b mb) : FE X W ex (.IfExp c a b pos) (mIf tc ma mb) := by
  refine PE.imp (pe_ifExp hc ha hb) fun σ H Q q => ?_
  obtain ⟨ι, h, env, rel, re, po⟩ := q
  refine ⟨ι, h, env, rel, re, post_bind po fun x h1 ι1 H1 v eq1 p1 k1 rel1 rv1 po1 => ?_⟩
  cases rv1
  cases x with
  | true => exact iteT ⟨ι1, h1, env, rel1, re.mono p1 k1, po1⟩
  | false => exact iteF ⟨ι1, h1, env, rel1, re.mono p1 k1, po1⟩

/-! ### arguments, displays -/
variable {es : List Expr} {mas : MA}
def mNil : MA := fun _ h => .ok [] h
def mCons (ma : ME) (mas : MA) : MA := fun env h => (ma env h).bind fun x h1 => (mas env h1).bind fun xs h2 => .ok (x :: xs) h2
theorem fa_nil : FA X W ex [] mNil := by
  refine PA.imp pa_nil fun σ H Q q => ?_
  obtain ⟨ι, h, env, rel, re, po⟩ := q
  exact po_ok rel RVs.nil po
theorem fa_cons (ha : FE X W ex a ma) (hs : FA X W ex es mas) (hst : starEach (a :: es) X.env = (false, eval a X.env) :: starEach es X.env := by rfl) : FA X W ex (a :: es) (mCons ma mas) := by
  refine PA.imp (pa_cons ha hs hst) fun σ H Q q => ?_
  obtain ⟨ι, h, env, rel, re, po⟩ := q
  refine ⟨ι, h, env, rel, re, post_bind po fun x h1 ι1 H1 v eq1 p1 k1 rel1 rv1 po1 => ?_⟩
  refine ⟨ι1, h1, env, rel1, re.mono p1 k1, post_bind po1 fun xs h2 ι2 H2 vs _ p2 k2 rel2 rv2 po2 => ?_⟩
  exact po_ok rel2 (RVs.cons (RV.mono p2 k2 _ _ rv1) rv2) po2
def fTup (xs : List D) (h : M) : Res D := if xs.length ≤ sizeLine then .ok (.tup xs) h else .stuck
def fLst (xs : List D) (h : M) : Res D := if xs.length ≤ sizeLine then .ok (.loc h.length) (h ++ [.lst xs]) else .stuck
def mL (f : List D → M → Res D) (mas : MA) : ME := fun env h => (mas env h).bind f
theorem fe_tup {x1} (hs : FA X W ex es mas) : FE X W ex (.Tuple es x1 pos) (mL fTup mas) := by
  refine PE.imp (pe_tup hs) fun σ H Q q => ?_
  obtain ⟨ι, h, env, rel, re, po⟩ := q
  refine ⟨ι, h, env, rel, re, post_bind po fun xs h1 ι1 H1 vs _ p1 k1 rel1 rv1 po1 => ?_⟩
  have hl := RVs.length rv1
  unfold fTup at po1
  split at po1
  · rename_i hz
    exact ⟨by omega, fun p hp => po_tup rel1 rv1 po1 p hp⟩
  · exact po1.elim
theorem fe_lst (hs : FA X W ex es mas) : FE X W ex (.List es pos) (mL fLst mas) := by
  refine PE.imp (pe_lst hs) fun σ H Q q => ?_
  obtain ⟨ι, h, env, rel, re, po⟩ := q
  refine ⟨ι, h, env, rel, re, post_bind po fun xs h1 ι1 H1 vs _ p1 k1 rel1 rv1 po1 => ?_⟩
  have hl := RVs.length rv1
  unfold fLst at po1
  split at po1
  · rename_i hz
    exact ⟨by omega, fun p hp => po_lst rel1 rv1 po1 p hp⟩
  · exact po1.elim

/-! ### calls of built-ins by values -/
theorem rd_call {G : Wo} {r : List V → Hp → VK → Prop} {f : List D → M → Res D} (hf : AbL G r f) {σ : St} {H : Hp} {Q : VK} (q : rdE G ex W (mL f mas) σ H Q) : tCB r (rdA G ex W mas) σ H Q := by
  obtain ⟨ι, h, env, rel, re, po⟩ := q
  refine ⟨ι, h, env, rel, re, post_bind po fun xs h1 ι1 H1 vs _ p1 k1 rel1 rv1 po1 => ?_⟩
  exact hf _ ι1 H1 h1 xs vs Q rel1 rv1 po1
theorem fe_callB {id : String} {x : Str} {p : Pos} {r : List V → Hp → VK → Prop} {f : List D → M → Res D} (hc : CallR X (.builtin id) r) (hf : AbL (wo X) r f) (hm : X.mg x = none) (hv : bootBuiltins x = some (.builtin id)) (hs : FA X W ex (e :: es) mas)
    (hg : Gl X x := by rfl) (hn : x ≠ "__name__" := by decide) (hdb : (x == ("__debug__" : Str)) = false := by decide) (he : starEach (e :: es) X.env = (false, eval e X.env) :: starEach es X.env := by rfl) (hpl : (backTo pos (starEach es X.env)).any (·.1) = false := by rfl) :
    FE X W ex (.Call (.Name x p) (e :: es) [] pos) (mL f mas) := PE.imp (pe_callB hc hg hm hv hs hn hdb he hpl) fun _ _ _ q => rd_call hf q
theorem fe_callTy {T : String} {x : Str} {p : Pos} {r : List V → Hp → VK → Prop} {f : List D → M → Res D} (hc : CallR X (.type T) r) (hf : AbL (wo X) r f) (hm : X.mg x = none) (hv : bootBuiltins x = some (.type T)) (hs : FA X W ex (e :: es) mas)
    (hg : Gl X x := by rfl) (hn : x ≠ "__name__" := by decide) (hdb : (x == ("__debug__" : Str)) = false := by decide) (he : starEach (e :: es) X.env = (false, eval e X.env) :: starEach es X.env := by rfl) (hpl : (backTo pos (starEach es X.env)).any (·.1) = false := by rfl) :
    FE X W ex (.Call (.Name x p) (e :: es) [] pos) (mL f mas) := PE.imp (pe_callTy hc hg hm hv hs hn hdb he hpl) fun _ _ _ q => rd_call hf q
end
end LF
set_option Elab.async false
set_option linter.all false
set_option maxRecDepth 100000
set_option maxHeartbeats 4000000
/-! LF3: built-ins, subscripts, slices, in, dicts, methods. -/
namespace LF
open PySem PySem.Spec L2
open PyProof.Rows hiding St
section
variable {X : Cx} {W : WX} {ex : Ex} {e a b i o : Expr} {es : List Expr} {ma mb mc : ME} {mas : MA} {pos : Pos}

theorem CallR_or {f : Value} {r r' : List V → Hp → VK → Prop} (h : CallR X f r) (h' : CallR X f r') : CallR X f (fun xs H Q => r xs H Q ∨ r' xs H Q) := by
  intro pins s σ H xs us Q I rx q
  rcases q with q | q
  · exact h pins s σ H xs us Q I rx q
  · exact h' pins s σ H xs us Q I rx q
theorem RVs.eq1 {G : Wo} {ι : List Addr} {H : Hp} {d : D} {vs : List V} (h : RVs G ι H [d] vs) : ∃ v, vs = [v] ∧ RV G ι H d v := by
  simp only [RVs] at h
  obtain ⟨v, r, rfl, h1, rfl⟩ := h
  exact ⟨v, rfl, h1⟩
theorem RVs.eq2 {G : Wo} {ι : List Addr} {H : Hp} {d f : D} {vs : List V} (h : RVs G ι H [d, f] vs) : ∃ v u, vs = [v, u] ∧ RV G ι H d v ∧ RV G ι H f u := by
  simp only [RVs] at h
  obtain ⟨v, r, rfl, h1, u, r2, rfl, h2, rfl⟩ := h
  exact ⟨v, u, rfl, h1, h2⟩

/-! ### len -/
def lenD (h : M) : D → Option Nat
  | .str x => if x.length ≤ sizeLine then some x.length else none
  | .tup xs => some xs.length
  | .ct xs => some xs.length
  | .cl xs => some xs.length
  | .loc l => match h[l]? with
    | some (.lst xs) => some xs.length
    | some (.dK kvs) => some kvs.length
    | _ => none
  | _ => none
def fLen (xs : List D) (h : M) : Res D := match xs with
  | [x] => match lenD h x with | some n => .ok (.int n) h | none => .stuck
  | _ => .stuck
theorem fe_len {x : Str} {p : Pos} (hx : bootBuiltins x = some (.builtin "len")) (hm : X.mg x = none) (hs : FA X W ex (e :: es) mas) (hg : Gl X x := by rfl) (hn : x ≠ "__name__" := by decide) (hdb : (x == ("__debug__" : Str)) = false := by decide)
    (he : starEach (e :: es) X.env = (false, eval e X.env) :: starEach es X.env := by rfl) (hpl : (backTo pos (starEach es X.env)).any (·.1) = false := by rfl) : FE X W ex (.Call (.Name x p) (e :: es) [] pos) (mL fLen mas) := by
  refine fe_callB (CallR_or call_len call_lenD) (fun E ι H h xs vs Q rel rx po => ?_) hm hx hs hg hn hdb he hpl
  unfold fLen at po
  split at po
  case h_2 => exact po.elim
  rename_i xs d
  obtain ⟨v, rfl, r⟩ := rx.eq1
  split at po
  case h_2 => exact po.elim
  rename_i n e1
  have fin := po_ok (v := V.int n) rel (by simp [RV]) po
  cases d with
  | str z =>
    simp only [lenD] at e1
    split at e1
    · rename_i hz
      cases e1
      simp only [RV] at r; subst r
      exact .inl ⟨_, _, rfl, ⟨hz, rfl⟩, fin⟩
    · cases e1
  | tup ys =>
    simp only [lenD] at e1; cases e1
    obtain ⟨a, ws, rfl, s, r⟩ := tupOf_sq (xs := ys) r rfl
    exact .inl ⟨_, _, rfl, .inr ⟨ws, s, RVs.length r⟩, fin⟩
  | ct ys =>
    simp only [lenD] at e1; cases e1
    obtain ⟨a, ws, rfl, s, r⟩ := tupOf_sq (xs := ys) r rfl
    exact .inl ⟨_, _, rfl, .inr ⟨ws, s, RVs.length r⟩, fin⟩
  | cl ys =>
    simp only [lenD] at e1; cases e1
    obtain ⟨a, ws, rfl, s, r⟩ := lstOf_sq (xs := ys) rel r rfl
    exact .inl ⟨_, _, rfl, .inl ⟨ws, s, RVs.length r⟩, fin⟩
  | loc l =>
    simp only [lenD] at e1
    split at e1
    · rename_i ys e2
      cases e1
      obtain ⟨a, ws, rfl, _, q, r⟩ := at_lst rel r e2
      exact .inl ⟨_, _, rfl, .inl ⟨ws, SqL.of q, RVs.length r⟩, fin⟩
    · rename_i kvs e2
      cases e1
      obtain ⟨a, ws, rfl, _, q, r⟩ := at_dK rel r e2
      have hl : kvs.length = ws.length := by have := congrArg List.length r.1; simpa using this
      rw [hl] at fin
      exact .inr ⟨a, ws, rfl, q, fin⟩
    · cases e1
  | _ => simp [lenD] at e1

/-! ### int(x), min, max, abs of two -/
def fInt (xs : List D) (h : M) : Res D := match xs with
  | [.int i] => .ok (.int i) h
  | [.bl k] => .ok (.int (if k then 1 else 0)) h
  | _ => .stuck
theorem fe_intc {p : Pos} (hm : X.mg "int" = none) (hs : FA X W ex (e :: es) mas) (hg : Gl X "int" := by rfl) (he : starEach (e :: es) X.env = (false, eval e X.env) :: starEach es X.env := by rfl) (hpl : (backTo pos (starEach es X.env)).any (·.1) = false := by rfl) :
    FE X W ex (.Call (.Name "int" p) (e :: es) [] pos) (mL fInt mas) := by
  refine fe_callTy call_int1 (fun E ι H h xs vs Q rel rx po => ?_) hm (by decide +kernel) hs hg (by decide) (by decide) he hpl
  unfold fInt at po
  split at po
  · obtain ⟨v, rfl, r⟩ := rx.eq1
    simp only [RV] at r; subst r
    exact .inl ⟨_, rfl, po_ok rel (by simp [RV]) po⟩
  · obtain ⟨v, rfl, r⟩ := rx.eq1
    simp only [RV] at r; subst r
    exact .inr ⟨_, rfl, po_ok rel (by simp [RV]) po⟩
  · exact po.elim
def fMin (xs : List D) (h : M) : Res D := match xs with
  | [.int i, .int j] => .ok (.int (if j < i then j else i)) h
  | _ => .stuck
def fMax (xs : List D) (h : M) : Res D := match xs with
  | [.int i, .int j] => .ok (.int (if j > i then j else i)) h
  | _ => .stuck
theorem fe_min2 {p : Pos} (hm : X.mg "min" = none) (hs : FA X W ex (e :: es) mas) (hc : X.calm = true := by rfl) (hg : Gl X "min" := by rfl) (he : starEach (e :: es) X.env = (false, eval e X.env) :: starEach es X.env := by rfl) (hpl : (backTo pos (starEach es X.env)).any (·.1) = false := by rfl) :
    FE X W ex (.Call (.Name "min" p) (e :: es) [] pos) (mL fMin mas) := by
  refine fe_callB (call_min2 hc) (fun E ι H h xs vs Q rel rx po => ?_) hm (by decide +kernel) hs hg (by decide) (by decide) he hpl
  unfold fMin at po
  split at po
  · obtain ⟨v, u, rfl, r, r2⟩ := rx.eq2
    simp only [RV] at r r2; subst r; subst r2
    exact ⟨_, _, rfl, po_ok rel (by simp [RV]) po⟩
  · exact po.elim
theorem fe_max2 {p : Pos} (hm : X.mg "max" = none) (hs : FA X W ex (e :: es) mas) (hc : X.calm = true := by rfl) (hg : Gl X "max" := by rfl) (he : starEach (e :: es) X.env = (false, eval e X.env) :: starEach es X.env := by rfl) (hpl : (backTo pos (starEach es X.env)).any (·.1) = false := by rfl) :
    FE X W ex (.Call (.Name "max" p) (e :: es) [] pos) (mL fMax mas) := by
  refine fe_callB (call_max2 hc) (fun E ι H h xs vs Q rel rx po => ?_) hm (by decide +kernel) hs hg (by decide) (by decide) he hpl
  unfold fMax at po
  split at po
  · obtain ⟨v, u, rfl, r, r2⟩ := rx.eq2
    simp only [RV] at r r2; subst r; subst r2
    exact ⟨_, _, rfl, po_ok rel (by simp [RV]) po⟩
  · exact po.elim
/-- list(x), tuple(x) -/
def seqOf (h : M) (d : D) : Option (List D) := match tupOf d with | some xs => some xs | none => lstOf h d
theorem seqOf_sq {G : Wo} {ι : List Addr} {H : Hp} {h : M} {d : D} {v : V} {xs : List D} (rel : Rel G ι H h) (rv : RV G ι H d v) (e : seqOf h d = some xs) : ∃ a vs, v = .ref a ∧ (SqL G.K H a vs ∨ SqT G.K H a vs) ∧ RVs G ι H xs vs := by
  unfold seqOf at e
  split at e
  · rename_i ys e1
    cases e
    obtain ⟨a, vs, rfl, s, r⟩ := tupOf_sq rv e1
    exact ⟨a, vs, rfl, .inr s, r⟩
  · obtain ⟨a, vs, rfl, s, r⟩ := lstOf_sq rel rv e
    exact ⟨a, vs, rfl, .inl s, r⟩
def fList (xs : List D) (h : M) : Res D := match xs with
  | [x] => match seqOf h x with | some ys => .ok (.loc h.length) (h ++ [.lst ys]) | none => .stuck
  | _ => .stuck
theorem fe_list {p : Pos} (hm : X.mg "list" = none) (hs : FA X W ex (e :: es) mas) (hg : Gl X "list" := by rfl) (he : starEach (e :: es) X.env = (false, eval e X.env) :: starEach es X.env := by rfl) (hpl : (backTo pos (starEach es X.env)).any (·.1) = false := by rfl) :
    FE X W ex (.Call (.Name "list" p) (e :: es) [] pos) (mL fList mas) := by
  refine fe_callTy call_list_of (fun E ι H h xs vs Q rel rx po => ?_) hm (by decide +kernel) hs hg (by decide) (by decide) he hpl
  unfold fList at po
  split at po
  case h_2 => exact po.elim
  obtain ⟨v, rfl, r⟩ := rx.eq1
  split at po
  case h_2 => exact po.elim
  rename_i ys e1
  obtain ⟨a, ws, rfl, s, r⟩ := seqOf_sq rel r e1
  exact ⟨a, ws, rfl, s, fun p hp => po_lst rel r po p hp⟩
def fTuple (xs : List D) (h : M) : Res D := match xs with
  | [.tup ys] => .ok (.tup ys) h
  | [.ct ys] => .ok (.ct ys) h
  | [x] => match lstOf h x with | some ys => .ok (.tup ys) h | none => .stuck
  | _ => .stuck
theorem fe_tuple {p : Pos} (hm : X.mg "tuple" = none) (hs : FA X W ex (e :: es) mas) (hg : Gl X "tuple" := by rfl) (he : starEach (e :: es) X.env = (false, eval e X.env) :: starEach es X.env := by rfl) (hpl : (backTo pos (starEach es X.env)).any (·.1) = false := by rfl) :
    FE X W ex (.Call (.Name "tuple" p) (e :: es) [] pos) (mL fTuple mas) := by
  refine fe_callTy call_tuple_of (fun E ι H h xs vs Q rel rx po => ?_) hm (by decide +kernel) hs hg (by decide) (by decide) he hpl
  unfold fTuple at po
  split at po
  · obtain ⟨v, rfl, r⟩ := rx.eq1
    obtain ⟨a, ws, rfl, s, r'⟩ := tupOf_sq (xs := _) r rfl
    exact ⟨a, ws, rfl, .inr ⟨s, po_ok rel r po⟩⟩
  · obtain ⟨v, rfl, r⟩ := rx.eq1
    obtain ⟨a, ws, rfl, s, r'⟩ := tupOf_sq (xs := _) r rfl
    exact ⟨a, ws, rfl, .inr ⟨s, po_ok rel r po⟩⟩
  · obtain ⟨v, rfl, r⟩ := rx.eq1
    split at po
    case h_2 => exact po.elim
    rename_i ys e1
    obtain ⟨a, ws, rfl, s, r⟩ := lstOf_sq rel r e1
    exact ⟨a, ws, rfl, .inl ⟨s, fun p hp => po_tup rel r po p hp⟩⟩
  · exact po.elim

/-! ### isinstance -/
def tyD (h : M) : D → Option String
  | .non => some "NoneType"
  | .bl _ => some "bool"
  | .int _ => some "int"
  | .str _ => some "str"
  | .tup _ => some "tuple"
  | .ct _ => some "tuple"
  | .cl _ => some "list"
  | .loc l => match h[l]? with
    | some (.lst _) => some "list"
    | some (.dK _) => some "dict"
    | some (.dT _) => some "dict"
    | _ => none
  | _ => none
theorem tyD_ok {G : Wo} {ι : List Addr} {H : Hp} {h : M} {d : D} {v : V} {t : String} (rel : Rel G ι H h) (r : RV G ι H d v) (e : tyD h d = some t) : TyX G.K H v (.type t) := by
  cases d with
  | non => cases e; simp only [RV] at r; subst r; exact .base .non
  | bl _ => cases e; simp only [RV] at r; subst r; exact .base (.bl _)
  | int _ => cases e; simp only [RV] at r; subst r; exact .base (.int _)
  | str _ => cases e; simp only [RV] at r; subst r; exact .base (.str _)
  | tup xs =>
    cases e; simp only [RV] at r
    obtain ⟨a, vs, rfl, q, _⟩ := r
    exact .base (.tup q)
  | ct xs =>
    cases e; simp only [RV] at r
    obtain ⟨a, vs, rfl, ⟨o, its, n, h1, h2, _⟩, _⟩ := r
    exact .kTuple h1 h2
  | cl xs =>
    cases e; simp only [RV] at r
    obtain ⟨a, vs, rfl, ⟨o, q⟩ | ⟨o, its, n, h1, h2, _⟩, _⟩ := r
    · exact .base (.frz q)
    · exact .kList h1 h2
  | loc l =>
    simp only [tyD] at e
    split at e
    · rename_i e2; cases e
      obtain ⟨a, ws, rfl, _, q, r⟩ := at_lst rel r e2
      exact .base (.lst q)
    · rename_i e2; cases e
      obtain ⟨a, ws, rfl, _, q, r⟩ := at_dK rel r e2
      exact .base (.dK q)
    · rename_i e2; cases e
      obtain ⟨a, ws, rfl, _, q, r⟩ := at_dT rel r e2
      exact .base (.dT q)
    · cases e
  | _ => cases e
def kinds : List String := ["NoneType", "bool", "int", "str", "tuple", "list", "dict"]
def isTy (s t : String) : Bool := s == t || (s == "bool" && t == "int")
theorem kitB_all : ∀ s ∈ kinds, ∀ t ∈ kinds, t ≠ "NoneType" → kitB s t = some (isTy s t) := by decide +kernel
def fIsI (xs : List D) (h : M) : Res D := match xs with
  | [x, .ty t] => match tyD h x with
    | some s => if s ∈ kinds ∧ t ∈ kinds ∧ t ≠ "NoneType" then .ok (.bl (isTy s t)) h else .stuck
    | none => .stuck
  | _ => .stuck
theorem fe_isI {p : Pos} (hm : X.mg "isinstance" = none) (hs : FA X W ex (e :: es) mas) (hg : Gl X "isinstance" := by rfl) (he : starEach (e :: es) X.env = (false, eval e X.env) :: starEach es X.env := by rfl) (hpl : (backTo pos (starEach es X.env)).any (·.1) = false := by rfl) :
    FE X W ex (.Call (.Name "isinstance" p) (e :: es) [] pos) (mL fIsI mas) := by
  refine fe_callB call_isi (fun E ι H h xs vs Q rel rx po => ?_) hm (by decide +kernel) hs hg (by decide) (by decide) he hpl
  unfold fIsI at po
  split at po
  case h_2 => exact po.elim
  rename_i d t
  obtain ⟨v, u, rfl, r, r2⟩ := rx.eq2
  split at po
  case h_2 => exact po.elim
  rename_i s e1
  split at po
  case isFalse => exact po.elim
  rename_i hk
  simp only [RV] at r2; subst r2
  exact ⟨_, _, _, _, _, rfl, .ty t, tyD_ok rel r e1, kit_ty (kitB_all s hk.1 t hk.2.1 hk.2.2), po_ok rel (by simp [RV]) po⟩

/-! ### subscripts -/
theorem RVs.atI {G : Wo} {ι : List Addr} {H : Hp} {xs : List D} {vs : List V} {i : Int} {d : D} (r : RVs G ι H xs vs) (e : atI xs i = some d) : ∃ v, L2.atI vs i = some v ∧ RV G ι H d v := by
  unfold L2.atI at e ⊢
  rw [← RVs.length r]
  cases h : ixN xs.length i with
  | none => rw [h] at e; simp at e
  | some j => rw [h] at e; exact r.get e
def keyD : D → Option Key
  | .int i => some (.inl i)
  | .str x => some (.inr x)
  | _ => none
def keysD : D → Option (List Key)
  | .tup xs => xs.mapM keyD
  | _ => none
theorem keyD_ok {G : Wo} {ι : List Addr} {H : Hp} {d : D} {v : V} {k : Key} (r : RV G ι H d v) (e : keyD d = some k) : v = kV k := by
  cases d <;> simp only [keyD, Option.some.injEq, reduceCtorEq] at e <;> (subst e; simp only [RV] at r; exact r)
theorem keysD_ok {G : Wo} {ι : List Addr} {H : Hp} {d : D} {v : V} {k : List Key} (r : RV G ι H d v) (e : keysD d = some k) : ∃ b, v = .ref b ∧ H b = some (.tup (k.map kV)) := by
  cases d <;> simp only [keysD, reduceCtorEq] at e
  rename_i xs
  simp only [RV] at r
  obtain ⟨a, vs, rfl, q, r⟩ := r
  refine ⟨a, rfl, ?_⟩
  have : vs = k.map kV := by
    clear q
    induction xs generalizing vs k with
    | nil => simp at e; subst e; simp only [RVs] at r; subst r; rfl
    | cons x xs ih =>
      simp only [List.mapM_cons, bind, Option.bind_eq_some_iff, pure, Option.some.injEq] at e
      obtain ⟨k1, e1, ks, e2, rfl⟩ := e
      simp only [RVs] at r
      obtain ⟨v1, r1, rfl, h1, h2⟩ := r
      rw [keyD_ok h1 e1, ih e2 _ h2]; rfl
  rw [← this]; exact q
section
variable {κ : Type} [DecidableEq κ]
def valD (kvs : List (κ × D)) (k : κ) : Option D := (kvs.find? fun kv => decide (kv.1 = k)).map (·.2)
def putD (kvs : List (κ × D)) (k : κ) (d : D) : List (κ × D) := if (kvs.any fun kv => decide (kv.1 = k)) = true then kvs.map (fun kv => if kv.1 = k then (kv.1, d) else kv) else kvs ++ [(k, d)]
def dropD (kvs : List (κ × D)) (k : κ) : List (κ × D) := kvs.filter fun kv => decide (kv.1 ≠ k)
theorem RKs.nil_iff {G : Wo} {ι : List Addr} {H : Hp} {kws : List (κ × V)} (h : RKs G ι H ([] : List (κ × D)) kws) : kws = [] := by
  have := h.1
  simpa using this.symm
theorem RKs.cons_iff {G : Wo} {ι : List Addr} {H : Hp} {k : κ} {d : D} {kvs : List (κ × D)} {kws : List (κ × V)} (h : RKs G ι H ((k, d) :: kvs) kws) : ∃ v r, kws = (k, v) :: r ∧ RV G ι H d v ∧ RKs G ι H kvs r := by
  obtain ⟨h1, h2⟩ := h
  cases kws with
  | nil => simp at h1
  | cons p r =>
    obtain ⟨k', v⟩ := p
    simp only [List.map_cons, List.cons.injEq] at h1
    obtain ⟨rfl, h1⟩ := h1
    simp only [List.map_cons, RVs] at h2
    obtain ⟨v', r', e, h3, h4⟩ := h2
    simp only [List.cons.injEq] at e
    obtain ⟨rfl, rfl⟩ := e
    exact ⟨v, r, rfl, h3, h1, h4⟩
theorem RKs.cons {G : Wo} {ι : List Addr} {H : Hp} {k : κ} {d : D} {v : V} {kvs : List (κ × D)} {kws : List (κ × V)} (r : RV G ι H d v) (h : RKs G ι H kvs kws) : RKs G ι H ((k, d) :: kvs) ((k, v) :: kws) :=
  ⟨by simp [h.1], by simp only [List.map_cons]; exact RVs.cons r h.2⟩
theorem RKs.nil {G : Wo} {ι : List Addr} {H : Hp} : RKs G ι H ([] : List (κ × D)) [] := ⟨rfl, by simp [RVs]⟩
theorem RKs.len {G : Wo} {ι : List Addr} {H : Hp} {kvs : List (κ × D)} {kws : List (κ × V)} (h : RKs G ι H kvs kws) : kvs.length = kws.length := by
  have := congrArg List.length h.1; simpa using this
theorem RKs.val {G : Wo} {ι : List Addr} {H : Hp} : ∀ {kvs : List (κ × D)} {kws : List (κ × V)} {k : κ}, RKs G ι H kvs kws → (∀ d, valD kvs k = some d → ∃ v, valV kws k = some v ∧ RV G ι H d v) ∧ (valD kvs k = none → valV kws k = none)
  | [], kws, k, h => by rw [h.nil_iff]; exact ⟨fun d e => by simp [valD] at e, fun _ => rfl⟩
  | (k', d') :: kvs, kws, k, h => by
    obtain ⟨v, r, rfl, h1, h2⟩ := h.cons_iff
    have ih := RKs.val (k := k) h2
    by_cases hk : k' = k
    · refine ⟨fun d e => ⟨v, valV_pos hk, ?_⟩, fun e => ?_⟩
      · have : d' = d := by simpa [valD, List.find?_cons, hk] using e
        rw [← this]; exact h1
      · simp [valD, List.find?_cons, hk] at e
    · have e1 : valD ((k', d') :: kvs) k = valD kvs k := by simp [valD, List.find?_cons, hk]
      rw [e1, valV_neg hk]
      exact ih
theorem RKs.any {G : Wo} {ι : List Addr} {H : Hp} : ∀ {kvs : List (κ × D)} {kws : List (κ × V)} {k : κ}, RKs G ι H kvs kws → (kvs.any fun kv => decide (kv.1 = k)) = (kws.any fun kv => decide (kv.1 = k))
  | [], kws, k, h => by rw [h.nil_iff]; rfl
  | (k', d') :: kvs, kws, k, h => by
    obtain ⟨v, r, rfl, h1, h2⟩ := h.cons_iff
    simp only [List.any_cons, RKs.any h2]
theorem RKs.app {G : Wo} {ι : List Addr} {H : Hp} {a b : List (κ × D)} {c d : List (κ × V)} (h : RKs G ι H a c) (h2 : RKs G ι H b d) : RKs G ι H (a ++ b) (c ++ d) :=
  ⟨by simp [h.1, h2.1], by simp only [List.map_append]; exact h.2.append h2.2⟩
theorem RKs.put {G : Wo} {ι : List Addr} {H : Hp} {kvs : List (κ × D)} {kws : List (κ × V)} {k : κ} {d : D} {v : V} (h : RKs G ι H kvs kws) (r : RV G ι H d v) : RKs G ι H (putD kvs k d) (putK kws k v) := by
  have go : ∀ {kvs : List (κ × D)} {kws : List (κ × V)}, RKs G ι H kvs kws → RKs G ι H (kvs.map (fun kv => if kv.1 = k then (kv.1, d) else kv)) (kws.map (fun kv => if kv.1 = k then (kv.1, v) else kv)) := by
    intro kvs
    induction kvs with
    | nil => intro kws h; rw [h.nil_iff]; exact RKs.nil
    | cons p kvs ih =>
      intro kws h
      obtain ⟨k', d'⟩ := p
      obtain ⟨v', q, rfl, h1, h2⟩ := h.cons_iff
      simp only [List.map_cons]
      by_cases hk : k' = k
      · rw [if_pos hk, if_pos hk]; exact RKs.cons r (ih h2)
      · rw [if_neg hk, if_neg hk]; exact RKs.cons h1 (ih h2)
  unfold putD putK
  rw [RKs.any h]
  split
  · exact go h
  · exact h.app (RKs.cons r RKs.nil)
theorem RKs.drop {G : Wo} {ι : List Addr} {H : Hp} {k : κ} : ∀ {kvs : List (κ × D)} {kws : List (κ × V)}, RKs G ι H kvs kws → RKs G ι H (dropD kvs k) (dropK kws k)
  | [], kws, h => by rw [h.nil_iff]; exact RKs.nil
  | (k', d') :: kvs, kws, h => by
    obtain ⟨v, r, rfl, h1, h2⟩ := h.cons_iff
    have ih := RKs.drop (k := k) h2
    unfold dropD dropK at ih ⊢
    simp only [List.filter_cons]
    by_cases hk : k' = k
    · simp only [hk, ne_eq, not_true_eq_false, decide_false, Bool.false_eq_true, if_false]; exact ih
    · simp only [hk, ne_eq, not_false_eq_true, decide_true, if_true]; exact RKs.cons h1 ih
end
/-- d[k], by the object's kind -/
def dGet (h : M) (x y : D) : Option (Option D) := match x with
  | .loc l => match h[l]? with
    | some (.dK kvs) => (keyD y).map (valD kvs)
    | some (.dT kvs) => (keysD y).map (valD kvs)
    | _ => none
  | _ => none
theorem dGet_ok {G : Wo} {ι : List Addr} {H : Hp} {h : M} {x y : D} {v u : V} {r : Option D} (rel : Rel G ι H h) (rx : RV G ι H x v) (ry : RV G ι H y u) (e : dGet h x y = some r) :
    ∃ a ro, v = .ref a ∧ IsD H a ∧ DGet H a u ro ∧ (∀ d, r = some d → ∃ w, ro = some w ∧ RV G ι H d w) ∧ (r = none → ro = none) := by
  cases x with
  | loc l =>
    simp only [dGet] at e
    split at e
    · rename_i kvs e1
      simp only [Option.map_eq_some_iff] at e
      obtain ⟨k, ek, rfl⟩ := e
      obtain ⟨a, ws, rfl, _, q, rk⟩ := at_dK rel rx e1
      rw [keyD_ok ry ek]
      exact ⟨a, _, rfl, .inl ⟨ws, .inl q⟩, DGet.k q, (RKs.val rk).1, (RKs.val rk).2⟩
    · rename_i kvs e1
      simp only [Option.map_eq_some_iff] at e
      obtain ⟨k, ek, rfl⟩ := e
      obtain ⟨a, ws, rfl, _, q, rk⟩ := at_dT rel rx e1
      obtain ⟨b, rfl, hb⟩ := keysD_ok ry ek
      exact ⟨a, _, rfl, .inr ⟨ws, .inl q⟩, DGet.t q hb, (RKs.val rk).1, (RKs.val rk).2⟩
    · cases e
  | _ => simp [dGet] at e
def fIx (x y : D) (h : M) : Res D := match x, y with
  | .str z, .int i => if z.length ≤ sizeLine then match atI z.cps.toList i with | some c => .ok (.str ⟨#[c]⟩) h | none => .stuck else .stuck
  | x, y => match seqOf h x, y with
    | some xs, .int i => match atI xs i with | some d => .ok d h | none => .stuck
    | some _, _ => .stuck
    | none, y => match dGet h x y with
      | some (some d) => .ok d h
      | _ => .stuck
theorem PE.or {t t' : TE} (p : PE X e t) (p' : PE X e t') : PE X e (fun σ H Q => t σ H Q ∨ t' σ H Q) := ⟨fun pins s σ H Q I h => by
  rcases h with h | h
  · exact p.run pins s σ H Q I h
  · exact p'.run pins s σ H Q I h⟩
theorem fe_ix {k : Nat} (hr : L2H.RoomH k X.A) (ha : FE X W ex a ma) (hb : FE X W ex b mb) (hs : PlainIx b := by exact fun _ _ => rfl) (hn : NoSl b := by exact fun _ _ => rfl) : FE X W ex (.Subscript a b pos) (m2 fIx ma mb) := by
  refine PE.imp (PE.or (pe_ix ix_seq ha hb hs) (pe_dget (hu1 hr) ha hb hn)) fun σ H Q q => ?_
  obtain ⟨ι, h, env, rel, re, po⟩ := q
  -- which way
  have way : ∀ (P : Prop) (c : Bool), (c = true → P) → (c = false → P) → P := fun P c h1 h2 => by cases c; exact h2 rfl; exact h1 rfl
  unfold m2 at po
  cases ea : ma env h with
  | stuck => rw [ea] at po; exact po.elim
  | exc x ns vs h1 => 
    rw [ea] at po
    exact .inl ⟨ι, h, env, rel, re, by rw [ea]; exact po⟩
  | ok x h1 =>
    rw [ea] at po
    simp only [bind_ok] at po
    cases eb : mb env h1 with
    | stuck => rw [eb] at po; exact po.elim
    | exc x' ns vs h2 =>
      rw [eb] at po
      refine .inl ⟨ι, h, env, rel, re, ?_⟩
      rw [ea]
      intro ι1 H1 v p1 k1 rel1 rv1
      refine ⟨ι1, h1, env, rel1, re.mono p1 k1, ?_⟩
      rw [eb]
      exact Post.mono p1 k1 po
    | ok y h2 =>
      rw [eb] at po
      simp only [bind_ok] at po
      -- the two values, then the rule's own question
      have run : ∀ (R : R2), (∀ ι2 H2 v u, ι <+: ι2 → Keep H H2 → Rel (wo X) ι2 H2 h2 → RV (wo X) ι2 H2 x v → RV (wo X) ι2 H2 y u → R v u H2 Q) → tOp R (rdE (wo X) ex W ma) (rdE (wo X) ex W mb) σ H Q := fun R hR => by
        refine ⟨ι, h, env, rel, re, ?_⟩
        rw [ea]
        intro ι1 H1 v p1 k1 rel1 rv1
        refine ⟨ι1, h1, env, rel1, re.mono p1 k1, ?_⟩
        rw [eb]
        intro ι2 H2 u p2 k2 rel2 rv2
        exact hR ι2 H2 v u (p1.trans p2) (k1.trans k2) rel2 (RV.mono p2 k2 _ _ rv1) rv2
      unfold fIx at po
      split at po
      · rename_i z i
        split at po
        case isFalse => exact po.elim
        rename_i hz
        split at po
        case h_2 => exact po.elim
        rename_i c ec
        refine .inl (run _ fun ι2 H2 v u p k rel2 r1 r2 => ?_)
        simp only [RV] at r1 r2; subst r1; subst r2
        exact .inr (.inr ⟨z, i, c, rfl, rfl, hz, ec, po_ok rel2 (by simp [RV]) (Post.mono p k po)⟩)
      · split at po
        · rename_i xs i es hno
          split at po
          case h_2 => exact po.elim
          rename_i d ed
          refine .inl (run _ fun ι2 H2 v u p k rel2 r1 r2 => ?_)
          simp only [RV] at r2; subst r2
          obtain ⟨a, ws, rfl, s, r⟩ := seqOf_sq rel2 r1 es
          obtain ⟨w, ew, rw'⟩ := r.atI ed
          rcases s with s | s
          · exact .inl ⟨a, ws, i, w, rfl, rfl, s, ew, po_ok rel2 rw' (Post.mono p k po)⟩
          · exact .inr (.inl ⟨a, ws, i, w, rfl, rfl, s, ew, po_ok rel2 rw' (Post.mono p k po)⟩)
        · exact po.elim
        · split at po
          case h_2 => exact po.elim
          rename_i d ed
          refine .inr ?_
          have z := run (fun x y H2 Q => ∃ a v, x = .ref a ∧ DGet H2 a y (some v) ∧ Q v H2) fun ι2 H2 v u p k rel2 r1 r2 => by
            obtain ⟨a, ro, rfl, _, g, g1, _⟩ := dGet_ok rel2 r1 r2 ed
            obtain ⟨w, rfl, rw'⟩ := g1 d rfl
            exact ⟨a, w, rfl, g, po_ok rel2 rw' (Post.mono p k po)⟩
          exact z
end
end LF
set_option Elab.async false
set_option linter.all false
set_option maxRecDepth 100000
set_option maxHeartbeats 4000000
/-! LF4: slices, in, methods of built-in types. -/
namespace LF
open PySem PySem.Spec L2
open PyProof.Rows hiding St
section
variable {X : Cx} {W : WX} {ex : Ex} {e a b i o : Expr} {es : List Expr} {ma mb mc : ME} {mas : MA} {pos : Pos}

/-! ### slices -/
abbrev MO := En → M → Res (Option Int)
abbrev BO : List Addr → Hp → Option Int → Option Int → Prop := fun _ _ b c => c = b
def rdO (G : Wo) (ex : Ex) (W : WX) (m : MO) : TO := fun σ H Q => ∃ ι h env, Rel G ι H h ∧ REn G ex ι H env σ ∧ Post G BO (fun c d H' => W c d σ H') ι H (m env h) Q
def FO (X : Cx) (W : WX) (ex : Ex) (e : Option Expr) (m : MO) : Prop := PO X e (rdO (wo X) ex W m)
theorem PO.imp {oe : Option Expr} {t t' : TO} (p : PO X oe t) (h : ∀ σ H Q, t' σ H Q → t σ H Q) : PO X oe t' := ⟨fun pins s σ H Q I q => p.run pins s σ H Q I (h σ H Q q)⟩
def mNoPart : MO := fun _ h => .ok none h
def mPart (m : ME) : MO := fun env h => (m env h).bind fun d h => match d with | .int i => .ok (some i) h | _ => .stuck
theorem fo_none : FO X W ex none mNoPart := by
  refine PO.imp po_none fun σ H Q q => ?_
  obtain ⟨ι, h, env, rel, re, po⟩ := q
  exact po_ok (α := Option Int) (β := Option Int) rel rfl po
theorem fo_some (ha : FE X W ex a ma) : FO X W ex (some a) (mPart ma) := by
  refine PO.imp (po_some ha) fun σ H Q q => ?_
  obtain ⟨ι, h, env, rel, re, po⟩ := q
  refine ⟨ι, h, env, rel, re, post_bind po fun x h1 ι1 H1 v eq1 p1 k1 rel1 rv1 po1 => ?_⟩
  cases x <;> (try exact po1.elim)
  simp only [RV] at rv1
  exact ⟨_, rv1, po_ok (α := Option Int) (β := Option Int) rel1 rfl po1⟩
def cutD (xs : List D) (lo hi : Option Int) : List D := (xs.drop (HT.sIx xs.length 0 lo)).take (HT.sIx xs.length xs.length hi - HT.sIx xs.length 0 lo)
theorem RVs.cut {G : Wo} {ι : List Addr} {H : Hp} {xs : List D} {vs : List V} (r : RVs G ι H xs vs) (lo hi : Option Int) : RVs G ι H (cutD xs lo hi) (cutV vs lo hi) := by
  unfold cutD cutV
  rw [RVs.length r]
  exact (r.drop _).take _
def fSl (x : D) (lo hi : Option Int) (h : M) : Res D := match x with
  | .str z => if z.length ≤ sizeLine then .ok (.str (cutS z lo hi)) h else .stuck
  | .tup xs => .ok (.tup (cutD xs lo hi)) h
  | .ct xs => if HT.sIx xs.length 0 lo = 0 ∧ HT.sIx xs.length xs.length hi = xs.length then .ok (.ct xs) h else .ok (.tup (cutD xs lo hi)) h
  | x => match lstOf h x with
    | some xs => .ok (.loc h.length) (h ++ [.lst (cutD xs lo hi)])
    | none => .stuck
def mSl (ma : ME) (lo hi : MO) : ME := fun env h => (ma env h).bind fun x h1 => (lo env h1).bind fun l h2 => (hi env h2).bind fun u h3 => fSl x l u h3
theorem fe_slice {lo hi : Option Expr} {ml mh : MO} {p2 : Pos} (ha : FE X W ex a ma) (hl : FO X W ex lo ml) (hh : FO X W ex hi mh) : FE X W ex (.Subscript a (.Slice lo hi none p2) pos) (mSl ma ml mh) := by
  refine PE.imp (pe_slice (sl_list.or (sl_tupA.or sl_str)) ha hl hh) fun σ H Q q => ?_
  obtain ⟨ι, h, env, rel, re, po⟩ := q
  refine ⟨ι, h, env, rel, re, post_bind po fun x h1 ι1 H1 v eq1 p1 k1 rel1 rv1 po1 => ?_⟩
  refine ⟨ι1, h1, env, rel1, re.mono p1 k1, post_bind (α := Option Int) po1 fun l h2 ι2 H2 l' eq2 p2 k2 rel2 rv2 po2 => ?_⟩
  cases rv2
  have rv1 := RV.mono p2 k2 _ _ rv1
  refine ⟨ι2, h2, env, rel2, (re.mono p1 k1).mono p2 k2, post_bind (α := Option Int) po2 fun u h3 ι3 H3 u' eq3 p3 k3 rel3 rv3 po3 => ?_⟩
  cases rv3
  have rv1 := RV.mono p3 k3 _ _ rv1
  have viaL : ∀ xs, lstOf h3 x = some xs → Post (wo X) (fun ι H d v => RV (wo X) ι H d v) (fun c d H' => W c d σ H') ι3 H3 (.ok (.loc h3.length) (h3 ++ [.lst (cutD xs l u)])) Q → rSlL X.K v l u H3 Q := fun xs e1 po => by
    obtain ⟨a, ws, rfl, s, r⟩ := lstOf_sq rel3 rv1 e1
    exact ⟨a, ws, rfl, s, fun p hp => po_lst rel3 (r.cut l u) po p hp⟩
  cases x with
  | str z =>
    simp only [fSl] at po3
    split at po3
    · rename_i hz
      simp only [RV] at rv1; subst rv1
      exact .inr (.inr ⟨z, rfl, hz, po_ok rel3 (by simp [RV]) po3⟩)
    · exact po3.elim
  | tup xs =>
    simp only [fSl] at po3
    obtain ⟨a, ws, rfl, s, r⟩ := tupOf_sq (xs := xs) rv1 rfl
    refine .inr (.inl ⟨a, ws, rfl, s, fun hw => ?_, fun hw p hp => po_tup rel3 (r.cut l u) po3 p hp⟩)
    have e : cutD xs l u = xs := by
      unfold cutD
      rw [RVs.length r, hw.1, hw.2, List.drop_zero, Nat.sub_zero, ← RVs.length r]
      exact List.take_length
    rw [e] at po3
    exact po_ok rel3 rv1 po3
  | ct xs =>
    simp only [fSl] at po3
    obtain ⟨a, ws, rfl, s, r⟩ := tupOf_sq (xs := xs) rv1 rfl
    rw [RVs.length r] at po3
    refine .inr (.inl ⟨a, ws, rfl, s, fun hw => ?_, fun hw p hp => ?_⟩)
    · rw [if_pos hw] at po3
      exact po_ok rel3 rv1 po3
    · rw [if_neg hw] at po3
      exact po_tup rel3 (r.cut l u) po3 p hp
  | cl xs => simp only [fSl, lstOf_cl] at po3; exact .inl (viaL xs rfl po3)
  | loc k =>
    simp only [fSl] at po3
    split at po3
    · rename_i xs e1
      exact .inl (viaL xs e1 po3)
    · exact po3.elim
  | _ => simp [fSl, lstOf, Post] at po3

/-! ### in -/
def flatD : D → Bool
  | .non => true
  | .bl _ => true
  | .int _ => true
  | .str _ => true
  | _ => false
def eqF : D → D → Bool
  | .non, .non => true
  | .bl a, .bl b => a == b
  | .bl a, .int b => (if a then 1 else 0) == b
  | .int a, .bl b => a == (if b then 1 else 0)
  | .int a, .int b => a == b
  | .str a, .str b => a == b
  | _, _ => false
theorem flatD_ok {G : Wo} {ι : List Addr} {H : Hp} {d : D} {v : V} (r : RV G ι H d v) (h : flatD d = true) : flatV v = true := by
  cases d <;> simp only [flatD, reduceCtorEq] at h <;> (simp only [RV] at r; subst r; rfl)
theorem flatDs_ok {G : Wo} {ι : List Addr} {H : Hp} : ∀ {xs : List D} {vs : List V}, RVs G ι H xs vs → xs.all flatD = true → vs.all flatV = true
  | [], vs, r, _ => by simp only [RVs] at r; subst r; rfl
  | x :: xs, vs, r, h => by
    simp only [RVs] at r
    obtain ⟨v, q, rfl, r1, r2⟩ := r
    simp only [List.all_cons, Bool.and_eq_true] at h ⊢
    exact ⟨flatD_ok r1 h.1, flatDs_ok r2 h.2⟩
theorem eqF_ok {G : Wo} {ι : List Addr} {H : Hp} {d f : D} {v u : V} (r : RV G ι H d v) (r2 : RV G ι H f u) (h : flatD d = true) (h2 : flatD f = true) : eqV v u = eqF d f := by
  cases d <;> simp only [flatD, reduceCtorEq] at h <;> cases f <;> simp only [flatD, reduceCtorEq] at h2 <;> (simp only [RV] at r r2; subst r; subst r2; rfl)
theorem inF_ok {G : Wo} {ι : List Addr} {H : Hp} {d : D} {v : V} (r : RV G ι H d v) (h : flatD d = true) : ∀ {xs : List D} {vs : List V}, RVs G ι H xs vs → xs.all flatD = true → inV v vs = xs.any fun y => eqF y d
  | [], vs, q, _ => by simp only [RVs] at q; subst q; rfl
  | x :: xs, vs, q, hx => by
    simp only [RVs] at q
    obtain ⟨w, q, rfl, r1, r2⟩ := q
    simp only [List.all_cons, Bool.and_eq_true] at hx
    have ih := inF_ok r h r2 hx.2
    unfold inV at ih ⊢
    simp only [List.any_cons, ih, eqF_ok r1 r hx.1 h]
def inD (h : M) (x y : D) : Option Bool := match x, y with
  | .str a, .str b => some (!(Builtin.Str.occurrences b a 0 b.length 1).isEmpty)
  | x, y => match seqOf h y with
    | some xs => if flatD x = true ∧ xs.all flatD = true then some (xs.any fun z => eqF z x) else none
    | none => (dGet h y x).map (·.isSome)
def rInA (K : PySem.W.Frag) (neg : Bool) : R2 := fun x y H Q => rIn K neg x y H Q ∨ ∃ i j, x = .str i ∧ y = .str j ∧ Q (.bl (if neg then !(!(Builtin.Str.occurrences j i 0 j.length 1).isEmpty) else !(Builtin.Str.occurrences j i 0 j.length 1).isEmpty)) H
def rDIn (neg : Bool) : R2 := fun y x H Q => ∃ a ov, x = .ref a ∧ DGet H a y ov ∧ Q (.bl (if neg then !ov.isSome else ov.isSome)) H
def fInN (neg : Bool) (x y : D) (h : M) : Res D := match inD h x y with | some b => .ok (.bl (if neg then !b else b)) h | none => .stuck
theorem inD_at {G : Wo} (neg : Bool) (x y : D) (h : M) : At2 G (rDIn neg) (fInN neg) x y h ∨ At2 G (rInA G.K neg) (fInN neg) x y h := by
  cases e : inD h x y with
  | none => exact .inl fun E ι H v u Q rel rx ry po => by unfold fInN at po; rw [e] at po; exact po.elim
  | some b =>
    have fin : ∀ {E : WX'} {ι : List Addr} {H : Hp} {Q : VK}, Rel G ι H h → Post G (fun ι H d v => RV G ι H d v) E ι H (fInN neg x y h) Q → Q (.bl (if neg then !b else b)) H := fun {E ι H Q} rel po => by
      unfold fInN at po; rw [e] at po
      exact po_ok (v := V.bl (if neg then !b else b)) rel (by simp [RV]) po
    have e0 := e
    unfold inD at e
    split at e
    · cases e
      refine .inr fun E ι H v u Q rel rx ry po => ?_
      have q := fin rel po
      simp only [RV] at rx ry
      exact .inr ⟨_, _, rx, ry, q⟩
    · split at e
      · rename_i xs es
        split at e
        · rename_i hf
          cases e
          refine .inr fun E ι H v u Q rel rx ry po => ?_
          have q := fin rel po
          obtain ⟨a, ws, rfl, s, r⟩ := seqOf_sq rel ry es
          exact .inl ⟨a, ws, rfl, s, flatD_ok rx hf.1, flatDs_ok r hf.2, by rw [inF_ok rx hf.1 r hf.2]; exact q⟩
        · cases e
      · simp only [Option.map_eq_some_iff] at e
        obtain ⟨ro, er, rfl⟩ := e
        refine .inl fun E ι H v u Q rel rx ry po => ?_
        have q := fin rel po
        obtain ⟨a, rv, rfl, _, g, g1, g2⟩ := dGet_ok rel ry rx er
        have : rv.isSome = ro.isSome := by
          cases ro with
          | none => rw [g2 rfl]; rfl
          | some d => obtain ⟨w, rfl, _⟩ := g1 d rfl; rfl
        rw [← this] at q
        exact ⟨a, rv, rfl, g, q⟩
def fIn := fInN false
def fNotIn := fInN true
theorem fc_in {k : Nat} (hr : L2H.RoomH k X.A) (ha : FE X W ex a ma) (hb : FE X W ex b mb) : FC X W ex .In a b (m2 fIn ma mb) := by
  have P1 : PC X .In a b (tOp (rDIn false) (rdE (wo X) ex W ma) (rdE (wo X) ex W mb)) := PC.imp (pc_din (hu1 hr) ha hb) fun σ H Q q => q
  have P2 : PC X .In a b (tOp (rInA X.K false) (rdE (wo X) ex W ma) (rdE (wo X) ex W mb)) := pc_of (op_in_seq.or op_in_str) ha hb
  exact PC.imp (PC.or P1 P2) fun σ H Q q => rd_op_or (inD_at false) q
theorem fc_notIn {k : Nat} (hr : L2H.RoomH k X.A) (ha : FE X W ex a ma) (hb : FE X W ex b mb) : FC X W ex .NotIn a b (m2 fNotIn ma mb) := by
  have P1 : PC X .NotIn a b (tOp (rDIn true) (rdE (wo X) ex W ma) (rdE (wo X) ex W mb)) := PC.imp (pc_dnotin (hu1 hr) ha hb) fun σ H Q q => q
  have P2 : PC X .NotIn a b (tOp (rInA X.K true) (rdE (wo X) ex W ma) (rdE (wo X) ex W mb)) := pc_of (op_notIn_seq.or op_notIn_str) ha hb
  exact PC.imp (PC.or P1 P2) fun σ H Q q => rd_op_or (inD_at true) q

/-! ### methods of built-in types -/
/-- what is asked of the receiver ahead of the arguments -/
def isTyp (h : M) (T : String) : D → Bool
  | .str _ => T == "str"
  | .cl _ => T == "list"
  | .loc l => match h[l]? with
    | some (.lst _) => T == "list"
    | some (.dK _) => T == "dict"
    | some (.dT _) => T == "dict"
    | _ => false
  | _ => false
theorem isTyp_ok {G : Wo} {ι : List Addr} {H : Hp} {h : M} {T : String} {d : D} {v : V} (rel : Rel G ι H h) (r : RV G ι H d v) (e : isTyp h T d = true) : tyV G.K T v H := by
  cases d with
  | str x => simp only [isTyp, beq_iff_eq] at e; subst e; simp only [RV] at r; subst r; exact rfl
  | cl xs =>
    simp only [isTyp, beq_iff_eq] at e; subst e
    obtain ⟨a, ws, rfl, s, _⟩ := lstOf_sq (xs := xs) rel r rfl
    exact .inl ⟨rfl, ws, s⟩
  | loc l =>
    simp only [isTyp] at e
    split at e
    · rename_i e1
      simp only [beq_iff_eq] at e; subst e
      obtain ⟨a, ws, rfl, _, q, _⟩ := at_lst rel r e1
      exact .inl ⟨rfl, ws, SqL.of q⟩
    · rename_i e1
      simp only [beq_iff_eq] at e; subst e
      obtain ⟨a, ws, rfl, _, q, _⟩ := at_dK rel r e1
      exact .inr (.inr (.inl ⟨rfl, .inl ⟨ws, q⟩⟩))
    · rename_i e1
      simp only [beq_iff_eq] at e; subst e
      obtain ⟨a, ws, rfl, _, q, _⟩ := at_dT rel r e1
      exact .inr (.inr (.inl ⟨rfl, .inr ⟨ws, q⟩⟩))
    · cases e
  | _ => simp [isTyp] at e
def AbM (G : Wo) (r : V → List V → Hp → VK → Prop) (f : D → List D → M → Res D) : Prop := ∀ (E : WX') ι H h x xs v vs (Q : VK), Rel G ι H h → RV G ι H x v → RVs G ι H xs vs → Post G (fun ι H d v => RV G ι H d v) E ι H (f x xs h) Q → r v vs H Q
def mBM (T : String) (f : D → List D → M → Res D) (mo : ME) (mas : MA) : ME := fun env h => (mo env h).bind fun x h1 => if isTyp h1 T x = true then (mas env h1).bind fun xs h2 => f x xs h2 else .stuck
variable {mo : ME} {name : Str} {apos cpos : Pos} {T id : String} {r : V → List V → Hp → VK → Prop} {f : D → List D → M → Res D}
theorem fe_bm (pa : PlainAttrs T) (slot : Slot T name id) (hty : typeOf (.builtin id) = pure (.type "method_descriptor")) (hm : MtR X id r) (hf : AbM (wo X) r f) (ho : FE X W ex o mo) (hs : FA X W ex (e :: es) mas)
    (hbase : attributeBase o name X.env (eval o X.env) = eval o X.env := by rfl)
    (hfew : ((backTo cpos (starEach (e :: es) X.env)).all (fun x => !x.1) && (backToKw cpos (keywordEach [] X.env)).all (fun x => x.1.isSome)
      && decide ((e :: es).length + ([] : List Keyword).length + (if ([] : List Keyword).isEmpty then 0 else 1) < 30)) = true := by rfl)
    (hline : (apos.endLine == cpos.line) = true := by rfl) (hst : starEach (e :: es) X.env = (false, eval e X.env) :: starEach es X.env := by rfl) (hplain : (backTo cpos (starEach es X.env)).any (·.1) = false := by rfl) :
    FE X W ex (.Call (.Attribute o name apos) (e :: es) [] cpos) (mBM T f mo mas) := by
  refine PE.imp (pe_bm pa slot hty hm ho hs hbase hfew hline hst hplain) fun σ H Q q => ?_
  obtain ⟨ι, h, env, rel, re, po⟩ := q
  refine ⟨ι, h, env, rel, re, post_bind po fun x h1 ι1 H1 v eq1 p1 k1 rel1 rv1 po1 => ?_⟩
  split at po1
  case isFalse => exact po1.elim
  rename_i ht
  refine ⟨isTyp_ok rel1 rv1 ht, ι1, h1, env, rel1, re.mono p1 k1, post_bind po1 fun xs h2 ι2 H2 vs eq2 p2 k2 rel2 rv2 po2 => ?_⟩
  exact hf _ ι2 H2 h2 x xs v vs Q rel2 (RV.mono p2 k2 _ _ rv1) rv2 po2
theorem fe_bm0 (pa : PlainAttrs T) (slot : Slot T name id) (hty : typeOf (.builtin id) = pure (.type "method_descriptor")) (hm : MtR X id r) (hf : AbM (wo X) r f) (ho : FE X W ex o mo)
    (hbase : attributeBase o name X.env (eval o X.env) = eval o X.env := by rfl) (hline : (apos.endLine == cpos.line) = true := by rfl) : FE X W ex (.Call (.Attribute o name apos) [] [] cpos) (mBM T f mo mNil) := by
  refine PE.imp (pe_bm0 pa slot hty hm ho hbase hline) fun σ H Q q => ?_
  obtain ⟨ι, h, env, rel, re, po⟩ := q
  refine ⟨ι, h, env, rel, re, post_bind po fun x h1 ι1 H1 v eq1 p1 k1 rel1 rv1 po1 => ?_⟩
  split at po1
  case isFalse => exact po1.elim
  rename_i ht
  exact ⟨isTyp_ok rel1 rv1 ht, hf _ ι1 H1 h1 x [] v [] Q rel1 rv1 RVs.nil po1⟩
/-- a list changed -/
theorem po_wr {G : Wo} {E : WX'} {ι : List Addr} {H : Hp} {h : M} {l : Nat} {a : Addr} {xs : List D} {vs : List V} {d : D} {v : V} {Q : VK} (rel : Rel G ι H h) (ea : ι[l]? = some a) (r : RVs G ι H xs vs)
    (rd : ∀ H', Keep H H' → RV G ι H' d v) (po : Post G (fun ι H d v => RV G ι H d v) E ι H (.ok d (h.set l (.lst xs))) Q) : Q v (upd H a (.lst vs)) := by
  have k : Keep H (upd H a (.lst vs)) := by
    obtain ⟨u0, e0, nf, mu⟩ := rel.tracked ea
    exact fun b o' eb f => by
      have : b ≠ a := fun z => by rw [z, e0] at eb; cases eb; exact nf f
      rw [upd_ne this]; exact eb
  have w := rel.write (o := .lst xs) (u := .lst vs) ea ⟨vs, upd_same, RVs.mono (List.prefix_refl _) k _ _ r⟩
  exact po ι _ v (List.prefix_refl _) k w.1 (rd _ k)
def fAppend (x : D) (xs : List D) (h : M) : Res D := match x, xs with
  | .loc l, [y] => match h[l]? with
    | some (.lst ys) => if ys.length < sizeLine then .ok .non (h.set l (.lst (ys ++ [y]))) else .stuck
    | _ => .stuck
  | _, _ => .stuck
theorem fe_append (ho : FE X W ex o mo) (hs : FA X W ex (e :: es) mas) (hbase : attributeBase o "append" X.env (eval o X.env) = eval o X.env := by rfl)
    (hfew : ((backTo cpos (starEach (e :: es) X.env)).all (fun x => !x.1) && (backToKw cpos (keywordEach [] X.env)).all (fun x => x.1.isSome)
      && decide ((e :: es).length + ([] : List Keyword).length + (if ([] : List Keyword).isEmpty then 0 else 1) < 30)) = true := by rfl)
    (hline : (apos.endLine == cpos.line) = true := by rfl) (hst : starEach (e :: es) X.env = (false, eval e X.env) :: starEach es X.env := by rfl) (hplain : (backTo cpos (starEach es X.env)).any (·.1) = false := by rfl) :
    FE X W ex (.Call (.Attribute o "append" apos) (e :: es) [] cpos) (mBM "list" fAppend mo mas) := by
  refine fe_bm PySem.F.plainAttrs_list PySem.F.slot_list_append PySem.F.type_list_append mt_append (fun E ι H h x xs v vs Q rel rx rxs po => ?_) ho hs hbase hfew hline hst hplain
  unfold fAppend at po
  split at po
  case h_2 => exact po.elim
  split at po
  case h_2 => exact po.elim
  rename_i ys e1
  split at po
  case isFalse => exact po.elim
  rename_i hz
  obtain ⟨w, rfl, rw'⟩ := rxs.eq1
  obtain ⟨a, ws, rfl, ea, q, r⟩ := at_lst rel rx e1
  have hl := RVs.length r
  exact ⟨a, ws, w, rfl, rfl, q, by omega, po_wr rel ea (r.append (RVs.one rw')) (fun _ _ => by simp [RV]) po⟩
end
/-- extend by a tuple -/
theorem extend_by_tup (l : Addr) (xs : Array Value) (k : Nat) (b : Addr) (ys : Array Value) (n2 : Nat) (dd : Option Addr) (sl : Array (Option Value)) (hs0 : ¬(!xs.isEmpty && Builtin.List.listTooLong (xs.size + ys.size)) = true) (hs1 : xs.size ≤ sizeLine) (hs2 : xs.size + ys.size ≤ sizeLine + 1) :
    Meets (Builtin.«list.extend» ⟨[.ref l, .ref b], []⟩) (fun _ R s => s.heap.get? l = some { cls := .type "list", dict := none, data := .seq xs k, slots := #[] } ∧ s.heap.get? b = some ⟨.type "tuple", dd, .seq ys n2, sl⟩ ∧
      R (.ok (.ret Value.none)) { s with heap := s.heap.update l (Obj.mapSeq fun x => x ++ ys), toks := s.toks }) :=
  .of_wp fun prog w A R s h => by
    obtain ⟨hp, g, d, tk, os⟩ := s
    obtain ⟨hl, hb, h⟩ := h
    have f1 := AutoSeq1.idx_int
    have f2 := AutoSeq1.sub_tuple_tuple; have f3 := AutoSeq1.sub_list_list; have f4 := AutoSeq1.sub_tuple_list; have f5 := AutoSeq1.sub_list_tuple
    have hz' : (xs ++ ys).size ≤ sizeLine + 1 := by rw [Array.size_append]; exact hs2
    wp_walk using (wpAny_updateSeq hl rfl (hz := hs1) (_hz' := hz')), AutoSeq1.wpAny_loadPart' hl, AutoSeq1.wpAny_loadPart' hb
    exact ⟨_, rfl, h⟩
section
variable {X : Cx} {W : WX} {ex : Ex} {e a b i o : Expr} {es : List Expr} {ma mb mc : ME} {mas : MA} {pos : Pos}
variable {mo : ME} {name : Str} {apos cpos : Pos} {T id : String} {r : V → List V → Hp → VK → Prop} {f : D → List D → M → Res D}
theorem mt_extendT : MtM X "list.extend" (fun x vs H Q => ∃ l b xs zs, x = .ref l ∧ vs = [.ref b] ∧ H l = some (.lst xs) ∧ SqT X.K H b zs ∧ xs.length + zs.length ≤ sizeLine ∧ Q .non (upd H l (.lst (xs ++ zs)))) := by
  intro pins s σ H x vs v us Q I rx rv h
  obtain ⟨l, b, xs, zs, rfl, rfl, hH, hB, hz, q⟩ := h
  cases rx
  obtain ⟨u, rfl, ru⟩ := rv.one
  cases ru
  obtain ⟨z, its, n, r, hl, e⟩ := I.lstM hH
  obtain ⟨its2, r2, ⟨ob, e2, c2, n2, d2⟩, hz2⟩ := I.tuple hB
  have hl2 := r2.length
  obtain ⟨oc, od, dt, sl⟩ := ob
  simp only at c2 d2
  subst c2 d2
  have hsz : its.toArray.size + its2.toArray.size ≤ sizeLine := by rw [List.size_toArray, List.size_toArray]; omega
  have hlong : ¬ (!its.toArray.isEmpty && Builtin.List.listTooLong (its.toArray.size + its2.toArray.size)) = true := by
    rw [notLongL hsz, Bool.and_false]
    exact Bool.false_ne_true
  refine call_meets F.slot_list_extend ⟨_, e, rfl⟩ F.entry_list_extend (F.args_list_extend_2 _ _)
    (extend_by_tup l its.toArray n b its2.toArray n2 _ _ hlong (by rw [List.size_toArray]; omega) (by omega)) ⟨e, e2, ?_⟩
  refine ⟨.non, _, I.lset (its' := its ++ its2) hH e (by simp) (r.append r2) ?_, rfl, q⟩
  rw [List.length_append]
  exact hz
theorem MtR_or {r r' : V → List V → Hp → VK → Prop} (h : MtR X id r) (h' : MtR X id r') : MtR X id (fun x xs H Q => r x xs H Q ∨ r' x xs H Q) := by
  intro pins s σ H x xs v us Q I rx rv q
  rcases q with q | q
  · exact h pins s σ H x xs v us Q I rx rv q
  · exact h' pins s σ H x xs v us Q I rx rv q
def fExtend (x : D) (xs : List D) (h : M) : Res D := match x, xs with
  | .loc l, [y] => match h[l]? with
    | some (.lst ys) => match tupOf y with
      | some zs => if ys.length + zs.length ≤ sizeLine then .ok .non (h.set l (.lst (ys ++ zs))) else .stuck
      | none => match y with
        | .loc k => match h[k]? with
          | some (.lst zs) => if ys.length + zs.length ≤ sizeLine then .ok .non (h.set l (.lst (ys ++ zs))) else .stuck
          | _ => .stuck
        | _ => .stuck
    | _ => .stuck
  | _, _ => .stuck
theorem fe_extend (ho : FE X W ex o mo) (hs : FA X W ex (e :: es) mas) (hbase : attributeBase o "extend" X.env (eval o X.env) = eval o X.env := by rfl)
    (hfew : ((backTo cpos (starEach (e :: es) X.env)).all (fun x => !x.1) && (backToKw cpos (keywordEach [] X.env)).all (fun x => x.1.isSome)
      && decide ((e :: es).length + ([] : List Keyword).length + (if ([] : List Keyword).isEmpty then 0 else 1) < 30)) = true := by rfl)
    (hline : (apos.endLine == cpos.line) = true := by rfl) (hst : starEach (e :: es) X.env = (false, eval e X.env) :: starEach es X.env := by rfl) (hplain : (backTo cpos (starEach es X.env)).any (·.1) = false := by rfl) :
    FE X W ex (.Call (.Attribute o "extend" apos) (e :: es) [] cpos) (mBM "list" fExtend mo mas) := by
  refine fe_bm PySem.F.plainAttrs_list PySem.F.slot_list_extend PySem.F.type_list_extend (MtR_or mt_extend mt_extendT) (fun E ι H h x xs v vs Q rel rx rxs po => ?_) ho hs hbase hfew hline hst hplain
  unfold fExtend at po
  split at po
  case h_2 => exact po.elim
  split at po
  case h_2 => exact po.elim
  rename_i ys e1
  obtain ⟨w, rfl, rw'⟩ := rxs.eq1
  obtain ⟨a, ws, rfl, ea, q, r⟩ := at_lst rel rx e1
  have hl := RVs.length r
  split at po
  · rename_i zs ez
    split at po
    case isFalse => exact po.elim
    rename_i hz
    obtain ⟨b, us, rfl, s, r2⟩ := tupOf_sq (G := wo X) rw' ez
    have hl2 := RVs.length r2
    exact .inr ⟨a, b, ws, us, rfl, rfl, q, s, by omega, po_wr rel ea (r.append r2) (fun _ _ => by simp [RV]) po⟩
  · split at po
    · split at po
      · rename_i zs ez
        split at po
        case isFalse => exact po.elim
        rename_i hz
        obtain ⟨b, us, rfl, _, s, r2⟩ := at_lst rel rw' ez
        have hl2 := RVs.length r2
        exact .inl ⟨a, b, ws, us, rfl, rfl, q, s, by omega, po_wr rel ea (r.append r2) (fun _ _ => by simp [RV]) po⟩
      · exact po.elim
    · exact po.elim
end
end LF
set_option Elab.async false
set_option linter.all false
set_option maxRecDepth 100000
set_option maxHeartbeats 4000000
/-! LF5: defs, statements, loops. -/
namespace LF
open PySem PySem.Spec L2
open PyProof.Rows hiding St

/-! ### defs -/
def spF (G : Wo) (n : Nat) (m : List D → M → Res D) : Sp := fun vs H Q E => vs.length = n ∧ ∃ ι h ds, Rel G ι H h ∧ RVs G ι H ds vs ∧ Post G (fun ι H d v => RV G ι H d v) E ι H (m ds h) Q
structure Def (P : Program) (w : World) (K : PySem.W.Frag) (mg : Str → Option Value) (base : Heap) (x : Str) (k n : Nat) (m : List D → M → Res D) : Prop where
  ex : ∃ f fd ps, ps.length = n ∧ mg x = some (.ref f) ∧ PySem.W.keepIn K (.ref f) = true ∧ Binds K fd ps [] ∧ FnOk P w K mg base (L2N.CX P w) k f fd ps (spF ⟨K, mg⟩ n m)
theorem Def.mono {P : Program} {w : World} {K : PySem.W.Frag} {mg : Str → Option Value} {base : Heap} {x : Str} {k k' n : Nat} {m : List D → M → Res D} (F : Def P w K mg base x k n m) (h : k ≤ k') : Def P w K mg base x k' n m := by
  obtain ⟨f, fd, ps, h1, h2, h3, h4, h5⟩ := F.ex
  exact ⟨f, fd, ps, h1, h2, h3, h4, h5.mono h⟩
structure DefH (P : Program) (w : World) (K : PySem.W.Frag) (mg : Str → Option Value) (base : Heap) (x : Str) (k n : Nat) (m : List D → M → Res D) : Prop where
  ex : ∃ f fd ps, ps.length = n ∧ mg x = some (.ref f) ∧ PySem.W.keepIn K (.ref f) = true ∧ Binds K fd ps [] ∧ L2H.FnH P w K mg base (L2N.CX P w) k f fd ps (spF ⟨K, mg⟩ n m)
def mFix (n : Nat) (m : List D → M → Res D) : List D → M → Res D := fun ds h => if ds.length = n then m ds h else .stuck
def mFn (N n : Nat) (mb : MS) : List D → M → Res D := fun ds h =>
  match mb (ds.map .va ++ List.replicate (N - n) .no) h with
  | .nx _ h => .ok .non h
  | .rt d h => .ok d h
  | .exc x ns xs _ h => .exc x ns xs h
  | _ => .stuck
theorem REn.start {G : Wo} {ι : List Addr} {H : Hp} {N : List Str} {ds : List D} {vs : List V} (r : RVs G ι H ds vs) : REn G none ι H (ds.map .va ++ List.replicate (N.length - vs.length) .no) (start N vs) := by
  have hl := RVs.length r
  refine ⟨by simp [L2.start, hl], fun i d e => ?_, fun i e => ?_, fun c e => nomatch e⟩
  · by_cases hi : i < ds.length
    · rw [List.getElem?_append_left (by simpa using hi), List.getElem?_map] at e
      simp only [Option.map_eq_some_iff] at e
      obtain ⟨d', e1, e2⟩ := e
      cases e2
      obtain ⟨v, ev, rv⟩ := r.get e1
      refine ⟨v, ?_, rv⟩
      unfold L2.start
      rw [List.getElem?_append_left (by simp; omega), List.getElem?_map, ev]; rfl
    · rw [List.getElem?_append_right (by simpa using Nat.le_of_not_lt hi), List.getElem?_replicate] at e
      split at e <;> cases e
  · by_cases hi : i < ds.length
    · rw [List.getElem?_append_left (by simpa using hi), List.getElem?_map] at e
      simp only [Option.map_eq_some_iff] at e
      obtain ⟨d', e1, e2⟩ := e
      cases e2
    · rw [List.getElem?_append_right (by simpa using Nat.le_of_not_lt hi), List.getElem?_replicate] at e
      split at e <;> cases e
theorem body_end {G : Wo} {N ps : List Str} {mb : MS} {vs : List V} {H : Hp} {Q : VK} {E : XK} (hsp : spF G ps.length (mFn N.length ps.length mb) vs H Q E) :
    rdS G none (fun c d _ H => E c d H) mb { nx := fun _ H' => Q .non H', rt := Q } (start N vs) H := by
  obtain ⟨hl, ι, h, ds, rel, r, po⟩ := hsp
  refine ⟨ι, h, _, rel, REn.start r, ?_⟩
  unfold mFn at po
  rw [hl]
  generalize mb (ds.map .va ++ List.replicate (N.length - ps.length) .no) h = z at po ⊢
  cases z with
  | nx env h' => exact fun ι' H' σ' p k rel' _ => po ι' H' .non p k rel' (by simp [RV])
  | rt d h' => exact po
  | exc x ns xs env h' => exact fun ι' H' σ' C d p k rel' _ g xf => po ι' H' C d p k rel' g xf
  | bk _ _ => exact po.elim
  | ct _ _ => exact po.elim
  | stuck => exact po.elim
theorem okN {CX : CXT} {P : Program} {w : World} {K : PySem.W.Frag} {mg : Str → Option Value} {base : Heap} {x qual : Str} {st : Stmt} {f : Addr} {fd : FuncData} {N ps : List Str} {k : Nat} {sp : Sp} (F : Fun K x qual st f fd) (S : FnScope N ps (defScope st)) (len : ∀ vs H Q E, sp vs H Q E → vs.length = ps.length)
    (hbody : ∀ (cdv : Value) (A : Around) (outer : List Env) (s : Shared) (H : Hp) (vs : List V) (Q : VK) (E : XK), Room k (A.deeper (envOfC qual (defScope st) s.heap.objs.size f cdv)) → sp vs H Q E →
      ∃ t, PSs (cxOf CX P w K mg base N qual (defScope st) f cdv A outer s H E) (defBody st) t ∧ t { nx := fun _ H' => Q .non H', rt := Q } (start N vs) H) : FnOk P w K mg base CX (k + 1) f fd ps sp := by
  obtain ⟨oc, od, kV, doc, pm, an, cdv, ct, osl, rfl, lk, hcd⟩ := F.ex
  exact fn_of lk hcd S len (hbody cdv)
/-- the same, of a def that is called while an exception is handled -/
theorem okH {CX : CXT} {P : Program} {w : World} {K : PySem.W.Frag} {mg : Str → Option Value} {base : Heap} {x qual : Str} {st : Stmt} {f : Addr} {fd : FuncData} {N ps : List Str} {k : Nat} {sp : Sp} (F : Fun K x qual st f fd) (S : FnScope N ps (defScope st)) (len : ∀ vs H Q E, sp vs H Q E → vs.length = ps.length)
    (hbody : ∀ (cdv : Value) (A : Around) (outer : List Env) (s : Shared) (H : Hp) (vs : List V) (Q : VK) (E : XK) (p : Addr × Obj), L2H.Hot1 A p → L2H.RoomH k (A.deeper (envOfC qual (defScope st) s.heap.objs.size f cdv)) → sp vs H Q E →
      ∃ t, PSs (L2H.cxH CX P w K mg base N qual (defScope st) f cdv A outer s H E p) (defBody st) t ∧ t { nx := fun _ H' => Q .non H', rt := Q } (start N vs) H) : L2H.FnH P w K mg base CX (k + 1) f fd ps sp := by
  obtain ⟨oc, od, kV, doc, pm, an, cdv, ct, osl, rfl, lk, hcd⟩ := F.ex
  exact L2H.fn_ofH lk hcd S len (hbody cdv)
theorem def_of {P : Program} {w : World} {K : PySem.W.Frag} {mg : Str → Option Value} {base : Heap} {x qual : Str} {st : Stmt} {f : Addr} {fd : FuncData} {N ps : List Str} {k : Nat} {mb : MS} (F : Fun K x qual st f fd) (S : FnScope N ps (defScope st)) (gx : mg x = some (.ref f)) (hb : Binds K fd ps [])
    (body : ∀ (cdv : Value) (A : Around) (outer : List Env) (s : Shared) (H : Hp) (E : XK), Room k (A.deeper (envOfC qual (defScope st) s.heap.objs.size f cdv)) →
      FSs (cxOf (L2N.CX P w) P w K mg base N qual (defScope st) f cdv A outer s H E) (fun c d _ H => E c d H) none (defBody st) mb) : Def P w K mg base x (k + 1) ps.length (mFn N.length ps.length mb) :=
  ⟨f, fd, ps, rfl, gx, F.kp, hb, okN F S (fun vs H Q E h => h.1) fun cdv A outer s H vs Q E hr hsp => ⟨_, body cdv A outer s H E hr, body_end hsp⟩⟩
theorem defH_of {P : Program} {w : World} {K : PySem.W.Frag} {mg : Str → Option Value} {base : Heap} {x qual : Str} {st : Stmt} {f : Addr} {fd : FuncData} {N ps : List Str} {k : Nat} {mb : MS} (F : Fun K x qual st f fd) (S : FnScope N ps (defScope st)) (gx : mg x = some (.ref f)) (hb : Binds K fd ps [])
    (body : ∀ (cdv : Value) (A : Around) (outer : List Env) (s : Shared) (H : Hp) (E : XK) (p : Addr × Obj), L2H.Hot1 A p → L2H.RoomH k (A.deeper (envOfC qual (defScope st) s.heap.objs.size f cdv)) →
      FSs (L2H.cxH (L2N.CX P w) P w K mg base N qual (defScope st) f cdv A outer s H E p) (fun c d _ H => E c d H) none (defBody st) mb) : DefH P w K mg base x (k + 1) ps.length (mFn N.length ps.length mb) :=
  ⟨f, fd, ps, rfl, gx, F.kp, hb, okH F S (fun vs H Q E h => h.1) fun cdv A outer s H vs Q E p hot hr hsp => ⟨_, body cdv A outer s H E p hot hr, body_end hsp⟩⟩

section
variable {X : Cx} {W : WX} {ex : Ex} {e a b i o : Expr} {es : List Expr} {ma mb mc me : ME} {mas : MA} {pos pos' p : Pos} {x : Str} {k n : Nat} {m : List D → M → Res D}
theorem fe_call (F : Def X.prog X.w X.K X.mg X.base x k n m) (tk : L2N.Takes X W) (hr : Room k X.A) (hs : FA X W ex (e :: es) mas) (hg : Gl X x := by rfl) (hdb : (x == ("__debug__" : Str)) = false := by decide)
    (he : starEach (e :: es) X.env = (false, eval e X.env) :: starEach es X.env := by rfl) (hpl : (backTo pos (starEach es X.env)).any (·.1) = false := by rfl) : FE X W ex (.Call (.Name x p) (e :: es) [] pos) (mL (mFix n m) mas) := by
  obtain ⟨f, fd, ps, h1, h2, h3, h4, h5⟩ := F.ex
  refine PE.imp (pe_callS h5 hr hg h2 h3 h4 (L2N.passAt tk) hs hdb he hpl) fun σ H Q q => ?_
  obtain ⟨ι, h, env, rel, re, po⟩ := q
  refine ⟨ι, h, env, rel, re, post_bind po fun xs h1 ι1 H1 vs eq1 p1 k1 rel1 rv1 po1 => ?_⟩
  unfold mFix at po1
  split at po1
  case isFalse => exact po1.elim
  rename_i hl
  exact ⟨by rw [← RVs.length rv1]; exact hl, ι1, h1, xs, rel1, rv1, po1⟩
theorem fe_call0 (F : Def X.prog X.w X.K X.mg X.base x k n m) (tk : L2N.Takes X W) (hr : Room k X.A) (hn : n = 0) (hg : Gl X x := by rfl) (hdb : (x == ("__debug__" : Str)) = false := by decide) : FE X W ex (.Call (.Name x p) [] [] pos) (mL m mNil) := by
  obtain ⟨f, fd, ps, h1, h2, h3, h4, h5⟩ := F.ex
  have P0 : PE X (.Call (.Name x p) [] [] pos) (fun σ H Q => spF ⟨X.K, X.mg⟩ n m [] H Q (WE W σ)) := by
    refine ⟨fun pins s σ H Q I h => ?_⟩
    refine wpAny_Call_Name_kw (ld_glob I hg h2 ?_ hdb)
    exact PySem.W.callWith_K0 I.kIn h3 (run_fnS (E := WE W) (us := []) h5 hr h4 (L2N.passAt tk σ) I .nil h)
  refine PE.imp P0 fun σ H Q q => ?_
  obtain ⟨ι, h, env, rel, re, po⟩ := q
  exact ⟨hn.symm, ι, h, [], rel, RVs.nil, po⟩

/-- a def, called while an exception is handled -/
theorem fe_callH (F : DefH X.prog X.w X.K X.mg X.base x k n m) (tk : L2N.Takes X W) (hu : L2H.RoomH k X.A) (hc : L2H.HotC X) (hs : FA X W ex (e :: es) mas) (hg : Gl X x := by rfl) (hdb : (x == ("__debug__" : Str)) = false := by decide)
    (he : starEach (e :: es) X.env = (false, eval e X.env) :: starEach es X.env := by rfl) (hpl : (backTo pos (starEach es X.env)).any (·.1) = false := by rfl) : FE X W ex (.Call (.Name x p) (e :: es) [] pos) (mL (mFix n m) mas) := by
  obtain ⟨f, fd, ps, h1, h2, h3, h4, h5⟩ := F.ex
  refine PE.imp (L2H.pe_callH h5 hu hc hg h2 h3 h4 (L2N.passAt tk) hs hdb he hpl) fun σ H Q q => ?_
  obtain ⟨ι, h, env, rel, re, po⟩ := q
  refine ⟨ι, h, env, rel, re, post_bind po fun xs h1 ι1 H1 vs eq1 p1 k1 rel1 rv1 po1 => ?_⟩
  unfold mFix at po1
  split at po1
  case isFalse => exact po1.elim
  rename_i hl
  exact ⟨by rw [← RVs.length rv1]; exact hl, ι1, h1, xs, rel1, rv1, po1⟩

/-! ### small statements -/
def SR.of {α : Type} (r : Res α) (env : En) (k : α → M → SR) : SR :=
  match r with
  | .ok a h => k a h
  | .exc x ns vs h => .exc x ns vs env h
  | .stuck => .stuck
@[simp] theorem of_ok {α : Type} {a : α} {h : M} {env : En} {k : α → M → SR} : SR.of (.ok a h) env k = k a h := (rfl)
@[simp] theorem of_exc {α : Type} {x ns vs} {h : M} {env : En} {k : α → M → SR} : SR.of (.exc x ns vs h) env k = .exc x ns vs env h := (rfl)
@[simp] theorem of_stuck {α : Type} {env : En} {k : α → M → SR} : SR.of (.stuck : Res α) env k = .stuck := (rfl)
theorem post_of {α β : Type} {G : Wo} {B : List Addr → Hp → α → β → Prop} {ι : List Addr} {H : Hp} {r : Res α} {env : En} {σ : St} {k : α → M → SR} {D : Ends} {Q : β → Hp → Prop} (re : REn G ex ι H env σ)
    (h : PostS G ex W ι H (SR.of r env k) D) (hk : ∀ d h1 ι1 H1 v, r = .ok d h1 → ι <+: ι1 → Keep H H1 → Rel G ι1 H1 h1 → B ι1 H1 d v → PostS G ex W ι1 H1 (k d h1) D → Q v H1) : Post G B (fun c d H' => W c d σ H') ι H r Q := by
  cases r with
  | ok d h1 => exact fun ι1 H1 v p kk rel b => hk d h1 ι1 H1 v rfl p kk rel b (PostS.mono p kk h)
  | exc x ns xs h1 => exact fun ι1 H1 C d p kk rel g xf => h ι1 H1 σ C d p kk rel (re.mono p kk) g xf
  | stuck => exact h
theorem ps_nx {G : Wo} {ι : List Addr} {H : Hp} {env : En} {σ : St} {h : M} {D : Ends} (rel : Rel G ι H h) (re : REn G ex ι H env σ) (po : PostS G ex W ι H (.nx env h) D) : D.nx σ H := po ι H σ (List.prefix_refl _) (Keep.refl _) rel re
variable {st : Stmt} {rest body sa sb : List Stmt} {ms ms' msa msb : MS} {tc : MT} {c : Expr}
def mSkip : MS := fun env h => .nx env h
def mSeq (a b : MS) : MS := fun env h => match a env h with
  | .nx env' h' => b env' h'
  | r => r
theorem fs_nil : FSs X W ex [] mSkip := by
  refine PSs.imp pss_nil fun D σ H q => ?_
  obtain ⟨ι, h, env, rel, re, po⟩ := q
  exact ps_nx rel re po
theorem fs_cons (h1 : FS X W ex st ms) (h2 : FSs X W ex rest ms') : FSs X W ex (st :: rest) (mSeq ms ms') := by
  refine PSs.imp (pss_cons h1 h2) fun D σ H q => ?_
  obtain ⟨ι, h, env, rel, re, po⟩ := q
  refine ⟨ι, h, env, rel, re, ?_⟩
  unfold mSeq at po
  cases e : ms env h <;> rw [e] at po
  case nx env' h' => exact fun ι' H' σ' p k rel' re' => ⟨ι', h', env', rel', re', PostS.mono p k po⟩
  all_goals exact po
theorem fs_one (h1 : FS X W ex st ms) : FSs X W ex [st] ms := pss_one h1
theorem fs_pass : FS X W ex (.Pass pos) mSkip := by
  refine PS.imp ps_pass fun D σ H q => ?_
  obtain ⟨ι, h, env, rel, re, po⟩ := q
  exact ps_nx rel re po
theorem fs_doc {z j} : FS X W ex (.Expr (.Constant (.str z) j pos) pos') mSkip := by
  refine PS.imp ps_doc fun D σ H q => ?_
  obtain ⟨ι, h, env, rel, re, po⟩ := q
  exact ps_nx rel re po
def mBreak : MS := fun env h => .bk env h
def mCont : MS := fun env h => .ct env h
theorem fs_break : FS X W ex (.Break pos) mBreak := by
  refine PS.imp ps_break fun D σ H q => ?_
  obtain ⟨ι, h, env, rel, re, po⟩ := q
  exact po ι H σ (List.prefix_refl _) (Keep.refl _) rel re
theorem fs_cont : FS X W ex (.Continue pos) mCont := by
  refine PS.imp ps_continue fun D σ H q => ?_
  obtain ⟨ι, h, env, rel, re, po⟩ := q
  exact po ι H σ (List.prefix_refl _) (Keep.refl _) rel re
def mSet (i : Nat) (me : ME) : MS := fun env h => SR.of (me env h) env fun d h => .nx (env.set i (.va d)) h
theorem fs_set {i : Nat} (hN : X.N.Nodup) (he : FE X W ex e me) (hi : X.N[i]? = some x := by rfl) (hx : Loc X.env.scope x := by first | exact Or.inl rfl | exact Or.inr rfl) (hs : swapsWith e (some (.Name x pos')) pos.line X.env = pure false := by rfl)
    (hf : X.fn x = true ∨ X.env.scope.names.lookup x = some .local := by first | exact .inl rfl | exact .inr rfl | assumption) : FS X W ex (.Assign [.Name x pos'] e pos) (mSet i me) := by
  refine PS.imp (ps_set hN hi hx he hs hf) fun D σ H q => ?_
  obtain ⟨ι, h, env, rel, re, po⟩ := q
  refine ⟨ι, h, env, rel, re, post_of re po fun d h1 ι1 H1 v eq1 p1 k1 rel1 rv1 po1 => ?_⟩
  exact ps_nx rel1 ((re.mono p1 k1).set i rv1) po1
def mDo (me : ME) : MS := fun env h => SR.of (me env h) env fun _ h => .nx env h
theorem fs_expr (he : FE X W ex e me) (hs : swapsWith e none pos.line X.env = pure false := by rfl) : FS X W ex (.Expr e pos) (mDo me) := by
  refine PS.imp (ps_expr he hs) fun D σ H q => ?_
  obtain ⟨ι, h, env, rel, re, po⟩ := q
  refine ⟨ι, h, env, rel, re, post_of re po fun d h1 ι1 H1 v eq1 p1 k1 rel1 rv1 po1 => ?_⟩
  exact ps_nx rel1 (re.mono p1 k1) po1
def mRet (me : ME) : MS := fun env h => SR.of (me env h) env fun d h => .rt d h
theorem fs_ret (he : FE X W ex e me) : FS X W ex (.Return (some e) pos) (mRet me) := by
  refine PS.imp (ps_ret he) fun D σ H q => ?_
  obtain ⟨ι, h, env, rel, re, po⟩ := q
  refine ⟨ι, h, env, rel, re, post_of re po fun d h1 ι1 H1 v eq1 p1 k1 rel1 rv1 po1 => ?_⟩
  exact po1 ι1 H1 v (List.prefix_refl _) (Keep.refl _) rel1 rv1
def mRetN : MS := fun env h => .rt .non h
theorem fs_retN : FS X W ex (.Return none pos) mRetN := by
  refine PS.imp ps_retN fun D σ H q => ?_
  obtain ⟨ι, h, env, rel, re, po⟩ := q
  exact po ι H .non (List.prefix_refl _) (Keep.refl _) rel (by simp [RV])
def mIfS (t : MT) (a b : MS) : MS := fun env h => SR.of (t env h) env fun b' h => if b' = true then a env h else b env h
theorem fs_if (hc : FT X W ex c tc) (ha : FSs X W ex sa msa) (hb : FSs X W ex sb msb) : FS X W ex (.If c sa sb pos) (mIfS tc msa msb) := by
  refine PS.imp (ps_if hc ha hb) fun D σ H q => ?_
  obtain ⟨ι, h, env, rel, re, po⟩ := q
  refine ⟨ι, h, env, rel, re, post_of re po fun d h1 ι1 H1 v eq1 p1 k1 rel1 rv1 po1 => ?_⟩
  cases rv1
  cases d with
  | true => exact iteT ⟨ι1, h1, env, rel1, re.mono p1 k1, po1⟩
  | false => exact iteF ⟨ι1, h1, env, rel1, re.mono p1 k1, po1⟩
/-- name op= e -/
def mAug (i : Nat) (f : D → D → M → Res D) (me : ME) : MS := fun env h => match env[i]? with
  | some (.va d) => SR.of ((me env h).bind fun y h1 => f d y h1) env fun z h2 => .nx (env.set i (.va z)) h2
  | _ => .stuck
theorem fs_aug {i : Nat} {op : Operator} {r : R2} {f : D → D → M → Res D} (ho : OpR X (inplaceOp op) r) (hf : Ab2 (wo X) r f) (hN : X.N.Nodup) (he : FE X W ex e me) (hi : X.N[i]? = some x := by rfl) (hx : Loc X.env.scope x := by first | exact Or.inl rfl | exact Or.inr rfl)
    (hfn : X.fn x = true ∨ X.env.scope.names.lookup x = some .local := by first | exact .inl rfl | exact .inr rfl | assumption) : FS X W ex (.AugAssign (.Name x pos') op e pos) (mAug i f me) := by
  refine PS.imp (ps_aug (ti := r) hN hi hx he ho hfn) fun D σ H q => ?_
  obtain ⟨ι, h, env, rel, re, po⟩ := q
  unfold mAug at po
  split at po
  case h_2 => exact po.elim
  rename_i d ed
  obtain ⟨v, ev, rv⟩ := re.at_ i d ed
  refine ⟨v, ev, ι, h, env, rel, re, ?_⟩
  have po' := post_of (σ := σ) (B := fun ι H d v => RV (wo X) ι H d v) (Q := fun z H2 => D.nx (σ.set i (some z)) H2) re po fun z h2 ι2 H2 zv eq2 p2 k2 rel2 rv2 po2 => ps_nx rel2 ((re.mono p2 k2).set i rv2) po2
  exact post_bind po' fun y h1 ι1 H1 u eq1 p1 k1 rel1 rv1 po1 => hf _ ι1 H1 h1 d y v u _ rel1 (RV.mono p1 k1 _ _ rv) rv1 po1
theorem fs_augadd {i : Nat} (hN : X.N.Nodup) (he : FE X W ex e me) (hi : X.N[i]? = some x := by rfl) (hx : Loc X.env.scope x := by first | exact Or.inl rfl | exact Or.inr rfl)
    (hfn : X.fn x = true ∨ X.env.scope.names.lookup x = some .local := by first | exact .inl rfl | exact .inr rfl | assumption) : FS X W ex (.AugAssign (.Name x pos') .Add e pos) (mAug i (fI (fun _ _ => True) fun i j => .int (i + j)) me) :=
  fs_aug iop_add (ab_I0 fun _ _ _ _ => by simp [RV]) hN he hi hx hfn
theorem fs_augsub {i : Nat} (hN : X.N.Nodup) (he : FE X W ex e me) (hi : X.N[i]? = some x := by rfl) (hx : Loc X.env.scope x := by first | exact Or.inl rfl | exact Or.inr rfl)
    (hfn : X.fn x = true ∨ X.env.scope.names.lookup x = some .local := by first | exact .inl rfl | exact .inr rfl | assumption) : FS X W ex (.AugAssign (.Name x pos') .Sub e pos) (mAug i fSub me) :=
  fs_aug iop_sub (ab_I0 fun _ _ _ _ => by simp [RV]) hN he hi hx hfn

/-! ### targets -/
abbrev MG := D → En → M → Res En
abbrev MGs := List D → En → M → Res En
/-- the slots at sl alone may be changed -/
def Only' (sl : List Nat) (σ σ' : St) : Prop := ∀ vs : List Nat, (∀ i ∈ sl, i ∈ vs) → wipe σ' vs = wipe σ vs
def rdG (G : Wo) (ex : Ex) (W : WX) (sl : List Nat) (m : MG) : TG := fun v σ H Q => ∃ ι h env d, Rel G ι H h ∧ REn G ex ι H env σ ∧ RV G ι H d v ∧ Post G (fun ι H env' σ' => REn G ex ι H env' σ' ∧ Only' sl σ σ') (fun c d H' => W c d σ H') ι H (m d env h) Q
def rdGs (G : Wo) (ex : Ex) (W : WX) (sl : List Nat) (m : MGs) : TGs := fun vs σ H Q => ∃ ι h env ds, Rel G ι H h ∧ REn G ex ι H env σ ∧ RVs G ι H ds vs ∧ Post G (fun ι H env' σ' => REn G ex ι H env' σ' ∧ Only' sl σ σ') (fun c d H' => W c d σ H') ι H (m ds env h) Q
def FG (X : Cx) (W : WX) (ex : Ex) (e : Expr) (sl : List Nat) (m : MG) : Prop := PG X e (rdG (wo X) ex W sl m)
def FGs (X : Cx) (W : WX) (ex : Ex) (es : List Expr) (sl : List Nat) (m : MGs) : Prop := PGs X es (rdGs (wo X) ex W sl m)
theorem PG.imp {t t' : TG} (p : PG X e t) (h : ∀ v σ H Q, t' v σ H Q → t v σ H Q) : PG X e t' := ⟨fun pins s σ H v u Q I r q => p.run pins s σ H v u Q I r (h v σ H Q q)⟩
theorem PGs.imp {t t' : TGs} (p : PGs X es t) (h : ∀ v σ H Q, t' v σ H Q → t v σ H Q) : PGs X es t' := ⟨fun pins s σ H v u Q I r q => p.run pins s σ H v u Q I r (h v σ H Q q)⟩
def gN (i : Nat) : MG := fun d env h => .ok (env.set i (.va d)) h
theorem wipe_set (i : Nat) (v : Option V) : ∀ (vs : List Nat) (σ : St), i ∈ vs → wipe (σ.set i v) vs = wipe σ vs
  | [], _, h => by cases h
  | u :: vs, σ, h => by
    show (wipe (σ.set i v) vs).set u none = (wipe σ vs).set u none
    by_cases hi : i ∈ vs
    · rw [wipe_set i v vs σ hi]
    · have e : u = i := by
        rcases List.mem_cons.mp h with z | z
        · exact z.symm
        · exact absurd z hi
      subst e
      have out : ∀ (vs : List Nat) (σ : St), wipe (σ.set u v) vs = (wipe σ vs).set u v ∨ wipe (σ.set u v) vs = wipe σ vs := by
        intro vs
        induction vs with
        | nil => intro σ; exact .inl rfl
        | cons z vs ih =>
          intro σ
          show (wipe (σ.set u v) vs).set z none = ((wipe σ vs).set z none).set u v ∨ (wipe (σ.set u v) vs).set z none = (wipe σ vs).set z none
          rcases ih σ with e | e
          · rw [e]
            by_cases hz : z = u
            · subst hz; right; rw [List.set_set]
            · left; rw [List.set_comm _ _ hz]
          · right; rw [e]
      rcases out vs σ with e | e
      · rw [e, List.set_set]
      · rw [e]
theorem fg_name {i : Nat} (hN : X.N.Nodup) (hi : X.N[i]? = some x := by rfl) (hx : Loc X.env.scope x := by first | exact Or.inl rfl | exact Or.inr rfl) (hf : X.fn x = true ∨ X.env.scope.names.lookup x = some .local := by first | exact .inl rfl | exact .inr rfl | assumption) : FG X W ex (.Name x pos) [i] (gN i) := by
  refine PG.imp (pg_name hN hi hx hf) fun v σ H Q q => ?_
  obtain ⟨ι, h, env, d, rel, re, rv, po⟩ := q
  exact po_ok rel ⟨re.set i rv, fun vs hv => wipe_set i _ vs σ (hv i (by simp))⟩ po
def gNil' : MGs := fun ds env h => match ds with
  | [] => .ok env h
  | _ :: _ => .stuck
theorem fgs_nil : FGs X W ex [] [] gNil' := by
  refine PGs.imp pgs_nil fun v σ H Q q => ?_
  obtain ⟨ι, h, env, ds, rel, re, rv, po⟩ := q
  cases ds with
  | nil => simp only [RVs] at rv; exact ⟨rv, po_ok rel ⟨re, fun _ _ => rfl⟩ po⟩
  | cons d ds => exact po.elim
/-- a target's end that raises nothing: stuck in place of an exception -/
def noX {α : Type} (r : Res α) : Res α := match r with
  | .ok a h => .ok a h
  | _ => .stuck
@[simp] theorem noX_ok {α : Type} {a : α} {h : M} : noX (.ok a h) = .ok a h := (rfl)
theorem post_noX {α β : Type} {G : Wo} {B : List Addr → Hp → α → β → Prop} {E E' : WX'} {ι : List Addr} {H : Hp} {r : Res α} {Q : β → Hp → Prop} (h : Post G B E ι H (noX r) Q) : Post G B E' ι H r Q := by
  cases r with
  | ok d h1 => exact h
  | exc x ns xs h1 => exact h.elim
  | stuck => exact h
theorem post_B {α β : Type} {G : Wo} {B B' : List Addr → Hp → α → β → Prop} {E : WX'} {ι : List Addr} {H : Hp} {r : Res α} {Q : β → Hp → Prop} (h : Post G B E ι H r Q) (hb : ∀ ι' H' a b, B' ι' H' a b → B ι' H' a b) : Post G B' E ι H r Q := by
  cases r with
  | ok d h1 => exact fun ι' H' v p k rel b => h ι' H' v p k rel (hb _ _ _ _ b)
  | exc x ns xs h1 => exact h
  | stuck => exact h
def gCons' (g : MG) (gs : MGs) : MGs := fun ds env h => match ds with
  | d :: ds => (g d env h).bind fun env' h' => noX (gs ds env' h')
  | [] => .stuck
theorem fgs_cons {g : MG} {gs : MGs} {sl sl' : List Nat} (h1 : FG X W ex e sl g) (h2 : FGs X W ex es sl' gs) (hs : (assignEach (e :: es) X.env).map (·.2) = assign e X.env :: (assignEach es X.env).map (·.2) := by rfl) : FGs X W ex (e :: es) (sl ++ sl') (gCons' g gs) := by
  refine PGs.imp (pgs_cons h1 h2 hs) fun v σ H Q q => ?_
  obtain ⟨ι, h, env, ds, rel, re, rv, po⟩ := q
  cases ds with
  | nil => exact po.elim
  | cons d ds =>
    simp only [RVs] at rv
    obtain ⟨v1, vr, rfl, r1, r2⟩ := rv
    refine ⟨v1, vr, rfl, ι, h, env, d, rel, re, r1, post_bind po fun env1 h1 ι1 H1 σ1 eq1 p1 k1 rel1 re1 po1 => ?_⟩
    refine ⟨ι1, h1, env1, ds, rel1, re1.1, RVs.mono p1 k1 _ _ r2, post_noX (post_B po1 fun ι' H' env' σ' b => ⟨b.1, fun vs hv => ?_⟩)⟩
    rw [b.2 vs fun i hi => hv i (by simp [hi]), re1.2 vs fun i hi => hv i (by simp [hi])]
def gTp (n : Nat) (gs : MGs) : MG := fun d env h => match tupOf d with
  | some xs => if xs.length = n then gs xs env h else .stuck
  | none => .stuck
theorem fg_tup {gs : MGs} {kk : Nat} {sl : List Nat} (h : FGs X W ex es sl gs) (hc : X.calm = true := by rfl) (hn : (assignEach es X.env).length = n := by rfl) (hst : (assignEach es X.env).findIdx? (·.1) = none := by rfl) : FG X W ex (.Tuple es kk pos) sl (gTp n gs) := by
  refine PG.imp (pg_tup hc h hn hst) fun v σ H Q q => ?_
  obtain ⟨ι, h, env, d, rel, re, rv, po⟩ := q
  unfold gTp at po
  split at po
  case h_2 => exact po.elim
  rename_i xs ed
  split at po
  case isFalse => exact po.elim
  rename_i hl
  obtain ⟨a, vs, rfl, s, r⟩ := tupOf_sq (G := wo X) rv ed
  exact ⟨a, vs, rfl, s, by rw [← RVs.length r]; exact hl, ι, h, env, xs, rel, re, r, po⟩
/-- target = value -/
def mAsg (me : ME) (g : MG) : MS := fun env h => SR.of (me env h) env fun d h => SR.of (g d env h) env fun env' h => .nx env' h
theorem fs_asg {tg : Expr} {g : MG} {sl : List Nat} (he : FE X W ex e me) (hg : FG X W ex tg sl g) (hs : swapsWithSole [tg] e pos.line X.env = pure false := by rfl) (hw : swappedStores [tg] e X.env = pure none := by rfl)
    (h1 : (assignEach [tg] X.env).map (·.2) = [assign tg X.env] := by rfl) : FS X W ex (.Assign [tg] e pos) (mAsg me g) := by
  refine PS.imp (ps_asg he hg hs hw h1) fun D σ H q => ?_
  obtain ⟨ι, h, env, rel, re, po⟩ := q
  refine ⟨ι, h, env, rel, re, post_of re po fun d h1 ι1 H1 v eq1 p1 k1 rel1 rv1 po1 => ?_⟩
  refine ⟨ι1, h1, env, d, rel1, re.mono p1 k1, rv1, post_of (re.mono p1 k1) po1 fun env' h2 ι2 H2 σ2 eq2 p2 k2 rel2 re2 po2 => ?_⟩
  exact ps_nx rel2 re2.1 po2

/-! ### o[i] = e: a list, a dict -/
abbrev BU : List Addr → Hp → Unit → Unit → Prop := fun _ _ _ _ => True
abbrev R3 := V → V → V → Hp → (Hp → Prop) → Prop
def t3 (r : R3) (to ti te : TE) : TS := fun D σ H => te σ H fun v H1 => to σ H1 fun o H2 => ti σ H2 fun i H3 => r o i v H3 fun H4 => D.nx σ H4
def At3 (G : Wo) (r : R3) (f : D → D → D → M → Res Unit) (o i v : D) (h : M) : Prop := ∀ (E : WX') ι H ov iv vv (Q : Hp → Prop), Rel G ι H h → RV G ι H o ov → RV G ι H i iv → RV G ι H v vv → Post G BU E ι H (f o i v h) (fun _ H' => Q H') → r ov iv vv H Q
def m3 (f : D → D → D → M → Res Unit) (mo mi me : ME) : MS := fun env h => SR.of ((me env h).bind fun v h1 => (mo env h1).bind fun o h2 => (mi env h2).bind fun i h3 => f o i v h3) env fun _ h => .nx env h
theorem rd3_or {r r' : R3} {f : D → D → D → M → Res Unit} {G : Wo} {mo mi : ME} (hf : ∀ o i v h, At3 G r f o i v h ∨ At3 G r' f o i v h) {D : Ends} {σ : St} {H : Hp} (q : rdS G ex W (m3 f mo mi me) D σ H) :
    t3 r (rdE G ex W mo) (rdE G ex W mi) (rdE G ex W me) D σ H ∨ t3 r' (rdE G ex W mo) (rdE G ex W mi) (rdE G ex W me) D σ H := by
  obtain ⟨ι, h, env, rel, re, po⟩ := q
  -- the way by the values, where all three come to one
  have go : ∀ (R : R3), (∀ v h1 o h2 i h3, me env h = .ok v h1 → mo env h1 = .ok o h2 → mi env h2 = .ok i h3 → At3 G R f o i v h3) → t3 R (rdE G ex W mo) (rdE G ex W mi) (rdE G ex W me) D σ H := fun R hR => by
    have po' := post_of (σ := σ) (B := BU) (Q := fun _ H' => D.nx σ H') re po fun _ h2 ι2 H2 zv eq2 p2 k2 rel2 rv2 po2 => ps_nx rel2 (re.mono p2 k2) po2
    refine ⟨ι, h, env, rel, re, post_bind po' fun v h1 ι1 H1 vv eq1 p1 k1 rel1 rv1 po1 => ?_⟩
    refine ⟨ι1, h1, env, rel1, re.mono p1 k1, post_bind po1 fun o h2 ι2 H2 ov eq2 p2 k2 rel2 rv2 po2 => ?_⟩
    refine ⟨ι2, h2, env, rel2, (re.mono p1 k1).mono p2 k2, post_bind po2 fun i h3 ι3 H3 iv eq3 p3 k3 rel3 rv3 po3 => ?_⟩
    exact hR v h1 o h2 i h3 eq1 eq2 eq3 _ ι3 H3 ov iv vv _ rel3 (RV.mono p3 k3 _ _ rv2) rv3 (RV.mono (p2.trans p3) (k2.trans k3) _ _ rv1) po3
  cases e1 : me env h with
  | ok v h1 =>
    cases e2 : mo env h1 with
    | ok o h2 =>
      cases e3 : mi env h2 with
      | ok i h3 =>
        have sole : ∀ v' h1' o' h2' i' h3', me env h = .ok v' h1' → mo env h1' = .ok o' h2' → mi env h2' = .ok i' h3' → v' = v ∧ o' = o ∧ i' = i ∧ h3' = h3 := fun v' h1' o' h2' i' h3' a b c => by
          rw [e1] at a; cases a; rw [e2] at b; cases b; rw [e3] at c; cases c; exact ⟨rfl, rfl, rfl, rfl⟩
        rcases hf o i v h3 with z | z
        · exact .inl (go r fun v' h1' o' h2' i' h3' a b c => by obtain ⟨rfl, rfl, rfl, rfl⟩ := sole _ _ _ _ _ _ a b c; exact z)
        · exact .inr (go r' fun v' h1' o' h2' i' h3' a b c => by obtain ⟨rfl, rfl, rfl, rfl⟩ := sole _ _ _ _ _ _ a b c; exact z)
      | exc _ _ _ _ => exact .inl (go r fun v' h1' o' h2' i' h3' a b c => by rw [e1] at a; cases a; rw [e2] at b; cases b; rw [e3] at c; cases c)
      | stuck => exact .inl (go r fun v' h1' o' h2' i' h3' a b c => by rw [e1] at a; cases a; rw [e2] at b; cases b; rw [e3] at c; cases c)
    | exc _ _ _ _ => exact .inl (go r fun v' h1' o' h2' i' h3' a b c => by rw [e1] at a; cases a; rw [e2] at b; cases b)
    | stuck => exact .inl (go r fun v' h1' o' h2' i' h3' a b c => by rw [e1] at a; cases a; rw [e2] at b; cases b)
  | exc _ _ _ _ => exact .inl (go r fun v' h1' o' h2' i' h3' a b c => by rw [e1] at a; cases a)
  | stuck => exact .inl (go r fun v' h1' o' h2' i' h3' a b c => by rw [e1] at a; cases a)
def fPut (o i v : D) (h : M) : Res Unit := match o with
  | .loc l => match h[l]? with
    | some (.lst xs) => match i with
      | .int k => match ixN xs.length k with
        | some j => .ok () (h.set l (.lst (xs.set j v)))
        | none => .stuck
      | _ => .stuck
    | some (.dK kvs) => match keyD i with
      | some k => if kvs.length < sizeLine then .ok () (h.set l (.dK (putD kvs k v))) else .stuck
      | none => .stuck
    | some (.dT kvs) => match keysD i with
      | some k => if kvs.length < sizeLine then .ok () (h.set l (.dT (putD kvs k v))) else .stuck
      | none => .stuck
    | _ => .stuck
  | _ => .stuck
/-- an object written: the end -/
theorem po_wrU {G : Wo} {E : WX'} {ι : List Addr} {H : Hp} {h : M} {l : Nat} {a : Addr} {ob : O} {u : HO} {Q : Hp → Prop} (rel : Rel G ι H h) (ea : ι[l]? = some a) (ro : ∀ H', Keep H H' → H' = upd H a u → RO G ι H' a ob)
    (po : Post G BU E ι H (.ok () (h.set l ob)) (fun _ H' => Q H')) : Q (upd H a u) := by
  have k : Keep H (upd H a u) := by
    obtain ⟨u0, e0, nf, mu⟩ := rel.tracked ea
    exact fun b o' eb f => by
      have : b ≠ a := fun z => by rw [z, e0] at eb; cases eb; exact nf f
      rw [upd_ne this]; exact eb
  have w := rel.write (o := ob) (u := u) ea (ro _ k rfl)
  exact po ι _ () (List.prefix_refl _) k w.1 trivial
def rDPut : R3 := fun x y v H Q => ∃ a H', x = .ref a ∧ DPut H a y v H' ∧ Q H'
theorem put_at {G : Wo} (o i v : D) (h : M) : At3 G rSetL fPut o i v h ∨ At3 G rDPut fPut o i v h := by
  cases o with
  | loc l =>
    cases e : h[l]? with
    | none => exact .inl fun E ι H ov iv vv Q rel ro ri rv po => by simp only [fPut, e] at po; exact po.elim
    | some ob =>
      cases ob with
      | lst xs =>
        refine .inl fun E ι H ov iv vv Q rel ro ri rv po => ?_
        simp only [fPut, e] at po
        split at po
        case h_2 => exact po.elim
        rename_i k
        split at po
        case h_2 => exact po.elim
        rename_i j ej
        obtain ⟨a, ws, rfl, ea, q, r⟩ := at_lst rel ro e
        simp only [RV] at ri; subst ri
        exact ⟨a, ws, k, j, rfl, rfl, q, by rw [← RVs.length r]; exact ej, po_wrU (ob := .lst (xs.set j v)) rel ea (fun H' kp eq => ⟨_, by rw [eq]; exact upd_same, RVs.mono (List.prefix_refl _) kp _ _ (r.set j rv)⟩) po⟩
      | dK kvs =>
        refine .inr fun E ι H ov iv vv Q rel ro ri rv po => ?_
        simp only [fPut, e] at po
        split at po
        case h_2 => exact po.elim
        rename_i k ek
        split at po
        case isFalse => exact po.elim
        rename_i hz
        obtain ⟨a, ws, rfl, ea, q, r⟩ := at_dK rel ro e
        rw [keyD_ok ri ek]
        exact ⟨a, _, rfl, DPut.k q (by rw [← RKs.len r]; exact hz), po_wrU (ob := .dK (putD kvs k v)) rel ea (fun H' kp eq => ⟨_, by rw [eq]; exact upd_same, (r.put rv).mono (List.prefix_refl _) kp⟩) po⟩
      | dT kvs =>
        refine .inr fun E ι H ov iv vv Q rel ro ri rv po => ?_
        simp only [fPut, e] at po
        split at po
        case h_2 => exact po.elim
        rename_i k ek
        split at po
        case isFalse => exact po.elim
        rename_i hz
        obtain ⟨a, ws, rfl, ea, q, r⟩ := at_dT rel ro e
        obtain ⟨b, rfl, hb⟩ := keysD_ok ri ek
        exact ⟨a, _, rfl, DPut.t q hb (by rw [← RKs.len r]; exact hz), po_wrU (ob := .dT (putD kvs k v)) rel ea (fun H' kp eq => ⟨_, by rw [eq]; exact upd_same, (r.put rv).mono (List.prefix_refl _) kp⟩) po⟩
      | ins x fs => exact .inl fun E ι H ov iv vv Q rel ro ri rv po => by simp only [fPut, e] at po; exact po.elim
  | _ => exact .inl fun E ι H ov iv vv Q rel ro ri rv po => by simp only [fPut] at po; exact po.elim
theorem PS.or {t t' : TS} (p : PS X st t) (p' : PS X st t') : PS X st (fun D σ H => t D σ H ∨ t' D σ H) := ⟨fun pins s σ H D I h => by
  rcases h with h | h
  · exact p.run pins s σ H D I h
  · exact p'.run pins s σ H D I h⟩
theorem fs_put {k : Nat} {mo mi : ME} (hr : L2H.RoomH k X.A) (ho : FE X W ex o mo) (hi : FE X W ex i mi) (he : FE X W ex e me)
    (ha : ∀ v, assign (.Subscript o i pos') X.env v = (do
      let ov ← holding [v] (eval o X.env)
      let iv ← holding [v, ov] (eval i X.env)
      standAt pos'
      holding [v, ov, iv] (setItem ov iv v)
      release [v, ov, iv] []) := by intro _; rfl)
    (hs : swapsWithSole [.Subscript o i pos'] e pos.line X.env = pure false := by rfl) (hw : swappedStores [.Subscript o i pos'] e X.env = pure none := by rfl)
    (h1 : (assignEach [.Subscript o i pos'] X.env).map (·.2) = [assign (.Subscript o i pos') X.env] := by rfl) (hs2 : swapsWith e (some (.Subscript o i pos')) pos.line X.env = pure false := by rfl) :
    FS X W ex (.Assign [.Subscript o i pos'] e pos) (m3 fPut mo mi me) := by
  have P1 : PS X (.Assign [.Subscript o i pos'] e pos) (t3 rSetL (rdE (wo X) ex W mo) (rdE (wo X) ex W mi) (rdE (wo X) ex W me)) := PS.imp (ps_asg he (pg_sub ho hi set_list ha) hs hw h1) fun D σ H q => q
  have P2 : PS X (.Assign [.Subscript o i pos'] e pos) (t3 rDPut (rdE (wo X) ex W mo) (rdE (wo X) ex W mi) (rdE (wo X) ex W me)) := PS.imp (ps_dput (hu1 hr) ho hi he hs2) fun D σ H q => q
  exact PS.imp (PS.or P1 P2) fun D σ H q => rd3_or put_at q
end
end LF
set_option Elab.async false
set_option linter.all false
set_option maxRecDepth 100000
set_option maxHeartbeats 4000000
/-! LF6: iterators, for, while, comprehensions. -/
namespace LF
open PySem PySem.Spec L2
open PyProof.Rows hiding St
/-- what a loop walks: the items, and what must stay true of the machine's objects meanwhile -/
structure Itr' where
  items : List D
  chk : M → Prop
def JOk (G : Wo) (ι0 : List Addr) (H0 : Hp) (J : It) (it : Itr') : Prop :=
  ∀ (i : Nat) (ι : List Addr) (H : Hp) (h : M), ι0 <+: ι → Keep H0 H → Rel G ι H h → it.chk h →
    (∀ d, it.items[i]? = some d → J.go i H ∧ ∀ x H', J.yld i H x H' → Same H H' ∧ RV G ι H' d x) ∧ (it.items.length ≤ i → J.stop i H)
abbrev MI := En → M → Res Itr'
def rdI (G : Wo) (ex : Ex) (W : WX) (m : MI) : TI := fun σ H R => ∃ ι h env, Rel G ι H h ∧ REn G ex ι H env σ ∧ Post G (fun ι H it J => JOk G ι H J it) (fun c d H' => W c d σ H') ι H (m env h) R
def FI (X : Cx) (W : WX) (ex : Ex) (tg iter : Expr) (m : MI) : Prop := PI X tg iter (rdI (wo X) ex W m)
section
variable {X : Cx} {W : WX} {ex : Ex} {tg e a b i o iter : Expr} {es : List Expr} {ma mb mc me ml : ME} {mas : MA} {pos pos' p : Pos} {x : Str}
theorem PI.imp {t t' : TI} (p : PI X tg iter t) (h : ∀ σ H Q, t' σ H Q → t σ H Q) : PI X tg iter t' := ⟨fun pins s σ H R I q => p.run pins s σ H R I (h σ H R q)⟩
theorem PI.or {t t' : TI} (p : PI X tg iter t) (p' : PI X tg iter t') : PI X tg iter (fun σ H Q => t σ H Q ∨ t' σ H Q) := ⟨fun pins s σ H R I h => by
  rcases h with h | h
  · exact p.run pins s σ H R I h
  · exact p'.run pins s σ H R I h⟩
/-- a list's items, a tuple's, a text's signs -/
def itOf (d : D) (h : M) : Res Itr' := match d with
  | .str z => .ok ⟨z.cps.toList.map fun c => .str ⟨#[c]⟩, fun _ => True⟩ h
  | d => match tupOf d with
    | some xs => .ok ⟨xs, fun _ => True⟩ h
    | none => match lstOf h d with
      | some xs => .ok ⟨xs, fun h' => lstOf h' d = some xs⟩ h
      | none => .stuck
theorem itOf_not {d : D} {h : M} (hs : ¬ ∃ z, d = .str z) : itOf d h = (match tupOf d with
    | some xs => .ok ⟨xs, fun _ => True⟩ h
    | none => match lstOf h d with
      | some xs => .ok ⟨xs, fun h' => lstOf h' d = some xs⟩ h
      | none => .stuck) := by
  cases d <;> first | rfl | exact absurd ⟨_, rfl⟩ hs
def mIter (ml : ME) : MI := fun env h => (ml env h).bind itOf
theorem fi_any (hl : FE X W ex e ml) : FI X W ex tg e (mIter ml) := by
  refine PI.imp (PI.or (pi_list hl) (PI.or (pi_tup hl) (pi_str hl))) fun σ H R q => ?_
  obtain ⟨ι, h, env, rel, re, po⟩ := q
  -- told apart by the value
  have go : ∀ (Rr : V → Hp → Prop), (∀ d h1 ι1 H1 v, ml env h = .ok d h1 → ι <+: ι1 → Keep H H1 → Rel (wo X) ι1 H1 h1 → RV (wo X) ι1 H1 d v → Post (wo X) (fun ι H it J => JOk (wo X) ι H J it) (fun c d H' => W c d σ H') ι1 H1 (itOf d h1) R → Rr v H1) → rdE (wo X) ex W ml σ H Rr := fun Rr hR =>
    ⟨ι, h, env, rel, re, post_bind po fun d h1 ι1 H1 v eq1 p1 k1 rel1 rv1 po1 => hR d h1 ι1 H1 v eq1 p1 k1 rel1 rv1 po1⟩
  cases e1 : ml env h with
  | stuck => unfold mIter at po; rw [e1] at po; exact po.elim
  | exc _ _ _ _ => exact .inl (go _ fun d h1 ι1 H1 v eq1 => by rw [e1] at eq1; cases eq1)
  | ok d h1 =>
    have sole : ∀ {d' h1'}, ml env h = .ok d' h1' → d' = d ∧ h1' = h1 := fun eq => by rw [e1] at eq; cases eq; exact ⟨rfl, rfl⟩
    by_cases hs : ∃ z, d = .str z
    · obtain ⟨z, rfl⟩ := hs
      refine .inr (.inr (go _ fun d' h1' ι1 H1 v eq1 p1 k1 rel1 rv1 po1 => ?_))
      obtain ⟨rfl, rfl⟩ := sole eq1
      simp only [RV] at rv1; subst rv1
      simp only [itOf] at po1
      refine ⟨z, rfl, po_ok rel1 ?_ po1⟩
      intro i ι H h p k rel _
      refine ⟨fun d ed => ?_, fun hi => ?_⟩
      · rw [List.getElem?_map] at ed
        simp only [Option.map_eq_some_iff] at ed
        obtain ⟨c, ec, rfl⟩ := ed
        have ec' : z.cps[i]? = some c := by simpa using ec
        refine ⟨(Array.getElem?_eq_some_iff.mp ec').1, fun x H' hy => ?_⟩
        obtain ⟨rfl, c', e', rfl⟩ := hy
        rw [ec'] at e'; cases e'
        exact ⟨Same.refl _, by simp [RV]⟩
      · show z.cps.size ≤ i
        simpa using hi
    · cases et : tupOf d with
      | some xs =>
        refine .inr (.inl (go _ fun d' h1' ι1 H1 v eq1 p1 k1 rel1 rv1 po1 => ?_))
        obtain ⟨rfl, rfl⟩ := sole eq1
        rw [itOf_not hs, et] at po1
        obtain ⟨a, vs, rfl, s, r⟩ := tupOf_sq rv1 et
        refine ⟨a, rfl, ⟨vs, s⟩, po_ok rel1 ?_ po1⟩
        intro i ι H h p k rel _
        have s' := k.tup s
        have r' := RVs.mono p k _ _ r
        refine ⟨fun d ed => ?_, fun hi => ⟨vs, s', by rw [← RVs.length r]; exact hi⟩⟩
        obtain ⟨v, ev, rv⟩ := r'.get ed
        refine ⟨⟨vs, v, s', ev⟩, fun x H' hy => ?_⟩
        obtain ⟨rfl, hy⟩ := hy
        have := hy vs s'
        rw [ev] at this; cases this
        exact ⟨Same.refl _, rv⟩
      | none =>
        refine .inl (go _ fun d' h1' ι1 H1 v eq1 p1 k1 rel1 rv1 po1 => ?_)
        obtain ⟨rfl, rfl⟩ := sole eq1
        cases el : lstOf h1' d' with
        | none =>
          exfalso
          rw [itOf_not hs, et] at po1
          simp only [el] at po1
          exact po1
        | some xs =>
          rw [itOf_not hs, et] at po1
          simp only [el] at po1
          obtain ⟨a, vs, rfl, s, r⟩ := lstOf_sq rel1 rv1 el
          refine ⟨a, rfl, ⟨vs, s⟩, po_ok rel1 ?_ po1⟩
          intro i ι H h p k rel ck
          have rv' := RV.mono p k _ _ rv1
          obtain ⟨a', vs', e', s', r'⟩ := lstOf_sq rel rv' ck
          cases e'
          refine ⟨fun d ed => ?_, fun hi => ⟨vs', s', by rw [← RVs.length r']; exact hi⟩⟩
          obtain ⟨v, ev, rv⟩ := r'.get ed
          refine ⟨⟨vs', v, s', ev⟩, fun x H' hy => ?_⟩
          obtain ⟨rfl, hy⟩ := hy
          have := hy vs' s'
          rw [ev] at this; cases this
          exact ⟨Same.refl _, rv⟩
/-- range -/
def rgItems (lo : Int) (n : Nat) : List D := (List.range n).map fun i => .int (lo + (i : Nat))
theorem rg_ok {G : Wo} {ι : List Addr} {H : Hp} (lo : Int) (n : Nat) : JOk G ι H (Itr lo n) ⟨rgItems lo n, fun _ => True⟩ := by
  intro i ι' H' h p k rel _
  refine ⟨fun d ed => ?_, fun hi => ?_⟩
  · simp only [rgItems, List.getElem?_map, Option.map_eq_some_iff] at ed
    obtain ⟨j, ej, rfl⟩ := ed
    have hi : i < n := by have := (List.getElem?_eq_some_iff.mp ej).1; simpa using this
    have : j = i := by rw [List.getElem?_range hi] at ej; exact (Option.some.inj ej).symm
    subst this
    refine ⟨hi, fun x H'' hy => ?_⟩
    obtain ⟨rfl, rfl⟩ := hy
    exact ⟨Same.refl _, by simp [RV]⟩
  · show n ≤ i
    simpa [rgItems] using hi
def fRng (ds : List D) (h : M) : Res Itr' := match ds with
  | [.int j] => if -(2 ^ 62) ≤ j ∧ j < 2 ^ 62 then .ok ⟨rgItems 0 j.toNat, fun _ => True⟩ h else .stuck
  | [.int i, .int j] => if -(2 ^ 62) ≤ i ∧ i < 2 ^ 62 ∧ -(2 ^ 62) ≤ j ∧ j < 2 ^ 62 then .ok ⟨rgItems i (j - i).toNat, fun _ => True⟩ h else .stuck
  | _ => .stuck
def mRng (mas : MA) : MI := fun env h => (mas env h).bind fRng
theorem RVs.eq3 {G : Wo} {ι : List Addr} {H : Hp} {d f g : D} {vs : List V} (h : RVs G ι H [d, f, g] vs) : ∃ v u t, vs = [v, u, t] ∧ RV G ι H d v ∧ RV G ι H f u ∧ RV G ι H g t := by
  simp only [RVs] at h
  obtain ⟨v, r, rfl, h1, u, r2, rfl, h2, t, r3, rfl, h3, rfl⟩ := h
  exact ⟨v, u, t, rfl, h1, h2, h3⟩
theorem fi_range1 (hm : X.mg "range" = none) (hs : FA X W ex [a] mas) (hone : ∀ env h ds h', mas env h = .ok ds h' → ds.length = 1) (hg : Gl X "range" := by rfl) (hst : starEach [a] X.env = [(false, eval a X.env)] := by rfl) : FI X W ex tg (.Call (.Name "range" p) [a] [] pos) (mRng mas) := by
  refine PI.imp (pi_range1 hg hm hs hst) fun σ H R q => ?_
  obtain ⟨ι, h, env, rel, re, po⟩ := q
  refine ⟨ι, h, env, rel, re, post_bind po fun ds h1 ι1 H1 vs eq1 p1 k1 rel1 rv1 po1 => ?_⟩
  have hl := hone _ _ _ _ eq1
  unfold fRng at po1
  split at po1
  · split at po1
    case isFalse => exact po1.elim
    rename_i hz
    obtain ⟨v, rfl, r⟩ := rv1.eq1
    simp only [RV] at r; subst r
    exact ⟨_, rfl, hz.1, hz.2, po_ok rel1 (rg_ok _ _) po1⟩
  · simp at hl
  · exact po1.elim
theorem fi_range2 (hm : X.mg "range" = none) (hs : FA X W ex [a, b] mas) (hone : ∀ env h ds h', mas env h = .ok ds h' → ds.length = 2) (hg : Gl X "range" := by rfl) (hst : starEach [a, b] X.env = [(false, eval a X.env), (false, eval b X.env)] := by rfl) (hst2 : starEach [b] X.env = [(false, eval b X.env)] := by rfl) : FI X W ex tg (.Call (.Name "range" p) [a, b] [] pos) (mRng mas) := by
  refine PI.imp (pi_range2 hg hm hs hst hst2) fun σ H R q => ?_
  obtain ⟨ι, h, env, rel, re, po⟩ := q
  refine ⟨ι, h, env, rel, re, post_bind po fun ds h1 ι1 H1 vs eq1 p1 k1 rel1 rv1 po1 => ?_⟩
  have hl := hone _ _ _ _ eq1
  unfold fRng at po1
  split at po1
  · simp at hl
  · split at po1
    case isFalse => exact po1.elim
    rename_i hz
    obtain ⟨v, u, rfl, r, r2⟩ := rv1.eq2
    simp only [RV] at r r2; subst r; subst r2
    exact ⟨_, _, rfl, hz, po_ok rel1 (rg_ok _ _) po1⟩
  · exact po1.elim
theorem mCons_len {m : ME} {ms : MA} {n : Nat} (h : ∀ env h ds h', ms env h = .ok ds h' → ds.length = n) : ∀ env h ds h', mCons m ms env h = .ok ds h' → ds.length = n + 1 := by
  intro env hh ds h' eq
  unfold mCons at eq
  cases e1 : m env hh <;> rw [e1] at eq <;> simp only [bind_ok, bind_exc, bind_stuck, reduceCtorEq] at eq
  rename_i d h1
  cases e2 : ms env h1 <;> rw [e2] at eq <;> simp only [bind_ok, bind_exc, bind_stuck, reduceCtorEq] at eq
  cases eq
  simp [h _ _ _ _ e2]
theorem mNil_len : ∀ env h ds h', mNil env h = .ok ds h' → ds.length = 0 := by
  intro env h ds h' eq; cases eq; rfl

/-! ### for -/
open Classical in
noncomputable def floop (chk : M → Prop) (g : MG) (mb : MS) : List D → MS
  | [], env, h => if chk h then .nx env h else .stuck
  | d :: ds, env, h => if chk h then SR.of (g d env h) env fun env1 h1 => match mb env1 h1 with
      | .nx e2 h2 => floop chk g mb ds e2 h2
      | .ct e2 h2 => floop chk g mb ds e2 h2
      | .bk e2 h2 => .nx e2 h2
      | r => r
    else .stuck
noncomputable def mFor (mi : MI) (g : MG) (mb : MS) : MS := fun env h => SR.of (mi env h) env fun it h1 => floop it.chk g mb it.items env h1
variable {mi : MI} {g : MG} {sl : List Nat} {msb : MS} {body : List Stmt} {c : Expr} {tc : MT}
theorem for_imp {mi : MI} {g : MG} {sl : List Nat} {msb : MS} {D : Ends} {σ : St} {H : Hp} (q : rdS (wo X) ex W (mFor mi g msb) D σ H) : tFor (rdI (wo X) ex W mi) (rdG (wo X) ex W sl g) (rdS (wo X) ex W msb) D σ H := by
  obtain ⟨ι, h, env, rel, re, po⟩ := q
  refine ⟨ι, h, env, rel, re, post_of re po fun it h1 ι1 H1 J eq1 p1 k1 rel1 jok po1 => ?_⟩
  refine ⟨fun i m σ2 H2 => ∃ ι2 h2 env2, ι1 <+: ι2 ∧ Keep H1 H2 ∧ Rel (wo X) ι2 H2 h2 ∧ REn (wo X) ex ι2 H2 env2 σ2 ∧ m = it.items.length - i ∧ i ≤ it.items.length ∧ PostS (wo X) ex W ι2 H2 (floop it.chk g msb (it.items.drop i) env2 h2) D, ?_, ?_⟩
  · exact ⟨it.items.length, ι1, h1, env, List.prefix_refl _, Keep.refl _, rel1, re.mono p1 k1, by simp, Nat.zero_le _, by simpa using po1⟩
  · rintro i m σ2 H2 ⟨ι2, h2, env2, p2, k2, rel2, re2, rfl, hi2, po2⟩
    by_cases hlt : i < it.items.length
    · have ed : it.items[i]? = some it.items[i] := List.getElem?_eq_getElem hlt
      rw [List.drop_eq_getElem_cons hlt] at po2
      unfold floop at po2
      split at po2
      case isFalse => exact po2.elim
      rename_i ck
      obtain ⟨go, yl⟩ := (jok i ι2 H2 h2 p2 k2 rel2 ck).1 _ ed
      refine .inr ⟨go, fun σ' H' => ∃ ι2 h2 env2, ι1 <+: ι2 ∧ Keep H1 H' ∧ Rel (wo X) ι2 H' h2 ∧ REn (wo X) ex ι2 H' env2 σ' ∧ PostS (wo X) ex W ι2 H' (floop it.chk g msb (it.items.drop (i + 1)) env2 h2) D, fun σ' H' n => ?_, fun x H' hy => ?_⟩
      · obtain ⟨ι3, h3, env3, a1, a2, a3, a4, a5⟩ := n
        exact ⟨_, by omega, ι3, h3, env3, a1, a2, a3, a4, rfl, hlt, a5⟩
      · obtain ⟨sm, rv⟩ := yl x H' hy
        have k3 := Keep.of_same sm
        have rel3 := rel2.same sm
        have re3 := re2.mono (List.prefix_refl _) k3
        have po3 := PostS.mono (List.prefix_refl _) k3 po2
        refine ⟨ι2, h2, env2, it.items[i], rel3, re3, rv, post_of re3 po3 fun env4 h4 ι4 H4 σ4 eq4 p4 k4 rel4 re4 po4 => ?_⟩
        refine ⟨ι4, h4, env4, rel4, re4.1, ?_⟩
        have fin : ∀ {env5 h5}, PostS (wo X) ex W ι4 H4 (floop it.chk g msb (it.items.drop (i + 1)) env5 h5) D → ∀ ι' H' σ', ι4 <+: ι' → Keep H4 H' → Rel (wo X) ι' H' h5 → REn (wo X) ex ι' H' env5 σ' → ∃ ι2 h2 env2, ι1 <+: ι2 ∧ Keep H1 H' ∧ Rel (wo X) ι2 H' h2 ∧ REn (wo X) ex ι2 H' env2 σ' ∧ PostS (wo X) ex W ι2 H' (floop it.chk g msb (it.items.drop (i + 1)) env2 h2) D :=
          fun {env5 h5} q ι' H' σ' a1 a2 a3 a4 => ⟨ι', h5, env5, (p2.trans p4).trans a1, ((k2.trans k3).trans k4).trans a2, a3, a4, PostS.mono a1 a2 q⟩
        generalize msb env4 h4 = z at po4 ⊢
        cases z with
        | nx e5 h5 => exact fin po4
        | ct e5 h5 => exact fin po4
        | bk e5 h5 => exact po4
        | rt d h5 => exact po4
        | exc _ _ _ _ _ => exact po4
        | stuck => exact po4
    · have e : i = it.items.length := by omega
      subst e
      simp only [List.drop_length] at po2
      unfold floop at po2
      split at po2
      case isFalse => exact po2.elim
      rename_i ck
      exact .inl ⟨(jok _ ι2 H2 h2 p2 k2 rel2 ck).2 (Nat.le_refl _), ps_nx rel2 re2 po2⟩
theorem fs_for (hp : PassesOwn (model X.prog X.w) X.A X.env X.xe) (hi : FI X W ex tg iter mi) (hg : FG X W ex tg sl g) (hb : FSs X W ex body msb) (hc : X.calm = true := by rfl) (hs : ∀ x, foldedSetIterable iter X.env x = pure x := by intro _; rfl) :
    FS X W ex (.For tg iter body [] pos) (mFor mi g msb) := by
  exact PS.imp (ps_for hp hc hi hg hb hs) fun D σ H q => for_imp q

/-! ### while -/
def wloop (c : MT) (b : MS) : Nat → MS
  | 0, _, _ => .stuck
  | n + 1, env, h => SR.of (c env h) env fun t h1 => if t = true then match b env h1 with
      | .nx e2 h2 => wloop c b n e2 h2
      | .ct e2 h2 => wloop c b n e2 h2
      | .bk e2 h2 => .nx e2 h2
      | r => r
    else .nx env h1
def mWhile (fuel : Nat) (c : MT) (b : MS) : MS := wloop c b fuel
theorem fs_while (fuel : Nat) (hp : PassesOwn (model X.prog X.w) X.A X.env X.xe) (hc : FT X W ex c tc) (hb : FSs X W ex body msb) : FS X W ex (.While c body [] pos) (mWhile fuel tc msb) := by
  refine PS.imp (ps_while hp hc hb) fun D σ H q => ?_
  obtain ⟨ι, h, env, rel, re, po⟩ := q
  refine ⟨fun m σ2 H2 => ∃ ι2 h2 env2, Rel (wo X) ι2 H2 h2 ∧ REn (wo X) ex ι2 H2 env2 σ2 ∧ PostS (wo X) ex W ι2 H2 (wloop tc msb m env2 h2) D, ⟨fuel, ι, h, env, rel, re, po⟩, ?_⟩
  rintro m σ2 H2 ⟨ι2, h2, env2, rel2, re2, po2⟩
  cases m with
  | zero => exact po2.elim
  | succ m =>
    unfold wloop at po2
    refine ⟨ι2, h2, env2, rel2, re2, post_of re2 po2 fun t h3 ι3 H3 t' eq3 p3 k3 rel3 rv3 po3 => ?_⟩
    cases rv3
    cases t with
    | false => exact iteF (ps_nx rel3 (re2.mono p3 k3) po3)
    | true =>
      refine iteT ⟨fun σ' H' => ∃ ι2 h2 env2, Rel (wo X) ι2 H' h2 ∧ REn (wo X) ex ι2 H' env2 σ' ∧ PostS (wo X) ex W ι2 H' (wloop tc msb m env2 h2) D, fun σ' H' n => ⟨m, Nat.lt_succ_self _, n⟩, ι3, h3, env2, rel3, re2.mono p3 k3, ?_⟩
      simp only [if_true] at po3
      generalize msb env2 h3 = z at po3 ⊢
      cases z with
      | nx e5 h5 => exact fun ι' H' σ' a1 a2 a3 a4 => ⟨ι', h5, e5, a3, a4, PostS.mono a1 a2 po3⟩
      | ct e5 h5 => exact fun ι' H' σ' a1 a2 a3 a4 => ⟨ι', h5, e5, a3, a4, PostS.mono a1 a2 po3⟩
      | bk e5 h5 => exact po3
      | rt d h5 => exact po3
      | exc _ _ _ _ _ => exact po3
      | stuck => exact po3

/-! ### comprehensions -/
def wipeE (env : En) : List Nat → En
  | [] => env
  | v :: vs => (wipeE env vs).set v .no
theorem REn.wipe {G : Wo} {ι : List Addr} {H : Hp} {env : En} {σ : St} (r : REn G ex ι H env σ) : ∀ vs : List Nat, REn G ex ι H (wipeE env vs) (L2.wipe σ vs)
  | [] => r
  | v :: vs => (REn.wipe r vs).drop1 v none
def FTs (X : Cx) (W : WX) (ex : Ex) (ifs : List Expr) (m : MT) : Prop := PTs X ifs (rdT (wo X) ex W m)
theorem PTs.imp {ifs : List Expr} {t t' : TT} (p : PTs X ifs t) (h : ∀ σ H Q, t' σ H Q → t σ H Q) : PTs X ifs t' := ⟨fun pins s σ H R I q => p.run pins s σ H R I (h σ H R q)⟩
def mYes : MT := fun _ h => .ok true h
theorem fts_nil : FTs X W ex [] mYes := by
  refine PTs.imp pts_nil fun σ H Q q => ?_
  obtain ⟨ι, h, env, rel, re, po⟩ := q
  exact po_ok rel rfl po
theorem fts_one (hc : FT X W ex c tc) : FTs X W ex [c] tc := pts_one hc
open Classical in
noncomputable def lcloop (chk : M → Prop) (env : En) (g : MG) (tt : MT) (me : ME) (l : Nat) : List D → M → Res D
  | [], h => if chk h then .ok (.loc l) h else .stuck
  | d :: ds, h => if chk h then (g d env h).bind fun env2 h2 => (tt env2 h2).bind fun b h3 => if b = true then (me env2 h3).bind fun y h4 => match h4[l]? with
        | some (.lst acc) => if acc.length < sizeLine then lcloop chk env g tt me l ds (h4.set l (.lst (acc ++ [y]))) else .stuck
        | _ => .stuck
      else lcloop chk env g tt me l ds h3
    else .stuck
/-- own: the slots of the comprehension's own names -/
noncomputable def mLc (own : List Nat) (mi : MI) (g : MG) (tt : MT) (me : ME) : ME := fun env h => (mi env h).bind fun it h1 => lcloop it.chk (wipeE env own) g tt me h1.length it.items (h1 ++ [.lst []])
abbrev WN : WX := fun _ _ _ _ => False
/-- in a block no exception leaves -/
theorem post_WN {α β : Type} {G : Wo} {B : List Addr → Hp → α → β → Prop} {E : WX'} {ι : List Addr} {H : Hp} {r : Res α} {Q : β → Hp → Prop} (h : Post G B E ι H (noX r) Q) {E' : WX'} : Post G B E' ι H r Q := post_noX h
open Classical in
noncomputable def lcloopN (chk : M → Prop) (env : En) (g : MG) (tt : MT) (me : ME) (l : Nat) : List D → M → Res D
  | [], h => if chk h then .ok (.loc l) h else .stuck
  | d :: ds, h => if chk h then (noX (g d env h)).bind fun env2 h2 => (noX (tt env2 h2)).bind fun b h3 => if b = true then (noX (me env2 h3)).bind fun y h4 => match h4[l]? with
        | some (.lst acc) => if acc.length < sizeLine then lcloopN chk env g tt me l ds (h4.set l (.lst (acc ++ [y]))) else .stuck
        | _ => .stuck
      else lcloopN chk env g tt me l ds h3
    else .stuck
noncomputable def mLcN (own : List Nat) (mi : MI) (g : MG) (tt : MT) (me : ME) : ME := fun env h => (mi env h).bind fun it h1 => lcloopN it.chk (wipeE env own) g tt me h1.length it.items (h1 ++ [.lst []])
theorem wipe_idem (vs : List Nat) : ∀ (us : List Nat) (σ : St), (∀ i ∈ us, i ∈ vs) → L2.wipe (L2.wipe σ us) vs = L2.wipe σ vs
  | [], σ, _ => rfl
  | u :: us, σ, hu => by
    show L2.wipe ((L2.wipe σ us).set u none) vs = _
    rw [wipe_set u none vs _ (hu u (by simp))]
    exact wipe_idem vs us σ fun i hi => hu i (by simp [hi])
theorem rd_lc {own : List Nat} {g : MG} {tt : MT} {sl : List Nat} (hsl : ∀ i ∈ sl, i ∈ own) {σ : St} {Q : VK} {E : WX'} {ι1 : List Addr} {H1 : Hp} {h1 : M} {env : En} {it : Itr'} {J : It}
    (jok : JOk (wo X) ι1 H1 J it) (rel1 : Rel (wo X) ι1 H1 h1) (re1 : REn (wo X) ex ι1 H1 env σ)
    (po : Post (wo X) (fun ι H d v => RV (wo X) ι H d v) E ι1 H1 (lcloopN it.chk (wipeE env own) g tt me h1.length it.items (h1 ++ [.lst []])) Q) : ∀ L, H1 L = none → ∃ Wv : Nat → Nat → Hp → Prop, (∃ m, Wv 0 m (upd H1 L (.lst []))) ∧ ∀ i m H, Wv i m H →
      (J.stop i H ∧ Q (.ref L) H) ∨ (J.go i H ∧ ∃ Nx : Hp → Prop, (∀ H', Nx H' → ∃ m', m' < m ∧ Wv (i + 1) m' H') ∧ ∀ x H', J.yld i H x H' → rdG (wo X) ex WN sl g x (L2.wipe σ own) H' fun σ2 H2 => L2.wipe σ2 own = L2.wipe σ own ∧ rdT (wo X) ex WN tt σ2 H2 fun b H3 =>
        if b = true then rdE (wo X) ex WN me σ2 H3 fun y H4 => ∃ acc, H4 L = some (.lst acc) ∧ acc.length < sizeLine ∧ Nx (upd H4 L (.lst (acc ++ [y]))) else Nx H3) := by
  intro L hL
  have p0 : ι1 <+: ι1 ++ [L] := List.prefix_append ..
  have s0 : Same H1 (upd H1 L (.lst [])) := same_upd hL
  have k0 := Keep.of_same s0
  have rel0 : Rel (wo X) (ι1 ++ [L]) (upd H1 L (.lst [])) (h1 ++ [.lst []]) := rel1.push hL ⟨[], upd_same, RVs.nil⟩
  have eL : (ι1 ++ [L])[h1.length]? = some L := by rw [← rel1.len]; simp
  let Inv' : Nat → Hp → Prop := fun i H2 => ∃ ι2 h2, ι1 ++ [L] <+: ι2 ∧ Keep H1 H2 ∧ Rel (wo X) ι2 H2 h2 ∧ REn (wo X) ex ι2 H2 (wipeE env own) (L2.wipe σ own) ∧ Post (wo X) (fun ι H d v => RV (wo X) ι H d v) E ι2 H2 (lcloopN it.chk (wipeE env own) g tt me h1.length (it.items.drop i) h2) Q
  refine ⟨fun i m H2 => m = it.items.length - i ∧ i ≤ it.items.length ∧ Inv' i H2, ⟨it.items.length, by simp, Nat.zero_le _, ι1 ++ [L], h1 ++ [.lst []], List.prefix_refl _, k0, rel0, (re1.mono p0 k0).wipe own, by simpa using Post.mono p0 k0 po⟩, ?_⟩
  rintro i m H2 ⟨rfl, hi2, ι2, h2, p2, k2, rel2, re2, po2⟩
  by_cases hlt : i < it.items.length
  · have ed : it.items[i]? = some it.items[i] := List.getElem?_eq_getElem hlt
    rw [List.drop_eq_getElem_cons hlt] at po2
    unfold lcloopN at po2
    split at po2
    case isFalse => exact po2.elim
    rename_i ck
    obtain ⟨go, yl⟩ := (jok i ι2 H2 h2 (p0.trans p2) k2 rel2 ck).1 _ ed
    refine .inr ⟨go, Inv' (i + 1), fun H' n => ⟨_, by omega, rfl, hlt, n⟩, fun x H' hy => ?_⟩
    obtain ⟨sm, rv⟩ := yl x H' hy
    have k3 := Keep.of_same sm
    have rel3 := rel2.same sm
    have re3 := re2.mono (List.prefix_refl _) k3
    have po3 := Post.mono (List.prefix_refl _) k3 po2
    refine ⟨ι2, h2, wipeE env own, it.items[i], rel3, re3, rv, post_WN (E := E) (post_bind po3 fun env4 h4 ι4 H4 σ4 eq4 p4 k4 rel4 re4 po4 => ?_)⟩
    have hw : L2.wipe σ4 own = L2.wipe (L2.wipe σ own) own := re4.2 own hsl
    have hww : L2.wipe (L2.wipe σ own) own = L2.wipe σ own := wipe_idem own own σ fun _ h => h
    refine ⟨hw.trans hww, ι4, h4, env4, rel4, re4.1, post_WN (E := E) (post_bind po4 fun b h5 ι5 H5 b' eq5 p5 k5 rel5 rv5 po5 => ?_)⟩
    cases rv5
    have back : ∀ {ι6 H6}, ι5 <+: ι6 → Keep H5 H6 → ι1 ++ [L] <+: ι6 ∧ Keep H1 H6 ∧ REn (wo X) ex ι6 H6 (wipeE env own) (L2.wipe σ own) := fun {ι6 H6} a b =>
      ⟨((p2.trans p4).trans p5).trans a, ((((k2.trans k3).trans k4).trans k5).trans b), (((re3.mono p4 k4).mono p5 k5).mono a b)⟩
    cases b with
    | false =>
      refine iteF ?_
      simp only [Bool.false_eq_true, if_false] at po5
      obtain ⟨b1, b2, b3⟩ := back (List.prefix_refl _) (Keep.refl _)
      exact ⟨ι5, h5, b1, b2, rel5, b3, po5⟩
    | true =>
      refine iteT ?_
      simp only [if_true] at po5
      refine ⟨ι5, h5, env4, rel5, re4.1.mono p5 k5, post_WN (E := E) (post_bind po5 fun y h6 ι6 H6 yv eq6 p6 k6 rel6 rv6 po6 => ?_)⟩
      split at po6
      case h_2 => exact po6.elim
      rename_i acc ea
      split at po6
      case isFalse => exact po6.elim
      rename_i hz
      obtain ⟨b1, b2, b3⟩ := back p6 k6
      have eL6 : ι6[h1.length]? = some L := pre_get b1 eL
      obtain ⟨vs, ev, r⟩ := rel6.at ea eL6
      have hl := RVs.length r
      have w := rel6.write (o := .lst (acc ++ [y])) (u := .lst (vs ++ [yv])) eL6 ⟨_, upd_same, by
        have k7 : Keep H6 (upd H6 L (.lst (vs ++ [yv]))) := by
          obtain ⟨u0, e0, nf, mu⟩ := rel6.tracked eL6
          exact fun b o' eb f => by
            have : b ≠ L := fun z => by rw [z, e0] at eb; cases eb; exact nf f
            rw [upd_ne this]; exact eb
        exact RVs.mono (List.prefix_refl _) k7 _ _ (r.append (RVs.one rv6))⟩
      refine ⟨vs, ev, by omega, ι6, h6.set h1.length (.lst (acc ++ [y])), b1, b2.trans w.2, w.1, b3.mono (List.prefix_refl _) w.2, Post.mono (List.prefix_refl _) w.2 po6⟩
  · have e : i = it.items.length := by omega
    subst e
    simp only [List.drop_length] at po2
    unfold lcloopN at po2
    split at po2
    case isFalse => exact po2.elim
    rename_i ck
    refine .inl ⟨(jok _ ι2 H2 h2 (p0.trans p2) k2 rel2 ck).2 (Nat.le_refl _), ?_⟩
    refine po_ok rel2 ?_ po2
    simp only [RV]
    exact ⟨L, rfl, pre_get p2 eL⟩
variable {elt : Expr} {ifs : List Expr} {scope : Scope} {tt : MT} {spos py : Pos} {y : Str}
theorem fe_lc (own : List (Str × Nat)) (hN : X.N.Nodup) (hi : FI X W ex tg iter mi) (ok : BlkOk X.N X.env.scope scope own)
    (hg : ∀ (s : Shared) (H : Hp) (C : Addr) (cl : List (Str × Addr)) (fp : List Addr), FG (X.blk s H scope (compEnvC scope cl C X.env) fp) WN ex tg sl g)
    (ht : ∀ (s : Shared) (H : Hp) (C : Addr) (cl : List (Str × Addr)) (fp : List Addr), FTs (X.blk s H scope (compEnvC scope cl C X.env) fp) WN ex ifs tt)
    (he : ∀ (s : Shared) (H : Hp) (C : Addr) (cl : List (Str × Addr)) (fp : List Addr), FE (X.blk s H scope (compEnvC scope cl C X.env) fp) WN ex elt me)
    (hsl : ∀ i ∈ sl, i ∈ own.map (·.2) := by decide) (hc : X.calm = true := by rfl) (hs : ∀ x, foldedSetIterable iter X.env x = pure x := by intro _; rfl) : FE X W ex (.ListComp elt [⟨tg, iter, ifs, 0⟩] scope pos) (mLcN (own.map (·.2)) mi g tt me) := by
  refine PE.imp (pe_lc (g := rdG (wo X) ex WN sl g) (tt := rdT (wo X) ex WN tt) (te := rdE (wo X) ex WN me) hc hN hi ok hg ht he hs) fun σ H Q q => ?_
  obtain ⟨ι, h, env, rel, re, po⟩ := q
  exact ⟨ι, h, env, rel, re, post_bind po fun it h1 ι1 H1 J eq1 p1 k1 rel1 jok po1 => rd_lc hsl jok rel1 (re.mono p1 k1) po1⟩
theorem fs_setLc {i : Nat} (own : List (Str × Nat)) (hN : X.N.Nodup) (hi : FI X W ex tg iter mi) (ok : BlkOk X.N X.env.scope scope own)
    (hg : ∀ (s : Shared) (H : Hp) (C : Addr) (cl : List (Str × Addr)) (fp : List Addr), FG (X.blk s H scope (compEnvC scope cl C X.env) fp) WN ex tg sl g)
    (ht : ∀ (s : Shared) (H : Hp) (C : Addr) (cl : List (Str × Addr)) (fp : List Addr), FTs (X.blk s H scope (compEnvC scope cl C X.env) fp) WN ex ifs tt)
    (he : ∀ (s : Shared) (H : Hp) (C : Addr) (cl : List (Str × Addr)) (fp : List Addr), FE (X.blk s H scope (compEnvC scope cl C X.env) fp) WN ex elt me)
    (hsw : swapsWith (.ListComp elt [⟨tg, iter, ifs, 0⟩] scope pos) (some (.Name y py)) spos.line X.env = pure true)
    (hsl : ∀ i ∈ sl, i ∈ own.map (·.2) := by decide) (hy : X.N[i]? = some y := by rfl) (hyl : X.env.scope.names.lookup y = some .local := by rfl) (hc : X.calm = true := by rfl) (hs : ∀ x, foldedSetIterable iter X.env x = pure x := by intro _; rfl) :
    FS X W ex (.Assign [.Name y py] (.ListComp elt [⟨tg, iter, ifs, 0⟩] scope pos) spos) (mSet i (mLcN (own.map (·.2)) mi g tt me)) := by
  refine PS.imp (ps_setLc (g := rdG (wo X) ex WN sl g) (tt := rdT (wo X) ex WN tt) (te := rdE (wo X) ex WN me) hc hN hy hyl hsw hi ok hg ht he hs) fun D σ H q => ?_
  obtain ⟨ι, h, env, rel, re, po⟩ := q
  have po' := post_of (σ := σ) (B := fun ι H d v => RV (wo X) ι H d v) (Q := fun z H2 => D.nx (σ.set i (some z)) H2) re po fun z h2 ι2 H2 zv eq2 p2 k2 rel2 rv2 po2 => ps_nx rel2 ((re.mono p2 k2).set i rv2) po2
  exact ⟨ι, h, env, rel, re, post_bind po' fun it h1 ι1 H1 J eq1 p1 k1 rel1 jok po1 => rd_lc hsl jok rel1 (re.mono p1 k1) po1⟩
end
end LF
set_option Elab.async false
set_option linter.all false
set_option maxRecDepth 100000
set_option maxHeartbeats 4000000
/-! LF7: constants folded, truth, chains; what a proof of a law begins and ends with. -/
namespace LF
open PySem PySem.Spec L2
open PyProof.Rows hiding St
section
variable {X : Cx} {W : WX} {ex : Ex} {tg e a b c i o iter : Expr} {es : List Expr} {ma mb mc me ml : ME} {mas : MA} {pos pos' p : Pos} {x : Str}
theorem FE.to {m m' : ME} (h : FE X W ex e m) (he : ∀ env h, m env h = m' env h) : FE X W ex e m' := by
  have : m = m' := funext fun env => funext fun h => he env h
  rw [← this]; exact h
/-! ### constants -/
variable {k j v : Int}
theorem fk_add (ha : FE X W ex a (mC (.int k))) (hb : FE X W ex b (mC (.int j))) (hv : k + j = v) : FE X W ex (.BinOp a .Add b pos) (mC (.int v)) := by
  subst hv; exact (fe_add ha hb).to fun _ _ => rfl
theorem fk_sub (ha : FE X W ex a (mC (.int k))) (hb : FE X W ex b (mC (.int j))) (hv : k - j = v) : FE X W ex (.BinOp a .Sub b pos) (mC (.int v)) := by
  subst hv; exact (fe_sub ha hb).to fun _ _ => by simp [m2, mC, fSub, fI]
theorem fk_mul (ha : FE X W ex a (mC (.int k))) (hb : FE X W ex b (mC (.int j))) (hc : CMulW k j) (hv : k * j = v) : FE X W ex (.BinOp a .Mult b pos) (mC (.int v)) := by
  subst hv; exact (fe_mul ha hb).to fun _ _ => by simp [m2, mC, fMul, hc]
theorem fk_neg (ha : FE X W ex a (mC (.int k))) (hv : -k = v) : FE X W ex (.UnaryOp .USub a pos) (mC (.int v)) := by
  subst hv; exact (fe_neg ha).to fun _ _ => rfl
def CPowW (i j : Int) : Prop := 0 ≤ j ∧ (Builtin.Int.intBits i : Int) * j ≤ 2 ^ 27
instance (i j : Int) : Decidable (CPowW i j) := by unfold CPowW; infer_instance
theorem op_powW : OpR X (binaryOp .Pow) (rI CPowW fun i j => .int (i ^ j.toNat)) := opI fun _ _ _ _ _ _ _ hc q => pow_int hc.1 hc.2 q
def fPowW := fI CPowW fun i j => .int (i ^ j.toNat)
theorem fe_powW (ha : FE X W ex a ma) (hb : FE X W ex b mb) : FE X W ex (.BinOp a .Pow b pos) (m2 fPowW ma mb) := fe_op op_powW (ab_I fun _ _ _ _ => by simp [RV]) ha hb
theorem fk_pow (ha : FE X W ex a (mC (.int k))) (hb : FE X W ex b (mC (.int j))) (hc : CPowW k j) (hv : k ^ j.toNat = v) : FE X W ex (.BinOp a .Pow b pos) (mC (.int v)) := by
  subst hv; exact (fe_powW ha hb).to fun _ _ => by simp [m2, mC, fPowW, fI, hc]

/-! ### truth -/
def truD (h : M) : D → Option Bool
  | .non => some false
  | .bl b => some b
  | .int i => some (i != 0)
  | .str y => if y.length ≤ sizeLine then some ((y.length : Int) != 0) else none
  | .tup xs => some !xs.isEmpty
  | .ct xs => some !xs.isEmpty
  | .cl xs => some !xs.isEmpty
  | .loc l => match h[l]? with
    | some (.lst xs) => some !xs.isEmpty
    | some (.dK kvs) => some !kvs.isEmpty
    | _ => none
  | _ => none
theorem isEmpty_len {α β : Type} {xs : List α} {ys : List β} (h : xs.length = ys.length) : xs.isEmpty = ys.isEmpty := by
  cases xs <;> cases ys <;> simp at h ⊢
theorem truD_ok {G : Wo} {ι : List Addr} {H : Hp} {h : M} {d : D} {v : V} {t : Bool} (rel : Rel G ι H h) (r : RV G ι H d v) (e : truD h d = some t) : TruV G.K v H t := by
  cases d with
  | non => cases e; simp only [RV] at r; subst r; rfl
  | bl _ => cases e; simp only [RV] at r; subst r; rfl
  | int _ => cases e; simp only [RV] at r; subst r; rfl
  | str y =>
    simp only [truD] at e
    split at e
    · cases e; simp only [RV] at r; subst r; exact ⟨‹_›, rfl⟩
    · cases e
  | tup xs =>
    cases e
    obtain ⟨a, vs, rfl, s, r⟩ := tupOf_sq (xs := xs) r rfl
    exact .inr (.inl ⟨vs, s, by rw [isEmpty_len (RVs.length r)]⟩)
  | ct xs =>
    cases e
    obtain ⟨a, vs, rfl, s, r⟩ := tupOf_sq (xs := xs) r rfl
    exact .inr (.inl ⟨vs, s, by rw [isEmpty_len (RVs.length r)]⟩)
  | cl xs =>
    cases e
    obtain ⟨a, vs, rfl, s, r⟩ := lstOf_sq (xs := xs) rel r rfl
    exact .inl ⟨vs, s, by rw [isEmpty_len (RVs.length r)]⟩
  | loc l =>
    simp only [truD] at e
    split at e
    · rename_i xs e1
      cases e
      obtain ⟨a, vs, rfl, _, q, r⟩ := at_lst rel r e1
      exact .inl ⟨vs, SqL.of q, by rw [isEmpty_len (RVs.length r)]⟩
    · rename_i kvs e1
      cases e
      obtain ⟨a, vs, rfl, _, q, r⟩ := at_dK rel r e1
      exact .inr (.inr ⟨vs, q, by rw [isEmpty_len (RKs.len r)]⟩)
    · cases e
  | _ => cases e
def fTru (d : D) (h : M) : Res Bool := match truD h d with | some b => .ok b h | none => .stuck
@[simp] theorem fTru_bl {b : Bool} {h : M} : fTru (.bl b) h = .ok b h := (rfl)
def mTru (ma : ME) : MT := fun env h => (ma env h).bind fTru
theorem ft_tru (ha : FE X W ex a ma) (he : ∀ whole, isTrue a X.env whole = (do let v ← whole; standAt a.pos; holding [v] (truthy v)) := by intro _; rfl) : FT X W ex a (mTru ma) := by
  refine PT.imp (pt_truth ha he) fun σ H Q q => ?_
  obtain ⟨ι, h, env, rel, re, po⟩ := q
  refine ⟨ι, h, env, rel, re, post_bind po fun x h1 ι1 H1 v eq1 p1 k1 rel1 rv1 po1 => ?_⟩
  unfold fTru at po1
  split at po1
  · rename_i t e1
    exact ⟨t, truD_ok rel1 rv1 e1, po_ok rel1 rfl po1⟩
  · exact po1.elim

/-! ### chains -/
def mChain (f f' : D → D → M → Res D) (ma mb mc : ME) : ME := fun env h => (ma env h).bind fun x h1 => (mb env h1).bind fun y h2 => (f x y h2).bind fun z h3 => (asB z h3).bind fun t h3 => if t = true then (mc env h3).bind fun u h4 => f' y u h4 else .ok (.bl false) h3
/-- ints' order: what a chain's operator asks -/
theorem rd_chain {G : Wo} {g g' : Int → Int → Bool} {σ : St} {H : Hp} {Q : VK} (q : rdE G ex W (mChain (fI (fun _ _ => True) fun i j => .bl (g i j)) (fI (fun _ _ => True) fun i j => .bl (g' i j)) ma mb mc) σ H Q) :
    tChain (rI0 fun i j => .bl (g i j)) (rI0 fun i j => .bl (g' i j)) (rdE G ex W ma) (rdE G ex W mb) (rdE G ex W mc) σ H Q := by
  obtain ⟨ι, h, env, rel, re, po⟩ := q
  refine ⟨ι, h, env, rel, re, post_bind po fun x h1 ι1 H1 v eq1 p1 k1 rel1 rv1 po1 => ?_⟩
  refine ⟨ι1, h1, env, rel1, re.mono p1 k1, post_bind po1 fun y h2 ι2 H2 u eq2 p2 k2 rel2 rv2 po2 => ?_⟩
  have rv1 := RV.mono p2 k2 _ _ rv1
  cases x <;> (try exact po2.elim)
  cases y <;> (try exact po2.elim)
  simp only [RV] at rv1 rv2
  subst rv1; subst rv2
  simp only [fI, if_true, bind_ok, asB_bl] at po2
  refine ⟨_, _, rfl, rfl, _, rfl, ?_⟩
  split
  · rename_i ht
    rw [if_pos ht] at po2
    refine ⟨ι2, h2, env, rel2, (re.mono p1 k1).mono p2 k2, post_bind po2 fun w h3 ι3 H3 wv eq3 p3 k3 rel3 rv3 po3 => ?_⟩
    cases w <;> (try exact po3.elim)
    simp only [RV] at rv3
    subst rv3
    simp only [fI, if_true] at po3
    exact ⟨_, _, rfl, rfl, po_ok rel3 (by simp [RV]) po3⟩
  · rename_i ht
    rw [if_neg ht] at po2
    exact po_ok rel2 (by simp [RV]) po2

/-! ### a def's own contexts -/
section
variable {P : Program} {w : World} {K : PySem.W.Frag} {mg : Str → Option Value} {base : Heap} {N : List Str} {qual : Str} {sc : Scope} {f : Addr} {cd : Value} {A : Around} {outer : List Env} {s : Shared} {H : Hp} {E : XK}
theorem tkD : L2N.Takes (cxOf (L2N.CX P w) P w K mg base N qual sc f cd A outer s H E) (fun c d _ H => E c d H) := L2N.takes_of rfl rfl rfl rfl
theorem tkH {p : Addr × Obj} : L2N.Takes (L2H.cxH (L2N.CX P w) P w K mg base N qual sc f cd A outer s H E p) (fun c d _ H => E c d H) := L2N.takes_of rfl rfl rfl rfl
theorem hotH {p : Addr × Obj} (h : L2H.Hot1 A p) : L2H.HotC (L2H.cxH (L2N.CX P w) P w K mg base N qual sc f cd A outer s H E p) := ⟨p, ⟨h.1, h.2⟩, List.mem_cons_self⟩
theorem poD : PassesOwn (model P w) (cxOf (L2N.CX P w) P w K mg base N qual sc f cd A outer s H E).A (cxOf (L2N.CX P w) P w K mg base N qual sc f cd A outer s H E).env (cxOf (L2N.CX P w) P w K mg base N qual sc f cd A outer s H E).xe := passes_of rfl
end
theorem tkN : L2N.Takes X WN := fun _ _ x => by
  obtain ⟨_, _, _, _, _, _, _, _, _, _, _, _, _, _, _, _, w⟩ := x
  exact w.elim
end
/-- where a def of the text stands -/
structure FnAt (K : PySem.W.Frag) (mg : Str → Option Value) (x qual : Str) (st : Stmt) (ps : List Str) : Prop where
  ex : ∃ f fd, Fun K x qual st f fd ∧ mg x = some (.ref f) ∧ ∀ us : List Value, us.length = ps.length → bindArgs fd ⟨us, []⟩ = pure (ps.zip us)
theorem defOf {P : Program} {w : World} {K : PySem.W.Frag} {mg : Str → Option Value} {base : Heap} {x qual : Str} {st : Stmt} {N ps : List Str} {k : Nat} {mb : MS} (T : FnAt K mg x qual st ps) (S : FnScope N ps (defScope st))
    (body : ∀ (f : Addr) (cdv : Value) (A : Around) (outer : List Env) (s : Shared) (H : Hp) (E : XK), Room k (A.deeper (envOfC qual (defScope st) s.heap.objs.size f cdv)) →
      FSs (cxOf (L2N.CX P w) P w K mg base N qual (defScope st) f cdv A outer s H E) (fun c d _ H => E c d H) none (defBody st) mb) : Def P w K mg base x (k + 1) ps.length (mFn N.length ps.length mb) := by
  obtain ⟨f, fd, F, gx, hb⟩ := T.ex
  exact def_of F S gx (.all hb) (body f)
/-- the same, of a def that is called while an exception is handled -/
theorem defHOf {P : Program} {w : World} {K : PySem.W.Frag} {mg : Str → Option Value} {base : Heap} {x qual : Str} {st : Stmt} {N ps : List Str} {k : Nat} {mb : MS} (T : FnAt K mg x qual st ps) (S : FnScope N ps (defScope st))
    (body : ∀ (f : Addr) (cdv : Value) (A : Around) (outer : List Env) (s : Shared) (H : Hp) (E : XK) (p : Addr × Obj), L2H.Hot1 A p → L2H.RoomH k (A.deeper (envOfC qual (defScope st) s.heap.objs.size f cdv)) →
      FSs (L2H.cxH (L2N.CX P w) P w K mg base N qual (defScope st) f cdv A outer s H E p) (fun c d _ H => E c d H) none (defBody st) mb) : DefH P w K mg base x (k + 1) ps.length (mFn N.length ps.length mb) := by
  obtain ⟨f, fd, F, gx, hb⟩ := T.ex
  exact defH_of F S gx (.all hb) (body f)
theorem fnAt_mk {K : PySem.W.Frag} {h : Heap} {mg : Str → Option Value} (XK : K.In h) (G : h.Ns mainGlobals mg) {x : Str} {st : Stmt} {ps : List Str} {f : Addr} {oc : Value} {od an : Option Addr} {osl : Array (Option Value)} {kV doc pm cdv ct : Value}
    (hb : ∀ (kV doc pm : Value) (an : Option Addr) (cdv ct : Value) (us : List Value), us.length = ps.length → bindArgs (PySem.W.fnOf x x (defArgs st) (defBody st) (defScope st) .none kV doc pm an cdv ct) ⟨us, []⟩ = pure (ps.zip us))
    (a : PySem.W.nsIn K mainGlobals x = some (some (.ref f))) (l : K.lookup f = some ⟨oc, od, .func (PySem.W.fnOf x x (defArgs st) (defBody st) (defScope st) .none kV doc pm an cdv ct), osl⟩)
    (c : PySem.W.codeIn K cdv x = true) (k : PySem.W.keepIn K (.ref f) = true) : FnAt K mg x x st ps :=
  ⟨f, _, fun_mk (st := st) l c k, PySem.W.mg_of XK G a, hb kV doc pm an cdv ct⟩
/-- what the law's call is handed -/
def spL (K : PySem.W.Frag) : Sp := fun vs H Q _ => ∃ (a : Addr) (ns : List Int), vs = [.ref a] ∧ ns.length ≤ 63 ∧ (∀ z ∈ ns, Builtin.Int.intBits z ≤ 1048576) ∧ Only H ∧ SqL K H a (ns.map V.int) ∧ ∀ H', Q (.bl true) H'
/-- the mathematics' last word -/
def LawHolds (m : List D → M → Res D) : Prop := ∀ ns : List Int, ns.length ≤ 63 → (∀ z ∈ ns, Builtin.Int.intBits z ≤ 1048576) → ∃ h', m [.cl (ns.map D.int)] [] = .ok (.bl true) h'
theorem law_in {K : PySem.W.Frag} {mg : Str → Option Value} {m : List D → M → Res D} (hm : LawHolds m) (vs : List V) (H : Hp) (Q : VK) (E : XK) (h : spL K vs H Q E) : spF ⟨K, mg⟩ 1 m vs H Q E := by
  obtain ⟨a, ns, rfl, hl, hbits, hO, hS, hQ⟩ := h
  refine ⟨rfl, [], [], [.cl (ns.map D.int)], ⟨rfl, fun i j b h _ => by simp at h, fun l o h => by simp at h⟩, RVs.one ?_, ?_⟩
  · simp only [RV]
    refine ⟨a, ns.map V.int, rfl, ?_, ?_⟩
    · rcases hS with (h | ⟨o, h⟩) | h
      · exfalso
        rcases hO a with z | ⟨o, xs, z⟩
        · rw [z] at h; cases h
        · rw [z] at h; cases h
      · exact .inl ⟨o, h⟩
      · exact .inr h
    · clear hS hm hl hbits
      induction ns with
      | nil => exact RVs.nil
      | cons n ns ih => exact RVs.cons (by simp [RV]) ih
  · obtain ⟨h', e⟩ := hm ns hl hbits
    rw [e]
    intro ι' H' v _ _ _ rv
    simp only [RV] at rv
    subst rv
    exact hQ H'
theorem cx_none {P : Program} {w : World} (H : Hp) (s : Shared) (e : Value) (s' : Shared) (h : L2N.CX P w [] H s (fun _ _ _ => False) e s') : False := by
  obtain ⟨_, _, _, _, _, _, _, _, _, _, _, _, z⟩ := h
  exact z.elim
/-- the law's own def -/
theorem lawOf {P : Program} {w : World} {K : PySem.W.Frag} {mg : Str → Option Value} {st : Stmt} {N : List Str} {k : Nat} {mb : MS} {fa : Addr} (T : FnAt K mg "law" "law" st ["script"]) (hmg : mg "law" = some (.ref fa)) (S : FnScope N ["script"] (defScope st))
    (body : ∀ (base : Heap) (f : Addr) (cdv : Value) (A : Around) (outer : List Env) (s : Shared) (H : Hp) (E : XK), Room k (A.deeper (envOfC "law" (defScope st) s.heap.objs.size f cdv)) →
      FSs (cxOf (L2N.CX P w) P w K mg base N "law" (defScope st) f cdv A outer s H E) (fun c d _ H => E c d H) none (defBody st) mb) (hm : LawHolds (mFn N.length 1 mb)) :
    ∃ fd : FuncData, (∀ (s : Shared) (u : Value), BindsTo s fd ⟨[u], []⟩ [(("script" : Str), u)]) ∧ ∀ base : Heap, K.In base → base.Ns mainGlobals mg → FnOk P w K mg base (L2N.CX P w) (k + 1) fa fd ["script"] (spL K) := by
  obtain ⟨f, fd, F, gx, hb⟩ := T.ex
  cases gx.symm.trans hmg
  refine ⟨fd, fun s u => .of_eq (hb [u] rfl), fun base _ _ => FnOk.imp (sp := spF ⟨K, mg⟩ 1 (mFn N.length 1 mb)) (okN F S (fun vs H Q E h => h.1) fun cdv A outer s H vs Q E hr hsp => ⟨_, body base fa cdv A outer s H E hr, ?_⟩) fun vs H Q E h => law_in hm vs H Q E h⟩
  exact body_end (ps := ["script"]) hsp
/-- the end of a law's row -/
theorem law_walk {l : PySem.W.OpenLaw} {k : Nat} {q : Program} {loose : List Str} {XP : (Str → Option Value) → Heap → Prop} {YP : World → Heap → Prop} {d : DefRec} {K : Params → PySem.W.Frag}
    (hn : l.most = some 63) (hdf : d.params.defaults = []) (hr : Room k callerA) (hY : ∀ (w : World) (h : Heap), YP w h → (K w.params).In h)
    (F : ∀ (w : World) (mg : Str → Option Value) (fa : Addr) (h : Heap), (K w.params).In h → h.Ns mainGlobals mg → mg d.name = some (.ref fa) → ∃ fd : FuncData, (∀ (s : Shared) (u : Value), BindsTo s fd ⟨[u], []⟩ [(("script" : Str), u)]) ∧
        ∀ base : Heap, (K w.params).In base → base.Ns mainGlobals mg → FnOk l.prog w (K w.params) mg base (L2N.CX l.prog w) k fa fd ["script"] (spL (K w.params))) :
    PySem.W.WalkO q loose XP YP l.row.toRowW d [] (fun f vs => PySem.call f vs) :=
  walk_ofB (n := 63) (CX := fun w => L2N.CX l.prog w) (sp := fun w => spL (K w.params)) hn (by decide) hdf hr hY F
    (fun w H a ns h1 h2 h3 h4 => ⟨a, ns, rfl, h1, h2, h3, h4, fun _ => rfl⟩) fun w H s e s' z => cx_none H s e s' z
end LF
set_option Elab.async false
set_option linter.all false
set_option maxRecDepth 100000
set_option maxHeartbeats 4000000
/-! LFX: own exceptions: made, raised, caught. -/
namespace LF
open PySem PySem.Spec L2
open NdefX (NF NScope CellsAt startF ncx envF inv_startN)
open PyProof.Rows hiding St
section
open PySem.W
variable {prog : Program} {w : World} {A : Around} {E : Value → Shared → Prop} {h : Heap} {g : Array GenState} {d : Drawn} {t : Nat} {os : OsState}
variable {nm q : Str} {C N : Addr} {bs bm : List Value} {hdct : Bool} {sn : List Str} {sub : List Value} {ab : Bool} {col : Option Bool} {dd : Option Addr} {k0 k1 k2 k3 k5 : Option Value}
/-- the bound __init__ of ValueError, called -/
theorem call_mw {u e t0 : Addr} {rest : List Value} {Q : Value → Shared → Prop}
    (hC : h.get? C = some (excClassObj nm q C N bs bm hdct sn sub ab col dd k0 k1 k2 k3 k5 "ValueError.__new__")) (he : h.get? e = some (HandSPX.excO C t0)) (hu : h.get? u = some (kxs_mw "ValueError.__init__" e)) (hrest : rest.length ≤ sizeLine)
    (hq : ∀ h' t1, (∀ b o, b ≠ e → h.get? b = some o → h'.get? b = some o) → h'.get? e = some (HandSPX.excO C t1) → Q .none ⟨h', g, d, t, os⟩) :
    wpAny (model prog w) A (call (.ref u) rest) Q E ⟨h, g, d, t, os⟩ := by
  refine wpAny_call (codeAny_of_tree ?_)
  show wpAny _ A.in1 (callAny (.ref u) ⟨rest, []⟩) _ _ _
  simp only [callAny]
  refine wpAny_bind (wpAny_load hu ?_)
  simp only [kxs_mw, show (Value.type "method-wrapper" == Value.type "method" || Value.type "method-wrapper" == Value.type "builtin_function_or_method" || Value.type "method-wrapper" == Value.type "method-wrapper") = true by decide, if_true]
  refine KFB.if_so (by decide) ?_
  refine wpAny_bind (check_bound_init F.excBase_ValueError.toExcCallFacts hC he rfl ?_)
  refine wpAny_bind (wpAny_pure (wpAny_pure ?_))
  refine ⟨plainId_quiet F.excBase_ValueError.init.plain _, codeAny_builtin F.excBase_ValueError.initEntry ?_⟩
  rw [Around.under_plainId F.excBase_ValueError.init.plain _]
  wp_walk
  refine hq _ h.objs.size (fun b o hb ho => ?_) ?_
  · rw [Heap.get?_update_other _ _ (Ne.symm hb)]
    exact Heap.get?_push_of_some _ ho
  · rw [Heap.get?_update_self _ (Heap.get?_push_of_some _ he) rfl]
    rfl
end
/-- what the written part says around super().__init__ in the __init__ of the class at D, of an instance of the class at C -/
structure SupK (P : Program) (K : PySem.W.Frag) (mg : Str → Option Value) (C D f cc : Addr) (cdv : Value) (sf : Str) : Prop where
  fn : ∃ oc od fd osl ar, K.lookup f = some ⟨oc, od, .func fd, osl⟩ ∧ (fd.params.posonlyargs ++ fd.params.args).head? = some ar ∧ ar.arg = sf
  code : ∃ cda ccl cdd vs ccs file tf, cdv = .ref cda ∧ K.lookup cda = some ⟨ccl, cdd, .fields vs, ccs⟩ ∧ vs[2]? = some (.str file tf) ∧ ((P.main.file : Str) == file) = true
  top : (P.main.scope.names.lookup ("super" : Str)).isSome = false
  cell : ∃ cl cld csl, K.lookup cc = some ⟨cl, cld, .cell (some (.ref D)), csl⟩
  cls : (PySem.W.clsIn K D).isSome = true
  sub : PySem.W.mroIn K C (.ref D) = some true
  glob : mg "super" = none
  ini : PySem.W.ks_superIn K C D "__init__" = some (some (.builtin "ValueError.__init__"))
  nost : PySem.W.nsIn K cStatics "thirdparty.any" = some none
  ve : PySem.W.subIn K (.ref C) (.type "ValueError") = some true
section
variable {X : Cx} {pins : List (Addr × Obj)} {σ : St} {H : Hp} {s : Shared} {a C D f cc : Addr} {sf : Str} {m : Str} {body : List Stmt} {p0 p1 p2 p3 p4 p5 : Pos} {j : Nat} {Q : Flow → Shared → Prop} {pl : Sem Bool}
theorem super_init (S : SupK X.prog X.K X.mg C D f cc X.env.code sf) (T : OexC X.K C) (I : Inv X pins σ H s) (e : H a = some (exo a C none)) (hks : X.env.kindOf "super" = some .globalImplicit) (hkc : X.env.kindOf "__class__" = some .free) (hfu : X.env.func = some f)
    (hcl : X.env.cells.lookup ("__class__" : Str) = some cc) (hN : X.N[0]? = some sf) (hσ : σ[0]? = some (some (.ref a))) (hsf : X.env.kindOf sf = some .local) (hq : ∀ s', Inv X pins σ H s' → Q .next s')
    (hs : swapsWith (.Call (.Attribute (.Call (.Name "super" p0) [] [] p1) "__init__" p2) [.Constant (.str m) j p3] [] p4) none p5.line X.env = pure false := by rfl) (he : starEach [.Constant (.str m) j p3] X.env = (false, eval (.Constant (.str m) j p3) X.env) :: starEach [] X.env := by rfl)
    (hev : eval (.Call (.Attribute (.Call (.Name "super" p0) [] [] p1) "__init__" p2) [.Constant (.str m) j p3] [] p4) X.env = (do
      let ov ← attributeBase (.Call (.Name "super" p0) [] [] p1) "__init__" X.env (eval (.Call (.Name "super" p0) [] [] p1) X.env)
      standAt p2.atName
      let (f, first) ← holding [ov] (getMethod ov "__init__" pl)
      callWith p4 f first (backTo p4 (starEach [.Constant (.str m) j p3] X.env)) []) := by rfl) :
    PySem.wpAt (model X.prog X.w) X.A (.func body X.env) (exec (.Expr (.Call (.Attribute (.Call (.Name "super" p0) [] [] p1) "__init__" p2) [.Constant (.str m) j p3] [] p4) p5) X.env) Q X.xe s := by
  obtain ⟨oc, od, fd, osl, ar, hf, hp, har⟩ := S.fn
  obtain ⟨cda, ccl, cdd, vs, ccs, file, tf, hco, hcode, hvs, hfile⟩ := S.code
  obtain ⟨cl, cld, csl, hcell⟩ := S.cell
  obtain ⟨cdD, hD⟩ := Option.isSome_iff_exists.mp S.cls
  obtain ⟨oD, hD1, hD2⟩ : ∃ oD, X.K.lookup D = some oD ∧ oD.data = .cls cdD := by
    unfold PySem.W.clsIn at hD
    split at hD
    · rename_i c d cd' sl ho
      cases hD
      exact ⟨_, ho, rfl⟩
    · cases hD
  have hk := I.ok.kind
  have X1 := I.kIn
  obtain ⟨t1, hoe⟩ := exo_at I.hok e
  obtain ⟨nm, q, N, bs, bm, sn, sub, ab, col, dd, k0, k1, k2, k3, k5, hC, hbm⟩ := T.cls
  have hclC : PySem.W.clsIn X.K C = some { name := nm, bases := bs, mro := .ref C :: bm, ns := N, qualname := q, hasDict := true, slotNames := sn, subclasses := sub, abstract := ab, collection := col, hasDel := false } := by unfold PySem.W.clsIn; rw [hC] <;> rfl
  refine PySem.ks_wpAt_Expr_any (PySem.ks_wpAt_MethodCall ?_ hev) (I.quiet) hs
  refine PySem.ks_wpAt_super_base hks hkc rfl hfu (X1 _ _ hf) rfl hp hco (X1 _ _ hcode) rfl hvs hfile S.top ?_
  obtain ⟨mb, hb1, hb2⟩ := I.mod.blt
  refine PySem.W.ks_loadName_global hk hks (Calls.loadGlobal_builtin (by rw [I.ok.glob]; exact I.mod.glob.keeps I.bk) S.glob (by rw [I.ok.blt]; exact hb1.keeps I.bk) ((hb2 _ (by decide)).trans (by decide +kernel)) ⟨rfl, ?_⟩)
  refine wpAny_loadName_free hk hkc hcl ⟨_, X1 _ _ hcell, rfl⟩ ?_
  obtain ⟨ml, hn, hl⟩ := I.loc
  obtain ⟨u, ru, hu⟩ := hl 0 sf (.ref a) hN hσ (.inl hsf)
  obtain rfl : u = Value.ref a := ru
  have hml : ml sf = some (.ref a) := by
    rcases hu with ⟨_, h⟩ | ⟨h | h, _⟩
    · exact h
    · rw [hsf] at h; cases h
    · rw [hsf] at h; cases h
  rw [har]
  refine wpAny_loadName_local hk hsf hn hml ?_
  obtain ⟨hh, g, d, t, os⟩ := s
  refine PySem.ks_wpAny_isType_cls (X1 _ _ hD1) hD2 ⟨rfl, ?_⟩
  refine PySem.ks_wpAny_call_super (X1 _ _ hD1) hD2 hoe rfl (fun c z => by cases z) (PySem.W.looks_mroIn X1 S.sub) (fun h' e' k => ?_)
  have I2 : Inv X pins σ H ⟨h', g, d, t, os⟩ := I.kept (t' := t) k
  have X2 := I2.kIn
  have hoe2 := k _ _ hoe
  have IA : PySem.W.InstAt h' a _ C none := ⟨hoe2, rfl, rfl, trivial⟩
  have hsup := S.ini
  unfold PySem.W.ks_superIn at hsup
  rw [hclC] at hsup
  refine PySem.W.kxs_getMethod PySem.W.kxs_ValueError e' (PySem.W.looks_opaque X2 S.nost) (l₀ := .ref C :: bm) ?_ rfl X2 hsup (IA.type.andThen (PySem.W.looks_subIn X2 S.ve)) (PySem.W.ks_ne X2 IA hclC) (by decide) ?_
  · exact fun A Q E s k q => wpAny_bind ((PySem.W.looks_clsIn X2 hclC) A _ E s k (wpAny_pure q))
  have k3' : ∀ b o, h'.get? b = some o → (h'.push (PySem.W.kxs_mw "ValueError.__init__" a)).get? b = some o := fun b o z => Heap.get?_push_of_some _ z
  have I3 : Inv X pins σ H ⟨h'.push (PySem.W.kxs_mw "ValueError.__init__" a), g, d, t + 1, os⟩ := I2.kept (t' := t + 1) k3'
  have hw : (h'.push (PySem.W.kxs_mw "ValueError.__init__" a)).get? h'.objs.size = some (PySem.W.kxs_mw "ValueError.__init__" a) := Heap.get?_push_at rfl rfl
  have nH : H h'.objs.size = none := I2.hok.fresh (Nat.le_refl _)
  have I4 : Inv X ((h'.objs.size, PySem.W.kxs_mw "ValueError.__init__" a) :: pins) σ H ⟨h'.push (PySem.W.kxs_mw "ValueError.__init__" a), g, d, t + 1, os⟩ := I3.pins_of fun p hp => by
    rcases List.mem_cons.mp hp with rfl | hp
    · exact ⟨hw, nH, fun z => absurd I2.lt (by rw [← z]; exact Nat.lt_irrefl _), I2.nofs (Nat.le_refl _), fun v z => by cases z⟩
    · exact I3.pin p (List.mem_append_right _ hp)
  show wpAny _ _ (callWith p4 (.ref h'.objs.size) [] (backTo p4 (starEach [.Constant (.str m) j p3] X.env)) []) _ _ _
  rw [he]
  refine PySem.W.kxs_callWith (i := "ValueError.__init__") (x := a) rfl ?_
  refine Calls.evalArgs_plain ?_
  have R := (pa_cons (X := X) (pe_str (x := m) (j := j) (pos := p3)) pa_nil (hs := he)).run p4 _ _ σ H (fun vs H1 => vs = [V.str m] ∧ H = H1) I4 ⟨rfl, rfl⟩
  rw [he] at R
  refine wpAny_mono R (fun us s1 hh => ?_) fun _ _ z => ?_
  · obtain ⟨vs', H1, I5, r1, ev, eH⟩ := hh
    subst ev; subst eH
    have hu := (I5.pin (h'.objs.size, PySem.W.kxs_mw "ValueError.__init__" a) (List.mem_append_right _ List.mem_cons_self)).1
    refine ⟨hu, ?_⟩
    obtain ⟨t2, hoe5⟩ := exo_at I5.hok e
    have hlen : us.length ≤ sizeLine := by rw [← Paired.length r1]; show 1 ≤ sizeLine; decide
    obtain ⟨h5, g5, d5, tk5, os5⟩ := s1
    refine call_mw (I5.kIn _ _ hC) hoe5 hu hlen fun h6 t3 k6 hx6 => ?_
    have J := I5.write (t' := tk5) (x := a) (e := a) (o := exo a C none) (by rw [e]; exact True.intro) (.inl rfl) k6 ⟨_, hx6⟩ (exo_ok hx6)
    have eu : upd H a (exo a C none) = H := by
      funext b
      by_cases hb : b = a
      · rw [hb, upd_same, e]
      · rw [upd_ne hb]
    rw [eu] at J
    exact hq _ (J.pins_of fun p hp => J.pin p (List.mem_append_right _ (List.mem_cons_of_mem _ hp)))
  · exact z
end
/-! ### the __init__ of an own exception -/
abbrev clsN : Str := "__class__"
abbrev supSt (m : Str) (j : Nat) (p0 p1 p2 p3 p4 p5 : Pos) : Stmt := .Expr (.Call (.Attribute (.Call (.Name "super" p0) [] [] p1) "__init__" p2) [.Constant (.str m) j p3] [] p4) p5
section
variable {CX : CXT} {P : Program} {w : World} {K : PySem.W.Frag} {mg : Str → Option Value} {base : Heap} {ps : List Str} {F : NF} {f cc D : Addr} {k : Nat} {sp : Sp} {sf m : Str} {j : Nat} {p0 p1 p2 p3 p4 p5 : Pos} {rest : List Stmt} {dV kV doc pm ct oc : Value} {an od : Option Addr} {osl : Array (Option Value)}
theorem fn_sup (lk : K.lookup f = some ⟨oc, od, .func (PySem.W.ksFn F.name F.qual F.params F.body F.scope dV kV doc pm an (.ref F.c) ct cc), osl⟩) (hcd : PySem.W.codeIn K (.ref F.c) F.qual = true) (hF : F.cl = [(clsN, cc)]) (hb : F.body = supSt m j p0 p1 p2 p3 p4 p5 :: rest)
    (S : NScope (ps ++ [clsN]) ps [clsN] F.scope) (hps : ps[0]? = some sf) (hsu : F.scope.names.lookup ("super" : Str) = some .globalImplicit) (hcell : ∃ cl cld csl, K.lookup cc = some ⟨cl, cld, .cell (some (.ref D)), csl⟩)
    (len : ∀ vs H Q E, sp vs H Q E → vs.length = ps.length)
    (hq : ∀ L, swapsWith (.Call (.Attribute (.Call (.Name "super" p0) [] [] p1) "__init__" p2) [.Constant (.str m) j p3] [] p4) none p5.line (envF F f L) = pure false) (he : ∀ L, starEach [.Constant (.str m) j p3] (envF F f L) = (false, eval (.Constant (.str m) j p3) (envF F f L)) :: starEach [] (envF F f L))
    {pl : Sem Bool}
    (hev : ∀ L, eval (.Call (.Attribute (.Call (.Name "super" p0) [] [] p1) "__init__" p2) [.Constant (.str m) j p3] [] p4) (envF F f L) = (do
      let ov ← attributeBase (.Call (.Name "super" p0) [] [] p1) "__init__" (envF F f L) (eval (.Call (.Name "super" p0) [] [] p1) (envF F f L))
      standAt p2.atName
      let (fv, first) ← holding [ov] (getMethod ov "__init__" pl)
      callWith p4 fv first (backTo p4 (starEach [.Constant (.str m) j p3] (envF F f L))) []))
    (hbody : ∀ (A : Around) (outer : List Env) (s : Shared) (H : Hp) (vs : List V) (Q : VK) (E : XK), Room k (A.deeper (envF F f s.heap.objs.size)) → sp vs H Q E →
      ∃ a C, vs[0]? = some (.ref a) ∧ SupK P K mg C D f cc (.ref F.c) sf ∧ OexC K C ∧ H a = some (exo a C none) ∧
      ∃ t, PSs (ncx CX P w K mg base (ps ++ [clsN]) F f A outer s H E) rest t ∧ t { nx := fun _ H' => Q .non H', rt := Q } (startF (ps ++ [clsN]) vs [none]) H) :
    FnOk P w K mg base CX (k + 1) f (PySem.W.ksFn F.name F.qual F.params F.body F.scope dV kV doc pm an (.ref F.c) ct cc) ps sp := by
  refine ⟨len, fun A outer s H args us vs Q E hr e0 hbd r hsp => ?_⟩
  have hl := len _ _ _ _ hsp
  obtain ⟨cl, cld, csl, hcc⟩ := hcell
  have KB := e0.mod.kin
  have KX : K.In s.heap := e0.mod.kin.keeps fun b o e => (e0.bs b o e).1
  have lim : s.heap.NoLimit := e0.mod.nolimit.keeps fun b o e => (e0.bs b o e).1
  have hnd : ps.Nodup := (List.nodup_append.mp S.nd).1
  refine PySem.ks_codeAny_call_defAt (fd := PySem.W.ksFn F.name F.qual F.params F.body F.scope dV kV doc pm an (.ref F.c) ct cc) (body := F.body) (binds := ps.zip us) hr.depth (KX _ _ lk) rfl lim (PySem.W.codeRec_of KX hcd) rfl hbd S.nocell (fun x hx => S.par _ (List.of_mem_zip hx).1) (fun h₁ hns kp => ?_) S.co S.gen S.kind
  obtain ⟨a, C, ha, SK, T, ea, t, ht, q⟩ := hbody A outer s H vs Q E (hr.deeper _) hsp
  have C0 : CellsAt F.cl [clsN] [none] s.heap H := by
    rw [hF]
    refine ⟨rfl, fun y c z => ?_, fun x y c z1 z2 => ?_, fun i y z => ?_⟩
    · have : c = cc := by
        simp only [List.lookup] at z
        split at z
        · cases z; rfl
        · cases z
      subst this
      exact ⟨(e0.bs _ _ (KB _ _ hcc)).2, _, _, KX _ _ hcc, rfl⟩
    · have h1 : ∀ {x : Str} {c : Addr}, List.lookup x [(clsN, cc)] = some c → x = clsN := fun {x c} z => by
        simp only [List.lookup] at z
        split at z
        · rename_i h; exact beq_iff_eq.mp h
        · cases z
      rw [h1 z1, h1 z2]
    · cases i with
      | zero =>
        have : y = clsN := by simpa using z.symm
        subst this
        exact ⟨cc, rfl, fun v z => by cases z⟩
      | succ i => simp at z
  have I : Inv (ncx CX P w K mg base (ps ++ [clsN]) F f A outer s H E) [] (startF (ps ++ [clsN]) vs [none]) H { s with heap := h₁, toks := s.toks + (ps.zip us).length } := inv_startN S hr.hd e0 hl r C0 hns kp
  have fin : ∀ {σ' : St} {H' : Hp} {v : V} {u : Value} {s' : Shared}, Inv (ncx CX P w K mg base (ps ++ [clsN]) F f A outer s H E) [] σ' H' s' → RelV v u → Q v H' → CE outer P w H s Q u s' :=
    fun {σ' H' v u s'} J rv q => ⟨v, H', J.os, J.bare, J.base, J.hok, rv, q⟩
  have hp0 : 0 < ps.length := (List.getElem?_eq_some_iff.mp hps).1
  have hσ : (startF (ps ++ [clsN]) vs [none])[0]? = some (some (.ref a)) := by
    unfold startF
    rw [List.getElem?_append_left (by rw [List.length_map]; omega), List.getElem?_map, ha]; rfl
  have hev1 := hev s.heap.objs.size
  have eenv : callEnv (PySem.W.ksFn F.name F.qual F.params F.body F.scope dV kV doc pm an (.ref F.c) ct cc) s.heap.objs.size f = envF F f s.heap.objs.size := by unfold envF; rw [hF]; rfl
  rw [eenv]
  rw [hb] at *
  refine PySem.ks_wpAt_execs_cons ?_
  refine super_init (X := ncx CX P w K mg base (ps ++ [clsN]) F f A outer s H E) (pl := pl) SK T I ea hsu (S.frk _ (by simp)) rfl (by show List.lookup _ F.cl = _; rw [hF]; rfl) (by show (ps ++ [clsN])[0]? = _; rw [List.getElem?_append_left hp0]; exact hps) hσ (S.par _ (List.mem_of_getElem? hps)) (fun s' J => ?_) (hq _) (he _) hev1
  refine PySem.wpAt_of_wpAny (wpAny_mono (ht.run [] s' _ H _ J q) (fun fl s'' hs => ?_) fun e s' hs => hs)
  cases fl with
  | ret u =>
    obtain ⟨v, σ', H', J, rv, q⟩ := hs
    exact fin J rv q
  | next =>
    obtain ⟨σ', H', J, q⟩ := hs
    exact fin (v := V.non) (u := Value.none) J rfl q
  | brk =>
    obtain ⟨_, _, _, q⟩ := hs
    exact False.elim q
  | cont =>
    obtain ⟨_, _, _, q⟩ := hs
    exact False.elim q
end
/-! ### an own exception is made and raised -/
/-- what the __init__ of the class at C promises: the fields fs, out of the parameters of the same names -/
def spX (K : PySem.W.Frag) (C : Addr) (fs : List Str) : Sp := fun vs H Q _ => ∃ (a : Addr) (ws : List V), vs = .ref a :: ws ∧ ws.length = fs.length ∧ H a = some (exo a C none) ∧
  ∀ (dx : Addr) (H' : Hp), H dx = none → dx ≠ a → H' a = some (exo a C (some dx)) → H' dx = some (exd dx (fs.zip ws).reverse) → (∀ b, b ≠ a → b ≠ dx → H' b = H b) → Q .non H'
abbrev slfN : Str := "self"
structure ExcOk (P : Program) (w : World) (K : PySem.W.Frag) (mg : Str → Option Value) (base : Heap) (x : Str) (k : Nat) (fs : List Str) : Prop where
  ex : ∃ C fI fd, mg x = some (.ref C) ∧ OexC K C ∧ PySem.W.findIn K (.ref C) "__init__" = some (some (.ref fI)) ∧ PySem.W.typeIn K (.ref fI) = some (.type "function") ∧ FnOk P w K mg base (L2N.CX P w) k fI fd (slfN :: fs) (spX K C fs) ∧ Binds K fd (slfN :: fs) []
abbrev asSt (f : Str) (q0 q1 q2 q3 : Pos) : Stmt := .Assign [.Attribute (.Name slfN q0) f q1] (.Name f q2) q3
section
variable {P : Program} {w : World} {K : PySem.W.Frag} {mg : Str → Option Value} {base : Heap} {F : NF} {fI cc C : Addr} {k : Nat} {x m f1 f2 : Str} {j : Nat} {p0 p1 p2 p3 p4 p5 q0 q1 q2 q3 r0 r1 r2 r3 : Pos} {dV kV doc pm ct oc : Value} {an od : Option Addr} {osl : Array (Option Value)} {pl : Sem Bool}
theorem excOk1 (gx : mg x = some (.ref C)) (T : OexC K C) (hi : PySem.W.findIn K (.ref C) "__init__" = some (some (.ref fI))) (hty : PySem.W.typeIn K (.ref fI) = some (.type "function"))
    (hbd : ∀ us : List Value, us.length = [slfN, f1].length → bindArgs (PySem.W.ksFn F.name F.qual F.params F.body F.scope dV kV doc pm an (.ref F.c) ct cc) ⟨us, []⟩ = pure ([slfN, f1].zip us))
    (SK : SupK P K mg C C fI cc (.ref F.c) slfN) (no1 : PySem.W.findIn K (.ref C) f1 = some none)
    (lk : K.lookup fI = some ⟨oc, od, .func (PySem.W.ksFn F.name F.qual F.params F.body F.scope dV kV doc pm an (.ref F.c) ct cc), osl⟩) (hcd : PySem.W.codeIn K (.ref F.c) F.qual = true) (hF : F.cl = [(clsN, cc)])
    (hb : F.body = supSt m j p0 p1 p2 p3 p4 p5 :: [asSt f1 q0 q1 q2 q3])
    (S : NScope ([slfN, f1] ++ [clsN]) [slfN, f1] [clsN] F.scope) (hsu : F.scope.names.lookup ("super" : Str) = some .globalImplicit)
    (hq : ∀ L, swapsWith (.Call (.Attribute (.Call (.Name "super" p0) [] [] p1) "__init__" p2) [.Constant (.str m) j p3] [] p4) none p5.line (envF F fI L) = pure false) (he : ∀ L, starEach [.Constant (.str m) j p3] (envF F fI L) = (false, eval (.Constant (.str m) j p3) (envF F fI L)) :: starEach [] (envF F fI L))
    (hev : ∀ L, eval (.Call (.Attribute (.Call (.Name "super" p0) [] [] p1) "__init__" p2) [.Constant (.str m) j p3] [] p4) (envF F fI L) = (do
      let ov ← attributeBase (.Call (.Name "super" p0) [] [] p1) "__init__" (envF F fI L) (eval (.Call (.Name "super" p0) [] [] p1) (envF F fI L))
      standAt p2.atName
      let (fv, first) ← holding [ov] (getMethod ov "__init__" pl)
      callWith p4 fv first (backTo p4 (starEach [.Constant (.str m) j p3] (envF F fI L))) []))
    (hs1 : ∀ L, swapsWith (.Name f1 q2) (some (.Attribute (.Name slfN q0) f1 q1)) q3.line (envF F fI L) = pure false)
    (hd1 : (f1 == ("__debug__" : Str)) = false) (hd2 : (f1 == ("__classdict__" : Str)) = false) :
    ExcOk P w K mg base x (k + 1) [f1] := by
  refine ⟨C, fI, _, gx, T, hi, hty, fn_sup (sf := slfN) (pl := pl) lk hcd hF hb S rfl hsu SK.cell (fun vs H Q E h => ?_) hq he hev (fun A outer s H vs Q E hr hsp => ?_), .all hbd⟩
  · obtain ⟨a, ws, rfl, hl, _⟩ := h
    simp at hl; simp [hl]
  · obtain ⟨a, ws, rfl, hl, ha, q⟩ := hsp
    obtain ⟨y, rfl⟩ : ∃ y, ws = [y] := by
      match ws, hl with
      | [y], _ => exact ⟨y, rfl⟩
    refine ⟨a, C, rfl, SK, T, ha, _, pss_one (ps_ost (pe_var (i := 0) rfl (.inl (S.par _ (by simp)))) (pe_var (i := 1) rfl (.inl (S.par _ (by simp))) hd1 hd2) (hs1 _)), ?_⟩
    refine ⟨y, rfl, .ref a, rfl, a, C, rfl, T, no1, .inl ⟨ha, fun dx hn hne => q dx _ hn hne upd_same ?_ fun b h1 h2 => ?_⟩⟩
    · rw [upd_ne hne, upd_same]; rfl
    · rw [upd_ne h1, upd_ne h2]
theorem excOk2 (gx : mg x = some (.ref C)) (T : OexC K C) (hi : PySem.W.findIn K (.ref C) "__init__" = some (some (.ref fI))) (hty : PySem.W.typeIn K (.ref fI) = some (.type "function"))
    (hbd : ∀ us : List Value, us.length = [slfN, f1, f2].length → bindArgs (PySem.W.ksFn F.name F.qual F.params F.body F.scope dV kV doc pm an (.ref F.c) ct cc) ⟨us, []⟩ = pure ([slfN, f1, f2].zip us))
    (SK : SupK P K mg C C fI cc (.ref F.c) slfN) (no1 : PySem.W.findIn K (.ref C) f1 = some none) (no2 : PySem.W.findIn K (.ref C) f2 = some none)
    (lk : K.lookup fI = some ⟨oc, od, .func (PySem.W.ksFn F.name F.qual F.params F.body F.scope dV kV doc pm an (.ref F.c) ct cc), osl⟩) (hcd : PySem.W.codeIn K (.ref F.c) F.qual = true) (hF : F.cl = [(clsN, cc)])
    (hb : F.body = supSt m j p0 p1 p2 p3 p4 p5 :: [asSt f1 q0 q1 q2 q3, asSt f2 r0 r1 r2 r3])
    (S : NScope ([slfN, f1, f2] ++ [clsN]) [slfN, f1, f2] [clsN] F.scope) (hsu : F.scope.names.lookup ("super" : Str) = some .globalImplicit)
    (hq : ∀ L, swapsWith (.Call (.Attribute (.Call (.Name "super" p0) [] [] p1) "__init__" p2) [.Constant (.str m) j p3] [] p4) none p5.line (envF F fI L) = pure false) (he : ∀ L, starEach [.Constant (.str m) j p3] (envF F fI L) = (false, eval (.Constant (.str m) j p3) (envF F fI L)) :: starEach [] (envF F fI L))
    (hev : ∀ L, eval (.Call (.Attribute (.Call (.Name "super" p0) [] [] p1) "__init__" p2) [.Constant (.str m) j p3] [] p4) (envF F fI L) = (do
      let ov ← attributeBase (.Call (.Name "super" p0) [] [] p1) "__init__" (envF F fI L) (eval (.Call (.Name "super" p0) [] [] p1) (envF F fI L))
      standAt p2.atName
      let (fv, first) ← holding [ov] (getMethod ov "__init__" pl)
      callWith p4 fv first (backTo p4 (starEach [.Constant (.str m) j p3] (envF F fI L))) []))
    (hs1 : ∀ L, swapsWith (.Name f1 q2) (some (.Attribute (.Name slfN q0) f1 q1)) q3.line (envF F fI L) = pure false) (hs2 : ∀ L, swapsWith (.Name f2 r2) (some (.Attribute (.Name slfN r0) f2 r1)) r3.line (envF F fI L) = pure false)
    (hd1 : (f1 == ("__debug__" : Str)) = false) (hd2 : (f1 == ("__classdict__" : Str)) = false) (hd3 : (f2 == ("__debug__" : Str)) = false) (hd4 : (f2 == ("__classdict__" : Str)) = false) :
    ExcOk P w K mg base x (k + 1) [f1, f2] := by
  refine ⟨C, fI, _, gx, T, hi, hty, fn_sup (sf := slfN) (pl := pl) lk hcd hF hb S rfl hsu SK.cell (fun vs H Q E h => ?_) hq he hev (fun A outer s H vs Q E hr hsp => ?_), .all hbd⟩
  · obtain ⟨a, ws, rfl, hl, _⟩ := h
    simp at hl; simp [hl]
  · obtain ⟨a, ws, rfl, hl, ha, q⟩ := hsp
    obtain ⟨y, z, rfl⟩ : ∃ y z, ws = [y, z] := by
      match ws, hl with
      | [y, z], _ => exact ⟨y, z, rfl⟩
    refine ⟨a, C, rfl, SK, T, ha, _, pss_cons (ps_ost (pe_var (i := 0) rfl (.inl (S.par _ (by simp)))) (pe_var (i := 1) rfl (.inl (S.par _ (by simp))) hd1 hd2) (hs1 _)) (pss_one (ps_ost (pe_var (i := 0) rfl (.inl (S.par _ (by simp)))) (pe_var (i := 2) rfl (.inl (S.par _ (by simp))) hd3 hd4) (hs2 _))), ?_⟩
    refine ⟨y, rfl, .ref a, rfl, a, C, rfl, T, no1, .inl ⟨ha, fun dx hn hne => ?_⟩⟩
    refine ⟨z, rfl, .ref a, rfl, a, C, rfl, T, no2, .inr ⟨dx, [(f1, y)], upd_same, ?_, by simp, q dx _ hn hne ?_ ?_ fun b h1 h2 => ?_⟩⟩
    · rw [upd_ne hne, upd_same]
    · rw [upd_ne (Ne.symm hne), upd_same]
    · rw [upd_same]; rfl
    · rw [upd_ne h2, upd_ne h1, upd_ne h2]
end
theorem zip_rev {α β : Type} : ∀ (as : List α) (bs : List β), as.length = bs.length → (as.zip bs).reverse = as.reverse.zip bs.reverse
  | [], [], _ => rfl
  | a :: as, b :: bs, h => by
    have h' : as.length = bs.length := by simpa using h
    rw [List.zip_cons_cons, List.reverse_cons, zip_rev as bs h', List.reverse_cons, List.reverse_cons, List.zip_append (by simp [h'])]; rfl
theorem RVs.rev {G : Wo} {ι : List Addr} {H : Hp} : ∀ {xs : List D} {vs : List V}, RVs G ι H xs vs → RVs G ι H xs.reverse vs.reverse
  | [], vs, r => by simp only [RVs] at r; subst r; exact RVs.nil
  | x :: xs, vs, r => by
    simp only [RVs] at r
    obtain ⟨v, q, rfl, r1, r2⟩ := r
    rw [List.reverse_cons, List.reverse_cons]
    exact (RVs.rev r2).append (RVs.one r1)
/-- C(e, ..) where nothing is handled: the new exception's context is None -/
theorem pmk_oexN {X : Cx} {CX : CXT} {x : Str} {e : Expr} {es : List Expr} {ta : TA} {p pos : Pos} {C fI : Addr} {k : Nat} {fd : FuncData} {ps : List Str} {sp : Sp} (T : OexC X.K C) (iC : PySem.W.findIn X.K (.ref C) "__init__" = some (some (.ref fI))) (tI : PySem.W.typeIn X.K (.ref fI) = some (.type "function"))
    (F1 : FnOk X.prog X.w X.K X.mg X.base CX k fI fd ps sp) (hr : Room (k + 1) X.A) (hb : Binds X.K fd ps []) (hx : Passes CX X (fun _ _ _ => False)) (hg : Gl X x) (hm : X.mg x = some (.ref C)) (ha : PA X (e :: es) ta)
    (hdb : (x == ("__debug__" : Str)) = false := by decide) (he : starEach (e :: es) X.env = (false, eval e X.env) :: starEach es X.env := by rfl) (hpl : (backTo pos (starEach es X.env)).any (·.1) = false := by rfl) :
    L2N.PMk X (.Call (.Name x p) (e :: es) [] pos) (tMkO C sp [] ta) := by
  intro pins s σ H Q I h
  obtain ⟨nm, q, N, bs, bm, sn, sub, ab, col, dd, k0, k1, k2, k3, k5, hC, hbm⟩ := T.cls
  refine wpAny_Call_Name_kw (ld_glob I hg hm ?_ hdb)
  refine PySem.W.callWith_K (h₀ := X.base) I.ok.mod.kin T.kC (thn (ha.run pos pins s σ H _ I h) fun us s1 ⟨vs, H1, I1, r1, hz, q1⟩ => ⟨I1.kIn, ?_⟩) he hpl
  show wpAny _ _ (call (.ref C) us) _ _ _
  obtain ⟨hp, g, dr, tk, os⟩ := s1
  have hq := q1 (hp.objs.size + 1) (I1.hok.fresh (Nat.le_succ _))
  rw [List.append_nil] at hq
  have kk : ∀ b o, hp.get? b = some o → ((hp.push (PySem.W.kdv_tup us)).push (PySem.HandSPX.excO C hp.objs.size)).get? b = some o := fun b o e => Heap.get?_push_of_some _ (Heap.get?_push_of_some _ e)
  have I2 : Inv X pins σ (upd H1 (hp.objs.size + 1) (exo (hp.objs.size + 1) C none)) ⟨(hp.push (PySem.W.kdv_tup us)).push (PySem.HandSPX.excO C hp.objs.size), g, dr, tk, os⟩ :=
    I1.laid (t' := tk) (a := hp.objs.size + 1) (o := exo (hp.objs.size + 1) C none) kk (Nat.le_succ _) (exo_ok (by heap_get))
  have r2 : Vals (V.ref (hp.objs.size + 1) :: vs) (Value.ref (hp.objs.size + 1) :: us) := .cons rfl r1
  have b2 := hb _ (Value.ref (hp.objs.size + 1) :: us) I2.kIn (by rw [List.append_nil, ← r2.length]; exact F1.len _ _ _ _ hq)
  rw [List.append_nil] at b2
  refine wpAny_call (PySem.HandSPX.call_own F.excBase_ValueError (fun Y => PySem.HandSPX.refsVE_contains Y bm hbm) (I1.kIn _ _ hC) (PySem.W.looks_findIn I1.kIn iC) (fun self => PySem.W.bind_fn I1.kIn self tI) (by rw [← Paired.length r1, sizeLine_eq]; omega)
    (codeAny_mono (F1.run _ X.stack _ _ ⟨Value.ref (hp.objs.size + 1) :: us, []⟩ (Value.ref (hp.objs.size + 1) :: us) _ _ (fun _ _ _ => False) (hr.make C us []) (I2.env0.make C us []) b2 r2 hq) fun r s' hq' => ?_))
  cases r with
  | error er => exact hx pins σ _ _ er s' I2 hq'
  | ok fl =>
    cases fl with
    | ret u =>
      obtain ⟨v, H2, os2, bare2, un2, hok2, rv, ev, d, fs, ea, ed, hd1, q2⟩ := hq'
      subst ev
      obtain ⟨h2, g2, d2, t2, os'⟩ := s'
      obtain ⟨t0, G, J, kG, ge, hoe, na⟩ := mk_end0 (d2 := d2) (t2 := t2) I1 (Nat.le_succ _) kk un2 hok2 os2 bare2 ea ed hd1
      exact ⟨rv, hp.objs.size + 1, _, _, ⟨G, g2, d2, t2, os'⟩, _, .ref C, some d, rfl, J, kG, ge, hoe, ⟨rfl, rfl, fun vs hv => by cases hv; rfl⟩, rfl, rfl, na, rfl, bare2, raises_own T.exC T.tyC, q2⟩
    | next => exact False.elim hq'
    | brk => exact False.elim hq'
    | cont => exact False.elim hq'
/-- raise X(e, ..) -/
def mRaise (x : Str) (fs : List Str) (mas : MA) : MS := fun env h => SR.of (mas env h) env fun ds h => if ds.length = fs.length then .exc x fs.reverse ds.reverse env h else .stuck
section
variable {X : Cx} {W : WX} {ex : Ex} {e : Expr} {es : List Expr} {mas : MA} {x : Str} {fs : List Str} {k : Nat} {p pos pos' : Pos}
theorem fs_raise (T : ExcOk X.prog X.w X.K X.mg X.base x k fs) (tk : L2N.Takes X W) (hr : Room (k + 1) X.A) (ha : FA X W ex (e :: es) mas) (hc : X.calm = true := by rfl) (hg : Gl X x := by rfl) (hn : fs.length ≤ 1000 := by decide) (hdb : (x == ("__debug__" : Str)) = false := by decide)
    (he : starEach (e :: es) X.env = (false, eval e X.env) :: starEach es X.env := by rfl) (hpl : (backTo pos (starEach es X.env)).any (·.1) = false := by rfl) :
    FS X W ex (.Raise (some (.Call (.Name x p) (e :: es) [] pos)) none pos') (mRaise x fs mas) := by
  obtain ⟨C, fI, fd, gx, T1, hi, hty, F1, hb⟩ := T.ex
  have hx : Passes (L2N.CX X.prog X.w) X (fun _ _ _ => False) := fun pins σ H s e s' I c => by
    obtain ⟨_, _, _, _, _, _, _, _, _, _, _, _, z⟩ := c
    exact z.elim
  refine PS.imp (L2N.ps_raise hc tk (pmk_oexN T1 hi hty F1 hr hb hx hg gx ha hdb he hpl)) fun D σ H q => ?_
  obtain ⟨ι, h, env, rel, re, po⟩ := q
  refine ⟨ι, h, env, rel, re, post_of re po fun ds h1 ι1 H1 vs eq1 p1 k1 rel1 rv1 po1 => ?_⟩
  split at po1
  case isFalse => exact po1.elim
  rename_i hl
  have hlv : vs.length = fs.length := by rw [← hl, RVs.length rv1]
  refine ⟨by omega, fun a na => ⟨a, vs, by simp, hlv, upd_same, fun dx H' hn hne h1 h2 h3 => ⟨rfl, dx, _, h1, h2, by rwa [upd_ne hne] at hn, ?_⟩⟩⟩
  have hd : H1 dx = none := by rwa [upd_ne hne] at hn
  have e3 : upd (del H' a) dx (.xd (fs.zip vs).reverse) = upd H1 dx (.xd (fs.zip vs).reverse) := by
    funext b
    by_cases hb : b = dx
    · rw [hb, upd_same, upd_same]
    · rw [upd_ne hb, upd_ne hb]
      by_cases ha : b = a
      · rw [ha, del_same, na]
      · rw [del_ne ha, h3 b ha hb, upd_ne ha]
  rw [e3]
  have sm : Same H1 (upd H1 dx (.xd (fs.zip vs).reverse)) := same_upd hd
  refine po1 ι1 _ σ C (some dx) (List.prefix_refl _) (Keep.of_same sm) (rel1.same sm) ((re.mono p1 k1).mono (List.prefix_refl _) (Keep.of_same sm)) gx ⟨by simp [hl], vs.reverse, .inr ⟨dx, rfl, ?_⟩, (RVs.rev rv1).mono (List.prefix_refl _) (Keep.of_same sm) _ _⟩
  rw [upd_same, zip_rev _ _ hlv.symm]
end
end LF
set_option Elab.async false
set_option linter.all false
set_option maxRecDepth 100000
set_option maxHeartbeats 4000000
/-! LFY: own exceptions caught. -/
namespace PySem.W
open PySem PySem.Spec PySem.Calls PyProof.Rows
section
variable {prog : Program} {w : World} {A : Around} {E : Value → Shared → Prop} {s : Shared} {K : Frag} {x D : Addr} {ox : Obj} {od : Option Obj}
theorem lf_findD {C : Addr} {name : Str} {a g : Value} (hc : (clsIn K C).isSome = true) (ha : findIn K (.ref C) name = some (some a)) (hg : specialIn K a "__get__" = some (some g)) (ht : takesIn K a = some true) : findObj K C od name = some (.bind g a) := by
  obtain ⟨cd, hc⟩ := Option.isSome_iff_exists.mp hc
  unfold findObj
  rw [hc, Option.bind_some, ha, Option.bind_some]
  simp [hg, ht]
theorem lf_classE {Q : Option Value → Shared → Prop} (hga : findIn K (.ref D) "__getattribute__" = some (some (.builtin "BaseException.__getattribute__"))) (hgt : findIn K (.ref D) "__getattr__" = some none) (hsub : subIn K (.ref D) (.type "BaseException") = some true)
    (hdct : hasDictIn K D = true) (ha : findIn K (.ref D) "__class__" = some (some (.builtin "object.__class__"))) (hn : specialIn K (.builtin "object.__class__") "__get__" = some (some (.builtin "getset_descriptor.__get__"))) (htk : takesIn K (.builtin "object.__class__") = some true) (hm : mroIn K D (.type "object") = some true)
    (X : K.In s.heap) (I : InstAt s.heap x ox D od) (h : Q (some (.ref D)) { s with toks := s.toks + 1 }) : wpAny (model prog w) A (getAttr? (.ref x) "__class__") Q E s := by
  have hf : findObj K D od "__class__" = some (.bind (.builtin "getset_descriptor.__get__") (.builtin "object.__class__")) := lf_findD (by obtain ⟨cd, hc, _⟩ := any_some hdct; rw [hc]; rfl) ha hn htk
  obtain ⟨hp, g, d, t, os⟩ := s
  have L0 := I.type (M := model prog w)
  have L1 := looks_findIn (M := model prog w) X hga
  have L2 := looks_findIn (M := model prog w) X hgt
  have L3 := looks_find (M := model prog w) X I hf
  have sub : Looks (model prog w) hp (isInstance (.ref x) (.type "BaseException")) true := L0.andThen (looks_subIn X hsub)
  have hx0 : (false && onTheHeap (Value.builtin "BaseException.__getattribute__")) = false := rfl
  have hx2 : (Value.builtin "BaseException.__getattribute__" == Value.builtin "object.__getattribute__") = false := by decide +kernel
  have hx1 : (onTheHeap (Value.ref D) && Value.builtin "BaseException.__getattribute__" == Value.builtin "object.__getattribute__") = false := by rw [hx2]; rfl
  unfold getAttr? getAttrBy? getAttrBy
  refine wpAny_bind (wpAny_mkText (wpAny_bind (wpAny_attempt (wpAny_holding (wpAny_bind (L0.at (wpAny_bind (L1.at ?_))))))))
  show wpAny _ _ (if (onTheHeap (Value.ref D) && Value.builtin "BaseException.__getattribute__" == Value.builtin "object.__getattribute__") = true then _ else _) _ _ _
  rw [hx1, if_neg Bool.false_ne_true]
  unfold getAttrByItsOwn hookBefore
  refine wpAny_bind ?_
  rw [if_pos (show onTheHeap (Value.ref D) = true from rfl)]
  refine L2.at ?_
  refine wpAny_bind (wpAny_attempt (wpAny_holding ?_))
  unfold callGetattribute
  rw [hx0, if_neg Bool.false_ne_true]
  unfold boundAndCalled
  rw [PySem.F.excAttr_ValueError.ga.bind (.ref x)]
  refine wpAny_bind (wpAny_pure ?_)
  show wpAny _ _ (call (.builtin "BaseException.__getattribute__") [.ref x, .str "__class__" t]) _ _ _
  refine wpAny_call (codeAny_call_builtin PySem.F.excAttr_ValueError.ga.plain PySem.F.entry_bexc_ga ?_)
  refine @check_slot (model prog w) _ _ ⟨hp, g, d, t + 1, os⟩ "BaseException.__getattribute__" "BaseException" "__getattribute__" (.ref x) [.str "__class__" t] [] _ (by decide +kernel) (by decide +kernel) sub (PySem.F.args_bexc_ga (.ref x) (.str "__class__" t)) ?_
  unfold Builtin.«object.__getattribute__»
  refine wpAny_bind (wpAny_of_eq (a := ((Value.ref x : Value), [Value.str "__class__" t])) (by first | rfl | (simp only [slotArgs]; rfl)) ?_)
  refine wpAny_bind (wpAny_pure (wpAny_bind (L0.at (wpAny_bind (L3.at ?_)))))
  show wpAny _ _ (holding [Value.builtin "object.__class__"] (call (.builtin "getset_descriptor.__get__") [.builtin "object.__class__", .ref x, .ref D]) >>= ret) _ _ _
  refine wpAny_bind (wpAny_holding (wpAny_call (class_get (s := ⟨hp, g, d, t + 1, os⟩) (ox := ox) (od := od) X I hm ?_)))
  refine wpAny_pure ?_
  show wpAny _ _ (handedOut (.ref D)) _ _ _
  rw [handedOut_of (v := .ref D) rfl]
  first
    | exact wpAny_pure (wpAny_pure h)
    | exact wpAny_pure h
    | exact wpAny_pure (wpAny_bind (wpAny_pure (wpAny_pure h)))
theorem lf_kitx (hga : findIn K (.ref D) "__getattribute__" = some (some (.builtin "BaseException.__getattribute__"))) (hgt : findIn K (.ref D) "__getattr__" = some none) (hsub : subIn K (.ref D) (.type "BaseException") = some true) (hdct : hasDictIn K D = true) (ha : findIn K (.ref D) "__class__" = some (some (.builtin "object.__class__")))
    (hn : specialIn K (.builtin "object.__class__") "__get__" = some (some (.builtin "getset_descriptor.__get__"))) (htk : takesIn K (.builtin "object.__class__") = some true) (hm : mroIn K D (.type "object") = some true) :
    KitX K (.ref x) (.ref D) (fun h => InstAt h x ox D od) where
  ty := fun _ _ _ I => I.type
  it := fun _ _ X _ => by
    obtain ⟨cdD, hcD, _⟩ := any_some hdct
    unfold clsIn at hcD
    split at hcD
    · rename_i c' d' cd' sl' ho
      intro A' Q' E' s' k q
      unfold isType loadHead
      exact wpAny_bind (wpAny_loadPart (k _ _ (X _ _ ho)) (wpAny_pure q))
    · cases hcD
  ne := fun h tp dd its n sl X htp => by
    obtain ⟨cdD, hcD, _⟩ := any_some hdct
    refine Bool.eq_false_iff.mpr fun q => ?_
    have e : D = tp := Value.ref.inj (beq_iff_eq.mp q)
    subst e
    unfold clsIn at hcD
    split at hcD
    · rename_i c' d' cd' sl' ho
      have z := (X _ _ ho).symm.trans htp
      cases z
    · cases hcD
  ca := fun X I k => lf_classE hga hgt hsub hdct ha hn htk hm X I k
end
end PySem.W
namespace LF
open PySem PySem.Spec L2
open PyProof.Rows hiding St
/-! ### tables of the written part's classes -/
def XTab (K : PySem.W.Frag) (mg : Str → Option Value) (tab : List ((Str × Str) × Bool)) : Prop := ∀ p ∈ tab, ∃ C C' : Addr, mg p.1.1 = some (.ref C) ∧ mg p.1.2 = some (.ref C') ∧ PySem.W.exmOne K (.ref C) (.ref C') = some p.2 ∧ PySem.W.kitOne K (.ref C) (.ref C') = some p.2
def TTab (K : PySem.W.Frag) (mg : Str → Option Value) (tab : List ((Str × String) × Bool)) : Prop := ∀ p ∈ tab, ∃ C : Addr, mg p.1.1 = some (.ref C) ∧ PySem.W.kitOne K (.ref C) (.type p.1.2) = some p.2
def FTab (K : PySem.W.Frag) (mg : Str → Option Value) (tab : List (Str × Str)) : Prop := ∀ p ∈ tab, ∃ C : Addr, mg p.1 = some (.ref C) ∧ XfC K C ∧ PySem.W.findIn K (.ref C) p.2 = some none
def ETab (K : PySem.W.Frag) (mg : Str → Option Value) (names : List Str) : Prop := ∀ x ∈ names, ∃ C : Addr, mg x = some (.ref C) ∧ ExcC K C
def lookT {α β : Type} [DecidableEq α] (tab : List (α × β)) (a : α) : Option β := (tab.find? fun p => decide (p.1 = a)).map (·.2)
theorem lookT_mem {α β : Type} [DecidableEq α] {tab : List (α × β)} {a : α} {b : β} (h : lookT tab a = some b) : (a, b) ∈ tab := by
  unfold lookT at h
  rw [Option.map_eq_some_iff] at h
  obtain ⟨p, h1, rfl⟩ := h
  have := List.find?_some h1
  simp at this
  have m := List.mem_of_find?_eq_some h1
  rw [← this]; exact m
/-- does an exception of the class x match d? -/
def isX1 (tk : List ((Str × Str) × Bool)) (tt : List ((Str × String) × Bool)) (x : Str) : D → Option Bool
  | .cls y => lookT tk (x, y)
  | .ty t => lookT tt (x, t)
  | _ => none
def isXs (tk : List ((Str × Str) × Bool)) (tt : List ((Str × String) × Bool)) (x : Str) : List D → Option Bool
  | [] => some false
  | d :: ds => match isX1 tk tt x d with
    | some true => some true
    | some false => isXs tk tt x ds
    | none => none
def isX (tk : List ((Str × Str) × Bool)) (tt : List ((Str × String) × Bool)) (x : Str) : D → Option Bool
  | .tup ds => isXs tk tt x ds
  | d => isX1 tk tt x d
theorem isX1_ok {G : Wo} {ι : List Addr} {H : Hp} {tk : List ((Str × Str) × Bool)} {tt : List ((Str × String) × Bool)} {x : Str} {C : Addr} {d : D} {v : V} {b : Bool} (h1 : XTab G.K G.mg tk) (h2 : TTab G.K G.mg tt) (gx : G.mg x = some (.ref C)) (r : RV G ι H d v) (e : isX1 tk tt x d = some b) :
    ∃ u, ClsV v u ∧ PySem.W.kitOne G.K (.ref C) u = some b := by
  cases d with
  | cls y =>
    obtain ⟨C1, C2, g1, g2, _, k⟩ := h1 _ (lookT_mem e)
    simp only [RV] at r
    obtain ⟨a, rfl, ga⟩ := r
    dsimp only at g1 g2 k
    rw [gx] at g1; cases g1
    rw [ga] at g2; cases g2
    exact ⟨_, .own _, k⟩
  | ty t =>
    obtain ⟨C1, g1, k⟩ := h2 _ (lookT_mem e)
    simp only [RV] at r
    subst r
    dsimp only at g1 k
    rw [gx] at g1; cases g1
    exact ⟨_, .ty _, k⟩
  | _ => cases e
theorem isXs_ok {G : Wo} {ι : List Addr} {H : Hp} {tk : List ((Str × Str) × Bool)} {tt : List ((Str × String) × Bool)} {x : Str} {C : Addr} (h1 : XTab G.K G.mg tk) (h2 : TTab G.K G.mg tt) (gx : G.mg x = some (.ref C)) : ∀ {ds : List D} {vs : List V} {b : Bool}, RVs G ι H ds vs → isXs tk tt x ds = some b → (∀ d ∈ ds, (isX1 tk tt x d).isSome = true) →
    ∃ us, Paired ClsV vs us ∧ PySem.W.kitAny G.K (.ref C) us = some b
  | [], vs, b, r, e, _ => by
    simp only [RVs] at r; subst r
    exact ⟨[], .nil, e⟩
  | d :: ds, vs, b, r, e, al => by
    simp only [RVs] at r
    obtain ⟨v, q, rfl, r1, r2⟩ := r
    obtain ⟨b1, e1⟩ := Option.isSome_iff_exists.mp (al d (by simp))
    obtain ⟨u, k, k1⟩ := isX1_ok h1 h2 gx r1 e1
    unfold isXs at e
    rw [e1] at e
    have al' : ∀ d ∈ ds, (isX1 tk tt x d).isSome = true := fun d m => al d (by simp [m])
    cases b1 with
    | true =>
      -- the others need only be classes
      have : ∃ b2, isXs tk tt x ds = some b2 := by
        clear e r2
        induction ds with
        | nil => exact ⟨_, rfl⟩
        | cons d ds ih =>
          obtain ⟨b3, e3⟩ := Option.isSome_iff_exists.mp (al' d (by simp))
          unfold isXs
          rw [e3]
          cases b3 with
          | true => exact ⟨_, rfl⟩
          | false => exact ih (fun d m => al d (by simp at m ⊢; rcases m with m | m <;> simp [m])) fun d m => al' d (by simp [m])
      obtain ⟨b2, e2⟩ := this
      obtain ⟨us, p, _⟩ := isXs_ok h1 h2 gx r2 e2 al'
      exact ⟨u :: us, .cons k p, by unfold PySem.W.kitAny; rw [k1]; exact e⟩
    | false =>
      obtain ⟨us, p, k2⟩ := isXs_ok h1 h2 gx r2 e al'
      exact ⟨u :: us, .cons k p, by unfold PySem.W.kitAny; rw [k1]; exact k2⟩
/-! ### isinstance of the exception that is handled -/
def rIsX (K : PySem.W.Frag) (C a : Addr) : List V → Hp → VK → Prop := fun xs H Q => ∃ (c : V) (b : Bool), xs = [.ref a, c] ∧
  ((∃ u, ClsV c u ∧ PySem.W.kitOne K (.ref C) u = some b) ∨ ∃ (tp : Addr) (cs : List V) (us : List Value), c = .ref tp ∧ H tp = some (.tup cs) ∧ Paired ClsV cs us ∧ PySem.W.kitAny K (.ref C) us = some b) ∧ Q (.bl b) H
abbrev XAt (ns : List Str) (xs : List D) (d : Option Addr) (H : Hp) : Prop := d = none ∨ ∃ dd fs, d = some dd ∧ H dd = some (.xd fs)
theorem call_isX {X : Cx} {a C : Addr} {d : Option Addr} {oe : Obj} {pn : List (Addr × Obj)} (T : ExcC X.K C) (hz : Zc (.ref C) d oe) (hf : ∃ vs, oe.data = .fields vs) :
    CallR (X.suite a ((a, oe) :: pn)) (.builtin "isinstance") (fun xs H Q => (d = none ∨ ∃ dd fs, d = some dd ∧ H dd = some (.xd fs)) ∧ rIsX X.K C a xs H Q) := by
  intro pins s σ H xs us Q I r h
  obtain ⟨hd, c, b, rfl, hc, q⟩ := h
  obtain ⟨u1, u2, rfl, r1, r2⟩ := vals2 r
  cases (show u1 = Value.ref a from r1)
  obtain ⟨hget, _⟩ := I.pin (a, oe) (List.mem_append_left _ List.mem_cons_self)
  obtain ⟨vs, hv⟩ := hf
  obtain ⟨od, J⟩ : ∃ od, PySem.W.InstAt s.heap a oe C od := by
    rcases hd with hd | ⟨dd, fs, hd, hx⟩
    · exact ⟨none, hget, hz.1, by unfold PySem.W.notCls; rw [hv] <;> rfl, by rw [hz.2, hd]; trivial⟩
    · have hx' : ObjOk (X.suite a ((a, oe) :: pn)).prog (X.suite a ((a, oe) :: pn)).w H s.heap dd (.xd fs) := I.hok dd _ hx
      obtain ⟨mA, hns, hr⟩ := hx'
      obtain ⟨od, ho, hl⟩ := lookIn_ns hns
      exact ⟨some od, hget, hz.1, by unfold PySem.W.notCls; rw [hv] <;> rfl, by rw [hz.2, hd]; exact ho⟩
  have Z := PySem.W.lf_kitx (x := a) (ox := oe) (od := od) T.hg T.hk T.hs T.hd T.ha T.hn T.ht T.hm
  rcases hc with ⟨u, k, e⟩ | ⟨tp, cs, ws, rfl, hT, k, e⟩
  · have e2 := k.eq r2
    subst e2
    exact PySem.W.kia_one Z I.kIn J e (fun z => nomatch z) fun tk => ⟨.bl b, H, I.tok tk, rfl, q⟩
  · cases (show u2 = Value.ref tp from r2)
    obtain ⟨_, its, rv, o, h1, h2, n, h3⟩ := (show ObjOk X.prog X.w H s.heap tp (.tup cs) from I.hok tp _ hT)
    have e3 := ClsV.all k rv
    subst e3
    obtain ⟨oc, od', dt, sl⟩ := o
    simp only at h2 h3
    subst h2 h3
    exact PySem.W.kia_tup Z I.kIn J h1 e (fun z => nomatch z) fun tk => ⟨.bl b, H, I.tok tk, rfl, q⟩
def allX (tk : List ((Str × Str) × Bool)) (tt : List ((Str × String) × Bool)) (x : Str) : D → Bool
  | .tup ds => ds.all fun y => (isX1 tk tt x y).isSome
  | _ => true
/-- isinstance(e, c) -/
def fIsX (tk : List ((Str × Str) × Bool)) (tt : List ((Str × String) × Bool)) (x : Str) (d : D) (h : M) : Res D :=
  if allX tk tt x d = true then match isX tk tt x d with | some b => .ok (.bl b) h | none => .stuck else .stuck
def mIsX (nm : List Str) (tk : List ((Str × Str) × Bool)) (tt : List ((Str × String) × Bool)) (x : Str) (i : Nat) (mc : ME) : ME := fun env h => match env[i]? with
  | some .ex => if x ∈ nm then (mc env h).bind fun d h => fIsX tk tt x d h else .stuck
  | _ => .stuck
section
variable {X : Cx} {W : WX} {a : Addr} {cls : Value} {d : Option Addr} {oe : Obj} {pn : List (Addr × Obj)} {x n y : Str} {ns : List Str} {xs : List D} {nm : List Str} {tk : List ((Str × Str) × Bool)} {tt : List ((Str × String) × Bool)} {i : Nat} {c : Expr} {mc : ME} {p p1 pos : Pos}
theorem fe_isX (hz : Zc cls d oe) (hf : ∃ vs, oe.data = .fields vs) (T : ETab X.K X.mg nm) (h1 : XTab X.K X.mg tk) (h2 : TTab X.K X.mg tt) (hm : X.mg "isinstance" = none) (hN : X.N[i]? = some n) (hv : Vis X.env.scope n)
    (hc : FE (X.suite a ((a, oe) :: pn)) W (some ((a, cls, d), x, ns, xs)) c mc) (hg : Gl X "isinstance" := by rfl) (hd1 : (n == ("__debug__" : Str)) = false := by decide) (hd2 : (n == ("__classdict__" : Str)) = false := by decide)
    (he : starEach [.Name n p1, c] X.env = (false, eval (.Name n p1) X.env) :: starEach [c] X.env := by rfl) (he2 : starEach [c] X.env = (false, eval c X.env) :: starEach [] X.env := by rfl) :
    FE (X.suite a ((a, oe) :: pn)) W (some ((a, cls, d), x, ns, xs)) (.Call (.Name "isinstance" p) [.Name n p1, c] [] pos) (mIsX nm tk tt x i mc) := by
  by_cases hx : x ∈ nm ∧ ∃ C, cls = .ref C ∧ X.mg x = some (.ref C)
  · obtain ⟨hx, C, rfl, gx⟩ := hx
    obtain ⟨C', g', EC⟩ := T x hx
    rw [gx] at g'; cases g'
    have P := pe_callB (X := X.suite a ((a, oe) :: pn)) (p := p) (pos := pos) (call_isX EC hz hf) hg hm (by decide +kernel) (pa_cons (pe_var (X := X.suite a ((a, oe) :: pn)) (pos := p1) hN hv hd1 hd2) (pa_cons hc pa_nil (hs := he2)) (hs := he)) (by decide) (by decide) he (by rw [he2]; rfl)
    refine PE.imp P fun σ H Q q => ?_
    obtain ⟨ι, h, env, rel, re, po⟩ := q
    unfold mIsX at po
    split at po
    case h_2 => exact po.elim
    rename_i ei
    rw [if_pos hx] at po
    obtain ⟨a', c', e1, e2, e3⟩ := re.atx i ei
    cases e1
    refine ⟨.ref a', by rw [e3, ← e2], ι, h, env, rel, re, post_bind po fun dd h1' ι1 H1 v eq1 p1' k1 rel1 rv1 po1 => ?_⟩
    obtain ⟨C2, ec, gx2, xl, vs, xd, rxs⟩ := re.exk _ rfl
    dsimp only at ec gx2 xl xd
    cases ec
    unfold fIsX at po1
    split at po1
    case isFalse => exact po1.elim
    rename_i hall
    split at po1
    case h_2 => exact po1.elim
    rename_i b eb
    have fin : Q (.bl b) H1 := po_ok rel1 (by simp [RV]) po1
    refine ⟨?_, v, b, by rw [← e2], ?_, fin⟩
    · rcases xd with ⟨_, rfl⟩ | ⟨dx, rfl, xd⟩
      · exact .inl rfl
      · exact .inr ⟨dx, _, rfl, k1 _ _ xd trivial⟩
    · cases dd with
      | tup ds =>
        simp only [RV] at rv1
        obtain ⟨tp, ws, rfl, ht, rw1⟩ := rv1
        obtain ⟨us, pu, ku⟩ := isXs_ok (G := wo X) h1 h2 gx rw1 eb (List.all_eq_true.mp hall)
        exact .inr ⟨tp, ws, us, rfl, ht, pu, ku⟩
      | _ => exact .inl (isX1_ok (G := wo X) h1 h2 gx rv1 eb)
  · refine PE.imp (t := fun _ _ _ => False) ⟨fun pins s σ H Q I h => h.elim⟩ fun σ H Q q => ?_
    obtain ⟨ι, h, env, rel, re, po⟩ := q
    unfold mIsX at po
    split at po
    case h_2 => exact po.elim
    obtain ⟨C2, ec, gx2, _⟩ := re.exk _ rfl
    dsimp only at ec gx2
    have hn : x ∉ nm := fun z => hx ⟨z, C2, ec, gx2⟩
    rw [if_neg hn] at po
    exact po.elim
end
/-! ### a field of the exception that is handled -/
def mXf (ft : List (Str × Str)) (x : Str) (ns : List Str) (xs : List D) (i : Nat) (f : Str) : ME := fun env h => match env[i]? with
  | some .ex => if (x, f) ∈ ft then match lookT (ns.zip xs) f with | some d => .ok d h | none => .stuck else .stuck
  | _ => .stuck
theorem lookT_zip {G : Wo} {ι : List Addr} {H : Hp} {f : Str} {d : D} : ∀ {ns : List Str} {xs : List D} {vs : List V}, RVs G ι H xs vs → lookT (ns.zip xs) f = some d → ∃ v, (ns.zip vs).lookup f = some v ∧ RV G ι H d v
  | [], xs, vs, _, e => by simp [lookT] at e
  | n :: ns, [], vs, _, e => by simp [lookT] at e
  | n :: ns, x :: xs, vs, r, e => by
    simp only [RVs] at r
    obtain ⟨v, q, rfl, r1, r2⟩ := r
    unfold lookT at e
    rw [List.zip_cons_cons, List.find?_cons] at e
    rw [List.zip_cons_cons]
    simp only [List.lookup]
    by_cases hn : n = f
    · subst hn
      simp at e
      subst e
      exact ⟨v, by simp, r1⟩
    · have hf : (f == n) = false := by simpa using Ne.symm hn
      rw [hf]
      simp [hn] at e
      exact lookT_zip r2 (by unfold lookT; rw [Option.map_eq_some_iff]; obtain ⟨y, h⟩ := e; exact ⟨(y, d), h, rfl⟩)
section
variable {X : Cx} {W : WX} {a : Addr} {cls : Value} {d : Option Addr} {oe : Obj} {pn : List (Addr × Obj)} {x n f : Str} {ns : List Str} {xs : List D} {ft : List (Str × Str)} {i : Nat} {p1 pos : Pos}
theorem fe_xf (hz : Zc cls d oe) (hf : ∃ vs, oe.data = .fields vs) (T : FTab X.K X.mg ft) (hN : X.N[i]? = some n) (hv : Vis X.env.scope n) (hd1 : (n == ("__debug__" : Str)) = false := by decide) (hd2 : (n == ("__classdict__" : Str)) = false := by decide)
    (hb : attributeBase (.Name n p1) f X.env (eval (.Name n p1) X.env) = eval (.Name n p1) X.env := by rfl) :
    FE (X.suite a ((a, oe) :: pn)) W (some ((a, cls, d), x, ns, xs)) (.Attribute (.Name n p1) f pos) (mXf ft x ns xs i f) := by
  by_cases hx : (x, f) ∈ ft ∧ ∃ C, cls = .ref C ∧ X.mg x = some (.ref C)
  · obtain ⟨hx, C, rfl, gx⟩ := hx
    obtain ⟨C', g', XC, hno⟩ := T _ hx
    dsimp only at g' hno
    rw [gx] at g'; cases g'
    refine PE.imp (pe_xf XC hno hz hf (pe_var (X := X.suite a ((a, oe) :: pn)) (pos := p1) hN hv hd1 hd2) hb) fun σ H Q q => ?_
    obtain ⟨ι, h, env, rel, re, po⟩ := q
    unfold mXf at po
    split at po
    case h_2 => exact po.elim
    rename_i ei
    rw [if_pos hx] at po
    split at po
    case h_2 => exact po.elim
    rename_i dd ed
    obtain ⟨a', c', e1, e2, e3⟩ := re.atx i ei
    cases e1
    obtain ⟨C2, ec, gx2, xl, vs, xd, rxs⟩ := re.exk _ rfl
    dsimp only at ec gx2 xl xd rxs
    cases ec
    obtain ⟨v, ev, rv⟩ := lookT_zip rxs ed
    refine ⟨.ref a', by rw [e3, ← e2], e2.symm ▸ rfl, rfl, ?_⟩
    rcases xd with ⟨rfl, _⟩ | ⟨dx, rfl, xd⟩
    · simp at ev
    · exact ⟨dx, _, v, rfl, xd, ev, po_ok rel rv po⟩
  · refine PE.imp (t := fun _ _ _ => False) ⟨fun pins s σ H Q I h => h.elim⟩ fun σ H Q q => ?_
    obtain ⟨ι, h, env, rel, re, po⟩ := q
    unfold mXf at po
    split at po
    case h_2 => exact po.elim
    obtain ⟨C2, ec, gx2, _⟩ := re.exk _ rfl
    dsimp only at ec gx2
    have hn : (x, f) ∉ ft := fun z => hx ⟨z, C2, ec, gx2⟩
    rw [if_neg hn] at po
    exact po.elim
end
end LF
set_option Elab.async false
set_option linter.all false
set_option maxRecDepth 100000
set_option maxHeartbeats 4000000
/-! LFZ: try. -/
namespace LF
open PySem PySem.Spec L2
open PyProof.Rows hiding St
open NdefX (NF NScope CellsAt startF ncx envF inv_startN)
def plainSl : Sl → Bool
  | .ex => false
  | _ => true
def calmE (e : En) : Bool := e.all plainSl
/-- behind a suite: its name is gone -/
def afterX (i : Nat) : SR → SR
  | .nx e h => if calmE (e.set i .no) = true then .nx (e.set i .no) h else .stuck
  | .bk e h => if calmE (e.set i .no) = true then .bk (e.set i .no) h else .stuck
  | .ct e h => if calmE (e.set i .no) = true then .ct (e.set i .no) h else .stuck
  | .rt d h => .rt d h
  | _ => .stuck
/-- try: .. except c as n: .. -/
def mTryAs (tk : List ((Str × Str) × Bool)) (c : Str) (i : Nat) (mb : MS) (ms : Str → List Str → List D → MS) : MS := fun env h => match mb env h with
  | .exc x ns xs e h' => match lookT tk (x, c) with
    | some true => afterX i (ms x ns xs (e.set i .ex) h')
    | some false => .exc x ns xs e h'
    | none => .stuck
  | r => r
theorem REn.setEx {G : Wo} {ι : List Addr} {H : Hp} {env : En} {σ : St} {a : Addr} {C : Addr} {d : Option Addr} {x : Str} {ns : List Str} {xs : List D} (r : REn G none ι H env σ) (i : Nat) (gx : G.mg x = some (.ref C)) (xf : XF G ι H d ns xs) :
    REn G (some ((a, .ref C, d), x, ns, xs)) ι H (env.set i .ex) (σ.set i (some (.ref a))) := by
  refine ⟨by simp [r.len], fun j d' e => ?_, fun j e => ?_, fun c e => ?_⟩
  · have hj : j < env.length := by have := (List.getElem?_eq_some_iff.mp e).1; simpa using this
    by_cases hji : j = i
    · subst hji
      rw [List.getElem?_set_self hj] at e; cases e
    · rw [List.getElem?_set_ne (Ne.symm hji)] at e
      obtain ⟨w, e1, q1⟩ := r.at_ j d' e
      exact ⟨w, by rw [List.getElem?_set_ne (Ne.symm hji)]; exact e1, q1⟩
  · have hj : j < env.length := by have := (List.getElem?_eq_some_iff.mp e).1; simpa using this
    by_cases hji : j = i
    · subst hji
      exact ⟨a, _, rfl, rfl, List.getElem?_set_self (by rw [← r.len]; exact hj)⟩
    · rw [List.getElem?_set_ne (Ne.symm hji)] at e
      obtain ⟨a', c', z, _⟩ := r.atx j e
      cases z
  · cases e
    exact ⟨C, rfl, gx, xf⟩
theorem REn.calm {G : Wo} {ex ex' : Ex} {ι : List Addr} {H : Hp} {env : En} {σ : St} (r : REn G ex ι H env σ) (hc : calmE env = true) (hn : ex' = none) : REn G ex' ι H env σ := by
  refine ⟨r.len, r.at_, fun i e => ?_, fun c e => by rw [hn] at e; cases e⟩
  have := List.all_eq_true.mp hc _ (List.mem_of_getElem? e)
  cases this
theorem after_ok {G : Wo} {C : (Addr × Value × Option Addr) × Str × List Str × List D} {W : WX} {i : Nat} {ι : List Addr} {H : Hp} {r : SR} {D : Ends} (h : PostS G none W ι H (afterX i r) D) :
    PostS G (some C) WN ι H r { nx := fun σ' H' => D.nx (σ'.set i none) H', rt := D.rt, bk := fun σ' H' => D.bk (σ'.set i none) H', ct := fun σ' H' => D.ct (σ'.set i none) H' } := by
  cases r with
  | nx e h1 =>
    simp only [afterX] at h
    split at h
    · rename_i hc; exact fun ι' H' σ' p k rel re => h ι' H' _ p k rel ((re.drop1 i none).calm hc rfl)
    · exact h.elim
  | bk e h1 =>
    simp only [afterX] at h
    split at h
    · rename_i hc; exact fun ι' H' σ' p k rel re => h ι' H' _ p k rel ((re.drop1 i none).calm hc rfl)
    · exact h.elim
  | ct e h1 =>
    simp only [afterX] at h
    split at h
    · rename_i hc; exact fun ι' H' σ' p k rel re => h ι' H' _ p k rel ((re.drop1 i none).calm hc rfl)
    · exact h.elim
  | rt d h1 => exact h
  | exc x ns xs e h1 => exact h.elim
  | stuck => exact h.elim
section
variable {X : Cx} {W : WX} {n c : Str} {i : Nat} {body suite : List Stmt} {b₀ : Stmt} {np pos pos' : Pos} {mb : MS} {ms : Str → List Str → List D → MS} {tk : List ((Str × Str) × Bool)}
theorem PSs.ex {X : Cx} {body : List Stmt} {α : Type} {t : α → TS} (h : ∀ x, PSs X body (t x)) : PSs X body (fun D σ H => ∃ x, t x D σ H) := ⟨fun pins s σ H D I ⟨x, q⟩ => (h x).run pins s σ H D I q⟩
theorem fs_try_as {k : Nat} (hr : Room k X.A) (T : XTab X.K X.mg tk) (tkW : L2N.Takes X W) (hN : X.N.Nodup) (hi : X.N[i]? = some n) (hln : X.env.kindOf n = some .local) (hcl : ∃ C : Addr, X.mg c = some (.ref C))
    (hb : ∀ (W : WX) (pn : List (Addr × Obj)) (xe : Value → Shared → Prop), L2N.Takes (X.tr pn xe) W → PassesOwn (model X.prog X.w) X.A X.env xe → FSs (X.tr pn xe) W none body mb)
    (hsu : ∀ (a : Addr) (oe : Obj) (cls : Value) (d : Option Addr) (pn : List (Addr × Obj)) (x : Str) (ns : List Str) (xs : List D), Zc cls d oe → (∃ vs, oe.data = .fields vs) → L2H.RoomH k (X.suite a ((a, oe) :: pn)).A → L2H.HotC (X.suite a ((a, oe) :: pn)) → FSs (X.suite a ((a, oe) :: pn)) WN (some ((a, cls, d), x, ns, xs)) (b₀ :: suite) (ms x ns xs))
    (hs : X.stack = X.env :: X.outer := by rfl) (hf : X.env.frame = some X.env.locals := by rfl) (hg : Gl X c := by rfl) (hd : (c == ("__debug__" : Str)) = false := by decide) :
    FS X W none (.Try body [.ExceptHandler (some (.Name c np)) (some n) (b₀ :: suite) pos'] [] [] pos) (mTryAs tk c i mb ms) := by
  obtain ⟨Cc, hc⟩ := hcl
  refine PS.imp (L2N.ps_try_as (c := .ref Cc) (tb := fun W => rdS (wo X) none W mb) (ts := fun a cls d D' σ H => ∃ z : Str × List Str × List D, rdS (wo X) (some ((a, cls, d), z)) WN (ms z.1 z.2.1 z.2.2) D' σ H)
    hs hf hN hi hln ⟨hg, hd, .inl hc⟩ tkW hb (fun a oe cls d pn hz hv => PSs.ex fun z => hsu a oe cls d pn z.1 z.2.1 z.2.2 hz.zc hv (L2H.roomH_mark hr _) (by obtain ⟨vs, e⟩ := hv; exact ⟨(a, oe), ⟨rfl, vs, e, hz.2.2 vs e⟩, List.mem_cons_self⟩))) fun D σ H q => ?_
  obtain ⟨ι, h, env, rel, re, po⟩ := q
  refine ⟨ι, h, env, rel, re, ?_⟩
  unfold mTryAs at po
  cases e : mb env h with
  | nx _ _ => rw [e] at po; exact po
  | bk _ _ => rw [e] at po; exact po
  | ct _ _ => rw [e] at po; exact po
  | rt _ _ => rw [e] at po; exact po
  | stuck => rw [e] at po; exact po.elim
  | exc x ns xs e1 h1 =>
    rw [e] at po
    intro ι' H' σ' C d p k rel' re' gx xf
    dsimp only at po
    cases el : lookT tk (x, c) with
    | none => rw [el] at po; exact po.elim
    | some b =>
      rw [el] at po
      obtain ⟨C1, C2, g1, g2, ex1, _⟩ := T _ (lookT_mem el)
      dsimp only at g1 g2 ex1
      have gx' : X.mg x = some (.ref C) := gx
      rw [gx'] at g1; cases g1
      rw [hc] at g2; cases g2
      refine ⟨b, ex1, fun hb1 a na => ?_, fun hb1 => ?_⟩
      · subst hb1
        exact ⟨(x, ns, xs), ι', h1, _, rel', re'.setEx i gx xf, after_ok (PostS.mono p k po)⟩
      · subst hb1
        exact po ι' H' σ' C d p k rel' re' gx xf
end
/-! ### a class statement's parts -/
def clsBody (s : Stmt) : List Stmt := match s with
  | .ClassDef _ _ _ b _ _ _ _ _ _ _ => b
  | _ => []
def stAt (b : List Stmt) (i : Nat) : Stmt := b.getD i (.Pass ⟨0, 0, 0, 0⟩)
/-- the words of the written part on an own exception class with its own __init__ -/
structure ExcW (P : Program) (K : PySem.W.Frag) (x qual : Str) (st : Stmt) (C fI cc cda : Addr) : Prop where
  gx : PySem.W.nsIn K mainGlobals x = some (some (.ref C))
  obj : ∃ nm q N bs bm sn sub ab col dd k0 k1 k2 k3 k5, K.lookup C = some (excClassObj nm q C N bs bm true sn sub ab col dd k0 k1 k2 k3 k5 "ValueError.__new__") ∧ PySem.HandSPX.refsVE bm = true
  sa : PySem.W.findIn K (.ref C) "__setattr__" = some (some (.builtin "object.__setattr__"))
  exC : PySem.W.subIn K (.ref C) (.type "BaseException") = some true
  tyC : PySem.W.typeIn K (.ref C) = some (.type "type")
  kC : PySem.W.keepIn K (.ref C) = true
  ini : PySem.W.findIn K (.ref C) "__init__" = some (some (.ref fI))
  tyI : PySem.W.typeIn K (.ref fI) = some (.type "function")
  lk : ∃ oc od kV doc pm an ct osl, K.lookup fI = some ⟨oc, od, .func (PySem.W.ksFn "__init__" qual (defArgs st) (defBody st) (defScope st) .none kV doc pm an (.ref cda) ct cc), osl⟩
  hcd : PySem.W.codeIn K (.ref cda) qual = true
  cell : ∃ cl cld csl, K.lookup cc = some ⟨cl, cld, .cell (some (.ref C)), csl⟩
  code : ∃ ccl cdd vs ccs file tf, K.lookup cda = some ⟨ccl, cdd, .fields vs, ccs⟩ ∧ vs[2]? = some (.str file tf) ∧ ((P.main.file : Str) == file) = true
  top : (P.main.scope.names.lookup ("super" : Str)).isSome = false
  sup : PySem.W.nsIn K mainGlobals "super" = some none
  nost : PySem.W.nsIn K cStatics "thirdparty.any" = some none
  sini : PySem.W.ks_superIn K C C "__init__" = some (some (.builtin "ValueError.__init__"))
  mro : PySem.W.mroIn K C (.ref C) = some true
  ve : PySem.W.subIn K (.ref C) (.type "ValueError") = some true
theorem ExcW.oex {P : Program} {K : PySem.W.Frag} {x qual : Str} {st : Stmt} {C fI cc cda : Addr} (E : ExcW P K x qual st C fI cc cda) : OexC K C := ⟨E.obj, E.sa, E.exC, E.tyC, E.kC⟩
theorem ExcW.sk {P : Program} {K : PySem.W.Frag} {h : Heap} {mg : Str → Option Value} (XK : K.In h) (G : h.Ns mainGlobals mg) {x qual : Str} {st : Stmt} {C fI cc cda : Addr} {ar : Arg} (E : ExcW P K x qual st C fI cc cda) (hp : ((defArgs st).posonlyargs ++ (defArgs st).args).head? = some ar) (ha : ar.arg = slfN) : SupK P K mg C C fI cc (.ref cda) slfN := by
  obtain ⟨oc, od, kV, doc, pm, an, ct, osl, lk⟩ := E.lk
  obtain ⟨ccl, cdd, vs, ccs, file, tf, h1, h2, h3⟩ := E.code
  obtain ⟨nm, q, N, bs, bm, sn, sub, ab, col, dd, k0, k1, k2, k3, k5, hC, hbm⟩ := E.obj
  refine ⟨⟨oc, od, _, osl, ar, lk, hp, ha⟩, ⟨cda, ccl, cdd, vs, ccs, file, tf, rfl, h1, h2, h3⟩, E.top, E.cell, ?_, E.mro, PySem.W.mg_none_of XK G E.sup, E.sini, E.nost, E.ve⟩
  unfold PySem.W.clsIn; rw [hC]; rfl
/-- one field -/
theorem exc1 {P : Program} {w : World} {K : PySem.W.Frag} {h : Heap} {mg : Str → Option Value} {base : Heap} (XK : K.In h) (G : h.Ns mainGlobals mg) {x qual f1 m : Str} {st : Stmt} {C fI cc cda : Addr} {ar : Arg} {j : Nat} {p0 p1 p2 p3 p4 p5 q0 q1 q2 q3 : Pos} {pl : Sem Bool}
    (E : ExcW P K x qual st C fI cc cda) (no1 : PySem.W.findIn K (.ref C) f1 = some none)
    (hp : ((defArgs st).posonlyargs ++ (defArgs st).args).head? = some ar := by rfl) (ha : ar.arg = slfN := by rfl)
    (hb : defBody st = supSt m j p0 p1 p2 p3 p4 p5 :: [asSt f1 q0 q1 q2 q3] := by rfl)
    (hbd : ∀ (kV doc pm : Value) (an : Option Addr) (ct : Value) (us : List Value), us.length = [slfN, f1].length → bindArgs (PySem.W.ksFn "__init__" qual (defArgs st) (defBody st) (defScope st) .none kV doc pm an (.ref cda) ct cc) ⟨us, []⟩ = pure ([slfN, f1].zip us) := by
      intro _ _ _ _ _ us hl; match us, hl with | [_, _], _ => rfl)
    (S : NScope ([slfN, f1] ++ [clsN]) [slfN, f1] [clsN] (defScope st) := by exact NdefX.nscope_by (by decide +kernel)) (hsu : (defScope st).names.lookup ("super" : Str) = some .globalImplicit := by rfl)
    (hq : ∀ L, swapsWith (.Call (.Attribute (.Call (.Name "super" p0) [] [] p1) "__init__" p2) [.Constant (.str m) j p3] [] p4) none p5.line (envF ⟨"__init__", qual, defArgs st, defBody st, defScope st, [(clsN, cc)], cda⟩ fI L) = pure false := by intro _; rfl)
    (he : ∀ L, starEach [.Constant (.str m) j p3] (envF ⟨"__init__", qual, defArgs st, defBody st, defScope st, [(clsN, cc)], cda⟩ fI L) = (false, eval (.Constant (.str m) j p3) (envF ⟨"__init__", qual, defArgs st, defBody st, defScope st, [(clsN, cc)], cda⟩ fI L)) :: starEach [] (envF ⟨"__init__", qual, defArgs st, defBody st, defScope st, [(clsN, cc)], cda⟩ fI L) := by intro _; rfl)
    (hev : ∀ L, eval (.Call (.Attribute (.Call (.Name "super" p0) [] [] p1) "__init__" p2) [.Constant (.str m) j p3] [] p4) (envF ⟨"__init__", qual, defArgs st, defBody st, defScope st, [(clsN, cc)], cda⟩ fI L) = (do
      let ov ← attributeBase (.Call (.Name "super" p0) [] [] p1) "__init__" (envF ⟨"__init__", qual, defArgs st, defBody st, defScope st, [(clsN, cc)], cda⟩ fI L) (eval (.Call (.Name "super" p0) [] [] p1) (envF ⟨"__init__", qual, defArgs st, defBody st, defScope st, [(clsN, cc)], cda⟩ fI L))
      standAt p2.atName
      let (fv, first) ← holding [ov] (getMethod ov "__init__" pl)
      callWith p4 fv first (backTo p4 (starEach [.Constant (.str m) j p3] (envF ⟨"__init__", qual, defArgs st, defBody st, defScope st, [(clsN, cc)], cda⟩ fI L))) []) := by intro _; rfl)
    (hs1 : ∀ L, swapsWith (.Name f1 q2) (some (.Attribute (.Name slfN q0) f1 q1)) q3.line (envF ⟨"__init__", qual, defArgs st, defBody st, defScope st, [(clsN, cc)], cda⟩ fI L) = pure false := by intro _; rfl)
    (hd1 : (f1 == ("__debug__" : Str)) = false := by decide) (hd2 : (f1 == ("__classdict__" : Str)) = false := by decide) : ExcOk P w K mg base x 1 [f1] := by
  obtain ⟨oc, od, kV, doc, pm, an, ct, osl, lk⟩ := E.lk
  exact excOk1 (k := 0) (F := ⟨"__init__", qual, defArgs st, defBody st, defScope st, [(clsN, cc)], cda⟩) (PySem.W.mg_of XK G E.gx) E.oex E.ini E.tyI (hbd kV doc pm an ct) (E.sk XK G hp ha) no1 lk E.hcd rfl hb S hsu hq he hev hs1 hd1 hd2
/-- two fields -/
theorem exc2 {P : Program} {w : World} {K : PySem.W.Frag} {h : Heap} {mg : Str → Option Value} {base : Heap} (XK : K.In h) (G : h.Ns mainGlobals mg) {x qual f1 f2 m : Str} {st : Stmt} {C fI cc cda : Addr} {ar : Arg} {j : Nat} {p0 p1 p2 p3 p4 p5 q0 q1 q2 q3 r0 r1 r2 r3 : Pos} {pl : Sem Bool}
    (E : ExcW P K x qual st C fI cc cda) (no1 : PySem.W.findIn K (.ref C) f1 = some none) (no2 : PySem.W.findIn K (.ref C) f2 = some none)
    (hp : ((defArgs st).posonlyargs ++ (defArgs st).args).head? = some ar := by rfl) (ha : ar.arg = slfN := by rfl)
    (hb : defBody st = supSt m j p0 p1 p2 p3 p4 p5 :: [asSt f1 q0 q1 q2 q3, asSt f2 r0 r1 r2 r3] := by rfl)
    (hbd : ∀ (kV doc pm : Value) (an : Option Addr) (ct : Value) (us : List Value), us.length = [slfN, f1, f2].length → bindArgs (PySem.W.ksFn "__init__" qual (defArgs st) (defBody st) (defScope st) .none kV doc pm an (.ref cda) ct cc) ⟨us, []⟩ = pure ([slfN, f1, f2].zip us) := by
      intro _ _ _ _ _ us hl; match us, hl with | [_, _, _], _ => rfl)
    (S : NScope ([slfN, f1, f2] ++ [clsN]) [slfN, f1, f2] [clsN] (defScope st) := by exact NdefX.nscope_by (by decide +kernel)) (hsu : (defScope st).names.lookup ("super" : Str) = some .globalImplicit := by rfl)
    (hq : ∀ L, swapsWith (.Call (.Attribute (.Call (.Name "super" p0) [] [] p1) "__init__" p2) [.Constant (.str m) j p3] [] p4) none p5.line (envF ⟨"__init__", qual, defArgs st, defBody st, defScope st, [(clsN, cc)], cda⟩ fI L) = pure false := by intro _; rfl)
    (he : ∀ L, starEach [.Constant (.str m) j p3] (envF ⟨"__init__", qual, defArgs st, defBody st, defScope st, [(clsN, cc)], cda⟩ fI L) = (false, eval (.Constant (.str m) j p3) (envF ⟨"__init__", qual, defArgs st, defBody st, defScope st, [(clsN, cc)], cda⟩ fI L)) :: starEach [] (envF ⟨"__init__", qual, defArgs st, defBody st, defScope st, [(clsN, cc)], cda⟩ fI L) := by intro _; rfl)
    (hev : ∀ L, eval (.Call (.Attribute (.Call (.Name "super" p0) [] [] p1) "__init__" p2) [.Constant (.str m) j p3] [] p4) (envF ⟨"__init__", qual, defArgs st, defBody st, defScope st, [(clsN, cc)], cda⟩ fI L) = (do
      let ov ← attributeBase (.Call (.Name "super" p0) [] [] p1) "__init__" (envF ⟨"__init__", qual, defArgs st, defBody st, defScope st, [(clsN, cc)], cda⟩ fI L) (eval (.Call (.Name "super" p0) [] [] p1) (envF ⟨"__init__", qual, defArgs st, defBody st, defScope st, [(clsN, cc)], cda⟩ fI L))
      standAt p2.atName
      let (fv, first) ← holding [ov] (getMethod ov "__init__" pl)
      callWith p4 fv first (backTo p4 (starEach [.Constant (.str m) j p3] (envF ⟨"__init__", qual, defArgs st, defBody st, defScope st, [(clsN, cc)], cda⟩ fI L))) []) := by intro _; rfl)
    (hs1 : ∀ L, swapsWith (.Name f1 q2) (some (.Attribute (.Name slfN q0) f1 q1)) q3.line (envF ⟨"__init__", qual, defArgs st, defBody st, defScope st, [(clsN, cc)], cda⟩ fI L) = pure false := by intro _; rfl)
    (hs2 : ∀ L, swapsWith (.Name f2 r2) (some (.Attribute (.Name slfN r0) f2 r1)) r3.line (envF ⟨"__init__", qual, defArgs st, defBody st, defScope st, [(clsN, cc)], cda⟩ fI L) = pure false := by intro _; rfl)
    (hd1 : (f1 == ("__debug__" : Str)) = false := by decide) (hd2 : (f1 == ("__classdict__" : Str)) = false := by decide) (hd3 : (f2 == ("__debug__" : Str)) = false := by decide) (hd4 : (f2 == ("__classdict__" : Str)) = false := by decide) : ExcOk P w K mg base x 1 [f1, f2] := by
  obtain ⟨oc, od, kV, doc, pm, an, ct, osl, lk⟩ := E.lk
  exact excOk2 (k := 0) (F := ⟨"__init__", qual, defArgs st, defBody st, defScope st, [(clsN, cc)], cda⟩) (PySem.W.mg_of XK G E.gx) E.oex E.ini E.tyI (hbd kV doc pm an ct) (E.sk XK G hp ha) no1 no2 lk E.hcd rfl hb S hsu hq he hev hs1 hs2 hd1 hd2 hd3 hd4
/-- a def that calls itself too often for what is asked -/
theorem def_stuck {P : Program} {w : World} {K : PySem.W.Frag} {mg : Str → Option Value} {base : Heap} {x : Str} {st : Stmt} {ps : List Str} {k : Nat} (T : FnAt K mg x x st ps) : Def P w K mg base x k ps.length (fun _ _ => .stuck) := by
  obtain ⟨f, fd, F, gx, hb⟩ := T.ex
  refine ⟨f, fd, ps, rfl, gx, F.kp, .all hb, ⟨fun vs H Q E h => h.1, fun A outer s H args us vs Q E _ _ _ _ h => ?_⟩⟩
  obtain ⟨_, ι, h, ds, _, _, po⟩ := h
  exact po.elim
/-! ### yes and no about the written part, by computing -/
def excB (K : PySem.W.Frag) (D : Addr) : Bool := decide (PySem.W.findIn K (.ref D) "__getattribute__" = some (some (.builtin "BaseException.__getattribute__"))) && decide (PySem.W.findIn K (.ref D) "__getattr__" = some none) && decide (PySem.W.subIn K (.ref D) (.type "BaseException") = some true) && PySem.W.hasDictIn K D &&
  decide (PySem.W.findIn K (.ref D) "__class__" = some (some (.builtin "object.__class__"))) && decide (PySem.W.specialIn K (.builtin "object.__class__") "__get__" = some (some (.builtin "getset_descriptor.__get__"))) && decide (PySem.W.takesIn K (.builtin "object.__class__") = some true) && decide (PySem.W.mroIn K D (.type "object") = some true)
theorem excB_ok {K : PySem.W.Frag} {D : Addr} (h : excB K D = true) : ExcC K D := by
  unfold excB at h
  simp only [Bool.and_eq_true, decide_eq_true_eq] at h
  obtain ⟨⟨⟨⟨⟨⟨⟨h1, h2⟩, h3⟩, h4⟩, h5⟩, h6⟩, h7⟩, h8⟩ := h
  exact ⟨h1, h2, h3, h4, h5, h6, h7, h8⟩
end LF
set_option Elab.async false
set_option linter.all false
set_option maxRecDepth 100000
set_option maxHeartbeats 4000000
/-! LFV: texts and further methods. -/
namespace LF
open PySem PySem.Spec L2
open PyProof.Rows hiding St
instance (x : Str) (n : Int) : Decidable (MulOk x n) := by unfold MulOk; infer_instance
section
variable {X : Cx} {W : WX} {ex : Ex} {e a b c i o : Expr} {es : List Expr} {ma mb mc : ME} {mas : MA} {pos : Pos} {G : Wo}
theorem op_smul : OpR X (binaryOp .Mult) (fun x y H Q => ∃ i j, x = .str i ∧ y = .int j ∧ MulOk i j ∧ Q (.str (Txt.mul i j)) H) := by
  intro pins s σ H x y v u Q I rx ry h
  obtain ⟨i, j, rfl, rfl, hz, q⟩ := h
  obtain ⟨t, rfl⟩ := rx
  obtain ⟨t', rfl⟩ := ry
  exact SB.mul hz fun t' k => ⟨.str (Txt.mul i j), H, I.tok k, ⟨_, rfl⟩, q⟩
def fSMul (x y : D) (h : M) : Res D := match x, y with
  | .str i, .int j => if MulOk i j then .ok (.str (Txt.mul i j)) h else .stuck
  | _, _ => .stuck
theorem fe_smul (ha : FE X W ex a ma) (hb : FE X W ex b mb) : FE X W ex (.BinOp a .Mult b pos) (m2 fSMul ma mb) := by
  refine fe_op op_smul (fun E ι H h x y v u Q rel rx ry po => ?_) ha hb
  unfold fSMul at po
  split at po
  · rename_i i j
    split at po
    · rename_i hc
      simp only [RV] at rx ry
      subst rx; subst ry
      exact ⟨i, j, rfl, rfl, hc, po_ok rel (by simp [RV]) po⟩
    · exact po.elim
  · exact po.elim
def fSLt (x y : D) (h : M) : Res D := match x, y with
  | .str i, .str j => .ok (.bl (decide (i.cps.toList < j.cps.toList))) h
  | .int i, .int j => .ok (.bl (decide (i < j))) h
  | _, _ => .stuck
theorem fc_slt (ha : FE X W ex a ma) (hb : FE X W ex b mb) : FC X W ex .Lt a b (m2 fSLt ma mb) := by
  refine fc_op (op_lt.or op_lt_str) (fun E ι H h x y v u Q rel rx ry po => ?_) ha hb
  unfold fSLt at po
  split at po
  · rename_i i j
    simp only [RV] at rx ry
    subst rx; subst ry
    exact .inr ⟨i, j, rfl, rfl, po_ok rel (by simp [RV]) po⟩
  · rename_i i j
    simp only [RV] at rx ry
    subst rx; subst ry
    exact .inl ⟨i, j, rfl, rfl, po_ok rel (by simp [RV]) po⟩
  · exact po.elim
/-! ### methods of texts -/
def fFind (x : D) (xs : List D) (h : M) : Res D := match x, xs with
  | .str a, [.str b] => .ok (.int (Txt.find a b)) h
  | _, _ => .stuck
theorem ab_find : AbM G (fun x xs H Q => ∃ a b, x = .str a ∧ xs = [.str b] ∧ Q (.int (Txt.find a b)) H) fFind := by
  intro E ι H h x xs v vs Q rel rx rxs po
  unfold fFind at po
  split at po
  · obtain ⟨w, rfl, rw'⟩ := rxs.eq1
    simp only [RV] at rx rw'
    subst rx; subst rw'
    exact ⟨_, _, rfl, rfl, po_ok rel (by simp [RV]) po⟩
  · exact po.elim
def fSIndex (x : D) (xs : List D) (h : M) : Res D := match x, xs with
  | .str a, [.str b] => match Builtin.Str.occurrences a b 0 a.length 1 with
    | i :: _ => .ok (.int (i : Nat)) h
    | [] => .stuck
  | _, _ => .stuck
theorem ab_sindex : AbM G (fun x xs H Q => ∃ a b i rest, x = .str a ∧ xs = [.str b] ∧ Builtin.Str.occurrences a b 0 a.length 1 = i :: rest ∧ Q (.int (i : Nat)) H) fSIndex := by
  intro E ι H h x xs v vs Q rel rx rxs po
  unfold fSIndex at po
  split at po
  · split at po
    · rename_i i r eo
      obtain ⟨w, rfl, rw'⟩ := rxs.eq1
      simp only [RV] at rx rw'
      subst rx; subst rw'
      exact ⟨_, _, _, _, rfl, rfl, eo, po_ok rel (by simp [RV]) po⟩
    · exact po.elim
  · exact po.elim
def fStarts (x : D) (xs : List D) (h : M) : Res D := match x, xs with
  | .str a, [.str b] => .ok (.bl (Txt.startswith a b)) h
  | _, _ => .stuck
theorem ab_starts : AbM G (fun x xs H Q => ∃ a b, x = .str a ∧ xs = [.str b] ∧ Q (.bl (Txt.startswith a b)) H) fStarts := by
  intro E ι H h x xs v vs Q rel rx rxs po
  unfold fStarts at po
  split at po
  · obtain ⟨w, rfl, rw'⟩ := rxs.eq1
    simp only [RV] at rx rw'
    subst rx; subst rw'
    exact ⟨_, _, rfl, rfl, po_ok rel (by simp [RV]) po⟩
  · exact po.elim
def fUpper (x : D) (xs : List D) (h : M) : Res D := match x, xs with
  | .str a, [] => if a.length ≤ 5592405 then .ok (.str (Txt.upper a)) h else .stuck
  | _, _ => .stuck
theorem ab_upper : AbM G (fun x xs H Q => ∃ a, x = .str a ∧ xs = [] ∧ a.length ≤ 5592405 ∧ Q (.str (Txt.upper a)) H) fUpper := by
  intro E ι H h x xs v vs Q rel rx rxs po
  unfold fUpper at po
  split at po
  · split at po
    · rename_i hc
      simp only [RVs] at rxs
      simp only [RV] at rx
      subst rx; subst rxs
      exact ⟨_, rfl, rfl, hc, po_ok rel (by simp [RV]) po⟩
    · exact po.elim
  · exact po.elim
def fSplit (x : D) (xs : List D) (h : M) : Res D := match x, xs with
  | .str a, [.str b] => if (b.length == 0) = false ∧ a.length + 2 ≤ sizeLine then .ok (.loc h.length) (h ++ [.lst ((Txt.split a b).map .str)]) else .stuck
  | _, _ => .stuck
theorem RVs.strs {ι : List Addr} {H : Hp} : ∀ ys : List Str, RVs G ι H (ys.map .str) (ys.map V.str)
  | [] => RVs.nil
  | y :: ys => RVs.cons (by simp [RV]) (RVs.strs ys)
theorem ab_split : AbM G (fun x xs H Q => ∃ a b, x = .str a ∧ xs = [.str b] ∧ (b.length == 0) = false ∧ a.length + 2 ≤ sizeLine ∧ rNewStrs (Txt.split a b) H Q) fSplit := by
  intro E ι H h x xs v vs Q rel rx rxs po
  unfold fSplit at po
  split at po
  · split at po
    · rename_i hc
      obtain ⟨w, rfl, rw'⟩ := rxs.eq1
      simp only [RV] at rx rw'
      subst rx; subst rw'
      exact ⟨_, _, rfl, rfl, hc.1, hc.2, fun p hp => po_lst rel (RVs.strs _) po p hp⟩
    · exact po.elim
  · exact po.elim
def strsD : List D → Option (List Str)
  | [] => some []
  | .str y :: ds => (strsD ds).map (y :: ·)
  | _ => none
theorem strsD_ok {ι : List Addr} {H : Hp} : ∀ {ds : List D} {ys : List Str} {vs : List V}, strsD ds = some ys → RVs G ι H ds vs → vs = ys.map V.str
  | [], ys, vs, e, r => by
    simp only [strsD, Option.some.injEq] at e
    simp only [RVs] at r
    subst e; subst r; rfl
  | d :: ds, ys, vs, e, r => by
    simp only [RVs] at r
    obtain ⟨v, q, rfl, r1, r2⟩ := r
    cases d <;> simp only [strsD, reduceCtorEq, Option.map_eq_some_iff] at e
    obtain ⟨zs, e1, rfl⟩ := e
    simp only [RV] at r1
    rw [strsD_ok e1 r2, r1]; rfl
def fJoin (x : D) (xs : List D) (h : M) : Res D := match x, xs with
  | .str a, [y] => match seqOf h y with
    | some ds => match strsD ds with
      | some ys => if (ys.map (·.length)).sum + ys.length * a.length ≤ 16777216 then .ok (.str (Txt.join a ys)) h else .stuck
      | none => .stuck
    | none => .stuck
  | _, _ => .stuck
theorem ab_join : AbM G (fun x xs H Q => ∃ a p, ∃ ys : List Str, x = .str a ∧ xs = [.ref p] ∧ (SqL G.K H p (ys.map V.str) ∨ SqT G.K H p (ys.map V.str)) ∧
    (ys.map (·.length)).sum + ys.length * a.length ≤ 16777216 ∧ Q (.str (Txt.join a ys)) H) fJoin := by
  intro E ι H h x xs v vs Q rel rx rxs po
  unfold fJoin at po
  split at po
  case h_2 => exact po.elim
  split at po
  case h_2 => exact po.elim
  rename_i ds e1
  split at po
  case h_2 => exact po.elim
  rename_i ys e2
  split at po
  case isFalse => exact po.elim
  rename_i hc
  obtain ⟨w, rfl, rw'⟩ := rxs.eq1
  simp only [RV] at rx
  subst rx
  obtain ⟨p, ws, rfl, s, r⟩ := seqOf_sq rel rw' e1
  have := strsD_ok e2 r
  subst this
  exact ⟨_, p, ys, rfl, rfl, s, hc, po_ok rel (by simp [RV]) po⟩
/-! ### methods of lists -/
def fReverse (x : D) (xs : List D) (h : M) : Res D := match x, xs with
  | .loc l, [] => match h[l]? with
    | some (.lst ys) => .ok .non (h.set l (.lst ys.reverse))
    | _ => .stuck
  | _, _ => .stuck
theorem RVs.rev' {ι : List Addr} {H : Hp} : ∀ {xs : List D} {vs : List V}, RVs G ι H xs vs → RVs G ι H xs.reverse vs.reverse
  | [], vs, r => by simp only [RVs] at r; subst r; exact RVs.nil
  | x :: xs, vs, r => by
    simp only [RVs] at r
    obtain ⟨v, q, rfl, r1, r2⟩ := r
    rw [List.reverse_cons, List.reverse_cons]
    exact (RVs.rev' r2).append (RVs.one r1)
theorem ab_reverse : AbM G rReverse fReverse := by
  intro E ι H h x xs v vs Q rel rx rxs po
  unfold fReverse at po
  split at po
  case h_2 => exact po.elim
  split at po
  case h_2 => exact po.elim
  rename_i ys e1
  simp only [RVs] at rxs
  subst rxs
  obtain ⟨a, ws, rfl, ea, q, r⟩ := at_lst rel rx e1
  exact ⟨a, ws, rfl, rfl, q, po_wr rel ea (RVs.rev' r) (fun _ _ => by simp [RV]) po⟩
def fInsert (x : D) (xs : List D) (h : M) : Res D := match x, xs with
  | .loc l, [.int i, y] => match h[l]? with
    | some (.lst ys) => if ys.length < sizeLine ∧ 0 ≤ i ∧ i < 2 ^ 63 then .ok .non (h.set l (.lst (ys.take i.toNat ++ [y] ++ ys.drop i.toNat))) else .stuck
    | _ => .stuck
  | _, _ => .stuck
theorem ab_insert : AbM G (fun x vs H Q => ∃ (l : Addr) (xs : List V) (i : Int) (y : V), x = .ref l ∧ vs = [.int i, y] ∧ H l = some (.lst xs) ∧ xs.length < sizeLine ∧ 0 ≤ i ∧ i < 2 ^ 63 ∧
    Q .non (upd H l (.lst (xs.take i.toNat ++ [y] ++ xs.drop i.toNat)))) fInsert := by
  intro E ι H h x xs v vs Q rel rx rxs po
  unfold fInsert at po
  split at po
  case h_2 => exact po.elim
  split at po
  case h_2 => exact po.elim
  rename_i ys e1
  split at po
  case isFalse => exact po.elim
  rename_i hc
  obtain ⟨w, u, rfl, rw', ru⟩ := rxs.eq2
  simp only [RV] at rw'
  subst rw'
  obtain ⟨a, ws, rfl, ea, q, r⟩ := at_lst rel rx e1
  have hl := RVs.length r
  exact ⟨a, ws, _, u, rfl, rfl, q, by omega, hc.2.1, hc.2.2, po_wr rel ea (((r.take _).append (RVs.one ru)).append (r.drop _)) (fun _ _ => by simp [RV]) po⟩
def fPop (x : D) (xs : List D) (h : M) : Res D := match x, xs with
  | .loc l, [] => match h[l]? with
    | some (.lst ys) => match ys[ys.length - 1]? with
      | some y => .ok y (h.set l (.lst ys.dropLast))
      | none => .stuck
    | _ => .stuck
  | _, _ => .stuck
/-! ### chains -/
theorem fe_chain {op op' : CmpOp} {g g' : Int → Int → Bool} (ho : OpR X (compareOp op) (rI0 fun i j => .bl (g i j))) (ho' : OpR X (compareOp op') (rI0 fun i j => .bl (g' i j))) (ha : FE X W ex a ma) (hb : FE X W ex b mb) (hc : FE X W ex c mc)
    (hm : lastMarks [op, op'] [b, c] = false := by with_unfolding_all rfl) : FE X W ex (.Compare a [op, op'] [b, c] pos) (mChain (fI (fun _ _ => True) fun i j => .bl (g i j)) (fI (fun _ _ => True) fun i j => .bl (g' i j)) ma mb mc) :=
  PE.imp (pe_chain ho ho' ha hb hc hm) fun σ H Q q => rd_chain q
theorem ft_chain {op op' : CmpOp} {g g' : Int → Int → Bool} (ho : OpR X (compareOp op) (rI0 fun i j => .bl (g i j))) (ho' : OpR X (compareOp op') (rI0 fun i j => .bl (g' i j))) (ha : FE X W ex a ma) (hb : FE X W ex b mb) (hc : FE X W ex c mc)
    (hm : lastMarks [op, op'] [b, c] = false := by with_unfolding_all rfl) : FT X W ex (.Compare a [op, op'] [b, c] pos) (mTest (mChain (fI (fun _ _ => True) fun i j => .bl (g i j)) (fI (fun _ _ => True) fun i j => .bl (g' i j)) ma mb mc)) :=
  PT.imp (pt_chain ho ho' ha hb hc hm) fun σ H Q q => rd_chain (rd_test q)
def fMulX (x y : D) (h : M) : Res D := match x with
  | .str _ => fSMul x y h
  | _ => fMul x y h
theorem fe_mulX (ha : FE X W ex a ma) (hb : FE X W ex b mb) : FE X W ex (.BinOp a .Mult b pos) (m2 fMulX ma mb) := by
  refine PE.imp (PE.or (fe_mul ha hb) (fe_smul ha hb)) fun σ H Q q => ?_
  obtain ⟨ι, h, env, rel, re, po⟩ := q
  cases e : ma env h with
  | ok x h1 =>
    by_cases hx : ∃ z, x = .str z
    · obtain ⟨z, rfl⟩ := hx
      have e2 : m2 fMulX ma mb env h = m2 fSMul ma mb env h := by unfold m2; rw [e]; rfl
      rw [e2] at po
      exact .inr ⟨ι, h, env, rel, re, po⟩
    · have e2 : m2 fMulX ma mb env h = m2 fMul ma mb env h := by
        unfold m2; rw [e]
        simp only [bind_ok]
        congr 1; funext y h2
        cases x <;> first | rfl | exact absurd ⟨_, rfl⟩ hx
      rw [e2] at po
      exact .inl ⟨ι, h, env, rel, re, po⟩
  | exc x ns vs h1 =>
    have e2 : m2 fMulX ma mb env h = m2 fMul ma mb env h := by unfold m2; rw [e]; rfl
    rw [e2] at po
    exact .inl ⟨ι, h, env, rel, re, po⟩
  | stuck =>
    have e2 : m2 fMulX ma mb env h = m2 fMul ma mb env h := by unfold m2; rw [e]; rfl
    rw [e2] at po
    exact .inl ⟨ι, h, env, rel, re, po⟩
end
end LF
set_option Elab.async false
set_option linter.all false
set_option maxRecDepth 100000
set_option maxHeartbeats 4000000
/-! LFM: a small logic over the plain machine. -/
namespace LF
open PySem L2
abbrev XP := Str → List Str → List D → M → Prop
/-- what must hold behind an expression; a class, so that simp leaves it alone -/
class Kw (α : Type) where
  q : α → M → Prop
  x : XP
def Wc {α : Type} (r : Res α) [k : Kw α] : Prop := match r with
  | .ok a h => k.q a h
  | .exc x ns vs h => k.x x ns vs h
  | .stuck => False
class Kt where
  nx : En → M → Prop
  rt : D → M → Prop
  bk : En → M → Prop
  ct : En → M → Prop
  ex : Str → List Str → List D → En → M → Prop
def Ws (r : SR) [k : Kt] : Prop := match r with
  | .nx e h => k.nx e h
  | .rt d h => k.rt d h
  | .bk e h => k.bk e h
  | .ct e h => k.ct e h
  | .exc x ns vs e h => k.ex x ns vs e h
  | .stuck => False
abbrev noEx : XP := fun _ _ _ _ => False
/-- what a call that raises nothing comes to -/
def Wp {α : Type} (r : Res α) (Q : α → M → Prop) : Prop := @Wc α r ⟨Q, noEx⟩
/-- and one that may raise -/
def Wx {α : Type} (r : Res α) (Q : α → M → Prop) (X : XP) : Prop := @Wc α r ⟨Q, X⟩
theorem Wc.mono {α : Type} {r : Res α} {k k' : Kw α} (h : @Wc α r k) (hq : ∀ a h, k.q a h → k'.q a h) (hx : ∀ x ns vs h, k.x x ns vs h → k'.x x ns vs h) : @Wc α r k' := by
  cases r with
  | ok a h1 => exact hq _ _ h
  | exc x ns vs h1 => exact hx _ _ _ _ h
  | stuck => exact h
/-- behind a call that raises nothing -/
theorem Wp.call {α : Type} {r : Res α} {Q Q' : α → M → Prop} {X : XP} (h : Wp r Q) (hq : ∀ a h, Q a h → Q' a h) : @Wc α r ⟨Q', X⟩ := Wc.mono h hq fun _ _ _ _ z => z.elim
theorem Wx.call {α : Type} {r : Res α} {Q Q' : α → M → Prop} {X X' : XP} (h : Wx r Q X) (hq : ∀ a h, Q a h → Q' a h) (hx : ∀ x ns vs h, X x ns vs h → X' x ns vs h) : @Wc α r ⟨Q', X'⟩ := Wc.mono h hq hx
theorem Wp.mono {α : Type} {r : Res α} {Q Q' : α → M → Prop} (h : Wp r Q) (hq : ∀ a h, Q a h → Q' a h) : Wp r Q' := Wc.mono h hq fun _ _ _ _ z => z
theorem Ws.mono {r : SR} {k k' : Kt} (h : @Ws r k) (h1 : ∀ e m, k.nx e m → k'.nx e m) (h2 : ∀ d m, k.rt d m → k'.rt d m) (h3 : ∀ e m, k.bk e m → k'.bk e m) (h4 : ∀ e m, k.ct e m → k'.ct e m) (h5 : ∀ x ns vs e m, k.ex x ns vs e m → k'.ex x ns vs e m) : @Ws r k' := by
  cases r with
  | nx => exact h1 _ _ h
  | rt => exact h2 _ _ h
  | bk => exact h3 _ _ h
  | ct => exact h4 _ _ h
  | exc => exact h5 _ _ _ _ _ h
  | stuck => exact h
theorem wc_eq {α : Type} {r : Res α} {Q Q' : α → M → Prop} {X : XP} (e : ∀ a h, Q a h = Q' a h) : @Wc α r ⟨Q, X⟩ = @Wc α r ⟨Q', X⟩ := by
  have : Q = Q' := by funext a h; exact e a h
  rw [this]
theorem Wc.ok_of {α : Type} {r : Res α} {Q : α → M → Prop} (h : @Wc α r ⟨Q, noEx⟩) : ∃ a m, r = .ok a m ∧ Q a m := by
  cases r with
  | ok a m => exact ⟨a, m, rfl, h⟩
  | exc => exact h.elim
  | stuck => exact h.elim
section
variable {α β : Type} {Q : α → M → Prop} {X : XP} {env : En} {h : M} {nx : En → M → Prop} {rt : D → M → Prop} {bk ct : En → M → Prop} {ex : Str → List Str → List D → En → M → Prop}
@[simp] theorem wp_ok {a : α} : @Wc α (.ok a h) ⟨Q, X⟩ = Q a h := (rfl)
@[simp] theorem wp_exc {x ns vs} : @Wc α (.exc x ns vs h) ⟨Q, X⟩ = X x ns vs h := (rfl)
@[simp] theorem wp_stuck : @Wc α .stuck ⟨Q, X⟩ = False := (rfl)
@[simp] theorem wp_guard {c : Prop} [Decidable c] {r : Res α} : @Wc α (if c then r else .stuck) ⟨Q, X⟩ = (c ∧ @Wc α r ⟨Q, X⟩) := by
  split
  · rename_i hc; exact propext ⟨fun z => ⟨hc, z⟩, fun z => z.2⟩
  · rename_i hc; exact propext ⟨fun z => z.elim, fun z => hc z.1⟩
theorem wp_ite {c : Prop} [Decidable c] {r s : Res α} : @Wc α (if c then r else s) ⟨Q, X⟩ = if c then @Wc α r ⟨Q, X⟩ else @Wc α s ⟨Q, X⟩ := by split <;> rfl
@[simp] theorem wp_bind {r : Res β} {k : β → M → Res α} : @Wc α (r.bind k) ⟨Q, X⟩ = @Wc β r ⟨fun a h => @Wc α (k a h) ⟨Q, X⟩, X⟩ := by cases r <;> rfl
@[simp] theorem ws_of {r : Res α} {k : α → M → SR} : @Ws (SR.of r env k) ⟨nx, rt, bk, ct, ex⟩ = @Wc α r ⟨fun a h => @Ws (k a h) ⟨nx, rt, bk, ct, ex⟩, fun x ns vs h => ex x ns vs env h⟩ := by cases r <;> rfl
@[simp] theorem ws_nx : @Ws (.nx env h) ⟨nx, rt, bk, ct, ex⟩ = nx env h := (rfl)
@[simp] theorem ws_rt {d : D} : @Ws (.rt d h) ⟨nx, rt, bk, ct, ex⟩ = rt d h := (rfl)
@[simp] theorem ws_bk : @Ws (.bk env h) ⟨nx, rt, bk, ct, ex⟩ = bk env h := (rfl)
@[simp] theorem ws_ct : @Ws (.ct env h) ⟨nx, rt, bk, ct, ex⟩ = ct env h := (rfl)
@[simp] theorem ws_stuck : @Ws .stuck ⟨nx, rt, bk, ct, ex⟩ = False := (rfl)
@[simp] theorem ws_exc {x ns vs} : @Ws (.exc x ns vs env h) ⟨nx, rt, bk, ct, ex⟩ = ex x ns vs env h := (rfl)
@[simp] theorem ws_seq {a b : MS} : @Ws (mSeq a b env h) ⟨nx, rt, bk, ct, ex⟩ = @Ws (a env h) ⟨fun env h => @Ws (b env h) ⟨nx, rt, bk, ct, ex⟩, rt, bk, ct, ex⟩ := by
  unfold mSeq; cases a env h <;> rfl
@[simp] theorem ws_skip : @Ws (mSkip env h) ⟨nx, rt, bk, ct, ex⟩ = nx env h := (rfl)
@[simp] theorem ws_set {i : Nat} {m : ME} : @Ws (mSet i m env h) ⟨nx, rt, bk, ct, ex⟩ = @Wc D (m env h) ⟨fun d h => nx (env.set i (.va d)) h, fun x ns vs h => ex x ns vs env h⟩ := by unfold mSet; rw [ws_of]; rfl
@[simp] theorem ws_do {m : ME} : @Ws (mDo m env h) ⟨nx, rt, bk, ct, ex⟩ = @Wc D (m env h) ⟨fun _ h => nx env h, fun x ns vs h => ex x ns vs env h⟩ := by unfold mDo; rw [ws_of]; rfl
@[simp] theorem ws_ret {m : ME} : @Ws (mRet m env h) ⟨nx, rt, bk, ct, ex⟩ = @Wc D (m env h) ⟨rt, fun x ns vs h => ex x ns vs env h⟩ := by unfold mRet; rw [ws_of]; rfl
@[simp] theorem ws_retN : @Ws (mRetN env h) ⟨nx, rt, bk, ct, ex⟩ = rt .non h := (rfl)
@[simp] theorem ws_break : @Ws (mBreak env h) ⟨nx, rt, bk, ct, ex⟩ = bk env h := (rfl)
@[simp] theorem ws_cont : @Ws (mCont env h) ⟨nx, rt, bk, ct, ex⟩ = ct env h := (rfl)
@[simp] theorem ws_if {t : MT} {a b : MS} : @Ws (mIfS t a b env h) ⟨nx, rt, bk, ct, ex⟩ = @Wc Bool (t env h) ⟨fun c h => if c = true then @Ws (a env h) ⟨nx, rt, bk, ct, ex⟩ else @Ws (b env h) ⟨nx, rt, bk, ct, ex⟩, fun x ns vs h => ex x ns vs env h⟩ := by
  unfold mIfS
  rw [ws_of]
  exact wc_eq fun c _ => by cases c <;> rfl
@[simp] theorem ws_m3 {f : D → D → D → M → Res Unit} {mo mi me : ME} : @Ws (m3 f mo mi me env h) ⟨nx, rt, bk, ct, ex⟩ = @Wc D (me env h) ⟨fun v h => @Wc D (mo env h) ⟨fun o h => @Wc D (mi env h) ⟨fun i h => @Wc Unit (f o i v h) ⟨fun _ h => nx env h, fun x ns vs h => ex x ns vs env h⟩, fun x ns vs h => ex x ns vs env h⟩, fun x ns vs h => ex x ns vs env h⟩, fun x ns vs h => ex x ns vs env h⟩ := by
  unfold m3; rw [ws_of, wp_bind]; exact wc_eq fun _ _ => by rw [wp_bind]; exact wc_eq fun _ _ => by rw [wp_bind]; rfl
@[simp] theorem ws_asg {m : ME} {g : MG} : @Ws (mAsg m g env h) ⟨nx, rt, bk, ct, ex⟩ = @Wc D (m env h) ⟨fun d h => @Wc En (g d env h) ⟨fun env' h => nx env' h, fun x ns vs h => ex x ns vs env h⟩, fun x ns vs h => ex x ns vs env h⟩ := by
  unfold mAsg; rw [ws_of]; exact wc_eq fun _ _ => by rw [ws_of]; rfl
end
section
variable {Q : D → M → Prop} {QB : Bool → M → Prop} {QL : List D → M → Prop} {QO : Option Int → M → Prop} {QI : Itr' → M → Prop} {QE : En → M → Prop} {X : XP} {env : En} {h : M} {ma mb mc : ME} {mas : MA}
@[simp] theorem wp_c {d : D} : @Wc D (mC d env h) ⟨Q, X⟩ = Q d h := (rfl)
@[simp] theorem wp_m2 {f : D → D → M → Res D} : @Wc D (m2 f ma mb env h) ⟨Q, X⟩ = @Wc D (ma env h) ⟨fun x h => @Wc D (mb env h) ⟨fun y h => @Wc D (f x y h) ⟨Q, X⟩, X⟩, X⟩ := by
  unfold m2; rw [wp_bind]; exact wc_eq fun _ _ => by rw [wp_bind]
@[simp] theorem wp_m1 {f : D → M → Res D} : @Wc D (m1 f ma env h) ⟨Q, X⟩ = @Wc D (ma env h) ⟨fun x h => @Wc D (f x h) ⟨Q, X⟩, X⟩ := by
  unfold m1; rw [wp_bind]
@[simp] theorem wp_nil : @Wc (List D) (mNil env h) ⟨QL, X⟩ = QL [] h := (rfl)
@[simp] theorem wp_cons : @Wc (List D) (mCons ma mas env h) ⟨QL, X⟩ = @Wc D (ma env h) ⟨fun x h => @Wc (List D) (mas env h) ⟨fun xs h => QL (x :: xs) h, X⟩, X⟩ := by
  unfold mCons; rw [wp_bind]; exact wc_eq fun _ _ => by rw [wp_bind]; rfl
@[simp] theorem wp_L {f : List D → M → Res D} : @Wc D (mL f mas env h) ⟨Q, X⟩ = @Wc (List D) (mas env h) ⟨fun xs h => @Wc D (f xs h) ⟨Q, X⟩, X⟩ := by
  unfold mL; rw [wp_bind]
@[simp] theorem wp_test : @Wc Bool (mTest ma env h) ⟨QB, X⟩ = @Wc D (ma env h) ⟨fun d h => @Wc Bool (asB d h) ⟨QB, X⟩, X⟩ := by
  unfold mTest; rw [wp_bind]
@[simp] theorem wp_tru : @Wc Bool (mTru ma env h) ⟨QB, X⟩ = @Wc D (ma env h) ⟨fun d h => @Wc Bool (fTru d h) ⟨QB, X⟩, X⟩ := by
  unfold mTru; rw [wp_bind]
@[simp] theorem wp_notT {t : MT} : @Wc Bool (mNotT t env h) ⟨QB, X⟩ = @Wc Bool (t env h) ⟨fun b h => QB (!b) h, X⟩ := by
  unfold mNotT; rw [wp_bind]; rfl
@[simp] theorem wp_andT {t u : MT} : @Wc Bool (mAndT t u env h) ⟨QB, X⟩ = @Wc Bool (t env h) ⟨fun b h => if b = true then @Wc Bool (u env h) ⟨QB, X⟩ else QB false h, X⟩ := by
  simp only [mAndT, wp_bind]; exact wc_eq fun b _ => by cases b <;> rfl
@[simp] theorem wp_orT {t u : MT} : @Wc Bool (mOrT t u env h) ⟨QB, X⟩ = @Wc Bool (t env h) ⟨fun b h => if b = true then QB true h else @Wc Bool (u env h) ⟨QB, X⟩, X⟩ := by
  simp only [mOrT, wp_bind]; exact wc_eq fun b _ => by cases b <;> rfl
@[simp] theorem wp_notV : @Wc D (mNotV ma env h) ⟨Q, X⟩ = @Wc D (ma env h) ⟨fun d h => @Wc Bool (asB d h) ⟨fun b h => Q (.bl (!b)) h, X⟩, X⟩ := by
  unfold mNotV; rw [wp_bind]; exact wc_eq fun _ _ => by rw [wp_bind]; rfl
@[simp] theorem wp_andV : @Wc D (mAndV ma mb env h) ⟨Q, X⟩ = @Wc D (ma env h) ⟨fun d h => @Wc Bool (asB d h) ⟨fun b h => if b = true then @Wc D (mb env h) ⟨Q, X⟩ else Q (.bl false) h, X⟩, X⟩ := by
  unfold mAndV; rw [wp_bind]; exact wc_eq fun _ _ => by rw [wp_bind]; exact wc_eq fun b _ => by cases b <;> rfl
@[simp] theorem wp_orV : @Wc D (mOrV ma mb env h) ⟨Q, X⟩ = @Wc D (ma env h) ⟨fun d h => @Wc Bool (asB d h) ⟨fun b h => if b = true then Q (.bl true) h else @Wc D (mb env h) ⟨Q, X⟩, X⟩, X⟩ := by
  unfold mOrV; rw [wp_bind]; exact wc_eq fun _ _ => by rw [wp_bind]; exact wc_eq fun b _ => by cases b <;> rfl
@[simp] theorem wp_if {t : MT} : @Wc D (mIf t ma mb env h) ⟨Q, X⟩ = @Wc Bool (t env h) ⟨fun b h => if b = true then @Wc D (ma env h) ⟨Q, X⟩ else @Wc D (mb env h) ⟨Q, X⟩, X⟩ := by
  simp only [mIf, wp_bind]; exact wc_eq fun b _ => by cases b <;> rfl
@[simp] theorem wp_noPart : @Wc (Option Int) (mNoPart env h) ⟨QO, X⟩ = QO none h := (rfl)
@[simp] theorem wp_part : @Wc (Option Int) (mPart ma env h) ⟨QO, X⟩ = @Wc D (ma env h) ⟨fun d h => match d with | .int i => QO (some i) h | _ => False, X⟩ := by
  simp only [mPart, wp_bind]; exact wc_eq fun d _ => by cases d <;> rfl
@[simp] theorem wp_sl {lo hi : MO} : @Wc D (mSl ma lo hi env h) ⟨Q, X⟩ = @Wc D (ma env h) ⟨fun x h => @Wc (Option Int) (lo env h) ⟨fun l h => @Wc (Option Int) (hi env h) ⟨fun u h => @Wc D (fSl x l u h) ⟨Q, X⟩, X⟩, X⟩, X⟩ := by
  unfold mSl; rw [wp_bind]; exact wc_eq fun _ _ => by rw [wp_bind]; exact wc_eq fun _ _ => by rw [wp_bind]
@[simp] theorem wp_bm {T : String} {f : D → List D → M → Res D} : @Wc D (mBM T f ma mas env h) ⟨Q, X⟩ = @Wc D (ma env h) ⟨fun x h => isTyp h T x = true ∧ @Wc (List D) (mas env h) ⟨fun xs h => @Wc D (f x xs h) ⟨Q, X⟩, X⟩, X⟩ := by
  unfold mBM; rw [wp_bind]; exact wc_eq fun _ _ => by rw [wp_guard, wp_bind]
@[simp] theorem wp_fix {n : Nat} {m : List D → M → Res D} {ds : List D} : @Wc D (mFix n m ds h) ⟨Q, X⟩ = (ds.length = n ∧ @Wc D (m ds h) ⟨Q, X⟩) := by
  simp only [mFix, wp_guard]
@[simp] theorem wp_iter : @Wc Itr' (mIter ma env h) ⟨QI, X⟩ = @Wc D (ma env h) ⟨fun d h => @Wc Itr' (itOf d h) ⟨QI, X⟩, X⟩ := by
  unfold mIter; rw [wp_bind]
@[simp] theorem wp_rng : @Wc Itr' (mRng mas env h) ⟨QI, X⟩ = @Wc (List D) (mas env h) ⟨fun d h => @Wc Itr' (fRng d h) ⟨QI, X⟩, X⟩ := by
  unfold mRng; rw [wp_bind]
@[simp] theorem wp_gN {i : Nat} {d : D} : @Wc En (gN i d env h) ⟨QE, X⟩ = QE (env.set i (.va d)) h := (rfl)
@[simp] theorem wp_yes : @Wc Bool (mYes env h) ⟨QB, X⟩ = QB true h := (rfl)
/-- a def's body -/
theorem wp_fn {N n : Nat} {mb : MS} {ds : List D} : @Wc D (mFn N n mb ds h) ⟨Q, X⟩ = @Ws (mb (ds.map .va ++ List.replicate (N - n) .no) h) ⟨fun _ h => Q .non h, Q, fun _ _ => False, fun _ _ => False, fun x ns vs _ h => X x ns vs h⟩ := by
  unfold mFn; cases mb (ds.map .va ++ List.replicate (N - n) .no) h <;> rfl
/-! ### values -/
@[simp] theorem v_var {i : Nat} : mVar i env h = match env[i]? with | some (.va d) => .ok d h | _ => .stuck := (rfl)
@[simp] theorem v_asB {b : Bool} : asB (.bl b) h = .ok b h := (rfl)
@[simp] theorem v_add {i j : Int} : fAdd (.int i) (.int j) h = .ok (.int (i + j)) h := (rfl)
@[simp] theorem v_sub {i j : Int} : fSub (.int i) (.int j) h = .ok (.int (i - j)) h := by simp [fSub, fI]
theorem v_mulW {i j : Int} (hc : CMulW i j) : fMul (.int i) (.int j) h = .ok (.int (i * j)) h := by simp [fMul, hc]
theorem v_divW {i j : Int} (hc : CDivW i j) : fDiv (.int i) (.int j) h = .ok (.int (i / j)) h := by simp [fDiv, fI, hc]
theorem abs_lt {i : Int} (h1 : -1606938044258990275541962092341162602522202993782792835301376 < i) (h2 : i < 1606938044258990275541962092341162602522202993782792835301376) : i.natAbs < 2 ^ 200 := by omega
@[simp] theorem v_mul {i j : Int} : fMul (.int i) (.int j) h = if CMulW i j then .ok (.int (i * j)) h else .stuck := (rfl)
@[simp] theorem v_div {i j : Int} : fDiv (.int i) (.int j) h = if CDivW i j then .ok (.int (i / j)) h else .stuck := by simp [fDiv, fI]
@[simp] theorem v_mod {i j : Int} : fMod (.int i) (.int j) h = if 0 < j then .ok (.int (i % j)) h else .stuck := by simp [fMod, fI]
theorem cmulW {i j : Int} (h1 : -1606938044258990275541962092341162602522202993782792835301376 < i) (h2 : i < 1606938044258990275541962092341162602522202993782792835301376) (h3 : -1606938044258990275541962092341162602522202993782792835301376 < j) (h4 : j < 1606938044258990275541962092341162602522202993782792835301376) : CMulW i j :=
  wide_mul (abs_lt h1 h2) (abs_lt h3 h4) (by decide) (by decide) (by decide)
theorem cdivW {i j : Int} (h1 : 0 < j) (h2 : j < 1606938044258990275541962092341162602522202993782792835301376) : CDivW i j := wide_div h1 (abs_lt (by omega) h2) (by decide) (by decide)
@[simp] theorem v_lt {i j : Int} : fLt (.int i) (.int j) h = .ok (.bl (decide (i < j))) h := by simp [fLt, fI]
@[simp] theorem v_le {i j : Int} : fLe (.int i) (.int j) h = .ok (.bl (decide (i ≤ j))) h := by simp [fLe, fI]
@[simp] theorem v_gt {i j : Int} : fGt (.int i) (.int j) h = .ok (.bl (decide (j < i))) h := by simp [fGt, fI]
@[simp] theorem v_ge {i j : Int} : fGe (.int i) (.int j) h = .ok (.bl (decide (j ≤ i))) h := by simp [fGe, fI]
@[simp] theorem v_int {i : Int} : fInt [.int i] h = .ok (.int i) h := (rfl)
@[simp] theorem v_min {i j : Int} : fMin [.int i, .int j] h = .ok (.int (if j < i then j else i)) h := (rfl)
@[simp] theorem v_max {i j : Int} : fMax [.int i, .int j] h = .ok (.int (if j > i then j else i)) h := (rfl)
@[simp] theorem v_eqI {i j : Int} : fEq (.int i) (.int j) h = .ok (.bl (decide (i = j))) h := (rfl)
@[simp] theorem v_neI {i j : Int} : fNe (.int i) (.int j) h = .ok (.bl (!decide (i = j))) h := (rfl)
@[simp] theorem v_eqS {i j : Str} : fEq (.str i) (.str j) h = .ok (.bl (decide (i = j))) h := (rfl)
@[simp] theorem v_neS {i j : Str} : fNe (.str i) (.str j) h = .ok (.bl (!decide (i = j))) h := (rfl)
@[simp] theorem ixN_lit {len n : Nat} : ixN len (no_index (OfNat.ofNat n) : Int) = if n < len then some n else none := by
  unfold ixN
  have h0 : (0 : Int) ≤ (OfNat.ofNat n : Int) := Int.natCast_nonneg n
  rw [if_pos h0]
  have e : ((OfNat.ofNat n : Int) < (len : Int)) ↔ n < len := Int.ofNat_lt
  by_cases hl : n < len
  · rw [if_pos (e.mpr hl), if_pos hl]; rfl
  · rw [if_neg (fun z => hl (e.mp z)), if_neg hl]
theorem ixN_nat {len n : Nat} : ixN len (n : Int) = if n < len then some n else none := by
  unfold ixN
  rw [if_pos (Int.natCast_nonneg n)]
  by_cases hl : n < len
  · rw [if_pos (Int.ofNat_lt.mpr hl), if_pos hl]; rfl
  · rw [if_neg (fun z => hl (Int.ofNat_lt.mp z)), if_neg hl]
@[simp] theorem atI_lit {α : Type} {xs : List α} {n : Nat} : atI xs (no_index (OfNat.ofNat n) : Int) = xs[n]? := by
  unfold atI
  rw [ixN_lit]
  by_cases hl : n < xs.length
  · rw [if_pos hl]; rfl
  · rw [if_neg hl, List.getElem?_eq_none (Nat.le_of_not_lt hl)]; rfl
theorem atI_n {α : Type} {xs : List α} {n : Nat} : atI xs (n : Int) = xs[n]? := by
  unfold atI
  rw [ixN_nat]
  by_cases hl : n < xs.length
  · rw [if_pos hl]; rfl
  · rw [if_neg hl, List.getElem?_eq_none (Nat.le_of_not_lt hl)]; rfl
/-- a list's item -/
@[simp] theorem v_ixL {l : Nat} {i : Int} : fIx (.loc l) (.int i) h = match h[l]? with
    | some (.lst xs) => match atI xs i with | some d => .ok d h | none => .stuck
    | some (.dK kvs) => match valD kvs (.inl i) with | some d => .ok d h | none => .stuck
    | _ => .stuck := by
  unfold fIx seqOf
  simp only [tupOf, lstOf, dGet, keyD, keysD]
  cases h[l]? with
  | none => rfl
  | some o => cases o with
    | lst xs => rfl
    | dK kvs => simp only [Option.map_some]; cases valD kvs (.inl i) <;> rfl
    | dT kvs => rfl
    | ins x fs => rfl
@[simp] theorem v_ixT {xs : List D} {i : Int} : fIx (.tup xs) (.int i) h = match atI xs i with | some d => .ok d h | none => .stuck := (rfl)
@[simp] theorem v_ixC {xs : List D} {i : Int} : fIx (.cl xs) (.int i) h = match atI xs i with | some d => .ok d h | none => .stuck := (rfl)
@[simp] theorem v_ixK {xs : List D} {i : Int} : fIx (.ct xs) (.int i) h = match atI xs i with | some d => .ok d h | none => .stuck := (rfl)
@[simp] theorem v_putL {l : Nat} {i v : D} {xs : List D} (e : h[l]? = some (.lst xs)) : fPut (.loc l) i v h = match i with
    | .int k => match ixN xs.length k with | some j => .ok () (h.set l (.lst (xs.set j v))) | none => .stuck
    | _ => .stuck := by simp only [fPut, e] <;> cases i <;> rfl
@[simp] theorem v_app {l : Nat} {d : D} {xs : List D} (e : h[l]? = some (.lst xs)) (hz : xs.length < sizeLine) : fAppend (.loc l) [d] h = .ok .non (h.set l (.lst (xs ++ [d]))) := by simp only [fAppend, e, hz, if_true]
@[simp] theorem v_isN : fIsN .non h = .ok (.bl true) h := (rfl)
end
/-! ### loops -/
section
variable {chk : M → Prop} {g : MG} {mb : MS} {nx : En → M → Prop} {rt : D → M → Prop} {bk ct : En → M → Prop} {ex : Str → List Str → List D → En → M → Prop}
/-- a for loop by what holds ahead of each turn -/
theorem floop_inv {items : List D} {env : En} {h : M} (I : Nat → En → M → Prop) (h0 : I 0 env h) (ck : ∀ i env h, i ≤ items.length → I i env h → chk h)
    (step : ∀ i d env h, items[i]? = some d → I i env h → @Wc En (g d env h) ⟨fun env h => @Ws (mb env h) ⟨I (i + 1), rt, nx, I (i + 1), ex⟩, fun x ns vs h => ex x ns vs env h⟩) (fin : ∀ env h, I items.length env h → nx env h) :
    @Ws (floop chk g mb items env h) ⟨nx, rt, bk, ct, ex⟩ := by
  have go : ∀ (n i : Nat) (env : En) (h : M), items.length - i = n → i ≤ items.length → I i env h → @Ws (floop chk g mb (items.drop i) env h) ⟨nx, rt, bk, ct, ex⟩ := by
    intro n
    induction n with
    | zero =>
      intro i env h e hi p
      have : i = items.length := by omega
      subst this
      simp only [List.drop_length]
      unfold floop
      rw [if_pos (ck _ _ _ (Nat.le_refl _) p)]
      exact fin _ _ p
    | succ n ih =>
      intro i env h e hi p
      have hlt : i < items.length := by omega
      rw [List.drop_eq_getElem_cons hlt]
      unfold floop
      rw [if_pos (ck _ _ _ hi p), ws_of]
      refine Wc.mono (step i items[i] env h (List.getElem?_eq_getElem hlt) p) (fun env1 h1 q => ?_) fun _ _ _ _ z => z
      have q : @Ws (mb env1 h1) ⟨I (i + 1), rt, nx, I (i + 1), ex⟩ := q
      show @Ws _ ⟨nx, rt, bk, ct, ex⟩
      cases e1 : mb env1 h1 with
      | nx e2 h2 => rw [e1] at q; exact ih (i + 1) e2 h2 (by omega) hlt q
      | ct e2 h2 => rw [e1] at q; exact ih (i + 1) e2 h2 (by omega) hlt q
      | bk e2 h2 => rw [e1] at q; exact q
      | rt d h2 => rw [e1] at q; exact q
      | exc x ns vs e2 h2 => rw [e1] at q; exact q
      | stuck => rw [e1] at q; exact q
  simpa using go items.length 0 env h (by simp) (Nat.zero_le _) h0
@[simp] theorem ws_for {mi : MI} {env : En} {h : M} : @Ws (mFor mi g mb env h) ⟨nx, rt, bk, ct, ex⟩ = @Wc Itr' (mi env h) ⟨fun it h => @Ws (floop it.chk g mb it.items env h) ⟨nx, rt, bk, ct, ex⟩, fun x ns vs h => ex x ns vs env h⟩ := by
  unfold mFor; rw [ws_of]
/-- a comprehension by what holds ahead of each turn: I i acc h -/
theorem lcloop_inv {Q : D → M → Prop} {X : XP} {env : En} {tt : MT} {me : ME} {l : Nat} {items : List D} {h : M} (I : Nat → List D → M → Prop) (h0 : I 0 [] h) (ck : ∀ i acc h, i ≤ items.length → I i acc h → chk h)
    (step : ∀ i d acc h, items[i]? = some d → I i acc h → @Wc En (g d env h) ⟨fun env2 h => @Wc Bool (tt env2 h) ⟨fun b h => if b = true then @Wc D (me env2 h) ⟨fun y h => h[l]? = some (.lst acc) ∧ acc.length < sizeLine ∧ I (i + 1) (acc ++ [y]) (h.set l (.lst (acc ++ [y]))), noEx⟩ else I (i + 1) acc h, noEx⟩, noEx⟩)
    (fin : ∀ acc h, I items.length acc h → Q (.loc l) h) : @Wc D (lcloopN chk env g tt me l items h) ⟨Q, X⟩ := by
  have go : ∀ (n i : Nat) (acc : List D) (h : M), items.length - i = n → i ≤ items.length → I i acc h → @Wc D (lcloopN chk env g tt me l (items.drop i) h) ⟨Q, X⟩ := by
    intro n
    induction n with
    | zero =>
      intro i acc h e hi p
      have : i = items.length := by omega
      subst this
      simp only [List.drop_length]
      unfold lcloopN
      rw [if_pos (ck _ _ _ (Nat.le_refl _) p)]
      exact fin _ _ p
    | succ n ih =>
      intro i acc h e hi p
      have hlt : i < items.length := by omega
      rw [List.drop_eq_getElem_cons hlt]
      unfold lcloopN
      rw [if_pos (ck _ _ _ hi p)]
      obtain ⟨env2, h2, e1, q1⟩ := Wc.ok_of (step i items[i] acc h (List.getElem?_eq_getElem hlt) p)
      rw [e1]
      simp only [noX_ok, bind_ok]
      obtain ⟨b, h3, e2, q2⟩ := Wc.ok_of q1
      rw [e2]
      simp only [noX_ok, bind_ok]
      cases b with
      | false => exact ih (i + 1) acc h3 (by omega) hlt q2
      | true =>
        simp only [if_true] at q2 ⊢
        obtain ⟨y, h4, e3, q3, q4, q5⟩ := Wc.ok_of q2
        rw [e3]
        simp only [noX_ok, bind_ok, q3]
        rw [if_pos q4]
        exact ih (i + 1) (acc ++ [y]) _ (by omega) hlt q5
  simpa using go items.length 0 [] h (by simp) (Nat.zero_le _) h0
@[simp] theorem wp_lc {Q : D → M → Prop} {X : XP} {env : En} {own : List Nat} {mi : MI} {tt : MT} {me : ME} {h : M} : @Wc D (mLcN own mi g tt me env h) ⟨Q, X⟩ = @Wc Itr' (mi env h) ⟨fun it h1 => @Wc D (lcloopN it.chk (wipeE env own) g tt me h1.length it.items (h1 ++ [.lst []])) ⟨Q, X⟩, X⟩ := by
  unfold mLcN; rw [wp_bind]
theorem wloop_inv {c : MT} {n : Nat} {env : En} {h : M} (I : En → M → Prop) (μ : En → M → Nat) (h0 : I env h) (hn : μ env h < n)
    (step : ∀ env h, I env h → @Wc Bool (c env h) ⟨fun t h1 => if t = true then @Ws (mb env h1) ⟨fun e m => I e m ∧ μ e m < μ env h, rt, nx, fun e m => I e m ∧ μ e m < μ env h, ex⟩ else nx env h1, fun x ns vs h => ex x ns vs env h⟩) : @Ws (wloop c mb n env h) ⟨nx, rt, bk, ct, ex⟩ := by
  induction n generalizing env h with
  | zero => omega
  | succ n ih =>
    unfold wloop
    rw [ws_of]
    refine Wc.mono (step env h h0) (fun t h1 q => ?_) fun _ _ _ _ z => z
    cases t with
    | false => exact q
    | true =>
      have q : @Ws (mb env h1) ⟨fun e m => I e m ∧ μ e m < μ env h, rt, nx, fun e m => I e m ∧ μ e m < μ env h, ex⟩ := q
      show @Ws _ ⟨nx, rt, bk, ct, ex⟩
      simp only [if_true] at q ⊢
      cases e1 : mb env h1 with
      | nx e2 h2 => rw [e1] at q; exact ih q.1 (by have := q.2; omega)
      | ct e2 h2 => rw [e1] at q; exact ih q.1 (by have := q.2; omega)
      | bk e2 h2 => rw [e1] at q; exact q
      | rt d h2 => rw [e1] at q; exact q
      | exc x ns vs e2 h2 => rw [e1] at q; exact q
      | stuck => rw [e1] at q; exact q
@[simp] theorem ws_while {c : MT} {n : Nat} {env : En} {h : M} : @Ws (mWhile n c mb env h) ⟨nx, rt, bk, ct, ex⟩ = @Ws (wloop c mb n env h) ⟨nx, rt, bk, ct, ex⟩ := rfl
end
/-! ### heaps -/
/-- what stood in the places but those of S stands there yet -/
structure Fr (S : List Nat) (h h' : M) : Prop where
  len : h.length ≤ h'.length
  at_ : ∀ l o, l ∉ S → h[l]? = some o → h'[l]? = some o
theorem Fr.refl (S : List Nat) (h : M) : Fr S h h := ⟨Nat.le_refl _, fun _ _ _ e => e⟩
theorem Fr.trans {S : List Nat} {h h1 h2 : M} (a : Fr S h h1) (b : Fr S h1 h2) : Fr S h h2 := ⟨Nat.le_trans a.len b.len, fun l o n e => b.at_ l o n (a.at_ l o n e)⟩
theorem Fr.push {S : List Nat} {h : M} (o : O) : Fr S h (h ++ [o]) := ⟨by simp, fun l u _ e => by
  have hl : l < h.length := (List.getElem?_eq_some_iff.mp e).1
  rw [List.getElem?_append_left hl]; exact e⟩
theorem Fr.set {S : List Nat} {h : M} {l : Nat} (o : O) (hl : l ∈ S) : Fr S h (h.set l o) := ⟨by simp, fun k u n e => by
  rw [List.getElem?_set_ne (fun z => n (by rw [← z]; exact hl))]; exact e⟩
theorem Fr.mono {S S' : List Nat} {h h' : M} (a : Fr S h h') (s : ∀ l ∈ S, l ∈ S') : Fr S' h h' := ⟨a.len, fun l o n e => a.at_ l o (fun z => n (s l z)) e⟩
/-- new places do not count -/
theorem Fr.cut {S S' : List Nat} {h h' : M} (a : Fr S h h') (s : ∀ l ∈ S, l < h.length → l ∈ S') : Fr S' h h' := ⟨a.len, fun l o n e => a.at_ l o (fun z => n (s l z (List.getElem?_eq_some_iff.mp e).1)) e⟩
theorem at_lt {h : M} {l : Nat} {o : O} (e : h[l]? = some o) : l < h.length := (List.getElem?_eq_some_iff.mp e).1
theorem at_push {h : M} {o : O} : (h ++ [o])[h.length]? = some o := by simp
theorem at_app {h : M} {l : Nat} {o u : O} (e : h[l]? = some o) : (h ++ [u])[l]? = some o := by rw [List.getElem?_append_left (at_lt e)]; exact e
theorem at_set {h : M} {l : Nat} {o u : O} (e : h[l]? = some o) : (h.set l u)[l]? = some u := List.getElem?_set_self (at_lt e)
theorem at_setN {h : M} {l k : Nat} {o u : O} (e : h[l]? = some o) (n : k ≠ l) : (h.set k u)[l]? = some o := by rw [List.getElem?_set_ne n]; exact e
end LF
set_option Elab.async false
set_option linter.all false
set_option maxRecDepth 100000
set_option maxHeartbeats 4000000
/-! LFN: heaps, equality, lists of integers. -/
namespace LF
open PySem PySem.Spec L2
open PyProof.Rows hiding St
/-! ### places -/
section
variable {h os : M} {o u : O} {l k : Nat}
@[simp] theorem cat_at0 : (h ++ os)[h.length]? = os[0]? := by simp [List.getElem?_append_right]
@[simp] theorem cat_at : (h ++ os)[h.length + k]? = os[k]? := by rw [List.getElem?_append_right (by omega)]; congr 1; omega
@[simp] theorem cat_set0 : (h ++ os).set h.length o = h ++ os.set 0 o := by simp [List.set_append]
@[simp] theorem cat_set : (h ++ os).set (h.length + k) o = h ++ os.set k o := by
  rw [List.set_append, if_neg (by omega)]; congr 2; omega
theorem cat_old (hl : l < h.length) : (h ++ os)[l]? = h[l]? := List.getElem?_append_left hl
theorem cat_setO (hl : l < h.length) : (h ++ os).set l o = h.set l o ++ os := by rw [List.set_append, if_pos hl]
theorem Fr.cat {S : List Nat} (os : M) : Fr S h (h ++ os) := ⟨by simp, fun l u _ e => by rw [cat_old (at_lt e)]; exact e⟩
theorem Fr.at {S : List Nat} {h h' : M} {l : Nat} {o : O} (F : Fr S h h') (e : h[l]? = some o) (n : l ∉ S := by simp) : h'[l]? = some o := F.at_ l o n e
theorem Fr.nil {S : List Nat} {h h' : M} (F : Fr [] h h') : Fr S h h' := F.mono (by simp)
end
/-! ### plain values -/
def Pl (h : M) (n : Nat) (d : D) (p : PyData) : Prop := toPy h n d = some p ∧ p.canLay0 = true ∧ p.depth ≤ n
def PlA (h : M) (n : Nat) (xs : List D) (ps : List PyData) : Prop := xs.mapM (toPy h n) = some ps ∧ PyData.canLayAll0 ps = true ∧ PyData.depthAll ps ≤ n
section
variable {h : M} {n : Nat}
theorem pl_int (i : Int) : Pl h n (.int i) (.int i) := ⟨by cases n <;> rfl, rfl, Nat.zero_le _⟩
theorem pl_bl (i : Bool) : Pl h n (.bl i) (.bool i) := ⟨by cases n <;> rfl, rfl, Nat.zero_le _⟩
theorem pl_non : Pl h n .non .none := ⟨by cases n <;> rfl, rfl, Nat.zero_le _⟩
theorem pl_str {x : Str} (hx : PyData.strOk x = true) : Pl h n (.str x) (.str x) := ⟨by cases n <;> rfl, by simpa [PyData.canLay0] using hx, Nat.zero_le _⟩
theorem pla_nil : PlA h n [] [] := ⟨rfl, rfl, Nat.zero_le _⟩
theorem pla_cons {x : D} {p : PyData} {xs : List D} {ps : List PyData} (a : Pl h n x p) (b : PlA h n xs ps) : PlA h n (x :: xs) (p :: ps) :=
  ⟨by simp [List.mapM_cons, a.1, b.1], by simp [PyData.canLayAll0, a.2.1, b.2.1], by simp only [PyData.depthAll]; exact Nat.max_le.mpr ⟨a.2.2, b.2.2⟩⟩
theorem pla_map {α : Type} {f : α → D} {g : α → PyData} {xs : List α} (e : ∀ a ∈ xs, Pl h n (f a) (g a)) : PlA h n (xs.map f) (xs.map g) := by
  induction xs with
  | nil => exact pla_nil
  | cons x xs ih => exact pla_cons (e x (by simp)) (ih fun a m => e a (by simp [m]))
theorem pl_tup {xs : List D} {ps : List PyData} (a : PlA h n xs ps) : Pl h (n + 1) (.tup xs) (.tuple ps) :=
  ⟨by simp [toPy, a.1], by simpa [PyData.canLay0] using a.2.1, by simp only [PyData.depth]; have := a.2.2; omega⟩
theorem pl_ct {xs : List D} {ps : List PyData} (a : PlA h n xs ps) : Pl h (n + 1) (.ct xs) (.tuple ps) :=
  ⟨by simp [toPy, a.1], by simpa [PyData.canLay0] using a.2.1, by simp only [PyData.depth]; have := a.2.2; omega⟩
theorem pl_cl {xs : List D} {ps : List PyData} (a : PlA h n xs ps) : Pl h (n + 1) (.cl xs) (.list ps) :=
  ⟨by simp [toPy, a.1], by simpa [PyData.canLay0] using a.2.1, by simp only [PyData.depth]; have := a.2.2; omega⟩
theorem pl_loc {l : Nat} {xs : List D} {ps : List PyData} (e : h[l]? = some (.lst xs)) (a : PlA h n xs ps) : Pl h (n + 1) (.loc l) (.list ps) :=
  ⟨by simp [toPy, e, a.1], by simpa [PyData.canLay0] using a.2.1, by simp only [PyData.depth]; have := a.2.2; omega⟩
theorem pla_ints {xs : List Int} : PlA h n (xs.map .int) (xs.map .int) := pla_map fun a _ => pl_int a
theorem pl_shaped {d : D} {p : PyData} (hn : n ≤ 64) (a : Pl h n d p) : SeqAt.shaped p = true := by
  unfold SeqAt.shaped; rw [a.2.1]; simpa using Nat.le_trans a.2.2 hn
theorem eqD_pl {x y : D} {p q : PyData} (a : Pl h 50 x p) (b : Pl h 50 y q) (s : scalD x y = none) : eqD x y h = some (PyData.eqv p q) := by
  unfold eqD; rw [s]; simp only [a.1, b.1, pl_shaped (by decide) a, pl_shaped (by decide) b, and_self, if_true]
theorem eqD_same {x y : D} {p : PyData} (a : Pl h 50 x p) (b : Pl h 50 y p) : eqD x y h = some true := by
  cases e : scalD x y with
  | none => rw [eqD_pl a b e, SeqAt.eqv_refl p a.2.1]
  | some c =>
    have h1 := a.1
    have h2 := b.1
    unfold eqD; rw [e]
    cases x <;> cases y <;> simp only [scalD, reduceCtorEq, Option.some.injEq] at e <;> simp only [toPy, Option.some.injEq, reduceCtorEq] at h1 h2 <;> (try subst h1) <;> simp_all
theorem fEq_same {x y : D} {p : PyData} (a : Pl h 50 x p) (b : Pl h 50 y p) : fEq x y h = .ok (.bl true) h := by simp only [fEq, eqD_same a b]
theorem fNe_same {x y : D} {p : PyData} (a : Pl h 50 x p) (b : Pl h 50 y p) : fNe x y h = .ok (.bl false) h := by simp only [fNe, eqD_same a b]; rfl
theorem fEq_ints {a b : Nat} {xs : List Int} (e1 : h[a]? = some (.lst (xs.map .int))) (e2 : h[b]? = some (.lst (xs.map .int))) : fEq (.loc a) (.loc b) h = .ok (.bl true) h := fEq_same (pl_loc e1 pla_ints) (pl_loc e2 pla_ints)
theorem fNe_ints {a b : Nat} {xs : List Int} (e1 : h[a]? = some (.lst (xs.map .int))) (e2 : h[b]? = some (.lst (xs.map .int))) : fNe (.loc a) (.loc b) h = .ok (.bl false) h := fNe_same (pl_loc e1 pla_ints) (pl_loc e2 pla_ints)
end
/-! ### built-ins on lists -/
section
variable {h : M} {l k : Nat} {xs ys : List D}
@[simp] theorem v_Lst {ds : List D} : fLst ds h = if ds.length ≤ sizeLine then .ok (.loc h.length) (h ++ [.lst ds]) else .stuck := (rfl)
@[simp] theorem v_Tup {ds : List D} : fTup ds h = if ds.length ≤ sizeLine then .ok (.tup ds) h else .stuck := (rfl)
/-- the list at a place -/
def lsA (h : M) (l : Nat) : Option (List D) := match h[l]? with | some (.lst xs) => some xs | _ => none
theorem lsA_of (e : h[l]? = some (.lst xs)) : lsA h l = some xs := by simp [lsA, e]
theorem of_lsA (e : lsA h l = some xs) : h[l]? = some (.lst xs) := by
  simp only [lsA] at e
  split at e
  · rename_i e2; cases e; exact e2
  · cases e
@[simp] theorem v_list : fList [.loc l] h = match h[l]? with | some (.lst xs) => .ok (.loc h.length) (h ++ [.lst xs]) | _ => .stuck := by
  simp only [fList, seqOf, tupOf, lstOf]; split <;> rename_i e <;> (split at e <;> simp_all)
@[simp] theorem v_tuple : fTuple [.loc l] h = match h[l]? with | some (.lst xs) => .ok (.tup xs) h | _ => .stuck := by
  simp only [fTuple, lstOf]; split <;> rename_i e <;> (split at e <;> simp_all)
@[simp] theorem v_len : fLen [.loc l] h = match h[l]? with | some (.lst xs) => .ok (.int xs.length) h | some (.dK kvs) => .ok (.int kvs.length) h | _ => .stuck := by
  simp only [fLen, lenD]; cases h[l]? with
  | none => rfl
  | some o => cases o <;> rfl
@[simp] theorem v_slL {lo hi : Option Int} : fSl (.loc l) lo hi h = match h[l]? with | some (.lst xs) => .ok (.loc h.length) (h ++ [.lst (cutD xs lo hi)]) | _ => .stuck := by
  simp only [fSl, lstOf]; cases h[l]? with
  | none => rfl
  | some o => cases o <;> rfl
@[simp] theorem v_slC {lo hi : Option Int} : fSl (.cl xs) lo hi h = .ok (.loc h.length) (h ++ [.lst (cutD xs lo hi)]) := by simp [fSl, lstOf]
@[simp] theorem v_lenC : fLen [.cl xs] h = .ok (.int xs.length) h := by simp [fLen, lenD]
@[simp] theorem v_lenT : fLen [.tup xs] h = .ok (.int xs.length) h := by simp [fLen, lenD]
@[simp] theorem v_isTypL : isTyp h "list" (.loc l) = match h[l]? with | some (.lst xs) => true | _ => false := by
  simp only [isTyp]; cases h[l]? with
  | none => rfl
  | some o => cases o <;> rfl
@[simp] theorem v_truI {i : Int} : fTru (.int i) h = .ok (i != 0) h := (rfl)
@[simp] theorem v_truL : fTru (.loc l) h = match h[l]? with | some (.lst xs) => .ok (!xs.isEmpty) h | some (.dK xs) => .ok (!xs.isEmpty) h | _ => .stuck := by
  simp only [fTru, truD]; cases h[l]? with
  | none => rfl
  | some o => cases o <;> rfl
@[simp] theorem v_isLL : fIsI [.loc l, .ty "list"] h = match h[l]? with | some (.lst xs) => .ok (.bl true) h | some (.dK _) => .ok (.bl false) h | some (.dT _) => .ok (.bl false) h | _ => .stuck := by
  simp only [fIsI, tyD]; cases h[l]? with
  | none => rfl
  | some o => cases o <;> simp [kinds, isTy]
@[simp] theorem v_isII {i : Int} : fIsI [.int i, .ty "int"] h = .ok (.bl true) h := by simp [fIsI, tyD, kinds, isTy]
@[simp] theorem v_isIB {i : Int} : fIsI [.int i, .ty "bool"] h = .ok (.bl false) h := by simp [fIsI, tyD, kinds, isTy]
@[simp] theorem v_appL {d : D} : fAppend (.loc l) [d] h = match h[l]? with | some (.lst xs) => if xs.length < sizeLine then .ok .non (h.set l (.lst (xs ++ [d]))) else .stuck | _ => .stuck := (rfl)
@[simp] theorem v_extL : fExtend (.loc l) [.loc k] h = match h[l]?, h[k]? with | some (.lst xs), some (.lst ys) => if xs.length + ys.length ≤ sizeLine then .ok .non (h.set l (.lst (xs ++ ys))) else .stuck | _, _ => .stuck := by
  simp only [fExtend, tupOf]; cases h[l]? with
  | none => rfl
  | some o => cases o <;> (try rfl); cases h[k]? with
    | none => rfl
    | some o => cases o <;> rfl
@[simp] theorem v_extT : fExtend (.loc l) [.tup ys] h = match h[l]? with | some (.lst xs) => if xs.length + ys.length ≤ sizeLine then .ok .non (h.set l (.lst (xs ++ ys))) else .stuck | _ => .stuck := (rfl)
@[simp] theorem v_addL : fAdd (.loc l) (.loc k) h = match h[l]?, h[k]? with | some (.lst xs), some (.lst ys) => if xs.length + ys.length ≤ sizeLine then .ok (.loc h.length) (h ++ [.lst (xs ++ ys)]) else .stuck | _, _ => .stuck := (rfl)
@[simp] theorem v_mulL {i : Int} : fMul (.loc l) (.int i) h = match h[l]? with | some (.lst xs) => if -(2 ^ 63) ≤ i ∧ i < 2 ^ 63 ∧ xs.length * i.toNat ≤ sizeLine then .ok (.loc h.length) (h ++ [.lst (List.replicate i.toNat xs).flatten]) else .stuck | _ => .stuck := (rfl)
@[simp] theorem v_itL : itOf (.loc l) h = match h[l]? with | some (.lst xs) => .ok ⟨xs, fun h' => lstOf h' (.loc l) = some xs⟩ h | _ => .stuck := by
  simp only [itOf, tupOf, lstOf]; cases h[l]? with
  | none => rfl
  | some o => cases o <;> rfl
@[simp] theorem v_itT : itOf (.tup xs) h = .ok ⟨xs, fun _ => True⟩ h := (rfl)
theorem lstOf_at (e : h[l]? = some (.lst xs)) : lstOf h (.loc l) = some xs := by simp [lstOf, e]
theorem at_lstOf (e : lstOf h (.loc l) = some xs) : h[l]? = some (.lst xs) := by
  simp only [lstOf] at e
  split at e
  · rename_i e2; cases e; exact e2
  · cases e
@[simp] theorem v_rng1 {i : Int} : fRng [.int i] h = if -(2 ^ 62) ≤ i ∧ i < 2 ^ 62 then .ok ⟨rgItems 0 i.toNat, fun _ => True⟩ h else .stuck := (rfl)
@[simp] theorem v_rng2 {i j : Int} : fRng [.int i, .int j] h = if -(2 ^ 62) ≤ i ∧ i < 2 ^ 62 ∧ -(2 ^ 62) ≤ j ∧ j < 2 ^ 62 then .ok ⟨rgItems i (j - i).toNat, fun _ => True⟩ h else .stuck := (rfl)
@[simp] theorem rg_len {lo : Int} {n : Nat} : (rgItems lo n).length = n := by simp [rgItems]
theorem rg_at {lo : Int} {n i : Nat} {d : D} (e : (rgItems lo n)[i]? = some d) : i < n ∧ d = .int (lo + i) := by
  simp only [rgItems, List.getElem?_map, Option.map_eq_some_iff] at e
  obtain ⟨j, ej, rfl⟩ := e
  have hi : i < n := by have := (List.getElem?_eq_some_iff.mp ej).1; simpa using this
  rw [List.getElem?_range hi] at ej
  exact ⟨hi, by rw [Option.some.inj ej]⟩
theorem sIx_of {n d : Nat} {v : Int} (h0 : 0 ≤ v) : HT.sIx n d (some v) = min v.toNat n := by
  show (if v < 0 then (v + (n : Int)).toNat else min v.toNat n) = min v.toNat n
  rw [if_neg (by omega)]
theorem cutD_le {i j : Int} (h0 : 0 ≤ i) (h1 : 0 ≤ j) (h2 : i ≤ xs.length) (h3 : j ≤ xs.length) : cutD xs (some i) (some j) = (xs.drop i.toNat).take (j.toNat - i.toNat) := by
  unfold cutD; rw [sIx_of h0, sIx_of h1, Nat.min_eq_left (by omega), Nat.min_eq_left (by omega)]
theorem rep1 {α : Type} (n : Nat) (a : α) : (List.replicate n [a]).flatten = List.replicate n a := by
  induction n with
  | zero => rfl
  | succ n ih => rw [List.replicate_succ, List.flatten_cons, ih]; rfl
end
/-! ### targets -/
section
variable {QE : En → M → Prop} {X : XP} {env : En} {h : M} {g : MG} {gs : MGs} {d : D} {ds xs : List D} {n : Nat}
@[simp] theorem wp_noX {α : Type} {r : Res α} {Q : α → M → Prop} : @Wc α (noX r) ⟨Q, X⟩ = @Wc α r ⟨Q, noEx⟩ := by cases r <;> rfl
@[simp] theorem wp_gTp : @Wc En (gTp n gs (.tup xs) env h) ⟨QE, X⟩ = (xs.length = n ∧ @Wc En (gs xs env h) ⟨QE, X⟩) := by
  simp only [gTp, tupOf_tup, wp_guard]
@[simp] theorem wp_gTpC : @Wc En (gTp n gs (.ct xs) env h) ⟨QE, X⟩ = (xs.length = n ∧ @Wc En (gs xs env h) ⟨QE, X⟩) := by
  simp only [gTp, tupOf_ct, wp_guard]
@[simp] theorem wp_gCons : @Wc En (gCons' g gs (d :: ds) env h) ⟨QE, X⟩ = @Wc En (g d env h) ⟨fun env h => @Wc En (gs ds env h) ⟨QE, noEx⟩, X⟩ := by
  simp only [gCons', wp_bind]; exact wc_eq fun _ _ => by rw [wp_noX]
@[simp] theorem wp_gNil : @Wc En (gNil' [] env h) ⟨QE, X⟩ = QE env h := (rfl)
@[simp] theorem wipeE_nil : wipeE env [] = env := (rfl)
@[simp] theorem wipeE_cons {v : Nat} {vs : List Nat} : wipeE env (v :: vs) = (wipeE env vs).set v .no := (rfl)
end
theorem cutD_mid {pre mid post : List D} {i j : Int} (hi : i = pre.length) (hj : j = pre.length + mid.length) : cutD (pre ++ mid ++ post) (some i) (some j) = mid := by
  rw [cutD_le (by omega) (by omega) (by simp; omega) (by simp; omega)]
  have h1 : i.toNat = pre.length := by omega
  have h2 : j.toNat - i.toNat = mid.length := by omega
  rw [h2, h1]
  simp
/-! ### loops over what a list stands for -/
section
variable {α : Type} {f : α → D} {chk : M → Prop} {g : MG} {mb : MS} {nx : En → M → Prop} {rt : D → M → Prop} {bk ct : En → M → Prop} {ex : Str → List Str → List D → En → M → Prop}
theorem floop_map {xs : List α} {env : En} {h : M} (I : List α → En → M → Prop) (h0 : I [] env h) (ck : ∀ p env h, p <+: xs → I p env h → chk h)
    (step : ∀ p x q env h, xs = p ++ x :: q → I p env h → @Wc En (g (f x) env h) ⟨fun env h => @Ws (mb env h) ⟨I (p ++ [x]), rt, nx, I (p ++ [x]), ex⟩, fun x ns vs h => ex x ns vs env h⟩) (fin : ∀ env h, I xs env h → nx env h) :
    @Ws (floop chk g mb (xs.map f) env h) ⟨nx, rt, bk, ct, ex⟩ := by
  refine floop_inv (fun i => I (xs.take i)) (by simpa using h0) (fun i env h _ p => ck _ _ _ (List.take_prefix _ _) p) (fun i d env h e p => ?_) (fun env h p => fin _ _ (by simpa using p))
  rw [List.getElem?_map, Option.map_eq_some_iff] at e
  obtain ⟨x, ex, rfl⟩ := e
  have hlt : i < xs.length := (List.getElem?_eq_some_iff.mp ex).1
  have hx : xs[i] = x := (List.getElem?_eq_some_iff.mp ex).2
  have e1 : xs = xs.take i ++ x :: xs.drop (i + 1) := by
    conv => lhs; rw [← List.take_append_drop i xs, List.drop_eq_getElem_cons hlt, hx]
  have e2 : xs.take (i + 1) = xs.take i ++ [x] := by rw [List.take_succ, ex]; rfl
  have := step (xs.take i) x (xs.drop (i + 1)) env h e1 p
  rw [← e2] at this
  exact this
theorem lcloop_map {Q : D → M → Prop} {X : XP} {xs : List α} {env : En} {tt : MT} {me : ME} {l : Nat} {h : M} (I : List α → List D → M → Prop) (h0 : I [] [] h) (ck : ∀ p acc h, p <+: xs → I p acc h → chk h)
    (step : ∀ p x q acc h, xs = p ++ x :: q → I p acc h → @Wc En (g (f x) env h) ⟨fun env2 h => @Wc Bool (tt env2 h) ⟨fun b h => if b = true then @Wc D (me env2 h) ⟨fun y h => h[l]? = some (.lst acc) ∧ acc.length < sizeLine ∧ I (p ++ [x]) (acc ++ [y]) (h.set l (.lst (acc ++ [y]))), noEx⟩ else I (p ++ [x]) acc h, noEx⟩, noEx⟩)
    (fin : ∀ acc h, I xs acc h → Q (.loc l) h) : @Wc D (lcloopN chk env g tt me l (xs.map f) h) ⟨Q, X⟩ := by
  refine lcloop_inv (fun i => I (xs.take i)) (by simpa using h0) (fun i acc h _ p => ck _ _ _ (List.take_prefix _ _) p) (fun i d acc h e p => ?_) (fun acc h p => fin _ _ (by simpa using p))
  rw [List.getElem?_map, Option.map_eq_some_iff] at e
  obtain ⟨x, ex, rfl⟩ := e
  have hlt : i < xs.length := (List.getElem?_eq_some_iff.mp ex).1
  have hx : xs[i] = x := (List.getElem?_eq_some_iff.mp ex).2
  have e1 : xs = xs.take i ++ x :: xs.drop (i + 1) := by
    conv => lhs; rw [← List.take_append_drop i xs, List.drop_eq_getElem_cons hlt, hx]
  have e2 : xs.take (i + 1) = xs.take i ++ [x] := by rw [List.take_succ, ex]; rfl
  have := step (xs.take i) x (xs.drop (i + 1)) acc h e1 p
  rw [← e2] at this
  exact this
end
end LF
set_option Elab.async false
set_option linter.all false
set_option maxRecDepth 100000
set_option maxHeartbeats 4000000
/-! LFS: the logic of texts, of raise and try. -/
namespace LF
open PySem PySem.Spec L2
open PyProof.Rows hiding St
/-- a text by its signs -/
def T (l : List Nat) : Str := ⟨l.toArray⟩
theorem T_S (l : List Nat) : T l = SX.S l := rfl
@[simp] theorem T_inj {a b : List Nat} : (T a = T b) = (a = b) := propext ⟨fun h => congrArg (fun x : Str => x.cps.toList) h, fun h => by rw [h]⟩
@[simp] theorem T_len (a : List Nat) : (T a).length = a.length := SX.S_len a
@[simp] theorem T_cat (a b : List Nat) : T a ++ T b = T (a ++ b) := SX.S_cat a b
@[simp] theorem T_cps (a : List Nat) : (T a).cps.toList = a := by simp [T]
theorem T_of (x : Str) : T x.cps.toList = x := SX.S_tl x
section
variable {Q : D → M → Prop} {QE : En → M → Prop} {X : XP} {env : En} {h : M} {nx : En → M → Prop} {rt : D → M → Prop} {bk ct : En → M → Prop} {ex : Str → List Str → List D → En → M → Prop} {a b l : List Nat} {i j : Int} {c : Nat}
@[simp] theorem v_ixTx : fIx (.str (T l)) (.int i) h = if l.length ≤ sizeLine then match atI l i with | some c => .ok (.str (T [c])) h | none => .stuck else .stuck := by
  simp only [fIx, T_len, T_cps]; rfl
@[simp] theorem v_lenTx : fLen [.str (T l)] h = if l.length ≤ sizeLine then .ok (.int l.length) h else .stuck := by
  simp only [fLen, lenD, T_len]; split <;> rename_i e <;> split at e <;> simp_all
@[simp] theorem v_addTx : fAdd (.str (T a)) (.str (T b)) h = if a.length + b.length ≤ sizeLine then .ok (.str (T (a ++ b))) h else .stuck := by
  simp only [fAdd, T_len, T_cat]
def cutN (l : List Nat) (lo hi : Option Int) : List Nat := (l.drop (HT.sIx l.length 0 lo)).take (HT.sIx l.length l.length hi - HT.sIx l.length 0 lo)
@[simp] theorem v_slTx {lo hi : Option Int} : fSl (.str (T l)) lo hi h = if l.length ≤ sizeLine then .ok (.str (T (cutN l lo hi))) h else .stuck := by
  simp only [fSl, T_len, cutS, T_cps]; rfl
theorem cutN_to (h0 : 0 ≤ i) : cutN l none (some i) = l.take i.toNat := by
  unfold cutN
  rw [show HT.sIx l.length 0 none = 0 from rfl, sIx_of h0, Nat.sub_zero, List.drop_zero]
  by_cases hl : i.toNat ≤ l.length
  · rw [Nat.min_eq_left hl]
  · rw [Nat.min_eq_right (by omega), List.take_of_length_le (Nat.le_refl _), List.take_of_length_le (by omega)]
theorem cutN_from (h0 : 0 ≤ i) : cutN l (some i) none = l.drop i.toNat := by
  unfold cutN
  rw [show HT.sIx l.length l.length none = l.length from rfl, sIx_of h0]
  by_cases hl : i.toNat ≤ l.length
  · rw [Nat.min_eq_left hl, List.take_of_length_le (by simp)]
  · rw [Nat.min_eq_right (by omega)]
    rw [List.drop_eq_nil_of_le (Nat.le_refl _), List.drop_eq_nil_of_le (by omega)]; simp
@[simp] theorem v_itTx : itOf (.str (T l)) h = .ok ⟨l.map fun c => .str (T [c]), fun _ => True⟩ h := by
  show Res.ok (Itr'.mk _ _) h = _
  rw [T_cps]; rfl
@[simp] theorem v_sltI : fSLt (.int i) (.int j) h = .ok (.bl (decide (i < j))) h := (rfl)
@[simp] theorem v_sltT : fSLt (.str (T a)) (.str (T b)) h = .ok (.bl (decide (a < b))) h := by
  show Res.ok (D.bl (decide ((T a).cps.toList < (T b).cps.toList))) h = _
  rw [T_cps, T_cps]
@[simp] theorem v_eqTx : fEq (.str (T a)) (.str (T b)) h = .ok (.bl (decide (a = b))) h := by
  rw [v_eqS]; simp only [T_inj]
@[simp] theorem v_neTx : fNe (.str (T a)) (.str (T b)) h = .ok (.bl (!decide (a = b))) h := by
  rw [v_neS]; simp only [T_inj]
@[simp] theorem v_eqB {x y : Bool} : fEq (.bl x) (.bl y) h = .ok (.bl (decide (x = y))) h := (rfl)
@[simp] theorem v_neB {x y : Bool} : fNe (.bl x) (.bl y) h = .ok (.bl (!decide (x = y))) h := (rfl)
theorem inD_one : inD h (.str (T [c])) (.str (T l)) = some (decide (c ∈ l)) := by
  show some (!(Builtin.Str.occurrences (T l) (T [c]) 0 (T l).length 1).isEmpty) = _
  rw [show (!(Builtin.Str.occurrences (T l) (T [c]) 0 (T l).length 1).isEmpty) = decide (c ∈ l) from SX.in_one l c]
@[simp] theorem v_inTx : fIn (.str (T [c])) (.str (T l)) h = .ok (.bl (decide (c ∈ l))) h := by
  show (match inD h (.str (T [c])) (.str (T l)) with | some b => Res.ok (D.bl (if false = true then !b else b)) h | none => .stuck) = _
  rw [inD_one]; rfl
@[simp] theorem v_ninTx : fNotIn (.str (T [c])) (.str (T l)) h = .ok (.bl (!decide (c ∈ l))) h := by
  show (match inD h (.str (T [c])) (.str (T l)) with | some b => Res.ok (D.bl (if true = true then !b else b)) h | none => .stuck) = _
  rw [inD_one]; rfl
@[simp] theorem v_mulXI {y : D} : fMulX (.int i) y h = fMul (.int i) y h := (rfl)
@[simp] theorem v_mulXL {k : Nat} {y : D} : fMulX (.loc k) y h = fMul (.loc k) y h := (rfl)
theorem foldl_app (n : Nat) (l : List Nat) (acc : Array Nat) : ((List.replicate n l.toArray).foldl (· ++ ·) acc).toList = acc.toList ++ (List.replicate n l).flatten := by
  induction n generalizing acc with
  | zero => simp
  | succ n ih => rw [List.replicate_succ, List.foldl_cons, ih, List.replicate_succ, List.flatten_cons]; simp
theorem mul_T (h0 : 0 ≤ i) : Txt.mul (T l) i = T (List.replicate i.toNat l).flatten := by
  unfold Txt.mul
  split
  · have : i = 0 := by omega
    subst this; rfl
  · split
    · rename_i h1 h2
      simp only [Bool.or_eq_true, beq_iff_eq, T_len] at h2
      rcases h2 with h2 | h2
      · subst h2; simp
      · have : l = [] := List.eq_nil_of_length_eq_zero h2
        subst this; simp
    · apply congrArg Str.mk
      apply Array.ext'
      have := foldl_app i.toNat l #[]
      simpa [T] using this
theorem mulOk {x : Str} (h0 : x.length ≤ 4096) (h1 : -4096 ≤ i) (h2 : i ≤ 4096) : MulOk x i := by
  refine ⟨by simp; omega, fun h3 _ => ?_, fun h3 _ => ?_⟩
  · have h4 : (2 ^ 63 - 1) / 4096 ≤ (2 ^ 63 - 1 : Int) / i := Int.le_ediv_of_mul_le (by omega) (by
      have : ((2 ^ 63 - 1) / 4096 : Int) * i ≤ ((2 ^ 63 - 1) / 4096) * 4096 := Int.mul_le_mul_of_nonneg_left h2 (by decide)
      exact Int.le_trans this (by decide))
    have h5 : ((2 ^ 63 - 1) / 4096 : Int) = 2251799813685247 := by decide
    omega
  · have : x.length * i.toNat ≤ 4096 * 4096 := Nat.mul_le_mul h0 (by omega)
    show decide (_ > _) = false
    exact decide_eq_false (by have h6 : x.length * i.toNat ≤ 16777216 := this; rw [show sizeLine = 16777216 from rfl]; omega)
@[simp] theorem v_mulXT : fMulX (.str (T l)) (.int i) h = if MulOk (T l) i then .ok (.str (Txt.mul (T l) i)) h else .stuck := (rfl)
theorem strsD_map {α : Type} {f : α → List Nat} : ∀ xs : List α, strsD (xs.map fun x => .str (T (f x))) = some (xs.map fun x => T (f x))
  | [] => rfl
  | x :: xs => by simp only [List.map_cons, strsD, strsD_map xs]; rfl
theorem join_T (a : List Nat) (ys : List (List Nat)) : Txt.join (T a) (ys.map T) = T (TL.joinL a ys) := SX.join_S a ys
@[simp] theorem v_rev {k : Nat} : fReverse (.loc k) [] h = match h[k]? with | some (.lst ys) => .ok .non (h.set k (.lst ys.reverse)) | _ => .stuck := (rfl)
@[simp] theorem v_ins {k : Nat} {y : D} : fInsert (.loc k) [.int i, y] h = match h[k]? with | some (.lst ys) => if ys.length < sizeLine ∧ 0 ≤ i ∧ i < 2 ^ 63 then .ok .non (h.set k (.lst (ys.take i.toNat ++ [y] ++ ys.drop i.toNat))) else .stuck | _ => .stuck := (rfl)
/-! ### raise, try -/
@[simp] theorem ws_raise {x : Str} {fs : List Str} {mas : MA} : @Ws (mRaise x fs mas env h) ⟨nx, rt, bk, ct, ex⟩ = @Wc (List D) (mas env h) ⟨fun ds h => ds.length = fs.length ∧ ex x fs.reverse ds.reverse env h, fun x ns vs h => ex x ns vs env h⟩ := by
  unfold mRaise; rw [ws_of]
  exact wc_eq fun ds h => by
    split
    · rename_i e; rw [ws_exc]; simp [e]
    · rename_i e; rw [ws_stuck]; simp [e]
theorem ws_after {r : SR} {i : Nat} : @Ws (afterX i r) ⟨nx, rt, bk, ct, ex⟩ = @Ws r ⟨fun e h => calmE (e.set i .no) = true ∧ nx (e.set i .no) h, rt, fun e h => calmE (e.set i .no) = true ∧ bk (e.set i .no) h, fun e h => calmE (e.set i .no) = true ∧ ct (e.set i .no) h, fun _ _ _ _ _ => False⟩ := by
  cases r with
  | nx e h => simp only [afterX, ws_nx]; split <;> rename_i c <;> simp [c]
  | bk e h => simp only [afterX, ws_bk]; split <;> rename_i c <;> simp [c]
  | ct e h => simp only [afterX, ws_ct]; split <;> rename_i c <;> simp [c]
  | rt d h => rfl
  | exc => rfl
  | stuck => rfl
@[simp] theorem ws_tryAs {tk : List ((Str × Str) × Bool)} {c : Str} {i : Nat} {mb : MS} {ms : Str → List Str → List D → MS} : @Ws (mTryAs tk c i mb ms env h) ⟨nx, rt, bk, ct, ex⟩ =
    @Ws (mb env h) ⟨nx, rt, bk, ct, fun x ns xs e h => match lookT tk (x, c) with
      | some true => @Ws (ms x ns xs (e.set i .ex) h) ⟨fun e h => calmE (e.set i .no) = true ∧ nx (e.set i .no) h, rt, fun e h => calmE (e.set i .no) = true ∧ bk (e.set i .no) h, fun e h => calmE (e.set i .no) = true ∧ ct (e.set i .no) h, fun _ _ _ _ _ => False⟩
      | some false => ex x ns xs e h
      | none => False⟩ := by
  unfold mTryAs
  cases e : mb env h with
  | exc x ns xs e1 h1 =>
    simp only [ws_exc]
    cases lookT tk (x, c) with
    | none => rfl
    | some b => cases b with
      | false => rfl
      | true => exact ws_after
  | _ => rfl
@[simp] theorem wp_isX {nm : List Str} {tk : List ((Str × Str) × Bool)} {tt : List ((Str × String) × Bool)} {x : Str} {i : Nat} {mc : ME} : @Wc D (mIsX nm tk tt x i mc env h) ⟨Q, X⟩ =
    match env[i]? with
    | some .ex => x ∈ nm ∧ @Wc D (mc env h) ⟨fun d h => @Wc D (fIsX tk tt x d h) ⟨Q, X⟩, X⟩
    | _ => False := by
  unfold mIsX
  cases e : env[i]? with
  | none => rfl
  | some s => cases s with
    | ex => show @Wc D (if x ∈ nm then _ else _) ⟨Q, X⟩ = _; rw [wp_guard, wp_bind]
    | _ => rfl
@[simp] theorem v_xf {ft : List (Str × Str)} {x : Str} {ns : List Str} {xs : List D} {i : Nat} {f : Str} : mXf ft x ns xs i f env h = match env[i]? with
  | some .ex => if (x, f) ∈ ft then match lookT (ns.zip xs) f with | some d => .ok d h | none => .stuck else .stuck
  | _ => .stuck := (rfl)
@[simp] theorem wp_chain {f f' : D → D → M → Res D} {ma mb mc : ME} : @Wc D (mChain f f' ma mb mc env h) ⟨Q, X⟩ = @Wc D (ma env h) ⟨fun x h1 => @Wc D (mb env h1) ⟨fun y h2 => @Wc D (f x y h2) ⟨fun z h3 => @Wc Bool (asB z h3) ⟨fun t h3 => if t = true then @Wc D (mc env h3) ⟨fun u h4 => @Wc D (f' y u h4) ⟨Q, X⟩, X⟩ else Q (.bl false) h3, X⟩, X⟩, X⟩, X⟩ := by
  unfold mChain
  rw [wp_bind]; exact wc_eq fun _ _ => by
    rw [wp_bind]; exact wc_eq fun _ _ => by
      rw [wp_bind]; exact wc_eq fun _ _ => by
        rw [wp_bind]; exact wc_eq fun t _ => by cases t <;> simp
/-- what is between two statements -/
theorem Ws.cut {r : SR} (Mid : En → M → Prop) (h1 : @Ws r ⟨Mid, rt, bk, ct, ex⟩) (h2 : ∀ e m, Mid e m → nx e m) : @Ws r ⟨nx, rt, bk, ct, ex⟩ := Ws.mono h1 h2 (fun _ _ z => z) (fun _ _ z => z) (fun _ _ z => z) fun _ _ _ _ _ z => z
end
end LF
set_option Elab.async false
set_option linter.all false
set_option maxRecDepth 100000
set_option maxHeartbeats 4000000
/-! LFD: tables of the written part, zip, enumerate, index. -/
namespace LF
open PySem PySem.Spec L2
open PyProof.Rows hiding St
/-! ### values of the written part -/
mutual
def ckV (K : PySem.W.Frag) : D → Value → Bool
  | .non, .none => true
  | .bl b, .bool c => b == c
  | .int i, .int j _ => decide (i = j)
  | .str x, .str y _ => decide (x = y)
  | .ct xs, .ref a => match K.lookup a with
    | some ⟨.type "tuple", none, .seq its _, _⟩ => decide (its.size ≤ sizeLine) && ckVs K xs its.toList
    | _ => false
  | _, _ => false
def ckVs (K : PySem.W.Frag) : List D → List Value → Bool
  | [], [] => true
  | d :: ds, v :: vs => ckV K d v && ckVs K ds vs
  | _, _ => false
end
section
variable {K : PySem.W.Frag} {mg : Str → Option Value}
mutual
theorem ckV_ok : ∀ (d : D) (u : Value), ckV K d u = true → ∃ v, RelV v u ∧ ∀ ι H, RV ⟨K, mg⟩ ι H d v
  | .non, u, h => by
    cases u <;> simp only [ckV, Bool.false_eq_true] at h
    exact ⟨.non, rfl, fun _ _ => by simp [RV]⟩
  | .bl b, u, h => by
    cases u <;> simp only [ckV, Bool.false_eq_true] at h
    simp only [beq_iff_eq] at h; subst h
    exact ⟨.bl b, rfl, fun _ _ => by simp [RV]⟩
  | .int i, u, h => by
    cases u <;> simp only [ckV, Bool.false_eq_true] at h
    simp only [decide_eq_true_eq] at h; subst h
    exact ⟨.int i, ⟨_, rfl⟩, fun _ _ => by simp [RV]⟩
  | .str x, u, h => by
    cases u <;> simp only [ckV, Bool.false_eq_true] at h
    simp only [decide_eq_true_eq] at h; subst h
    exact ⟨.str x, ⟨_, rfl⟩, fun _ _ => by simp [RV]⟩
  | .ct xs, u, h => by
    cases u <;> simp only [ckV, Bool.false_eq_true] at h
    rename_i a
    split at h
    · rename_i its n sl e
      simp only [Bool.and_eq_true, decide_eq_true_eq] at h
      obtain ⟨vs, r, k⟩ := ckVs_ok xs its.toList h.2
      refine ⟨.ref a, rfl, fun ι H => ?_⟩
      simp only [RV]
      exact ⟨a, vs, rfl, ⟨_, its, n, e, rfl, rfl, h.1, r⟩, k ι H⟩
    · cases h
  | .tup _, u, h => by cases u <;> simp only [ckV, Bool.false_eq_true] at h
  | .cl _, u, h => by cases u <;> simp only [ckV, Bool.false_eq_true] at h
  | .loc _, u, h => by cases u <;> simp only [ckV, Bool.false_eq_true] at h
  | .ty _, u, h => by cases u <;> simp only [ckV, Bool.false_eq_true] at h
  | .cls _, u, h => by cases u <;> simp only [ckV, Bool.false_eq_true] at h
theorem ckVs_ok : ∀ (ds : List D) (us : List Value), ckVs K ds us = true → ∃ vs, Vals vs us ∧ ∀ ι H, RVs ⟨K, mg⟩ ι H ds vs
  | [], [], _ => ⟨[], .nil, fun _ _ => by simp [RVs]⟩
  | d :: ds, u :: us, h => by
    simp only [ckVs, Bool.and_eq_true] at h
    obtain ⟨v, r, k⟩ := ckV_ok d u h.1
    obtain ⟨vs, rs, ks⟩ := ckVs_ok ds us h.2
    exact ⟨v :: vs, .cons r rs, fun ι H => RVs.cons (k ι H) (ks ι H)⟩
  | [], _ :: _, h => by simp [ckVs] at h
  | _ :: _, [], h => by simp [ckVs] at h
end
/-- a tuple of the written part under a name -/
structure GCT (K : PySem.W.Frag) (mg : Str → Option Value) (x : Str) (xs : List D) : Prop where
  ex : ∃ p, mg x = some (.ref p) ∧ (∃ o, K.lookup p = some o ∧ o.cls = .type "tuple" ∧ o.dict = none) ∧ ∀ ι H, RV ⟨K, mg⟩ ι H (.ct xs) (.ref p)
theorem gct {x : Str} {p : Addr} {xs : List D} (hm : mg x = some (.ref p)) (h : ckV K (.ct xs) (.ref p) = true) : GCT K mg x xs := by
  obtain ⟨v, r, k⟩ := ckV_ok (mg := mg) _ _ h
  have z := k [] (fun _ => none)
  simp only [RV] at z
  obtain ⟨a, vs, rfl, _⟩ := z
  have r' : Value.ref p = Value.ref a := r
  cases r'
  refine ⟨p, hm, ?_, k⟩
  simp only [ckV] at h
  split at h
  · rename_i e
    exact ⟨_, e, rfl, rfl⟩
  · cases h
/-! ### dicts of the written part -/
def ckE (K : PySem.W.Frag) : List DictEntry → List (Str × D) → Bool
  | [], [] => true
  | e :: es, (k, d) :: kvs => e.key.isStr k && ckV K d e.val && ckE K es kvs
  | _, _ => false
def KLk (K : PySem.W.Frag) (w : World) (a : Addr) (z : Str) (r : Option Value) : Prop :=
  ∃ es n, K.lookup a = some ⟨.type "dict", none, .dict es n, #[]⟩ ∧ PySem.W.KeysLit w.params es.toList ∧ findBy Value.isStrOf es z = r
structure CDT (K : PySem.W.Frag) (mg : Str → Option Value) (w : World) (x : Str) (kvs : List (Str × D)) : Prop where
  ex : ∃ p, mg x = some (.ref p) ∧ (p == sysModules) = false ∧ ∀ z, (∀ d, valD kvs z = some d → ∃ u v, KLk K w p z (some u) ∧ L2.RelV v u ∧ ∀ ι H, RV ⟨K, mg⟩ ι H d v) ∧ (valD kvs z = none → KLk K w p z none)
theorem isStr_key {v : Value} {k : Str} (h : v.isStr k = true) : ∃ t, v = .str k t := by
  cases v <;> simp [Value.isStr] at h
  subst h; exact ⟨_, rfl⟩
theorem ckE_ok (z : Str) : ∀ (es : List DictEntry) (kvs : List (Str × D)), ckE K es kvs = true →
    (∀ d, valD kvs z = some d → ∃ e, es.find? (fun e => Value.isStrOf z e.key) = some e ∧ ckV K d e.val = true) ∧ (valD kvs z = none → es.find? (fun e => Value.isStrOf z e.key) = none)
  | [], [], _ => ⟨fun d e => by simp [valD] at e, fun _ => rfl⟩
  | e :: es, (k, d) :: kvs, h => by
    simp only [ckE, Bool.and_eq_true] at h
    have ih := ckE_ok z es kvs h.2
    by_cases hk : k = z
    · subst hk
      have e1 : valD ((k, d) :: kvs) k = some d := by simp [valD, List.find?_cons]
      have e2 : Value.isStrOf k e.key = true := by rw [← PySem.W.isStr_of]; exact h.1.1
      rw [e1]
      refine ⟨fun d' q => ?_, fun q => by cases q⟩
      cases q
      exact ⟨e, by rw [List.find?_cons, e2], h.1.2⟩
    · have e1 : valD ((k, d) :: kvs) z = valD kvs z := by simp [valD, List.find?_cons, hk]
      have e2 : Value.isStrOf z e.key = false := by
        obtain ⟨t, et⟩ := isStr_key h.1.1
        rw [← PySem.W.isStr_of, et]
        simp [Value.isStr, hk]
      rw [e1, List.find?_cons, e2]
      exact ih
  | [], _ :: _, h => by simp [ckE] at h
  | _ :: _, [], h => by simp [ckE] at h
theorem cdt_mk {w : World} {x : Str} {p : Addr} {es : Array DictEntry} {n : Nat} {kvs : List (Str × D)} (hm : mg x = some (.ref p)) (hs : (p == sysModules) = false) (hl : K.lookup p = some ⟨.type "dict", none, .dict es n, #[]⟩) (hk : PySem.W.KeysLit w.params es.toList) (h : ckE K es.toList kvs = true) : CDT K mg w x kvs := by
  refine ⟨p, hm, hs, fun z => ?_⟩
  have c := ckE_ok z es.toList kvs h
  have hf : ∀ r, es.toList.find? (fun e => Value.isStrOf z e.key) = r → findBy Value.isStrOf es z = r.map (·.val) := fun r e => by
    unfold findBy
    rw [← e, ← Array.find?_toList]
  refine ⟨fun d e => ?_, fun e => ⟨es, n, hl, hk, by rw [hf none (c.2 e)]; rfl⟩⟩
  obtain ⟨en, e1, e2⟩ := c.1 d e
  obtain ⟨v, r, k⟩ := ckV_ok (mg := mg) d en.val e2
  exact ⟨en.val, v, ⟨es, n, hl, hk, by rw [hf _ e1]; rfl⟩, r, k⟩
end
section
variable {X : Cx} {W : WX} {ex : Ex} {e a b i o : Expr} {es : List Expr} {ma mb mc : ME} {mas : MA} {pos p : Pos} {x : Str} {kvs : List (Str × D)}
def fKd (kvs : List (Str × D)) (d : D) (h : M) : Res D := match d with
  | .str z => match valD kvs z with | some r => .ok r h | none => .stuck
  | _ => .stuck
theorem ix_klk : IxR X (fun x y H Q => ∃ p z u r, x = .ref p ∧ y = .str z ∧ KLk X.K X.w p z (some u) ∧ L2.RelV r u ∧ Q r H) := by
  intro value slice pins s σ H x y v u Q I rx ry h hs
  obtain ⟨p, z, u0, r, rfl, rfl, ⟨es, n, hl, hk, e⟩, ru, q⟩ := h
  obtain rfl : v = Value.ref p := rx
  obtain ⟨t, rfl⟩ := ry
  have hm := PySem.W.mapOf_K (prog := X.prog) (w := X.w) I.kIn hl hk
  exact tail_any hm.typeIs slot_dict_getitem.lookup (wpAny_getItem_of (strKind_is X.prog X.w z t) hm e ⟨r, H, I.tok _, ru, q⟩) hs
theorem fe_kix (T : CDT X.K X.mg X.w x kvs) (hb : FE X W ex b mb) (hg : Gl X x := by rfl) (hd : (x == ("__debug__" : Str)) = false := by decide) (hs : PlainIx b := by exact fun _ _ => rfl) : FE X W ex (.Subscript (.Name x p) b pos) (m1 (fKd kvs) mb) := by
  obtain ⟨pa, hm, hsys, hz⟩ := T.ex
  refine PE.imp (pe_ix ix_klk (pe_glob hg hm (v := .ref pa) rfl hd) hb hs) fun σ H Q q => ?_
  obtain ⟨ι, h, env, rel, re, po⟩ := q
  refine ⟨ι, h, env, rel, re, post_bind po fun d h1 ι1 H1 v eq p k rel1 rv po1 => ?_⟩
  unfold fKd at po1
  split at po1
  case h_2 => exact po1.elim
  rename_i z
  split at po1
  case h_2 => exact po1.elim
  rename_i r er
  obtain ⟨u, w, lk, ru, rw'⟩ := (hz z).1 r er
  simp only [RV] at rv
  subst rv
  exact ⟨pa, z, u, w, rfl, rfl, lk, ru, po_ok rel1 (rw' _ _) po1⟩
def fKin (neg : Bool) (kvs : List (Str × D)) (d : D) (h : M) : Res D := match d with
  | .str z => .ok (.bl (if neg then !(valD kvs z).isSome else (valD kvs z).isSome)) h
  | _ => .stuck
def rKin (K : PySem.W.Frag) (w : World) (neg : Bool) : R2 := fun x y H Q => ∃ p z r, y = .ref p ∧ x = .str z ∧ (p == sysModules) = false ∧ KLk K w p z r ∧ Q (.bl (if neg then !r.isSome else r.isSome)) H
theorem op_kin : OpR X (compareOp .In) (rKin X.K X.w false) := by
  intro pins s σ H x y v u Q I rx ry h
  obtain ⟨p, z, r, rfl, rfl, hsys, ⟨es, n, hl, hk, e⟩, q⟩ := h
  obtain rfl : u = Value.ref p := ry
  obtain ⟨t, rfl⟩ := rx
  have hm := PySem.W.mapOf_K (prog := X.prog) (w := X.w) I.kIn hl hk
  exact wpAny_in_of (strKind_is X.prog X.w z t) hsys hm ⟨.bl _, H, I.tok _, by rw [e]; rfl, q⟩
theorem op_knin : OpR X (compareOp .NotIn) (rKin X.K X.w true) := by
  intro pins s σ H x y v u Q I rx ry h
  obtain ⟨p, z, r, rfl, rfl, hsys, ⟨es, n, hl, hk, e⟩, q⟩ := h
  obtain rfl : u = Value.ref p := ry
  obtain ⟨t, rfl⟩ := rx
  have hm := PySem.W.mapOf_K (prog := X.prog) (w := X.w) I.kIn hl hk
  exact wpAny_notIn_of (strKind_is X.prog X.w z t) hsys hm ⟨.bl _, H, I.tok _, by rw [e]; rfl, q⟩
theorem fc_kinN {op : CmpOp} {neg : Bool} (ho : OpR X (compareOp op) (rKin X.K X.w neg)) (T : CDT X.K X.mg X.w x kvs) (ha : FE X W ex a ma) (hg : Gl X x := by rfl) (hd : (x == ("__debug__" : Str)) = false := by decide) : FC X W ex op a (.Name x p) (m1 (fKin neg kvs) ma) := by
  obtain ⟨pa, hm, hsys, hz⟩ := T.ex
  refine PC.imp (pc_of ho ha (pe_glob hg hm (v := .ref pa) rfl hd)) fun σ H Q q => ?_
  obtain ⟨ι, h, env, rel, re, po⟩ := q
  refine ⟨ι, h, env, rel, re, post_bind po fun d h1 ι1 H1 v eq p k rel1 rv po1 => ?_⟩
  unfold fKin at po1
  split at po1
  case h_2 => exact po1.elim
  rename_i z
  simp only [RV] at rv
  subst rv
  have fin := po_ok (v := V.bl (if neg then !(valD kvs z).isSome else (valD kvs z).isSome)) rel1 (by simp [RV]) po1
  cases er : valD kvs z with
  | none =>
    rw [er] at fin
    exact ⟨pa, z, none, rfl, rfl, hsys, (hz z).2 er, fin⟩
  | some r =>
    rw [er] at fin
    obtain ⟨u, w, lk, ru, rw'⟩ := (hz z).1 r er
    exact ⟨pa, z, some u, rfl, rfl, hsys, lk, fin⟩
theorem fc_kin (T : CDT X.K X.mg X.w x kvs) (ha : FE X W ex a ma) (hg : Gl X x := by rfl) (hd : (x == ("__debug__" : Str)) = false := by decide) : FC X W ex .In a (.Name x p) (m1 (fKin false kvs) ma) := fc_kinN op_kin T ha hg hd
theorem fc_knin (T : CDT X.K X.mg X.w x kvs) (ha : FE X W ex a ma) (hg : Gl X x := by rfl) (hd : (x == ("__debug__" : Str)) = false := by decide) : FC X W ex .NotIn a (.Name x p) (m1 (fKin true kvs) ma) := fc_kinN op_knin T ha hg hd
/-- a tuple of the written part -/
theorem fe_gct {xs : List D} (T : GCT X.K X.mg x xs) (hg : Gl X x := by rfl) (hd : (x == ("__debug__" : Str)) = false := by decide) : FE X W ex (.Name x pos) (mC (.ct xs)) :=
  let ⟨_, hm, _, r⟩ := T.ex; fe_gref hm r hg hd
/-! ### zip, enumerate -/
def prs (xs ys : List D) : List D := (xs.zip ys).map fun p => .tup [p.1, p.2]
def fZip (ds : List D) (h : M) : Res Itr' := match ds with
  | [x, y] => match tupOf x, tupOf y with
    | some xs, some ys => .ok ⟨prs xs ys, fun _ => True⟩ h
    | _, _ => match lstOf h x, lstOf h y with
      | some xs, some ys => .ok ⟨prs xs ys, fun h' => lstOf h' x = some xs ∧ lstOf h' y = some ys⟩ h
      | _, _ => .stuck
  | _ => .stuck
def mZip (mas : MA) : MI := fun env h => (mas env h).bind fZip
theorem pair_rv {G : Wo} {ι : List Addr} {H : Hp} {T : Addr} {x y : V} {c d : D} (hT : H T = none) (r1 : RV G ι H c x) (r2 : RV G ι H d y) : RV G ι (upd H T (.tup [x, y])) (.tup [c, d]) (.ref T) := by
  have k : Keep H (upd H T (.tup [x, y])) := Keep.of_same (same_upd hT)
  simp only [RV]
  exact ⟨T, _, rfl, upd_same, RVs.mono (List.prefix_refl _) k _ _ (RVs.cons r1 (RVs.cons r2 RVs.nil))⟩
theorem prs_at {xs ys : List D} {i : Nat} {d : D} (h : (prs xs ys)[i]? = some d) : ∃ a b, xs[i]? = some a ∧ ys[i]? = some b ∧ d = .tup [a, b] := by
  simp only [prs, List.getElem?_map, Option.map_eq_some_iff] at h
  obtain ⟨⟨a, b⟩, e, rfl⟩ := h
  rw [List.getElem?_zip_eq_some] at e
  exact ⟨a, b, e.1, e.2, rfl⟩
theorem fi_zip {elts : List Expr} {kk : Nat} {tpos : Pos} {p : Pos} (hm : X.mg "zip" = none) (hs : FA X W ex [a, b] mas) (hg : Gl X "zip" := by rfl) (hst : starEach [a, b] X.env = (false, eval a X.env) :: starEach [b] X.env := by rfl) (hpl : (backTo pos (starEach [b] X.env)).any (·.1) = false := by rfl) :
    FI X W ex (.Tuple elts kk tpos) (.Call (.Name "zip" p) [a, b] [] pos) (mZip mas) := by
  refine PI.imp (RZ.pi_zipA hg hm hs hst hpl) fun σ H R q => ?_
  obtain ⟨ι, h, env, rel, re, po⟩ := q
  refine ⟨ι, h, env, rel, re, post_bind po fun ds h1 ι1 H1 vs eq1 p1 k1 rel1 rv1 po1 => ?_⟩
  unfold fZip at po1
  split at po1
  case h_2 => exact po1.elim
  rename_i x y
  obtain ⟨v, u, rfl, r1, r2⟩ := rv1.eq2
  split at po1
  · rename_i xs ys e1 e2
    obtain ⟨pa, ws, rfl, s1, q1⟩ := tupOf_sq r1 e1
    obtain ⟨pb, zs, rfl, s2, q2⟩ := tupOf_sq r2 e2
    refine ⟨pa, pb, ws, zs, rfl, .inr ⟨s1, s2, po_ok rel1 ?_ po1⟩⟩
    intro i ι H h p k rel _
    have t1 := k.tup s1
    have t2 := k.tup s2
    have g1 := RVs.mono p k _ _ q1
    have g2 := RVs.mono p k _ _ q2
    refine ⟨fun d ed => ?_, fun hi => ⟨ws, zs, t1, t2, ?_⟩⟩
    · obtain ⟨c, d', ec, ed', rfl⟩ := prs_at ed
      obtain ⟨v, ev, rv⟩ := g1.get ec
      obtain ⟨u, eu, ru⟩ := g2.get ed'
      refine ⟨⟨ws, zs, v, u, t1, t2, ev, eu⟩, fun xx H' hy => ?_⟩
      obtain ⟨T, x', y', rfl, hT, rfl, h1, h2⟩ := hy
      have z1 := h1 ws t1
      have z2 := h2 zs t2
      rw [ev] at z1; cases z1
      rw [eu] at z2; cases z2
      exact ⟨same_upd hT, pair_rv hT rv ru⟩
    · have l1 := RVs.length g1
      have l2 := RVs.length g2
      simp [prs] at hi
      omega
  · split at po1
    case h_2 => exact po1.elim
    rename_i xs ys e1 e2
    obtain ⟨pa, ws, rfl, s1, q1⟩ := lstOf_sq rel1 r1 e1
    obtain ⟨pb, zs, rfl, s2, q2⟩ := lstOf_sq rel1 r2 e2
    refine ⟨pa, pb, ws, zs, rfl, .inl ⟨s1, s2, po_ok rel1 ?_ po1⟩⟩
    intro i ι H h p k rel ck
    obtain ⟨pa', ws', ea', t1, g1⟩ := lstOf_sq rel (RV.mono p k _ _ r1) ck.1
    obtain ⟨pb', zs', eb', t2, g2⟩ := lstOf_sq rel (RV.mono p k _ _ r2) ck.2
    cases ea'; cases eb'
    refine ⟨fun d ed => ?_, fun hi => ⟨ws', zs', t1, t2, ?_⟩⟩
    · obtain ⟨c, d', ec, ed', rfl⟩ := prs_at ed
      obtain ⟨v, ev, rv⟩ := g1.get ec
      obtain ⟨u, eu, ru⟩ := g2.get ed'
      refine ⟨⟨ws', zs', v, u, t1, t2, ev, eu⟩, fun xx H' hy => ?_⟩
      obtain ⟨T, x', y', rfl, hT, rfl, h1, h2⟩ := hy
      have z1 := h1 ws' t1
      have z2 := h2 zs' t2
      rw [ev] at z1; cases z1
      rw [eu] at z2; cases z2
      exact ⟨same_upd hT, pair_rv hT rv ru⟩
    · have l1 := RVs.length g1
      have l2 := RVs.length g2
      simp [prs] at hi
      omega
def ens (xs : List D) : List D := xs.zipIdx.map fun p => .tup [.int (p.2 : Nat), p.1]
def fEnum (ds : List D) (h : M) : Res Itr' := match ds with
  | [x] => match lstOf h x with
    | some xs => .ok ⟨ens xs, fun h' => lstOf h' x = some xs⟩ h
    | none => .stuck
  | _ => .stuck
def mEnum (mas : MA) : MI := fun env h => (mas env h).bind fEnum
theorem ens_at {xs : List D} {i : Nat} {d : D} (h : (ens xs)[i]? = some d) : ∃ a, xs[i]? = some a ∧ d = .tup [.int (i : Nat), a] := by
  simp only [ens, List.getElem?_map, Option.map_eq_some_iff, List.getElem?_zipIdx] at h
  obtain ⟨⟨a, j⟩, ⟨c, e, e2⟩, rfl⟩ := h
  simp at e2
  obtain ⟨rfl, rfl⟩ := e2
  exact ⟨c, e, rfl⟩
theorem fi_enum {elts : List Expr} {kk : Nat} {tpos : Pos} {p : Pos} (hm : X.mg "enumerate" = none) (hs : FA X W ex [a] mas) (hg : Gl X "enumerate" := by rfl) (hst : starEach [a] X.env = [(false, eval a X.env)] := by rfl) :
    FI X W ex (.Tuple elts kk tpos) (.Call (.Name "enumerate" p) [a] [] pos) (mEnum mas) := by
  refine PI.imp (pi_enum hg hm hs hst) fun σ H R q => ?_
  obtain ⟨ι, h, env, rel, re, po⟩ := q
  refine ⟨ι, h, env, rel, re, post_bind po fun ds h1 ι1 H1 vs eq1 p1 k1 rel1 rv1 po1 => ?_⟩
  unfold fEnum at po1
  split at po1
  case h_2 => exact po1.elim
  rename_i x
  obtain ⟨v, rfl, r1⟩ := rv1.eq1
  split at po1
  case h_2 => exact po1.elim
  rename_i xs e1
  obtain ⟨pa, ws, rfl, s1, q1⟩ := lstOf_sq rel1 r1 e1
  refine ⟨pa, ws, rfl, s1, po_ok rel1 ?_ po1⟩
  intro i ι H h p k rel ck
  obtain ⟨pa', ws', ea', t1, g1⟩ := lstOf_sq rel (RV.mono p k _ _ r1) ck
  cases ea'
  refine ⟨fun d ed => ?_, fun hi => ⟨ws', t1, ?_⟩⟩
  · obtain ⟨c, ec, rfl⟩ := ens_at ed
    obtain ⟨v, ev, rv⟩ := g1.get ec
    refine ⟨⟨ws', v, t1, ev⟩, fun xx H' hy => ?_⟩
    obtain ⟨T, x', rfl, hT, rfl, h1⟩ := hy
    have z1 := h1 ws' t1
    rw [ev] at z1; cases z1
    exact ⟨same_upd hT, pair_rv hT (by simp [RV]) rv⟩
  · have l1 := RVs.length g1
    simp [ens] at hi
    omega
end
/-! ### index -/
section
variable {G : Wo}
def ixS (ys : List Str) (z : Str) : Option Nat := ys.findIdx? fun y => decide (y = z)
theorem ixS_ok {ys : List Str} {z : Str} {j : Nat} (h : ixS ys z = some j) : ys[j]? = some z ∧ ∀ m, m < j → ys[m]? ≠ some z := by
  unfold ixS at h
  rw [List.findIdx?_eq_some_iff_getElem] at h
  obtain ⟨hl, h1, h2⟩ := h
  simp only [decide_eq_true_eq] at h1 h2
  refine ⟨by rw [List.getElem?_eq_getElem hl, h1], fun m hm e => ?_⟩
  rw [List.getElem?_eq_getElem (by omega)] at e
  exact h2 m hm (Option.some.inj e)
def fTIx (x : D) (xs : List D) (h : M) : Res D := match xs with
  | [.str z] => match tupOf x with
    | some ds => match strsD ds with
      | some ys => match ixS ys z with | some j => .ok (.int (j : Nat)) h | none => .stuck
      | none => .stuck
    | none => .stuck
  | _ => .stuck
theorem ab_tix : AbM G (fun x xs H Q => ∃ p, ∃ ys : List Str, ∃ z j, x = .ref p ∧ xs = [.str z] ∧ SqT G.K H p (ys.map V.str) ∧ ys[j]? = some z ∧ (∀ m, m < j → ys[m]? ≠ some z) ∧ Q (.int (j : Nat)) H) fTIx := by
  intro E ι H h x xs v vs Q rel rx rxs po
  unfold fTIx at po
  split at po
  case h_2 => exact po.elim
  rename_i z
  obtain ⟨w, rfl, rw'⟩ := rxs.eq1
  simp only [RV] at rw'
  subst rw'
  split at po
  case h_2 => exact po.elim
  rename_i ds e1
  split at po
  case h_2 => exact po.elim
  rename_i ys e2
  split at po
  case h_2 => exact po.elim
  rename_i j e3
  obtain ⟨pa, ws, rfl, s, r⟩ := tupOf_sq rx e1
  have := strsD_ok e2 r
  subst this
  obtain ⟨h1, h2⟩ := ixS_ok e3
  exact ⟨pa, ys, z, j, rfl, rfl, s, h1, h2, po_ok rel (by simp [RV]) po⟩
def fLIx (x : D) (xs : List D) (h : M) : Res D := match xs with
  | [.str z] => match lstOf h x with
    | some ds => match strsD ds with
      | some ys => match ixS ys z with | some j => .ok (.int (j : Nat)) h | none => .stuck
      | none => .stuck
    | none => .stuck
  | _ => .stuck
theorem ab_lix : AbM G (rIndex G.K) fLIx := by
  intro E ι H h x xs v vs Q rel rx rxs po
  unfold fLIx at po
  split at po
  case h_2 => exact po.elim
  rename_i z
  obtain ⟨w, rfl, rw'⟩ := rxs.eq1
  simp only [RV] at rw'
  subst rw'
  split at po
  case h_2 => exact po.elim
  rename_i ds e1
  split at po
  case h_2 => exact po.elim
  rename_i ys e2
  split at po
  case h_2 => exact po.elim
  rename_i j e3
  obtain ⟨pa, ws, rfl, s, r⟩ := lstOf_sq rel rx e1
  have := strsD_ok e2 r
  subst this
  obtain ⟨h1, h2⟩ := ixS_ok e3
  refine ⟨pa, ys.map V.str, .str z, j, .str z, rfl, rfl, s, rfl, flat_strs ys, by rw [List.getElem?_map, h1]; rfl, by simp [eqV], fun m z' hm e => ?_, po_ok rel (by simp [RV]) po⟩
  rw [List.getElem?_map, Option.map_eq_some_iff] at e
  obtain ⟨y, ey, rfl⟩ := e
  have hne : y ≠ z := fun q => h2 m hm (by rw [ey, q])
  simp [eqV, hne]
end
section
variable {X : Cx} {W : WX} {ex : Ex} {e : Expr} {mas : MA} {pos p apos cpos : Pos} {x : Str}
theorem fe_kindex {xs : List D} (T : GCT X.K X.mg x xs) (ha : FA X W ex [e] mas) (hg : Gl X x := by rfl) (hd : (x == ("__debug__" : Str)) = false := by decide)
    (hbase : attributeBase (.Name x p) "index" X.env (eval (.Name x p) X.env) = eval (.Name x p) X.env := by rfl)
    (hfew : ((backTo cpos (starEach [e] X.env)).all (fun x => !x.1) && (backToKw cpos (keywordEach [] X.env)).all (fun x => x.1.isSome)
      && decide ([e].length + ([] : List Keyword).length + (if ([] : List Keyword).isEmpty then 0 else 1) < 30)) = true := by rfl)
    (hline : (apos.endLine == cpos.line) = true := by rfl) (hs : starEach [e] X.env = (false, eval e X.env) :: starEach [] X.env := by rfl) (hplain : (backTo cpos (starEach [] X.env)).any (·.1) = false := by rfl) :
    FE X W ex (.Call (.Attribute (.Name x p) "index" apos) [e] [] cpos) (mL (fTIx (.ct xs)) mas) := by
  obtain ⟨pa, hm, ⟨o, ho, hc, hdn⟩, r⟩ := T.ex
  refine PE.imp (pe_bm PySem.F.plainAttrs_tuple PySem.F.slot_tuple_index PySem.F.type_tuple_index mt_tup_index (pe_glob hg hm (v := .ref pa) rfl hd) ha hbase hfew hline hs hplain) fun σ H Q q => ?_
  obtain ⟨ι, h, env, rel, re, po⟩ := q
  refine ⟨.inr (.inl ⟨rfl, o, ho, hc, hdn⟩), ι, h, env, rel, re, post_bind po fun ds h1 ι1 H1 vs eq p k rel1 rv po1 => ?_⟩
  exact ab_tix _ _ _ _ (.ct xs) _ _ _ _ rel1 (r _ _) rv po1
end
end LF
set_option Elab.async false
set_option linter.all false
set_option maxRecDepth 100000
set_option maxHeartbeats 4000000
/-! LFI: own classes. -/
namespace LF
open PySem PySem.Spec L2
open PyProof.Rows hiding St
/-- the fields that a class's instances may have -/
def FTb (K : PySem.W.Frag) (mg : Str → Option Value) (tb : List (Str × List Str)) : Prop := ∀ x fs, (x, fs) ∈ tb → ∃ C, mg x = some (.ref C) ∧ Cls K C ∧ ∀ f ∈ fs, NoAttr K C f
def okF (tb : List (Str × List Str)) (x f : Str) : Bool := tb.any fun p => decide (p.1 = x) && p.2.any fun g => decide (g = f)
theorem okF_ok {K : PySem.W.Frag} {mg : Str → Option Value} {tb : List (Str × List Str)} {x f : Str} (T : FTb K mg tb) (h : okF tb x f = true) : ∃ C, mg x = some (.ref C) ∧ Cls K C ∧ NoAttr K C f := by
  unfold okF at h
  rw [List.any_eq_true] at h
  obtain ⟨⟨y, fs⟩, m, h⟩ := h
  simp only [Bool.and_eq_true, decide_eq_true_eq, List.any_eq_true] at h
  obtain ⟨rfl, g, mg', rfl⟩ := h
  obtain ⟨C, e, c, n⟩ := T y fs m
  exact ⟨C, e, c, n g mg'⟩
def putFD (f : Str) (v : D) : List (Str × D) → List (Str × D)
  | [] => [(f, v)]
  | (g, x) :: r => if g = f then (g, v) :: r else (g, x) :: putFD f v r
theorem RKs.fld {G : Wo} {ι : List Addr} {H : Hp} {f : Str} : ∀ {fs : List (Str × D)} {ws : List (Str × V)}, RKs G ι H fs ws → (∀ d, fs.lookup f = some d → ∃ v, ws.lookup f = some v ∧ RV G ι H d v) ∧ (fs.lookup f = none → ws.lookup f = none)
  | [], ws, h => by rw [h.nil_iff]; exact ⟨fun d e => by simp at e, fun _ => rfl⟩
  | (k, d) :: fs, ws, h => by
    obtain ⟨v, r, rfl, h1, h2⟩ := h.cons_iff
    have ih := RKs.fld (f := f) h2
    by_cases hk : (f == k) = true
    · simp only [List.lookup, hk]
      exact ⟨fun d' e => by cases e; exact ⟨v, rfl, h1⟩, fun e => by cases e⟩
    · have hk' : (f == k) = false := by simpa using hk
      simp only [List.lookup, hk']
      exact ih
theorem RKs.putF {G : Wo} {ι : List Addr} {H : Hp} {f : Str} {d : D} {v : V} (r : RV G ι H d v) : ∀ {fs : List (Str × D)} {ws : List (Str × V)}, RKs G ι H fs ws → RKs G ι H (putFD f d fs) (L2.putF f v ws)
  | [], ws, h => by rw [h.nil_iff]; exact RKs.cons r RKs.nil
  | (k, d') :: fs, ws, h => by
    obtain ⟨v', q, rfl, h1, h2⟩ := h.cons_iff
    unfold putFD L2.putF
    by_cases hk : k = f
    · rw [if_pos hk, if_pos hk]; exact RKs.cons r h2
    · rw [if_neg hk, if_neg hk]; exact RKs.cons h1 (RKs.putF r h2)
/-- an instance under a place -/
theorem at_inst {G : Wo} {ι : List Addr} {H : Hp} {h : M} {l : Nat} {v : V} {x : Str} {fs : List (Str × D)} (rel : Rel G ι H h) (r : RV G ι H (.loc l) v) (e : h[l]? = some (.ins x fs)) :
    ∃ a C dx ws, v = .ref a ∧ ι[l]? = some a ∧ G.mg x = some (.ref C) ∧ H a = some (.ins C dx ws) ∧ RKs G ι H fs ws := by
  simp only [RV] at r
  obtain ⟨a, rfl, ea⟩ := r
  obtain ⟨C, dx, ws, g, q, k⟩ := rel.at e ea
  exact ⟨a, C, dx, ws, rfl, ea, g, q, k⟩
section
variable {X : Cx} {W : WX} {ex : Ex} {e a b i o value : Expr} {es : List Expr} {ma mb mc me mo : ME} {mas : MA} {pos pos' tpos p apos cpos : Pos} {x f m : Str} {tb : List (Str × List Str)}
/-! ### o.f -/
def fFld (tb : List (Str × List Str)) (f : Str) (d : D) (h : M) : Res D := match d with
  | .loc l => match h[l]? with
    | some (.ins x fs) => if okF tb x f = true then match fs.lookup f with | some d => .ok d h | none => .stuck else .stuck
    | _ => .stuck
  | _ => .stuck
theorem fe_fld (T : FTb X.K X.mg tb) (he : FE X W ex e me) (hb : attributeBase e f X.env (eval e X.env) = eval e X.env := by rfl) : FE X W ex (.Attribute e f pos) (m1 (fFld tb f) me) := by
  refine PE.imp (pe_fld he hb) fun σ H Q q => ?_
  obtain ⟨ι, h, env, rel, re, po⟩ := q
  refine ⟨ι, h, env, rel, re, post_bind po fun d h1 ι1 H1 v eq p k rel1 rv po1 => ?_⟩
  unfold fFld at po1
  split at po1
  case h_2 => exact po1.elim
  rename_i l
  split at po1
  case h_2 => exact po1.elim
  rename_i y fs el
  split at po1
  case isFalse => exact po1.elim
  rename_i hok
  split at po1
  case h_2 => exact po1.elim
  rename_i d' ed
  obtain ⟨a, C, dx, ws, rfl, ea, g, q, kk⟩ := at_inst rel1 rv el
  obtain ⟨C', g', c, n⟩ := okF_ok T hok
  have g2 : X.mg y = some (.ref C) := g
  rw [g2] at g'; cases g'
  obtain ⟨w, ew, rw'⟩ := kk.fld.1 d' ed
  exact ⟨a, C, dx, ws, w, rfl, q, c, n, ew, po_ok rel1 rw' po1⟩
/-! ### o.f = e -/
def fFldS (tb : List (Str × List Str)) (f : Str) (o y : D) (h : M) : Res Unit := match o with
  | .loc l => match h[l]? with
    | some (.ins x fs) => if okF tb x f = true ∧ fs.length < 1000 then .ok () (h.set l (.ins x (putFD f y fs))) else .stuck
    | _ => .stuck
  | _ => .stuck
def mFldS (tb : List (Str × List Str)) (f : Str) (mo mv : ME) : MS := fun env h => SR.of (mv env h) env fun y h1 => SR.of (mo env h1) env fun o h2 => SR.of (fFldS tb f o y h2) env fun _ h3 => .nx env h3
theorem ins_wr {G : Wo} {ι : List Addr} {H : Hp} {h : M} {l : Nat} {a C dx : Addr} {x : Str} {fs : List (Str × D)} {ws : List (Str × V)} (rel : Rel G ι H h) (ea : ι[l]? = some a) (g : G.mg x = some (.ref C)) (r : RKs G ι H fs ws) :
    Rel G ι (upd H a (.ins C dx ws)) (h.set l (.ins x fs)) ∧ Keep H (upd H a (.ins C dx ws)) := by
  have k : Keep H (upd H a (.ins C dx ws)) := by
    obtain ⟨u0, e0, nf, mu⟩ := rel.tracked ea
    exact fun b o' eb f => by
      have : b ≠ a := fun z => by rw [z, e0] at eb; cases eb; exact nf f
      rw [upd_ne this]; exact eb
  exact rel.write ea ⟨C, dx, ws, g, upd_same, r.mono (List.prefix_refl _) k⟩
theorem fs_fld (T : FTb X.K X.mg tb) (ho : FE X W ex o mo) (hv : FE X W ex value me) (hs : swapsWith value (some (.Attribute o f pos')) pos.line X.env = pure false := by rfl) : FS X W ex (.Assign [.Attribute o f pos'] value pos) (mFldS tb f mo me) := by
  refine PS.imp (ps_fld ho hv hs) fun D σ H q => ?_
  obtain ⟨ι, h, env, rel, re, po⟩ := q
  refine ⟨ι, h, env, rel, re, post_of re po fun y h1 ι1 H1 v eq1 p1 k1 rel1 rv1 po1 => ?_⟩
  refine ⟨ι1, h1, env, rel1, re.mono p1 k1, post_of (re.mono p1 k1) po1 fun d h2 ι2 H2 u eq2 p2 k2 rel2 rv2 po2 => ?_⟩
  unfold fFldS at po2
  split at po2
  case h_2 => exact po2.elim
  rename_i l
  split at po2
  case h_2 => exact po2.elim
  rename_i x fs el
  split at po2
  case isFalse => exact po2.elim
  rename_i hok
  obtain ⟨a, C, dx, ws, rfl, ea, g, q, kk⟩ := at_inst rel2 rv2 el
  obtain ⟨C', g', c, n⟩ := okF_ok T hok.1
  have g2 : X.mg x = some (.ref C) := g
  rw [g2] at g'; cases g'
  have hl : ws.length = fs.length := kk.len.symm
  obtain ⟨rel3, k3⟩ := ins_wr (dx := dx) rel2 ea g (kk.putF (f := f) (RV.mono p2 k2 _ _ rv1))
  exact ⟨a, C, dx, ws, rfl, q, c, n, by rw [hl]; exact hok.2, ps_nx rel3 (((re.mono p1 k1).mono p2 k2).mono (List.prefix_refl _) k3) (PostS.mono (List.prefix_refl _) k3 po2)⟩
/-! ### o.f += e -/
def clsAt (h : M) (o : D) : Option Str := match o with
  | .loc l => match h[l]? with | some (.ins x _) => some x | _ => none
  | _ => none
def fFldA (f : Str) (g : Int → Int → Int) (o : D) (cx : Option Str) (x0 y : D) (h : M) : Res Unit := match x0 with
  | .int i => match y with
    | .int j => match o with
      | .loc l => match h[l]? with
        | some (.ins x fs) => if cx = some x ∧ fs.length < 1000 then .ok () (h.set l (.ins x (putFD f (.int (g i j)) fs))) else .stuck
        | _ => .stuck
      | _ => .stuck
    | _ => .stuck
  | _ => .stuck
def mFldA (tb : List (Str × List Str)) (f : Str) (g : Int → Int → Int) (mo mv : ME) : MS := fun env h => SR.of (mo env h) env fun o h1 => SR.of (fFld tb f o h1) env fun x0 h2 => SR.of (mv env h2) env fun y h3 => SR.of (fFldA f g o (clsAt h1 o) x0 y h3) env fun _ h4 => .nx env h4
theorem fs_fldaug {op : Operator} {rd : V → V → Hp → VK → Prop} {g : Int → Int → Int} (T : FTb X.K X.mg tb) (hop : InOp X op rd) (hrd : ∀ i j H Q, Q (.int (g i j)) H → rd (.int i) (.int j) H Q) (ho : FE X W ex o mo) (hv : FE X W ex value me) : FS X W ex (.AugAssign (.Attribute o f tpos) op value pos) (mFldA tb f g mo me) := by
  refine PS.imp (ps_fldaug ho hv hop) fun D σ H q => ?_
  obtain ⟨ι, h, env, rel, re, po⟩ := q
  refine ⟨ι, h, env, rel, re, post_of re po fun d h1 ι1 H1 v eq1 p1 k1 rel1 rv1 po1 => ?_⟩
  have re1 := re.mono p1 k1
  cases d with
  | loc l =>
    cases el : h1[l]? with
    | none => simp only [fFld, el] at po1; exact po1.elim
    | some ob =>
      cases ob with
      | ins x fs =>
        simp only [fFld, el, clsAt] at po1
        by_cases hok : okF tb x f = true
        case neg => rw [if_neg hok] at po1; exact po1.elim
        rw [if_pos hok] at po1
        cases ed : fs.lookup f with
        | none => rw [ed] at po1; exact po1.elim
        | some x0 =>
          rw [ed] at po1
          obtain ⟨a, C, dx, ws, rfl, ea, gm, q, kk⟩ := at_inst rel1 rv1 el
          obtain ⟨C', g', c, n⟩ := okF_ok T hok
          have g2 : X.mg x = some (.ref C) := gm
          rw [g2] at g'; cases g'
          obtain ⟨w, ew, rw'⟩ := kk.fld.1 x0 ed
          refine ⟨a, C, dx, ws, w, rfl, q, c, n, ew, ι1, h1, env, rel1, re1, post_of re1 po1 fun y h2 ι2 H2 u eq2 p2 k2 rel2 rv2 po2 => ?_⟩
          cases x0 with
          | int i =>
            cases y with
            | int j =>
              simp only [fFldA] at po2
              cases el2 : h2[l]? with
              | none => rw [el2] at po2; exact po2.elim
              | some ob2 =>
                rw [el2] at po2
                cases ob2 with
                | ins x2 fs2 =>
                  by_cases hc : some x = some x2 ∧ fs2.length < 1000
                  case neg => simp only [if_neg hc] at po2; exact po2.elim
                  simp only [if_pos hc] at po2
                  obtain ⟨hx, hlen⟩ := hc
                  cases hx
                  simp only [RV] at rw' rv2
                  subst rw'; subst rv2
                  have ea2 : ι2[l]? = some a := pre_get p2 ea
                  obtain ⟨C2, dx2, ws2, gm2, q2, kk2⟩ := rel2.at el2 ea2
                  have g3 : X.mg x = some (.ref C2) := gm2
                  rw [g2] at g3; cases g3
                  have hl : ws2.length = fs2.length := kk2.len.symm
                  obtain ⟨rel3, k3⟩ := ins_wr (dx := dx2) rel2 ea2 gm2 (kk2.putF (f := f) (d := .int (g i j)) (v := .int (g i j)) (by simp [RV]))
                  exact hrd _ _ _ _ ⟨dx2, ws2, q2, by rw [hl]; exact hlen, ps_nx rel3 ((re1.mono p2 k2).mono (List.prefix_refl _) k3) (PostS.mono (List.prefix_refl _) k3 po2)⟩
                | _ => exact po2.elim
            | _ => exact po2.elim
          | _ => exact po2.elim
      | _ => simp only [fFld, el] at po1; exact po1.elim
  | _ => exact po1.elim
theorem fs_fldadd (T : FTb X.K X.mg tb) (ho : FE X W ex o mo) (hv : FE X W ex value me) : FS X W ex (.AugAssign (.Attribute o f tpos) .Add value pos) (mFldA tb f (fun i j => i + j) mo me) :=
  fs_fldaug T in_add (fun i j H Q q => ⟨i, j, rfl, rfl, q⟩) ho hv
theorem fs_fldsub (T : FTb X.K X.mg tb) (ho : FE X W ex o mo) (hv : FE X W ex value me) : FS X W ex (.AugAssign (.Attribute o f tpos) .Sub value pos) (mFldA tb f (fun i j => i - j) mo me) :=
  fs_fldaug T in_sub (fun i j H Q q => ⟨i, j, rfl, rfl, q⟩) ho hv
end
/-! ### methods -/
structure MDef (P : Program) (w : World) (K : PySem.W.Frag) (mg : Str → Option Value) (base : Heap) (x m : Str) (k n : Nat) (mm : List D → M → Res D) : Prop where
  ex : ∃ C f fd ps, ps.length = n ∧ mg x = some (.ref C) ∧ Cls K C ∧ Meth K C m f ∧ Binds K fd ps [] ∧ FnOk P w K mg base (L2N.CX P w) k f fd ps (spF ⟨K, mg⟩ n mm)
structure PDef (P : Program) (w : World) (K : PySem.W.Frag) (mg : Str → Option Value) (base : Heap) (x m : Str) (k : Nat) (mm : List D → M → Res D) : Prop where
  ex : ∃ C p f fd ps, ps.length = 1 ∧ mg x = some (.ref C) ∧ Cls K C ∧ PropOf K C m p f ∧ Binds K fd ps [] ∧ FnOk P w K mg base (L2N.CX P w) k f fd ps (spF ⟨K, mg⟩ 1 mm)
structure KDef (P : Program) (w : World) (K : PySem.W.Frag) (mg : Str → Option Value) (base : Heap) (x : Str) (k n : Nat) (mm : List D → M → Res D) : Prop where
  ex : ∃ C f fd ps, ps.length = n ∧ mg x = some (.ref C) ∧ Mk K C f ∧ Binds K fd ps [] ∧ FnOk P w K mg base (L2N.CX P w) k f fd ps (spF ⟨K, mg⟩ n mm)
section
variable {X : Cx} {W : WX} {ex : Ex} {e a b i o value : Expr} {es : List Expr} {ma mb mc me mo : ME} {mas : MA} {pos pos' tpos p apos cpos : Pos} {x f m : Str} {tb : List (Str × List Str)} {k n : Nat} {mm : List D → M → Res D}
def hasM (h : M) (x m : Str) (o : D) : Bool := match o with
  | .loc l => match h[l]? with
    | some (.ins y fs) => decide (y = x) && (fs.lookup m).isNone
    | _ => false
  | _ => false
def mMeth (x m : Str) (n : Nat) (mm : List D → M → Res D) (mo : ME) (mas : MA) : ME := fun env h => (mo env h).bind fun o h1 => if hasM h1 x m o = true then (mas env h1).bind fun ds h2 => mFix n mm (o :: ds) h2 else .stuck
theorem hasM_ok {G : Wo} {ι : List Addr} {H : Hp} {h : M} {o : D} {v : V} (rel : Rel G ι H h) (r : RV G ι H o v) (e : hasM h x m o = true) : ∃ a C dx ws, v = .ref a ∧ G.mg x = some (.ref C) ∧ H a = some (.ins C dx ws) ∧ ws.lookup m = none := by
  unfold hasM at e
  split at e
  case h_2 => cases e
  rename_i l
  split at e
  case h_2 => cases e
  rename_i y fs el
  simp only [Bool.and_eq_true, decide_eq_true_eq] at e
  obtain ⟨rfl, e2⟩ := e
  obtain ⟨a, C, dx, ws, rfl, ea, g, q, kk⟩ := at_inst rel r el
  exact ⟨a, C, dx, ws, rfl, g, q, kk.fld.2 (by simpa using e2)⟩
theorem fe_meth {pl : Sem Bool} (F : MDef X.prog X.w X.K X.mg X.base x m k n mm) (tk : L2N.Takes X W) (hr : Room k X.A) (ho : FE X W ex o mo) (hs : FA X W ex (e :: es) mas)
    (hst : starEach (e :: es) X.env = (false, eval e X.env) :: starEach es X.env := by rfl) (hpl : (backTo pos (starEach es X.env)).any (·.1) = false := by rfl)
    (ht : eval (.Call (.Attribute o m apos) (e :: es) [] pos) X.env = (do
      let ov ← eval o X.env
      standAt apos.atName
      let (f, first) ← holding [ov] (getMethod ov m pl)
      callWith pos f first (backTo pos (starEach (e :: es) X.env)) (backToKw pos (keywordEach [] X.env))) := by rfl) :
    FE X W ex (.Call (.Attribute o m apos) (e :: es) [] pos) (mMeth x m n mm mo mas) := by
  obtain ⟨C, f, fd, ps, h1, h2, c, hm, hb, F⟩ := F.ex
  have P0 : PE X (.Call (.Attribute o m apos) (e :: es) [] pos) (fun σ H Q => rdE (wo X) ex W mo σ H fun v H1 => ∃ a dx ws, v = .ref a ∧ H1 a = some (.ins C dx ws) ∧ ws.lookup m = none ∧ rdA (wo X) ex W mas σ H1 fun vs H2 => spF ⟨X.K, X.mg⟩ n mm (.ref a :: vs) H2 Q (WE W σ)) := by
    refine ⟨fun pins s σ H Q I h => ?_⟩
    refine PySem.W.methodCall_KW (pl := pl) (thn (ho.run pins s σ H _ I h) fun u s1 ⟨x, H1, I1, rx, a, dx, fs, ex, ea, l, q⟩ => ?_) ht
    subst ex
    obtain rfl : u = Value.ref a := rx
    refine getmeth_ok I1 ea c hm l ?_
    refine PySem.W.callWith_K (first := [.ref a]) (h₀ := X.base) I.ok.mod.kin hm.kp (thn (hs.run pos pins s1 σ H1 _ I1 q) fun us s2 ⟨vs, H2, I2, r, q2⟩ => ⟨I2.kIn, ?_⟩) hst hpl
    exact run_fnS (E := WE W) (us := .ref a :: us) (vs := .ref a :: vs) F hr hb (L2N.passAt tk σ) I2 (.cons rfl r) q2
  refine PE.imp P0 fun σ H Q q => ?_
  obtain ⟨ι, h, env, rel, re, po⟩ := q
  refine ⟨ι, h, env, rel, re, post_bind po fun d g1 ι1 H1 v eq p1 k1 rel1 rv po1 => ?_⟩
  split at po1
  case isFalse => exact po1.elim
  rename_i hh
  obtain ⟨a, C', dx, ws, rfl, gm, q, hl⟩ := hasM_ok rel1 rv hh
  have g2 : X.mg x = some (.ref C') := gm
  rw [h2] at g2; cases g2
  refine ⟨a, dx, ws, rfl, q, hl, ι1, g1, env, rel1, re.mono p1 k1, post_bind po1 fun ds g2 ι2 H2 vs eq2 p2 k2 rel2 rv2 po2 => ?_⟩
  unfold mFix at po2
  split at po2
  case isFalse => exact po2.elim
  rename_i hlen
  exact ⟨by rw [← hlen]; simp [RVs.length rv2], ι2, g2, d :: ds, rel2, RVs.cons (RV.mono p2 k2 _ _ rv) rv2, po2⟩
theorem fe_meth0 {pl : Sem Bool} (F : MDef X.prog X.w X.K X.mg X.base x m k n mm) (tk : L2N.Takes X W) (hr : Room k X.A) (ho : FE X W ex o mo)
    (ht : eval (.Call (.Attribute o m apos) [] [] pos) X.env = (do
      let ov ← eval o X.env
      standAt apos.atName
      let (f, first) ← holding [ov] (getMethod ov m pl)
      callWith pos f first (backTo pos (starEach [] X.env)) (backToKw pos (keywordEach [] X.env))) := by rfl) :
    FE X W ex (.Call (.Attribute o m apos) [] [] pos) (mMeth x m n mm mo mNil) := by
  obtain ⟨C, f, fd, ps, h1, h2, c, hm, hb, F⟩ := F.ex
  have P0 : PE X (.Call (.Attribute o m apos) [] [] pos) (fun σ H Q => rdE (wo X) ex W mo σ H fun v H1 => ∃ a dx ws, v = .ref a ∧ H1 a = some (.ins C dx ws) ∧ ws.lookup m = none ∧ spF ⟨X.K, X.mg⟩ n mm [.ref a] H1 Q (WE W σ)) := by
    refine ⟨fun pins s σ H Q I h => ?_⟩
    refine PySem.W.methodCall_KW (pl := pl) (thn (ho.run pins s σ H _ I h) fun u s1 ⟨x, H1, I1, rx, a, dx, fs, ex, ea, l, q⟩ => ?_) ht
    subst ex
    obtain rfl : u = Value.ref a := rx
    refine getmeth_ok I1 ea c hm l ?_
    exact PySem.W.callWith_K0 (first := [.ref a]) I1.kIn hm.kp (run_fnS (E := WE W) (us := [.ref a]) (vs := [.ref a]) F hr hb (L2N.passAt tk σ) I1 (.cons rfl .nil) q)
  refine PE.imp P0 fun σ H Q q => ?_
  obtain ⟨ι, h, env, rel, re, po⟩ := q
  refine ⟨ι, h, env, rel, re, post_bind po fun d g1 ι1 H1 v eq p1 k1 rel1 rv po1 => ?_⟩
  split at po1
  case isFalse => exact po1.elim
  rename_i hh
  obtain ⟨a, C', dx, ws, rfl, gm, q, hl⟩ := hasM_ok rel1 rv hh
  have g2 : X.mg x = some (.ref C') := gm
  rw [h2] at g2; cases g2
  have po2 : Post (wo X) (fun ι H d v => RV (wo X) ι H d v) (fun c d H' => W c d σ H') ι1 H1 (mFix n mm [d] g1) Q := po1
  unfold mFix at po2
  split at po2
  case isFalse => exact po2.elim
  rename_i hlen
  exact ⟨a, dx, ws, rfl, q, hl, by rw [← hlen]; rfl, ι1, g1, [d], rel1, RVs.one rv, po2⟩
/-! ### properties -/
def isInsB (h : M) (x : Str) (o : D) : Bool := match o with
  | .loc l => match h[l]? with
    | some (.ins y _) => decide (y = x)
    | _ => false
  | _ => false
def mProp (x : Str) (mm : List D → M → Res D) (mo : ME) : ME := fun env h => (mo env h).bind fun o h1 => if isInsB h1 x o = true then noX (mm [o] h1) else .stuck
theorem passN (X : Cx) : Passes (L2N.CX X.prog X.w) X (fun _ _ _ => False) := fun pins σ H s e s' I c => L2N.passAt (W := WN) tkN σ pins H s e s' I c
theorem fe_prop (F : PDef X.prog X.w X.K X.mg X.base x m k mm) (hr : Room (k + 1) X.A) (ho : FE X W ex o mo) (hab : attributeBase o m X.env (eval o X.env) = eval o X.env := by rfl) : FE X W ex (.Attribute o m pos) (mProp x mm mo) := by
  obtain ⟨C, p, f, fd, ps, h1, h2, c, hp, hb, F⟩ := F.ex
  refine PE.imp (pe_prop ho c hp F hr hb (dvs := []) .nil (E := fun _ _ _ => False) (passN X.nox) hab) fun σ H Q q => ?_
  obtain ⟨ι, h, env, rel, re, po⟩ := q
  refine ⟨ι, h, env, rel, re, post_bind po fun d g1 ι1 H1 v eq p1 k1 rel1 rv po1 => ?_⟩
  split at po1
  case isFalse => exact po1.elim
  rename_i hh
  unfold isInsB at hh
  split at hh
  case h_2 => cases hh
  rename_i l
  split at hh
  case h_2 => cases hh
  rename_i y fs el
  simp only [decide_eq_true_eq] at hh
  subst hh
  obtain ⟨a, C', dx, ws, rfl, ea, gm, q, kk⟩ := at_inst rel1 rv el
  have g2 : X.mg y = some (.ref C') := gm
  rw [h2] at g2; cases g2
  exact ⟨a, dx, ws, rfl, q, rfl, ι1, g1, [.loc l], rel1, RVs.one rv, post_noX po1⟩
/-! ### C(..) -/
def fNon (l : Nat) (v : D) (h : M) : Res D := match v with
  | .non => .ok (.loc l) h
  | _ => .stuck
def mMake (x : Str) (n : Nat) (mm : List D → M → Res D) (mas : MA) : ME := fun env h => (mas env h).bind fun ds h1 => (noX (mFix n mm (.loc h1.length :: ds) (h1 ++ [.ins x []]))).bind fun v h2 => fNon h1.length v h2
theorem fe_make {q : Pos} (F : KDef X.prog X.w X.K X.mg X.base x k n mm) (hr : Room (k + 1) X.A) (hs : FA X W ex (e :: es) mas) (hg : Gl X x := by rfl) (hdb : (x == ("__debug__" : Str)) = false := by decide)
    (he : starEach (e :: es) X.env = (false, eval e X.env) :: starEach es X.env := by rfl) (hpl : (backTo pos (starEach es X.env)).any (·.1) = false := by rfl) : FE X W ex (.Call (.Name x q) (e :: es) [] pos) (mMake x n mm mas) := by
  obtain ⟨C, f, fd, ps, h1, h2, mk, hb, F⟩ := F.ex
  refine PE.imp (pe_make mk F hr hg h2 hb (dvs := []) .nil (E := fun _ _ _ => False) (passN X) hs hdb he hpl) fun σ H Q q => ?_
  obtain ⟨ι, h, env, rel, re, po⟩ := q
  refine ⟨ι, h, env, rel, re, post_bind po fun ds g1 ι1 H1 vs eq p1 k1 rel1 rv po1 => ?_⟩
  intro y dx hy hdx hne
  have s1 : Same H1 (upd H1 dx (.own y)) := same_upd hdx
  have hy2 : upd H1 dx (.own y) y = none := by rw [upd_ne (Ne.symm hne)]; exact hy
  have s2 : Same (upd H1 dx (.own y)) (upd (upd H1 dx (.own y)) y (.ins C dx [])) := same_upd hy2
  have kp : Keep H1 (upd (upd H1 dx (.own y)) y (.ins C dx [])) := (Keep.of_same s1).trans (Keep.of_same s2)
  have pre : ι1 <+: ι1 ++ [y] := List.prefix_append ..
  have rel2 : Rel (wo X) (ι1 ++ [y]) (upd (upd H1 dx (.own y)) y (.ins C dx [])) (g1 ++ [.ins x []]) := (rel1.same s1).push hy2 ⟨C, dx, [], h2, upd_same, RKs.nil⟩
  have ry : RV (wo X) (ι1 ++ [y]) (upd (upd H1 dx (.own y)) y (.ins C dx [])) (.loc g1.length) (.ref y) := by
    simp only [RV]
    exact ⟨y, rfl, by rw [← rel1.len]; simp⟩
  have po2 := Post.mono pre kp po1
  have po3 := post_noX (E' := fun _ _ _ => False) (post_bind (Q := fun v H2 => v = .non ∧ Q (.ref y) H2) (B := fun ι H d v => RV (wo X) ι H d v) po2 fun v g2 ι2 H2 u eq2 p2 k2 rel3 rv3 po4 => ?_)
  · unfold mFix at po3
    split at po3
    case isFalse => exact po3.elim
    rename_i hlen
    refine ⟨by rw [← hlen]; simp [RVs.length rv], ι1 ++ [y], _, _, rel2, RVs.cons ry (by simpa using RVs.mono pre kp _ _ rv), po3⟩
  · unfold fNon at po4
    split at po4
    case h_2 => exact po4.elim
    simp only [RV] at rv3
    exact ⟨rv3, po_ok rel3 (RV.mono p2 k2 _ _ ry) po4⟩
end
/-! ### where they stand -/
structure MAt (K : PySem.W.Frag) (mg : Str → Option Value) (x m qual : Str) (st : Stmt) (ps : List Str) : Prop where
  ex : ∃ C f fd, Fun K m qual st f fd ∧ mg x = some (.ref C) ∧ Cls K C ∧ Meth K C m f ∧ ∀ us : List Value, us.length = ps.length → bindArgs fd ⟨us, []⟩ = pure (ps.zip us)
structure PAt (K : PySem.W.Frag) (mg : Str → Option Value) (x m qual : Str) (st : Stmt) (ps : List Str) : Prop where
  ex : ∃ C p f fd, Fun K m qual st f fd ∧ mg x = some (.ref C) ∧ Cls K C ∧ PropOf K C m p f ∧ ∀ us : List Value, us.length = ps.length → bindArgs fd ⟨us, []⟩ = pure (ps.zip us)
structure KAt (K : PySem.W.Frag) (mg : Str → Option Value) (x qual : Str) (st : Stmt) (ps : List Str) : Prop where
  ex : ∃ C f fd, Fun K "__init__" qual st f fd ∧ mg x = some (.ref C) ∧ Mk K C f ∧ ∀ us : List Value, us.length = ps.length → bindArgs fd ⟨us, []⟩ = pure (ps.zip us)
section
variable {P : Program} {w : World} {K : PySem.W.Frag} {mg : Str → Option Value} {base : Heap} {x m qual : Str} {st : Stmt} {N ps : List Str} {k : Nat} {mb : MS}
theorem mdefOf (T : MAt K mg x m qual st ps) (S : FnScope N ps (defScope st))
    (body : ∀ (f : Addr) (cdv : Value) (A : Around) (outer : List Env) (s : Shared) (H : Hp) (E : XK), Room k (A.deeper (envOfC qual (defScope st) s.heap.objs.size f cdv)) →
      FSs (cxOf (L2N.CX P w) P w K mg base N qual (defScope st) f cdv A outer s H E) (fun c d _ H => E c d H) none (defBody st) mb) : MDef P w K mg base x m (k + 1) ps.length (mFn N.length ps.length mb) := by
  obtain ⟨C, f, fd, F, gx, c, me, hb⟩ := T.ex
  exact ⟨C, f, fd, ps, rfl, gx, c, me, .all hb, okN F S (fun vs H Q E h => h.1) fun cdv A outer s H vs Q E hr hsp => ⟨_, body f cdv A outer s H E hr, body_end hsp⟩⟩
theorem pdefOf (T : PAt K mg x m qual st ps) (hp : ps.length = 1) (S : FnScope N ps (defScope st))
    (body : ∀ (f : Addr) (cdv : Value) (A : Around) (outer : List Env) (s : Shared) (H : Hp) (E : XK), Room k (A.deeper (envOfC qual (defScope st) s.heap.objs.size f cdv)) →
      FSs (cxOf (L2N.CX P w) P w K mg base N qual (defScope st) f cdv A outer s H E) (fun c d _ H => E c d H) none (defBody st) mb) : PDef P w K mg base x m (k + 1) (mFn N.length 1 mb) := by
  obtain ⟨C, p, f, fd, F, gx, c, me, hb⟩ := T.ex
  have F' : FnOk P w K mg base (L2N.CX P w) (k + 1) f fd ps (spF ⟨K, mg⟩ ps.length (mFn N.length ps.length mb)) := okN F S (fun vs H Q E h => h.1) fun cdv A outer s H vs Q E hr hsp => ⟨_, body f cdv A outer s H E hr, body_end hsp⟩
  rw [hp] at F'
  exact ⟨C, p, f, fd, ps, hp, gx, c, me, .all hb, F'⟩
theorem kdefOf (T : KAt K mg x qual st ps) (S : FnScope N ps (defScope st))
    (body : ∀ (f : Addr) (cdv : Value) (A : Around) (outer : List Env) (s : Shared) (H : Hp) (E : XK), Room k (A.deeper (envOfC qual (defScope st) s.heap.objs.size f cdv)) →
      FSs (cxOf (L2N.CX P w) P w K mg base N qual (defScope st) f cdv A outer s H E) (fun c d _ H => E c d H) none (defBody st) mb) : KDef P w K mg base x (k + 1) ps.length (mFn N.length ps.length mb) := by
  obtain ⟨C, f, fd, F, gx, me, hb⟩ := T.ex
  exact ⟨C, f, fd, ps, rfl, gx, me, .all hb, okN F S (fun vs H Q E h => h.1) fun cdv A outer s H vs Q E hr hsp => ⟨_, body f cdv A outer s H E hr, body_end hsp⟩⟩
end
end LF
set_option Elab.async false
set_option linter.all false
set_option maxRecDepth 100000
set_option maxHeartbeats 4000000
/-! LFH: wide products, clear, pop(i); where methods stand. -/
namespace LF
open PySem PySem.Spec L2
open PyProof.Rows hiding St
/-! ### wide products -/
def CMulB (i j : Int) : Prop := Builtin.Int.intBits i + Builtin.Int.intBits j ≤ 134217728
instance (i j : Int) : Decidable (CMulB i j) := by unfold CMulB; infer_instance
theorem op_mulB {X : Cx} : OpR X (binaryOp .Mult) (rI CMulB fun i j => .int (i * j)) := opI fun _ _ _ _ _ _ _ hc q => mul_int q (PySem.IntMulOk.of_le (Nat.le_refl _) (Nat.le_refl _) hc)
def fMulB := fI CMulB fun i j => .int (i * j)
theorem fe_mulB {X : Cx} {W : WX} {ex : Ex} {a b : Expr} {ma mb : ME} {pos : Pos} (ha : FE X W ex a ma) (hb : FE X W ex b mb) : FE X W ex (.BinOp a .Mult b pos) (m2 fMulB ma mb) := fe_op op_mulB (ab_I fun _ _ _ _ => by simp [RV]) ha hb
/-! ### clear, pop(i) -/
section
variable {G : Wo}
def fClear (x : D) (xs : List D) (h : M) : Res D := match x, xs with
  | .loc l, [] => match h[l]? with
    | some (.lst ys) => .ok .non (h.set l (.lst []))
    | _ => .stuck
  | _, _ => .stuck
theorem ab_clear : AbM G rClear fClear := by
  intro E ι H h x xs v vs Q rel rx rxs po
  unfold fClear at po
  split at po
  case h_2 => exact po.elim
  split at po
  case h_2 => exact po.elim
  rename_i ys e1
  simp only [RVs] at rxs
  subst rxs
  obtain ⟨a, ws, rfl, ea, q, r⟩ := at_lst rel rx e1
  exact ⟨a, ws, rfl, rfl, q, po_wr rel ea RVs.nil (fun _ _ => by simp [RV]) po⟩
def fPopAt (x : D) (xs : List D) (h : M) : Res D := match x, xs with
  | .loc l, [.int i] => match h[l]? with
    | some (.lst ys) => if 0 ≤ i ∧ i < ys.length ∧ i < 2 ^ 63 then match ys[i.toNat]? with
      | some y => .ok y (h.set l (.lst (ys.eraseIdx i.toNat)))
      | none => .stuck
      else .stuck
    | _ => .stuck
  | _, _ => .stuck
theorem RVs.erase {ι : List Addr} {H : Hp} : ∀ {xs : List D} {vs : List V} (k : Nat), RVs G ι H xs vs → RVs G ι H (xs.eraseIdx k) (vs.eraseIdx k)
  | [], vs, k, r => by simp only [RVs] at r; subst r; exact RVs.nil
  | x :: xs, vs, k, r => by
    simp only [RVs] at r
    obtain ⟨v, q, rfl, r1, r2⟩ := r
    cases k with
    | zero => exact r2
    | succ k => exact RVs.cons r1 (RVs.erase k r2)
theorem ab_popAt : AbM G rPopAt fPopAt := by
  intro E ι H h x xs v vs Q rel rx rxs po
  unfold fPopAt at po
  split at po
  case h_2 => exact po.elim
  split at po
  case h_2 => exact po.elim
  rename_i ys e1
  split at po
  case isFalse => exact po.elim
  rename_i hc
  split at po
  case h_2 => exact po.elim
  rename_i y ey
  obtain ⟨w, rfl, rw'⟩ := rxs.eq1
  simp only [RV] at rw'
  subst rw'
  obtain ⟨a, ws, rfl, ea, q, r⟩ := at_lst rel rx e1
  have hl := RVs.length r
  obtain ⟨u, eu, ru⟩ := r.get ey
  refine ⟨a, ws, _, _, u, rfl, rfl, q, by omega, hc.2.2, ?_, eu, po_wr rel ea (r.erase _) (fun _ p => RV.mono (List.prefix_refl _) p _ _ ru) po⟩
  have e1 : ∀ (i : Int) (n : Nat), 0 ≤ i → i < n → seqIndex? i n = some i.toNat := fun i n h1 h2 => by
    unfold seqIndex?
    have h3 : ¬ i < 0 := Int.not_lt.mpr h1
    simp [h3, h1, h2]
  exact e1 _ _ hc.1 (by rw [← hl]; exact hc.2.1)
end
/-! ### where methods stand -/
theorem mAt_mk {K : PySem.W.Frag} {h : Heap} {mg : Str → Option Value} (XK : K.In h) (G : h.Ns mainGlobals mg) {x m qual : Str} {st : Stmt} {ps : List Str} {f C : Addr} {oc : Value} {od an : Option Addr} {osl : Array (Option Value)} {kV doc pm cdv ct : Value}
    (hb : ∀ (kV doc pm : Value) (an : Option Addr) (cdv ct : Value) (us : List Value), us.length = ps.length → bindArgs (PySem.W.fnOf m qual (defArgs st) (defBody st) (defScope st) .none kV doc pm an cdv ct) ⟨us, []⟩ = pure (ps.zip us))
    (g : PySem.W.nsIn K mainGlobals x = some (some (.ref C))) (c1 : PySem.W.plainGet K C Str.empty = true) (c2 : PySem.W.hasDictIn K C = true) (c3 : PySem.W.plainOver K C = true) (c4 : PySem.W.findIn K (.ref C) "__setattr__" = some (some (.builtin "object.__setattr__")))
    (a : PySem.W.findIn K (.ref C) m = some (some (.ref f))) (i : PySem.W.isFn K (.ref f) = true)
    (l : K.lookup f = some ⟨oc, od, .func (PySem.W.fnOf m qual (defArgs st) (defBody st) (defScope st) .none kV doc pm an cdv ct), osl⟩) (c : PySem.W.codeIn K cdv qual = true) (k : PySem.W.keepIn K (.ref f) = true) : MAt K mg x m qual st ps :=
  ⟨C, f, _, fun_mk (st := st) l c k, PySem.W.mg_of XK G g, ⟨c1, c2, c3, c4⟩, ⟨a, i, k⟩, hb kV doc pm an cdv ct⟩
theorem pAt_mk {K : PySem.W.Frag} {h : Heap} {mg : Str → Option Value} (XK : K.In h) (G : h.Ns mainGlobals mg) {x m qual : Str} {st : Stmt} {ps : List Str} {f C p : Addr} {oc : Value} {od an : Option Addr} {osl : Array (Option Value)} {kV doc pm cdv ct : Value} {rest : List Value}
    (hb : ∀ (kV doc pm : Value) (an : Option Addr) (cdv ct : Value) (us : List Value), us.length = ps.length → bindArgs (PySem.W.fnOf m qual (defArgs st) (defBody st) (defScope st) .none kV doc pm an cdv ct) ⟨us, []⟩ = pure (ps.zip us))
    (g : PySem.W.nsIn K mainGlobals x = some (some (.ref C))) (c1 : PySem.W.plainGet K C Str.empty = true) (c2 : PySem.W.hasDictIn K C = true) (c3 : PySem.W.plainOver K C = true) (c4 : PySem.W.findIn K (.ref C) "__setattr__" = some (some (.builtin "object.__setattr__")))
    (a : PySem.W.findIn K (.ref C) m = some (some (.ref p))) (p1 : PySem.W.specialIn K (.ref p) "__get__" = some (some (.builtin "property.__get__"))) (p2 : PySem.W.takesIn K (.ref p) = some true) (p3 : PySem.W.recIn K p "property" = some (.ref f :: rest))
    (l : K.lookup f = some ⟨oc, od, .func (PySem.W.fnOf m qual (defArgs st) (defBody st) (defScope st) .none kV doc pm an cdv ct), osl⟩) (c : PySem.W.codeIn K cdv qual = true) (k : PySem.W.keepIn K (.ref f) = true) : PAt K mg x m qual st ps :=
  ⟨C, p, f, _, fun_mk (st := st) l c k, PySem.W.mg_of XK G g, ⟨c1, c2, c3, c4⟩, ⟨a, p1, p2, ⟨rest, p3⟩⟩, hb kV doc pm an cdv ct⟩
theorem kAt_mk {K : PySem.W.Frag} {h : Heap} {mg : Str → Option Value} (XK : K.In h) (G : h.Ns mainGlobals mg) {x qual : Str} {st : Stmt} {ps : List Str} {f C : Addr} {oc : Value} {od an : Option Addr} {osl : Array (Option Value)} {kV doc pm cdv ct : Value}
    (hb : ∀ (kV doc pm : Value) (an : Option Addr) (cdv ct : Value) (us : List Value), us.length = ps.length → bindArgs (PySem.W.fnOf "__init__" qual (defArgs st) (defBody st) (defScope st) .none kV doc pm an cdv ct) ⟨us, []⟩ = pure (ps.zip us))
    (g : PySem.W.nsIn K mainGlobals x = some (some (.ref C))) (m1 : PySem.W.makesIn K C = true) (a : PySem.W.findIn K (.ref C) "__init__" = some (some (.ref f))) (i : PySem.W.isFn K (.ref f) = true) (kc : PySem.W.keepIn K (.ref C) = true)
    (l : K.lookup f = some ⟨oc, od, .func (PySem.W.fnOf "__init__" qual (defArgs st) (defBody st) (defScope st) .none kV doc pm an cdv ct), osl⟩) (c : PySem.W.codeIn K cdv qual = true) (k : PySem.W.keepIn K (.ref f) = true) : KAt K mg x qual st ps :=
  ⟨C, f, _, fun_mk (st := st) l c k, PySem.W.mg_of XK G g, ⟨m1, a, i, kc⟩, hb kV doc pm an cdv ct⟩
end LF
set_option Elab.async false
set_option linter.all false
set_option maxRecDepth 100000
set_option maxHeartbeats 4000000
/-! LFJ: the logic of own classes, tables, wide products. -/
namespace LF
open PySem PySem.Spec L2
open PyProof.Rows hiding St
section
variable {Q : D → M → Prop} {X : XP} {env : En} {h : M} {nx : En → M → Prop} {rt : D → M → Prop} {bk ct : En → M → Prop} {ex : Str → List Str → List D → En → M → Prop} {ma mb mo mv : ME} {mas : MA} {x m f : Str} {n : Nat} {mm : List D → M → Res D} {tb : List (Str × List Str)} {l : Nat} {i j : Int}
@[simp] theorem wp_meth : @Wc D (mMeth x m n mm mo mas env h) ⟨Q, X⟩ = @Wc D (mo env h) ⟨fun o h1 => hasM h1 x m o = true ∧ @Wc (List D) (mas env h1) ⟨fun ds h2 => ds.length + 1 = n ∧ @Wc D (mm (o :: ds) h2) ⟨Q, X⟩, X⟩, X⟩ := by
  unfold mMeth; rw [wp_bind]; exact wc_eq fun _ _ => by rw [wp_guard, wp_bind]; congr 1; exact wc_eq fun _ _ => by rw [wp_fix]; simp
@[simp] theorem wp_prop : @Wc D (mProp x mm mo env h) ⟨Q, X⟩ = @Wc D (mo env h) ⟨fun o h1 => isInsB h1 x o = true ∧ @Wc D (mm [o] h1) ⟨Q, noEx⟩, X⟩ := by
  unfold mProp; rw [wp_bind]; exact wc_eq fun _ _ => by rw [wp_guard, wp_noX]
@[simp] theorem wp_make : @Wc D (mMake x n mm mas env h) ⟨Q, X⟩ = @Wc (List D) (mas env h) ⟨fun ds h1 => ds.length + 1 = n ∧ @Wc D (mm (.loc h1.length :: ds) (h1 ++ [.ins x []])) ⟨fun v h2 => @Wc D (fNon h1.length v h2) ⟨Q, X⟩, noEx⟩, X⟩ := by
  unfold mMake; rw [wp_bind]; exact wc_eq fun ds h1 => by
    rw [wp_bind, wp_noX]
    rw [show (@Wc D (mFix n mm (.loc h1.length :: ds) (h1 ++ [.ins x []])) ⟨fun a h => @Wc D (fNon h1.length a h) ⟨Q, X⟩, noEx⟩) = _ from wp_fix]
    simp
@[simp] theorem v_fnon : fNon l .non h = .ok (.loc l) h := (rfl)
@[simp] theorem v_fld : fFld tb f (.loc l) h = match h[l]? with | some (.ins x fs) => if okF tb x f = true then match fs.lookup f with | some d => .ok d h | none => .stuck else .stuck | _ => .stuck := (rfl)
@[simp] theorem v_hasM : hasM h x m (.loc l) = match h[l]? with | some (.ins y fs) => decide (y = x) && (fs.lookup m).isNone | _ => false := (rfl)
@[simp] theorem v_isIns : isInsB h x (.loc l) = match h[l]? with | some (.ins y _) => decide (y = x) | _ => false := (rfl)
@[simp] theorem ws_fldS : @Ws (mFldS tb f mo mv env h) ⟨nx, rt, bk, ct, ex⟩ = @Wc D (mv env h) ⟨fun y h1 => @Wc D (mo env h1) ⟨fun o h2 => @Wc _ (fFldS tb f o y h2) ⟨fun _ h3 => nx env h3, fun x ns vs h => ex x ns vs env h⟩, fun x ns vs h => ex x ns vs env h⟩, fun x ns vs h => ex x ns vs env h⟩ := by
  unfold mFldS; rw [ws_of]; exact wc_eq fun _ _ => by rw [ws_of]; exact wc_eq fun _ _ => by rw [ws_of]; rfl
@[simp] theorem ws_aug {i : Nat} {f : D → D → M → Res D} {me : ME} : @Ws (mAug i f me env h) ⟨nx, rt, bk, ct, ex⟩ = match env[i]? with
    | some (.va d) => @Wc D (me env h) ⟨fun y h1 => @Wc D (f d y h1) ⟨fun z h2 => nx (env.set i (.va z)) h2, fun x ns vs h => ex x ns vs env h⟩, fun x ns vs h => ex x ns vs env h⟩
    | _ => False := by
  unfold mAug
  cases e : env[i]? with
  | none => rfl
  | some s => cases s with
    | va d => dsimp only; rw [ws_of, wp_bind]; rfl
    | _ => rfl
@[simp] theorem v_fldS {y : D} : fFldS tb f (.loc l) y h = match h[l]? with | some (.ins x fs) => if okF tb x f = true ∧ fs.length < 1000 then .ok () (h.set l (.ins x (putFD f y fs))) else .stuck | _ => .stuck := (rfl)
@[simp] theorem ws_fldA {g : Int → Int → Int} : @Ws (mFldA tb f g mo mv env h) ⟨nx, rt, bk, ct, ex⟩ = @Wc D (mo env h) ⟨fun o h1 => @Wc D (fFld tb f o h1) ⟨fun x0 h2 => @Wc D (mv env h2) ⟨fun y h3 => @Wc _ (fFldA f g o (clsAt h1 o) x0 y h3) ⟨fun _ h4 => nx env h4, fun x ns vs h => ex x ns vs env h⟩, fun x ns vs h => ex x ns vs env h⟩, fun x ns vs h => ex x ns vs env h⟩, fun x ns vs h => ex x ns vs env h⟩ := by
  unfold mFldA; rw [ws_of]; exact wc_eq fun _ _ => by rw [ws_of]; exact wc_eq fun _ _ => by rw [ws_of]; exact wc_eq fun _ _ => by rw [ws_of]; rfl
@[simp] theorem v_fldA {g : Int → Int → Int} {c : Option Str} : fFldA f g (.loc l) c (.int i) (.int j) h = match h[l]? with | some (.ins x fs) => if c = some x ∧ fs.length < 1000 then .ok () (h.set l (.ins x (putFD f (.int (g i j)) fs))) else .stuck | _ => .stuck := (rfl)
@[simp] theorem v_clsAt : clsAt h (.loc l) = match h[l]? with | some (.ins x _) => some x | _ => none := (rfl)
@[simp] theorem v_mulB : fMulB (.int i) (.int j) h = if CMulB i j then .ok (.int (i * j)) h else .stuck := by simp [fMulB, fI]
@[simp] theorem v_fIT {g : Int → Int → D} : fI (fun _ _ => True) g (.int i) (.int j) h = .ok (g i j) h := by simp [fI]
@[simp] theorem v_isNN : fIsNN .non h = .ok (.bl false) h := (rfl)
theorem cmulB {i j : Int} {a b : Nat} (ha : i.natAbs < 2 ^ a) (hb : j.natAbs < 2 ^ b) (h : a + b ≤ 134217728) : CMulB i j := by
  have h1 := PySem.intBits_le_iff.mpr ha
  have h2 := PySem.intBits_le_iff.mpr hb
  unfold CMulB; omega
end
end LF
set_option Elab.async false
set_option linter.all false
set_option maxRecDepth 100000
set_option maxHeartbeats 4000000
/-! LFK: loops and properties in a def that is called while an exception is handled. -/
namespace LF
open PySem PySem.Spec L2
open PyProof.Rows hiding St
theorem roomH_in1 {k : Nat} {A : Around} (r : L2H.RoomH (k + 1) A) : L2H.RoomH k A.in1 :=
  ⟨by have := r.dp; show A.depth + 3 * k + 5 < _; omega, by have := r.un; show A.units + 1 + 16 * k + 200 < _; omega⟩
theorem getpropH {X : Cx} {CX : CXT} {k : Nat} {C p g a dx : Addr} {fs : List (Str × V)} {f : Str} {fd : FuncData} {ps : List Str} {sp : Sp} {E : XK} {pins : List (Addr × Obj)} {σ : St} {H : Hp} {s : Shared} {Q : VK} {b : Bool} {E' : Value → Shared → Prop} (I : Inv X pins σ H s) (ea : H a = some (.ins C dx fs)) (c : Cls X.K C) (hp : PropOf X.K C f p g)
    (F : L2H.FnH X.prog X.w X.K X.mg X.base CX k g fd ps sp) (hr : L2H.RoomH (k + 1) X.A) (hc : L2H.HotC X) (hb : Binds X.K fd ps []) (hx : Passes CX X.nox E) (h : sp [.ref a] H Q E) :
    wpAny (model X.prog X.w) X.A (getAttr (.ref a) f b) (EP X pins σ Q) E' s := by
  obtain ⟨q, hot, hq⟩ := hc
  obtain ⟨mA, O, _, _, _, _⟩ := ins_get I.hok ea
  obtain ⟨od, J, _⟩ := O.look
  obtain ⟨rest, hrec⟩ := hp.rec_
  have I1 := I.tok (s.toks + 1)
  have hl : ([Value.ref a] ++ []).length = ps.length := F.len _ _ _ _ h
  have hcl : (PySem.W.clsIn X.K C).isSome = true := by
    obtain ⟨cd, z, _⟩ := PySem.W.any_some c.hd
    rw [z]; rfl
  have P1 := I1.pin q (List.mem_append_left _ hq)
  have hpin : L2H.PinOk X.stack H { s with toks := s.toks + 1 } q := ⟨P1.1, P1.2.1, fun hm => (List.mem_cons.mp (I1.stkSub q.1 hm)).elim P1.2.2.1 P1.2.2.2.1, P1.2.2.2.2⟩
  refine PySem.W.get_bind I.kIn J (PySem.W.plainGet_of (c.get f)).1 (PySem.W.findObj_data hcl hp.at_ hp.get hp.tak) (PySem.W.plainGet_of (c.get f)).2 (wpAny_call (PySem.W.prop_get (s := { s with toks := s.toks + 1 }) I.kIn hrec ?_))
  refine codeAny_mono (F.run X.A.in1 X.stack { s with toks := s.toks + 1 } H ⟨[.ref a], []⟩ [.ref a] [.ref a] Q E q (roomH_in1 hr) ⟨hot.1, hot.2⟩ hpin I1.env0.in1 (hb _ [.ref a] I1.kIn hl) (.cons rfl .nil) h) fun r s' hq => ?_
  cases r with
  | error er => exact False.elim (hx pins σ H { s with toks := s.toks + 1 } er s' (I1.wish _) hq)
  | ok fl =>
    cases fl with
    | ret u =>
      obtain ⟨v, H', I3, rv, q3⟩ := I1.after hq
      show wpAny _ _ (handedOut u) _ _ _
      rw [PySem.W.handedOut_of (handed_of rv)]
      exact wpAny_pure ⟨v, H', I3, rv, q3⟩
    | next => exact False.elim hq
    | brk => exact False.elim hq
    | cont => exact False.elim hq
structure PDefH (P : Program) (w : World) (K : PySem.W.Frag) (mg : Str → Option Value) (base : Heap) (x m : Str) (k : Nat) (mm : List D → M → Res D) : Prop where
  ex : ∃ C p f fd ps, ps.length = 1 ∧ mg x = some (.ref C) ∧ Cls K C ∧ PropOf K C m p f ∧ Binds K fd ps [] ∧ L2H.FnH P w K mg base (L2N.CX P w) k f fd ps (spF ⟨K, mg⟩ 1 mm)
section
variable {X : Cx} {W : WX} {ex : Ex} {tg e a o iter : Expr} {ma mo : ME} {mas : MA} {pos p : Pos} {x m : Str} {k : Nat} {mm : List D → M → Res D} {mi : MI} {g : MG} {sl : List Nat} {msb : MS} {body : List Stmt}
theorem fe_propH (F : PDefH X.prog X.w X.K X.mg X.base x m k mm) (hr : L2H.RoomH (k + 1) X.A) (hc : L2H.HotC X) (ho : FE X W ex o mo) (hab : attributeBase o m X.env (eval o X.env) = eval o X.env := by rfl) : FE X W ex (.Attribute o m pos) (mProp x mm mo) := by
  obtain ⟨C, p, f, fd, ps, h1, h2, c, hp, hb, F⟩ := F.ex
  have P0 : PE X (.Attribute o m pos) (fun σ H Q => rdE (wo X) ex W mo σ H fun v H1 => ∃ a dx ws, v = .ref a ∧ H1 a = some (.ins C dx ws) ∧ spF ⟨X.K, X.mg⟩ 1 mm [.ref a] H1 Q (fun _ _ _ => False)) := by
    refine ⟨fun pins s σ H Q I h => ?_⟩
    refine attr_of hab (thn (ho.run pins s σ H _ I h) fun u s1 ⟨x, H1, I1, rx, a, dx, fs, ex, ea, q⟩ => ?_)
    subst ex
    obtain rfl : u = Value.ref a := rx
    exact getpropH I1 ea c hp F hr hc hb (passN X.nox) q
  refine PE.imp P0 fun σ H Q q => ?_
  obtain ⟨ι, h, env, rel, re, po⟩ := q
  refine ⟨ι, h, env, rel, re, post_bind po fun d g1 ι1 H1 v eq p1 k1 rel1 rv po1 => ?_⟩
  split at po1
  case isFalse => exact po1.elim
  rename_i hh
  unfold isInsB at hh
  split at hh
  case h_2 => cases hh
  rename_i l
  split at hh
  case h_2 => cases hh
  rename_i y fs el
  simp only [decide_eq_true_eq] at hh
  subst hh
  obtain ⟨a, C', dx, ws, rfl, ea, gm, q, kk⟩ := at_inst rel1 rv el
  have g2 : X.mg y = some (.ref C') := gm
  rw [h2] at g2; cases g2
  exact ⟨a, dx, ws, rfl, q, rfl, ι1, g1, [.loc l], rel1, RVs.one rv, post_noX po1⟩
def FIH (X : Cx) (W : WX) (ex : Ex) (tg iter : Expr) (m : MI) : Prop := L2H.PIH X tg iter (rdI (wo X) ex W m)
theorem PIH.imp {t t' : TI} (p : L2H.PIH X tg iter t) (h : ∀ σ H Q, t' σ H Q → t σ H Q) : L2H.PIH X tg iter t' := ⟨fun pins s σ H R I q => p.run pins s σ H R I (h σ H R q)⟩
theorem fi_range1H (hm : X.mg "range" = none) (hs : FA X W ex [a] mas) (hone : ∀ env h ds h', mas env h = .ok ds h' → ds.length = 1) (hg : Gl X "range" := by rfl) (hst : starEach [a] X.env = [(false, eval a X.env)] := by rfl) : FIH X W ex tg (.Call (.Name "range" p) [a] [] pos) (mRng mas) := by
  refine PIH.imp (L2H.pi_range1H hg hm hs hst) fun σ H R q => ?_
  obtain ⟨ι, h, env, rel, re, po⟩ := q
  refine ⟨ι, h, env, rel, re, post_bind po fun ds h1 ι1 H1 vs eq1 p1 k1 rel1 rv1 po1 => ?_⟩
  have hl := hone _ _ _ _ eq1
  unfold fRng at po1
  split at po1
  · split at po1
    case isFalse => exact po1.elim
    rename_i hz
    obtain ⟨v, rfl, r⟩ := rv1.eq1
    simp only [RV] at r; subst r
    exact ⟨_, rfl, hz.1, hz.2, po_ok rel1 (rg_ok _ _) po1⟩
  · simp at hl
  · exact po1.elim
theorem fs_forH (hp : PassesOwn (model X.prog X.w) X.A X.env X.xe) (hc : L2H.HotC X) (hi : FIH X W ex tg iter mi) (hg : FG X W ex tg sl g) (hb : FSs X W ex body msb) (hs : ∀ x, foldedSetIterable iter X.env x = pure x := by intro _; rfl) :
    FS X W ex (.For tg iter body [] pos) (mFor mi g msb) := PS.imp (L2H.ps_forH hp hc hi hg hb hs) fun D σ H q => for_imp (sl := sl) q
end
section
variable {P : Program} {w : World} {K : PySem.W.Frag} {mg : Str → Option Value} {base : Heap} {N : List Str} {qual : Str} {sc : Scope} {f : Addr} {cd : Value} {A : Around} {outer : List Env} {s : Shared} {H : Hp} {E : XK} {x m : Str} {st : Stmt} {ps : List Str} {k : Nat} {mb : MS}
theorem poH {p : Addr × Obj} : PassesOwn (model P w) (L2H.cxH (L2N.CX P w) P w K mg base N qual sc f cd A outer s H E p).A (L2H.cxH (L2N.CX P w) P w K mg base N qual sc f cd A outer s H E p).env (L2H.cxH (L2N.CX P w) P w K mg base N qual sc f cd A outer s H E p).xe := passes_of rfl
theorem pdefHOf (T : PAt K mg x m qual st ps) (hp : ps.length = 1) (S : FnScope N ps (defScope st))
    (body : ∀ (f : Addr) (cdv : Value) (A : Around) (outer : List Env) (s : Shared) (H : Hp) (E : XK) (p : Addr × Obj), L2H.Hot1 A p → L2H.RoomH k (A.deeper (envOfC qual (defScope st) s.heap.objs.size f cdv)) →
      FSs (L2H.cxH (L2N.CX P w) P w K mg base N qual (defScope st) f cdv A outer s H E p) (fun c d _ H => E c d H) none (defBody st) mb) : PDefH P w K mg base x m (k + 1) (mFn N.length 1 mb) := by
  obtain ⟨C, p, f, fd, F, gx, c, me, hb⟩ := T.ex
  have F' : L2H.FnH P w K mg base (L2N.CX P w) (k + 1) f fd ps (spF ⟨K, mg⟩ ps.length (mFn N.length ps.length mb)) := okH F S (fun vs H Q E h => h.1) fun cdv A outer s H vs Q E p hot hr hsp => ⟨_, body f cdv A outer s H E p hot hr, body_end hsp⟩
  rw [hp] at F'
  exact ⟨C, p, f, fd, ps, hp, gx, c, me, .all hb, F'⟩
end
end LF
set_option Elab.async false
set_option linter.all false
set_option maxRecDepth 100000
set_option maxHeartbeats 4000000
/-! LFL: sum of a list of ints. -/
namespace LF
open PySem PySem.Spec L2
open PyProof.Rows hiding St
theorem vals_ints : ∀ {ns : List Int} {its : List Value}, Vals (ns.map V.int) its → ∃ ts : List (Int × Tok), its = ts.map (fun p => Value.int p.1 p.2) ∧ ts.map (·.1) = ns
  | [], its, r => by cases r; exact ⟨[], rfl, rfl⟩
  | n :: ns, its, r => by
    cases r with
    | cons r rr =>
      obtain ⟨t, rfl⟩ := r
      obtain ⟨ts, rfl, h2⟩ := vals_ints rr
      exact ⟨(n, t) :: ts, rfl, by simp [h2]⟩
theorem preSum_ints (ts : List (Int × Tok)) : PySem.preSum (PySem.numAt ts.toArray) ts.toArray.size = (ts.map (·.1)).sum := by
  rw [PySem.preSum_eq, List.take_of_length_le (by simp)]
theorem call_sumL {X : Cx} (hc : X.calm = true) : CallR X (.builtin "sum") (fun vs H Q => ∃ (q : Addr) (ns : List Int), vs = [.ref q] ∧ SqL X.K H q (ns.map V.int) ∧ Q (.int ns.sum) H) := by
  intro pins s σ H xs us Q I rv h
  obtain ⟨q, ns, rfl, hq, po⟩ := h
  obtain ⟨u, rfl, ru⟩ := rv.one
  cases ru
  obtain ⟨its, r, pl, hsz⟩ := I.list hq
  obtain ⟨ts, rfl, h2⟩ := vals_ints r
  have hl : s.heap.IsList q (PySem.intItems ts.toArray) := by
    have := pl.isList
    simpa [PySem.intItems] using this
  refine PySem.sum_intListG (I.ok.hd hc) hl fun h' tk t' hk => ?_
  rw [preSum_ints, h2]
  exact ⟨.int _, H, I.kept (t' := tk) hk, ⟨t', rfl⟩, po⟩
def intsD : List D → Option (List Int)
  | [] => some []
  | .int i :: ds => match intsD ds with | some ns => some (i :: ns) | none => none
  | _ => none
theorem intsD_ok {G : Wo} {ι : List Addr} {H : Hp} : ∀ {ds : List D} {vs : List V} {ns : List Int}, intsD ds = some ns → RVs G ι H ds vs → vs = ns.map V.int
  | [], vs, ns, e, r => by cases e; simp only [RVs] at r; subst r; rfl
  | .int i :: ds, vs, ns, e, r => by
    simp only [intsD] at e
    split at e
    · rename_i ms e1
      cases e
      simp only [RVs] at r
      obtain ⟨v, w, rfl, r1, r2⟩ := r
      simp only [RV] at r1
      subst r1
      rw [intsD_ok e1 r2]; rfl
    · cases e
@[simp] theorem intsD_map : ∀ ns : List Int, intsD (ns.map D.int) = some ns
  | [] => rfl
  | n :: ns => by simp [intsD, intsD_map ns]
def fSum (ds : List D) (h : M) : Res D := match ds with
  | [.loc l] => match h[l]? with
    | some (.lst xs) => match intsD xs with | some ns => .ok (.int ns.sum) h | none => .stuck
    | _ => .stuck
  | _ => .stuck
theorem fe_sum {X : Cx} {W : WX} {ex : Ex} {e : Expr} {es : List Expr} {mas : MA} {pos p : Pos} (hm : X.mg "sum" = none) (hs : FA X W ex (e :: es) mas) (hc : X.calm = true := by rfl) (hg : Gl X "sum" := by rfl) (he : starEach (e :: es) X.env = (false, eval e X.env) :: starEach es X.env := by rfl) (hpl : (backTo pos (starEach es X.env)).any (·.1) = false := by rfl) :
    FE X W ex (.Call (.Name "sum" p) (e :: es) [] pos) (mL fSum mas) := by
  refine fe_callB (call_sumL hc) (fun E ι H h xs vs Q rel rx po => ?_) hm (by decide +kernel) hs hg (by decide) (by decide) he hpl
  unfold fSum at po
  split at po
  case h_2 => exact po.elim
  split at po
  case h_2 => exact po.elim
  rename_i ys e1
  split at po
  case h_2 => exact po.elim
  rename_i ns e2
  obtain ⟨v, rfl, r⟩ := rx.eq1
  obtain ⟨a, ws, rfl, ea, q, r2⟩ := at_lst rel r e1
  have := intsD_ok e2 r2
  subst this
  exact ⟨a, ns, rfl, SqL.of q, po_ok rel (by simp [RV]) po⟩
end LF
set_option Elab.async false
set_option linter.all false
set_option maxRecDepth 100000
set_option maxHeartbeats 4000000
/-! MA00: names as numbers to the base of 38. -/
namespace NW
open PySem L2 LF
def SGL : List Nat := [48, 49, 50, 51, 52, 53, 54, 55, 56, 57, 95, 97, 98, 99, 100, 101, 102, 103, 104, 105, 106, 107, 108, 109, 110, 111, 112, 113, 114, 115, 116, 117, 118, 119, 120, 121, 122]
theorem sg_lit : ("0123456789_abcdefghijklmnopqrstuvwxyz" : Str) = T SGL := by decide +kernel
theorem nil_lit : ("" : Str) = T [] := by decide +kernel
def sg (c : Nat) : Nat := SGL.getD c 0
theorem sg_at {c : Nat} (h : c < 37) : SGL[c]? = some (sg c) := by
  have hl : c < SGL.length := h
  unfold sg
  rw [List.getElem?_eq_getElem hl, List.getD_eq_getElem?_getD, List.getElem?_eq_getElem hl]; rfl
theorem sg_mem {c : Nat} (h : c < 37) : sg c ∈ SGL := List.mem_of_getElem? (sg_at h)
theorem sg_of {x : Nat} (h : x ∈ SGL) : ∃ c, c < 37 ∧ sg c = x := by
  obtain ⟨c, hc⟩ := List.mem_iff_getElem?.mp h
  have hl : c < 37 := (List.getElem?_eq_some_iff.mp hc).1
  exact ⟨c, hl, by rw [sg_at hl] at hc; exact Option.some.inj hc⟩
theorem sg_occ : ∀ c, c < 37 → Builtin.Str.occurrences (T SGL) (T [sg c]) 0 (T SGL).length 1 = [c] := by decide +kernel
theorem sg_lt : ∀ c, c < 37 → ∀ d, d < 37 → (sg c < sg d ↔ c < d) := by decide +kernel
theorem sg_inj {c d : Nat} (hc : c < 37) (hd : d < 37) (e : sg c = sg d) : c = d := by
  have h1 := sg_lt c hc d hd
  have h2 := sg_lt d hd c hc
  omega
theorem sg_find {c : Nat} (h : c < 37) : Txt.find (T SGL) (T [sg c]) = (c : Int) := by
  unfold Txt.find; rw [sg_occ c h]
/-- a name: 1 to 11 codes -/
structure IsN (cs : List Nat) : Prop where
  lo : 1 ≤ cs.length
  hi : cs.length ≤ 11
  all : ∀ c ∈ cs, c < 37
def nm (cs : List Nat) : List Nat := cs.map sg
@[simp] theorem nm_len {cs : List Nat} : (nm cs).length = cs.length := by simp [nm]
theorem nm_inj {a b : List Nat} (ha : ∀ c ∈ a, c < 37) (hb : ∀ c ∈ b, c < 37) (e : nm a = nm b) : a = b := by
  induction a generalizing b with
  | nil => cases b with
    | nil => rfl
    | cons d b => cases e
  | cons c a ih => cases b with
    | nil => cases e
    | cons d b =>
      simp only [nm, List.map_cons, List.cons.injEq] at e
      rw [sg_inj (ha c (by simp)) (hb d (by simp)) e.1, ih (fun x m => ha x (by simp [m])) (fun x m => hb x (by simp [m])) e.2]
/-! ### digits -/
def VL (ds : List Nat) : Int := ds.foldl (fun (w : Int) (d : Nat) => w * 38 + d) 0
theorem VL_snoc {ds : List Nat} {d : Nat} : VL (ds ++ [d]) = VL ds * 38 + d := by simp [VL]
theorem VL_app (a b : List Nat) : VL (a ++ b) = VL a * 38 ^ b.length + VL b := by
  have key : ∀ (b : List Nat) (w : Int), b.foldl (fun (w : Int) (d : Nat) => w * 38 + d) w = w * 38 ^ b.length + VL b := by
    intro b
    induction b with
    | nil => intro w; simp [VL]
    | cons d b ih =>
      intro w
      unfold VL
      rw [List.foldl_cons, List.foldl_cons, ih, ih, List.length_cons, Int.pow_succ]
      have : (0 * 38 + (d : Int)) = d := by omega
      rw [this, Int.add_mul, Int.mul_assoc, Int.mul_comm 38, Int.add_assoc]
  unfold VL
  rw [List.foldl_append, key]; rfl
theorem VL_bound {ds : List Nat} (h : ∀ d ∈ ds, d < 38) : 0 ≤ VL ds ∧ VL ds < 38 ^ ds.length := by
  induction ds with
  | nil => simp [VL]
  | cons d ds ih =>
    have ih := ih fun x m => h x (by simp [m])
    have e : VL (d :: ds) = (d : Int) * 38 ^ ds.length + VL ds := by
      have := VL_app [d] ds
      simpa [VL] using this
    have hd := h d (by simp)
    have hp : (0 : Int) < 38 ^ ds.length := Int.pow_pos (by decide)
    have h1 : (d : Int) * 38 ^ ds.length ≤ 37 * 38 ^ ds.length := Int.mul_le_mul_of_nonneg_right (by omega) (by omega)
    have h0 : 0 ≤ (d : Int) * 38 ^ ds.length := Int.mul_nonneg (by omega) (by omega)
    rw [e, List.length_cons, Int.pow_succ]
    omega
theorem VL_mod {ds : List Nat} {d : Nat} (hd : d < 38) : VL (ds ++ [d]) % 38 = d ∧ VL (ds ++ [d]) / 38 = VL ds := by
  rw [VL_snoc]; omega
theorem VL_zeros (n : Nat) : VL (List.replicate n 0) = 0 := by
  induction n with
  | zero => rfl
  | succ n ih => rw [List.replicate_succ', VL_snoc, ih]; rfl
/-- the digits of a number -/
def dgs : Nat → Int → List Nat
  | 0, _ => []
  | n + 1, w => dgs n (w / 38) ++ [(w % 38).toNat]
theorem dgs_len : ∀ (n : Nat) (w : Int), (dgs n w).length = n
  | 0, _ => rfl
  | n + 1, w => by simp [dgs, dgs_len n]
theorem dgs_lt : ∀ (n : Nat) (w : Int), ∀ d ∈ dgs n w, d < 38
  | 0, _, d, h => by simp [dgs] at h
  | n + 1, w, d, h => by
    simp only [dgs, List.mem_append, List.mem_singleton] at h
    rcases h with h | rfl
    · exact dgs_lt n _ d h
    · omega
theorem dgs_val : ∀ (n : Nat) (w : Int), 0 ≤ w → w < 38 ^ n → VL (dgs n w) = w
  | 0, w, h0, h1 => by simp at h1; simp [dgs, VL]; omega
  | n + 1, w, h0, h1 => by
    rw [Int.pow_succ] at h1
    have h2 : w / 38 < 38 ^ n := Int.ediv_lt_of_lt_mul (by decide) h1
    rw [dgs, VL_snoc, dgs_val n _ (by omega) h2]
    omega
/-- read from the right: the codes, if no digit is missing among them -/
def fs : List Nat → Option (List Nat)
  | [] => some []
  | d :: s => match fs s with
    | none => none
    | some cs => if 0 < d then some ((d - 1) :: cs) else if cs = [] then some [] else none
theorem fs_app_none {a b : List Nat} (h : fs b = none) : fs (a ++ b) = none := by
  induction a with
  | nil => exact h
  | cons d a ih => simp [fs, ih]
theorem fs_zeros (k : Nat) : fs (List.replicate k 0) = some [] := by
  induction k with
  | zero => rfl
  | succ k ih => simp [List.replicate_succ, fs, ih]
theorem fs_gap {k d : Nat} {q : List Nat} (hk : 0 < k) (hd : 0 < d) : fs (List.replicate k 0 ++ d :: q) = none := by
  induction k with
  | zero => omega
  | succ k ih =>
    rw [List.replicate_succ, List.cons_append]
    cases k with
    | zero =>
      simp only [List.replicate_zero, List.nil_append, fs]
      cases fs q with
      | none => rfl
      | some cs => simp [hd]
    | succ k =>
      have := ih (by omega)
      simp only [fs, this]
theorem fs_codes {cs : List Nat} {k : Nat} : fs (cs.map (· + 1) ++ List.replicate k 0) = some cs := by
  induction cs with
  | nil => simpa using fs_zeros k
  | cons c cs ih => simp [fs, ih]
theorem fs_len {ds cs : List Nat} (h : fs ds = some cs) : cs.length ≤ ds.length := by
  induction ds generalizing cs with
  | nil => cases h; simp
  | cons d ds ih =>
    simp only [fs] at h
    split at h
    · cases h
    · rename_i c e
      have := ih e
      split at h
      · cases h; simp; omega
      · split at h
        · cases h; simp
        · cases h
theorem fs_lt {ds cs : List Nat} (hd : ∀ d ∈ ds, d < 38) (h : fs ds = some cs) : ∀ c ∈ cs, c < 37 := by
  induction ds generalizing cs with
  | nil => cases h; simp
  | cons d ds ih =>
    simp only [fs] at h
    split at h
    · cases h
    · rename_i c e
      have := ih (fun x m => hd x (by simp [m])) e
      have h1 := hd d (by simp)
      split at h
      · cases h
        intro x hx
        simp only [List.mem_cons] at hx
        rcases hx with rfl | hx
        · omega
        · exact this x hx
      · split at h
        · cases h; simp
        · cases h
/-- the digits of a name -/
def pad (cs : List Nat) : List Nat := cs.map (· + 1) ++ List.replicate (11 - cs.length) 0
def W (cs : List Nat) : Int := VL (pad cs)
theorem pad_len {cs : List Nat} (h : cs.length ≤ 11) : (pad cs).length = 11 := by simp [pad]; omega
theorem pad_lt {cs : List Nat} (h : ∀ c ∈ cs, c < 37) : ∀ d ∈ pad cs, d < 38 := by
  intro d hd
  simp only [pad, List.mem_append, List.mem_map, List.mem_replicate] at hd
  rcases hd with ⟨c, hc, rfl⟩ | ⟨_, rfl⟩
  · have := h c hc; omega
  · decide
theorem pad_fs {cs : List Nat} : fs (pad cs) = some cs := fs_codes
theorem fs_pad {ds cs : List Nat} (h : fs ds = some cs) : ds = cs.map (· + 1) ++ List.replicate (ds.length - cs.length) 0 := by
  induction ds generalizing cs with
  | nil => cases h; rfl
  | cons d ds ih =>
    simp only [fs] at h
    split at h
    · cases h
    · rename_i c e
      have i := ih e
      have l := fs_len e
      split at h
      · rename_i hd
        cases h
        simp only [List.map_cons, List.length_cons, List.cons_append]
        rw [show ds.length + 1 - (c.length + 1) = ds.length - c.length from by omega, ← i]
        congr 1; omega
      · rename_i hd
        split at h
        · rename_i hc
          cases h
          subst hc
          have : d = 0 := by omega
          subst this
          simp only [List.map_nil, List.nil_append, List.length_nil, Nat.sub_zero, List.length_cons] at i ⊢
          rw [List.replicate_succ, ← i]
        · cases h
theorem W_bound {cs : List Nat} (h : IsN cs) : 0 < W cs ∧ W cs < 238572050223552512 := by
  have h1 := VL_bound (pad_lt h.all)
  rw [pad_len h.hi] at h1
  refine ⟨?_, ?_⟩
  · unfold W
    obtain ⟨c, cs', e⟩ : ∃ c cs', cs = c :: cs' := by
      cases cs with
      | nil => have := h.lo; simp at this
      | cons c cs' => exact ⟨c, cs', rfl⟩
    have e2 : pad cs = [c + 1] ++ (cs'.map (· + 1) ++ List.replicate (11 - cs.length) 0) := by unfold pad; rw [e]; rfl
    rw [e2, VL_app]
    have h2 : 0 ≤ VL (cs'.map (· + 1) ++ List.replicate (11 - cs.length) 0) := (VL_bound fun d hd => by
      refine pad_lt h.all d ?_
      rw [e2]; exact List.mem_append_right _ hd).1
    have hp : (0 : Int) < 38 ^ (cs'.map (· + 1) ++ List.replicate (11 - cs.length) 0).length := Int.pow_pos (by decide)
    have h3 : VL [c + 1] = (c + 1 : Nat) := by simp [VL]
    rw [h3]
    have h4 : 0 < ((c + 1 : Nat) : Int) * 38 ^ (cs'.map (· + 1) ++ List.replicate (11 - cs.length) 0).length := Int.mul_pos (by omega) hp
    omega
  · have : (38 : Int) ^ 11 = 238572050223552512 := by decide
    unfold W; omega
/-! ### order -/
def VP : Nat → List Nat → Int
  | 0, _ => 0
  | _ + 1, [] => 0
  | n + 1, c :: cs => (c + 1 : Nat) * 38 ^ n + VP n cs
theorem VP_bound : ∀ (n : Nat) (cs : List Nat), (∀ c ∈ cs, c < 37) → 0 ≤ VP n cs ∧ VP n cs < 38 ^ n
  | 0, _, _ => by simp [VP]
  | n + 1, [], _ => by
    have hp : (0 : Int) < 38 ^ (n + 1) := Int.pow_pos (by decide)
    simp only [VP]; omega
  | n + 1, c :: cs, h => by
    have ih := VP_bound n cs fun x m => h x (by simp [m])
    have hc := h c (by simp)
    have hp : (0 : Int) < 38 ^ n := Int.pow_pos (by decide)
    have h1 : ((c + 1 : Nat) : Int) * 38 ^ n ≤ 37 * 38 ^ n := Int.mul_le_mul_of_nonneg_right (by omega) (by omega)
    have h0 : 0 ≤ ((c + 1 : Nat) : Int) * 38 ^ n := Int.mul_nonneg (by omega) (by omega)
    simp only [VP, Int.pow_succ]
    omega
theorem VP_val : ∀ (n : Nat) (cs : List Nat), cs.length ≤ n → VL (cs.map (· + 1) ++ List.replicate (n - cs.length) 0) = VP n cs
  | 0, [], _ => rfl
  | n + 1, [], _ => by simpa [VP] using VL_zeros (n + 1)
  | n + 1, c :: cs, h => by
    have h' : cs.length ≤ n := by simpa using h
    have e : (c :: cs).map (· + 1) ++ List.replicate (n + 1 - (c :: cs).length) 0 = [c + 1] ++ (cs.map (· + 1) ++ List.replicate (n - cs.length) 0) := by
      simp
    rw [e, VL_app, VP_val n cs h']
    have hl : (cs.map (· + 1) ++ List.replicate (n - cs.length) 0).length = n := by simp; omega
    rw [hl]
    simp [VP, VL]
theorem W_VP {cs : List Nat} (h : cs.length ≤ 11) : W cs = VP 11 cs := VP_val 11 cs h
theorem VP_cmp : ∀ (n : Nat) (a b : List Nat), a.length ≤ n → b.length ≤ n → (∀ c ∈ a, c < 37) → (∀ c ∈ b, c < 37) → (nm a < nm b ↔ VP n a < VP n b) ∧ (a = b ↔ VP n a = VP n b)
  | 0, a, b, ha, hb, _, _ => by
    have : a = [] := List.eq_nil_of_length_eq_zero (by omega)
    subst this
    have : b = [] := List.eq_nil_of_length_eq_zero (by omega)
    subst this
    simp [VP, nm]
  | n + 1, [], [], _, _, _, _ => by simp [VP, nm]
  | n + 1, [], d :: b, _, _, _, hb => by
    have h1 := VP_bound n b fun x m => hb x (by simp [m])
    have hp : (0 : Int) < 38 ^ n := Int.pow_pos (by decide)
    have h4 : 0 < ((d + 1 : Nat) : Int) * 38 ^ n := Int.mul_pos (by omega) hp
    simp only [VP, nm, List.map_nil, List.map_cons]
    refine ⟨⟨fun _ => by omega, fun _ => List.nil_lt_cons _ _⟩, ⟨fun e => (by cases e), fun e => (by omega)⟩⟩
  | n + 1, c :: a, [], _, _, ha, _ => by
    have h1 := VP_bound n a fun x m => ha x (by simp [m])
    have hp : (0 : Int) < 38 ^ n := Int.pow_pos (by decide)
    have h4 : 0 < ((c + 1 : Nat) : Int) * 38 ^ n := Int.mul_pos (by omega) hp
    simp only [VP, nm, List.map_nil, List.map_cons]
    refine ⟨⟨fun h => absurd h (List.not_lt_nil _), fun _ => by omega⟩, ⟨fun e => (by cases e), fun e => (by omega)⟩⟩
  | n + 1, c :: a, d :: b, hla, hlb, ha, hb => by
    have ih := VP_cmp n a b (by simpa using hla) (by simpa using hlb) (fun x m => ha x (by simp [m])) (fun x m => hb x (by simp [m]))
    have b1 := VP_bound n a fun x m => ha x (by simp [m])
    have b2 := VP_bound n b fun x m => hb x (by simp [m])
    have hc := ha c (by simp)
    have hd := hb d (by simp)
    have hp : (0 : Int) < 38 ^ n := Int.pow_pos (by decide)
    have e1 : nm (c :: a) < nm (d :: b) ↔ c < d ∨ (c = d ∧ nm a < nm b) := by
      simp only [nm, List.map_cons, List.cons_lt_cons_iff, sg_lt c hc d hd]
      constructor
      · rintro (h | ⟨h1, h2⟩)
        · exact .inl h
        · exact .inr ⟨sg_inj hc hd h1, h2⟩
      · rintro (h | ⟨rfl, h2⟩)
        · exact .inl h
        · exact .inr ⟨rfl, h2⟩
    have k1 : c < d → VP (n + 1) (c :: a) < VP (n + 1) (d :: b) := fun h => by
      have : ((c + 1 : Nat) : Int) * 38 ^ n + 38 ^ n ≤ ((d + 1 : Nat) : Int) * 38 ^ n := by
        have h5 : ((c + 1 : Nat) : Int) * 38 ^ n + 38 ^ n = ((c + 2 : Nat) : Int) * 38 ^ n := by
          rw [show ((c + 2 : Nat) : Int) = ((c + 1 : Nat) : Int) + 1 from by omega, Int.add_mul, Int.one_mul]
        rw [h5]; exact Int.mul_le_mul_of_nonneg_right (by omega) (by omega)
      simp only [VP]; omega
    have k2 : d < c → VP (n + 1) (d :: b) < VP (n + 1) (c :: a) := fun h => by
      have : ((d + 1 : Nat) : Int) * 38 ^ n + 38 ^ n ≤ ((c + 1 : Nat) : Int) * 38 ^ n := by
        have h5 : ((d + 1 : Nat) : Int) * 38 ^ n + 38 ^ n = ((d + 2 : Nat) : Int) * 38 ^ n := by
          rw [show ((d + 2 : Nat) : Int) = ((d + 1 : Nat) : Int) + 1 from by omega, Int.add_mul, Int.one_mul]
        rw [h5]; exact Int.mul_le_mul_of_nonneg_right (by omega) (by omega)
      simp only [VP]; omega
    rcases Nat.lt_trichotomy c d with h | rfl | h
    · have := k1 h
      refine ⟨e1.trans ⟨fun _ => this, fun _ => .inl h⟩, ⟨fun e => (by cases e; omega), fun e => (by omega)⟩⟩
    · refine ⟨e1.trans ⟨fun z => ?_, fun z => .inr ⟨rfl, ih.1.mpr ?_⟩⟩, ⟨fun e => (by cases e; rfl), fun e => ?_⟩⟩
      · rcases z with z | ⟨_, z⟩
        · omega
        · have := ih.1.mp z; simp only [VP]; omega
      · simp only [VP] at z; omega
      · simp only [VP] at e
        rw [ih.2.mpr (by omega)]
    · have := k2 h
      refine ⟨e1.trans ⟨fun z => ?_, fun z => ?_⟩, ⟨fun e => (by cases e; omega), fun e => (by omega)⟩⟩
      · rcases z with z | ⟨z, _⟩ <;> omega
      · omega
theorem W_lt {a b : List Nat} (ha : IsN a) (hb : IsN b) : (nm a < nm b ↔ W a < W b) := by
  rw [W_VP ha.hi, W_VP hb.hi]; exact (VP_cmp 11 a b ha.hi hb.hi ha.all hb.all).1
theorem W_eq {a b : List Nat} (ha : IsN a) (hb : IsN b) : (a = b ↔ W a = W b) := by
  rw [W_VP ha.hi, W_VP hb.hi]; exact (VP_cmp 11 a b ha.hi hb.hi ha.all hb.all).2
end NW
set_option Elab.async false
set_option linter.all false
set_option maxRecDepth 100000
set_option maxHeartbeats 4000000
namespace K14
open PySem PySem.Spec L2 LF
open PyProof.Rows hiding St
/-! ### the text by places -/
def top (i : Nat) : Stmt := PySem.Challenge.pw_landfall_k14_both_sides_of_a_let.main.body.getD i (.Pass ⟨0, 0, 0, 0⟩)
abbrev s_Ledger_room : Stmt := stAt (clsBody (top 15)) 1
abbrev s_first_word_u : Stmt := top 9
abbrev s_is_sparing : Stmt := top 14
abbrev s_height_bound : Stmt := top 10
abbrev s_blocks_needed_u : Stmt := top 11
abbrev s_promise : Stmt := top 12
abbrev s_spare : Stmt := top 13
abbrev s_Ledger_is_let : Stmt := stAt (clsBody (top 15)) 2
abbrev s_law_height_u : Stmt := top 23
abbrev s_law_steps_u : Stmt := top 24
abbrev s_law_need_u : Stmt := top 25
abbrev s_law_spares_u : Stmt := top 22
abbrev s_law_bound_u : Stmt := top 30
abbrev s_law_name_u : Stmt := top 26
abbrev s_law_path_u : Stmt := top 27
abbrev s_law_call_u : Stmt := top 28
abbrev s_law_left_u : Stmt := top 29
abbrev s_Ledger__check_open : Stmt := stAt (clsBody (top 15)) 4
abbrev s_Ledger_cancel : Stmt := stAt (clsBody (top 15)) 6
abbrev s_Ledger_commit : Stmt := stAt (clsBody (top 15)) 5
abbrev s_Ledger_enter : Stmt := stAt (clsBody (top 15)) 3
abbrev s_law_is_u : Stmt := top 19
abbrev s_law_lets_u : Stmt := top 31
abbrev s_law_stands_u : Stmt := top 32
abbrev s_law_truth_u : Stmt := top 20
abbrev s_law_enters_u : Stmt := top 36
abbrev s_law_let_side_u : Stmt := top 37
abbrev s_Ledger___init__ : Stmt := stAt (clsBody (top 15)) 0
abbrev s_Ledger_checkpoint : Stmt := stAt (clsBody (top 15)) 8
abbrev s_Ledger_spend : Stmt := stAt (clsBody (top 15)) 7
abbrev s_law_words_u : Stmt := top 21
abbrev s_law_made_u : Stmt := top 34
abbrev s_law_pool_u : Stmt := top 33
abbrev s_law_is_refused_u : Stmt := top 35
abbrev s_law_refused_side_u : Stmt := top 38
abbrev s_law_case_u : Stmt := top 39
abbrev s_law_draws_u : Stmt := top 18
abbrev s_law_number_u : Stmt := top 17
abbrev s_law : Stmt := top 40
theorem sc_Ledger_room : FnScope ["self"] ["self"] (defScope s_Ledger_room) := ⟨rfl, rfl, rfl, by decide +kernel, rfl, by decide +kernel, by decide +kernel⟩
theorem sc_first_word_u : FnScope ["call"] ["call"] (defScope s_first_word_u) := ⟨rfl, rfl, rfl, by decide +kernel, rfl, by decide +kernel, by decide +kernel⟩
theorem sc_is_sparing : FnScope ["call"] ["call"] (defScope s_is_sparing) := ⟨rfl, rfl, rfl, by decide +kernel, rfl, by decide +kernel, by decide +kernel⟩
theorem sc_height_bound : FnScope ["pool", "height", "least_leaves"] ["pool"] (defScope s_height_bound) := ⟨rfl, rfl, rfl, by decide +kernel, rfl, by decide +kernel, by decide +kernel⟩
theorem sc_blocks_needed_u : FnScope ["word", "pool", "puts", "removals", "cuts", "cell_blocks", "height", "for_puts", "for_removals", "for_cuts"] ["word", "pool"] (defScope s_blocks_needed_u) := ⟨rfl, rfl, rfl, by decide +kernel, rfl, by decide +kernel, by decide +kernel⟩
theorem sc_promise : FnScope ["call", "pool", "word"] ["call", "pool"] (defScope s_promise) := ⟨rfl, rfl, rfl, by decide +kernel, rfl, by decide +kernel, by decide +kernel⟩
theorem sc_spare : FnScope ["pool"] ["pool"] (defScope s_spare) := ⟨rfl, rfl, rfl, by decide +kernel, rfl, by decide +kernel, by decide +kernel⟩
theorem sc_Ledger_is_let : FnScope ["self", "call", "need"] ["self", "call"] (defScope s_Ledger_is_let) := ⟨rfl, rfl, rfl, by decide +kernel, rfl, by decide +kernel, by decide +kernel⟩
theorem sc_law_height_u : FnScope ["pool", "height", "least", "k"] ["pool"] (defScope s_law_height_u) := ⟨rfl, rfl, rfl, by decide +kernel, rfl, by decide +kernel, by decide +kernel⟩
theorem sc_law_steps_u : FnScope ["word"] ["word"] (defScope s_law_steps_u) := ⟨rfl, rfl, rfl, by decide +kernel, rfl, by decide +kernel, by decide +kernel⟩
theorem sc_law_need_u : FnScope ["word", "height", "steps"] ["word", "height"] (defScope s_law_need_u) := ⟨rfl, rfl, rfl, by decide +kernel, rfl, by decide +kernel, by decide +kernel⟩
theorem sc_law_spares_u : FnScope ["word"] ["word"] (defScope s_law_spares_u) := ⟨rfl, rfl, rfl, by decide +kernel, rfl, by decide +kernel, by decide +kernel⟩
theorem sc_law_bound_u : FnScope ["word", "pool", "height"] ["word", "pool"] (defScope s_law_bound_u) := ⟨rfl, rfl, rfl, by decide +kernel, rfl, by decide +kernel, by decide +kernel⟩
theorem sc_law_name_u : FnScope ["number", "letters", "text", "rest", "k"] ["number"] (defScope s_law_name_u) := ⟨rfl, rfl, rfl, by decide +kernel, rfl, by decide +kernel, by decide +kernel⟩
theorem sc_law_path_u : FnScope ["number", "parts", "rest", "k"] ["number"] (defScope s_law_path_u) := ⟨rfl, rfl, rfl, by decide +kernel, rfl, by decide +kernel, by decide +kernel⟩
theorem sc_law_call_u : FnScope ["word", "drawn", "head", "path", "k"] ["word", "drawn"] (defScope s_law_call_u) := ⟨rfl, rfl, rfl, by decide +kernel, rfl, by decide +kernel, by decide +kernel⟩
theorem sc_law_left_u : FnScope ["state"] ["state"] (defScope s_law_left_u) := ⟨rfl, rfl, rfl, by decide +kernel, rfl, by decide +kernel, by decide +kernel⟩
theorem sc_Ledger__check_open : FnScope ["self", "need"] ["self", "need"] (defScope s_Ledger__check_open) := ⟨rfl, rfl, rfl, by decide +kernel, rfl, by decide +kernel, by decide +kernel⟩
theorem sc_Ledger_cancel : FnScope ["self", "need"] ["self", "need"] (defScope s_Ledger_cancel) := ⟨rfl, rfl, rfl, by decide +kernel, rfl, by decide +kernel, by decide +kernel⟩
theorem sc_Ledger_commit : FnScope ["self", "need"] ["self", "need"] (defScope s_Ledger_commit) := ⟨rfl, rfl, rfl, by decide +kernel, rfl, by decide +kernel, by decide +kernel⟩
theorem sc_Ledger_enter : FnScope ["self", "call", "need"] ["self", "call"] (defScope s_Ledger_enter) := ⟨rfl, rfl, rfl, by decide +kernel, rfl, by decide +kernel, by decide +kernel⟩
theorem sc_law_is_u : FnScope ["actual", "due"] ["actual", "due"] (defScope s_law_is_u) := ⟨rfl, rfl, rfl, by decide +kernel, rfl, by decide +kernel, by decide +kernel⟩
theorem sc_law_lets_u : FnScope ["word", "state"] ["word", "state"] (defScope s_law_lets_u) := ⟨rfl, rfl, rfl, by decide +kernel, rfl, by decide +kernel, by decide +kernel⟩
theorem sc_law_stands_u : FnScope ["ledger", "state", "told", "due", "k"] ["ledger", "state"] (defScope s_law_stands_u) := ⟨rfl, rfl, rfl, by decide +kernel, rfl, by decide +kernel, by decide +kernel⟩
theorem sc_law_truth_u : FnScope ["actual", "due"] ["actual", "due"] (defScope s_law_truth_u) := ⟨rfl, rfl, rfl, by decide +kernel, rfl, by decide +kernel, by decide +kernel⟩
theorem sc_law_enters_u : FnScope ["ledger", "state", "call", "need"] ["ledger", "state", "call"] (defScope s_law_enters_u) := ⟨rfl, rfl, rfl, by decide +kernel, rfl, by decide +kernel, by decide +kernel⟩
theorem sc_law_let_side_u : FnScope ["ledger", "state", "call", "need"] ["ledger", "state", "call"] (defScope s_law_let_side_u) := ⟨rfl, rfl, rfl, by decide +kernel, rfl, by decide +kernel, by decide +kernel⟩
theorem sc_Ledger___init__ : FnScope ["self", "pool", "used"] ["self", "pool", "used"] (defScope s_Ledger___init__) := ⟨rfl, rfl, rfl, by decide +kernel, rfl, by decide +kernel, by decide +kernel⟩
theorem sc_Ledger_checkpoint : FnScope ["self", "used"] ["self", "used"] (defScope s_Ledger_checkpoint) := ⟨rfl, rfl, rfl, by decide +kernel, rfl, by decide +kernel, by decide +kernel⟩
theorem sc_Ledger_spend : FnScope ["self", "call"] ["self", "call"] (defScope s_Ledger_spend) := ⟨rfl, rfl, rfl, by decide +kernel, rfl, by decide +kernel, by decide +kernel⟩
theorem sc_law_words_u : FnScope ["row"] [] (defScope s_law_words_u) := ⟨rfl, rfl, rfl, by decide +kernel, rfl, by decide +kernel, by decide +kernel⟩
theorem sc_law_made_u : FnScope ["pool", "target", "drawn", "words", "other", "need", "part", "extra", "more", "count", "ledger", "word", "moved"] ["pool", "target", "drawn"] (defScope s_law_made_u) := ⟨rfl, rfl, rfl, by decide +kernel, rfl, by decide +kernel, by decide +kernel⟩
theorem sc_law_pool_u : FnScope ["drawn", "least", "k", "word", "height"] ["drawn"] (defScope s_law_pool_u) := ⟨rfl, rfl, rfl, by decide +kernel, rfl, by decide +kernel, by decide +kernel⟩
theorem sc_law_is_refused_u : FnScope ["ledger", "state", "call", "need", "e"] ["ledger", "state", "call"] (defScope s_law_is_refused_u) := ⟨rfl, rfl, rfl, by decide +kernel, rfl, by decide +kernel, by decide +kernel⟩
theorem sc_law_refused_side_u : FnScope ["ledger", "state", "call", "count"] ["ledger", "state", "call"] (defScope s_law_refused_side_u) := ⟨rfl, rfl, rfl, by decide +kernel, rfl, by decide +kernel, by decide +kernel⟩
theorem sc_law_case_u : FnScope ["drawn", "pool", "word", "height", "need", "least", "rest", "menu", "made", "ledger", "state", "each", "call"] ["drawn"] (defScope s_law_case_u) := ⟨rfl, rfl, rfl, by decide +kernel, rfl, by decide +kernel, by decide +kernel⟩
theorem sc_law_draws_u : FnScope ["cell", "sizes", "drawn", "rest", "k", "mixed"] ["cell", "sizes"] (defScope s_law_draws_u) := ⟨rfl, rfl, rfl, by decide +kernel, rfl, by decide +kernel, by decide +kernel⟩
theorem sc_law_number_u : FnScope ["script", "k", "mixed", "cell"] ["script", "k"] (defScope s_law_number_u) := ⟨rfl, rfl, rfl, by decide +kernel, rfl, by decide +kernel, by decide +kernel⟩
theorem sc_law : FnScope ["script", "sizes", "k"] ["script"] (defScope s_law) := ⟨rfl, rfl, rfl, by decide +kernel, rfl, by decide +kernel, by decide +kernel⟩
/-! ### what the top has written -/
abbrev i_BadCall : Stmt := stAt (clsBody (top 2)) 0
abbrev i_BadPromise : Stmt := stAt (clsBody (top 5)) 0
abbrev i_NoSpace : Stmt := stAt (clsBody (top 4)) 0
def xTk : List ((Str × Str) × Bool) := [(("BadCall", "NoSpace"), false), (("BadPromise", "NoSpace"), false), (("NoSpace", "BadCall"), false), (("NoSpace", "BadPromise"), false), (("NoSpace", "LandfallError"), true), (("NoSpace", "NoSpace"), true), (("NoSpace", "PoolFull"), false)]
def xTt : List ((Str × String) × Bool) := [(("NoSpace", "ValueError"), true)]
def xFt : List (Str × Str) := [("NoSpace", "left"), ("NoSpace", "need")]
def xNm : List Str := ["NoSpace"]
def xCt : List (Str × List Str) := [("Ledger", ["pool", "used", "opened", "spent"])]
def kd_STEPS : List (Str × D) := [("create", (.ct [(.int 3), (.int 0), (.int 0), (.int 0)])), ("folder", (.ct [(.int 3), (.int 0), (.int 0), (.int 0)])), ("link", (.ct [(.int 2), (.int 0), (.int 0), (.int 0)])), ("rename", (.ct [(.int 3), (.int 2), (.int 1), (.int 0)])), ("remove", (.ct [(.int 1), (.int 1), (.int 1), (.int 0)])), ("rmdir", (.ct [(.int 1), (.int 1), (.int 1), (.int 0)])), ("write", (.ct [(.int 4), (.int 0), (.int 0), (.int 2)])), ("resize", (.ct [(.int 3), (.int 0), (.int 1), (.int 1)])), ("mark", (.ct [(.int 1), (.int 0), (.int 0), (.int 0)])), ("unmark", (.ct [(.int 0), (.int 1), (.int 0), (.int 0)])), ("rights", (.ct [(.int 1), (.int 0), (.int 0), (.int 0)])), ("give", (.ct [(.int 3), (.int 0), (.int 0), (.int 0)])), ("limit", (.ct [(.int 1), (.int 0), (.int 0), (.int 0)])), ("snapshot", (.ct [(.int 0), (.int 0), (.int 0), (.int 0)])), ("clone", (.ct [(.int 0), (.int 0), (.int 0), (.int 0)])), ("drop", (.ct [(.int 0), (.int 0), (.int 0), (.int 0)]))]
structure Top (P : Program) (w : World) (K : PySem.W.Frag) (mg : Str → Option Value) : Prop where
  f_Ledger_room : PAt K mg "Ledger" "room" "Ledger.room" s_Ledger_room ["self"]
  f_first_word_u : FnAt K mg "_first_word" "_first_word" s_first_word_u ["call"]
  f_is_sparing : FnAt K mg "is_sparing" "is_sparing" s_is_sparing ["call"]
  f_height_bound : FnAt K mg "height_bound" "height_bound" s_height_bound ["pool"]
  f_blocks_needed_u : FnAt K mg "_blocks_needed" "_blocks_needed" s_blocks_needed_u ["word", "pool"]
  f_promise : FnAt K mg "promise" "promise" s_promise ["call", "pool"]
  f_spare : FnAt K mg "spare" "spare" s_spare ["pool"]
  f_Ledger_is_let : MAt K mg "Ledger" "is_let" "Ledger.is_let" s_Ledger_is_let ["self", "call"]
  f_law_height_u : FnAt K mg "_law_height" "_law_height" s_law_height_u ["pool"]
  f_law_steps_u : FnAt K mg "_law_steps" "_law_steps" s_law_steps_u ["word"]
  f_law_need_u : FnAt K mg "_law_need" "_law_need" s_law_need_u ["word", "height"]
  f_law_spares_u : FnAt K mg "_law_spares" "_law_spares" s_law_spares_u ["word"]
  f_law_bound_u : FnAt K mg "_law_bound" "_law_bound" s_law_bound_u ["word", "pool"]
  f_law_name_u : FnAt K mg "_law_name" "_law_name" s_law_name_u ["number"]
  f_law_path_u : FnAt K mg "_law_path" "_law_path" s_law_path_u ["number"]
  f_law_call_u : FnAt K mg "_law_call" "_law_call" s_law_call_u ["word", "drawn"]
  f_law_left_u : FnAt K mg "_law_left" "_law_left" s_law_left_u ["state"]
  f_Ledger__check_open : MAt K mg "Ledger" "_check_open" "Ledger._check_open" s_Ledger__check_open ["self", "need"]
  f_Ledger_cancel : MAt K mg "Ledger" "cancel" "Ledger.cancel" s_Ledger_cancel ["self", "need"]
  f_Ledger_commit : MAt K mg "Ledger" "commit" "Ledger.commit" s_Ledger_commit ["self", "need"]
  f_Ledger_enter : MAt K mg "Ledger" "enter" "Ledger.enter" s_Ledger_enter ["self", "call"]
  f_law_is_u : FnAt K mg "_law_is" "_law_is" s_law_is_u ["actual", "due"]
  f_law_lets_u : FnAt K mg "_law_lets" "_law_lets" s_law_lets_u ["word", "state"]
  f_law_stands_u : FnAt K mg "_law_stands" "_law_stands" s_law_stands_u ["ledger", "state"]
  f_law_truth_u : FnAt K mg "_law_truth" "_law_truth" s_law_truth_u ["actual", "due"]
  f_law_enters_u : FnAt K mg "_law_enters" "_law_enters" s_law_enters_u ["ledger", "state", "call"]
  f_law_let_side_u : FnAt K mg "_law_let_side" "_law_let_side" s_law_let_side_u ["ledger", "state", "call"]
  f_Ledger___init__ : KAt K mg "Ledger" "Ledger.__init__" s_Ledger___init__ ["self", "pool", "used"]
  f_Ledger_checkpoint : MAt K mg "Ledger" "checkpoint" "Ledger.checkpoint" s_Ledger_checkpoint ["self", "used"]
  f_Ledger_spend : MAt K mg "Ledger" "spend" "Ledger.spend" s_Ledger_spend ["self", "call"]
  f_law_words_u : FnAt K mg "_law_words" "_law_words" s_law_words_u []
  f_law_made_u : FnAt K mg "_law_made" "_law_made" s_law_made_u ["pool", "target", "drawn"]
  f_law_pool_u : FnAt K mg "_law_pool" "_law_pool" s_law_pool_u ["drawn"]
  f_law_is_refused_u : FnAt K mg "_law_is_refused" "_law_is_refused" s_law_is_refused_u ["ledger", "state", "call"]
  f_law_refused_side_u : FnAt K mg "_law_refused_side" "_law_refused_side" s_law_refused_side_u ["ledger", "state", "call"]
  f_law_case_u : FnAt K mg "_law_case" "_law_case" s_law_case_u ["drawn"]
  f_law_draws_u : FnAt K mg "_law_draws" "_law_draws" s_law_draws_u ["cell", "sizes"]
  f_law_number_u : FnAt K mg "_law_number" "_law_number" s_law_number_u ["script", "k"]
  f_law : FnAt K mg "law" "law" s_law ["script"]
  x_ct : FTb K mg xCt
  z_range : mg "range" = none
  z_int : mg "int" = none
  z_len : mg "len" = none
  z_tuple : mg "tuple" = none
  z_isinstance : mg "isinstance" = none
  z_bool : mg "bool" = none
  z_sum : mg "sum" = none
  z_min : mg "min" = none
  z_max : mg "max" = none
  z_ValueError : mg "ValueError" = none
  k_Ledger : ∃ C : Addr, mg "Ledger" = some (.ref C)
  k_NoSpace : ∃ C : Addr, mg "NoSpace" = some (.ref C)
  k_LandfallError : ∃ C : Addr, mg "LandfallError" = some (.ref C)
  k_PoolFull : ∃ C : Addr, mg "PoolFull" = some (.ref C)
  k_BadPromise : ∃ C : Addr, mg "BadPromise" = some (.ref C)
  k_BadCall : ∃ C : Addr, mg "BadCall" = some (.ref C)
  g_SPARING : GCT K mg "SPARING" [(.str "remove"), (.str "rmdir"), (.str "unmark"), (.str "snapshot"), (.str "clone"), (.str "drop")]
  d_STEPS : CDT K mg w "STEPS" kd_STEPS
  x_BadCall : ∀ (w : World) (base : Heap), ExcOk P w K mg base "BadCall" 1 ["call"]
  x_BadPromise : ∀ (w : World) (base : Heap), ExcOk P w K mg base "BadPromise" 1 ["need"]
  x_NoSpace : ∀ (w : World) (base : Heap), ExcOk P w K mg base "NoSpace" 1 ["need", "left"]
  x_nm : ETab K mg xNm
  x_tk : XTab K mg xTk
  x_tt : TTab K mg xTt
  x_ft : FTab K mg xFt
/-! ### the plain functions -/
noncomputable def b_Ledger_room : MS := (mRet (m2 fSub (m2 fSub (m2 fSub (m1 (fFld xCt "pool") (mVar 0)) (m1 (fFld xCt "used") (mVar 0))) (m1 (fFld xCt "opened") (mVar 0))) (m1 (fFld xCt "spent") (mVar 0))))
@[irreducible] noncomputable def m_Ledger_room : List D → M → Res D := mFn 1 1 b_Ledger_room
noncomputable def b_first_word_u : MS := (mSeq (mIfS (mTest (m2 fEq (mL fLen (mCons (mVar 0) mNil)) (mC (.int 0))))
  (mRet (mC .non))
  mSkip)
  (mRet (m2 fIx (mVar 0) (mC (.int 0)))))
@[irreducible] noncomputable def m_first_word_u : List D → M → Res D := mFn 1 1 b_first_word_u
noncomputable def b_is_sparing : MS := (mRet (m2 fIn (mL (mFix 1 m_first_word_u) (mCons (mVar 0) mNil)) (mC (.ct [(.str "remove"), (.str "rmdir"), (.str "unmark"), (.str "snapshot"), (.str "clone"), (.str "drop")]))))
@[irreducible] noncomputable def m_is_sparing : List D → M → Res D := mFn 1 1 b_is_sparing
noncomputable def b_height_bound : MS := (mSeq (mSet 1 (mC (.int 1)))
  (mSeq (mSet 2 (mC (.int 2)))
  (mSeq (mWhile (10 ^ 9) (mTest (m2 fLe (mVar 2) (mVar 0)))
  (mSeq (mAug 1 (fI (fun _ _ => True) fun i j => .int (i + j)) (mC (.int 1)))
  (mSet 2 (m2 fMulX (mVar 2) (mC (.int 3))))))
  (mRet (mVar 1)))))
@[irreducible] noncomputable def m_height_bound : List D → M → Res D := mFn 3 1 b_height_bound
noncomputable def b_blocks_needed_u : MS := (mSeq (mAsg (m1 (fKd kd_STEPS) (mVar 0)) (gTp 4 (gCons' (gN 2) (gCons' (gN 3) (gCons' (gN 4) (gCons' (gN 5) gNil'))))))
  (mSeq (mSet 6 (mL (mFix 1 m_height_bound) (mCons (mVar 1) mNil)))
  (mSeq (mSet 7 (m2 fMulX (mVar 2) (m2 fAdd (m2 fMulX (mC (.int 2)) (mVar 6)) (mC (.int 1)))))
  (mSeq (mSet 8 (m2 fMulX (m2 fMulX (mVar 3) (mC (.int 2))) (mVar 6)))
  (mSeq (mSet 9 (m2 fMulX (m2 fMulX (mVar 4) (mC (.int 6))) (mVar 6)))
  (mRet (m2 fAdd (m2 fAdd (m2 fAdd (mVar 7) (mVar 8)) (mVar 9)) (mVar 5))))))))
@[irreducible] noncomputable def m_blocks_needed_u : List D → M → Res D := mFn 10 2 b_blocks_needed_u
noncomputable def b_promise : MS := (mSeq (mSet 2 (mL (mFix 1 m_first_word_u) (mCons (mVar 0) mNil)))
  (mSeq (mIfS (mTest (m1 (fKin true kd_STEPS) (mVar 2)))
  (mRaise "BadCall" ["call"] (mCons (mVar 0) mNil))
  mSkip)
  (mRet (mL (mFix 2 m_blocks_needed_u) (mCons (mVar 2) (mCons (mVar 1) mNil))))))
@[irreducible] noncomputable def m_promise : List D → M → Res D := mFn 3 2 b_promise
noncomputable def b_spare : MS := (mRet (mL (mFix 2 m_blocks_needed_u) (mCons (mC (.str "remove")) (mCons (mVar 0) mNil))))
@[irreducible] noncomputable def m_spare : List D → M → Res D := mFn 1 1 b_spare
noncomputable def b_Ledger_is_let : MS := (mSeq (mSet 2 (mL (mFix 2 m_promise) (mCons (mVar 1) (mCons (m1 (fFld xCt "pool") (mVar 0)) mNil))))
  (mSeq (mIfS (mTru (mL (mFix 1 m_is_sparing) (mCons (mVar 1) mNil)))
  (mRet (m2 fLe (mVar 2) (mProp "Ledger" m_Ledger_room (mVar 0))))
  mSkip)
  (mRet (m2 fLe (mVar 2) (m2 fSub (mProp "Ledger" m_Ledger_room (mVar 0)) (mL (mFix 1 m_spare) (mCons (m1 (fFld xCt "pool") (mVar 0)) mNil)))))))
@[irreducible] noncomputable def m_Ledger_is_let : List D → M → Res D := mFn 3 2 b_Ledger_is_let
noncomputable def b_law_height_u : MS := (mSeq (mSet 1 (mC (.int 1)))
  (mSeq (mSet 2 (mC (.int 2)))
  (mSeq (mFor (mRng (mCons (mC (.int 12)) mNil)) (gN 3)
  (mIfS (mTest (m2 fLe (mVar 2) (mVar 0)))
  (mSeq (mSet 1 (m2 fAdd (mVar 1) (mC (.int 1))))
  (mSet 2 (m2 fMulX (mVar 2) (mC (.int 3)))))
  mSkip))
  (mRet (mVar 1)))))
@[irreducible] noncomputable def m_law_height_u : List D → M → Res D := mFn 4 1 b_law_height_u
noncomputable def b_law_steps_u : MS := (mSeq (mIfS (mTest (m2 fIn (mVar 0) (mL fTup (mCons (mC (.str "create")) (mCons (mC (.str "folder")) (mCons (mC (.str "give")) mNil))))))
  (mRet (mL fLst (mCons (mC (.int 3)) (mCons (mC (.int 0)) (mCons (mC (.int 0)) (mCons (mC (.int 0)) mNil))))))
  mSkip)
  (mSeq (mIfS (mTest (m2 fEq (mVar 0) (mC (.str "link"))))
  (mRet (mL fLst (mCons (mC (.int 2)) (mCons (mC (.int 0)) (mCons (mC (.int 0)) (mCons (mC (.int 0)) mNil))))))
  mSkip)
  (mSeq (mIfS (mTest (m2 fEq (mVar 0) (mC (.str "rename"))))
  (mRet (mL fLst (mCons (mC (.int 3)) (mCons (mC (.int 2)) (mCons (mC (.int 1)) (mCons (mC (.int 0)) mNil))))))
  mSkip)
  (mSeq (mIfS (mTest (m2 fIn (mVar 0) (mL fTup (mCons (mC (.str "remove")) (mCons (mC (.str "rmdir")) mNil)))))
  (mRet (mL fLst (mCons (mC (.int 1)) (mCons (mC (.int 1)) (mCons (mC (.int 1)) (mCons (mC (.int 0)) mNil))))))
  mSkip)
  (mSeq (mIfS (mTest (m2 fEq (mVar 0) (mC (.str "write"))))
  (mRet (mL fLst (mCons (mC (.int 4)) (mCons (mC (.int 0)) (mCons (mC (.int 0)) (mCons (mC (.int 2)) mNil))))))
  mSkip)
  (mSeq (mIfS (mTest (m2 fEq (mVar 0) (mC (.str "resize"))))
  (mRet (mL fLst (mCons (mC (.int 3)) (mCons (mC (.int 0)) (mCons (mC (.int 1)) (mCons (mC (.int 1)) mNil))))))
  mSkip)
  (mSeq (mIfS (mTest (m2 fIn (mVar 0) (mL fTup (mCons (mC (.str "mark")) (mCons (mC (.str "rights")) (mCons (mC (.str "limit")) mNil))))))
  (mRet (mL fLst (mCons (mC (.int 1)) (mCons (mC (.int 0)) (mCons (mC (.int 0)) (mCons (mC (.int 0)) mNil))))))
  mSkip)
  (mSeq (mIfS (mTest (m2 fEq (mVar 0) (mC (.str "unmark"))))
  (mRet (mL fLst (mCons (mC (.int 0)) (mCons (mC (.int 1)) (mCons (mC (.int 0)) (mCons (mC (.int 0)) mNil))))))
  mSkip)
  (mRet (mL fLst (mCons (mC (.int 0)) (mCons (mC (.int 0)) (mCons (mC (.int 0)) (mCons (mC (.int 0)) mNil))))))))))))))
@[irreducible] noncomputable def m_law_steps_u : List D → M → Res D := mFn 1 1 b_law_steps_u
noncomputable def b_law_need_u : MS := (mSeq (mSet 2 (mL (mFix 1 m_law_steps_u) (mCons (mVar 0) mNil)))
  (mRet (m2 fAdd (m2 fAdd (m2 fAdd (m2 fMulX (m2 fIx (mVar 2) (mC (.int 0))) (m2 fAdd (m2 fMulX (mC (.int 2)) (mVar 1)) (mC (.int 1)))) (m2 fMulX (m2 fMulX (m2 fIx (mVar 2) (mC (.int 1))) (mC (.int 2))) (mVar 1))) (m2 fMulX (m2 fMulX (m2 fIx (mVar 2) (mC (.int 2))) (mC (.int 6))) (mVar 1))) (m2 fIx (mVar 2) (mC (.int 3))))))
@[irreducible] noncomputable def m_law_need_u : List D → M → Res D := mFn 3 2 b_law_need_u
noncomputable def b_law_spares_u : MS := (mRet (m2 fIn (mVar 0) (mL fTup (mCons (mC (.str "remove")) (mCons (mC (.str "rmdir")) (mCons (mC (.str "unmark")) (mCons (mC (.str "snapshot")) (mCons (mC (.str "clone")) (mCons (mC (.str "drop")) mNil)))))))))
@[irreducible] noncomputable def m_law_spares_u : List D → M → Res D := mFn 1 1 b_law_spares_u
noncomputable def b_law_bound_u : MS := (mSeq (mSet 2 (mL (mFix 1 m_law_height_u) (mCons (mVar 1) mNil)))
  (mSeq (mIfS (mTru (mL (mFix 1 m_law_spares_u) (mCons (mVar 0) mNil)))
  (mRet (mL (mFix 2 m_law_need_u) (mCons (mVar 0) (mCons (mVar 2) mNil))))
  mSkip)
  (mRet (m2 fAdd (m2 fAdd (mL (mFix 2 m_law_need_u) (mCons (mVar 0) (mCons (mVar 2) mNil))) (m2 fMulX (mC (.int 10)) (mVar 2))) (mC (.int 1))))))
@[irreducible] noncomputable def m_law_bound_u : List D → M → Res D := mFn 3 2 b_law_bound_u
noncomputable def b_law_name_u : MS := (mSeq (mSet 1 (mC (.str "0123456789_abcdefghijklmnopqrstuvwxyz")))
  (mSeq (mSet 2 (mC (.str "")))
  (mSeq (mSet 3 (m2 fDiv (mL fInt (mCons (mVar 0) mNil)) (mC (.int 11))))
  (mSeq (mFor (mRng (mCons (m2 fAdd (mC (.int 1)) (m2 fMod (mL fInt (mCons (mVar 0) mNil)) (mC (.int 11)))) mNil)) (gN 4)
  (mSeq (mSet 2 (m2 fAdd (mVar 2) (m2 fIx (mVar 1) (m2 fMod (mL fInt (mCons (mVar 3) mNil)) (mC (.int 37))))))
  (mSet 3 (m2 fDiv (mVar 3) (mC (.int 37))))))
  (mRet (mVar 2))))))
@[irreducible] noncomputable def m_law_name_u : List D → M → Res D := mFn 5 1 b_law_name_u
noncomputable def b_law_path_u : MS := (mSeq (mSet 1 (mL fLst mNil))
  (mSeq (mSet 2 (m2 fDiv (mL fInt (mCons (mVar 0) mNil)) (mC (.int 7))))
  (mSeq (mFor (mRng (mCons (m2 fMod (mL fInt (mCons (mVar 0) mNil)) (mC (.int 7))) mNil)) (gN 3)
  (mSeq (mDo (mBM "list" fAppend (mVar 1) (mCons (mL (mFix 1 m_law_name_u) (mCons (m2 fMod (mL fInt (mCons (mVar 2) mNil)) (mC (.int 20615771))) mNil)) mNil)))
  (mSet 2 (m2 fDiv (mVar 2) (mC (.int 20615771))))))
  (mRet (mL fTuple (mCons (mVar 1) mNil))))))
@[irreducible] noncomputable def m_law_path_u : List D → M → Res D := mFn 4 1 b_law_path_u
noncomputable def b_law_call_u : MS := (mSeq (mSet 2 (mL fTup (mCons (mVar 0) (mCons (m2 fIx (mVar 1) (mC (.int 0))) (mCons (mL (mFix 1 m_law_name_u) (mCons (m2 fIx (mVar 1) (mC (.int 1))) mNil)) mNil)))))
  (mSeq (mSet 3 (mL (mFix 1 m_law_path_u) (mCons (m2 fIx (mVar 1) (mC (.int 2))) mNil)))
  (mSeq (mIfS (mTest (m2 fIn (mVar 0) (mL fTup (mCons (mC (.str "snapshot")) (mCons (mC (.str "clone")) mNil)))))
  (mRet (m2 fAdd (mVar 2) (mL fTup (mCons (mL (mFix 1 m_law_name_u) (mCons (m2 fIx (mVar 1) (mC (.int 3))) mNil)) mNil))))
  mSkip)
  (mSeq (mIfS (mTest (m2 fEq (mVar 0) (mC (.str "drop"))))
  (mRet (mVar 2))
  mSkip)
  (mSeq (mIfS (mTest (m2 fEq (mVar 0) (mC (.str "limit"))))
  (mRet (m2 fAdd (mVar 2) (mL fTup (mCons (m2 fMod (mL fInt (mCons (m2 fIx (mVar 1) (mC (.int 4))) mNil)) (mC (.int 1000))) (mCons (m2 fIx (mL fLst (mCons (mC .non) (mCons (m2 fMod (mL fInt (mCons (m2 fIx (mVar 1) (mC (.int 5))) mNil)) (mC (.int 1000001))) mNil))) (m2 fMod (mL fInt (mCons (m2 fIx (mVar 1) (mC (.int 4))) mNil)) (mC (.int 2)))) mNil)))))
  mSkip)
  (mSeq (mIfS (mTest (m2 fEq (mVar 0) (mC (.str "charge"))))
  (mRet (m2 fAdd (mVar 2) (mL fTup (mCons (m2 fMod (mL fInt (mCons (m2 fIx (mVar 1) (mC (.int 4))) mNil)) (mC (.int 1000))) mNil))))
  mSkip)
  (mSeq (mIfS (mTest (m2 fIn (mVar 0) (mL fTup (mCons (mC (.str "link")) (mCons (mC (.str "rename")) mNil)))))
  (mRet (m2 fAdd (mVar 2) (mL fTup (mCons (mVar 3) (mCons (mL (mFix 1 m_law_path_u) (mCons (m2 fIx (mVar 1) (mC (.int 3))) mNil)) mNil)))))
  mSkip)
  (mSeq (mIfS (mTest (m2 fEq (mVar 0) (mC (.str "write"))))
  (mRet (m2 fAdd (mVar 2) (mL fTup (mCons (mVar 3) (mCons (m2 fIx (mVar 1) (mC (.int 4))) (mCons (mL fTuple (mCons (mLcN [4] (mRng (mCons (m2 fAdd (mC (.int 1)) (m2 fMod (mL fInt (mCons (m2 fIx (mVar 1) (mC (.int 0))) mNil)) (mC (.int 16)))) mNil)) (gN 4) mYes (m2 fAdd (m2 fIx (mVar 1) (mC (.int 5))) (mVar 4))) mNil)) mNil))))))
  mSkip)
  (mSeq (mIfS (mTest (m2 fEq (mVar 0) (mC (.str "read"))))
  (mRet (m2 fAdd (mVar 2) (mL fTup (mCons (mVar 3) (mCons (m2 fIx (mVar 1) (mC (.int 4))) (mCons (m2 fMod (mL fInt (mCons (m2 fIx (mVar 1) (mC (.int 0))) mNil)) (mC (.int 65))) mNil))))))
  mSkip)
  (mSeq (mIfS (mTest (m2 fEq (mVar 0) (mC (.str "resize"))))
  (mRet (m2 fAdd (mVar 2) (mL fTup (mCons (mVar 3) (mCons (m2 fIx (mVar 1) (mC (.int 4))) mNil)))))
  mSkip)
  (mSeq (mIfS (mTest (m2 fEq (mVar 0) (mC (.str "mark"))))
  (mRet (m2 fAdd (mVar 2) (mL fTup (mCons (mVar 3) (mCons (mL (mFix 1 m_law_name_u) (mCons (m2 fIx (mVar 1) (mC (.int 3))) mNil)) (mCons (m2 fIx (mVar 1) (mC (.int 5))) mNil))))))
  mSkip)
  (mSeq (mIfS (mTest (m2 fEq (mVar 0) (mC (.str "unmark"))))
  (mRet (m2 fAdd (mVar 2) (mL fTup (mCons (mVar 3) (mCons (mL (mFix 1 m_law_name_u) (mCons (m2 fIx (mVar 1) (mC (.int 3))) mNil)) mNil)))))
  mSkip)
  (mSeq (mIfS (mTest (m2 fEq (mVar 0) (mC (.str "rights"))))
  (mRet (m2 fAdd (mVar 2) (mL fTup (mCons (mVar 3) (mCons (m2 fMod (mL fInt (mCons (m2 fIx (mVar 1) (mC (.int 0))) mNil)) (mC (.int 64))) mNil)))))
  mSkip)
  (mSeq (mIfS (mTest (m2 fEq (mVar 0) (mC (.str "give"))))
  (mRet (m2 fAdd (mVar 2) (mL fTup (mCons (mVar 3) (mCons (m2 fMod (mL fInt (mCons (m2 fIx (mVar 1) (mC (.int 4))) mNil)) (mC (.int 1000))) mNil)))))
  mSkip)
  (mRet (m2 fAdd (mVar 2) (mL fTup (mCons (mVar 3) mNil))))))))))))))))))
@[irreducible] noncomputable def m_law_call_u : List D → M → Res D := mFn 5 2 b_law_call_u
noncomputable def b_law_left_u : MS := (mRet (m2 fSub (m2 fSub (m2 fSub (m2 fIx (mVar 0) (mC (.int 0))) (m2 fIx (mVar 0) (mC (.int 1)))) (m2 fIx (mVar 0) (mC (.int 2)))) (m2 fIx (mVar 0) (mC (.int 3)))))
@[irreducible] noncomputable def m_law_left_u : List D → M → Res D := mFn 1 1 b_law_left_u
noncomputable def b_Ledger__check_open : MS := (mIfS (mOrT (mTest (m2 fSLt (mVar 1) (mC (.int 0)))) (mTest (m2 fGt (mVar 1) (m1 (fFld xCt "opened") (mVar 0)))))
  (mRaise "BadPromise" ["need"] (mCons (mVar 1) mNil))
  mSkip)
@[irreducible] noncomputable def m_Ledger__check_open : List D → M → Res D := mFn 2 2 b_Ledger__check_open
noncomputable def b_Ledger_cancel : MS := (mSeq (mDo (mMeth "Ledger" "_check_open" 2 m_Ledger__check_open (mVar 0) (mCons (mVar 1) mNil)))
  (mFldA xCt "opened" (fun i j => i - j) (mVar 0) (mVar 1)))
@[irreducible] noncomputable def m_Ledger_cancel : List D → M → Res D := mFn 2 2 b_Ledger_cancel
noncomputable def b_Ledger_commit : MS := (mSeq (mDo (mMeth "Ledger" "_check_open" 2 m_Ledger__check_open (mVar 0) (mCons (mVar 1) mNil)))
  (mSeq (mFldA xCt "opened" (fun i j => i - j) (mVar 0) (mVar 1))
  (mFldA xCt "spent" (fun i j => i + j) (mVar 0) (mVar 1))))
@[irreducible] noncomputable def m_Ledger_commit : List D → M → Res D := mFn 2 2 b_Ledger_commit
noncomputable def b_Ledger_enter : MS := (mSeq (mSet 2 (mL (mFix 2 m_promise) (mCons (mVar 1) (mCons (m1 (fFld xCt "pool") (mVar 0)) mNil))))
  (mSeq (mIfS (mNotT (mTru (mMeth "Ledger" "is_let" 2 m_Ledger_is_let (mVar 0) (mCons (mVar 1) mNil))))
  (mRaise "NoSpace" ["need", "left"] (mCons (mVar 2) (mCons (mProp "Ledger" m_Ledger_room (mVar 0)) mNil)))
  mSkip)
  (mSeq (mFldA xCt "opened" (fun i j => i + j) (mVar 0) (mVar 2))
  (mRet (mVar 2)))))
@[irreducible] noncomputable def m_Ledger_enter : List D → M → Res D := mFn 3 2 b_Ledger_enter
noncomputable def b_law_is_u : MS := (mRet (mAndV (mL fIsI (mCons (mVar 0) (mCons (mC (.ty "int")) mNil))) (mAndV (mNotV (mL fIsI (mCons (mVar 0) (mCons (mC (.ty "bool")) mNil)))) (m2 fEq (mVar 0) (mVar 1)))))
@[irreducible] noncomputable def m_law_is_u : List D → M → Res D := mFn 2 2 b_law_is_u
noncomputable def b_law_lets_u : MS := (mRet (m2 fLe (mL (mFix 2 m_law_bound_u) (mCons (mVar 0) (mCons (m2 fIx (mVar 1) (mC (.int 0))) mNil))) (mL (mFix 1 m_law_left_u) (mCons (mVar 1) mNil))))
@[irreducible] noncomputable def m_law_lets_u : List D → M → Res D := mFn 2 2 b_law_lets_u
noncomputable def b_law_stands_u : MS := (mSeq (mSet 2 (mL fLst (mCons (m1 (fFld xCt "pool") (mVar 0)) (mCons (m1 (fFld xCt "used") (mVar 0)) (mCons (m1 (fFld xCt "opened") (mVar 0)) (mCons (m1 (fFld xCt "spent") (mVar 0)) (mCons (mProp "Ledger" m_Ledger_room (mVar 0)) mNil)))))))
  (mSeq (mSet 3 (m2 fAdd (mVar 1) (mL fLst (mCons (mL (mFix 1 m_law_left_u) (mCons (mVar 1) mNil)) mNil))))
  (mSeq (mFor (mRng (mCons (mC (.int 5)) mNil)) (gN 4)
  (mIfS (mNotT (mTru (mL (mFix 2 m_law_is_u) (mCons (m2 fIx (mVar 2) (mVar 4)) (mCons (m2 fIx (mVar 3) (mVar 4)) mNil)))))
  (mRet (mC (.bl false)))
  mSkip))
  (mRet (mC (.bl true))))))
@[irreducible] noncomputable def m_law_stands_u : List D → M → Res D := mFn 5 2 b_law_stands_u
noncomputable def b_law_truth_u : MS := (mRet (mAndV (mL fIsI (mCons (mVar 0) (mCons (mC (.ty "bool")) mNil))) (m2 fEq (mVar 0) (mVar 1))))
@[irreducible] noncomputable def m_law_truth_u : List D → M → Res D := mFn 2 2 b_law_truth_u
noncomputable def b_law_enters_u : MS := (mSeq (mSet 3 (mL (mFix 2 m_law_need_u) (mCons (m2 fIx (mVar 2) (mC (.int 0))) (mCons (mL (mFix 1 m_law_height_u) (mCons (m2 fIx (mVar 1) (mC (.int 0))) mNil)) mNil))))
  (mSeq (mIfS (mNotT (mTru (mL (mFix 2 m_law_truth_u) (mCons (mMeth "Ledger" "is_let" 2 m_Ledger_is_let (mVar 0) (mCons (mVar 2) mNil)) (mCons (mC (.bl true)) mNil)))))
  (mRet (mC (.bl false)))
  mSkip)
  (mSeq (mIfS (mNotT (mTru (mL (mFix 2 m_law_is_u) (mCons (mMeth "Ledger" "enter" 2 m_Ledger_enter (mVar 0) (mCons (mVar 2) mNil)) (mCons (mVar 3) mNil)))))
  (mRet (mC (.bl false)))
  mSkip)
  (mSeq (m3 fPut (mVar 1) (mC (.int 2)) (m2 fAdd (m2 fIx (mVar 1) (mC (.int 2))) (mVar 3)))
  (mSeq (mIfS (mNotT (mTru (mL (mFix 2 m_law_stands_u) (mCons (mVar 0) (mCons (mVar 1) mNil)))))
  (mRet (mC (.bl false)))
  mSkip)
  (mRet (mL (mFix 2 m_law_truth_u) (mCons (mMeth "Ledger" "is_let" 2 m_Ledger_is_let (mVar 0) (mCons (mVar 2) mNil)) (mCons (mL (mFix 2 m_law_lets_u) (mCons (m2 fIx (mVar 2) (mC (.int 0))) (mCons (mVar 1) mNil))) mNil)))))))))
@[irreducible] noncomputable def m_law_enters_u : List D → M → Res D := mFn 4 3 b_law_enters_u
noncomputable def b_law_let_side_u : MS := (mSeq (mSet 3 (mL (mFix 2 m_law_need_u) (mCons (m2 fIx (mVar 2) (mC (.int 0))) (mCons (mL (mFix 1 m_law_height_u) (mCons (m2 fIx (mVar 1) (mC (.int 0))) mNil)) mNil))))
  (mSeq (mIfS (mOrT (mNotT (mTru (mL (mFix 3 m_law_enters_u) (mCons (mVar 0) (mCons (mVar 1) (mCons (mVar 2) mNil)))))) (mTest (m1 fIsNN (mMeth "Ledger" "cancel" 2 m_Ledger_cancel (mVar 0) (mCons (mVar 3) mNil)))))
  (mRet (mC (.bl false)))
  mSkip)
  (mSeq (m3 fPut (mVar 1) (mC (.int 2)) (m2 fSub (m2 fIx (mVar 1) (mC (.int 2))) (mVar 3)))
  (mSeq (mIfS (mOrT (mNotT (mTru (mL (mFix 2 m_law_stands_u) (mCons (mVar 0) (mCons (mVar 1) mNil))))) (mNotT (mTru (mL (mFix 3 m_law_enters_u) (mCons (mVar 0) (mCons (mVar 1) (mCons (mVar 2) mNil)))))))
  (mRet (mC (.bl false)))
  mSkip)
  (mSeq (mIfS (mTest (m1 fIsNN (mMeth "Ledger" "commit" 2 m_Ledger_commit (mVar 0) (mCons (mVar 3) mNil))))
  (mRet (mC (.bl false)))
  mSkip)
  (mSeq (m3 fPut (mVar 1) (mC (.int 2)) (m2 fSub (m2 fIx (mVar 1) (mC (.int 2))) (mVar 3)))
  (mSeq (m3 fPut (mVar 1) (mC (.int 3)) (m2 fAdd (m2 fIx (mVar 1) (mC (.int 3))) (mVar 3)))
  (mSeq (mIfS (mNotT (mTru (mL (mFix 2 m_law_stands_u) (mCons (mVar 0) (mCons (mVar 1) mNil)))))
  (mRet (mC (.bl false)))
  mSkip)
  (mRet (mL (mFix 2 m_law_truth_u) (mCons (mMeth "Ledger" "is_let" 2 m_Ledger_is_let (mVar 0) (mCons (mVar 2) mNil)) (mCons (mL (mFix 2 m_law_lets_u) (mCons (m2 fIx (mVar 2) (mC (.int 0))) (mCons (mVar 1) mNil))) mNil))))))))))))
@[irreducible] noncomputable def m_law_let_side_u : List D → M → Res D := mFn 4 3 b_law_let_side_u
noncomputable def b_Ledger___init__ : MS := (mSeq (mFldS xCt "pool" (mVar 0) (mVar 1))
  (mSeq (mFldS xCt "used" (mVar 0) (mVar 2))
  (mSeq (mFldS xCt "opened" (mVar 0) (mC (.int 0)))
  (mFldS xCt "spent" (mVar 0) (mC (.int 0))))))
@[irreducible] noncomputable def m_Ledger___init__ : List D → M → Res D := mFn 3 3 b_Ledger___init__
noncomputable def b_Ledger_checkpoint : MS := (mSeq (mFldS xCt "used" (mVar 0) (mVar 1))
  (mFldS xCt "spent" (mVar 0) (mC (.int 0))))
@[irreducible] noncomputable def m_Ledger_checkpoint : List D → M → Res D := mFn 2 2 b_Ledger_checkpoint
noncomputable def b_Ledger_spend : MS := (mFldA xCt "spent" (fun i j => i + j) (mVar 0) (mL (mFix 2 m_promise) (mCons (mVar 1) (mCons (m1 (fFld xCt "pool") (mVar 0)) mNil))))
@[irreducible] noncomputable def m_Ledger_spend : List D → M → Res D := mFn 2 2 b_Ledger_spend
noncomputable def b_law_words_u : MS := (mSeq (mSet 0 (mL fLst (mCons (mC (.str "create")) (mCons (mC (.str "folder")) (mCons (mC (.str "link")) (mCons (mC (.str "rename")) (mCons (mC (.str "remove")) (mCons (mC (.str "rmdir")) (mCons (mC (.str "write")) (mCons (mC (.str "resize")) (mCons (mC (.str "mark")) (mCons (mC (.str "unmark")) mNil))))))))))))
  (mRet (m2 fAdd (mVar 0) (mL fLst (mCons (mC (.str "rights")) (mCons (mC (.str "give")) (mCons (mC (.str "limit")) (mCons (mC (.str "snapshot")) (mCons (mC (.str "clone")) (mCons (mC (.str "drop")) mNil))))))))))
@[irreducible] noncomputable def m_law_words_u : List D → M → Res D := mFn 1 0 b_law_words_u
noncomputable def b_law_made_u : MS := (mSeq (mSet 3 (mL m_law_words_u mNil))
  (mSeq (mSet 4 (m2 fIx (mVar 3) (m2 fIx (mVar 2) (mC (.int 0)))))
  (mSeq (mSet 5 (mL (mFix 2 m_law_need_u) (mCons (mVar 4) (mCons (mL (mFix 1 m_law_height_u) (mCons (mVar 0) mNil)) mNil))))
  (mSeq (mSet 6 (mC (.int 0)))
  (mSeq (mIfS (mTru (mL (mFix 2 m_law_lets_u) (mCons (mVar 4) (mCons (mL fLst (mCons (mVar 0) (mCons (mC (.int 0)) (mCons (mC (.int 0)) (mCons (mC (.int 0)) mNil))))) mNil))))
  (mSet 6 (m2 fMod (mL fInt (mCons (m2 fIx (mVar 2) (mC (.int 1))) mNil)) (m2 fAdd (mVar 5) (mC (.int 1)))))
  mSkip)
  (mSeq (mSet 7 (mSl (mL fLst (mCons (m2 fIx (mVar 3) (m2 fIx (mVar 2) (mC (.int 2)))) (mCons (m2 fIx (mVar 3) (m2 fIx (mVar 2) (mC (.int 3)))) mNil))) mNoPart (mPart (m2 fIx (mVar 2) (mC (.int 4))))))
  (mSeq (mSet 8 (mL fSum (mCons (mLcN [11] (mIter (mVar 7)) (gN 11) mYes (mL (mFix 2 m_law_need_u) (mCons (mVar 11) (mCons (mL (mFix 1 m_law_height_u) (mCons (mVar 0) mNil)) mNil)))) mNil)))
  (mSeq (mSet 1 (mL fMin (mCons (mVar 1) (mCons (mVar 0) mNil))))
  (mSeq (mIfS (mTest (m2 fSLt (m2 fSub (m2 fSub (mVar 0) (mVar 1)) (mVar 6)) (mVar 8)))
  (mSeq (mSet 7 (mL fLst mNil))
  (mSet 8 (mC (.int 0))))
  mSkip)
  (mSeq (mIfS (mTest (m2 fSLt (m2 fSub (mVar 0) (mVar 1)) (mVar 6)))
  (mSet 6 (mC (.int 0)))
  mSkip)
  (mSeq (mIfS (mTest (m2 fSLt (m2 fAdd (m2 fAdd (mVar 1) (mVar 6)) (mVar 8)) (mC (.int 0))))
  (mSet 1 (mC (.int 0)))
  mSkip)
  (mSeq (mSet 9 (m2 fSub (m2 fSub (m2 fSub (mVar 0) (mVar 1)) (mVar 6)) (mVar 8)))
  (mSeq (mIfS (mAndT (mTest (m2 fEq (mVar 6) (mC (.int 0)))) (mTest (m2 fEq (m2 fIx (mVar 2) (mC (.int 5))) (mC (.int 0)))))
  (mSet 10 (mMake "Ledger" 3 m_Ledger___init__ (mCons (mVar 0) (mCons (mVar 9) mNil))))
  (mSeq (mSet 10 (mMake "Ledger" 3 m_Ledger___init__ (mCons (mVar 0) (mCons (mC (.int 0)) mNil))))
  (mSeq (mIfS (mTest (m2 fGt (mVar 6) (mC (.int 0))))
  (mSeq (mDo (mMeth "Ledger" "enter" 2 m_Ledger_enter (mVar 10) (mCons (mL (mFix 2 m_law_call_u) (mCons (mVar 4) (mCons (mSl (mVar 2) (mPart (mC (.int 7))) mNoPart) mNil))) mNil)))
  (mDo (mMeth "Ledger" "cancel" 2 m_Ledger_cancel (mVar 10) (mCons (m2 fSub (mVar 5) (mVar 6)) mNil))))
  mSkip)
  (mDo (mMeth "Ledger" "checkpoint" 2 m_Ledger_checkpoint (mVar 10) (mCons (mVar 9) mNil))))))
  (mSeq (mFor (mIter (mVar 7)) (gN 11)
  (mDo (mMeth "Ledger" "spend" 2 m_Ledger_spend (mVar 10) (mCons (mL (mFix 2 m_law_call_u) (mCons (mVar 11) (mCons (mSl (mVar 2) (mPart (mC (.int 7))) mNoPart) mNil))) mNil))))
  (mSeq (mSet 12 (m2 fMod (mL fInt (mCons (m2 fIx (mVar 2) (mC (.int 6))) mNil)) (m2 fAdd (mVar 6) (mC (.int 1)))))
  (mSeq (mDo (mMeth "Ledger" "commit" 2 m_Ledger_commit (mVar 10) (mCons (mVar 12) mNil)))
  (mRet (mL fLst (mCons (mVar 10) (mCons (mL fLst (mCons (mVar 0) (mCons (mVar 9) (mCons (m2 fSub (mVar 6) (mVar 12)) (mCons (m2 fAdd (mVar 8) (mVar 12)) mNil))))) mNil))))))))))))))))))))
@[irreducible] noncomputable def m_law_made_u : List D → M → Res D := mFn 13 3 b_law_made_u
noncomputable def b_law_pool_u : MS := (mSeq (mIfS (mTest (m2 fEq (m2 fIx (mVar 0) (mC (.int 0))) (mC (.int 0))))
  (mRet (m2 fAdd (mC (.int 1)) (m2 fIx (mVar 0) (mC (.int 1)))))
  mSkip)
  (mSeq (mIfS (mTest (m2 fEq (m2 fIx (mVar 0) (mC (.int 0))) (mC (.int 1))))
  (mSeq (mSet 1 (mC (.int 2)))
  (mSeq (mFor (mRng (mCons (m2 fIx (mVar 0) (mC (.int 2))) mNil)) (gN 2)
  (mSet 1 (m2 fMulX (mVar 1) (mC (.int 3)))))
  (mRet (m2 fSub (m2 fAdd (mVar 1) (m2 fIx (mVar 0) (mC (.int 3)))) (mC (.int 1))))))
  mSkip)
  (mSeq (mIfS (mTest (m2 fEq (m2 fIx (mVar 0) (mC (.int 0))) (mC (.int 4))))
  (mSeq (mSet 3 (m2 fIx (mL m_law_words_u mNil) (m2 fIx (mVar 0) (mC (.int 4)))))
  (mSeq (mSet 4 (m2 fAdd (mC (.int 2)) (m2 fIx (mVar 0) (mC (.int 2)))))
  (mSeq (mSet 1 (mL (mFix 2 m_law_need_u) (mCons (mVar 3) (mCons (mVar 4) mNil))))
  (mSeq (mIfS (mNotT (mTru (mL (mFix 1 m_law_spares_u) (mCons (mVar 3) mNil))))
  (mSet 1 (m2 fAdd (m2 fAdd (mVar 1) (m2 fMulX (mC (.int 10)) (mVar 4))) (mC (.int 1))))
  mSkip)
  (mRet (mL fMax (mCons (mC (.int 1)) (mCons (m2 fSub (mVar 1) (m2 fMod (mL fInt (mCons (m2 fIx (mVar 0) (mC (.int 3))) mNil)) (mC (.int 2)))) mNil))))))))
  mSkip)
  (mRet (m2 fAdd (mC (.int 1)) (m2 fMod (mL fInt (mCons (m2 fIx (mVar 0) (mC (.int 1))) mNil)) (m2 fIx (mL fLst (mCons (mC (.int 60)) (mCons (mC (.int 600)) mNil))) (m2 fSub (m2 fIx (mVar 0) (mC (.int 0))) (mC (.int 2))))))))))
@[irreducible] noncomputable def m_law_pool_u : List D → M → Res D := mFn 5 1 b_law_pool_u
noncomputable def b_law_is_refused_u : MS := (mSeq (mSet 3 (mL (mFix 2 m_law_need_u) (mCons (m2 fIx (mVar 2) (mC (.int 0))) (mCons (mL (mFix 1 m_law_height_u) (mCons (m2 fIx (mVar 1) (mC (.int 0))) mNil)) mNil))))
  (mSeq (mIfS (mNotT (mTru (mL (mFix 2 m_law_truth_u) (mCons (mMeth "Ledger" "is_let" 2 m_Ledger_is_let (mVar 0) (mCons (mVar 2) mNil)) (mCons (mC (.bl false)) mNil)))))
  (mRet (mC (.bl false)))
  mSkip)
  (mSeq (mTryAs xTk "NoSpace" 4
  (mDo (mMeth "Ledger" "enter" 2 m_Ledger_enter (mVar 0) (mCons (mVar 2) mNil)))
  (fun x ns xs => (mSeq (mIfS (mOrT (mNotT (mTru (mIsX xNm xTk xTt x 4 (mC (.cls "LandfallError"))))) (mNotT (mTru (mIsX xNm xTk xTt x 4 (mC (.ty "ValueError"))))))
  (mRet (mC (.bl false)))
  mSkip)
  (mSeq (mIfS (mTru (mIsX xNm xTk xTt x 4 (mL fTup (mCons (mC (.cls "BadCall")) (mCons (mC (.cls "BadPromise")) (mCons (mC (.cls "PoolFull")) mNil))))))
  (mRet (mC (.bl false)))
  mSkip)
  (mSeq (mIfS (mOrT (mNotT (mTru (mL (mFix 2 m_law_is_u) (mCons (mXf xFt x ns xs 4 "need") (mCons (mVar 3) mNil))))) (mNotT (mTru (mL (mFix 2 m_law_is_u) (mCons (mXf xFt x ns xs 4 "left") (mCons (mL (mFix 1 m_law_left_u) (mCons (mVar 1) mNil)) mNil))))))
  (mRet (mC (.bl false)))
  mSkip)
  (mRet (mL (mFix 2 m_law_stands_u) (mCons (mVar 0) (mCons (mVar 1) mNil)))))))))
  (mRet (mC (.bl false))))))
@[irreducible] noncomputable def m_law_is_refused_u : List D → M → Res D := mFn 5 3 b_law_is_refused_u
noncomputable def b_law_refused_side_u : MS := (mSeq (mIfS (mOrT (mNotT (mTru (mL (mFix 3 m_law_is_refused_u) (mCons (mVar 0) (mCons (mVar 1) (mCons (mVar 2) mNil)))))) (mNotT (mTru (mL (mFix 3 m_law_is_refused_u) (mCons (mVar 0) (mCons (mVar 1) (mCons (mVar 2) mNil)))))))
  (mRet (mC (.bl false)))
  mSkip)
  (mSeq (mSet 3 (m2 fSub (m2 fSub (m2 fIx (mVar 1) (mC (.int 0))) (m2 fIx (mVar 1) (mC (.int 2)))) (mL (mFix 2 m_law_bound_u) (mCons (m2 fIx (mVar 2) (mC (.int 0))) (mCons (m2 fIx (mVar 1) (mC (.int 0))) mNil)))))
  (mSeq (mIfS (mTest (m2 fSLt (mVar 3) (mC (.int 0))))
  (mRet (mC (.bl true)))
  mSkip)
  (mSeq (m3 fPut (mVar 1) (mC (.int 3)) (mC (.int 0)))
  (mSeq (mIfS (mTest (m2 fSLt (mVar 3) (m2 fIx (mVar 1) (mC (.int 0)))))
  (mSeq (m3 fPut (mVar 1) (mC (.int 1)) (m2 fAdd (mVar 3) (mC (.int 1))))
  (mIfS (mOrT (mTest (m1 fIsNN (mMeth "Ledger" "checkpoint" 2 m_Ledger_checkpoint (mVar 0) (mCons (m2 fAdd (mVar 3) (mC (.int 1))) mNil)))) (mNotT (mTru (mL (mFix 3 m_law_is_refused_u) (mCons (mVar 0) (mCons (mVar 1) (mCons (mVar 2) mNil)))))))
  (mRet (mC (.bl false)))
  mSkip))
  mSkip)
  (mSeq (m3 fPut (mVar 1) (mC (.int 1)) (mVar 3))
  (mSeq (mIfS (mTest (m1 fIsNN (mMeth "Ledger" "checkpoint" 2 m_Ledger_checkpoint (mVar 0) (mCons (mVar 3) mNil))))
  (mRet (mC (.bl false)))
  mSkip)
  (mRet (mL (mFix 3 m_law_enters_u) (mCons (mVar 0) (mCons (mVar 1) (mCons (mVar 2) mNil))))))))))))
@[irreducible] noncomputable def m_law_refused_side_u : List D → M → Res D := mFn 4 3 b_law_refused_side_u
noncomputable def b_law_case_u : MS := (mSeq (mSet 1 (mL (mFix 1 m_law_pool_u) (mCons (mVar 0) mNil)))
  (mSeq (mSet 2 (m2 fIx (mL m_law_words_u mNil) (m2 fIx (mVar 0) (mC (.int 4)))))
  (mSeq (mSet 3 (mL (mFix 1 m_law_height_u) (mCons (mVar 1) mNil)))
  (mSeq (mSet 4 (mL (mFix 2 m_law_need_u) (mCons (mVar 2) (mCons (mVar 3) mNil))))
  (mSeq (mSet 5 (mL (mFix 2 m_law_bound_u) (mCons (mVar 2) (mCons (mVar 1) mNil))))
  (mSeq (mSet 6 (m2 fAdd (m2 fMulX (mC (.int 10)) (mVar 3)) (mC (.int 1))))
  (mSeq (mSet 7 (mL fLst (mCons (mVar 5) (mCons (m2 fSub (mVar 5) (mC (.int 1))) (mCons (mVar 4) (mCons (m2 fSub (mVar 4) (mC (.int 1))) (mCons (m2 fAdd (mVar 4) (mVar 6)) (mCons (m2 fSub (m2 fAdd (mVar 4) (mVar 6)) (mC (.int 1))) (mCons (m2 fMod (mL fInt (mCons (m2 fIx (mVar 0) (mC (.int 6))) mNil)) (m2 fAdd (mVar 1) (mC (.int 1)))) mNil)))))))))
  (mSeq (mSet 8 (mL (mFix 3 m_law_made_u) (mCons (mVar 1) (mCons (m2 fIx (mVar 7) (m2 fIx (mVar 0) (mC (.int 5)))) (mCons (mSl (mVar 0) (mPart (mC (.int 7))) mNoPart) mNil)))))
  (mSeq (mSet 9 (m2 fIx (mVar 8) (mC (.int 0))))
  (mSeq (mSet 10 (m2 fIx (mVar 8) (mC (.int 1))))
  (mSeq (mIfS (mNotT (mTru (mL (mFix 2 m_law_stands_u) (mCons (mVar 9) (mCons (mVar 10) mNil)))))
  (mRet (mC (.bl false)))
  mSkip)
  (mSeq (mFor (mIter (mL m_law_words_u mNil)) (gN 11)
  (mIfS (mNotT (mTru (mL (mFix 2 m_law_truth_u) (mCons (mMeth "Ledger" "is_let" 2 m_Ledger_is_let (mVar 9) (mCons (mL (mFix 2 m_law_call_u) (mCons (mVar 11) (mCons (mSl (mVar 0) (mPart (mC (.int 14))) mNoPart) mNil))) mNil)) (mCons (mL (mFix 2 m_law_lets_u) (mCons (mVar 11) (mCons (mVar 10) mNil))) mNil)))))
  (mRet (mC (.bl false)))
  mSkip))
  (mSeq (mSet 12 (mL (mFix 2 m_law_call_u) (mCons (mVar 2) (mCons (mSl (mVar 0) (mPart (mC (.int 14))) mNoPart) mNil))))
  (mSeq (mIfS (mTest (m2 fGe (mL (mFix 1 m_law_left_u) (mCons (mVar 10) mNil)) (mVar 5)))
  (mRet (mL (mFix 3 m_law_let_side_u) (mCons (mVar 9) (mCons (mVar 10) (mCons (mVar 12) mNil)))))
  mSkip)
  (mRet (mL (mFix 3 m_law_refused_side_u) (mCons (mVar 9) (mCons (mVar 10) (mCons (mVar 12) mNil)))))))))))))))))))
@[irreducible] noncomputable def m_law_case_u : List D → M → Res D := mFn 13 1 b_law_case_u
noncomputable def b_law_draws_u : MS := (mSeq (mSet 2 (mL fLst mNil))
  (mSeq (mSet 3 (mVar 0))
  (mSeq (mFor (mRng (mCons (mL fLen (mCons (mVar 1) mNil)) mNil)) (gN 4)
  (mIfS (mTest (m2 fGe (mVar 0) (mC (.int 1000000000000000000))))
  (mSeq (mDo (mBM "list" fAppend (mVar 2) (mCons (m2 fMod (mL fInt (mCons (mVar 3) mNil)) (m2 fIx (mVar 1) (mVar 4))) mNil)))
  (mSet 3 (m2 fDiv (mVar 3) (m2 fIx (mVar 1) (mVar 4)))))
  (mSeq (mSet 5 (m2 fMod (mL fInt (mCons (m2 fAdd (m2 fAdd (m2 fMulB (mVar 0) (mC (.int 48271))) (m2 fMulB (mC (.int 69621)) (mVar 4))) (mC (.int 69621))) mNil)) (mC (.int 2147483647))))
  (mDo (mBM "list" fAppend (mVar 2) (mCons (m2 fMod (m2 fMod (mL fInt (mCons (m2 fMulB (mVar 5) (m2 fAdd (m2 fAdd (mVar 5) (mC (.int 16807))) (mVar 4))) mNil)) (mC (.int 2147483629))) (m2 fIx (mVar 1) (mVar 4))) mNil))))))
  (mRet (mVar 2)))))
@[irreducible] noncomputable def m_law_draws_u : List D → M → Res D := mFn 6 2 b_law_draws_u
noncomputable def b_law_number_u : MS := (mSeq (mIfS (mAndT (mTest (m2 fSLt (mVar 1) (mL fLen (mCons (mVar 0) mNil)))) (mTest (m2 fSLt (mVar 1) (mC (.int 63)))))
  (mRet (m2 fIx (mVar 0) (mVar 1)))
  mSkip)
  (mSeq (mSet 2 (m2 fAdd (mVar 1) (mC (.int 1))))
  (mSeq (mFor (mIter (mSl (mVar 0) mNoPart (mPart (mC (.int 3))))) (gN 3)
  (mSet 2 (m2 fMod (mL fInt (mCons (m2 fAdd (m2 fMulB (mVar 2) (mC (.int 69621))) (mVar 3)) mNil)) (mC (.int 2147483647)))))
  (mRet (m2 fMod (mL fInt (mCons (m2 fAdd (m2 fMulB (mVar 2) (mC (.int 48271))) (m2 fMulB (mC (.int 433494437)) (mVar 1))) mNil)) (mC (.int 2147483629)))))))
@[irreducible] noncomputable def m_law_number_u : List D → M → Res D := mFn 4 2 b_law_number_u
noncomputable def b_law : MS := (mSeq (mSet 1 (mL fLst (mCons (mC (.int 5)) (mCons (mC (.int 99995)) (mCons (mC (.int 10)) (mCons (mC (.int 3)) (mCons (mC (.int 16)) (mCons (mC (.int 7)) (mCons (mC (.int 99996)) (mCons (mC (.int 16)) (mCons (mC (.int 200003)) (mCons (mC (.int 16)) (mCons (mC (.int 16)) (mCons (mC (.int 3)) (mCons (mC (.int 2)) (mCons (mC (.int 1009)) (mCons (mC (.int 1000)) (mCons (mC (.int 1957093839574064543)) (mCons (mC (.int (10 ^ 45))) mNil)))))))))))))))))))
  (mSeq (mSet 1 (m2 fAdd (mVar 1) (mL fLst (mCons (mC (.int (10 ^ 45))) (mCons (mC (.int 999985)) (mCons (mC (.int 2305843009213693935)) mNil))))))
  (mSeq (mFor (mRng (mCons (m2 fAdd (mC (.int 1)) (m2 fIx (mL (mFix 2 m_law_draws_u) (mCons (mL (mFix 2 m_law_number_u) (mCons (mVar 0) (mCons (mC (.int 0)) mNil))) (mCons (mL fLst (mCons (mC (.int 6)) mNil)) mNil))) (mC (.int 0)))) mNil)) (gN 2)
  (mIfS (mNotT (mTru (mL (mFix 1 m_law_case_u) (mCons (mL (mFix 2 m_law_draws_u) (mCons (mL (mFix 2 m_law_number_u) (mCons (mVar 0) (mCons (m2 fAdd (mC (.int 1)) (mVar 2)) mNil))) (mCons (mVar 1) mNil))) mNil))))
  (mRet (mC (.bl false)))
  mSkip))
  (mRet (mC (.bl true))))))
@[irreducible] noncomputable def m_law : List D → M → Res D := mFn 3 1 b_law
/-! ### the derivations -/
section
variable {P : Program} {w : World} {K : PySem.W.Frag} {mg : Str → Option Value} {base : Heap}
theorem bd_Ledger_room (T : Top P w K mg) (f : Addr) (cdv : Value) (A : Around) (outer : List Env) (s : Shared) (H : Hp) (E : XK) (hr : Room 0 (A.deeper (envOfC "Ledger.room" (defScope s_Ledger_room) s.heap.objs.size f cdv))) :
    FSs (cxOf (L2N.CX P w) P w K mg base ["self"] "Ledger.room" (defScope s_Ledger_room) f cdv A outer s H E) (fun c d _ H => E c d H) none (defBody s_Ledger_room) b_Ledger_room :=
  have hu := L2H.roomH_of hr
  (fs_one (fs_ret (fe_sub (fe_sub (fe_sub (fe_fld T.x_ct (fv 0)) (fe_fld T.x_ct (fv 0))) (fe_fld T.x_ct (fv 0))) (fe_fld T.x_ct (fv 0)))))
theorem bdh_Ledger_room (T : Top P w K mg) (f : Addr) (cdv : Value) (A : Around) (outer : List Env) (s : Shared) (H : Hp) (E : XK) (p : Addr × Obj) (hot : L2H.Hot1 A p) (hu : L2H.RoomH 0 (A.deeper (envOfC "Ledger.room" (defScope s_Ledger_room) s.heap.objs.size f cdv))) :
    FSs (L2H.cxH (L2N.CX P w) P w K mg base ["self"] "Ledger.room" (defScope s_Ledger_room) f cdv A outer s H E p) (fun c d _ H => E c d H) none (defBody s_Ledger_room) b_Ledger_room :=
  (fs_one (fs_ret (fe_sub (fe_sub (fe_sub (fe_fld T.x_ct (fv 0)) (fe_fld T.x_ct (fv 0))) (fe_fld T.x_ct (fv 0))) (fe_fld T.x_ct (fv 0)))))
theorem okh_Ledger_room (T : Top P w K mg) : PDefH P w K mg base "Ledger" "room" 1 m_Ledger_room := by unfold m_Ledger_room; exact pdefHOf T.f_Ledger_room rfl sc_Ledger_room (bdh_Ledger_room T)
theorem ok_Ledger_room (T : Top P w K mg) : PDef P w K mg base "Ledger" "room" 1 m_Ledger_room := by unfold m_Ledger_room; exact pdefOf T.f_Ledger_room rfl sc_Ledger_room (bd_Ledger_room T)
theorem bd_first_word_u (T : Top P w K mg) (f : Addr) (cdv : Value) (A : Around) (outer : List Env) (s : Shared) (H : Hp) (E : XK) (hr : Room 0 (A.deeper (envOfC "_first_word" (defScope s_first_word_u) s.heap.objs.size f cdv))) :
    FSs (cxOf (L2N.CX P w) P w K mg base ["call"] "_first_word" (defScope s_first_word_u) f cdv A outer s H E) (fun c d _ H => E c d H) none (defBody s_first_word_u) b_first_word_u :=
  have hu := L2H.roomH_of hr
  (fs_cons (fs_if (ft_c1 (fc_eq hu (fe_len (by decide +kernel) T.z_len (fa_cons (fv 0) fa_nil)) fe_int))
  (fs_one (fs_ret fe_non))
  fs_nil)
  (fs_one (fs_ret (fe_ix hu (fv 0) fe_int))))
theorem ok_first_word_u (T : Top P w K mg) : Def P w K mg base "_first_word" 1 1 m_first_word_u := by unfold m_first_word_u; exact defOf T.f_first_word_u sc_first_word_u (bd_first_word_u T)
theorem bd_is_sparing (T : Top P w K mg) (f : Addr) (cdv : Value) (A : Around) (outer : List Env) (s : Shared) (H : Hp) (E : XK) (hr : Room 1 (A.deeper (envOfC "is_sparing" (defScope s_is_sparing) s.heap.objs.size f cdv))) :
    FSs (cxOf (L2N.CX P w) P w K mg base ["call"] "is_sparing" (defScope s_is_sparing) f cdv A outer s H E) (fun c d _ H => E c d H) none (defBody s_is_sparing) b_is_sparing :=
  have hu := L2H.roomH_of hr
  (fs_one (fs_ret (fe_c1 (fc_in hu (fe_call (ok_first_word_u T) tkD (hr.mono (by decide)) (fa_cons (fv 0) fa_nil)) (fe_gct T.g_SPARING)))))
theorem ok_is_sparing (T : Top P w K mg) : Def P w K mg base "is_sparing" 2 1 m_is_sparing := by unfold m_is_sparing; exact defOf T.f_is_sparing sc_is_sparing (bd_is_sparing T)
theorem bd_height_bound (T : Top P w K mg) (f : Addr) (cdv : Value) (A : Around) (outer : List Env) (s : Shared) (H : Hp) (E : XK) (hr : Room 0 (A.deeper (envOfC "height_bound" (defScope s_height_bound) s.heap.objs.size f cdv))) :
    FSs (cxOf (L2N.CX P w) P w K mg base ["pool", "height", "least_leaves"] "height_bound" (defScope s_height_bound) f cdv A outer s H E) (fun c d _ H => E c d H) none (defBody s_height_bound) b_height_bound :=
  have hu := L2H.roomH_of hr
  (fs_cons (fs_set (i := 1) sc_height_bound.nd fe_int)
  (fs_cons (fs_set (i := 2) sc_height_bound.nd fe_int)
  (fs_cons (fs_while (10 ^ 9) poD (ft_c1 (fc_le (fv 2) (fv 0)))
  (fs_cons (fs_augadd (i := 1) sc_height_bound.nd fe_int)
  (fs_one (fs_set (i := 2) sc_height_bound.nd (fe_mulX (fv 2) fe_int)))))
  (fs_one (fs_ret (fv 1))))))
theorem ok_height_bound (T : Top P w K mg) : Def P w K mg base "height_bound" 1 1 m_height_bound := by unfold m_height_bound; exact defOf T.f_height_bound sc_height_bound (bd_height_bound T)
theorem bd_blocks_needed_u (T : Top P w K mg) (f : Addr) (cdv : Value) (A : Around) (outer : List Env) (s : Shared) (H : Hp) (E : XK) (hr : Room 1 (A.deeper (envOfC "_blocks_needed" (defScope s_blocks_needed_u) s.heap.objs.size f cdv))) :
    FSs (cxOf (L2N.CX P w) P w K mg base ["word", "pool", "puts", "removals", "cuts", "cell_blocks", "height", "for_puts", "for_removals", "for_cuts"] "_blocks_needed" (defScope s_blocks_needed_u) f cdv A outer s H E) (fun c d _ H => E c d H) none (defBody s_blocks_needed_u) b_blocks_needed_u :=
  have hu := L2H.roomH_of hr
  (fs_cons (fs_asg (fe_kix T.d_STEPS (fv 0)) (fg_tup (fgs_cons (fg_name (i := 2) sc_blocks_needed_u.nd) (fgs_cons (fg_name (i := 3) sc_blocks_needed_u.nd) (fgs_cons (fg_name (i := 4) sc_blocks_needed_u.nd) (fgs_cons (fg_name (i := 5) sc_blocks_needed_u.nd) fgs_nil))))))
  (fs_cons (fs_set (i := 6) sc_blocks_needed_u.nd (fe_call (ok_height_bound T) tkD (hr.mono (by decide)) (fa_cons (fv 1) fa_nil)))
  (fs_cons (fs_set (i := 7) sc_blocks_needed_u.nd (fe_mulX (fv 2) (fe_add (fe_mulX fe_int (fv 6)) fe_int)))
  (fs_cons (fs_set (i := 8) sc_blocks_needed_u.nd (fe_mulX (fe_mulX (fv 3) fe_int) (fv 6)))
  (fs_cons (fs_set (i := 9) sc_blocks_needed_u.nd (fe_mulX (fe_mulX (fv 4) fe_int) (fv 6)))
  (fs_one (fs_ret (fe_add (fe_add (fe_add (fv 7) (fv 8)) (fv 9)) (fv 5)))))))))
theorem ok_blocks_needed_u (T : Top P w K mg) : Def P w K mg base "_blocks_needed" 2 2 m_blocks_needed_u := by unfold m_blocks_needed_u; exact defOf T.f_blocks_needed_u sc_blocks_needed_u (bd_blocks_needed_u T)
theorem bd_promise (T : Top P w K mg) (f : Addr) (cdv : Value) (A : Around) (outer : List Env) (s : Shared) (H : Hp) (E : XK) (hr : Room 2 (A.deeper (envOfC "promise" (defScope s_promise) s.heap.objs.size f cdv))) :
    FSs (cxOf (L2N.CX P w) P w K mg base ["call", "pool", "word"] "promise" (defScope s_promise) f cdv A outer s H E) (fun c d _ H => E c d H) none (defBody s_promise) b_promise :=
  have hu := L2H.roomH_of hr
  (fs_cons (fs_set (i := 2) sc_promise.nd (fe_call (ok_first_word_u T) tkD (hr.mono (by decide)) (fa_cons (fv 0) fa_nil)))
  (fs_cons (fs_if (ft_c1 (fc_knin T.d_STEPS (fv 2)))
  (fs_one (fs_raise (T.x_BadCall _ _) tkD (hr.mono (by decide)) (fa_cons (fv 0) fa_nil)))
  fs_nil)
  (fs_one (fs_ret (fe_call (ok_blocks_needed_u T) tkD (hr.mono (by decide)) (fa_cons (fv 2) (fa_cons (fv 1) fa_nil)))))))
theorem ok_promise (T : Top P w K mg) : Def P w K mg base "promise" 3 2 m_promise := by unfold m_promise; exact defOf T.f_promise sc_promise (bd_promise T)
theorem bd_spare (T : Top P w K mg) (f : Addr) (cdv : Value) (A : Around) (outer : List Env) (s : Shared) (H : Hp) (E : XK) (hr : Room 2 (A.deeper (envOfC "spare" (defScope s_spare) s.heap.objs.size f cdv))) :
    FSs (cxOf (L2N.CX P w) P w K mg base ["pool"] "spare" (defScope s_spare) f cdv A outer s H E) (fun c d _ H => E c d H) none (defBody s_spare) b_spare :=
  have hu := L2H.roomH_of hr
  (fs_one (fs_ret (fe_call (ok_blocks_needed_u T) tkD (hr.mono (by decide)) (fa_cons fe_str (fa_cons (fv 0) fa_nil)))))
theorem ok_spare (T : Top P w K mg) : Def P w K mg base "spare" 3 1 m_spare := by unfold m_spare; exact defOf T.f_spare sc_spare (bd_spare T)
theorem bd_Ledger_is_let (T : Top P w K mg) (f : Addr) (cdv : Value) (A : Around) (outer : List Env) (s : Shared) (H : Hp) (E : XK) (hr : Room 3 (A.deeper (envOfC "Ledger.is_let" (defScope s_Ledger_is_let) s.heap.objs.size f cdv))) :
    FSs (cxOf (L2N.CX P w) P w K mg base ["self", "call", "need"] "Ledger.is_let" (defScope s_Ledger_is_let) f cdv A outer s H E) (fun c d _ H => E c d H) none (defBody s_Ledger_is_let) b_Ledger_is_let :=
  have hu := L2H.roomH_of hr
  (fs_cons (fs_set (i := 2) sc_Ledger_is_let.nd (fe_call (ok_promise T) tkD (hr.mono (by decide)) (fa_cons (fv 1) (fa_cons (fe_fld T.x_ct (fv 0)) fa_nil))))
  (fs_cons (fs_if (ft_tru (fe_call (ok_is_sparing T) tkD (hr.mono (by decide)) (fa_cons (fv 1) fa_nil)))
  (fs_one (fs_ret (fe_c1 (fc_le (fv 2) (fe_prop (ok_Ledger_room T) (hr.mono (by decide)) (fv 0))))))
  fs_nil)
  (fs_one (fs_ret (fe_c1 (fc_le (fv 2) (fe_sub (fe_prop (ok_Ledger_room T) (hr.mono (by decide)) (fv 0)) (fe_call (ok_spare T) tkD (hr.mono (by decide)) (fa_cons (fe_fld T.x_ct (fv 0)) fa_nil)))))))))
theorem ok_Ledger_is_let (T : Top P w K mg) : MDef P w K mg base "Ledger" "is_let" 4 2 m_Ledger_is_let := by unfold m_Ledger_is_let; exact mdefOf T.f_Ledger_is_let sc_Ledger_is_let (bd_Ledger_is_let T)
theorem bd_law_height_u (T : Top P w K mg) (f : Addr) (cdv : Value) (A : Around) (outer : List Env) (s : Shared) (H : Hp) (E : XK) (hr : Room 0 (A.deeper (envOfC "_law_height" (defScope s_law_height_u) s.heap.objs.size f cdv))) :
    FSs (cxOf (L2N.CX P w) P w K mg base ["pool", "height", "least", "k"] "_law_height" (defScope s_law_height_u) f cdv A outer s H E) (fun c d _ H => E c d H) none (defBody s_law_height_u) b_law_height_u :=
  have hu := L2H.roomH_of hr
  (fs_cons (fs_set (i := 1) sc_law_height_u.nd fe_int)
  (fs_cons (fs_set (i := 2) sc_law_height_u.nd fe_int)
  (fs_cons (fs_for poD (fi_range1 T.z_range (fa_cons fe_int fa_nil) (mCons_len mNil_len)) (fg_name (i := 3) sc_law_height_u.nd)
  (fs_one (fs_if (ft_c1 (fc_le (fv 2) (fv 0)))
  (fs_cons (fs_set (i := 1) sc_law_height_u.nd (fe_add (fv 1) fe_int))
  (fs_one (fs_set (i := 2) sc_law_height_u.nd (fe_mulX (fv 2) fe_int))))
  fs_nil)))
  (fs_one (fs_ret (fv 1))))))
theorem ok_law_height_u (T : Top P w K mg) : Def P w K mg base "_law_height" 1 1 m_law_height_u := by unfold m_law_height_u; exact defOf T.f_law_height_u sc_law_height_u (bd_law_height_u T)
theorem bd_law_steps_u (T : Top P w K mg) (f : Addr) (cdv : Value) (A : Around) (outer : List Env) (s : Shared) (H : Hp) (E : XK) (hr : Room 0 (A.deeper (envOfC "_law_steps" (defScope s_law_steps_u) s.heap.objs.size f cdv))) :
    FSs (cxOf (L2N.CX P w) P w K mg base ["word"] "_law_steps" (defScope s_law_steps_u) f cdv A outer s H E) (fun c d _ H => E c d H) none (defBody s_law_steps_u) b_law_steps_u :=
  have hu := L2H.roomH_of hr
  (fs_cons (fs_if (ft_c1 (fc_in hu (fv 0) (fe_tup (fa_cons fe_str (fa_cons fe_str (fa_cons fe_str fa_nil))))))
  (fs_one (fs_ret (fe_lst (fa_cons fe_int (fa_cons fe_int (fa_cons fe_int (fa_cons fe_int fa_nil)))))))
  fs_nil)
  (fs_cons (fs_if (ft_c1 (fc_eq hu (fv 0) fe_str))
  (fs_one (fs_ret (fe_lst (fa_cons fe_int (fa_cons fe_int (fa_cons fe_int (fa_cons fe_int fa_nil)))))))
  fs_nil)
  (fs_cons (fs_if (ft_c1 (fc_eq hu (fv 0) fe_str))
  (fs_one (fs_ret (fe_lst (fa_cons fe_int (fa_cons fe_int (fa_cons fe_int (fa_cons fe_int fa_nil)))))))
  fs_nil)
  (fs_cons (fs_if (ft_c1 (fc_in hu (fv 0) (fe_tup (fa_cons fe_str (fa_cons fe_str fa_nil)))))
  (fs_one (fs_ret (fe_lst (fa_cons fe_int (fa_cons fe_int (fa_cons fe_int (fa_cons fe_int fa_nil)))))))
  fs_nil)
  (fs_cons (fs_if (ft_c1 (fc_eq hu (fv 0) fe_str))
  (fs_one (fs_ret (fe_lst (fa_cons fe_int (fa_cons fe_int (fa_cons fe_int (fa_cons fe_int fa_nil)))))))
  fs_nil)
  (fs_cons (fs_if (ft_c1 (fc_eq hu (fv 0) fe_str))
  (fs_one (fs_ret (fe_lst (fa_cons fe_int (fa_cons fe_int (fa_cons fe_int (fa_cons fe_int fa_nil)))))))
  fs_nil)
  (fs_cons (fs_if (ft_c1 (fc_in hu (fv 0) (fe_tup (fa_cons fe_str (fa_cons fe_str (fa_cons fe_str fa_nil))))))
  (fs_one (fs_ret (fe_lst (fa_cons fe_int (fa_cons fe_int (fa_cons fe_int (fa_cons fe_int fa_nil)))))))
  fs_nil)
  (fs_cons (fs_if (ft_c1 (fc_eq hu (fv 0) fe_str))
  (fs_one (fs_ret (fe_lst (fa_cons fe_int (fa_cons fe_int (fa_cons fe_int (fa_cons fe_int fa_nil)))))))
  fs_nil)
  (fs_one (fs_ret (fe_lst (fa_cons fe_int (fa_cons fe_int (fa_cons fe_int (fa_cons fe_int fa_nil)))))))))))))))
theorem ok_law_steps_u (T : Top P w K mg) : Def P w K mg base "_law_steps" 1 1 m_law_steps_u := by unfold m_law_steps_u; exact defOf T.f_law_steps_u sc_law_steps_u (bd_law_steps_u T)
theorem bd_law_need_u (T : Top P w K mg) (f : Addr) (cdv : Value) (A : Around) (outer : List Env) (s : Shared) (H : Hp) (E : XK) (hr : Room 1 (A.deeper (envOfC "_law_need" (defScope s_law_need_u) s.heap.objs.size f cdv))) :
    FSs (cxOf (L2N.CX P w) P w K mg base ["word", "height", "steps"] "_law_need" (defScope s_law_need_u) f cdv A outer s H E) (fun c d _ H => E c d H) none (defBody s_law_need_u) b_law_need_u :=
  have hu := L2H.roomH_of hr
  (fs_cons (fs_set (i := 2) sc_law_need_u.nd (fe_call (ok_law_steps_u T) tkD (hr.mono (by decide)) (fa_cons (fv 0) fa_nil)))
  (fs_one (fs_ret (fe_add (fe_add (fe_add (fe_mulX (fe_ix hu (fv 2) fe_int) (fe_add (fe_mulX fe_int (fv 1)) fe_int)) (fe_mulX (fe_mulX (fe_ix hu (fv 2) fe_int) fe_int) (fv 1))) (fe_mulX (fe_mulX (fe_ix hu (fv 2) fe_int) fe_int) (fv 1))) (fe_ix hu (fv 2) fe_int)))))
theorem ok_law_need_u (T : Top P w K mg) : Def P w K mg base "_law_need" 2 2 m_law_need_u := by unfold m_law_need_u; exact defOf T.f_law_need_u sc_law_need_u (bd_law_need_u T)
theorem bd_law_spares_u (T : Top P w K mg) (f : Addr) (cdv : Value) (A : Around) (outer : List Env) (s : Shared) (H : Hp) (E : XK) (hr : Room 0 (A.deeper (envOfC "_law_spares" (defScope s_law_spares_u) s.heap.objs.size f cdv))) :
    FSs (cxOf (L2N.CX P w) P w K mg base ["word"] "_law_spares" (defScope s_law_spares_u) f cdv A outer s H E) (fun c d _ H => E c d H) none (defBody s_law_spares_u) b_law_spares_u :=
  have hu := L2H.roomH_of hr
  (fs_one (fs_ret (fe_c1 (fc_in hu (fv 0) (fe_tup (fa_cons fe_str (fa_cons fe_str (fa_cons fe_str (fa_cons fe_str (fa_cons fe_str (fa_cons fe_str fa_nil)))))))))))
theorem ok_law_spares_u (T : Top P w K mg) : Def P w K mg base "_law_spares" 1 1 m_law_spares_u := by unfold m_law_spares_u; exact defOf T.f_law_spares_u sc_law_spares_u (bd_law_spares_u T)
theorem bd_law_bound_u (T : Top P w K mg) (f : Addr) (cdv : Value) (A : Around) (outer : List Env) (s : Shared) (H : Hp) (E : XK) (hr : Room 2 (A.deeper (envOfC "_law_bound" (defScope s_law_bound_u) s.heap.objs.size f cdv))) :
    FSs (cxOf (L2N.CX P w) P w K mg base ["word", "pool", "height"] "_law_bound" (defScope s_law_bound_u) f cdv A outer s H E) (fun c d _ H => E c d H) none (defBody s_law_bound_u) b_law_bound_u :=
  have hu := L2H.roomH_of hr
  (fs_cons (fs_set (i := 2) sc_law_bound_u.nd (fe_call (ok_law_height_u T) tkD (hr.mono (by decide)) (fa_cons (fv 1) fa_nil)))
  (fs_cons (fs_if (ft_tru (fe_call (ok_law_spares_u T) tkD (hr.mono (by decide)) (fa_cons (fv 0) fa_nil)))
  (fs_one (fs_ret (fe_call (ok_law_need_u T) tkD (hr.mono (by decide)) (fa_cons (fv 0) (fa_cons (fv 2) fa_nil)))))
  fs_nil)
  (fs_one (fs_ret (fe_add (fe_add (fe_call (ok_law_need_u T) tkD (hr.mono (by decide)) (fa_cons (fv 0) (fa_cons (fv 2) fa_nil))) (fe_mulX fe_int (fv 2))) fe_int)))))
theorem ok_law_bound_u (T : Top P w K mg) : Def P w K mg base "_law_bound" 3 2 m_law_bound_u := by unfold m_law_bound_u; exact defOf T.f_law_bound_u sc_law_bound_u (bd_law_bound_u T)
theorem bd_law_name_u (T : Top P w K mg) (f : Addr) (cdv : Value) (A : Around) (outer : List Env) (s : Shared) (H : Hp) (E : XK) (hr : Room 0 (A.deeper (envOfC "_law_name" (defScope s_law_name_u) s.heap.objs.size f cdv))) :
    FSs (cxOf (L2N.CX P w) P w K mg base ["number", "letters", "text", "rest", "k"] "_law_name" (defScope s_law_name_u) f cdv A outer s H E) (fun c d _ H => E c d H) none (defBody s_law_name_u) b_law_name_u :=
  have hu := L2H.roomH_of hr
  (fs_cons (fs_set (i := 1) sc_law_name_u.nd fe_str)
  (fs_cons (fs_set (i := 2) sc_law_name_u.nd fe_str)
  (fs_cons (fs_set (i := 3) sc_law_name_u.nd (fe_div (fe_intc T.z_int (fa_cons (fv 0) fa_nil)) fe_int))
  (fs_cons (fs_for poD (fi_range1 T.z_range (fa_cons (fe_add fe_int (fe_mod (fe_intc T.z_int (fa_cons (fv 0) fa_nil)) fe_int)) fa_nil) (mCons_len mNil_len)) (fg_name (i := 4) sc_law_name_u.nd)
  (fs_cons (fs_set (i := 2) sc_law_name_u.nd (fe_add (fv 2) (fe_ix hu (fv 1) (fe_mod (fe_intc T.z_int (fa_cons (fv 3) fa_nil)) fe_int))))
  (fs_one (fs_set (i := 3) sc_law_name_u.nd (fe_div (fv 3) fe_int)))))
  (fs_one (fs_ret (fv 2)))))))
theorem ok_law_name_u (T : Top P w K mg) : Def P w K mg base "_law_name" 1 1 m_law_name_u := by unfold m_law_name_u; exact defOf T.f_law_name_u sc_law_name_u (bd_law_name_u T)
theorem bd_law_path_u (T : Top P w K mg) (f : Addr) (cdv : Value) (A : Around) (outer : List Env) (s : Shared) (H : Hp) (E : XK) (hr : Room 1 (A.deeper (envOfC "_law_path" (defScope s_law_path_u) s.heap.objs.size f cdv))) :
    FSs (cxOf (L2N.CX P w) P w K mg base ["number", "parts", "rest", "k"] "_law_path" (defScope s_law_path_u) f cdv A outer s H E) (fun c d _ H => E c d H) none (defBody s_law_path_u) b_law_path_u :=
  have hu := L2H.roomH_of hr
  (fs_cons (fs_set (i := 1) sc_law_path_u.nd (fe_lst fa_nil))
  (fs_cons (fs_set (i := 2) sc_law_path_u.nd (fe_div (fe_intc T.z_int (fa_cons (fv 0) fa_nil)) fe_int))
  (fs_cons (fs_for poD (fi_range1 T.z_range (fa_cons (fe_mod (fe_intc T.z_int (fa_cons (fv 0) fa_nil)) fe_int) fa_nil) (mCons_len mNil_len)) (fg_name (i := 3) sc_law_path_u.nd)
  (fs_cons (fs_expr (fe_append (fv 1) (fa_cons (fe_call (ok_law_name_u T) tkD (hr.mono (by decide)) (fa_cons (fe_mod (fe_intc T.z_int (fa_cons (fv 2) fa_nil)) (fk_mul (v := 20615771) fe_int (fk_pow (v := 1874161) fe_int fe_int (by decide +kernel) (by decide +kernel)) (by decide +kernel) (by decide +kernel))) fa_nil)) fa_nil)))
  (fs_one (fs_set (i := 2) sc_law_path_u.nd (fe_div (fv 2) (fk_mul (v := 20615771) fe_int (fk_pow (v := 1874161) fe_int fe_int (by decide +kernel) (by decide +kernel)) (by decide +kernel) (by decide +kernel)))))))
  (fs_one (fs_ret (fe_tuple T.z_tuple (fa_cons (fv 1) fa_nil)))))))
theorem ok_law_path_u (T : Top P w K mg) : Def P w K mg base "_law_path" 2 1 m_law_path_u := by unfold m_law_path_u; exact defOf T.f_law_path_u sc_law_path_u (bd_law_path_u T)
theorem bd_law_call_u (T : Top P w K mg) (f : Addr) (cdv : Value) (A : Around) (outer : List Env) (s : Shared) (H : Hp) (E : XK) (hr : Room 2 (A.deeper (envOfC "_law_call" (defScope s_law_call_u) s.heap.objs.size f cdv))) :
    FSs (cxOf (L2N.CX P w) P w K mg base ["word", "drawn", "head", "path", "k"] "_law_call" (defScope s_law_call_u) f cdv A outer s H E) (fun c d _ H => E c d H) none (defBody s_law_call_u) b_law_call_u :=
  have hu := L2H.roomH_of hr
  (fs_cons (fs_set (i := 2) sc_law_call_u.nd (fe_tup (fa_cons (fv 0) (fa_cons (fe_ix hu (fv 1) fe_int) (fa_cons (fe_call (ok_law_name_u T) tkD (hr.mono (by decide)) (fa_cons (fe_ix hu (fv 1) fe_int) fa_nil)) fa_nil)))))
  (fs_cons (fs_set (i := 3) sc_law_call_u.nd (fe_call (ok_law_path_u T) tkD (hr.mono (by decide)) (fa_cons (fe_ix hu (fv 1) fe_int) fa_nil)))
  (fs_cons (fs_if (ft_c1 (fc_in hu (fv 0) (fe_tup (fa_cons fe_str (fa_cons fe_str fa_nil)))))
  (fs_one (fs_ret (fe_add (fv 2) (fe_tup (fa_cons (fe_call (ok_law_name_u T) tkD (hr.mono (by decide)) (fa_cons (fe_ix hu (fv 1) fe_int) fa_nil)) fa_nil)))))
  fs_nil)
  (fs_cons (fs_if (ft_c1 (fc_eq hu (fv 0) fe_str))
  (fs_one (fs_ret (fv 2)))
  fs_nil)
  (fs_cons (fs_if (ft_c1 (fc_eq hu (fv 0) fe_str))
  (fs_one (fs_ret (fe_add (fv 2) (fe_tup (fa_cons (fe_mod (fe_intc T.z_int (fa_cons (fe_ix hu (fv 1) fe_int) fa_nil)) fe_int) (fa_cons (fe_ix hu (fe_lst (fa_cons fe_non (fa_cons (fe_mod (fe_intc T.z_int (fa_cons (fe_ix hu (fv 1) fe_int) fa_nil)) fe_int) fa_nil))) (fe_mod (fe_intc T.z_int (fa_cons (fe_ix hu (fv 1) fe_int) fa_nil)) fe_int)) fa_nil))))))
  fs_nil)
  (fs_cons (fs_if (ft_c1 (fc_eq hu (fv 0) fe_str))
  (fs_one (fs_ret (fe_add (fv 2) (fe_tup (fa_cons (fe_mod (fe_intc T.z_int (fa_cons (fe_ix hu (fv 1) fe_int) fa_nil)) fe_int) fa_nil)))))
  fs_nil)
  (fs_cons (fs_if (ft_c1 (fc_in hu (fv 0) (fe_tup (fa_cons fe_str (fa_cons fe_str fa_nil)))))
  (fs_one (fs_ret (fe_add (fv 2) (fe_tup (fa_cons (fv 3) (fa_cons (fe_call (ok_law_path_u T) tkD (hr.mono (by decide)) (fa_cons (fe_ix hu (fv 1) fe_int) fa_nil)) fa_nil))))))
  fs_nil)
  (fs_cons (fs_if (ft_c1 (fc_eq hu (fv 0) fe_str))
  (fs_one (fs_ret (fe_add (fv 2) (fe_tup (fa_cons (fv 3) (fa_cons (fe_ix hu (fv 1) fe_int) (fa_cons (fe_tuple T.z_tuple (fa_cons (fe_lc [("k", 4)] sc_law_call_u.nd (fi_range1 T.z_range (fa_cons (fe_add fe_int (fe_mod (fe_intc T.z_int (fa_cons (fe_ix hu (fv 1) fe_int) fa_nil)) fe_int)) fa_nil) (mCons_len mNil_len)) (blkOk_by (N := ["word", "drawn", "head", "path", "k"]) (sc := defScope s_law_call_u) (own := [("k", 4)]) (by decide +kernel)) (fun _ _ _ _ _ => (fg_name (i := 4) sc_law_call_u.nd)) (fun _ _ _ _ _ => fts_nil) (fun _ _ _ _ _ => (fe_add (fe_ix hu (fv 1) fe_int) (fv 4)))) fa_nil)) fa_nil)))))))
  fs_nil)
  (fs_cons (fs_if (ft_c1 (fc_eq hu (fv 0) fe_str))
  (fs_one (fs_ret (fe_add (fv 2) (fe_tup (fa_cons (fv 3) (fa_cons (fe_ix hu (fv 1) fe_int) (fa_cons (fe_mod (fe_intc T.z_int (fa_cons (fe_ix hu (fv 1) fe_int) fa_nil)) fe_int) fa_nil)))))))
  fs_nil)
  (fs_cons (fs_if (ft_c1 (fc_eq hu (fv 0) fe_str))
  (fs_one (fs_ret (fe_add (fv 2) (fe_tup (fa_cons (fv 3) (fa_cons (fe_ix hu (fv 1) fe_int) fa_nil))))))
  fs_nil)
  (fs_cons (fs_if (ft_c1 (fc_eq hu (fv 0) fe_str))
  (fs_one (fs_ret (fe_add (fv 2) (fe_tup (fa_cons (fv 3) (fa_cons (fe_call (ok_law_name_u T) tkD (hr.mono (by decide)) (fa_cons (fe_ix hu (fv 1) fe_int) fa_nil)) (fa_cons (fe_ix hu (fv 1) fe_int) fa_nil)))))))
  fs_nil)
  (fs_cons (fs_if (ft_c1 (fc_eq hu (fv 0) fe_str))
  (fs_one (fs_ret (fe_add (fv 2) (fe_tup (fa_cons (fv 3) (fa_cons (fe_call (ok_law_name_u T) tkD (hr.mono (by decide)) (fa_cons (fe_ix hu (fv 1) fe_int) fa_nil)) fa_nil))))))
  fs_nil)
  (fs_cons (fs_if (ft_c1 (fc_eq hu (fv 0) fe_str))
  (fs_one (fs_ret (fe_add (fv 2) (fe_tup (fa_cons (fv 3) (fa_cons (fe_mod (fe_intc T.z_int (fa_cons (fe_ix hu (fv 1) fe_int) fa_nil)) fe_int) fa_nil))))))
  fs_nil)
  (fs_cons (fs_if (ft_c1 (fc_eq hu (fv 0) fe_str))
  (fs_one (fs_ret (fe_add (fv 2) (fe_tup (fa_cons (fv 3) (fa_cons (fe_mod (fe_intc T.z_int (fa_cons (fe_ix hu (fv 1) fe_int) fa_nil)) fe_int) fa_nil))))))
  fs_nil)
  (fs_one (fs_ret (fe_add (fv 2) (fe_tup (fa_cons (fv 3) fa_nil)))))))))))))))))))
theorem ok_law_call_u (T : Top P w K mg) : Def P w K mg base "_law_call" 3 2 m_law_call_u := by unfold m_law_call_u; exact defOf T.f_law_call_u sc_law_call_u (bd_law_call_u T)
theorem bd_law_left_u (T : Top P w K mg) (f : Addr) (cdv : Value) (A : Around) (outer : List Env) (s : Shared) (H : Hp) (E : XK) (hr : Room 0 (A.deeper (envOfC "_law_left" (defScope s_law_left_u) s.heap.objs.size f cdv))) :
    FSs (cxOf (L2N.CX P w) P w K mg base ["state"] "_law_left" (defScope s_law_left_u) f cdv A outer s H E) (fun c d _ H => E c d H) none (defBody s_law_left_u) b_law_left_u :=
  have hu := L2H.roomH_of hr
  (fs_one (fs_ret (fe_sub (fe_sub (fe_sub (fe_ix hu (fv 0) fe_int) (fe_ix hu (fv 0) fe_int)) (fe_ix hu (fv 0) fe_int)) (fe_ix hu (fv 0) fe_int))))
theorem bdh_law_left_u (T : Top P w K mg) (f : Addr) (cdv : Value) (A : Around) (outer : List Env) (s : Shared) (H : Hp) (E : XK) (p : Addr × Obj) (hot : L2H.Hot1 A p) (hu : L2H.RoomH 0 (A.deeper (envOfC "_law_left" (defScope s_law_left_u) s.heap.objs.size f cdv))) :
    FSs (L2H.cxH (L2N.CX P w) P w K mg base ["state"] "_law_left" (defScope s_law_left_u) f cdv A outer s H E p) (fun c d _ H => E c d H) none (defBody s_law_left_u) b_law_left_u :=
  (fs_one (fs_ret (fe_sub (fe_sub (fe_sub (fe_ix hu (fv 0) fe_int) (fe_ix hu (fv 0) fe_int)) (fe_ix hu (fv 0) fe_int)) (fe_ix hu (fv 0) fe_int))))
theorem okh_law_left_u (T : Top P w K mg) : DefH P w K mg base "_law_left" 1 1 m_law_left_u := by unfold m_law_left_u; exact defHOf T.f_law_left_u sc_law_left_u (bdh_law_left_u T)
theorem ok_law_left_u (T : Top P w K mg) : Def P w K mg base "_law_left" 1 1 m_law_left_u := by unfold m_law_left_u; exact defOf T.f_law_left_u sc_law_left_u (bd_law_left_u T)
theorem bd_Ledger__check_open (T : Top P w K mg) (f : Addr) (cdv : Value) (A : Around) (outer : List Env) (s : Shared) (H : Hp) (E : XK) (hr : Room 2 (A.deeper (envOfC "Ledger._check_open" (defScope s_Ledger__check_open) s.heap.objs.size f cdv))) :
    FSs (cxOf (L2N.CX P w) P w K mg base ["self", "need"] "Ledger._check_open" (defScope s_Ledger__check_open) f cdv A outer s H E) (fun c d _ H => E c d H) none (defBody s_Ledger__check_open) b_Ledger__check_open :=
  have hu := L2H.roomH_of hr
  (fs_one (fs_if (FW.ft (fw_or (ft_c1 (fc_slt (fv 1) fe_int)) (fw_or1 (ft_c1 (fc_gt (fv 1) (fe_fld T.x_ct (fv 0)))))))
  (fs_one (fs_raise (T.x_BadPromise _ _) tkD (hr.mono (by decide)) (fa_cons (fv 1) fa_nil)))
  fs_nil))
theorem ok_Ledger__check_open (T : Top P w K mg) : MDef P w K mg base "Ledger" "_check_open" 3 2 m_Ledger__check_open := by unfold m_Ledger__check_open; exact mdefOf T.f_Ledger__check_open sc_Ledger__check_open (bd_Ledger__check_open T)
theorem bd_Ledger_cancel (T : Top P w K mg) (f : Addr) (cdv : Value) (A : Around) (outer : List Env) (s : Shared) (H : Hp) (E : XK) (hr : Room 3 (A.deeper (envOfC "Ledger.cancel" (defScope s_Ledger_cancel) s.heap.objs.size f cdv))) :
    FSs (cxOf (L2N.CX P w) P w K mg base ["self", "need"] "Ledger.cancel" (defScope s_Ledger_cancel) f cdv A outer s H E) (fun c d _ H => E c d H) none (defBody s_Ledger_cancel) b_Ledger_cancel :=
  have hu := L2H.roomH_of hr
  (fs_cons (fs_expr (fe_meth (ok_Ledger__check_open T) tkD (hr.mono (by decide)) (fv 0) (fa_cons (fv 1) fa_nil)))
  (fs_one (fs_fldsub T.x_ct (fv 0) (fv 1))))
theorem ok_Ledger_cancel (T : Top P w K mg) : MDef P w K mg base "Ledger" "cancel" 4 2 m_Ledger_cancel := by unfold m_Ledger_cancel; exact mdefOf T.f_Ledger_cancel sc_Ledger_cancel (bd_Ledger_cancel T)
theorem bd_Ledger_commit (T : Top P w K mg) (f : Addr) (cdv : Value) (A : Around) (outer : List Env) (s : Shared) (H : Hp) (E : XK) (hr : Room 3 (A.deeper (envOfC "Ledger.commit" (defScope s_Ledger_commit) s.heap.objs.size f cdv))) :
    FSs (cxOf (L2N.CX P w) P w K mg base ["self", "need"] "Ledger.commit" (defScope s_Ledger_commit) f cdv A outer s H E) (fun c d _ H => E c d H) none (defBody s_Ledger_commit) b_Ledger_commit :=
  have hu := L2H.roomH_of hr
  (fs_cons (fs_expr (fe_meth (ok_Ledger__check_open T) tkD (hr.mono (by decide)) (fv 0) (fa_cons (fv 1) fa_nil)))
  (fs_cons (fs_fldsub T.x_ct (fv 0) (fv 1))
  (fs_one (fs_fldadd T.x_ct (fv 0) (fv 1)))))
theorem ok_Ledger_commit (T : Top P w K mg) : MDef P w K mg base "Ledger" "commit" 4 2 m_Ledger_commit := by unfold m_Ledger_commit; exact mdefOf T.f_Ledger_commit sc_Ledger_commit (bd_Ledger_commit T)
theorem bd_Ledger_enter (T : Top P w K mg) (f : Addr) (cdv : Value) (A : Around) (outer : List Env) (s : Shared) (H : Hp) (E : XK) (hr : Room 4 (A.deeper (envOfC "Ledger.enter" (defScope s_Ledger_enter) s.heap.objs.size f cdv))) :
    FSs (cxOf (L2N.CX P w) P w K mg base ["self", "call", "need"] "Ledger.enter" (defScope s_Ledger_enter) f cdv A outer s H E) (fun c d _ H => E c d H) none (defBody s_Ledger_enter) b_Ledger_enter :=
  have hu := L2H.roomH_of hr
  (fs_cons (fs_set (i := 2) sc_Ledger_enter.nd (fe_call (ok_promise T) tkD (hr.mono (by decide)) (fa_cons (fv 1) (fa_cons (fe_fld T.x_ct (fv 0)) fa_nil))))
  (fs_cons (fs_if (ft_not (ft_tru (fe_meth (ok_Ledger_is_let T) tkD (hr.mono (by decide)) (fv 0) (fa_cons (fv 1) fa_nil))))
  (fs_one (fs_raise (T.x_NoSpace _ _) tkD (hr.mono (by decide)) (fa_cons (fv 2) (fa_cons (fe_prop (ok_Ledger_room T) (hr.mono (by decide)) (fv 0)) fa_nil))))
  fs_nil)
  (fs_cons (fs_fldadd T.x_ct (fv 0) (fv 2))
  (fs_one (fs_ret (fv 2))))))
theorem ok_Ledger_enter (T : Top P w K mg) : MDef P w K mg base "Ledger" "enter" 5 2 m_Ledger_enter := by unfold m_Ledger_enter; exact mdefOf T.f_Ledger_enter sc_Ledger_enter (bd_Ledger_enter T)
theorem bd_law_is_u (T : Top P w K mg) (f : Addr) (cdv : Value) (A : Around) (outer : List Env) (s : Shared) (H : Hp) (E : XK) (hr : Room 0 (A.deeper (envOfC "_law_is" (defScope s_law_is_u) s.heap.objs.size f cdv))) :
    FSs (cxOf (L2N.CX P w) P w K mg base ["actual", "due"] "_law_is" (defScope s_law_is_u) f cdv A outer s H E) (fun c d _ H => E c d H) none (defBody s_law_is_u) b_law_is_u :=
  have hu := L2H.roomH_of hr
  (fs_one (fs_ret (fe_and (fe_isI T.z_isinstance (fa_cons (fv 0) (fa_cons (fe_ty T.z_int (by decide +kernel)) fa_nil))) (fe_and (fe_not (fe_isI T.z_isinstance (fa_cons (fv 0) (fa_cons (fe_ty T.z_bool (by decide +kernel)) fa_nil)))) (fe_one (fe_c1 (fc_eq hu (fv 0) (fv 1))))))))
theorem bdh_law_is_u (T : Top P w K mg) (f : Addr) (cdv : Value) (A : Around) (outer : List Env) (s : Shared) (H : Hp) (E : XK) (p : Addr × Obj) (hot : L2H.Hot1 A p) (hu : L2H.RoomH 0 (A.deeper (envOfC "_law_is" (defScope s_law_is_u) s.heap.objs.size f cdv))) :
    FSs (L2H.cxH (L2N.CX P w) P w K mg base ["actual", "due"] "_law_is" (defScope s_law_is_u) f cdv A outer s H E p) (fun c d _ H => E c d H) none (defBody s_law_is_u) b_law_is_u :=
  (fs_one (fs_ret (fe_and (fe_isI T.z_isinstance (fa_cons (fv 0) (fa_cons (fe_ty T.z_int (by decide +kernel)) fa_nil))) (fe_and (fe_not (fe_isI T.z_isinstance (fa_cons (fv 0) (fa_cons (fe_ty T.z_bool (by decide +kernel)) fa_nil)))) (fe_one (fe_c1 (fc_eq hu (fv 0) (fv 1))))))))
theorem okh_law_is_u (T : Top P w K mg) : DefH P w K mg base "_law_is" 1 2 m_law_is_u := by unfold m_law_is_u; exact defHOf T.f_law_is_u sc_law_is_u (bdh_law_is_u T)
theorem ok_law_is_u (T : Top P w K mg) : Def P w K mg base "_law_is" 1 2 m_law_is_u := by unfold m_law_is_u; exact defOf T.f_law_is_u sc_law_is_u (bd_law_is_u T)
theorem bd_law_lets_u (T : Top P w K mg) (f : Addr) (cdv : Value) (A : Around) (outer : List Env) (s : Shared) (H : Hp) (E : XK) (hr : Room 3 (A.deeper (envOfC "_law_lets" (defScope s_law_lets_u) s.heap.objs.size f cdv))) :
    FSs (cxOf (L2N.CX P w) P w K mg base ["word", "state"] "_law_lets" (defScope s_law_lets_u) f cdv A outer s H E) (fun c d _ H => E c d H) none (defBody s_law_lets_u) b_law_lets_u :=
  have hu := L2H.roomH_of hr
  (fs_one (fs_ret (fe_c1 (fc_le (fe_call (ok_law_bound_u T) tkD (hr.mono (by decide)) (fa_cons (fv 0) (fa_cons (fe_ix hu (fv 1) fe_int) fa_nil))) (fe_call (ok_law_left_u T) tkD (hr.mono (by decide)) (fa_cons (fv 1) fa_nil))))))
theorem ok_law_lets_u (T : Top P w K mg) : Def P w K mg base "_law_lets" 4 2 m_law_lets_u := by unfold m_law_lets_u; exact defOf T.f_law_lets_u sc_law_lets_u (bd_law_lets_u T)
theorem bd_law_stands_u (T : Top P w K mg) (f : Addr) (cdv : Value) (A : Around) (outer : List Env) (s : Shared) (H : Hp) (E : XK) (hr : Room 2 (A.deeper (envOfC "_law_stands" (defScope s_law_stands_u) s.heap.objs.size f cdv))) :
    FSs (cxOf (L2N.CX P w) P w K mg base ["ledger", "state", "told", "due", "k"] "_law_stands" (defScope s_law_stands_u) f cdv A outer s H E) (fun c d _ H => E c d H) none (defBody s_law_stands_u) b_law_stands_u :=
  have hu := L2H.roomH_of hr
  (fs_cons (fs_set (i := 2) sc_law_stands_u.nd (fe_lst (fa_cons (fe_fld T.x_ct (fv 0)) (fa_cons (fe_fld T.x_ct (fv 0)) (fa_cons (fe_fld T.x_ct (fv 0)) (fa_cons (fe_fld T.x_ct (fv 0)) (fa_cons (fe_prop (ok_Ledger_room T) (hr.mono (by decide)) (fv 0)) fa_nil)))))))
  (fs_cons (fs_set (i := 3) sc_law_stands_u.nd (fe_add (fv 1) (fe_lst (fa_cons (fe_call (ok_law_left_u T) tkD (hr.mono (by decide)) (fa_cons (fv 1) fa_nil)) fa_nil))))
  (fs_cons (fs_for poD (fi_range1 T.z_range (fa_cons fe_int fa_nil) (mCons_len mNil_len)) (fg_name (i := 4) sc_law_stands_u.nd)
  (fs_one (fs_if (ft_not (ft_tru (fe_call (ok_law_is_u T) tkD (hr.mono (by decide)) (fa_cons (fe_ix hu (fv 2) (fv 4)) (fa_cons (fe_ix hu (fv 3) (fv 4)) fa_nil)))))
  (fs_one (fs_ret fe_bl))
  fs_nil)))
  (fs_one (fs_ret fe_bl)))))
theorem bdh_law_stands_u (T : Top P w K mg) (f : Addr) (cdv : Value) (A : Around) (outer : List Env) (s : Shared) (H : Hp) (E : XK) (p : Addr × Obj) (hot : L2H.Hot1 A p) (hu : L2H.RoomH 2 (A.deeper (envOfC "_law_stands" (defScope s_law_stands_u) s.heap.objs.size f cdv))) :
    FSs (L2H.cxH (L2N.CX P w) P w K mg base ["ledger", "state", "told", "due", "k"] "_law_stands" (defScope s_law_stands_u) f cdv A outer s H E p) (fun c d _ H => E c d H) none (defBody s_law_stands_u) b_law_stands_u :=
  (fs_cons (fs_set (i := 2) sc_law_stands_u.nd (fe_lst (fa_cons (fe_fld T.x_ct (fv 0)) (fa_cons (fe_fld T.x_ct (fv 0)) (fa_cons (fe_fld T.x_ct (fv 0)) (fa_cons (fe_fld T.x_ct (fv 0)) (fa_cons (fe_propH (okh_Ledger_room T) (hu.mono (by decide)) (hotH hot) (fv 0)) fa_nil)))))))
  (fs_cons (fs_set (i := 3) sc_law_stands_u.nd (fe_add (fv 1) (fe_lst (fa_cons (fe_callH (okh_law_left_u T) tkH (hu.mono (by decide)) (hotH hot) (fa_cons (fv 1) fa_nil)) fa_nil))))
  (fs_cons (fs_forH poH (hotH hot) (fi_range1H T.z_range (fa_cons fe_int fa_nil) (mCons_len mNil_len)) (fg_name (i := 4) sc_law_stands_u.nd)
  (fs_one (fs_if (ft_not (ft_tru (fe_callH (okh_law_is_u T) tkH (hu.mono (by decide)) (hotH hot) (fa_cons (fe_ix hu (fv 2) (fv 4)) (fa_cons (fe_ix hu (fv 3) (fv 4)) fa_nil)))))
  (fs_one (fs_ret fe_bl))
  fs_nil)))
  (fs_one (fs_ret fe_bl)))))
theorem okh_law_stands_u (T : Top P w K mg) : DefH P w K mg base "_law_stands" 3 2 m_law_stands_u := by unfold m_law_stands_u; exact defHOf T.f_law_stands_u sc_law_stands_u (bdh_law_stands_u T)
theorem ok_law_stands_u (T : Top P w K mg) : Def P w K mg base "_law_stands" 3 2 m_law_stands_u := by unfold m_law_stands_u; exact defOf T.f_law_stands_u sc_law_stands_u (bd_law_stands_u T)
theorem bd_law_truth_u (T : Top P w K mg) (f : Addr) (cdv : Value) (A : Around) (outer : List Env) (s : Shared) (H : Hp) (E : XK) (hr : Room 0 (A.deeper (envOfC "_law_truth" (defScope s_law_truth_u) s.heap.objs.size f cdv))) :
    FSs (cxOf (L2N.CX P w) P w K mg base ["actual", "due"] "_law_truth" (defScope s_law_truth_u) f cdv A outer s H E) (fun c d _ H => E c d H) none (defBody s_law_truth_u) b_law_truth_u :=
  have hu := L2H.roomH_of hr
  (fs_one (fs_ret (fe_and (fe_isI T.z_isinstance (fa_cons (fv 0) (fa_cons (fe_ty T.z_bool (by decide +kernel)) fa_nil))) (fe_one (fe_c1 (fc_eq hu (fv 0) (fv 1)))))))
theorem ok_law_truth_u (T : Top P w K mg) : Def P w K mg base "_law_truth" 1 2 m_law_truth_u := by unfold m_law_truth_u; exact defOf T.f_law_truth_u sc_law_truth_u (bd_law_truth_u T)
theorem bd_law_enters_u (T : Top P w K mg) (f : Addr) (cdv : Value) (A : Around) (outer : List Env) (s : Shared) (H : Hp) (E : XK) (hr : Room 5 (A.deeper (envOfC "_law_enters" (defScope s_law_enters_u) s.heap.objs.size f cdv))) :
    FSs (cxOf (L2N.CX P w) P w K mg base ["ledger", "state", "call", "need"] "_law_enters" (defScope s_law_enters_u) f cdv A outer s H E) (fun c d _ H => E c d H) none (defBody s_law_enters_u) b_law_enters_u :=
  have hu := L2H.roomH_of hr
  (fs_cons (fs_set (i := 3) sc_law_enters_u.nd (fe_call (ok_law_need_u T) tkD (hr.mono (by decide)) (fa_cons (fe_ix hu (fv 2) fe_int) (fa_cons (fe_call (ok_law_height_u T) tkD (hr.mono (by decide)) (fa_cons (fe_ix hu (fv 1) fe_int) fa_nil)) fa_nil))))
  (fs_cons (fs_if (ft_not (ft_tru (fe_call (ok_law_truth_u T) tkD (hr.mono (by decide)) (fa_cons (fe_meth (ok_Ledger_is_let T) tkD (hr.mono (by decide)) (fv 0) (fa_cons (fv 2) fa_nil)) (fa_cons fe_bl fa_nil)))))
  (fs_one (fs_ret fe_bl))
  fs_nil)
  (fs_cons (fs_if (ft_not (ft_tru (fe_call (ok_law_is_u T) tkD (hr.mono (by decide)) (fa_cons (fe_meth (ok_Ledger_enter T) tkD (hr.mono (by decide)) (fv 0) (fa_cons (fv 2) fa_nil)) (fa_cons (fv 3) fa_nil)))))
  (fs_one (fs_ret fe_bl))
  fs_nil)
  (fs_cons (fs_put hu (fv 1) fe_int (fe_add (fe_ix hu (fv 1) fe_int) (fv 3)))
  (fs_cons (fs_if (ft_not (ft_tru (fe_call (ok_law_stands_u T) tkD (hr.mono (by decide)) (fa_cons (fv 0) (fa_cons (fv 1) fa_nil)))))
  (fs_one (fs_ret fe_bl))
  fs_nil)
  (fs_one (fs_ret (fe_call (ok_law_truth_u T) tkD (hr.mono (by decide)) (fa_cons (fe_meth (ok_Ledger_is_let T) tkD (hr.mono (by decide)) (fv 0) (fa_cons (fv 2) fa_nil)) (fa_cons (fe_call (ok_law_lets_u T) tkD (hr.mono (by decide)) (fa_cons (fe_ix hu (fv 2) fe_int) (fa_cons (fv 1) fa_nil))) fa_nil))))))))))
theorem ok_law_enters_u (T : Top P w K mg) : Def P w K mg base "_law_enters" 6 3 m_law_enters_u := by unfold m_law_enters_u; exact defOf T.f_law_enters_u sc_law_enters_u (bd_law_enters_u T)
theorem bd_law_let_side_u (T : Top P w K mg) (f : Addr) (cdv : Value) (A : Around) (outer : List Env) (s : Shared) (H : Hp) (E : XK) (hr : Room 6 (A.deeper (envOfC "_law_let_side" (defScope s_law_let_side_u) s.heap.objs.size f cdv))) :
    FSs (cxOf (L2N.CX P w) P w K mg base ["ledger", "state", "call", "need"] "_law_let_side" (defScope s_law_let_side_u) f cdv A outer s H E) (fun c d _ H => E c d H) none (defBody s_law_let_side_u) b_law_let_side_u :=
  have hu := L2H.roomH_of hr
  (fs_cons (fs_set (i := 3) sc_law_let_side_u.nd (fe_call (ok_law_need_u T) tkD (hr.mono (by decide)) (fa_cons (fe_ix hu (fv 2) fe_int) (fa_cons (fe_call (ok_law_height_u T) tkD (hr.mono (by decide)) (fa_cons (fe_ix hu (fv 1) fe_int) fa_nil)) fa_nil))))
  (fs_cons (fs_if (FW.ft (fw_or (ft_not (ft_tru (fe_call (ok_law_enters_u T) tkD (hr.mono (by decide)) (fa_cons (fv 0) (fa_cons (fv 1) (fa_cons (fv 2) fa_nil)))))) (fw_or1 (ft_c1 (fc_isNN (fe_meth (ok_Ledger_cancel T) tkD (hr.mono (by decide)) (fv 0) (fa_cons (fv 3) fa_nil)))))))
  (fs_one (fs_ret fe_bl))
  fs_nil)
  (fs_cons (fs_put hu (fv 1) fe_int (fe_sub (fe_ix hu (fv 1) fe_int) (fv 3)))
  (fs_cons (fs_if (FW.ft (fw_or (ft_not (ft_tru (fe_call (ok_law_stands_u T) tkD (hr.mono (by decide)) (fa_cons (fv 0) (fa_cons (fv 1) fa_nil))))) (fw_or1 (ft_not (ft_tru (fe_call (ok_law_enters_u T) tkD (hr.mono (by decide)) (fa_cons (fv 0) (fa_cons (fv 1) (fa_cons (fv 2) fa_nil)))))))))
  (fs_one (fs_ret fe_bl))
  fs_nil)
  (fs_cons (fs_if (ft_c1 (fc_isNN (fe_meth (ok_Ledger_commit T) tkD (hr.mono (by decide)) (fv 0) (fa_cons (fv 3) fa_nil))))
  (fs_one (fs_ret fe_bl))
  fs_nil)
  (fs_cons (fs_put hu (fv 1) fe_int (fe_sub (fe_ix hu (fv 1) fe_int) (fv 3)))
  (fs_cons (fs_put hu (fv 1) fe_int (fe_add (fe_ix hu (fv 1) fe_int) (fv 3)))
  (fs_cons (fs_if (ft_not (ft_tru (fe_call (ok_law_stands_u T) tkD (hr.mono (by decide)) (fa_cons (fv 0) (fa_cons (fv 1) fa_nil)))))
  (fs_one (fs_ret fe_bl))
  fs_nil)
  (fs_one (fs_ret (fe_call (ok_law_truth_u T) tkD (hr.mono (by decide)) (fa_cons (fe_meth (ok_Ledger_is_let T) tkD (hr.mono (by decide)) (fv 0) (fa_cons (fv 2) fa_nil)) (fa_cons (fe_call (ok_law_lets_u T) tkD (hr.mono (by decide)) (fa_cons (fe_ix hu (fv 2) fe_int) (fa_cons (fv 1) fa_nil))) fa_nil)))))))))))))
theorem ok_law_let_side_u (T : Top P w K mg) : Def P w K mg base "_law_let_side" 7 3 m_law_let_side_u := by unfold m_law_let_side_u; exact defOf T.f_law_let_side_u sc_law_let_side_u (bd_law_let_side_u T)
theorem bd_Ledger___init__ (T : Top P w K mg) (f : Addr) (cdv : Value) (A : Around) (outer : List Env) (s : Shared) (H : Hp) (E : XK) (hr : Room 0 (A.deeper (envOfC "Ledger.__init__" (defScope s_Ledger___init__) s.heap.objs.size f cdv))) :
    FSs (cxOf (L2N.CX P w) P w K mg base ["self", "pool", "used"] "Ledger.__init__" (defScope s_Ledger___init__) f cdv A outer s H E) (fun c d _ H => E c d H) none (defBody s_Ledger___init__) b_Ledger___init__ :=
  have hu := L2H.roomH_of hr
  (fs_cons (fs_fld T.x_ct (fv 0) (fv 1))
  (fs_cons (fs_fld T.x_ct (fv 0) (fv 2))
  (fs_cons (fs_fld T.x_ct (fv 0) fe_int)
  (fs_one (fs_fld T.x_ct (fv 0) fe_int)))))
theorem ok_Ledger___init__ (T : Top P w K mg) : KDef P w K mg base "Ledger" 1 3 m_Ledger___init__ := by unfold m_Ledger___init__; exact kdefOf T.f_Ledger___init__ sc_Ledger___init__ (bd_Ledger___init__ T)
theorem bd_Ledger_checkpoint (T : Top P w K mg) (f : Addr) (cdv : Value) (A : Around) (outer : List Env) (s : Shared) (H : Hp) (E : XK) (hr : Room 0 (A.deeper (envOfC "Ledger.checkpoint" (defScope s_Ledger_checkpoint) s.heap.objs.size f cdv))) :
    FSs (cxOf (L2N.CX P w) P w K mg base ["self", "used"] "Ledger.checkpoint" (defScope s_Ledger_checkpoint) f cdv A outer s H E) (fun c d _ H => E c d H) none (defBody s_Ledger_checkpoint) b_Ledger_checkpoint :=
  have hu := L2H.roomH_of hr
  (fs_cons (fs_fld T.x_ct (fv 0) (fv 1))
  (fs_one (fs_fld T.x_ct (fv 0) fe_int)))
theorem ok_Ledger_checkpoint (T : Top P w K mg) : MDef P w K mg base "Ledger" "checkpoint" 1 2 m_Ledger_checkpoint := by unfold m_Ledger_checkpoint; exact mdefOf T.f_Ledger_checkpoint sc_Ledger_checkpoint (bd_Ledger_checkpoint T)
theorem bd_Ledger_spend (T : Top P w K mg) (f : Addr) (cdv : Value) (A : Around) (outer : List Env) (s : Shared) (H : Hp) (E : XK) (hr : Room 3 (A.deeper (envOfC "Ledger.spend" (defScope s_Ledger_spend) s.heap.objs.size f cdv))) :
    FSs (cxOf (L2N.CX P w) P w K mg base ["self", "call"] "Ledger.spend" (defScope s_Ledger_spend) f cdv A outer s H E) (fun c d _ H => E c d H) none (defBody s_Ledger_spend) b_Ledger_spend :=
  have hu := L2H.roomH_of hr
  (fs_one (fs_fldadd T.x_ct (fv 0) (fe_call (ok_promise T) tkD (hr.mono (by decide)) (fa_cons (fv 1) (fa_cons (fe_fld T.x_ct (fv 0)) fa_nil)))))
theorem ok_Ledger_spend (T : Top P w K mg) : MDef P w K mg base "Ledger" "spend" 4 2 m_Ledger_spend := by unfold m_Ledger_spend; exact mdefOf T.f_Ledger_spend sc_Ledger_spend (bd_Ledger_spend T)
theorem bd_law_words_u (T : Top P w K mg) (f : Addr) (cdv : Value) (A : Around) (outer : List Env) (s : Shared) (H : Hp) (E : XK) (hr : Room 0 (A.deeper (envOfC "_law_words" (defScope s_law_words_u) s.heap.objs.size f cdv))) :
    FSs (cxOf (L2N.CX P w) P w K mg base ["row"] "_law_words" (defScope s_law_words_u) f cdv A outer s H E) (fun c d _ H => E c d H) none (defBody s_law_words_u) b_law_words_u :=
  have hu := L2H.roomH_of hr
  (fs_cons (fs_set (i := 0) sc_law_words_u.nd (fe_lst (fa_cons fe_str (fa_cons fe_str (fa_cons fe_str (fa_cons fe_str (fa_cons fe_str (fa_cons fe_str (fa_cons fe_str (fa_cons fe_str (fa_cons fe_str (fa_cons fe_str fa_nil))))))))))))
  (fs_one (fs_ret (fe_add (fv 0) (fe_lst (fa_cons fe_str (fa_cons fe_str (fa_cons fe_str (fa_cons fe_str (fa_cons fe_str (fa_cons fe_str fa_nil)))))))))))
theorem ok_law_words_u (T : Top P w K mg) : Def P w K mg base "_law_words" 1 0 m_law_words_u := by unfold m_law_words_u; exact defOf T.f_law_words_u sc_law_words_u (bd_law_words_u T)
theorem bd_law_made_u (T : Top P w K mg) (f : Addr) (cdv : Value) (A : Around) (outer : List Env) (s : Shared) (H : Hp) (E : XK) (hr : Room 5 (A.deeper (envOfC "_law_made" (defScope s_law_made_u) s.heap.objs.size f cdv))) :
    FSs (cxOf (L2N.CX P w) P w K mg base ["pool", "target", "drawn", "words", "other", "need", "part", "extra", "more", "count", "ledger", "word", "moved"] "_law_made" (defScope s_law_made_u) f cdv A outer s H E) (fun c d _ H => E c d H) none (defBody s_law_made_u) b_law_made_u :=
  have hu := L2H.roomH_of hr
  (fs_cons (fs_set (i := 3) sc_law_made_u.nd (fe_call0 (ok_law_words_u T) tkD (hr.mono (by decide)) rfl))
  (fs_cons (fs_set (i := 4) sc_law_made_u.nd (fe_ix hu (fv 3) (fe_ix hu (fv 2) fe_int)))
  (fs_cons (fs_set (i := 5) sc_law_made_u.nd (fe_call (ok_law_need_u T) tkD (hr.mono (by decide)) (fa_cons (fv 4) (fa_cons (fe_call (ok_law_height_u T) tkD (hr.mono (by decide)) (fa_cons (fv 0) fa_nil)) fa_nil))))
  (fs_cons (fs_set (i := 6) sc_law_made_u.nd fe_int)
  (fs_cons (fs_if (ft_tru (fe_call (ok_law_lets_u T) tkD (hr.mono (by decide)) (fa_cons (fv 4) (fa_cons (fe_lst (fa_cons (fv 0) (fa_cons fe_int (fa_cons fe_int (fa_cons fe_int fa_nil))))) fa_nil))))
  (fs_one (fs_set (i := 6) sc_law_made_u.nd (fe_mod (fe_intc T.z_int (fa_cons (fe_ix hu (fv 2) fe_int) fa_nil)) (fe_add (fv 5) fe_int))))
  fs_nil)
  (fs_cons (fs_set (i := 7) sc_law_made_u.nd (fe_slice (fe_lst (fa_cons (fe_ix hu (fv 3) (fe_ix hu (fv 2) fe_int)) (fa_cons (fe_ix hu (fv 3) (fe_ix hu (fv 2) fe_int)) fa_nil))) fo_none (fo_some (fe_ix hu (fv 2) fe_int))))
  (fs_cons (fs_set (i := 8) sc_law_made_u.nd (fe_sum T.z_sum (fa_cons (fe_lc [("word", 11)] sc_law_made_u.nd (fi_any (fv 7)) (blkOk_by (N := ["pool", "target", "drawn", "words", "other", "need", "part", "extra", "more", "count", "ledger", "word", "moved"]) (sc := defScope s_law_made_u) (own := [("word", 11)]) (by decide +kernel)) (fun _ _ _ _ _ => (fg_name (i := 11) sc_law_made_u.nd)) (fun _ _ _ _ _ => fts_nil) (fun _ _ _ _ _ => (fe_call (ok_law_need_u T) tkN (hr.mono (by decide)) (fa_cons (fv 11) (fa_cons (fe_call (ok_law_height_u T) tkN (hr.mono (by decide)) (fa_cons (fv 0) fa_nil)) fa_nil))))) fa_nil)))
  (fs_cons (fs_set (i := 1) sc_law_made_u.nd (fe_min2 T.z_min (fa_cons (fv 1) (fa_cons (fv 0) fa_nil))))
  (fs_cons (fs_if (ft_c1 (fc_slt (fe_sub (fe_sub (fv 0) (fv 1)) (fv 6)) (fv 8)))
  (fs_cons (fs_set (i := 7) sc_law_made_u.nd (fe_lst fa_nil))
  (fs_one (fs_set (i := 8) sc_law_made_u.nd fe_int)))
  fs_nil)
  (fs_cons (fs_if (ft_c1 (fc_slt (fe_sub (fv 0) (fv 1)) (fv 6)))
  (fs_one (fs_set (i := 6) sc_law_made_u.nd fe_int))
  fs_nil)
  (fs_cons (fs_if (ft_c1 (fc_slt (fe_add (fe_add (fv 1) (fv 6)) (fv 8)) fe_int))
  (fs_one (fs_set (i := 1) sc_law_made_u.nd fe_int))
  fs_nil)
  (fs_cons (fs_set (i := 9) sc_law_made_u.nd (fe_sub (fe_sub (fe_sub (fv 0) (fv 1)) (fv 6)) (fv 8)))
  (fs_cons (fs_if (FW.ft (fw_and (ft_c1 (fc_eq hu (fv 6) fe_int)) (fw_and1 (ft_c1 (fc_eq hu (fe_ix hu (fv 2) fe_int) fe_int)))))
  (fs_one (fs_set (i := 10) sc_law_made_u.nd (fe_make (ok_Ledger___init__ T) (hr.mono (by decide)) (fa_cons (fv 0) (fa_cons (fv 9) fa_nil)))))
  (fs_cons (fs_set (i := 10) sc_law_made_u.nd (fe_make (ok_Ledger___init__ T) (hr.mono (by decide)) (fa_cons (fv 0) (fa_cons fe_int fa_nil))))
  (fs_cons (fs_if (ft_c1 (fc_gt (fv 6) fe_int))
  (fs_cons (fs_expr (fe_meth (ok_Ledger_enter T) tkD (hr.mono (by decide)) (fv 10) (fa_cons (fe_call (ok_law_call_u T) tkD (hr.mono (by decide)) (fa_cons (fv 4) (fa_cons (fe_slice (fv 2) (fo_some fe_int) fo_none) fa_nil))) fa_nil)))
  (fs_one (fs_expr (fe_meth (ok_Ledger_cancel T) tkD (hr.mono (by decide)) (fv 10) (fa_cons (fe_sub (fv 5) (fv 6)) fa_nil)))))
  fs_nil)
  (fs_one (fs_expr (fe_meth (ok_Ledger_checkpoint T) tkD (hr.mono (by decide)) (fv 10) (fa_cons (fv 9) fa_nil)))))))
  (fs_cons (fs_for poD (fi_any (fv 7)) (fg_name (i := 11) sc_law_made_u.nd)
  (fs_one (fs_expr (fe_meth (ok_Ledger_spend T) tkD (hr.mono (by decide)) (fv 10) (fa_cons (fe_call (ok_law_call_u T) tkD (hr.mono (by decide)) (fa_cons (fv 11) (fa_cons (fe_slice (fv 2) (fo_some fe_int) fo_none) fa_nil))) fa_nil)))))
  (fs_cons (fs_set (i := 12) sc_law_made_u.nd (fe_mod (fe_intc T.z_int (fa_cons (fe_ix hu (fv 2) fe_int) fa_nil)) (fe_add (fv 6) fe_int)))
  (fs_cons (fs_expr (fe_meth (ok_Ledger_commit T) tkD (hr.mono (by decide)) (fv 10) (fa_cons (fv 12) fa_nil)))
  (fs_one (fs_ret (fe_lst (fa_cons (fv 10) (fa_cons (fe_lst (fa_cons (fv 0) (fa_cons (fv 9) (fa_cons (fe_sub (fv 6) (fv 12)) (fa_cons (fe_add (fv 8) (fv 12)) fa_nil))))) fa_nil)))))))))))))))))))))
theorem ok_law_made_u (T : Top P w K mg) : Def P w K mg base "_law_made" 6 3 m_law_made_u := by unfold m_law_made_u; exact defOf T.f_law_made_u sc_law_made_u (bd_law_made_u T)
theorem bd_law_pool_u (T : Top P w K mg) (f : Addr) (cdv : Value) (A : Around) (outer : List Env) (s : Shared) (H : Hp) (E : XK) (hr : Room 2 (A.deeper (envOfC "_law_pool" (defScope s_law_pool_u) s.heap.objs.size f cdv))) :
    FSs (cxOf (L2N.CX P w) P w K mg base ["drawn", "least", "k", "word", "height"] "_law_pool" (defScope s_law_pool_u) f cdv A outer s H E) (fun c d _ H => E c d H) none (defBody s_law_pool_u) b_law_pool_u :=
  have hu := L2H.roomH_of hr
  (fs_cons (fs_if (ft_c1 (fc_eq hu (fe_ix hu (fv 0) fe_int) fe_int))
  (fs_one (fs_ret (fe_add fe_int (fe_ix hu (fv 0) fe_int))))
  fs_nil)
  (fs_cons (fs_if (ft_c1 (fc_eq hu (fe_ix hu (fv 0) fe_int) fe_int))
  (fs_cons (fs_set (i := 1) sc_law_pool_u.nd fe_int)
  (fs_cons (fs_for poD (fi_range1 T.z_range (fa_cons (fe_ix hu (fv 0) fe_int) fa_nil) (mCons_len mNil_len)) (fg_name (i := 2) sc_law_pool_u.nd)
  (fs_one (fs_set (i := 1) sc_law_pool_u.nd (fe_mulX (fv 1) fe_int))))
  (fs_one (fs_ret (fe_sub (fe_add (fv 1) (fe_ix hu (fv 0) fe_int)) fe_int)))))
  fs_nil)
  (fs_cons (fs_if (ft_c1 (fc_eq hu (fe_ix hu (fv 0) fe_int) fe_int))
  (fs_cons (fs_set (i := 3) sc_law_pool_u.nd (fe_ix hu (fe_call0 (ok_law_words_u T) tkD (hr.mono (by decide)) rfl) (fe_ix hu (fv 0) fe_int)))
  (fs_cons (fs_set (i := 4) sc_law_pool_u.nd (fe_add fe_int (fe_ix hu (fv 0) fe_int)))
  (fs_cons (fs_set (i := 1) sc_law_pool_u.nd (fe_call (ok_law_need_u T) tkD (hr.mono (by decide)) (fa_cons (fv 3) (fa_cons (fv 4) fa_nil))))
  (fs_cons (fs_if (ft_not (ft_tru (fe_call (ok_law_spares_u T) tkD (hr.mono (by decide)) (fa_cons (fv 3) fa_nil))))
  (fs_one (fs_set (i := 1) sc_law_pool_u.nd (fe_add (fe_add (fv 1) (fe_mulX fe_int (fv 4))) fe_int)))
  fs_nil)
  (fs_one (fs_ret (fe_max2 T.z_max (fa_cons fe_int (fa_cons (fe_sub (fv 1) (fe_mod (fe_intc T.z_int (fa_cons (fe_ix hu (fv 0) fe_int) fa_nil)) fe_int)) fa_nil)))))))))
  fs_nil)
  (fs_one (fs_ret (fe_add fe_int (fe_mod (fe_intc T.z_int (fa_cons (fe_ix hu (fv 0) fe_int) fa_nil)) (fe_ix hu (fe_lst (fa_cons fe_int (fa_cons fe_int fa_nil))) (fe_sub (fe_ix hu (fv 0) fe_int) fe_int)))))))))
theorem ok_law_pool_u (T : Top P w K mg) : Def P w K mg base "_law_pool" 3 1 m_law_pool_u := by unfold m_law_pool_u; exact defOf T.f_law_pool_u sc_law_pool_u (bd_law_pool_u T)
theorem bd_law_is_refused_u (T : Top P w K mg) (f : Addr) (cdv : Value) (A : Around) (outer : List Env) (s : Shared) (H : Hp) (E : XK) (hr : Room 5 (A.deeper (envOfC "_law_is_refused" (defScope s_law_is_refused_u) s.heap.objs.size f cdv))) :
    FSs (cxOf (L2N.CX P w) P w K mg base ["ledger", "state", "call", "need", "e"] "_law_is_refused" (defScope s_law_is_refused_u) f cdv A outer s H E) (fun c d _ H => E c d H) none (defBody s_law_is_refused_u) b_law_is_refused_u :=
  have hu := L2H.roomH_of hr
  (fs_cons (fs_set (i := 3) sc_law_is_refused_u.nd (fe_call (ok_law_need_u T) tkD (hr.mono (by decide)) (fa_cons (fe_ix hu (fv 2) fe_int) (fa_cons (fe_call (ok_law_height_u T) tkD (hr.mono (by decide)) (fa_cons (fe_ix hu (fv 1) fe_int) fa_nil)) fa_nil))))
  (fs_cons (fs_if (ft_not (ft_tru (fe_call (ok_law_truth_u T) tkD (hr.mono (by decide)) (fa_cons (fe_meth (ok_Ledger_is_let T) tkD (hr.mono (by decide)) (fv 0) (fa_cons (fv 2) fa_nil)) (fa_cons fe_bl fa_nil)))))
  (fs_one (fs_ret fe_bl))
  fs_nil)
  (fs_cons (fs_try_as (n := "e") (i := 4) hr T.x_tk tkD sc_law_is_refused_u.nd rfl rfl T.k_NoSpace
  (fun _ _ _ tk1 po1 => (fs_one (fs_expr (fe_meth (ok_Ledger_enter T) tk1 (hr.mono (by decide)) (fv 0) (fa_cons (fv 2) fa_nil)))))
  (fun _ _ _ _ _ x ns xs hz hf hu hc => (fs_cons (fs_if (FW.ft (fw_or (ft_not (ft_tru (fe_isX (n := "e") (i := 4) hz hf T.x_nm T.x_tk T.x_tt T.z_isinstance rfl (.inl rfl) (T.k_LandfallError.elim fun _ e => fe_cls e)))) (fw_or1 (ft_not (ft_tru (fe_isX (n := "e") (i := 4) hz hf T.x_nm T.x_tk T.x_tt T.z_isinstance rfl (.inl rfl) (fe_ty T.z_ValueError (by decide +kernel))))))))
  (fs_one (fs_ret fe_bl))
  fs_nil)
  (fs_cons (fs_if (ft_tru (fe_isX (n := "e") (i := 4) hz hf T.x_nm T.x_tk T.x_tt T.z_isinstance rfl (.inl rfl) (fe_tup (fa_cons (T.k_BadCall.elim fun _ e => fe_cls e) (fa_cons (T.k_BadPromise.elim fun _ e => fe_cls e) (fa_cons (T.k_PoolFull.elim fun _ e => fe_cls e) fa_nil))))))
  (fs_one (fs_ret fe_bl))
  fs_nil)
  (fs_cons (fs_if (FW.ft (fw_or (ft_not (ft_tru (fe_callH (okh_law_is_u T) tkN (hu.mono (by decide)) hc (fa_cons (fe_xf (n := "e") (i := 4) hz hf T.x_ft rfl (.inl rfl)) (fa_cons (fv 3) fa_nil))))) (fw_or1 (ft_not (ft_tru (fe_callH (okh_law_is_u T) tkN (hu.mono (by decide)) hc (fa_cons (fe_xf (n := "e") (i := 4) hz hf T.x_ft rfl (.inl rfl)) (fa_cons (fe_callH (okh_law_left_u T) tkN (hu.mono (by decide)) hc (fa_cons (fv 1) fa_nil)) fa_nil))))))))
  (fs_one (fs_ret fe_bl))
  fs_nil)
  (fs_one (fs_ret (fe_callH (okh_law_stands_u T) tkN (hu.mono (by decide)) hc (fa_cons (fv 0) (fa_cons (fv 1) fa_nil))))))))))
  (fs_one (fs_ret fe_bl)))))
theorem ok_law_is_refused_u (T : Top P w K mg) : Def P w K mg base "_law_is_refused" 6 3 m_law_is_refused_u := by unfold m_law_is_refused_u; exact defOf T.f_law_is_refused_u sc_law_is_refused_u (bd_law_is_refused_u T)
theorem bd_law_refused_side_u (T : Top P w K mg) (f : Addr) (cdv : Value) (A : Around) (outer : List Env) (s : Shared) (H : Hp) (E : XK) (hr : Room 6 (A.deeper (envOfC "_law_refused_side" (defScope s_law_refused_side_u) s.heap.objs.size f cdv))) :
    FSs (cxOf (L2N.CX P w) P w K mg base ["ledger", "state", "call", "count"] "_law_refused_side" (defScope s_law_refused_side_u) f cdv A outer s H E) (fun c d _ H => E c d H) none (defBody s_law_refused_side_u) b_law_refused_side_u :=
  have hu := L2H.roomH_of hr
  (fs_cons (fs_if (FW.ft (fw_or (ft_not (ft_tru (fe_call (ok_law_is_refused_u T) tkD (hr.mono (by decide)) (fa_cons (fv 0) (fa_cons (fv 1) (fa_cons (fv 2) fa_nil)))))) (fw_or1 (ft_not (ft_tru (fe_call (ok_law_is_refused_u T) tkD (hr.mono (by decide)) (fa_cons (fv 0) (fa_cons (fv 1) (fa_cons (fv 2) fa_nil)))))))))
  (fs_one (fs_ret fe_bl))
  fs_nil)
  (fs_cons (fs_set (i := 3) sc_law_refused_side_u.nd (fe_sub (fe_sub (fe_ix hu (fv 1) fe_int) (fe_ix hu (fv 1) fe_int)) (fe_call (ok_law_bound_u T) tkD (hr.mono (by decide)) (fa_cons (fe_ix hu (fv 2) fe_int) (fa_cons (fe_ix hu (fv 1) fe_int) fa_nil)))))
  (fs_cons (fs_if (ft_c1 (fc_slt (fv 3) fe_int))
  (fs_one (fs_ret fe_bl))
  fs_nil)
  (fs_cons (fs_put hu (fv 1) fe_int fe_int)
  (fs_cons (fs_if (ft_c1 (fc_slt (fv 3) (fe_ix hu (fv 1) fe_int)))
  (fs_cons (fs_put hu (fv 1) fe_int (fe_add (fv 3) fe_int))
  (fs_one (fs_if (FW.ft (fw_or (ft_c1 (fc_isNN (fe_meth (ok_Ledger_checkpoint T) tkD (hr.mono (by decide)) (fv 0) (fa_cons (fe_add (fv 3) fe_int) fa_nil)))) (fw_or1 (ft_not (ft_tru (fe_call (ok_law_is_refused_u T) tkD (hr.mono (by decide)) (fa_cons (fv 0) (fa_cons (fv 1) (fa_cons (fv 2) fa_nil)))))))))
  (fs_one (fs_ret fe_bl))
  fs_nil)))
  fs_nil)
  (fs_cons (fs_put hu (fv 1) fe_int (fv 3))
  (fs_cons (fs_if (ft_c1 (fc_isNN (fe_meth (ok_Ledger_checkpoint T) tkD (hr.mono (by decide)) (fv 0) (fa_cons (fv 3) fa_nil))))
  (fs_one (fs_ret fe_bl))
  fs_nil)
  (fs_one (fs_ret (fe_call (ok_law_enters_u T) tkD (hr.mono (by decide)) (fa_cons (fv 0) (fa_cons (fv 1) (fa_cons (fv 2) fa_nil)))))))))))))
theorem ok_law_refused_side_u (T : Top P w K mg) : Def P w K mg base "_law_refused_side" 7 3 m_law_refused_side_u := by unfold m_law_refused_side_u; exact defOf T.f_law_refused_side_u sc_law_refused_side_u (bd_law_refused_side_u T)
theorem bd_law_case_u (T : Top P w K mg) (f : Addr) (cdv : Value) (A : Around) (outer : List Env) (s : Shared) (H : Hp) (E : XK) (hr : Room 7 (A.deeper (envOfC "_law_case" (defScope s_law_case_u) s.heap.objs.size f cdv))) :
    FSs (cxOf (L2N.CX P w) P w K mg base ["drawn", "pool", "word", "height", "need", "least", "rest", "menu", "made", "ledger", "state", "each", "call"] "_law_case" (defScope s_law_case_u) f cdv A outer s H E) (fun c d _ H => E c d H) none (defBody s_law_case_u) b_law_case_u :=
  have hu := L2H.roomH_of hr
  (fs_cons (fs_set (i := 1) sc_law_case_u.nd (fe_call (ok_law_pool_u T) tkD (hr.mono (by decide)) (fa_cons (fv 0) fa_nil)))
  (fs_cons (fs_set (i := 2) sc_law_case_u.nd (fe_ix hu (fe_call0 (ok_law_words_u T) tkD (hr.mono (by decide)) rfl) (fe_ix hu (fv 0) fe_int)))
  (fs_cons (fs_set (i := 3) sc_law_case_u.nd (fe_call (ok_law_height_u T) tkD (hr.mono (by decide)) (fa_cons (fv 1) fa_nil)))
  (fs_cons (fs_set (i := 4) sc_law_case_u.nd (fe_call (ok_law_need_u T) tkD (hr.mono (by decide)) (fa_cons (fv 2) (fa_cons (fv 3) fa_nil))))
  (fs_cons (fs_set (i := 5) sc_law_case_u.nd (fe_call (ok_law_bound_u T) tkD (hr.mono (by decide)) (fa_cons (fv 2) (fa_cons (fv 1) fa_nil))))
  (fs_cons (fs_set (i := 6) sc_law_case_u.nd (fe_add (fe_mulX fe_int (fv 3)) fe_int))
  (fs_cons (fs_set (i := 7) sc_law_case_u.nd (fe_lst (fa_cons (fv 5) (fa_cons (fe_sub (fv 5) fe_int) (fa_cons (fv 4) (fa_cons (fe_sub (fv 4) fe_int) (fa_cons (fe_add (fv 4) (fv 6)) (fa_cons (fe_sub (fe_add (fv 4) (fv 6)) fe_int) (fa_cons (fe_mod (fe_intc T.z_int (fa_cons (fe_ix hu (fv 0) fe_int) fa_nil)) (fe_add (fv 1) fe_int)) fa_nil)))))))))
  (fs_cons (fs_set (i := 8) sc_law_case_u.nd (fe_call (ok_law_made_u T) tkD (hr.mono (by decide)) (fa_cons (fv 1) (fa_cons (fe_ix hu (fv 7) (fe_ix hu (fv 0) fe_int)) (fa_cons (fe_slice (fv 0) (fo_some fe_int) fo_none) fa_nil)))))
  (fs_cons (fs_set (i := 9) sc_law_case_u.nd (fe_ix hu (fv 8) fe_int))
  (fs_cons (fs_set (i := 10) sc_law_case_u.nd (fe_ix hu (fv 8) fe_int))
  (fs_cons (fs_if (ft_not (ft_tru (fe_call (ok_law_stands_u T) tkD (hr.mono (by decide)) (fa_cons (fv 9) (fa_cons (fv 10) fa_nil)))))
  (fs_one (fs_ret fe_bl))
  fs_nil)
  (fs_cons (fs_for poD (fi_any (fe_call0 (ok_law_words_u T) tkD (hr.mono (by decide)) rfl)) (fg_name (i := 11) sc_law_case_u.nd)
  (fs_one (fs_if (ft_not (ft_tru (fe_call (ok_law_truth_u T) tkD (hr.mono (by decide)) (fa_cons (fe_meth (ok_Ledger_is_let T) tkD (hr.mono (by decide)) (fv 9) (fa_cons (fe_call (ok_law_call_u T) tkD (hr.mono (by decide)) (fa_cons (fv 11) (fa_cons (fe_slice (fv 0) (fo_some fe_int) fo_none) fa_nil))) fa_nil)) (fa_cons (fe_call (ok_law_lets_u T) tkD (hr.mono (by decide)) (fa_cons (fv 11) (fa_cons (fv 10) fa_nil))) fa_nil)))))
  (fs_one (fs_ret fe_bl))
  fs_nil)))
  (fs_cons (fs_set (i := 12) sc_law_case_u.nd (fe_call (ok_law_call_u T) tkD (hr.mono (by decide)) (fa_cons (fv 2) (fa_cons (fe_slice (fv 0) (fo_some fe_int) fo_none) fa_nil))))
  (fs_cons (fs_if (ft_c1 (fc_ge (fe_call (ok_law_left_u T) tkD (hr.mono (by decide)) (fa_cons (fv 10) fa_nil)) (fv 5)))
  (fs_one (fs_ret (fe_call (ok_law_let_side_u T) tkD (hr.mono (by decide)) (fa_cons (fv 9) (fa_cons (fv 10) (fa_cons (fv 12) fa_nil))))))
  fs_nil)
  (fs_one (fs_ret (fe_call (ok_law_refused_side_u T) tkD (hr.mono (by decide)) (fa_cons (fv 9) (fa_cons (fv 10) (fa_cons (fv 12) fa_nil))))))))))))))))))))
theorem ok_law_case_u (T : Top P w K mg) : Def P w K mg base "_law_case" 8 1 m_law_case_u := by unfold m_law_case_u; exact defOf T.f_law_case_u sc_law_case_u (bd_law_case_u T)
theorem bd_law_draws_u (T : Top P w K mg) (f : Addr) (cdv : Value) (A : Around) (outer : List Env) (s : Shared) (H : Hp) (E : XK) (hr : Room 0 (A.deeper (envOfC "_law_draws" (defScope s_law_draws_u) s.heap.objs.size f cdv))) :
    FSs (cxOf (L2N.CX P w) P w K mg base ["cell", "sizes", "drawn", "rest", "k", "mixed"] "_law_draws" (defScope s_law_draws_u) f cdv A outer s H E) (fun c d _ H => E c d H) none (defBody s_law_draws_u) b_law_draws_u :=
  have hu := L2H.roomH_of hr
  (fs_cons (fs_set (i := 2) sc_law_draws_u.nd (fe_lst fa_nil))
  (fs_cons (fs_set (i := 3) sc_law_draws_u.nd (fv 0))
  (fs_cons (fs_for poD (fi_range1 T.z_range (fa_cons (fe_len (by decide +kernel) T.z_len (fa_cons (fv 1) fa_nil)) fa_nil) (mCons_len mNil_len)) (fg_name (i := 4) sc_law_draws_u.nd)
  (fs_one (fs_if (ft_c1 (fc_ge (fv 0) (fk_pow (v := 1000000000000000000) fe_int fe_int (by decide +kernel) (by decide +kernel))))
  (fs_cons (fs_expr (fe_append (fv 2) (fa_cons (fe_mod (fe_intc T.z_int (fa_cons (fv 3) fa_nil)) (fe_ix hu (fv 1) (fv 4))) fa_nil)))
  (fs_one (fs_set (i := 3) sc_law_draws_u.nd (fe_div (fv 3) (fe_ix hu (fv 1) (fv 4))))))
  (fs_cons (fs_set (i := 5) sc_law_draws_u.nd (fe_mod (fe_intc T.z_int (fa_cons (fe_add (fe_add (fe_mulB (fv 0) fe_int) (fe_mulB fe_int (fv 4))) fe_int) fa_nil)) fe_int))
  (fs_one (fs_expr (fe_append (fv 2) (fa_cons (fe_mod (fe_mod (fe_intc T.z_int (fa_cons (fe_mulB (fv 5) (fe_add (fe_add (fv 5) fe_int) (fv 4))) fa_nil)) fe_int) (fe_ix hu (fv 1) (fv 4))) fa_nil))))))))
  (fs_one (fs_ret (fv 2))))))
theorem ok_law_draws_u (T : Top P w K mg) : Def P w K mg base "_law_draws" 1 2 m_law_draws_u := by unfold m_law_draws_u; exact defOf T.f_law_draws_u sc_law_draws_u (bd_law_draws_u T)
theorem bd_law_number_u (T : Top P w K mg) (f : Addr) (cdv : Value) (A : Around) (outer : List Env) (s : Shared) (H : Hp) (E : XK) (hr : Room 0 (A.deeper (envOfC "_law_number" (defScope s_law_number_u) s.heap.objs.size f cdv))) :
    FSs (cxOf (L2N.CX P w) P w K mg base ["script", "k", "mixed", "cell"] "_law_number" (defScope s_law_number_u) f cdv A outer s H E) (fun c d _ H => E c d H) none (defBody s_law_number_u) b_law_number_u :=
  have hu := L2H.roomH_of hr
  (fs_cons (fs_if (FW.ft (fw_and (ft_c1 (fc_slt (fv 1) (fe_len (by decide +kernel) T.z_len (fa_cons (fv 0) fa_nil)))) (fw_and1 (ft_c1 (fc_slt (fv 1) fe_int)))))
  (fs_one (fs_ret (fe_ix hu (fv 0) (fv 1))))
  fs_nil)
  (fs_cons (fs_set (i := 2) sc_law_number_u.nd (fe_add (fv 1) fe_int))
  (fs_cons (fs_for poD (fi_any (fe_slice (fv 0) fo_none (fo_some fe_int))) (fg_name (i := 3) sc_law_number_u.nd)
  (fs_one (fs_set (i := 2) sc_law_number_u.nd (fe_mod (fe_intc T.z_int (fa_cons (fe_add (fe_mulB (fv 2) fe_int) (fv 3)) fa_nil)) fe_int))))
  (fs_one (fs_ret (fe_mod (fe_intc T.z_int (fa_cons (fe_add (fe_mulB (fv 2) fe_int) (fe_mulB fe_int (fv 1))) fa_nil)) fe_int))))))
theorem ok_law_number_u (T : Top P w K mg) : Def P w K mg base "_law_number" 1 2 m_law_number_u := by unfold m_law_number_u; exact defOf T.f_law_number_u sc_law_number_u (bd_law_number_u T)
theorem bd_law (T : Top P w K mg) (f : Addr) (cdv : Value) (A : Around) (outer : List Env) (s : Shared) (H : Hp) (E : XK) (hr : Room 8 (A.deeper (envOfC "law" (defScope s_law) s.heap.objs.size f cdv))) :
    FSs (cxOf (L2N.CX P w) P w K mg base ["script", "sizes", "k"] "law" (defScope s_law) f cdv A outer s H E) (fun c d _ H => E c d H) none (defBody s_law) b_law :=
  have hu := L2H.roomH_of hr
  (fs_cons (fs_set (i := 1) sc_law.nd (fe_lst (fa_cons fe_int (fa_cons fe_int (fa_cons fe_int (fa_cons fe_int (fa_cons fe_int (fa_cons fe_int (fa_cons fe_int (fa_cons fe_int (fa_cons fe_int (fa_cons fe_int (fa_cons fe_int (fa_cons fe_int (fa_cons fe_int (fa_cons fe_int (fa_cons fe_int (fa_cons (fk_mul (v := 1957093839574064543) fe_int (fk_pow (v := 177917621779460413) fe_int fe_int (by decide +kernel) (by decide +kernel)) (by decide +kernel) (by decide +kernel)) (fa_cons (fk_pow (v := (10 ^ 45)) fe_int fe_int (by decide +kernel) (by decide +kernel)) fa_nil)))))))))))))))))))
  (fs_cons (fs_set (i := 1) sc_law.nd (fe_add (fv 1) (fe_lst (fa_cons (fk_pow (v := (10 ^ 45)) fe_int fe_int (by decide +kernel) (by decide +kernel)) (fa_cons fe_int (fa_cons (fk_sub (v := 2305843009213693935) (fk_pow (v := 2305843009213693952) fe_int fe_int (by decide +kernel) (by decide +kernel)) fe_int (by decide +kernel)) fa_nil))))))
  (fs_cons (fs_for poD (fi_range1 T.z_range (fa_cons (fe_add fe_int (fe_ix hu (fe_call (ok_law_draws_u T) tkD (hr.mono (by decide)) (fa_cons (fe_call (ok_law_number_u T) tkD (hr.mono (by decide)) (fa_cons (fv 0) (fa_cons fe_int fa_nil))) (fa_cons (fe_lst (fa_cons fe_int fa_nil)) fa_nil))) fe_int)) fa_nil) (mCons_len mNil_len)) (fg_name (i := 2) sc_law.nd)
  (fs_one (fs_if (ft_not (ft_tru (fe_call (ok_law_case_u T) tkD (hr.mono (by decide)) (fa_cons (fe_call (ok_law_draws_u T) tkD (hr.mono (by decide)) (fa_cons (fe_call (ok_law_number_u T) tkD (hr.mono (by decide)) (fa_cons (fv 0) (fa_cons (fe_add fe_int (fv 2)) fa_nil))) (fa_cons (fv 1) fa_nil))) fa_nil))))
  (fs_one (fs_ret fe_bl))
  fs_nil)))
  (fs_one (fs_ret fe_bl)))))
theorem ok_law (T : Top P w K mg) : Def P w K mg base "law" 9 1 m_law := by unfold m_law; exact defOf T.f_law sc_law (bd_law T)
end
end K14
set_option Elab.async false
set_option linter.all false
set_option maxRecDepth 100000
set_option maxHeartbeats 1000000
namespace K14
open PySem L2 LF NW
theorem size24 : sizeLine = 16777216 := rfl
/-! ### the words -/
def wds : List Str := ["create", "folder", "link", "rename", "remove", "rmdir", "write", "resize", "mark", "unmark", "rights", "give", "limit", "snapshot", "clone", "drop"]
def stp : List (Int × Int × Int × Int) := [(3, 0, 0, 0), (3, 0, 0, 0), (2, 0, 0, 0), (3, 2, 1, 0), (1, 1, 1, 0), (1, 1, 1, 0), (4, 0, 0, 2), (3, 0, 1, 1), (1, 0, 0, 0), (0, 1, 0, 0), (1, 0, 0, 0), (3, 0, 0, 0), (1, 0, 0, 0), (0, 0, 0, 0), (0, 0, 0, 0), (0, 0, 0, 0)]
def wd (k : Fin 16) : Str := wds.getD k ""
def st (k : Fin 16) : Int × Int × Int × Int := stp.getD k (0, 0, 0, 0)
def sp (k : Fin 16) : Bool := k == 4 || k == 5 || k == 9 || k == 13 || k == 14 || k == 15
theorem st_b (k : Fin 16) : 0 ≤ (st k).1 ∧ (st k).1 ≤ 4 ∧ 0 ≤ (st k).2.1 ∧ (st k).2.1 ≤ 4 ∧ 0 ≤ (st k).2.2.1 ∧ (st k).2.2.1 ≤ 4 ∧ 0 ≤ (st k).2.2.2 ∧ (st k).2.2.2 ≤ 4 := by revert k; decide +kernel
theorem each {P : Fin 16 → Prop} (h0 : P 0) (h1 : P 1) (h2 : P 2) (h3 : P 3) (h4 : P 4) (h5 : P 5) (h6 : P 6) (h7 : P 7) (h8 : P 8) (h9 : P 9) (h10 : P 10) (h11 : P 11) (h12 : P 12) (h13 : P 13) (h14 : P 14) (h15 : P 15) (k : Fin 16) : P k := by
  obtain ⟨k, hk⟩ := k
  match k, hk with
  | 0, _ => exact h0
  | 1, _ => exact h1
  | 2, _ => exact h2
  | 3, _ => exact h3
  | 4, _ => exact h4
  | 5, _ => exact h5
  | 6, _ => exact h6
  | 7, _ => exact h7
  | 8, _ => exact h8
  | 9, _ => exact h9
  | 10, _ => exact h10
  | 11, _ => exact h11
  | 12, _ => exact h12
  | 13, _ => exact h13
  | 14, _ => exact h14
  | 15, _ => exact h15
  | n + 16, h => omega
theorem kd_at (k : Fin 16) : valD kd_STEPS (wd k) = some (.ct [.int (st k).1, .int (st k).2.1, .int (st k).2.2.1, .int (st k).2.2.2]) := by
  revert k
  intro k
  induction k using each <;> rfl
theorem sp_at (h : M) (k : Fin 16) : inD h (.str (wd k)) (.ct [(.str "remove"), (.str "rmdir"), (.str "unmark"), (.str "snapshot"), (.str "clone"), (.str "drop")]) = some (sp k) := by
  revert k
  intro k
  induction k using each <;> rfl
theorem steps_at (h : M) (k : Fin 16) : b_law_steps_u [.va (.str (wd k))] h = .rt (.loc h.length) (h ++ [.lst [.int (st k).1, .int (st k).2.1, .int (st k).2.2.1, .int (st k).2.2.2]]) := by
  revert k
  intro k
  induction k using each <;> rfl
end K14
set_option Elab.async false
set_option linter.all false
set_option maxRecDepth 100000
set_option maxHeartbeats 1000000
namespace K14
open PySem L2 LF NW
/-! ### heights -/
def hg : Nat → Int → Int → Int → Int
  | 0, _, h, _ => h
  | n + 1, p, h, l => if l ≤ p then hg n p (h + 1) (l * 3) else h
def hgt (p : Int) : Int := hg 12 p 1 2
theorem hg_b (n : Nat) (p h l : Int) : h ≤ hg n p h l ∧ hg n p h l ≤ h + n := by
  induction n generalizing h l with
  | zero => simp [hg]
  | succ n ih =>
    unfold hg
    split
    · have := ih (h + 1) (l * 3); omega
    · omega
theorem hgt_b (p : Int) : 1 ≤ hgt p ∧ hgt p ≤ 13 := by have := hg_b 12 p 1 2; unfold hgt; omega
theorem cm {i j : Int} (h1 : -1000000000000000000000000000000 < i) (h2 : i < 1000000000000000000000000000000) (h3 : -1000000000000000000000000000000 < j) (h4 : j < 1000000000000000000000000000000) : CMulW i j := cmulW (by omega) (by omega) (by omega) (by omega)
section
variable {h : M} {Q : D → M → Prop} {X : XP} {p : Int}
theorem hbound (p1 : p ≤ 99996) (K : Q (.int (hgt p)) h) : @Wc D (m_height_bound [.int p] h) ⟨Q, X⟩ := by
  unfold m_height_bound; rw [wp_fn]; unfold b_height_bound
  simp
  refine wloop_inv (fun e h' => h' = h ∧ ∃ (n : Nat) (a l : Int), e = [.va (.int p), .va (.int a), .va (.int l)] ∧ hg n p a l = hgt p ∧ l * 3 ^ n = 1062882 ∧ 2 ≤ l)
    (fun (e : En) (_ : M) => match e[2]? with | some (Sl.va (D.int l)) => (p + 1 - l).toNat | _ => 0) ⟨rfl, 12, 1, 2, rfl, rfl, by decide, by decide⟩ (by simp; omega) ?_
  rintro _ _ ⟨rfl, n, a, l, rfl, e1, e2, e3⟩
  have ll : l * 3 ^ n = 1062882 := e2
  by_cases hl : l ≤ p
  · simp [hl]
    cases n with
    | zero => simp at ll <;> omega
    | succ n =>
      refine ⟨cm (by omega) (by omega) (by omega) (by omega), ⟨n, _, _, ⟨rfl, rfl⟩, ?_, ?_, by omega⟩, by omega⟩
      · rw [← e1]; conv => rhs; unfold hg
        rw [if_pos hl]
      · rw [← ll, Int.pow_succ]; rw [Int.mul_assoc, Int.mul_comm 3]
  · simp [hl]
    have : hgt p = a := by
      rw [← e1]
      cases n with
      | zero => rfl
      | succ n => unfold hg; rw [if_neg hl]
    rw [← this]; exact K
theorem lheight (p1 : p ≤ 99996) (K : Q (.int (hgt p)) h) : @Wc D (m_law_height_u [.int p] h) ⟨Q, X⟩ := by
  unfold m_law_height_u; rw [wp_fn]; unfold b_law_height_u
  simp
  refine floop_inv (fun i e h' => h' = h ∧ ∃ (a l : Int) (s : Sl), e = [.va (.int p), .va (.int a), .va (.int l), s] ∧ hg (12 - i) p a l = hgt p ∧ 2 ≤ l ∧ l ≤ 300000) ⟨rfl, 1, 2, _, rfl, rfl, by decide, by decide⟩ (fun _ _ _ _ _ => trivial) ?_ ?_
  · rintro i d _ _ hd ⟨rfl, a, l, s, rfl, e1, e2, e3⟩
    obtain ⟨hi, rfl⟩ := rg_at hd
    have e4 : 12 - i = (12 - (i + 1)) + 1 := by omega
    rw [e4] at e1
    unfold hg at e1
    by_cases hl : l ≤ p
    · rw [if_pos hl] at e1
      simp [hl]
      exact ⟨cm (by omega) (by omega) (by omega) (by omega), _, _, ⟨rfl, rfl⟩, by rw [show 11 - i = 12 - (i + 1) by omega]; exact e1, by omega, by omega⟩
    · rw [if_neg hl] at e1
      simp [hl]
      refine ⟨_, _, ⟨rfl, rfl⟩, ?_, e2, e3⟩
      rw [← e1, show 11 - i = 12 - (i + 1) by omega]
      cases (12 - (i + 1)) with
      | zero => rfl
      | succ n => unfold hg; rw [if_neg hl]
  · rintro _ _ ⟨rfl, a, l, s, rfl, e1, e2, e3⟩
    simp [hg] at e1 ⊢
    rw [e1]; exact K
/-! ### needs -/
def nd (k : Fin 16) (p : Int) : Int := (st k).1 * (2 * hgt p + 1) + (st k).2.1 * 2 * hgt p + (st k).2.2.1 * 6 * hgt p + (st k).2.2.2
theorem mul_b {a b c d : Int} (h0 : 0 ≤ a) (h1 : a ≤ c) (h2 : 0 ≤ b) (h3 : b ≤ d) : 0 ≤ a * b ∧ a * b ≤ c * d := ⟨Int.mul_nonneg h0 h2, Int.mul_le_mul h1 h3 h2 (by omega)⟩
theorem nd_b (k : Fin 16) (p : Int) : 0 ≤ nd k p ∧ nd k p ≤ 1000 := by
  obtain ⟨a0, a1, b0, b1, c0, c1, d0, d1⟩ := st_b k
  obtain ⟨h0, h1⟩ := hgt_b p
  have x1 := mul_b (a := (st k).1) (b := 2 * hgt p + 1) (c := 4) (d := 27) a0 a1 (by omega) (by omega)
  have x2 := mul_b (a := (st k).2.1 * 2) (b := hgt p) (c := 8) (d := 13) (by omega) (by omega) (by omega) (by omega)
  have x3 := mul_b (a := (st k).2.2.1 * 6) (b := hgt p) (c := 24) (d := 13) (by omega) (by omega) (by omega) (by omega)
  unfold nd
  omega
theorem muls (k : Fin 16) (p : Int) : CMulW 2 (hgt p) ∧ CMulW (st k).1 (2 * hgt p + 1) ∧ CMulW (st k).2.1 2 ∧ CMulW ((st k).2.1 * 2) (hgt p) ∧ CMulW (st k).2.2.1 6 ∧ CMulW ((st k).2.2.1 * 6) (hgt p) := by
  obtain ⟨a0, a1, b0, b1, c0, c1, d0, d1⟩ := st_b k
  obtain ⟨h0, h1⟩ := hgt_b p
  refine ⟨?_, ?_, ?_, ?_, ?_, ?_⟩ <;> exact cm (by omega) (by omega) (by omega) (by omega)
theorem needed (k : Fin 16) (p1 : p ≤ 99996) (K : Q (.int (nd k p)) h) : @Wc D (m_blocks_needed_u [.str (wd k), .int p] h) ⟨Q, X⟩ := by
  unfold m_blocks_needed_u; rw [wp_fn]; unfold b_blocks_needed_u
  obtain ⟨m1, m2, m3, m4, m5, m6⟩ := muls k p
  simp [fKd, kd_at]
  refine hbound p1 ?_
  simp [m1, m2, m3, m4, m5, m6]
  exact K
theorem first (k : Fin 16) {r : List D} (K : Q (.str (wd k)) h) : @Wc D (m_first_word_u [.tup (.str (wd k) :: r)] h) ⟨Q, X⟩ := by
  unfold m_first_word_u; rw [wp_fn]; unfold b_first_word_u
  have : ¬ ((r.length : Int) + 1 = 0) := by omega
  simp [this]
  exact K
theorem prom (k : Fin 16) {r : List D} (p1 : p ≤ 99996) (K : Q (.int (nd k p)) h) : @Wc D (m_promise [.tup (.str (wd k) :: r), .int p] h) ⟨Q, X⟩ := by
  unfold m_promise; rw [wp_fn]; unfold b_promise
  simp
  refine first k ?_
  simp [fKin, kd_at]
  exact needed k p1 K
theorem sparing (k : Fin 16) {r : List D} (K : Q (.bl (sp k)) h) : @Wc D (m_is_sparing [.tup (.str (wd k) :: r)] h) ⟨Q, X⟩ := by
  unfold m_is_sparing; rw [wp_fn]; unfold b_is_sparing
  simp
  refine first k ?_
  simp [fIn, fInN, sp_at]
  exact K
theorem spare (p1 : p ≤ 99996) (K : Q (.int (nd 4 p)) h) : @Wc D (m_spare [.int p] h) ⟨Q, X⟩ := by
  unfold m_spare; rw [wp_fn]; unfold b_spare
  simp
  exact needed 4 p1 K
theorem nd4 : nd 4 p = 10 * hgt p + 1 := by
  have : st 4 = (1, 1, 1, 0) := rfl
  unfold nd; rw [this]; dsimp only; omega
theorem lneed (k : Fin 16) (K : Q (.int (nd k p)) (h ++ [.lst [.int (st k).1, .int (st k).2.1, .int (st k).2.2.1, .int (st k).2.2.2]])) : @Wc D (m_law_need_u [.str (wd k), .int (hgt p)] h) ⟨Q, X⟩ := by
  unfold m_law_need_u; rw [wp_fn]; unfold b_law_need_u
  obtain ⟨m1, m2, m3, m4, m5, m6⟩ := muls k p
  simp
  unfold m_law_steps_u; rw [wp_fn]
  simp [steps_at, m1, m2, m3, m4, m5, m6]
  exact K
end
end K14
set_option Elab.async false
set_option linter.all false
set_option maxRecDepth 100000
set_option maxHeartbeats 1000000
namespace K14
open PySem L2 LF NW
theorem sp_atT (h : M) (k : Fin 16) : inD h (.str (wd k)) (.tup [(.str "remove"), (.str "rmdir"), (.str "unmark"), (.str "snapshot"), (.str "clone"), (.str "drop")]) = some (sp k) := by
  induction k using each <;> rfl
def Lo (p u o s : Int) : O := .ins "Ledger" [("pool", .int p), ("used", .int u), ("opened", .int o), ("spent", .int s)]
def So (p u o s : Int) : O := .lst [.int p, .int u, .int o, .int s]
def lt (k : Fin 16) (p r : Int) : Bool := decide ((if sp k = true then nd k p else nd k p + 10 * hgt p + 1) ≤ r)
section
variable {h : M} {Q : D → M → Prop} {X : XP} {p u o s : Int} {L A : Nat} {g : Int → Int → Int} {i j : Int} {r : List D}
theorem f_pool (e : h[L]? = some (Lo p u o s)) : fFld xCt "pool" (.loc L) h = .ok (.int p) h := by unfold fFld; dsimp only; rw [e]; rfl
theorem f_used (e : h[L]? = some (Lo p u o s)) : fFld xCt "used" (.loc L) h = .ok (.int u) h := by unfold fFld; dsimp only; rw [e]; rfl
theorem f_opened (e : h[L]? = some (Lo p u o s)) : fFld xCt "opened" (.loc L) h = .ok (.int o) h := by unfold fFld; dsimp only; rw [e]; rfl
theorem f_spent (e : h[L]? = some (Lo p u o s)) : fFld xCt "spent" (.loc L) h = .ok (.int s) h := by unfold fFld; dsimp only; rw [e]; rfl
theorem c_at (e : h[L]? = some (Lo p u o s)) : clsAt h (.loc L) = some "Ledger" := by unfold clsAt; dsimp only; rw [e]; rfl
theorem i_at (e : h[L]? = some (Lo p u o s)) : isInsB h "Ledger" (.loc L) = true := by unfold isInsB; dsimp only; rw [e]; rfl
theorem a_opened (e : h[L]? = some (Lo p u o s)) : fFldA "opened" g (.loc L) (some "Ledger") (.int i) (.int j) h = .ok () (h.set L (Lo p u (g i j) s)) := by unfold fFldA; dsimp only; rw [e]; rfl
theorem a_spent (e : h[L]? = some (Lo p u o s)) : fFldA "spent" g (.loc L) (some "Ledger") (.int i) (.int j) h = .ok () (h.set L (Lo p u o (g i j))) := by unfold fFldA; dsimp only; rw [e]; rfl
theorem s_used (e : h[L]? = some (Lo p u o s)) : fFldS xCt "used" (.loc L) (.int i) h = .ok () (h.set L (Lo p i o s)) := by unfold fFldS; dsimp only; rw [e]; rfl
theorem s_spent (e : h[L]? = some (Lo p u o s)) : fFldS xCt "spent" (.loc L) (.int i) h = .ok () (h.set L (Lo p u o i)) := by unfold fFldS; dsimp only; rw [e]; rfl
theorem m_at (e : h[L]? = some (Lo p u o s)) : hasM h "Ledger" "is_let" (.loc L) = true ∧ hasM h "Ledger" "enter" (.loc L) = true ∧ hasM h "Ledger" "_check_open" (.loc L) = true ∧ hasM h "Ledger" "commit" (.loc L) = true ∧ hasM h "Ledger" "cancel" (.loc L) = true ∧ hasM h "Ledger" "spend" (.loc L) = true ∧ hasM h "Ledger" "checkpoint" (.loc L) = true := by
  unfold hasM; dsimp only; rw [e]; exact ⟨rfl, rfl, rfl, rfl, rfl, rfl, rfl⟩
theorem room (e : h[L]? = some (Lo p u o s)) (K : Q (.int (p - u - o - s)) h) : @Wc D (m_Ledger_room [.loc L] h) ⟨Q, X⟩ := by
  unfold m_Ledger_room; rw [wp_fn]; unfold b_Ledger_room
  simp [-v_fld, f_pool e, f_used e, f_opened e, f_spent e]
  exact K
theorem left (e : h[A]? = some (So p u o s)) (K : Q (.int (p - u - o - s)) h) : @Wc D (m_law_left_u [.loc A] h) ⟨Q, X⟩ := by
  unfold m_law_left_u; rw [wp_fn]; unfold b_law_left_u
  simp [e, So]
  exact K
theorem is_let (e : h[L]? = some (Lo p u o s)) (p1 : p ≤ 99996) (k : Fin 16) (K : Q (.bl (lt k p (p - u - o - s))) h) : @Wc D (m_Ledger_is_let [.loc L, .tup (.str (wd k) :: r)] h) ⟨Q, X⟩ := by
  unfold m_Ledger_is_let; rw [wp_fn]; unfold b_Ledger_is_let
  simp [-v_fld, -v_isIns, f_pool e]
  refine prom k p1 ?_
  simp [-v_fld, -v_isIns]
  refine sparing k ?_
  unfold lt at K
  have tb : ∀ b, fTru (.bl b) h = .ok b h := fun _ => rfl
  cases hs : sp k with
  | true =>
    simp [-v_fld, -v_isIns, tb, i_at e]
    refine room e ?_
    simpa [hs] using K
  | false =>
    simp [-v_fld, -v_isIns, tb, i_at e, f_pool e]
    refine room e ?_
    simp [-v_fld, -v_isIns, f_pool e]
    refine spare p1 ?_
    rw [nd4]
    simp
    simp [hs] at K
    have e2 : (nd k p ≤ p - u - o - s - (10 * hgt p + 1)) = (nd k p + 10 * hgt p + 1 ≤ p - u - o - s) := propext ⟨fun z => by omega, fun z => by omega⟩
    simpa only [e2] using K
theorem lets (e : h[A]? = some (So p u o s)) (p1 : p ≤ 99996) (k : Fin 16) (K : ∀ h', Fr [] h h' → Q (.bl (lt k p (p - u - o - s))) h') : @Wc D (m_law_lets_u [.str (wd k), .loc A] h) ⟨Q, X⟩ := by
  unfold m_law_lets_u; rw [wp_fn]; unfold b_law_lets_u
  simp [e, So]
  unfold m_law_bound_u; rw [wp_fn]; unfold b_law_bound_u
  simp
  refine lheight p1 ?_
  simp
  unfold m_law_spares_u; rw [wp_fn]; unfold b_law_spares_u
  have tb : ∀ b, fTru (.bl b) h = .ok b h := fun _ => rfl
  have e2 : ∀ os : M, (h ++ os)[A]? = some (So p u o s) := fun os => by rw [cat_old (at_lt e)]; exact e
  unfold lt at K
  obtain ⟨h0, h1⟩ := hgt_b p
  cases hs : sp k with
  | true =>
    simp [fIn, fInN, sp_atT, hs, tb, size24]
    refine lneed k ?_
    refine left (e2 _) ?_
    simp
    have K' := fun os => K (h ++ os) (.cat os)
    simp [hs] at K'
    exact K' _
  | false =>
    simp [fIn, fInN, sp_atT, hs, tb, size24]
    refine lneed k ?_
    simp
    refine ⟨cm (by omega) (by omega) (by omega) (by omega), ?_⟩
    refine left (e2 _) ?_
    simp
    have K' := fun os => K (h ++ os) (.cat os)
    simp [hs] at K'
    exact K' _
theorem enter (e : h[L]? = some (Lo p u o s)) (p1 : p ≤ 99996) (k : Fin 16) (K1 : lt k p (p - u - o - s) = true → Q (.int (nd k p)) (h.set L (Lo p u (o + nd k p) s)))
    (K2 : lt k p (p - u - o - s) = false → X "NoSpace" ["left", "need"] [.int (p - u - o - s), .int (nd k p)] h) : @Wc D (m_Ledger_enter [.loc L, .tup (.str (wd k) :: r)] h) ⟨Q, X⟩ := by
  unfold m_Ledger_enter; rw [wp_fn]; unfold b_Ledger_enter
  have tb : ∀ b, fTru (.bl b) h = .ok b h := fun _ => rfl
  simp [-v_fld, -v_isIns, -v_hasM, -v_fldA, -v_clsAt, f_pool e]
  refine prom k p1 ?_
  simp [-v_fld, -v_isIns, -v_hasM, -v_fldA, -v_clsAt, m_at e]
  refine is_let e p1 k ?_
  cases hl : lt k p (p - u - o - s) with
  | true =>
    simp [-v_fld, -v_isIns, -v_hasM, -v_fldA, -v_clsAt, tb, f_opened e, c_at e, a_opened e]
    exact K1 hl
  | false =>
    simp [-v_fld, -v_isIns, -v_hasM, -v_fldA, -v_clsAt, tb, i_at e]
    refine room e ?_
    simp
    exact K2 hl
theorem check (e : h[L]? = some (Lo p u o s)) (K1 : 0 ≤ i ∧ i ≤ o → Q .non h) (K2 : ¬ (0 ≤ i ∧ i ≤ o) → X "BadPromise" ["need"] [.int i] h) : @Wc D (m_Ledger__check_open [.loc L, .int i] h) ⟨Q, X⟩ := by
  unfold m_Ledger__check_open; rw [wp_fn]; unfold b_Ledger__check_open
  by_cases h0 : i < 0
  · simp [-v_fld, h0]
    exact K2 (by omega)
  · by_cases h1 : o < i
    · simp [-v_fld, h0, f_opened e, h1]
      exact K2 (by omega)
    · simp [-v_fld, h0, f_opened e, h1]
      exact K1 (by omega)
theorem commit (e : h[L]? = some (Lo p u o s)) (K1 : 0 ≤ i ∧ i ≤ o → Q .non (h.set L (Lo p u (o - i) (s + i)))) (K2 : ¬ (0 ≤ i ∧ i ≤ o) → X "BadPromise" ["need"] [.int i] h) : @Wc D (m_Ledger_commit [.loc L, .int i] h) ⟨Q, X⟩ := by
  unfold m_Ledger_commit; rw [wp_fn]; unfold b_Ledger_commit
  simp [-v_fld, -v_isIns, -v_hasM, -v_fldA, -v_clsAt, m_at e]
  refine check e (fun hi => ?_) K2
  have e2 := at_set (u := Lo p u (o - i) s) e
  simp [-v_fld, -v_isIns, -v_hasM, -v_fldA, -v_clsAt, f_opened e, c_at e, a_opened e, f_spent e2, c_at e2, a_spent e2]
  exact K1 hi
theorem cancel (e : h[L]? = some (Lo p u o s)) (K1 : 0 ≤ i ∧ i ≤ o → Q .non (h.set L (Lo p u (o - i) s))) (K2 : ¬ (0 ≤ i ∧ i ≤ o) → X "BadPromise" ["need"] [.int i] h) : @Wc D (m_Ledger_cancel [.loc L, .int i] h) ⟨Q, X⟩ := by
  unfold m_Ledger_cancel; rw [wp_fn]; unfold b_Ledger_cancel
  simp [-v_fld, -v_isIns, -v_hasM, -v_fldA, -v_clsAt, m_at e]
  refine check e (fun hi => ?_) K2
  simp [-v_fld, -v_isIns, -v_hasM, -v_fldA, -v_clsAt, f_opened e, c_at e, a_opened e]
  exact K1 hi
theorem spend (e : h[L]? = some (Lo p u o s)) (p1 : p ≤ 99996) (k : Fin 16) (K1 : Q .non (h.set L (Lo p u o (s + nd k p)))) : @Wc D (m_Ledger_spend [.loc L, .tup (.str (wd k) :: r)] h) ⟨Q, X⟩ := by
  unfold m_Ledger_spend; rw [wp_fn]; unfold b_Ledger_spend
  simp [-v_fld, -v_isIns, -v_hasM, -v_fldA, -v_clsAt, f_pool e, f_spent e]
  refine prom k p1 ?_
  simp [-v_fld, -v_isIns, -v_hasM, -v_fldA, -v_clsAt, c_at e, a_spent e]
  exact K1
theorem checkpoint (e : h[L]? = some (Lo p u o s)) (K1 : Q .non (h.set L (Lo p i o 0))) : @Wc D (m_Ledger_checkpoint [.loc L, .int i] h) ⟨Q, X⟩ := by
  unfold m_Ledger_checkpoint; rw [wp_fn]; unfold b_Ledger_checkpoint
  have e2 := at_set (u := Lo p i o s) e
  simp [-v_fldS, s_used e, s_spent e2]
  exact K1
theorem init (e : h[L]? = some (.ins "Ledger" [])) (K : Q .non (h.set L (Lo p u 0 0))) : @Wc D (m_Ledger___init__ [.loc L, .int p, .int u] h) ⟨Q, X⟩ := by
  unfold m_Ledger___init__; rw [wp_fn]; unfold b_Ledger___init__
  have hl := at_lt e
  have e1 : fFldS xCt "pool" (.loc L) (.int p) h = .ok () (h.set L (.ins "Ledger" [("pool", .int p)])) := by unfold fFldS; dsimp only; rw [e]; rfl
  have e2 : fFldS xCt "used" (.loc L) (.int u) (h.set L (.ins "Ledger" [("pool", .int p)])) = .ok () (h.set L (.ins "Ledger" [("pool", .int p), ("used", .int u)])) := by
    unfold fFldS; dsimp only; rw [at_set e]
    show Res.ok () ((h.set L (.ins "Ledger" [("pool", .int p)])).set L (.ins "Ledger" [("pool", .int p), ("used", .int u)])) = _
    rw [List.set_set]
  have e3 : fFldS xCt "opened" (.loc L) (.int 0) (h.set L (.ins "Ledger" [("pool", .int p), ("used", .int u)])) = .ok () (h.set L (.ins "Ledger" [("pool", .int p), ("used", .int u), ("opened", .int 0)])) := by
    unfold fFldS; dsimp only; rw [at_set e]
    show Res.ok () ((h.set L (.ins "Ledger" [("pool", .int p), ("used", .int u)])).set L (.ins "Ledger" [("pool", .int p), ("used", .int u), ("opened", .int 0)])) = _
    rw [List.set_set]
  have e4 : fFldS xCt "spent" (.loc L) (.int 0) (h.set L (.ins "Ledger" [("pool", .int p), ("used", .int u), ("opened", .int 0)])) = .ok () (h.set L (Lo p u 0 0)) := by
    unfold fFldS; dsimp only; rw [at_set e]
    show Res.ok () ((h.set L (.ins "Ledger" [("pool", .int p), ("used", .int u), ("opened", .int 0)])).set L (Lo p u 0 0)) = _
    rw [List.set_set]
  simp [-v_fldS, e1, e2, e3, e4]
  exact K
end
end K14
set_option Elab.async false
set_option linter.all false
set_option maxRecDepth 100000
set_option maxHeartbeats 1000000
namespace K14
open PySem L2 LF NW
abbrev Wide (c : Int) : Prop := Builtin.Int.intBits c ≤ 1048576
theorem wide_s {c : Int} (h1 : -1000000000000000000000000000000 < c) (h2 : c < 1000000000000000000000000000000) : Builtin.Int.intBits c ≤ 200 := PySem.intBits_le_iff.mpr (by omega)
theorem cb {i j : Int} (h1 : Wide i) (h3 : -1000000000000000000000000000000 < j) (h4 : j < 1000000000000000000000000000000) : CMulB i j := by
  have := wide_s h3 h4
  unfold CMulB; unfold Wide at h1; omega
theorem cs {i j : Int} (h1 : -1000000000000000000000000000000 < i) (h2 : i < 1000000000000000000000000000000) (h3 : -1000000000000000000000000000000 < j) (h4 : j < 1000000000000000000000000000000) : CMulB i j :=
  cb (Nat.le_trans (wide_s h1 h2) (by decide)) h3 h4
/-- drawn numbers: each under its size -/
def Dr (zs ds : List Int) : Prop := ds.length = zs.length ∧ ∀ (i : Nat) (x d : Int), zs[i]? = some x → ds[i]? = some d → 0 ≤ d ∧ d < x
section
variable {h : M} {Q : D → M → Prop} {X : XP}
theorem draws {c : Int} {z : Nat} {zs : List Int} (hc : Wide c) (e : h[z]? = some (.lst (zs.map .int))) (hz : ∀ x ∈ zs, 0 < x ∧ x < 2 ^ 160) (hn : zs.length ≤ 100)
    (K : ∀ ds l h', Dr zs ds → h'[l]? = some (.lst (ds.map .int)) → h.length ≤ l → Fr [] h h' → Q (.loc l) h') : @Wc D (m_law_draws_u [.int c, .loc z] h) ⟨Q, X⟩ := by
  unfold m_law_draws_u; rw [wp_fn]; unfold b_law_draws_u
  have zl := at_lt e
  have e2 : ∀ os : M, (h ++ os)[z]? = some (.lst (zs.map .int)) := fun os => by rw [cat_old zl]; exact e
  simp [e2, size24]
  refine ⟨by omega, ?_⟩
  refine floop_inv (fun i en h' => ∃ (ds : List Int) (r : Int) (s4 s5 : Sl), en = [.va (.int c), .va (.loc z), .va (.loc h.length), .va (.int r), s4, s5] ∧ h' = h ++ [.lst (ds.map .int)] ∧ ds.length = i ∧ ∀ (j : Nat) (x d : Int), zs[j]? = some x → ds[j]? = some d → 0 ≤ d ∧ d < x)
    ⟨[], c, _, _, rfl, by simp, rfl, by simp⟩ (fun _ _ _ _ _ => trivial) ?_ ?_
  · rintro i d _ _ hd ⟨ds, r, s4, s5, rfl, rfl, hl, hb⟩
    obtain ⟨hi, rfl⟩ := rg_at hd
    have hi : i < zs.length := by simpa using hi
    obtain ⟨x, ex⟩ : ∃ x, zs[i]? = some x := ⟨_, List.getElem?_eq_getElem hi⟩
    obtain ⟨x0, x1⟩ := hz x (List.mem_of_getElem? ex)
    have ea : atI (zs.map D.int) (i : Int) = some (.int x) := by rw [atI_n, List.getElem?_map, ex]; rfl
    have hdl : ds.length < 16777216 := by omega
    have fin : ∀ d : Int, 0 ≤ d → d < x → ∀ (j : Nat) (y e : Int), zs[j]? = some y → (ds ++ [d])[j]? = some e → 0 ≤ e ∧ e < y := fun d d0 d1 j y e ey ee => by
      by_cases hj : j < ds.length
      · rw [List.getElem?_append_left hj] at ee; exact hb j y e ey ee
      · rw [List.getElem?_append_right (by omega)] at ee
        have hj2 : j = i := by
          have : j - ds.length < 1 := by simpa using (List.getElem?_eq_some_iff.mp ee).1
          omega
        subst hj2
        rw [show j - ds.length = 0 by omega] at ee
        simp at ee
        rw [ey] at ex; cases ex; subst ee
        exact ⟨d0, d1⟩
    by_cases hg : 1000000000000000000 ≤ c
    · simp [hg, e2, ea, size24, hdl, x0]
      exact ⟨cdivW x0 (by omega), ds ++ [r % x], by simp, by simp [hl], fin _ (Int.emod_nonneg _ (by omega)) (Int.emod_lt_of_pos _ x0)⟩
    · simp [hg, e2, ea, size24, hdl, x0]
      obtain ⟨g, hgg⟩ : ∃ g, (c * 48271 + 69621 * (i : Int) + 69621) % 2147483647 = g := ⟨_, rfl⟩
      simp only [hgg]
      have g0 : 0 ≤ g := by omega
      have g1 : g < 2147483647 := by omega
      exact ⟨cb hc (by omega) (by omega), cs (by omega) (by omega) (by omega) (by omega), cs (by omega) (by omega) (by omega) (by omega), ds ++ [g * (g + 16807 + (i : Int)) % 2147483629 % x], by simp, by simp [hl], fin _ (Int.emod_nonneg _ (by omega)) (Int.emod_lt_of_pos _ x0)⟩
  · rintro _ _ ⟨ds, r, s4, s5, rfl, rfl, hl, hb⟩
    simp at hl ⊢
    exact K ds _ _ ⟨hl, hb⟩ (by simp) (Nat.le_refl _) (.cat _)
theorem number {ns : List Int} {k : Int} (k0 : 0 ≤ k) (k1 : k ≤ 1000) (hb : ∀ z ∈ ns, Wide z) (hn : ns.length ≤ 63) (K : ∀ c h', Wide c → Fr [] h h' → Q (.int c) h') : @Wc D (m_law_number_u [.cl (ns.map .int), .int k] h) ⟨Q, X⟩ := by
  unfold m_law_number_u; rw [wp_fn]; unfold b_law_number_u
  have rest : ∀ h2 : M, Fr [] h h2 → ∀ m : Int, 0 ≤ m → m < 2147483647 → Q (.int ((m * 48271 + 433494437 * k) % 2147483629)) h2 := fun h2 F m m0 m1 =>
    K _ _ (Nat.le_trans (wide_s (by omega) (by omega)) (by decide)) F
  rw [ws_seq]
  refine Ws.cut (fun e h' => h = h' ∧ e = [.va (.cl (ns.map .int)), .va (.int k), .no, .no]) ?_ ?_
  · by_cases hl : k < ns.length
    · obtain ⟨c, hc⟩ : ∃ c, ns[k.toNat]? = some c := ⟨_, List.getElem?_eq_getElem (by omega)⟩
      have ea : atI (ns.map D.int) k = some (.int c) := by
        have := atI_n (xs := ns.map D.int) (n := k.toNat)
        rw [Int.toNat_of_nonneg k0] at this
        rw [this, List.getElem?_map, hc]; rfl
      have h63 : k < 63 := by omega
      simp [hl, ea, h63]
      exact K c h (hb c (List.mem_of_getElem? hc)) (.refl _ _)
    · simp [hl]
  rintro _ _ ⟨rfl, rfl⟩
  simp
  refine floop_inv (fun i en h' => h' = h ++ [.lst (cutD (ns.map D.int) none (some 3))] ∧ ∃ (m : Int) (s3 : Sl), en = [.va (.cl (ns.map .int)), .va (.int k), .va (.int m), s3] ∧ 0 ≤ m ∧ m < 2147483647) ⟨rfl, _, _, rfl, by omega, by omega⟩ ?_ ?_ ?_
  · rintro i en _ hi ⟨rfl, _⟩
    simp [lstOf]
  · rintro i d _ _ hd ⟨rfl, m, s3, rfl, m0, m1⟩
    have hm := List.mem_of_getElem? hd
    unfold cutD at hm
    have hm := List.mem_of_mem_drop (List.mem_of_mem_take hm)
    obtain ⟨z, _, rfl⟩ := List.mem_map.mp hm
    simp
    exact ⟨cs (by omega) (by omega) (by omega) (by omega), by omega, by omega⟩
  · rintro _ _ ⟨rfl, m, s3, rfl, m0, m1⟩
    simp
    exact ⟨cs (by omega) (by omega) (by omega) (by omega), cs (by omega) (by omega) (by omega) (by omega), rest _ (.cat _) _ m0 m1⟩
theorem SGL_len : SGL.length = 37 := rfl
theorem sg_ix {y : Int} (y0 : 0 ≤ y) (y1 : y < 37) : atI SGL y = some (sg y.toNat) := by
  obtain ⟨c, rfl⟩ : ∃ c : Nat, y = (c : Int) := ⟨y.toNat, by omega⟩
  rw [atI_n, sg_at (by omega)]; simp
theorem name {n : Int} (K : ∀ t, Q (.str t) h) : @Wc D (m_law_name_u [.int n] h) ⟨Q, X⟩ := by
  unfold m_law_name_u; rw [wp_fn]; unfold b_law_name_u
  simp [sg_lit, nil_lit]
  refine ⟨cdivW (by omega) (by omega), by omega, ?_⟩
  refine floop_inv (fun i env h' => h = h' ∧ ∃ (cs : List Nat) (w : Int) (s : Sl), env = [.va (.int n), .va (.str (T SGL)), .va (.str (T cs)), .va (.int w), s] ∧ cs.length = i) ⟨rfl, [], _, _, rfl, rfl⟩ (fun _ _ _ _ _ => trivial) ?_ ?_
  · rintro i d _ _ hd ⟨rfl, cs, w, s, rfl, hl⟩
    obtain ⟨hi, rfl⟩ := rg_at hd
    have hq := sg_ix (y := w % 37) (by omega) (by omega)
    simp [size24, SGL_len, hq]
    exact ⟨by omega, cdivW (by omega) (by omega), hl⟩
  · rintro _ _ ⟨rfl, cs, w, s, rfl, hl⟩
    simp
    exact K _
theorem path {n : Int} (K : ∀ xs h', Fr [] h h' → Q (.tup xs) h') : @Wc D (m_law_path_u [.int n] h) ⟨Q, X⟩ := by
  unfold m_law_path_u; rw [wp_fn]; unfold b_law_path_u
  simp [size24]
  refine ⟨cdivW (by omega) (by omega), by omega, ?_⟩
  refine floop_inv (fun i env h' => ∃ (xs : List D) (w : Int) (s : Sl), env = [.va (.int n), .va (.loc h.length), .va (.int w), s] ∧ h' = h ++ [.lst xs] ∧ xs.length = i) ⟨[], _, _, rfl, rfl, rfl⟩ (fun _ _ _ _ _ => trivial) ?_ ?_
  · rintro i d _ _ hd ⟨xs, w, s, rfl, rfl, hl⟩
    obtain ⟨hi, rfl⟩ := rg_at hd
    simp [size24]
    refine name fun t => ?_
    simp [size24]
    exact ⟨by omega, cdivW (by omega) (by omega), hl⟩
  · rintro _ _ ⟨xs, w, s, rfl, rfl, hl⟩
    simp
    exact K _ _ (.cat _)
theorem words (K : Q (.loc (h.length + 2)) (h ++ [.lst ((wds.take 10).map .str), .lst ((wds.drop 10).map .str), .lst (wds.map .str)])) : @Wc D (m_law_words_u [] h) ⟨Q, X⟩ := by
  unfold m_law_words_u; rw [wp_fn]; unfold b_law_words_u
  simp [size24]
  simpa [wds] using K
theorem lis {a b : Int} (K : Q (.bl (decide (a = b))) h) : @Wc D (m_law_is_u [.int a, .int b] h) ⟨Q, X⟩ := by
  unfold m_law_is_u; rw [wp_fn]; unfold b_law_is_u
  simp
  exact K
theorem ltruth {a b : Bool} (K : Q (.bl (decide (a = b))) h) : @Wc D (m_law_truth_u [.bl a, .bl b] h) ⟨Q, X⟩ := by
  unfold m_law_truth_u; rw [wp_fn]; unfold b_law_truth_u
  have : fIsI [.bl a, .ty "bool"] h = .ok (.bl true) h := by simp [fIsI, tyD, kinds, isTy]
  simp [this]
  exact K
end
end K14
set_option Elab.async false
set_option linter.all false
set_option maxRecDepth 100000
set_option maxHeartbeats 1000000
namespace K14
open PySem L2 LF NW
theorem in1 (h : M) (k : Fin 16) : fIn (.str (wd k)) (.tup [.str "snapshot", .str "clone"]) h = .ok (.bl (decide (k = 13 ∨ k = 14))) h := by induction k using each <;> rfl
theorem in2 (h : M) (k : Fin 16) : fIn (.str (wd k)) (.tup [.str "link", .str "rename"]) h = .ok (.bl (decide (k = 2 ∨ k = 3))) h := by induction k using each <;> rfl
theorem eqw (k : Fin 16) : (wd k = "drop") = (k = 15) ∧ (wd k = "limit") = (k = 12) ∧ (wd k = "charge") = False ∧ (wd k = "write") = (k = 6) ∧ (wd k = "read") = False ∧ (wd k = "resize") = (k = 7) ∧ (wd k = "mark") = (k = 8) ∧ (wd k = "unmark") = (k = 9) ∧ (wd k = "rights") = (k = 10) ∧ (wd k = "give") = (k = 11) := by
  simp only [eq_iff_iff]
  revert k; decide +kernel
theorem p3 (i : Nat) (hi : i < 10) : (2 : Int) * 3 ^ i ≤ 39366 ∧ (0 : Int) < 3 ^ i := (by decide : ∀ i : Fin 10, (2 : Int) * 3 ^ i.val ≤ 39366 ∧ (0 : Int) < 3 ^ i.val) ⟨i, hi⟩
section
variable {h : M} {Q : D → M → Prop} {X : XP}
theorem addT {xs ys : List D} : fAdd (.tup xs) (.tup ys) h = if xs.length + ys.length ≤ sizeLine ∧ xs ≠ [] then .ok (.tup (xs ++ ys)) h else .stuck := rfl
theorem call (k : Fin 16) {l : Nat} {ds : List Int} (e : h[l]? = some (.lst (ds.map .int))) (hl : ds.length = 6) (K : ∀ r h', Fr [] h h' → Q (.tup (.str (wd k) :: r)) h') : @Wc D (m_law_call_u [.str (wd k), .loc l] h) ⟨Q, X⟩ := by
  obtain ⟨a, b, c, d, f, g, rfl⟩ : ∃ a b c d f g, ds = [a, b, c, d, f, g] := by
    match ds, hl with
    | [a, b, c, d, f, g], _ => exact ⟨a, b, c, d, f, g, rfl⟩
  unfold m_law_call_u; rw [wp_fn]; unfold b_law_call_u
  obtain ⟨q1, q2, q3, q4, q5, q6, q7, q8, q9, q10⟩ := eqw k
  simp [e, size24]
  refine name fun t => ?_
  simp [e, size24]
  refine path fun xs h1 F1 => ?_
  have e1 := F1.at e
  have e3 : ∀ os : M, (h1 ++ os)[l]? = some (.lst [.int a, .int b, .int c, .int d, .int f, .int g]) := fun os => by rw [cat_old (at_lt e1)]; exact e1
  simp [e1, e3, size24, in1, in2, q1, q2, q3, q4, q5, q6, q7, q8, q9, q10]
  split
  · refine name fun t => ?_
    simp [addT, size24]
    exact K _ _ F1
  split
  · exact K _ _ F1
  split
  · have hm : f % 2 = 0 ∨ f % 2 = 1 := by omega
    rcases hm with hm | hm
    · simp [addT, size24, hm]
      exact K _ _ (F1.trans (.cat _))
    · simp [addT, size24, hm]
      exact K _ _ (F1.trans (.cat _))
  split
  · refine path fun ys h2 F2 => ?_
    simp [addT, size24]
    exact K _ _ (F1.trans F2)
  split
  · refine ⟨by omega, ?_⟩
    refine lcloop_inv (fun i acc h' => h' = h1 ++ [.lst acc] ∧ acc.length = i) ⟨by simp, rfl⟩ (fun _ _ _ _ _ => trivial) ?_ ?_
    · rintro i d acc _ hd ⟨rfl, hl⟩
      obtain ⟨hi, rfl⟩ := rg_at hd
      have e2 : (h1 ++ [O.lst acc])[l]? = some (.lst ([a, b, c, d, f, g].map .int)) := by rw [cat_old (at_lt e1)]; exact e1
      simp [e2, size24, hl]
      omega
    · rintro acc _ ⟨rfl, hl⟩
      simp [addT, size24]
      exact K _ _ (F1.trans (.cat _))
  split
  · simp [addT, size24]
    exact K _ _ F1
  split
  · refine name fun t => ?_
    simp [addT, size24, e1]
    exact K _ _ F1
  split
  · refine name fun t => ?_
    simp [addT, size24, e1]
    exact K _ _ F1
  split
  · simp [addT, size24]
    exact K _ _ F1
  split
  · simp [addT, size24]
    exact K _ _ F1
  · simp [addT, size24]
    exact K _ _ F1
theorem stands {L A : Nat} {p u o s : Int} (eL : h[L]? = some (Lo p u o s)) (eA : h[A]? = some (So p u o s)) (K : ∀ h', Fr [] h h' → Q (.bl true) h') : @Wc D (m_law_stands_u [.loc L, .loc A] h) ⟨Q, X⟩ := by
  unfold m_law_stands_u; rw [wp_fn]; unfold b_law_stands_u
  simp [-v_fld, -v_isIns, f_pool eL, f_used eL, f_opened eL, f_spent eL, i_at eL]
  refine room eL ?_
  simp [size24]
  have eA1 : ∀ os : M, (h ++ os)[A]? = some (So p u o s) := fun os => by rw [cat_old (at_lt eA)]; exact eA
  refine left (eA1 _) ?_
  simp [size24]
  have eA2 := eA1
  simp only [So] at eA2
  simp [eA2, size24]
  refine floop_inv (fun i e h' => h' = h ++ [.lst [.int p, .int u, .int o, .int s, .int (p - u - o - s)], .lst [.int (p - u - o - s)], .lst [.int p, .int u, .int o, .int s, .int (p - u - o - s)]] ∧
    ∃ (s4 : Sl), e = [.va (.loc L), .va (.loc A), .va (.loc h.length), .va (.loc (h.length + 2)), s4]) ⟨by simp, _, rfl⟩ (fun _ _ _ _ _ => trivial) ?_ ?_
  · rintro i d _ _ hd ⟨rfl, s4, rfl⟩
    obtain ⟨hi, rfl⟩ := rg_at hd
    obtain ⟨x, ex⟩ : ∃ x, atI [D.int p, .int u, .int o, .int s, .int (p - u - o - s)] (i : Int) = some (.int x) := by
      rw [atI_n]
      match i, hi with
      | 0, _ => exact ⟨_, rfl⟩
      | 1, _ => exact ⟨_, rfl⟩
      | 2, _ => exact ⟨_, rfl⟩
      | 3, _ => exact ⟨_, rfl⟩
      | 4, _ => exact ⟨_, rfl⟩
    simp [ex]
    refine lis ?_
    have tb : ∀ b h, fTru (.bl b) h = .ok b h := fun _ _ => rfl
    simp [tb]
  · rintro _ _ ⟨rfl, s4, rfl⟩
    simp
    exact K _ (.cat _)
end
end K14
set_option Elab.async false
set_option linter.all false
set_option maxRecDepth 100000
set_option maxHeartbeats 1000000
namespace K14
open PySem L2 LF NW
theorem tk1 : lookT xTk ("NoSpace", "NoSpace") = some true := by decide +kernel
theorem nm1 : ("NoSpace" : Str) ∈ xNm := by decide +kernel
theorem ft1 : (("NoSpace", "need") : Str × Str) ∈ xFt := by decide +kernel
theorem ft2 : (("NoSpace", "left") : Str × Str) ∈ xFt := by decide +kernel
theorem lk1' {a b : D} : lookT [(Str.ofString "left", a), (Str.ofString "need", b)] (Str.ofString "need") = some b := rfl
theorem lk2' {a b : D} : lookT [(Str.ofString "left", a), (Str.ofString "need", b)] (Str.ofString "left") = some a := rfl
theorem tb (b : Bool) (h : M) : fTru (.bl b) h = .ok b h := rfl
def bd (k : Fin 16) (p : Int) : Int := if sp k = true then nd k p else nd k p + 10 * hgt p + 1
theorem lt_bd {k : Fin 16} {p r : Int} : lt k p r = decide (bd k p ≤ r) := rfl
theorem bd_nd {k : Fin 16} {p : Int} : nd k p ≤ bd k p := by have := (hgt_b p).1; unfold bd; split <;> omega
abbrev Cl := Fin 16 × List D
def cl (c : Cl) : D := .tup (.str (wd c.1) :: c.2)
section
variable {h : M} {Q : D → M → Prop} {X : XP} {p u o s : Int} {L A : Nat}
theorem ix1 : fIsX xTk xTt "NoSpace" (.cls "LandfallError") h = .ok (.bl true) h := by
  have e : isX xTk xTt "NoSpace" (.cls "LandfallError") = some true := by decide +kernel
  unfold fIsX; rw [e]; rfl
theorem ix2 : fIsX xTk xTt "NoSpace" (.ty "ValueError") h = .ok (.bl true) h := by
  have e : isX xTk xTt "NoSpace" (.ty "ValueError") = some true := by decide +kernel
  unfold fIsX; rw [e]; rfl
theorem ix3 : fIsX xTk xTt "NoSpace" (.tup [.cls "BadCall", .cls "BadPromise", .cls "PoolFull"]) h = .ok (.bl false) h := by
  have e : isX xTk xTt "NoSpace" (.tup [.cls "BadCall", .cls "BadPromise", .cls "PoolFull"]) = some false := by decide +kernel
  have e2 : allX xTk xTt "NoSpace" (.tup [.cls "BadCall", .cls "BadPromise", .cls "PoolFull"]) = true := by decide +kernel
  unfold fIsX; rw [e, e2]; rfl
theorem bound (p2 : p ≤ 99996) (k : Fin 16) (K : ∀ h', Fr [] h h' → Q (.int (bd k p)) h') : @Wc D (m_law_bound_u [.str (wd k), .int p] h) ⟨Q, X⟩ := by
  unfold m_law_bound_u; rw [wp_fn]; unfold b_law_bound_u
  simp
  refine lheight p2 ?_
  simp
  unfold m_law_spares_u; rw [wp_fn]; unfold b_law_spares_u
  obtain ⟨h0, h1⟩ := hgt_b p
  unfold bd at K
  cases hs : sp k with
  | true =>
    simp [fIn, fInN, sp_atT, hs, tb, size24]
    refine lneed k ?_
    have K' := fun os => K (h ++ os) (.cat os)
    simp [hs] at K'
    exact K' _
  | false =>
    simp [fIn, fInN, sp_atT, hs, tb, size24]
    refine lneed k ?_
    simp
    refine ⟨cm (by omega) (by omega) (by omega) (by omega), ?_⟩
    have K' := fun os => K (h ++ os) (.cat os)
    simp [hs] at K'
    exact K' _
/-- need = .. at the head of a def -/
theorem needA (eA : h[A]? = some (So p u o s)) (p2 : p ≤ 99996) (c : Cl) {env : En} {mc ma : ME} (e1 : mc env h = .ok (cl c) h) (e2 : ma env h = .ok (.loc A) h) (K : ∀ h', Fr [] h h' → Q (.int (nd c.1 p)) h') :
    @Wc D (mL (mFix 2 m_law_need_u) (mCons (m2 fIx mc (mC (.int 0))) (mCons (mL (mFix 1 m_law_height_u) (mCons (m2 fIx ma (mC (.int 0))) mNil)) mNil)) env h) ⟨Q, X⟩ := by
  simp only [So] at eA
  simp [e1, e2, cl, eA]
  refine lheight p2 ?_
  simp
  exact lneed c.1 (K _ (.cat _))
theorem refused (eL : h[L]? = some (Lo p u o s)) (eA : h[A]? = some (So p u o s)) (p2 : p ≤ 99996) (c : Cl) (hl : lt c.1 p (p - u - o - s) = false) (K : ∀ h', Fr [] h h' → Q (.bl true) h') : @Wc D (m_law_is_refused_u [.loc L, .loc A, cl c] h) ⟨Q, X⟩ := by
  unfold m_law_is_refused_u; rw [wp_fn]; unfold b_law_is_refused_u
  rw [ws_seq]
  refine Ws.cut (fun e h' => Fr [] h h' ∧ e = [.va (.loc L), .va (.loc A), .va (cl c), .va (.int (nd c.1 p)), .no]) ?_ ?_
  · rw [ws_set]
    exact needA eA p2 c rfl rfl fun h' F => ⟨F, rfl⟩
  rintro _ h1 ⟨F1, rfl⟩
  have eL1 := F1.at eL
  have eA1 := F1.at eA
  simp [-v_hasM, m_at eL1, cl]
  refine is_let eL1 p2 c.1 ?_
  simp
  refine ltruth ?_
  simp [-v_hasM, tb, hl, m_at eL1]
  refine enter eL1 p2 c.1 (fun z => by rw [hl] at z; cases z) fun _ => ?_
  simp [tk1, nm1, ix1, ix2, ix3, tb, ft1, ft2, lk1', lk2', size24]
  refine lis ?_
  simp [tb, lk2', ft2]
  refine left eA1 ?_
  refine lis ?_
  simp [tb]
  exact stands eL1 eA1 fun h' F' => K h' (F1.trans F')
theorem enters (eL : h[L]? = some (Lo p u o s)) (eA : h[A]? = some (So p u o s)) (hne : L ≠ A) (p2 : p ≤ 99996) (c : Cl) (hl : lt c.1 p (p - u - o - s) = true)
    (K : ∀ h', h'[L]? = some (Lo p u (o + nd c.1 p) s) → h'[A]? = some (So p u (o + nd c.1 p) s) → Fr [L, A] h h' → Q (.bl true) h') : @Wc D (m_law_enters_u [.loc L, .loc A, cl c] h) ⟨Q, X⟩ := by
  unfold m_law_enters_u; rw [wp_fn]; unfold b_law_enters_u
  rw [ws_seq]
  refine Ws.cut (fun e h' => Fr [] h h' ∧ e = [.va (.loc L), .va (.loc A), .va (cl c), .va (.int (nd c.1 p))]) ?_ ?_
  · rw [ws_set]
    exact needA eA p2 c rfl rfl fun h' F => ⟨F, rfl⟩
  rintro _ h1 ⟨F1, rfl⟩
  have eL1 := F1.at eL
  have eA1 := F1.at eA
  simp [-v_hasM, m_at eL1, cl]
  refine is_let eL1 p2 c.1 ?_
  simp
  refine ltruth ?_
  simp [-v_hasM, tb, hl, m_at eL1]
  refine enter eL1 p2 c.1 (fun _ => ?_) fun z => by rw [hl] at z; cases z
  refine lis ?_
  have eA2 : (List.set h1 L (Lo p u (o + nd c.1 p) s))[A]? = some (.lst [.int p, .int u, .int o, .int s]) := at_setN eA1 hne
  simp [tb, eA2, v_putL eA2]
  have eA3 : ((List.set h1 L (Lo p u (o + nd c.1 p) s)).set A (.lst [.int p, .int u, .int (o + nd c.1 p), .int s]))[A]? = some (So p u (o + nd c.1 p) s) := at_set eA2
  have eL3 : ((List.set h1 L (Lo p u (o + nd c.1 p) s)).set A (.lst [.int p, .int u, .int (o + nd c.1 p), .int s]))[L]? = some (Lo p u (o + nd c.1 p) s) := at_setN (at_set eL1) (Ne.symm hne)
  have F3 : Fr [L, A] h ((List.set h1 L (Lo p u (o + nd c.1 p) s)).set A (.lst [.int p, .int u, .int (o + nd c.1 p), .int s])) := (F1.nil.trans (Fr.set (l := L) _ (by simp))).trans (Fr.set (l := A) _ (by simp))
  refine stands eL3 eA3 fun h4 F4 => ?_
  have eL4 := F4.at eL3
  have eA4 := F4.at eA3
  simp [-v_hasM, tb, m_at eL4]
  refine is_let eL4 p2 c.1 ?_
  simp
  refine lets eA4 p2 c.1 fun h5 F5 => ?_
  refine ltruth ?_
  simp
  exact K h5 (F5.at eL4) (F5.at eA4) (F3.trans (F4.trans F5).nil)
end
end K14
set_option Elab.async false
set_option linter.all false
set_option maxRecDepth 100000
set_option maxHeartbeats 1000000
namespace K14
open PySem L2 LF NW
section
variable {h : M} {Q : D → M → Prop} {X : XP} {p u o s : Int} {L A : Nat}
theorem letSide (eL : h[L]? = some (Lo p u o s)) (eA : h[A]? = some (So p u o s)) (hne : L ≠ A) (p2 : p ≤ 99996) (o0 : 0 ≤ o) (c : Cl) (hl : lt c.1 p (p - u - o - s) = true)
    (K : ∀ h', Fr [L, A] h h' → Q (.bl true) h') : @Wc D (m_law_let_side_u [.loc L, .loc A, cl c] h) ⟨Q, X⟩ := by
  unfold m_law_let_side_u; rw [wp_fn]; unfold b_law_let_side_u
  have n0 := (nd_b c.1 p).1
  rw [ws_seq]
  refine Ws.cut (fun e h' => Fr [] h h' ∧ e = [.va (.loc L), .va (.loc A), .va (cl c), .va (.int (nd c.1 p))]) ?_ ?_
  · rw [ws_set]
    exact needA eA p2 c rfl rfl fun h' F => ⟨F, rfl⟩
  rintro _ h1 ⟨F1, rfl⟩
  have eL1 := F1.at eL
  have eA1 := F1.at eA
  simp
  refine enters eL1 eA1 hne p2 c hl fun h2 eL2 eA2 F2 => ?_
  simp [-v_hasM, tb, m_at eL2]
  refine cancel eL2 (fun _ => ?_) fun z => absurd ⟨n0, by omega⟩ z
  have e1 : o + nd c.1 p - nd c.1 p = o := by omega
  rw [e1]
  have eA3 : (List.set h2 L (Lo p u o s))[A]? = some (.lst [.int p, .int u, .int (o + nd c.1 p), .int s]) := at_setN eA2 hne
  simp [tb, eA3, v_putL eA3, e1]
  have eA4 : ((List.set h2 L (Lo p u o s)).set A (.lst [.int p, .int u, .int o, .int s]))[A]? = some (So p u o s) := at_set eA3
  have eL4 : ((List.set h2 L (Lo p u o s)).set A (.lst [.int p, .int u, .int o, .int s]))[L]? = some (Lo p u o s) := at_setN (at_set eL2) (Ne.symm hne)
  have F4 : Fr [L, A] h ((List.set h2 L (Lo p u o s)).set A (.lst [.int p, .int u, .int o, .int s])) := ((F1.nil.trans F2).trans (Fr.set (l := L) _ (by simp))).trans (Fr.set (l := A) _ (by simp))
  refine stands eL4 eA4 fun h5 F5 => ?_
  simp [tb]
  refine enters (F5.at eL4) (F5.at eA4) hne p2 c hl fun h6 eL6 eA6 F6 => ?_
  simp [-v_hasM, tb, m_at eL6]
  refine commit eL6 (fun _ => ?_) fun z => absurd ⟨n0, by omega⟩ z
  rw [e1]
  have eA7 : (List.set h6 L (Lo p u o (s + nd c.1 p)))[A]? = some (.lst [.int p, .int u, .int (o + nd c.1 p), .int s]) := at_setN eA6 hne
  have eA8 : ((List.set h6 L (Lo p u o (s + nd c.1 p))).set A (.lst [.int p, .int u, .int o, .int s]))[A]? = some (.lst [.int p, .int u, .int o, .int s]) := at_set eA7
  simp [tb, eA7, v_putL eA7, e1, eA8, v_putL eA8, List.set_set]
  have eA9 : ((List.set h6 L (Lo p u o (s + nd c.1 p))).set A (.lst [.int p, .int u, .int o, .int (s + nd c.1 p)]))[A]? = some (So p u o (s + nd c.1 p)) := at_set eA7
  have eL9 : ((List.set h6 L (Lo p u o (s + nd c.1 p))).set A (.lst [.int p, .int u, .int o, .int (s + nd c.1 p)]))[L]? = some (Lo p u o (s + nd c.1 p)) := at_setN (at_set eL6) (Ne.symm hne)
  have F9 : Fr [L, A] h ((List.set h6 L (Lo p u o (s + nd c.1 p))).set A (.lst [.int p, .int u, .int o, .int (s + nd c.1 p)])) := (((F4.trans F5.nil).trans F6).trans (Fr.set (l := L) _ (by simp))).trans (Fr.set (l := A) _ (by simp))
  refine stands eL9 eA9 fun h10 F10 => ?_
  have eL10 := F10.at eL9
  simp [-v_hasM, tb, m_at eL10, cl]
  refine is_let eL10 p2 c.1 ?_
  simp
  refine lets (F10.at eA9) p2 c.1 fun h11 F11 => ?_
  refine ltruth ?_
  simp
  exact K h11 (F9.trans (F10.trans F11).nil)
theorem refusedSide (eL : h[L]? = some (Lo p u o s)) (eA : h[A]? = some (So p u o s)) (hne : L ≠ A) (p2 : p ≤ 99996) (c : Cl) (hl : lt c.1 p (p - u - o - s) = false)
    (K : ∀ h', Fr [L, A] h h' → Q (.bl true) h') : @Wc D (m_law_refused_side_u [.loc L, .loc A, cl c] h) ⟨Q, X⟩ := by
  unfold m_law_refused_side_u; rw [wp_fn]; unfold b_law_refused_side_u
  rw [ws_seq]
  refine Ws.cut (fun e h' => Fr [] h h' ∧ e = [.va (.loc L), .va (.loc A), .va (cl c), .no]) ?_ ?_
  · simp
    refine refused eL eA p2 c hl fun h1 F1 => ?_
    simp [tb]
    refine refused (F1.at eL) (F1.at eA) p2 c hl fun h2 F2 => ?_
    simp [tb]
    exact F1.trans F2
  rintro _ h1 ⟨F1, rfl⟩
  have eL1 := F1.at eL
  have eA1 := F1.at eA
  rw [ws_seq]
  refine Ws.cut (fun e h' => Fr [] h h' ∧ e = [.va (.loc L), .va (.loc A), .va (cl c), .va (.int (p - o - bd c.1 p))]) ?_ ?_
  · have z := eA1
    simp only [So] at z
    simp [z, cl]
    refine bound p2 c.1 fun h2 F2 => ?_
    simp
    exact ⟨F1.trans F2, rfl⟩
  rintro _ h2 ⟨F2, rfl⟩
  have eL2 := F2.at eL
  have eA2 : h2[A]? = some (.lst [.int p, .int u, .int o, .int s]) := F2.at eA
  generalize hc : p - o - bd c.1 p = ct
  by_cases hn : ct < 0
  · simp [hn]
    exact K _ F2.nil
  have eA3 : (h2.set A (.lst [.int p, .int u, .int o, .int 0]))[A]? = some (.lst [.int p, .int u, .int o, .int 0]) := at_set eA2
  have eL3 : (h2.set A (.lst [.int p, .int u, .int o, .int 0]))[L]? = some (Lo p u o s) := at_setN eL2 (Ne.symm hne)
  have F3 : Fr [L, A] h (h2.set A (.lst [.int p, .int u, .int o, .int 0])) := F2.nil.trans (Fr.set (l := A) _ (by simp))
  rw [ws_seq]
  refine Ws.cut (fun e h' => h2 = h' ∧ e = [.va (.loc L), .va (.loc A), .va (cl c), .va (.int ct)]) ?_ ?_
  · simp [hn]
  rintro _ _ ⟨rfl, rfl⟩
  rw [ws_seq]
  refine Ws.cut (fun e h' => h2.set A (.lst [.int p, .int u, .int o, .int 0]) = h' ∧ e = [.va (.loc L), .va (.loc A), .va (cl c), .va (.int ct)]) ?_ ?_
  · simp [v_putL eA2]
  rintro _ _ ⟨rfl, rfl⟩
  generalize h2.set A (.lst [.int p, .int u, .int o, .int 0]) = h3 at eA3 eL3 F3 ⊢
  rw [ws_seq]
  refine Ws.cut (fun e h' => Fr [L, A] h h' ∧ (∃ u' s', h'[L]? = some (Lo p u' o s')) ∧ (∃ u', h'[A]? = some (.lst [.int p, .int u', .int o, .int 0])) ∧ e = [.va (.loc L), .va (.loc A), .va (cl c), .va (.int ct)]) ?_ ?_
  · by_cases hp : ct < p
    · have eA4 : (h3.set A (.lst [.int p, .int (ct + 1), .int o, .int 0]))[A]? = some (.lst [.int p, .int (ct + 1), .int o, .int 0]) := at_set eA3
      have eL4 : (h3.set A (.lst [.int p, .int (ct + 1), .int o, .int 0]))[L]? = some (Lo p u o s) := at_setN eL3 (Ne.symm hne)
      have F4 : Fr [L, A] h (h3.set A (.lst [.int p, .int (ct + 1), .int o, .int 0])) := F3.trans (Fr.set (l := A) _ (by simp))
      simp [-v_hasM, eA3, hp, v_putL eA3, m_at eL4]
      refine checkpoint eL4 ?_
      simp
      have eL5 := at_set (u := Lo p (ct + 1) o 0) eL4
      have eA5 : ((h3.set A (.lst [.int p, .int (ct + 1), .int o, .int 0])).set L (Lo p (ct + 1) o 0))[A]? = some (So p (ct + 1) o 0) := at_setN eA4 hne
      have F5 := F4.trans (Fr.set (l := L) (Lo p (ct + 1) o 0) (by simp))
      refine refused eL5 eA5 p2 c (by rw [lt_bd]; exact decide_eq_false (by omega)) fun h6 F6 => ?_
      simp [tb]
      exact ⟨F5.trans F6.nil, ⟨_, _, F6.at eL5⟩, ⟨_, F6.at eA5⟩⟩
    · simp [eA3, hp]
      exact ⟨F3, _, _, eL3⟩
  rintro _ h4 ⟨F4, ⟨u', s', eL4⟩, ⟨u2, eA4⟩, rfl⟩
  have eA5 : (h4.set A (.lst [.int p, .int ct, .int o, .int 0]))[A]? = some (.lst [.int p, .int ct, .int o, .int 0]) := at_set eA4
  have eL5 : (h4.set A (.lst [.int p, .int ct, .int o, .int 0]))[L]? = some (Lo p u' o s') := at_setN eL4 (Ne.symm hne)
  have F5 : Fr [L, A] h (h4.set A (.lst [.int p, .int ct, .int o, .int 0])) := F4.trans (Fr.set (l := A) _ (by simp))
  simp [-v_hasM, v_putL eA4, m_at eL5]
  refine checkpoint eL5 ?_
  simp
  have eL6 := at_set (u := Lo p ct o 0) eL5
  have eA6 : ((h4.set A (.lst [.int p, .int ct, .int o, .int 0])).set L (Lo p ct o 0))[A]? = some (So p ct o 0) := at_setN eA5 hne
  have F6 := F5.trans (Fr.set (l := L) (Lo p ct o 0) (by simp))
  exact enters eL6 eA6 hne p2 c (by rw [lt_bd]; exact decide_eq_true (by omega)) fun h7 _ _ F7 => K h7 (F6.trans F7)
end
end K14
set_option Elab.async false
set_option linter.all false
set_option maxRecDepth 100000
set_option maxHeartbeats 1000000
namespace K14
open PySem L2 LF NW
theorem wd_at (k : Fin 16) : wds[k.val]? = some (wd k) := by revert k; decide +kernel
theorem wd_ix {d : Int} (d0 : 0 ≤ d) (d1 : d < 16) : ∃ k : Fin 16, atI (wds.map D.str) d = some (.str (wd k)) := by
  refine ⟨⟨d.toNat, by omega⟩, ?_⟩
  have e : d = ((d.toNat : Nat) : Int) := by omega
  conv => lhs; rw [e]
  rw [atI_n, List.getElem?_map]
  rw [show wds[d.toNat]? = some (wd ⟨d.toNat, by omega⟩) from wd_at ⟨d.toNat, by omega⟩]; rfl
/-- the need at any height -/
def nh (k : Fin 16) (H : Int) : Int := (st k).1 * (2 * H + 1) + (st k).2.1 * 2 * H + (st k).2.2.1 * 6 * H + (st k).2.2.2
theorem nh_b (k : Fin 16) {H : Int} (h0 : 0 ≤ H) (h1 : H ≤ 20) : 0 ≤ nh k H ∧ nh k H ≤ 2000 := by
  obtain ⟨a0, a1, b0, b1, c0, c1, d0, d1⟩ := st_b k
  have x1 := mul_b (a := (st k).1) (b := 2 * H + 1) (c := 4) (d := 41) a0 a1 (by omega) (by omega)
  have x2 := mul_b (a := (st k).2.1 * 2) (b := H) (c := 8) (d := 20) (by omega) (by omega) (by omega) (by omega)
  have x3 := mul_b (a := (st k).2.2.1 * 6) (b := H) (c := 24) (d := 20) (by omega) (by omega) (by omega) (by omega)
  unfold nh
  omega
section
variable {h : M} {Q : D → M → Prop} {X : XP} {p u o s : Int} {L A : Nat}
theorem lneedH (k : Fin 16) {H : Int} (h0 : 0 ≤ H) (h1 : H ≤ 20) (K : Q (.int (nh k H)) (h ++ [.lst [.int (st k).1, .int (st k).2.1, .int (st k).2.2.1, .int (st k).2.2.2]])) : @Wc D (m_law_need_u [.str (wd k), .int H] h) ⟨Q, X⟩ := by
  unfold m_law_need_u; rw [wp_fn]; unfold b_law_need_u
  obtain ⟨a0, a1, b0, b1, c0, c1, d0, d1⟩ := st_b k
  simp
  unfold m_law_steps_u; rw [wp_fn]
  simp [steps_at]
  refine ⟨cm (by omega) (by omega) (by omega) (by omega), cm (by omega) (by omega) (by omega) (by omega), cm (by omega) (by omega) (by omega) (by omega), cm (by omega) (by omega) (by omega) (by omega), cm (by omega) (by omega) (by omega) (by omega), cm (by omega) (by omega) (by omega) (by omega), ?_⟩
  exact K
theorem spares (k : Fin 16) (K : Q (.bl (sp k)) h) : @Wc D (m_law_spares_u [.str (wd k)] h) ⟨Q, X⟩ := by
  unfold m_law_spares_u; rw [wp_fn]; unfold b_law_spares_u
  simp [fIn, fInN, sp_atT, size24]
  exact K
theorem pool {dr : Nat} {d0 d1 d2 d3 d4 : Int} {r : List D} (e : h[dr]? = some (.lst (.int d0 :: .int d1 :: .int d2 :: .int d3 :: .int d4 :: r))) (a0 : 0 ≤ d0) (a1 : d0 < 5) (b0 : 0 ≤ d1) (b1 : d1 < 99995) (c0 : 0 ≤ d2) (c1 : d2 < 10) (e0 : 0 ≤ d3) (e1 : d3 < 3) (f0 : 0 ≤ d4) (f1 : d4 < 16)
    (K : ∀ p h', 1 ≤ p → p ≤ 99996 → Fr [] h h' → Q (.int p) h') : @Wc D (m_law_pool_u [.loc dr] h) ⟨Q, X⟩ := by
  unfold m_law_pool_u; rw [wp_fn]; unfold b_law_pool_u
  have oe : ∀ os : M, (h ++ os)[dr]? = some (.lst (.int d0 :: .int d1 :: .int d2 :: .int d3 :: .int d4 :: r)) := fun os => by rw [cat_old (at_lt e)]; exact e
  have hd : d0 = 0 ∨ d0 = 1 ∨ d0 = 2 ∨ d0 = 3 ∨ d0 = 4 := by omega
  rcases hd with rfl | rfl | rfl | rfl | rfl
  · simp [e]
    exact K _ _ (by omega) (by omega) (.refl _ _)
  · simp [e]
    refine ⟨by omega, ?_⟩
    refine floop_inv (fun i e h' => h = h' ∧ ∃ (s2 : Sl), e = [.va (.loc dr), .va (.int (2 * 3 ^ i)), s2, .no, .no]) ⟨rfl, _, rfl⟩ (fun _ _ _ _ _ => trivial) ?_ ?_
    · rintro i d _ _ hd ⟨rfl, s3, rfl⟩
      obtain ⟨hi, rfl⟩ := rg_at hd
      obtain ⟨hb, hb0⟩ := p3 i (by omega)
      simp
      refine ⟨cm (by omega) (by omega) (by omega) (by omega), ?_⟩
      rw [Int.pow_succ, Int.mul_assoc]
    · rintro _ _ ⟨rfl, s3, rfl⟩
      obtain ⟨hb, hb0⟩ := p3 d2.toNat (by omega)
      simp [e]
      exact K _ _ (by omega) (by omega) (.refl _ _)
  · simp [e, oe, size24]
    exact K _ _ (by omega) (by omega) (.cat _)
  · simp [e, oe, size24]
    exact K _ _ (by omega) (by omega) (.cat _)
  · obtain ⟨k, hk⟩ := wd_ix f0 f1
    simp [e]
    refine words ?_
    have hk2 : atI [D.str "create", .str "folder", .str "link", .str "rename", .str "remove", .str "rmdir", .str "write", .str "resize", .str "mark", .str "unmark", .str "rights", .str "give", .str "limit", .str "snapshot", .str "clone", .str "drop"] d4 = some (.str (wd k)) := hk
    simp [oe, hk, hk2, wds]
    refine lneedH k (by omega) (by omega) ?_
    simp
    refine spares k ?_
    have nb := nh_b k (H := 2 + d2) (by omega) (by omega)
    cases hs : sp k with
    | true =>
      simp [tb, oe]
      refine K _ _ ?_ ?_ (.cat _) <;> (split <;> omega)
    | false =>
      simp [tb, oe]
      refine ⟨cm (by omega) (by omega) (by omega) (by omega), ?_⟩
      refine K _ _ ?_ ?_ (.cat _) <;> (split <;> omega)
end
end K14
set_option Elab.async false
set_option linter.all false
set_option maxRecDepth 100000
set_option maxHeartbeats 1000000
namespace K14
open PySem L2 LF NW
def sumK (p : Int) (ks : List (Fin 16)) : Int := (ks.map fun k => nd k p).sum
theorem sumK_app {p : Int} {ks : List (Fin 16)} {k : Fin 16} : sumK p (ks ++ [k]) = sumK p ks + nd k p := by simp [sumK]
abbrev ws (ks : List (Fin 16)) : List D := ks.map fun k => .str (wd k)
theorem cut_to {xs : List D} {i : Int} (h0 : 0 ≤ i) : cutD xs none (some i) = xs.take i.toNat := by
  unfold cutD
  rw [show HT.sIx xs.length 0 none = 0 from rfl, sIx_of h0, Nat.sub_zero, List.drop_zero]
  by_cases hl : i.toNat ≤ xs.length
  · rw [Nat.min_eq_left hl]
  · rw [Nat.min_eq_right (by omega), List.take_of_length_le (Nat.le_refl _), List.take_of_length_le (by omega)]
section
variable {h : M} {Q : D → M → Prop} {X : XP} {p u o s : Int} {L A : Nat}
theorem made {dr : Nat} {tg d0 d1 d2 d3 d4 d5 d6 : Int} {r6 : List Int} (e : h[dr]? = some (.lst ([d0, d1, d2, d3, d4, d5, d6].map D.int ++ r6.map D.int))) (hr : r6.length = 6) (p1 : 1 ≤ p) (p2 : p ≤ 99996) (a0 : 0 ≤ d0) (a1 : d0 < 16) (b0 : 0 ≤ d1) (c0 : 0 ≤ d2) (c1 : d2 < 16) (e0 : 0 ≤ d3) (e1 : d3 < 16) (f0 : 0 ≤ d4) (f1 : d4 < 3) (g0 : 0 ≤ d6)
    (K : ∀ L A B u o s h', h.length ≤ L → h.length ≤ A → h'[B]? = some (.lst [.loc L, .loc A]) → h'[L]? = some (Lo p u o s) → h'[A]? = some (So p u o s) → L ≠ A → 0 ≤ o → Fr [] h h' → Q (.loc B) h') : @Wc D (m_law_made_u [.int p, .int tg, .loc dr] h) ⟨Q, X⟩ := by
  unfold m_law_made_u; rw [wp_fn]; unfold b_law_made_u
  have ed : h[dr]? = some (.lst (.int d0 :: .int d1 :: .int d2 :: .int d3 :: .int d4 :: .int d5 :: .int d6 :: r6.map .int)) := e
  have ecut : cutD (.int d0 :: .int d1 :: .int d2 :: .int d3 :: .int d4 :: .int d5 :: .int d6 :: r6.map .int) (some 7) none = r6.map D.int := by
    match r6, hr with
    | [a, b, c, d, f, g], _ => rfl
  obtain ⟨k0, hk0⟩ := wd_ix a0 a1
  obtain ⟨k1, hk1⟩ := wd_ix c0 c1
  obtain ⟨k2, hk2⟩ := wd_ix e0 e1
  have n0 := nd_b k0 p
  rw [ws_seq]
  refine Ws.cut (fun e h' => Fr [] h h' ∧ ∃ W, h'[W]? = some (.lst (wds.map .str)) ∧ e = [.va (.int p), .va (.int tg), .va (.loc dr), .va (.loc W), .no, .no, .no, .no, .no, .no, .no, .no, .no]) ?_ ?_
  · simp
    refine words ?_
    exact ⟨.cat _, _, by simp, rfl⟩
  rintro _ h1 ⟨F1, W, eW, rfl⟩
  rw [ws_seq]
  refine Ws.cut (fun e h' => h1 = h' ∧ e = [.va (.int p), .va (.int tg), .va (.loc dr), .va (.loc W), .va (.str (wd k0)), .no, .no, .no, .no, .no, .no, .no, .no]) ?_ ?_
  · simp [F1.at ed, eW, hk0]
  rintro _ _ ⟨rfl, rfl⟩
  rw [ws_seq]
  refine Ws.cut (fun e h' => Fr [] h1 h' ∧ e = [.va (.int p), .va (.int tg), .va (.loc dr), .va (.loc W), .va (.str (wd k0)), .va (.int (nd k0 p)), .no, .no, .no, .no, .no, .no, .no]) ?_ ?_
  · simp
    refine lheight p2 ?_
    simp
    refine lneed k0 ?_
    simp
    exact .cat _
  rintro _ h2 ⟨F2, rfl⟩
  have eW2 := F2.at eW
  have F2 := F1.trans F2
  rw [ws_seq]
  refine Ws.cut (fun e h' => h2 = h' ∧ e = [.va (.int p), .va (.int tg), .va (.loc dr), .va (.loc W), .va (.str (wd k0)), .va (.int (nd k0 p)), .va (.int 0), .no, .no, .no, .no, .no, .no]) ?_ ?_
  · simp
  rintro _ _ ⟨rfl, rfl⟩
  rw [ws_seq]
  refine Ws.cut (fun e h' => Fr [] h2 h' ∧ ∃ pt, (0 ≤ pt ∧ pt ≤ nd k0 p ∧ (0 < pt → lt k0 p p = true)) ∧ e = [.va (.int p), .va (.int tg), .va (.loc dr), .va (.loc W), .va (.str (wd k0)), .va (.int (nd k0 p)), .va (.int pt), .no, .no, .no, .no, .no, .no]) ?_ ?_
  · simp [size24]
    refine lets (p := p) (u := 0) (o := 0) (s := 0) (by simp [So]) p2 k0 fun h3 F3 => ?_
    have F3 := (Fr.cat [O.lst [D.int p, D.int 0, D.int 0, D.int 0]]).trans F3
    have ed3 := (F2.trans F3).at ed
    simp only [Int.sub_zero]
    cases hl : lt k0 p p with
    | true =>
      have x0 := Int.emod_nonneg d1 (b := nd k0 p + 1) (by omega)
      have x1 := Int.emod_lt_of_pos d1 (b := nd k0 p + 1) (by omega)
      simp [tb, ed3]
      exact ⟨by omega, F3, by omega, by omega⟩
    | false =>
      simp [tb]
      exact ⟨F3, n0.1⟩
  rintro _ h3 ⟨F3, pt, ⟨t0, t1, t2⟩, rfl⟩
  have eW3 := F3.at eW2
  have F3 := F2.trans F3
  have ed3 := F3.at ed
  rw [ws_seq]
  refine Ws.cut (fun e h' => Fr [] h3 h' ∧ ∃ E ks, h'[E]? = some (.lst (ws ks)) ∧ ks.length ≤ 2 ∧ e = [.va (.int p), .va (.int tg), .va (.loc dr), .va (.loc W), .va (.str (wd k0)), .va (.int (nd k0 p)), .va (.int pt), .va (.loc E), .no, .no, .no, .no, .no]) ?_ ?_
  · have oe : ∀ os : M, (h3 ++ os)[dr]? = some (.lst (.int d0 :: .int d1 :: .int d2 :: .int d3 :: .int d4 :: .int d5 :: .int d6 :: r6.map .int)) := fun os => by rw [cat_old (at_lt ed3)]; exact ed3
    simp [ed3, eW3, hk1, hk2, oe, size24, cut_to f0]
    refine ⟨.cat _, h3.length + 1, [k1, k2].take d4.toNat, ?_, ?_, rfl⟩
    · simp [ws, List.map_take]
    · simp; omega
  rintro _ h4 ⟨F4, E, ks, eE, lk, rfl⟩
  have F4 := F3.trans F4
  rw [ws_seq]
  refine Ws.cut (fun e h' => Fr [] h4 h' ∧ e = [.va (.int p), .va (.int tg), .va (.loc dr), .va (.loc W), .va (.str (wd k0)), .va (.int (nd k0 p)), .va (.int pt), .va (.loc E), .va (.int (sumK p ks)), .no, .no, .no, .no]) ?_ ?_
  · simp [eE]
    refine lcloop_map (xs := ks) (f := fun k => D.str (wd k)) (fun q acc h' => acc = q.map (fun k => D.int (nd k p)) ∧ Fr [h4.length] h4 h' ∧ h'[h4.length]? = some (.lst acc)) ⟨rfl, (Fr.cat _), by simp⟩ (fun q acc h' _ hh => ?_) ?_ ?_
    · exact lstOf_at (hh.2.1.at eE (by have := at_lt eE; simp; omega))
    · rintro q k r acc h5 hq ⟨rfl, F5, e5⟩
      simp
      refine lheight p2 ?_
      simp
      refine lneed k ?_
      have hlen : q.length ≤ 2 := by have := congrArg List.length hq; simp at this; omega
      have e6 : ∀ os : M, (h5 ++ os)[h4.length]? = some (.lst (q.map fun k => D.int (nd k p))) := fun os => by rw [cat_old (at_lt e5)]; exact e5
      simp [e6, size24]
      refine ⟨by omega, (F5.trans (Fr.cat _)).trans (Fr.set _ (by simp)), ?_⟩
      have := at_set (u := O.lst (q.map (fun k => D.int (nd k p)) ++ [D.int (nd k p)])) (e6 [O.lst [D.int (st k).1, D.int (st k).2.1, D.int (st k).2.2.1, D.int (st k).2.2.2]])
      exact this
    · rintro acc h5 ⟨rfl, F5, e5⟩
      have es : (ks.map fun k => D.int (nd k p)) = (ks.map fun k => nd k p).map D.int := by simp
      rw [es] at e5
      have sm : fSum [.loc h4.length] h5 = .ok (.int (sumK p ks)) h5 := by simp only [fSum, e5, intsD_map]; rfl
      simp [sm]
      exact F5.cut (by simp)
  rintro _ h5 ⟨F5, rfl⟩
  have eE5 := F5.at eE
  have F5 := F4.trans F5
  rw [ws_seq]
  refine Ws.cut (fun e h' => h5 = h' ∧ ∃ tg, e = [.va (.int p), .va (.int tg), .va (.loc dr), .va (.loc W), .va (.str (wd k0)), .va (.int (nd k0 p)), .va (.int pt), .va (.loc E), .va (.int (sumK p ks)), .no, .no, .no, .no]) ?_ ?_
  · simp
  rintro _ _ ⟨rfl, tg, rfl⟩
  rw [ws_seq]
  refine Ws.cut (fun e h' => Fr [] h5 h' ∧ ∃ E ks, h'[E]? = some (.lst (ws ks)) ∧ e = [.va (.int p), .va (.int tg), .va (.loc dr), .va (.loc W), .va (.str (wd k0)), .va (.int (nd k0 p)), .va (.int pt), .va (.loc E), .va (.int (sumK p ks)), .no, .no, .no, .no]) ?_ ?_
  · by_cases hc : p - tg - pt < sumK p ks
    · simp [hc, size24]
      exact ⟨.cat _, h5.length, [], by simp, rfl, rfl⟩
    · simp [hc]
      exact ⟨.refl _ _, E, ks, eE5, rfl, rfl⟩
  rintro _ h6 ⟨F6, E, ks, eE6, rfl⟩
  have F6 := F5.trans F6
  rw [ws_seq]
  refine Ws.cut (fun e h' => h6 = h' ∧ ∃ pt, (0 ≤ pt ∧ pt ≤ nd k0 p ∧ (0 < pt → lt k0 p p = true)) ∧ e = [.va (.int p), .va (.int tg), .va (.loc dr), .va (.loc W), .va (.str (wd k0)), .va (.int (nd k0 p)), .va (.int pt), .va (.loc E), .va (.int (sumK p ks)), .no, .no, .no, .no]) ?_ ?_
  · by_cases hc : p - tg < pt
    · simp [hc]
      exact n0.1
    · simp [hc]
      exact ⟨t0, t1, t2⟩
  rintro _ _ ⟨rfl, pt, ⟨t0, t1, t2⟩, rfl⟩
  rw [ws_seq]
  refine Ws.cut (fun e h' => h6 = h' ∧ ∃ tg, e = [.va (.int p), .va (.int tg), .va (.loc dr), .va (.loc W), .va (.str (wd k0)), .va (.int (nd k0 p)), .va (.int pt), .va (.loc E), .va (.int (sumK p ks)), .no, .no, .no, .no]) ?_ ?_
  · by_cases hc : tg + pt + sumK p ks < 0
    · simp [hc]
    · simp [hc]
  rintro _ _ ⟨rfl, tg, rfl⟩
  rw [ws_seq]
  refine Ws.cut (fun e h' => h6 = h' ∧ ∃ cn, e = [.va (.int p), .va (.int tg), .va (.loc dr), .va (.loc W), .va (.str (wd k0)), .va (.int (nd k0 p)), .va (.int pt), .va (.loc E), .va (.int (sumK p ks)), .va (.int cn), .no, .no, .no]) ?_ ?_
  · simp
  rintro _ _ ⟨rfl, cn, rfl⟩
  have ed6 := F6.at ed
  rw [ws_seq]
  refine Ws.cut (fun e h' => Fr [] h6 h' ∧ ∃ L, h'[L]? = some (Lo p cn pt 0) ∧ h6.length ≤ L ∧ e = [.va (.int p), .va (.int tg), .va (.loc dr), .va (.loc W), .va (.str (wd k0)), .va (.int (nd k0 p)), .va (.int pt), .va (.loc E), .va (.int (sumK p ks)), .va (.int cn), .va (.loc L), .no, .no]) ?_ ?_
  · by_cases hz : pt = 0 ∧ d5 = 0
    · obtain ⟨rfl, rfl⟩ := hz
      simp [ed6]
      refine init (p := p) (u := cn) (by simp) ?_
      simp
      exact .cat _
    · have hz2 : pt = 0 → ¬ d5 = 0 := fun a b => hz ⟨a, b⟩
      have big : @Ws ((mSeq (mSet 10 (mMake "Ledger" 3 m_Ledger___init__ (mCons (mVar 0) (mCons (mC (.int 0)) mNil))))
          (mSeq (mIfS (mTest (m2 fGt (mVar 6) (mC (.int 0))))
          (mSeq (mDo (mMeth "Ledger" "enter" 2 m_Ledger_enter (mVar 10) (mCons (mL (mFix 2 m_law_call_u) (mCons (mVar 4) (mCons (mSl (mVar 2) (mPart (mC (.int 7))) mNoPart) mNil))) mNil)))
          (mDo (mMeth "Ledger" "cancel" 2 m_Ledger_cancel (mVar 10) (mCons (m2 fSub (mVar 5) (mVar 6)) mNil))))
          mSkip)
          (mDo (mMeth "Ledger" "checkpoint" 2 m_Ledger_checkpoint (mVar 10) (mCons (mVar 9) mNil))))) [.va (.int p), .va (.int tg), .va (.loc dr), .va (.loc W), .va (.str (wd k0)), .va (.int (nd k0 p)), .va (.int pt), .va (.loc E), .va (.int (sumK p ks)), .va (.int cn), .no, .no, .no] h6)
          ⟨fun e h' => Fr [] h6 h' ∧ ∃ L, h'[L]? = some (Lo p cn pt 0) ∧ h6.length ≤ L ∧ e = [.va (.int p), .va (.int tg), .va (.loc dr), .va (.loc W), .va (.str (wd k0)), .va (.int (nd k0 p)), .va (.int pt), .va (.loc E), .va (.int (sumK p ks)), .va (.int cn), .va (.loc L), .no, .no], Q, fun _ _ => False, fun _ _ => False, fun x ns vs _ h => X x ns vs h⟩ := by
        rw [ws_seq]
        refine Ws.cut (fun e h' => Fr [] h6 h' ∧ ∃ L, h'[L]? = some (Lo p 0 0 0) ∧ h6.length ≤ L ∧ e = [.va (.int p), .va (.int tg), .va (.loc dr), .va (.loc W), .va (.str (wd k0)), .va (.int (nd k0 p)), .va (.int pt), .va (.loc E), .va (.int (sumK p ks)), .va (.int cn), .va (.loc L), .no, .no]) ?_ ?_
        · simp
          refine init (p := p) (u := 0) (by simp) ?_
          simp
          exact .cat _
        rintro _ h7 ⟨F7, L, eL7, hL, rfl⟩
        have ed7 := F7.at ed6
        rw [ws_seq]
        refine Ws.cut (fun e h' => Fr [L] h6 h' ∧ h'[L]? = some (Lo p 0 pt 0) ∧ e = [.va (.int p), .va (.int tg), .va (.loc dr), .va (.loc W), .va (.str (wd k0)), .va (.int (nd k0 p)), .va (.int pt), .va (.loc E), .va (.int (sumK p ks)), .va (.int cn), .va (.loc L), .no, .no]) ?_ ?_
        · by_cases hp : 0 < pt
          · have m7 := m_at eL7
            simp [-v_hasM, hp, m7, ed7, ecut]
            refine call k0 (ds := r6) (by simp) hr fun r h8 F8 => ?_
            have F8 := (Fr.cat [O.lst (r6.map D.int)]).trans F8
            have eL8 := F8.at eL7
            simp [-v_hasM]
            refine enter eL8 p2 k0 (fun _ => ?_) fun z => ?_
            · have eL9 := at_set (u := Lo p 0 (0 + nd k0 p) 0) eL8
              have m9 := m_at eL9
              simp only [Int.zero_add] at eL9 m9 ⊢
              simp [-v_hasM, m9]
              refine cancel eL9 (fun _ => ?_) fun z => absurd ⟨by omega, by omega⟩ z
              simp [List.set_set]
              have e2 : nd k0 p - (nd k0 p - pt) = pt := by omega
              rw [e2]
              exact ⟨(F7.nil.trans F8.nil).trans (Fr.set _ (by simp)), at_set eL8⟩
            · have := t2 hp
              simp only [Int.sub_zero] at z
              rw [this] at z; cases z
          · have : pt = 0 := by omega
            subst this
            simp
            exact ⟨F7.nil, eL7⟩
        rintro _ h8 ⟨F8, eL8, rfl⟩
        simp [-v_hasM, m_at eL8]
        refine checkpoint eL8 ?_
        exact ⟨(F8.trans (Fr.set (l := L) _ (by simp))).cut (by simp; omega), L, at_set eL8, hL, rfl⟩
      by_cases hp : pt = 0
      · subst hp
        have h5 := hz2 rfl
        rw [ws_if]
        simp only [wp_andT, wp_test]
        simp [-ws_seq, ed6, h5]
        exact big
      · rw [ws_if]
        simp only [wp_andT, wp_test]
        simp [-ws_seq, hp]
        exact big
  rintro _ h7 ⟨F7, L, eL7, hL, rfl⟩
  have eE7 := F7.at eE6
  have iE := at_lt eE6
  have idr := at_lt ed6
  rw [ws_seq]
  refine Ws.cut (fun e h' => Fr [L] h6 h' ∧ h'[L]? = some (Lo p cn pt (sumK p ks)) ∧ ∃ s11, e = [.va (.int p), .va (.int tg), .va (.loc dr), .va (.loc W), .va (.str (wd k0)), .va (.int (nd k0 p)), .va (.int pt), .va (.loc E), .va (.int (sumK p ks)), .va (.int cn), .va (.loc L), s11, .no]) ?_ ?_
  · simp [eE7]
    refine floop_map (xs := ks) (f := fun k => D.str (wd k)) (fun q e h' => Fr [L] h6 h' ∧ h'[L]? = some (Lo p cn pt (sumK p q)) ∧ ∃ s11, e = [.va (.int p), .va (.int tg), .va (.loc dr), .va (.loc W), .va (.str (wd k0)), .va (.int (nd k0 p)), .va (.int pt), .va (.loc E), .va (.int (sumK p ks)), .va (.int cn), .va (.loc L), s11, .no]) ⟨F7.nil, eL7, _, rfl⟩ (fun q e h' _ hh => ?_) ?_ ?_
    · exact lstOf_at (hh.1.at eE6 (by simp; omega))
    · rintro q k w _ h8 hq ⟨F8, eL8, s11, rfl⟩
      have ed8 := F8.at ed6 (by simp; omega)
      simp [-v_hasM, m_at eL8, ed8, ecut]
      refine call k (ds := r6) (by simp) hr fun r h9 F9 => ?_
      have F9 := (Fr.cat [O.lst (r6.map D.int)]).trans F9
      have eL9 := F9.at eL8
      simp [-v_hasM]
      refine spend eL9 p2 k ?_
      simp
      refine ⟨(F8.trans F9.nil).trans (Fr.set _ (by simp)), ?_⟩
      rw [sumK_app]
      exact at_set eL9
    · rintro _ h8 ⟨F8, eL8, s11, rfl⟩
      exact ⟨F8, eL8, s11, rfl⟩
  rintro _ h8 ⟨F8, eL8, s11, rfl⟩
  have ed8 := F8.at ed6 (by simp; omega)
  have x0 := Int.emod_nonneg d6 (b := pt + 1) (by omega)
  have x1 := Int.emod_lt_of_pos d6 (b := pt + 1) (by omega)
  simp [-v_hasM, ed8, m_at eL8]
  refine ⟨by omega, ?_⟩
  refine commit eL8 (fun _ => ?_) fun z => absurd ⟨x0, by omega⟩ z
  simp [size24]
  have eL9 := at_set (u := Lo p cn (pt - d6 % (pt + 1)) (sumK p ks + d6 % (pt + 1))) eL8
  have hl8 := at_lt eL8
  refine K L h8.length (h8.length + 1) cn (pt - d6 % (pt + 1)) (sumK p ks + d6 % (pt + 1)) _ (by have := F6.len; omega) (by have := F6.len; have := F8.len; omega) ?_ ?_ ?_ (by omega) (by omega) ?_
  · have := cat_at (h := List.set h8 L (Lo p cn (pt - d6 % (pt + 1)) (sumK p ks + d6 % (pt + 1)))) (os := [O.lst [D.int p, D.int cn, D.int (pt - d6 % (pt + 1)), D.int (sumK p ks + d6 % (pt + 1))], O.lst [D.loc L, D.loc h8.length]]) (k := 1)
    simpa using this
  · rw [cat_old (by simpa using hl8)]; exact eL9
  · have := cat_at0 (h := List.set h8 L (Lo p cn (pt - d6 % (pt + 1)) (sumK p ks + d6 % (pt + 1)))) (os := [O.lst [D.int p, D.int cn, D.int (pt - d6 % (pt + 1)), D.int (sumK p ks + d6 % (pt + 1))], O.lst [D.loc L, D.loc h8.length]])
    simpa [So] using this
  · have G := ((F8.trans (Fr.set (l := L) (Lo p cn (pt - d6 % (pt + 1)) (sumK p ks + d6 % (pt + 1))) (by simp))).trans (Fr.cat [O.lst [D.int p, D.int cn, D.int (pt - d6 % (pt + 1)), D.int (sumK p ks + d6 % (pt + 1))], O.lst [D.loc L, D.loc h8.length]]))
    exact F6.trans (G.cut (by simp; omega))
end
end K14
set_option Elab.async false
set_option linter.all false
set_option maxRecDepth 100000
set_option maxHeartbeats 2000000
namespace K14
open PySem L2 LF NW
theorem ix7 {a b c d e f g : Int} {i : Int} (h0 : 0 ≤ i) (h1 : i < 7) : ∃ x : Int, atI [D.int a, .int b, .int c, .int d, .int e, .int f, .int g] i = some (.int x) := by
  have : i = 0 ∨ i = 1 ∨ i = 2 ∨ i = 3 ∨ i = 4 ∨ i = 5 ∨ i = 6 := by omega
  rcases this with rfl | rfl | rfl | rfl | rfl | rfl | rfl <;> exact ⟨_, rfl⟩
section
variable {h : M} {Q : D → M → Prop} {X : XP}
theorem case_ {dr : Nat} {a0 a1 a2 a3 a4 a5 a6 d0 d1 d2 d3 d4 d5 d6 : Int} {r6 : List Int} (e : h[dr]? = some (.lst (.int a0 :: .int a1 :: .int a2 :: .int a3 :: .int a4 :: .int a5 :: .int a6 :: .int d0 :: .int d1 :: .int d2 :: .int d3 :: .int d4 :: .int d5 :: .int d6 :: r6.map .int))) (hr : r6.length = 6)
    (A0 : 0 ≤ a0 ∧ a0 < 5) (A1 : 0 ≤ a1 ∧ a1 < 99995) (A2 : 0 ≤ a2 ∧ a2 < 10) (A3 : 0 ≤ a3 ∧ a3 < 3) (A4 : 0 ≤ a4 ∧ a4 < 16) (A5 : 0 ≤ a5 ∧ a5 < 7) (A6 : 0 ≤ a6) (B0 : 0 ≤ d0 ∧ d0 < 16) (B1 : 0 ≤ d1) (B2 : 0 ≤ d2 ∧ d2 < 16) (B3 : 0 ≤ d3 ∧ d3 < 16) (B4 : 0 ≤ d4 ∧ d4 < 3) (B6 : 0 ≤ d6)
    (K : ∀ h', Fr [] h h' → Q (.bl true) h') : @Wc D (m_law_case_u [.loc dr] h) ⟨Q, X⟩ := by
  unfold m_law_case_u; rw [wp_fn]; unfold b_law_case_u
  have cut7 : cutD (.int a0 :: .int a1 :: .int a2 :: .int a3 :: .int a4 :: .int a5 :: .int a6 :: .int d0 :: .int d1 :: .int d2 :: .int d3 :: .int d4 :: .int d5 :: .int d6 :: r6.map .int) (some 7) none = [d0, d1, d2, d3, d4, d5, d6].map D.int ++ r6.map D.int := by
    match r6, hr with
    | [a, b, c, d, f, g], _ => rfl
  have cut14 : cutD (.int a0 :: .int a1 :: .int a2 :: .int a3 :: .int a4 :: .int a5 :: .int a6 :: .int d0 :: .int d1 :: .int d2 :: .int d3 :: .int d4 :: .int d5 :: .int d6 :: r6.map .int) (some 14) none = r6.map D.int := by
    match r6, hr with
    | [a, b, c, d, f, g], _ => rfl
  obtain ⟨k, hk⟩ := wd_ix A4.1 A4.2
  have iD := at_lt e
  rw [ws_seq]
  refine Ws.cut (fun en h' => Fr [] h h' ∧ ∃ p, (1 ≤ p ∧ p ≤ 99996) ∧ en = [.va (.loc dr), .va (.int p), .no, .no, .no, .no, .no, .no, .no, .no, .no, .no, .no]) ?_ ?_
  · simp
    refine pool e A0.1 A0.2 A1.1 A1.2 A2.1 A2.2 A3.1 A3.2 A4.1 A4.2 fun p h1 p1 p2 F1 => ?_
    exact ⟨F1, p, ⟨p1, p2⟩, rfl⟩
  rintro _ h1 ⟨F1, p, ⟨p1, p2⟩, rfl⟩
  obtain ⟨g0, g1⟩ := hgt_b p
  rw [ws_seq]
  refine Ws.cut (fun en h' => Fr [] h h' ∧ en = [.va (.loc dr), .va (.int p), .va (.str (wd k)), .no, .no, .no, .no, .no, .no, .no, .no, .no, .no]) ?_ ?_
  · simp
    refine words ?_
    have oe : ∀ os : M, (h1 ++ os)[dr]? = some (.lst (.int a0 :: .int a1 :: .int a2 :: .int a3 :: .int a4 :: .int a5 :: .int a6 :: .int d0 :: .int d1 :: .int d2 :: .int d3 :: .int d4 :: .int d5 :: .int d6 :: r6.map .int)) := fun os => by rw [cat_old (at_lt (F1.at e))]; exact F1.at e
    have hk2 : atI [D.str "create", .str "folder", .str "link", .str "rename", .str "remove", .str "rmdir", .str "write", .str "resize", .str "mark", .str "unmark", .str "rights", .str "give", .str "limit", .str "snapshot", .str "clone", .str "drop"] a4 = some (.str (wd k)) := hk
    simp [oe, hk, hk2, wds]
    exact F1.trans (.cat _)
  rintro _ h2 ⟨F2, rfl⟩
  rw [ws_seq]
  refine Ws.cut (fun en h' => h2 = h' ∧ en = [.va (.loc dr), .va (.int p), .va (.str (wd k)), .va (.int (hgt p)), .no, .no, .no, .no, .no, .no, .no, .no, .no]) ?_ ?_
  · simp
    refine lheight p2 ?_
    simp
  rintro _ _ ⟨rfl, rfl⟩
  rw [ws_seq]
  refine Ws.cut (fun en h' => Fr [] h h' ∧ en = [.va (.loc dr), .va (.int p), .va (.str (wd k)), .va (.int (hgt p)), .va (.int (nd k p)), .no, .no, .no, .no, .no, .no, .no, .no]) ?_ ?_
  · simp
    refine lneed k ?_
    simp
    exact F2.trans (.cat _)
  rintro _ h3 ⟨F3, rfl⟩
  rw [ws_seq]
  refine Ws.cut (fun en h' => Fr [] h h' ∧ en = [.va (.loc dr), .va (.int p), .va (.str (wd k)), .va (.int (hgt p)), .va (.int (nd k p)), .va (.int (bd k p)), .no, .no, .no, .no, .no, .no, .no]) ?_ ?_
  · simp
    refine bound p2 k fun h4 F4 => ?_
    exact ⟨F3.trans F4, rfl⟩
  rintro _ h4 ⟨F4, rfl⟩
  rw [ws_seq]
  refine Ws.cut (fun en h' => h4 = h' ∧ ∃ rs, en = [.va (.loc dr), .va (.int p), .va (.str (wd k)), .va (.int (hgt p)), .va (.int (nd k p)), .va (.int (bd k p)), .va (.int rs), .no, .no, .no, .no, .no, .no]) ?_ ?_
  · simp
    exact cm (by omega) (by omega) (by omega) (by omega)
  rintro _ _ ⟨rfl, rs, rfl⟩
  have e4 := F4.at e
  rw [ws_seq]
  refine Ws.cut (fun en h' => Fr [] h h' ∧ ∃ mn tg, (∃ xs, h'[mn]? = some (.lst xs) ∧ atI xs a5 = some (.int tg)) ∧ en = [.va (.loc dr), .va (.int p), .va (.str (wd k)), .va (.int (hgt p)), .va (.int (nd k p)), .va (.int (bd k p)), .va (.int rs), .va (.loc mn), .no, .no, .no, .no, .no]) ?_ ?_
  · simp [e4, size24]
    obtain ⟨x, hx⟩ := ix7 (a := bd k p) (b := bd k p - 1) (c := nd k p) (d := nd k p - 1) (e := nd k p + rs) (f := nd k p + rs - 1) (g := a6 % (p + 1)) A5.1 A5.2
    refine ⟨by omega, F4.trans (.cat _), ?_⟩
    first | exact ⟨x, hx⟩ | exact ⟨h4.length, ⟨x, _, by simp, hx⟩, rfl⟩ | exact ⟨x, _, by simp, hx⟩ | simp [hx]
  rintro _ h5 ⟨F5, mn, tg, ⟨xs, e5, hx⟩, rfl⟩
  have ed5 := F5.at e
  rw [ws_seq]
  refine Ws.cut (fun en h' => Fr [] h h' ∧ ∃ L A B u o s, h'[B]? = some (.lst [.loc L, .loc A]) ∧ h'[L]? = some (Lo p u o s) ∧ h'[A]? = some (So p u o s) ∧ L ≠ A ∧ 0 ≤ o ∧ h.length ≤ L ∧ h.length ≤ A ∧ en = [.va (.loc dr), .va (.int p), .va (.str (wd k)), .va (.int (hgt p)), .va (.int (nd k p)), .va (.int (bd k p)), .va (.int rs), .va (.loc mn), .va (.loc B), .no, .no, .no, .no]) ?_ ?_
  · simp [ed5, e5, hx, cut7]
    have lh := F5.len
    refine made (d0 := d0) (d1 := d1) (d2 := d2) (d3 := d3) (d4 := d4) (d5 := d5) (d6 := d6) (r6 := r6) (by simp) hr p1 p2 B0.1 B0.2 B1 B2.1 B2.2 B3.1 B3.2 B4.1 B4.2 B6 fun L A B u o s h6 l1 l2 q1 q2 q3 q4 q5 F6 => ?_
    simp at l1 l2
    exact ⟨F5.trans ((Fr.cat _).trans F6), L, A, B, u, o, s, q1, q2, q3, q4, q5, by omega, by omega, rfl⟩
  rintro _ h6 ⟨F6, L, A, B, u, o, s, q1, q2, q3, q4, q5, l1, l2, rfl⟩
  rw [ws_seq]
  refine Ws.cut (fun en h' => h6 = h' ∧ en = [.va (.loc dr), .va (.int p), .va (.str (wd k)), .va (.int (hgt p)), .va (.int (nd k p)), .va (.int (bd k p)), .va (.int rs), .va (.loc mn), .va (.loc B), .va (.loc L), .no, .no, .no]) ?_ ?_
  · simp [q1]
  rintro _ _ ⟨rfl, rfl⟩
  rw [ws_seq]
  refine Ws.cut (fun en h' => h6 = h' ∧ en = [.va (.loc dr), .va (.int p), .va (.str (wd k)), .va (.int (hgt p)), .va (.int (nd k p)), .va (.int (bd k p)), .va (.int rs), .va (.loc mn), .va (.loc B), .va (.loc L), .va (.loc A), .no, .no]) ?_ ?_
  · simp [q1]
  rintro _ _ ⟨rfl, rfl⟩
  rw [ws_seq]
  refine Ws.cut (fun en h' => Fr [] h6 h' ∧ en = [.va (.loc dr), .va (.int p), .va (.str (wd k)), .va (.int (hgt p)), .va (.int (nd k p)), .va (.int (bd k p)), .va (.int rs), .va (.loc mn), .va (.loc B), .va (.loc L), .va (.loc A), .no, .no]) ?_ ?_
  · simp
    refine stands q2 q3 fun h7 F7 => ?_
    simp [tb]
    exact F7
  rintro _ h7 ⟨F7, rfl⟩
  rw [ws_seq]
  refine Ws.cut (fun en h' => Fr [] h6 h' ∧ ∃ s11, en = [.va (.loc dr), .va (.int p), .va (.str (wd k)), .va (.int (hgt p)), .va (.int (nd k p)), .va (.int (bd k p)), .va (.int rs), .va (.loc mn), .va (.loc B), .va (.loc L), .va (.loc A), s11, .no]) ?_ ?_
  · simp
    refine words ?_
    have eW : (h7 ++ [O.lst ((wds.take 10).map .str), .lst ((wds.drop 10).map .str), .lst (wds.map .str)])[h7.length + 2]? = some (.lst (wds.map .str)) := by simp
    generalize hh8 : (h7 ++ [O.lst ((wds.take 10).map .str), .lst ((wds.drop 10).map .str), .lst (wds.map .str)]) = h8 at eW ⊢
    have F8 : Fr [] h6 h8 := by rw [← hh8]; exact F7.trans (.cat _)
    simp [eW]
    refine floop_inv (fun i en h' => Fr [] h8 h' ∧ ∃ s11, en = [.va (.loc dr), .va (.int p), .va (.str (wd k)), .va (.int (hgt p)), .va (.int (nd k p)), .va (.int (bd k p)), .va (.int rs), .va (.loc mn), .va (.loc B), .va (.loc L), .va (.loc A), s11, .no]) ⟨.refl _ _, _, rfl⟩ (fun i en h' _ hh => lstOf_at (hh.1.at eW)) ?_ ?_
    · rintro i d _ h9 hd ⟨F9, s11, rfl⟩
      have hi : i < 16 := by have := (List.getElem?_eq_some_iff.mp hd).1; simpa [wds] using this
      have hd2 : d = .str (wd ⟨i, hi⟩) := by
        rw [List.getElem?_map, show wds[i]? = some (wd ⟨i, hi⟩) from wd_at ⟨i, hi⟩] at hd
        simpa using hd.symm
      subst hd2
      have G9 := F8.trans F9
      have eL9 := G9.at q2
      have ed9 := (F6.trans G9).at e
      simp [-v_hasM, m_at eL9, ed9, cut14]
      refine call ⟨i, hi⟩ (ds := r6) (by simp) hr fun r h10 F10 => ?_
      have F10 := (Fr.cat [O.lst (r6.map D.int)]).trans F10
      have eL10 := F10.at eL9
      simp [-v_hasM]
      refine is_let eL10 p2 ⟨i, hi⟩ ?_
      simp
      refine lets ((G9.trans F10).at q3) p2 ⟨i, hi⟩ fun h11 F11 => ?_
      refine ltruth ?_
      simp [tb]
      exact F9.trans (F10.trans F11)
    · rintro _ h9 ⟨F9, s11, rfl⟩
      exact ⟨F8.trans F9, s11, rfl⟩
  rintro _ h8 ⟨F8, s11, rfl⟩
  rw [ws_seq]
  refine Ws.cut (fun en h' => Fr [] h6 h' ∧ ∃ r, en = [.va (.loc dr), .va (.int p), .va (.str (wd k)), .va (.int (hgt p)), .va (.int (nd k p)), .va (.int (bd k p)), .va (.int rs), .va (.loc mn), .va (.loc B), .va (.loc L), .va (.loc A), s11, .va (cl (k, r))]) ?_ ?_
  · have ed8 := (F6.trans F8).at e
    simp [ed8, cut14]
    refine call k (ds := r6) (by simp) hr fun r h9 F9 => ?_
    exact ⟨F8.trans ((Fr.cat _).trans F9), r, rfl⟩
  rintro _ h9 ⟨F9, r, rfl⟩
  have eL9 := F9.at q2
  have eA9 := F9.at q3
  have fin : ∀ h', Fr [L, A] h9 h' → Q (.bl true) h' := fun h' F' => K h' (((F6.trans F9).nil.trans F').cut (by simp; omega))
  simp
  refine left eA9 ?_
  simp
  by_cases hl : bd k p ≤ p - u - o - s
  · simp [hl]
    exact letSide eL9 eA9 q4 p2 q5 (k, r) (by rw [lt_bd]; exact decide_eq_true hl) fin
  · simp [hl]
    exact refusedSide eL9 eA9 q4 p2 (k, r) (by rw [lt_bd]; exact decide_eq_false hl) fin
end
def szs : List Int := [5, 99995, 10, 3, 16, 7, 99996, 16, 200003, 16, 16, 3, 2, 1009, 1000, 1957093839574064543, 10 ^ 45, 10 ^ 45, 999985, 2305843009213693935]
theorem holds : LawHolds m_law := by
  intro ns hn hbits
  have key : @Wc D (m_law [.cl (ns.map D.int)] []) ⟨fun d _ => d = .bl true, noEx⟩ := by
    unfold m_law; rw [wp_fn]; unfold b_law
    generalize ([] : M) = h0
    have szp : ∀ x ∈ szs, 0 < x ∧ x < 2 ^ 160 := by decide +kernel
    rw [ws_seq]
    refine Ws.cut (fun e h' => h' = h0 ++ [.lst ((szs.take 17).map .int)] ∧ e = [.va (.cl (ns.map .int)), .va (.loc h0.length), .no]) ?_ ?_
    · simp [size24, szs]
    rintro _ _ ⟨rfl, rfl⟩
    rw [ws_seq]
    refine Ws.cut (fun e h' => ∃ z, h'[z]? = some (.lst (szs.map .int)) ∧ e = [.va (.cl (ns.map .int)), .va (.loc z), .no]) ?_ ?_
    · simp [size24, szs]
    rintro _ h1 ⟨z, ez, rfl⟩
    simp
    refine number (by omega) (by omega) hbits hn fun c h2 wc F2 => ?_
    simp [size24]
    refine draws (zs := [6]) wc (by simp) (by decide) (by decide) fun ds l h3 D3 e3 hl F3 => ?_
    have F3 := (F2.trans (Fr.cat [O.lst [D.int 6]])).trans F3
    obtain ⟨dl, db⟩ := D3
    obtain ⟨x, rfl⟩ : ∃ x, ds = [x] := by
      match ds, dl with
      | [x], _ => exact ⟨x, rfl⟩
    have q0 := db 0 6 x rfl rfl
    have e3' : h3[l]? = some (.lst [.int x]) := e3
    simp [e3']
    refine ⟨by omega, ?_⟩
    refine floop_inv (fun i e h' => h'[z]? = some (.lst (szs.map .int)) ∧ ∃ s2, e = [.va (.cl (ns.map .int)), .va (.loc z), s2]) ⟨F3.at ez, _, rfl⟩ (fun _ _ _ _ _ => trivial) ?_ ?_
    · rintro i d _ h4 hd ⟨ez4, s2, rfl⟩
      obtain ⟨hi, rfl⟩ := rg_at hd
      simp
      refine number (by omega) (by omega) hbits hn fun c h5 wc F5 => ?_
      simp
      refine draws (zs := szs) wc (F5.at ez4) szp (by decide) fun ds l h6 D6 e6 hl F6 => ?_
      have F6 := F5.trans F6
      obtain ⟨dl, db⟩ := D6
      obtain ⟨a0, a1, a2, a3, a4, a5, a6, d0, d1, d2, d3, d4, d5, d6, b0, b1, b2, b3, b4, b5, rfl⟩ : ∃ a0 a1 a2 a3 a4 a5 a6 d0 d1 d2 d3 d4 d5 d6 b0 b1 b2 b3 b4 b5, ds = [a0, a1, a2, a3, a4, a5, a6, d0, d1, d2, d3, d4, d5, d6, b0, b1, b2, b3, b4, b5] := by
        match ds, dl with
        | [a0, a1, a2, a3, a4, a5, a6, d0, d1, d2, d3, d4, d5, d6, b0, b1, b2, b3, b4, b5], _ => exact ⟨_, _, _, _, _, _, _, _, _, _, _, _, _, _, _, _, _, _, _, _, rfl⟩
      simp
      refine case_ (r6 := [b0, b1, b2, b3, b4, b5]) e6 rfl (db 0 5 a0 rfl rfl) (db 1 99995 a1 rfl rfl) (db 2 10 a2 rfl rfl) (db 3 3 a3 rfl rfl) (db 4 16 a4 rfl rfl) (db 5 7 a5 rfl rfl) (db 6 99996 a6 rfl rfl).1 (db 7 16 d0 rfl rfl) (db 8 200003 d1 rfl rfl).1 (db 9 16 d2 rfl rfl) (db 10 16 d3 rfl rfl) (db 11 3 d4 rfl rfl) (db 13 1009 d6 rfl rfl).1 fun h7 F7 => ?_
      simp [tb]
      exact (F6.trans F7).at ez4
    · rintro _ h4 ⟨ez4, s2, rfl⟩
      simp
  obtain ⟨d, m, e, q⟩ := Wc.ok_of key
  subst q
  exact ⟨m, e⟩
end K14
namespace K14
open PySem PySem.Spec L2 LF
open PyProof.Rows hiding St
theorem all_mk {P : Program} {w : World} {K : PySem.W.Frag} {h : Heap} {mg : Str → Option Value} {fa : Addr} (X : K.In h) (G : h.Ns mainGlobals mg) (hmg : mg "law" = some (.ref fa))
    {f0 f1 f2 f3 f4 f5 f6 f7 f8 f9 f10 f11 f12 f13 f14 f15 f16 f17 f18 f19 f20 f21 f22 f23 f24 f25 f26 f27 f28 f29 f30 f31 f32 f33 f34 f35 f36 f37 f38 : Addr} {od0 an0 od1 an1 od2 an2 od3 an3 od4 an4 od5 an5 od6 an6 od7 an7 od8 an8 od9 an9 od10 an10 od11 an11 od12 an12 od13 an13 od14 an14 od15 an15 od16 an16 od17 an17 od18 an18 od19 an19 od20 an20 od21 an21 od22 an22 od23 an23 od24 an24 od25 an25 od26 an26 od27 an27 od28 an28 od29 an29 od30 an30 od31 an31 od32 an32 od33 an33 od34 an34 od35 an35 od36 an36 od37 an37 od38 an38 : Option Addr} {sl0 sl1 sl2 sl3 sl4 sl5 sl6 sl7 sl8 sl9 sl10 sl11 sl12 sl13 sl14 sl15 sl16 sl17 sl18 sl19 sl20 sl21 sl22 sl23 sl24 sl25 sl26 sl27 sl28 sl29 sl30 sl31 sl32 sl33 sl34 sl35 sl36 sl37 sl38 : Array (Option Value)}
    {oc0 kV0 dc0 pm0 cd0 ct0 oc1 kV1 dc1 pm1 cd1 ct1 oc2 kV2 dc2 pm2 cd2 ct2 oc3 kV3 dc3 pm3 cd3 ct3 oc4 kV4 dc4 pm4 cd4 ct4 oc5 kV5 dc5 pm5 cd5 ct5 oc6 kV6 dc6 pm6 cd6 ct6 oc7 kV7 dc7 pm7 cd7 ct7 oc8 kV8 dc8 pm8 cd8 ct8 oc9 kV9 dc9 pm9 cd9 ct9 oc10 kV10 dc10 pm10 cd10 ct10 oc11 kV11 dc11 pm11 cd11 ct11 oc12 kV12 dc12 pm12 cd12 ct12 oc13 kV13 dc13 pm13 cd13 ct13 oc14 kV14 dc14 pm14 cd14 ct14 oc15 kV15 dc15 pm15 cd15 ct15 oc16 kV16 dc16 pm16 cd16 ct16 oc17 kV17 dc17 pm17 cd17 ct17 oc18 kV18 dc18 pm18 cd18 ct18 oc19 kV19 dc19 pm19 cd19 ct19 oc20 kV20 dc20 pm20 cd20 ct20 oc21 kV21 dc21 pm21 cd21 ct21 oc22 kV22 dc22 pm22 cd22 ct22 oc23 kV23 dc23 pm23 cd23 ct23 oc24 kV24 dc24 pm24 cd24 ct24 oc25 kV25 dc25 pm25 cd25 ct25 oc26 kV26 dc26 pm26 cd26 ct26 oc27 kV27 dc27 pm27 cd27 ct27 oc28 kV28 dc28 pm28 cd28 ct28 oc29 kV29 dc29 pm29 cd29 ct29 oc30 kV30 dc30 pm30 cd30 ct30 oc31 kV31 dc31 pm31 cd31 ct31 oc32 kV32 dc32 pm32 cd32 ct32 oc33 kV33 dc33 pm33 cd33 ct33 oc34 kV34 dc34 pm34 cd34 ct34 oc35 kV35 dc35 pm35 cd35 ct35 oc36 kV36 dc36 pm36 cd36 ct36 oc37 kV37 dc37 pm37 cd37 ct37 oc38 kV38 dc38 pm38 cd38 ct38 : Value} {C0 C1 C2 C3 C4 C5 : Addr}
    {gp0 : Addr}
    {dp0 : Addr} {de0 : Array DictEntry} {dn0 : Nat}
    {xI0 xC0 xD0 xN0 : Addr} {xn0 xq0 : Str} {xb0 xm0 xs0 : List Value} {xS0 : List Str} {xa0 : Bool} {xc0 : Option Bool} {xd0 xod0 xan0 xe0 xg0 : Option Addr} {xk0 xl0 xo0 xp0 xr0 : Option Value} {xoc0 xkV0 xdo0 xpm0 xct0 xcl0 xcc0 : Value} {xos0 xcs0 xsl0 : Array (Option Value)} {xv0 : Array Value} {xf0 : Str} {xt0 : Tok}
    {xI1 xC1 xD1 xN1 : Addr} {xn1 xq1 : Str} {xb1 xm1 xs1 : List Value} {xS1 : List Str} {xa1 : Bool} {xc1 : Option Bool} {xd1 xod1 xan1 xe1 xg1 : Option Addr} {xk1 xl1 xo1 xp1 xr1 : Option Value} {xoc1 xkV1 xdo1 xpm1 xct1 xcl1 xcc1 : Value} {xos1 xcs1 xsl1 : Array (Option Value)} {xv1 : Array Value} {xf1 : Str} {xt1 : Tok}
    {xI2 xC2 xD2 xN2 : Addr} {xn2 xq2 : Str} {xb2 xm2 xs2 : List Value} {xS2 : List Str} {xa2 : Bool} {xc2 : Option Bool} {xd2 xod2 xan2 xe2 xg2 : Option Addr} {xk2 xl2 xo2 xp2 xr2 : Option Value} {xoc2 xkV2 xdo2 xpm2 xct2 xcl2 xcc2 : Value} {xos2 xcs2 xsl2 : Array (Option Value)} {xv2 : Array Value} {xf2 : Str} {xt2 : Tok}
    {pp0 : Addr} {pr0 : List Value}
    (a0 : PySem.W.findIn K (.ref C0) "room" = some (some (.ref pp0))) (pa0 : PySem.W.specialIn K (.ref pp0) "__get__" = some (some (.builtin "property.__get__"))) (pb0 : PySem.W.takesIn K (.ref pp0) = some true) (pc0 : PySem.W.recIn K pp0 "property" = some (.ref f0 :: pr0)) (l0 : K.lookup f0 = some ⟨oc0, od0, .func (PySem.W.fnOf "room" "Ledger.room" (defArgs s_Ledger_room) (defBody s_Ledger_room) (defScope s_Ledger_room) .none kV0 dc0 pm0 an0 cd0 ct0), sl0⟩) (c0 : PySem.W.codeIn K cd0 "Ledger.room" = true) (k0 : PySem.W.keepIn K (.ref f0) = true)
    (a1 : PySem.W.nsIn K mainGlobals "_first_word" = some (some (.ref f1))) (l1 : K.lookup f1 = some ⟨oc1, od1, .func (PySem.W.fnOf "_first_word" "_first_word" (defArgs s_first_word_u) (defBody s_first_word_u) (defScope s_first_word_u) .none kV1 dc1 pm1 an1 cd1 ct1), sl1⟩) (c1 : PySem.W.codeIn K cd1 "_first_word" = true) (k1 : PySem.W.keepIn K (.ref f1) = true)
    (a2 : PySem.W.nsIn K mainGlobals "is_sparing" = some (some (.ref f2))) (l2 : K.lookup f2 = some ⟨oc2, od2, .func (PySem.W.fnOf "is_sparing" "is_sparing" (defArgs s_is_sparing) (defBody s_is_sparing) (defScope s_is_sparing) .none kV2 dc2 pm2 an2 cd2 ct2), sl2⟩) (c2 : PySem.W.codeIn K cd2 "is_sparing" = true) (k2 : PySem.W.keepIn K (.ref f2) = true)
    (a3 : PySem.W.nsIn K mainGlobals "height_bound" = some (some (.ref f3))) (l3 : K.lookup f3 = some ⟨oc3, od3, .func (PySem.W.fnOf "height_bound" "height_bound" (defArgs s_height_bound) (defBody s_height_bound) (defScope s_height_bound) .none kV3 dc3 pm3 an3 cd3 ct3), sl3⟩) (c3 : PySem.W.codeIn K cd3 "height_bound" = true) (k3 : PySem.W.keepIn K (.ref f3) = true)
    (a4 : PySem.W.nsIn K mainGlobals "_blocks_needed" = some (some (.ref f4))) (l4 : K.lookup f4 = some ⟨oc4, od4, .func (PySem.W.fnOf "_blocks_needed" "_blocks_needed" (defArgs s_blocks_needed_u) (defBody s_blocks_needed_u) (defScope s_blocks_needed_u) .none kV4 dc4 pm4 an4 cd4 ct4), sl4⟩) (c4 : PySem.W.codeIn K cd4 "_blocks_needed" = true) (k4 : PySem.W.keepIn K (.ref f4) = true)
    (a5 : PySem.W.nsIn K mainGlobals "promise" = some (some (.ref f5))) (l5 : K.lookup f5 = some ⟨oc5, od5, .func (PySem.W.fnOf "promise" "promise" (defArgs s_promise) (defBody s_promise) (defScope s_promise) .none kV5 dc5 pm5 an5 cd5 ct5), sl5⟩) (c5 : PySem.W.codeIn K cd5 "promise" = true) (k5 : PySem.W.keepIn K (.ref f5) = true)
    (a6 : PySem.W.nsIn K mainGlobals "spare" = some (some (.ref f6))) (l6 : K.lookup f6 = some ⟨oc6, od6, .func (PySem.W.fnOf "spare" "spare" (defArgs s_spare) (defBody s_spare) (defScope s_spare) .none kV6 dc6 pm6 an6 cd6 ct6), sl6⟩) (c6 : PySem.W.codeIn K cd6 "spare" = true) (k6 : PySem.W.keepIn K (.ref f6) = true)
    (a7 : PySem.W.findIn K (.ref C0) "is_let" = some (some (.ref f7))) (i7 : PySem.W.isFn K (.ref f7) = true) (l7 : K.lookup f7 = some ⟨oc7, od7, .func (PySem.W.fnOf "is_let" "Ledger.is_let" (defArgs s_Ledger_is_let) (defBody s_Ledger_is_let) (defScope s_Ledger_is_let) .none kV7 dc7 pm7 an7 cd7 ct7), sl7⟩) (c7 : PySem.W.codeIn K cd7 "Ledger.is_let" = true) (k7 : PySem.W.keepIn K (.ref f7) = true)
    (a8 : PySem.W.nsIn K mainGlobals "_law_height" = some (some (.ref f8))) (l8 : K.lookup f8 = some ⟨oc8, od8, .func (PySem.W.fnOf "_law_height" "_law_height" (defArgs s_law_height_u) (defBody s_law_height_u) (defScope s_law_height_u) .none kV8 dc8 pm8 an8 cd8 ct8), sl8⟩) (c8 : PySem.W.codeIn K cd8 "_law_height" = true) (k8 : PySem.W.keepIn K (.ref f8) = true)
    (a9 : PySem.W.nsIn K mainGlobals "_law_steps" = some (some (.ref f9))) (l9 : K.lookup f9 = some ⟨oc9, od9, .func (PySem.W.fnOf "_law_steps" "_law_steps" (defArgs s_law_steps_u) (defBody s_law_steps_u) (defScope s_law_steps_u) .none kV9 dc9 pm9 an9 cd9 ct9), sl9⟩) (c9 : PySem.W.codeIn K cd9 "_law_steps" = true) (k9 : PySem.W.keepIn K (.ref f9) = true)
    (a10 : PySem.W.nsIn K mainGlobals "_law_need" = some (some (.ref f10))) (l10 : K.lookup f10 = some ⟨oc10, od10, .func (PySem.W.fnOf "_law_need" "_law_need" (defArgs s_law_need_u) (defBody s_law_need_u) (defScope s_law_need_u) .none kV10 dc10 pm10 an10 cd10 ct10), sl10⟩) (c10 : PySem.W.codeIn K cd10 "_law_need" = true) (k10 : PySem.W.keepIn K (.ref f10) = true)
    (a11 : PySem.W.nsIn K mainGlobals "_law_spares" = some (some (.ref f11))) (l11 : K.lookup f11 = some ⟨oc11, od11, .func (PySem.W.fnOf "_law_spares" "_law_spares" (defArgs s_law_spares_u) (defBody s_law_spares_u) (defScope s_law_spares_u) .none kV11 dc11 pm11 an11 cd11 ct11), sl11⟩) (c11 : PySem.W.codeIn K cd11 "_law_spares" = true) (k11 : PySem.W.keepIn K (.ref f11) = true)
    (a12 : PySem.W.nsIn K mainGlobals "_law_bound" = some (some (.ref f12))) (l12 : K.lookup f12 = some ⟨oc12, od12, .func (PySem.W.fnOf "_law_bound" "_law_bound" (defArgs s_law_bound_u) (defBody s_law_bound_u) (defScope s_law_bound_u) .none kV12 dc12 pm12 an12 cd12 ct12), sl12⟩) (c12 : PySem.W.codeIn K cd12 "_law_bound" = true) (k12 : PySem.W.keepIn K (.ref f12) = true)
    (a13 : PySem.W.nsIn K mainGlobals "_law_name" = some (some (.ref f13))) (l13 : K.lookup f13 = some ⟨oc13, od13, .func (PySem.W.fnOf "_law_name" "_law_name" (defArgs s_law_name_u) (defBody s_law_name_u) (defScope s_law_name_u) .none kV13 dc13 pm13 an13 cd13 ct13), sl13⟩) (c13 : PySem.W.codeIn K cd13 "_law_name" = true) (k13 : PySem.W.keepIn K (.ref f13) = true)
    (a14 : PySem.W.nsIn K mainGlobals "_law_path" = some (some (.ref f14))) (l14 : K.lookup f14 = some ⟨oc14, od14, .func (PySem.W.fnOf "_law_path" "_law_path" (defArgs s_law_path_u) (defBody s_law_path_u) (defScope s_law_path_u) .none kV14 dc14 pm14 an14 cd14 ct14), sl14⟩) (c14 : PySem.W.codeIn K cd14 "_law_path" = true) (k14 : PySem.W.keepIn K (.ref f14) = true)
    (a15 : PySem.W.nsIn K mainGlobals "_law_call" = some (some (.ref f15))) (l15 : K.lookup f15 = some ⟨oc15, od15, .func (PySem.W.fnOf "_law_call" "_law_call" (defArgs s_law_call_u) (defBody s_law_call_u) (defScope s_law_call_u) .none kV15 dc15 pm15 an15 cd15 ct15), sl15⟩) (c15 : PySem.W.codeIn K cd15 "_law_call" = true) (k15 : PySem.W.keepIn K (.ref f15) = true)
    (a16 : PySem.W.nsIn K mainGlobals "_law_left" = some (some (.ref f16))) (l16 : K.lookup f16 = some ⟨oc16, od16, .func (PySem.W.fnOf "_law_left" "_law_left" (defArgs s_law_left_u) (defBody s_law_left_u) (defScope s_law_left_u) .none kV16 dc16 pm16 an16 cd16 ct16), sl16⟩) (c16 : PySem.W.codeIn K cd16 "_law_left" = true) (k16 : PySem.W.keepIn K (.ref f16) = true)
    (a17 : PySem.W.findIn K (.ref C0) "_check_open" = some (some (.ref f17))) (i17 : PySem.W.isFn K (.ref f17) = true) (l17 : K.lookup f17 = some ⟨oc17, od17, .func (PySem.W.fnOf "_check_open" "Ledger._check_open" (defArgs s_Ledger__check_open) (defBody s_Ledger__check_open) (defScope s_Ledger__check_open) .none kV17 dc17 pm17 an17 cd17 ct17), sl17⟩) (c17 : PySem.W.codeIn K cd17 "Ledger._check_open" = true) (k17 : PySem.W.keepIn K (.ref f17) = true)
    (a18 : PySem.W.findIn K (.ref C0) "cancel" = some (some (.ref f18))) (i18 : PySem.W.isFn K (.ref f18) = true) (l18 : K.lookup f18 = some ⟨oc18, od18, .func (PySem.W.fnOf "cancel" "Ledger.cancel" (defArgs s_Ledger_cancel) (defBody s_Ledger_cancel) (defScope s_Ledger_cancel) .none kV18 dc18 pm18 an18 cd18 ct18), sl18⟩) (c18 : PySem.W.codeIn K cd18 "Ledger.cancel" = true) (k18 : PySem.W.keepIn K (.ref f18) = true)
    (a19 : PySem.W.findIn K (.ref C0) "commit" = some (some (.ref f19))) (i19 : PySem.W.isFn K (.ref f19) = true) (l19 : K.lookup f19 = some ⟨oc19, od19, .func (PySem.W.fnOf "commit" "Ledger.commit" (defArgs s_Ledger_commit) (defBody s_Ledger_commit) (defScope s_Ledger_commit) .none kV19 dc19 pm19 an19 cd19 ct19), sl19⟩) (c19 : PySem.W.codeIn K cd19 "Ledger.commit" = true) (k19 : PySem.W.keepIn K (.ref f19) = true)
    (a20 : PySem.W.findIn K (.ref C0) "enter" = some (some (.ref f20))) (i20 : PySem.W.isFn K (.ref f20) = true) (l20 : K.lookup f20 = some ⟨oc20, od20, .func (PySem.W.fnOf "enter" "Ledger.enter" (defArgs s_Ledger_enter) (defBody s_Ledger_enter) (defScope s_Ledger_enter) .none kV20 dc20 pm20 an20 cd20 ct20), sl20⟩) (c20 : PySem.W.codeIn K cd20 "Ledger.enter" = true) (k20 : PySem.W.keepIn K (.ref f20) = true)
    (a21 : PySem.W.nsIn K mainGlobals "_law_is" = some (some (.ref f21))) (l21 : K.lookup f21 = some ⟨oc21, od21, .func (PySem.W.fnOf "_law_is" "_law_is" (defArgs s_law_is_u) (defBody s_law_is_u) (defScope s_law_is_u) .none kV21 dc21 pm21 an21 cd21 ct21), sl21⟩) (c21 : PySem.W.codeIn K cd21 "_law_is" = true) (k21 : PySem.W.keepIn K (.ref f21) = true)
    (a22 : PySem.W.nsIn K mainGlobals "_law_lets" = some (some (.ref f22))) (l22 : K.lookup f22 = some ⟨oc22, od22, .func (PySem.W.fnOf "_law_lets" "_law_lets" (defArgs s_law_lets_u) (defBody s_law_lets_u) (defScope s_law_lets_u) .none kV22 dc22 pm22 an22 cd22 ct22), sl22⟩) (c22 : PySem.W.codeIn K cd22 "_law_lets" = true) (k22 : PySem.W.keepIn K (.ref f22) = true)
    (a23 : PySem.W.nsIn K mainGlobals "_law_stands" = some (some (.ref f23))) (l23 : K.lookup f23 = some ⟨oc23, od23, .func (PySem.W.fnOf "_law_stands" "_law_stands" (defArgs s_law_stands_u) (defBody s_law_stands_u) (defScope s_law_stands_u) .none kV23 dc23 pm23 an23 cd23 ct23), sl23⟩) (c23 : PySem.W.codeIn K cd23 "_law_stands" = true) (k23 : PySem.W.keepIn K (.ref f23) = true)
    (a24 : PySem.W.nsIn K mainGlobals "_law_truth" = some (some (.ref f24))) (l24 : K.lookup f24 = some ⟨oc24, od24, .func (PySem.W.fnOf "_law_truth" "_law_truth" (defArgs s_law_truth_u) (defBody s_law_truth_u) (defScope s_law_truth_u) .none kV24 dc24 pm24 an24 cd24 ct24), sl24⟩) (c24 : PySem.W.codeIn K cd24 "_law_truth" = true) (k24 : PySem.W.keepIn K (.ref f24) = true)
    (a25 : PySem.W.nsIn K mainGlobals "_law_enters" = some (some (.ref f25))) (l25 : K.lookup f25 = some ⟨oc25, od25, .func (PySem.W.fnOf "_law_enters" "_law_enters" (defArgs s_law_enters_u) (defBody s_law_enters_u) (defScope s_law_enters_u) .none kV25 dc25 pm25 an25 cd25 ct25), sl25⟩) (c25 : PySem.W.codeIn K cd25 "_law_enters" = true) (k25 : PySem.W.keepIn K (.ref f25) = true)
    (a26 : PySem.W.nsIn K mainGlobals "_law_let_side" = some (some (.ref f26))) (l26 : K.lookup f26 = some ⟨oc26, od26, .func (PySem.W.fnOf "_law_let_side" "_law_let_side" (defArgs s_law_let_side_u) (defBody s_law_let_side_u) (defScope s_law_let_side_u) .none kV26 dc26 pm26 an26 cd26 ct26), sl26⟩) (c26 : PySem.W.codeIn K cd26 "_law_let_side" = true) (k26 : PySem.W.keepIn K (.ref f26) = true)
    (a27 : PySem.W.findIn K (.ref C0) "__init__" = some (some (.ref f27))) (i27 : PySem.W.isFn K (.ref f27) = true) (mk27 : PySem.W.makesIn K C0 = true) (kc27 : PySem.W.keepIn K (.ref C0) = true) (l27 : K.lookup f27 = some ⟨oc27, od27, .func (PySem.W.fnOf "__init__" "Ledger.__init__" (defArgs s_Ledger___init__) (defBody s_Ledger___init__) (defScope s_Ledger___init__) .none kV27 dc27 pm27 an27 cd27 ct27), sl27⟩) (c27 : PySem.W.codeIn K cd27 "Ledger.__init__" = true) (k27 : PySem.W.keepIn K (.ref f27) = true)
    (a28 : PySem.W.findIn K (.ref C0) "checkpoint" = some (some (.ref f28))) (i28 : PySem.W.isFn K (.ref f28) = true) (l28 : K.lookup f28 = some ⟨oc28, od28, .func (PySem.W.fnOf "checkpoint" "Ledger.checkpoint" (defArgs s_Ledger_checkpoint) (defBody s_Ledger_checkpoint) (defScope s_Ledger_checkpoint) .none kV28 dc28 pm28 an28 cd28 ct28), sl28⟩) (c28 : PySem.W.codeIn K cd28 "Ledger.checkpoint" = true) (k28 : PySem.W.keepIn K (.ref f28) = true)
    (a29 : PySem.W.findIn K (.ref C0) "spend" = some (some (.ref f29))) (i29 : PySem.W.isFn K (.ref f29) = true) (l29 : K.lookup f29 = some ⟨oc29, od29, .func (PySem.W.fnOf "spend" "Ledger.spend" (defArgs s_Ledger_spend) (defBody s_Ledger_spend) (defScope s_Ledger_spend) .none kV29 dc29 pm29 an29 cd29 ct29), sl29⟩) (c29 : PySem.W.codeIn K cd29 "Ledger.spend" = true) (k29 : PySem.W.keepIn K (.ref f29) = true)
    (a30 : PySem.W.nsIn K mainGlobals "_law_words" = some (some (.ref f30))) (l30 : K.lookup f30 = some ⟨oc30, od30, .func (PySem.W.fnOf "_law_words" "_law_words" (defArgs s_law_words_u) (defBody s_law_words_u) (defScope s_law_words_u) .none kV30 dc30 pm30 an30 cd30 ct30), sl30⟩) (c30 : PySem.W.codeIn K cd30 "_law_words" = true) (k30 : PySem.W.keepIn K (.ref f30) = true)
    (a31 : PySem.W.nsIn K mainGlobals "_law_made" = some (some (.ref f31))) (l31 : K.lookup f31 = some ⟨oc31, od31, .func (PySem.W.fnOf "_law_made" "_law_made" (defArgs s_law_made_u) (defBody s_law_made_u) (defScope s_law_made_u) .none kV31 dc31 pm31 an31 cd31 ct31), sl31⟩) (c31 : PySem.W.codeIn K cd31 "_law_made" = true) (k31 : PySem.W.keepIn K (.ref f31) = true)
    (a32 : PySem.W.nsIn K mainGlobals "_law_pool" = some (some (.ref f32))) (l32 : K.lookup f32 = some ⟨oc32, od32, .func (PySem.W.fnOf "_law_pool" "_law_pool" (defArgs s_law_pool_u) (defBody s_law_pool_u) (defScope s_law_pool_u) .none kV32 dc32 pm32 an32 cd32 ct32), sl32⟩) (c32 : PySem.W.codeIn K cd32 "_law_pool" = true) (k32 : PySem.W.keepIn K (.ref f32) = true)
    (a33 : PySem.W.nsIn K mainGlobals "_law_is_refused" = some (some (.ref f33))) (l33 : K.lookup f33 = some ⟨oc33, od33, .func (PySem.W.fnOf "_law_is_refused" "_law_is_refused" (defArgs s_law_is_refused_u) (defBody s_law_is_refused_u) (defScope s_law_is_refused_u) .none kV33 dc33 pm33 an33 cd33 ct33), sl33⟩) (c33 : PySem.W.codeIn K cd33 "_law_is_refused" = true) (k33 : PySem.W.keepIn K (.ref f33) = true)
    (a34 : PySem.W.nsIn K mainGlobals "_law_refused_side" = some (some (.ref f34))) (l34 : K.lookup f34 = some ⟨oc34, od34, .func (PySem.W.fnOf "_law_refused_side" "_law_refused_side" (defArgs s_law_refused_side_u) (defBody s_law_refused_side_u) (defScope s_law_refused_side_u) .none kV34 dc34 pm34 an34 cd34 ct34), sl34⟩) (c34 : PySem.W.codeIn K cd34 "_law_refused_side" = true) (k34 : PySem.W.keepIn K (.ref f34) = true)
    (a35 : PySem.W.nsIn K mainGlobals "_law_case" = some (some (.ref f35))) (l35 : K.lookup f35 = some ⟨oc35, od35, .func (PySem.W.fnOf "_law_case" "_law_case" (defArgs s_law_case_u) (defBody s_law_case_u) (defScope s_law_case_u) .none kV35 dc35 pm35 an35 cd35 ct35), sl35⟩) (c35 : PySem.W.codeIn K cd35 "_law_case" = true) (k35 : PySem.W.keepIn K (.ref f35) = true)
    (a36 : PySem.W.nsIn K mainGlobals "_law_draws" = some (some (.ref f36))) (l36 : K.lookup f36 = some ⟨oc36, od36, .func (PySem.W.fnOf "_law_draws" "_law_draws" (defArgs s_law_draws_u) (defBody s_law_draws_u) (defScope s_law_draws_u) .none kV36 dc36 pm36 an36 cd36 ct36), sl36⟩) (c36 : PySem.W.codeIn K cd36 "_law_draws" = true) (k36 : PySem.W.keepIn K (.ref f36) = true)
    (a37 : PySem.W.nsIn K mainGlobals "_law_number" = some (some (.ref f37))) (l37 : K.lookup f37 = some ⟨oc37, od37, .func (PySem.W.fnOf "_law_number" "_law_number" (defArgs s_law_number_u) (defBody s_law_number_u) (defScope s_law_number_u) .none kV37 dc37 pm37 an37 cd37 ct37), sl37⟩) (c37 : PySem.W.codeIn K cd37 "_law_number" = true) (k37 : PySem.W.keepIn K (.ref f37) = true)
    (a38 : PySem.W.nsIn K mainGlobals "law" = some (some (.ref f38))) (l38 : K.lookup f38 = some ⟨oc38, od38, .func (PySem.W.fnOf "law" "law" (defArgs s_law) (defBody s_law) (defScope s_law) .none kV38 dc38 pm38 an38 cd38 ct38), sl38⟩) (c38 : PySem.W.codeIn K cd38 "law" = true) (k38 : PySem.W.keepIn K (.ref f38) = true)
    (z_range : PySem.W.nsIn K mainGlobals "range" = some none)
    (z_int : PySem.W.nsIn K mainGlobals "int" = some none)
    (z_len : PySem.W.nsIn K mainGlobals "len" = some none)
    (z_tuple : PySem.W.nsIn K mainGlobals "tuple" = some none)
    (z_isinstance : PySem.W.nsIn K mainGlobals "isinstance" = some none)
    (z_bool : PySem.W.nsIn K mainGlobals "bool" = some none)
    (z_sum : PySem.W.nsIn K mainGlobals "sum" = some none)
    (z_min : PySem.W.nsIn K mainGlobals "min" = some none)
    (z_max : PySem.W.nsIn K mainGlobals "max" = some none)
    (z_ValueError : PySem.W.nsIn K mainGlobals "ValueError" = some none)
    (k_Ledger : PySem.W.nsIn K mainGlobals "Ledger" = some (some (.ref C0)))
    (k_NoSpace : PySem.W.nsIn K mainGlobals "NoSpace" = some (some (.ref C1)))
    (k_LandfallError : PySem.W.nsIn K mainGlobals "LandfallError" = some (some (.ref C2)))
    (k_PoolFull : PySem.W.nsIn K mainGlobals "PoolFull" = some (some (.ref C3)))
    (k_BadPromise : PySem.W.nsIn K mainGlobals "BadPromise" = some (some (.ref C4)))
    (k_BadCall : PySem.W.nsIn K mainGlobals "BadCall" = some (some (.ref C5)))
    (g_SPARING : PySem.W.nsIn K mainGlobals "SPARING" = some (some (.ref gp0))) (gv_SPARING : ckV K (.ct [(.str "remove"), (.str "rmdir"), (.str "unmark"), (.str "snapshot"), (.str "clone"), (.str "drop")]) (.ref gp0) = true)
    (d_STEPS : PySem.W.nsIn K mainGlobals "STEPS" = some (some (.ref dp0))) (ds_STEPS : (dp0 == sysModules) = false) (dl_STEPS : K.lookup dp0 = some ⟨.type "dict", none, .dict de0 dn0, #[]⟩) (dk_STEPS : PySem.W.KeysLit w.params de0.toList) (dc_STEPS : ckE K de0.toList kd_STEPS = true)
    (o1_Ledger : PySem.W.plainGet K C0 Str.empty = true)
    (o2_Ledger : PySem.W.hasDictIn K C0 = true)
    (o3_Ledger : PySem.W.plainOver K C0 = true)
    (o4_Ledger : PySem.W.findIn K (.ref C0) "__setattr__" = some (some (.builtin "object.__setattr__")))
    (no_Ledger_0 : PySem.W.findIn K (.ref C0) "pool" = some none)
    (no_Ledger_1 : PySem.W.findIn K (.ref C0) "used" = some none)
    (no_Ledger_2 : PySem.W.findIn K (.ref C0) "opened" = some none)
    (no_Ledger_3 : PySem.W.findIn K (.ref C0) "spent" = some none)
    (x_sup : PySem.W.nsIn K mainGlobals "super" = some none)
    (x_nost : PySem.W.nsIn K cStatics "thirdparty.any" = some none)
    (x_top : (P.main.scope.names.lookup ("super" : Str)).isSome = false)
    (xo_0 : K.lookup C5 = some (excClassObj xn0 xq0 C5 xN0 xb0 xm0 true xS0 xs0 xa0 xc0 xd0 xk0 xl0 xo0 xp0 xr0 "ValueError.__new__"))
    (xm_0 : PySem.HandSPX.refsVE xm0 = true)
    (xsa_0 : PySem.W.findIn K (.ref C5) "__setattr__" = some (some (.builtin "object.__setattr__")))
    (xex_0 : PySem.W.subIn K (.ref C5) (.type "BaseException") = some true)
    (xty_0 : PySem.W.typeIn K (.ref C5) = some (.type "type"))
    (xkp_0 : PySem.W.keepIn K (.ref C5) = true)
    (xin_0 : PySem.W.findIn K (.ref C5) "__init__" = some (some (.ref xI0)))
    (xti_0 : PySem.W.typeIn K (.ref xI0) = some (.type "function"))
    (xlk_0 : K.lookup xI0 = some ⟨xoc0, xod0, .func (PySem.W.ksFn "__init__" "BadCall.__init__" (defArgs i_BadCall) (defBody i_BadCall) (defScope i_BadCall) .none xkV0 xdo0 xpm0 xan0 (.ref xD0) xct0 xC0), xos0⟩)
    (xcd_0 : PySem.W.codeIn K (.ref xD0) "BadCall.__init__" = true)
    (xce_0 : K.lookup xC0 = some ⟨xcl0, xe0, .cell (some (.ref C5)), xcs0⟩)
    (xco_0 : K.lookup xD0 = some ⟨xcc0, xg0, .fields xv0, xsl0⟩)
    (xvs_0 : xv0[2]? = some (.str xf0 xt0))
    (xfi_0 : ((P.main.file : Str) == xf0) = true)
    (xsi_0 : PySem.W.ks_superIn K C5 C5 "__init__" = some (some (.builtin "ValueError.__init__")))
    (xmr_0 : PySem.W.mroIn K C5 (.ref C5) = some true)
    (xve_0 : PySem.W.subIn K (.ref C5) (.type "ValueError") = some true)
    (xno_0_call : PySem.W.findIn K (.ref C5) "call" = some none)
    (xo_1 : K.lookup C4 = some (excClassObj xn1 xq1 C4 xN1 xb1 xm1 true xS1 xs1 xa1 xc1 xd1 xk1 xl1 xo1 xp1 xr1 "ValueError.__new__"))
    (xm_1 : PySem.HandSPX.refsVE xm1 = true)
    (xsa_1 : PySem.W.findIn K (.ref C4) "__setattr__" = some (some (.builtin "object.__setattr__")))
    (xex_1 : PySem.W.subIn K (.ref C4) (.type "BaseException") = some true)
    (xty_1 : PySem.W.typeIn K (.ref C4) = some (.type "type"))
    (xkp_1 : PySem.W.keepIn K (.ref C4) = true)
    (xin_1 : PySem.W.findIn K (.ref C4) "__init__" = some (some (.ref xI1)))
    (xti_1 : PySem.W.typeIn K (.ref xI1) = some (.type "function"))
    (xlk_1 : K.lookup xI1 = some ⟨xoc1, xod1, .func (PySem.W.ksFn "__init__" "BadPromise.__init__" (defArgs i_BadPromise) (defBody i_BadPromise) (defScope i_BadPromise) .none xkV1 xdo1 xpm1 xan1 (.ref xD1) xct1 xC1), xos1⟩)
    (xcd_1 : PySem.W.codeIn K (.ref xD1) "BadPromise.__init__" = true)
    (xce_1 : K.lookup xC1 = some ⟨xcl1, xe1, .cell (some (.ref C4)), xcs1⟩)
    (xco_1 : K.lookup xD1 = some ⟨xcc1, xg1, .fields xv1, xsl1⟩)
    (xvs_1 : xv1[2]? = some (.str xf1 xt1))
    (xfi_1 : ((P.main.file : Str) == xf1) = true)
    (xsi_1 : PySem.W.ks_superIn K C4 C4 "__init__" = some (some (.builtin "ValueError.__init__")))
    (xmr_1 : PySem.W.mroIn K C4 (.ref C4) = some true)
    (xve_1 : PySem.W.subIn K (.ref C4) (.type "ValueError") = some true)
    (xno_1_need : PySem.W.findIn K (.ref C4) "need" = some none)
    (xo_2 : K.lookup C1 = some (excClassObj xn2 xq2 C1 xN2 xb2 xm2 true xS2 xs2 xa2 xc2 xd2 xk2 xl2 xo2 xp2 xr2 "ValueError.__new__"))
    (xm_2 : PySem.HandSPX.refsVE xm2 = true)
    (xsa_2 : PySem.W.findIn K (.ref C1) "__setattr__" = some (some (.builtin "object.__setattr__")))
    (xex_2 : PySem.W.subIn K (.ref C1) (.type "BaseException") = some true)
    (xty_2 : PySem.W.typeIn K (.ref C1) = some (.type "type"))
    (xkp_2 : PySem.W.keepIn K (.ref C1) = true)
    (xin_2 : PySem.W.findIn K (.ref C1) "__init__" = some (some (.ref xI2)))
    (xti_2 : PySem.W.typeIn K (.ref xI2) = some (.type "function"))
    (xlk_2 : K.lookup xI2 = some ⟨xoc2, xod2, .func (PySem.W.ksFn "__init__" "NoSpace.__init__" (defArgs i_NoSpace) (defBody i_NoSpace) (defScope i_NoSpace) .none xkV2 xdo2 xpm2 xan2 (.ref xD2) xct2 xC2), xos2⟩)
    (xcd_2 : PySem.W.codeIn K (.ref xD2) "NoSpace.__init__" = true)
    (xce_2 : K.lookup xC2 = some ⟨xcl2, xe2, .cell (some (.ref C1)), xcs2⟩)
    (xco_2 : K.lookup xD2 = some ⟨xcc2, xg2, .fields xv2, xsl2⟩)
    (xvs_2 : xv2[2]? = some (.str xf2 xt2))
    (xfi_2 : ((P.main.file : Str) == xf2) = true)
    (xsi_2 : PySem.W.ks_superIn K C1 C1 "__init__" = some (some (.builtin "ValueError.__init__")))
    (xmr_2 : PySem.W.mroIn K C1 (.ref C1) = some true)
    (xve_2 : PySem.W.subIn K (.ref C1) (.type "ValueError") = some true)
    (xno_2_need : PySem.W.findIn K (.ref C1) "need" = some none)
    (xno_2_left : PySem.W.findIn K (.ref C1) "left" = some none)
    (xta_0 : PySem.W.exmOne K (.ref C5) (.ref C1) = some false)
    (xtb_0 : PySem.W.kitOne K (.ref C5) (.ref C1) = some false)
    (xta_1 : PySem.W.exmOne K (.ref C4) (.ref C1) = some false)
    (xtb_1 : PySem.W.kitOne K (.ref C4) (.ref C1) = some false)
    (xta_2 : PySem.W.exmOne K (.ref C1) (.ref C5) = some false)
    (xtb_2 : PySem.W.kitOne K (.ref C1) (.ref C5) = some false)
    (xta_3 : PySem.W.exmOne K (.ref C1) (.ref C4) = some false)
    (xtb_3 : PySem.W.kitOne K (.ref C1) (.ref C4) = some false)
    (xta_4 : PySem.W.exmOne K (.ref C1) (.ref C2) = some true)
    (xtb_4 : PySem.W.kitOne K (.ref C1) (.ref C2) = some true)
    (xta_5 : PySem.W.exmOne K (.ref C1) (.ref C1) = some true)
    (xtb_5 : PySem.W.kitOne K (.ref C1) (.ref C1) = some true)
    (xta_6 : PySem.W.exmOne K (.ref C1) (.ref C3) = some false)
    (xtb_6 : PySem.W.kitOne K (.ref C1) (.ref C3) = some false)
    (xtt_0 : PySem.W.kitOne K (.ref C1) (.type "ValueError") = some true)
    (xfa_0 : xfB K C1 = true)
    (xfb_0 : PySem.W.findIn K (.ref C1) "left" = some none)
    (xfa_1 : xfB K C1 = true)
    (xfb_1 : PySem.W.findIn K (.ref C1) "need" = some none)
    (xnm_0 : excB K C1 = true)
    (hm : LawHolds m_law) : ∃ fd : FuncData, (∀ (s : Shared) (u : Value), BindsTo s fd ⟨[u], []⟩ [(("script" : Str), u)]) ∧ ∀ base : Heap, K.In base → base.Ns mainGlobals mg → FnOk P w K mg base (L2N.CX P w) 9 fa fd ["script"] (spL K) := by
  have T : Top P w K mg := ⟨pAt_mk X G (fun _ _ _ _ _ _ us hl => match us, hl with | [_], _ => rfl) k_Ledger o1_Ledger o2_Ledger o3_Ledger o4_Ledger a0 pa0 pb0 pc0 l0 c0 k0,
    fnAt_mk X G (fun _ _ _ _ _ _ us hl => match us, hl with | [_], _ => rfl) a1 l1 c1 k1,
    fnAt_mk X G (fun _ _ _ _ _ _ us hl => match us, hl with | [_], _ => rfl) a2 l2 c2 k2,
    fnAt_mk X G (fun _ _ _ _ _ _ us hl => match us, hl with | [_], _ => rfl) a3 l3 c3 k3,
    fnAt_mk X G (fun _ _ _ _ _ _ us hl => match us, hl with | [_, _], _ => rfl) a4 l4 c4 k4,
    fnAt_mk X G (fun _ _ _ _ _ _ us hl => match us, hl with | [_, _], _ => rfl) a5 l5 c5 k5,
    fnAt_mk X G (fun _ _ _ _ _ _ us hl => match us, hl with | [_], _ => rfl) a6 l6 c6 k6,
    mAt_mk X G (fun _ _ _ _ _ _ us hl => match us, hl with | [_, _], _ => rfl) k_Ledger o1_Ledger o2_Ledger o3_Ledger o4_Ledger a7 i7 l7 c7 k7,
    fnAt_mk X G (fun _ _ _ _ _ _ us hl => match us, hl with | [_], _ => rfl) a8 l8 c8 k8,
    fnAt_mk X G (fun _ _ _ _ _ _ us hl => match us, hl with | [_], _ => rfl) a9 l9 c9 k9,
    fnAt_mk X G (fun _ _ _ _ _ _ us hl => match us, hl with | [_, _], _ => rfl) a10 l10 c10 k10,
    fnAt_mk X G (fun _ _ _ _ _ _ us hl => match us, hl with | [_], _ => rfl) a11 l11 c11 k11,
    fnAt_mk X G (fun _ _ _ _ _ _ us hl => match us, hl with | [_, _], _ => rfl) a12 l12 c12 k12,
    fnAt_mk X G (fun _ _ _ _ _ _ us hl => match us, hl with | [_], _ => rfl) a13 l13 c13 k13,
    fnAt_mk X G (fun _ _ _ _ _ _ us hl => match us, hl with | [_], _ => rfl) a14 l14 c14 k14,
    fnAt_mk X G (fun _ _ _ _ _ _ us hl => match us, hl with | [_, _], _ => rfl) a15 l15 c15 k15,
    fnAt_mk X G (fun _ _ _ _ _ _ us hl => match us, hl with | [_], _ => rfl) a16 l16 c16 k16,
    mAt_mk X G (fun _ _ _ _ _ _ us hl => match us, hl with | [_, _], _ => rfl) k_Ledger o1_Ledger o2_Ledger o3_Ledger o4_Ledger a17 i17 l17 c17 k17,
    mAt_mk X G (fun _ _ _ _ _ _ us hl => match us, hl with | [_, _], _ => rfl) k_Ledger o1_Ledger o2_Ledger o3_Ledger o4_Ledger a18 i18 l18 c18 k18,
    mAt_mk X G (fun _ _ _ _ _ _ us hl => match us, hl with | [_, _], _ => rfl) k_Ledger o1_Ledger o2_Ledger o3_Ledger o4_Ledger a19 i19 l19 c19 k19,
    mAt_mk X G (fun _ _ _ _ _ _ us hl => match us, hl with | [_, _], _ => rfl) k_Ledger o1_Ledger o2_Ledger o3_Ledger o4_Ledger a20 i20 l20 c20 k20,
    fnAt_mk X G (fun _ _ _ _ _ _ us hl => match us, hl with | [_, _], _ => rfl) a21 l21 c21 k21,
    fnAt_mk X G (fun _ _ _ _ _ _ us hl => match us, hl with | [_, _], _ => rfl) a22 l22 c22 k22,
    fnAt_mk X G (fun _ _ _ _ _ _ us hl => match us, hl with | [_, _], _ => rfl) a23 l23 c23 k23,
    fnAt_mk X G (fun _ _ _ _ _ _ us hl => match us, hl with | [_, _], _ => rfl) a24 l24 c24 k24,
    fnAt_mk X G (fun _ _ _ _ _ _ us hl => match us, hl with | [_, _, _], _ => rfl) a25 l25 c25 k25,
    fnAt_mk X G (fun _ _ _ _ _ _ us hl => match us, hl with | [_, _, _], _ => rfl) a26 l26 c26 k26,
    kAt_mk X G (fun _ _ _ _ _ _ us hl => match us, hl with | [_, _, _], _ => rfl) k_Ledger mk27 a27 i27 kc27 l27 c27 k27,
    mAt_mk X G (fun _ _ _ _ _ _ us hl => match us, hl with | [_, _], _ => rfl) k_Ledger o1_Ledger o2_Ledger o3_Ledger o4_Ledger a28 i28 l28 c28 k28,
    mAt_mk X G (fun _ _ _ _ _ _ us hl => match us, hl with | [_, _], _ => rfl) k_Ledger o1_Ledger o2_Ledger o3_Ledger o4_Ledger a29 i29 l29 c29 k29,
    fnAt_mk X G (fun _ _ _ _ _ _ us hl => match us, hl with | [], _ => rfl) a30 l30 c30 k30,
    fnAt_mk X G (fun _ _ _ _ _ _ us hl => match us, hl with | [_, _, _], _ => rfl) a31 l31 c31 k31,
    fnAt_mk X G (fun _ _ _ _ _ _ us hl => match us, hl with | [_], _ => rfl) a32 l32 c32 k32,
    fnAt_mk X G (fun _ _ _ _ _ _ us hl => match us, hl with | [_, _, _], _ => rfl) a33 l33 c33 k33,
    fnAt_mk X G (fun _ _ _ _ _ _ us hl => match us, hl with | [_, _, _], _ => rfl) a34 l34 c34 k34,
    fnAt_mk X G (fun _ _ _ _ _ _ us hl => match us, hl with | [_], _ => rfl) a35 l35 c35 k35,
    fnAt_mk X G (fun _ _ _ _ _ _ us hl => match us, hl with | [_, _], _ => rfl) a36 l36 c36 k36,
    fnAt_mk X G (fun _ _ _ _ _ _ us hl => match us, hl with | [_, _], _ => rfl) a37 l37 c37 k37,
    fnAt_mk X G (fun _ _ _ _ _ _ us hl => match us, hl with | [_], _ => rfl) a38 l38 c38 k38,
    (fun x fs hm => by
      simp only [xCt, List.mem_cons, List.not_mem_nil, or_false, Prod.mk.injEq] at hm
      rcases hm with ⟨rfl, rfl⟩
      · refine ⟨_, PySem.W.mg_of X G k_Ledger, ⟨o1_Ledger, o2_Ledger, o3_Ledger, o4_Ledger⟩, fun f hf => ?_⟩
        simp only [List.mem_cons, List.not_mem_nil, or_false] at hf
        rcases hf with rfl | rfl | rfl | rfl
        · exact no_Ledger_0
        · exact no_Ledger_1
        · exact no_Ledger_2
        · exact no_Ledger_3),
    PySem.W.mg_none_of X G z_range,
    PySem.W.mg_none_of X G z_int,
    PySem.W.mg_none_of X G z_len,
    PySem.W.mg_none_of X G z_tuple,
    PySem.W.mg_none_of X G z_isinstance,
    PySem.W.mg_none_of X G z_bool,
    PySem.W.mg_none_of X G z_sum,
    PySem.W.mg_none_of X G z_min,
    PySem.W.mg_none_of X G z_max,
    PySem.W.mg_none_of X G z_ValueError,
    ⟨_, PySem.W.mg_of X G k_Ledger⟩,
    ⟨_, PySem.W.mg_of X G k_NoSpace⟩,
    ⟨_, PySem.W.mg_of X G k_LandfallError⟩,
    ⟨_, PySem.W.mg_of X G k_PoolFull⟩,
    ⟨_, PySem.W.mg_of X G k_BadPromise⟩,
    ⟨_, PySem.W.mg_of X G k_BadCall⟩,
    gct (PySem.W.mg_of X G g_SPARING) gv_SPARING,
    cdt_mk (PySem.W.mg_of X G d_STEPS) ds_STEPS dl_STEPS dk_STEPS dc_STEPS,
    fun w base => exc1 (st := i_BadCall) X G ⟨k_BadCall, ⟨_, _, _, _, _, _, _, _, _, _, _, _, _, _, _, xo_0, xm_0⟩, xsa_0, xex_0, xty_0, xkp_0, xin_0, xti_0, ⟨_, _, _, _, _, _, _, _, xlk_0⟩, xcd_0, ⟨_, _, _, xce_0⟩, ⟨_, _, _, _, _, _, xco_0, xvs_0, xfi_0⟩, x_top, x_sup, x_nost, xsi_0, xmr_0, xve_0⟩ xno_0_call,
    fun w base => exc1 (st := i_BadPromise) X G ⟨k_BadPromise, ⟨_, _, _, _, _, _, _, _, _, _, _, _, _, _, _, xo_1, xm_1⟩, xsa_1, xex_1, xty_1, xkp_1, xin_1, xti_1, ⟨_, _, _, _, _, _, _, _, xlk_1⟩, xcd_1, ⟨_, _, _, xce_1⟩, ⟨_, _, _, _, _, _, xco_1, xvs_1, xfi_1⟩, x_top, x_sup, x_nost, xsi_1, xmr_1, xve_1⟩ xno_1_need,
    fun w base => exc2 (st := i_NoSpace) X G ⟨k_NoSpace, ⟨_, _, _, _, _, _, _, _, _, _, _, _, _, _, _, xo_2, xm_2⟩, xsa_2, xex_2, xty_2, xkp_2, xin_2, xti_2, ⟨_, _, _, _, _, _, _, _, xlk_2⟩, xcd_2, ⟨_, _, _, xce_2⟩, ⟨_, _, _, _, _, _, xco_2, xvs_2, xfi_2⟩, x_top, x_sup, x_nost, xsi_2, xmr_2, xve_2⟩ xno_2_need xno_2_left,
    (fun p hp => by
      simp only [xNm, List.mem_cons, List.not_mem_nil, or_false] at hp
      rcases hp with rfl
      · exact ⟨_, PySem.W.mg_of X G k_NoSpace, excB_ok xnm_0⟩),
    (fun p hp => by
      simp only [xTk, List.mem_cons, List.not_mem_nil, or_false] at hp
      rcases hp with rfl | rfl | rfl | rfl | rfl | rfl | rfl
      · exact ⟨_, _, PySem.W.mg_of X G k_BadCall, PySem.W.mg_of X G k_NoSpace, xta_0, xtb_0⟩
      · exact ⟨_, _, PySem.W.mg_of X G k_BadPromise, PySem.W.mg_of X G k_NoSpace, xta_1, xtb_1⟩
      · exact ⟨_, _, PySem.W.mg_of X G k_NoSpace, PySem.W.mg_of X G k_BadCall, xta_2, xtb_2⟩
      · exact ⟨_, _, PySem.W.mg_of X G k_NoSpace, PySem.W.mg_of X G k_BadPromise, xta_3, xtb_3⟩
      · exact ⟨_, _, PySem.W.mg_of X G k_NoSpace, PySem.W.mg_of X G k_LandfallError, xta_4, xtb_4⟩
      · exact ⟨_, _, PySem.W.mg_of X G k_NoSpace, PySem.W.mg_of X G k_NoSpace, xta_5, xtb_5⟩
      · exact ⟨_, _, PySem.W.mg_of X G k_NoSpace, PySem.W.mg_of X G k_PoolFull, xta_6, xtb_6⟩),
    (fun p hp => by
      simp only [xTt, List.mem_cons, List.not_mem_nil, or_false] at hp
      rcases hp with rfl
      · exact ⟨_, PySem.W.mg_of X G k_NoSpace, xtt_0⟩),
    (fun p hp => by
      simp only [xFt, List.mem_cons, List.not_mem_nil, or_false] at hp
      rcases hp with rfl | rfl
      · exact ⟨_, PySem.W.mg_of X G k_NoSpace, xfB_ok xfa_0, xfb_0⟩
      · exact ⟨_, PySem.W.mg_of X G k_NoSpace, xfB_ok xfa_1, xfb_1⟩)⟩
  unfold m_law at hm
  exact lawOf T.f_law hmg sc_law (fun base => bd_law T) hm
end K14
open PySem PySem.W PyProof.Rows
set_option maxRecDepth 100000 in
set_option maxHeartbeats 0 in
theorem PySem.Challenge.cw_landfall_k14_both_sides_of_a_let_holds : PySem.Challenge.rw_landfall_k14_both_sides_of_a_let.Holds := by
  w_on; o_law; k_head; (case hw => w_witness2)
  k_fill
  refine LF.law_walk (l := PySem.Challenge.rw_landfall_k14_both_sides_of_a_let) (k := 9) rfl rfl ⟨rfl, by decide, by decide⟩ (fun w h Y => PySem.W.kIn_of Y) ?F
  case F =>
    intro w mg fa h KX G hmg
    refine' K14.all_mk KX G hmg ?a0 ?pa0 ?pb0 ?pc0 ?l0 ?c0 ?k0 ?a1 ?l1 ?c1 ?k1 ?a2 ?l2 ?c2 ?k2 ?a3 ?l3 ?c3 ?k3 ?a4 ?l4 ?c4 ?k4 ?a5 ?l5 ?c5 ?k5 ?a6 ?l6 ?c6 ?k6 ?a7 ?i7 ?l7 ?c7 ?k7 ?a8 ?l8 ?c8 ?k8 ?a9 ?l9 ?c9 ?k9 ?a10 ?l10 ?c10 ?k10 ?a11 ?l11 ?c11 ?k11 ?a12 ?l12 ?c12 ?k12 ?a13 ?l13 ?c13 ?k13 ?a14 ?l14 ?c14 ?k14 ?a15 ?l15 ?c15 ?k15 ?a16 ?l16 ?c16 ?k16 ?a17 ?i17 ?l17 ?c17 ?k17 ?a18 ?i18 ?l18 ?c18 ?k18 ?a19 ?i19 ?l19 ?c19 ?k19 ?a20 ?i20 ?l20 ?c20 ?k20 ?a21 ?l21 ?c21 ?k21 ?a22 ?l22 ?c22 ?k22 ?a23 ?l23 ?c23 ?k23 ?a24 ?l24 ?c24 ?k24 ?a25 ?l25 ?c25 ?k25 ?a26 ?l26 ?c26 ?k26 ?a27 ?i27 ?mk27 ?kc27 ?l27 ?c27 ?k27 ?a28 ?i28 ?l28 ?c28 ?k28 ?a29 ?i29 ?l29 ?c29 ?k29 ?a30 ?l30 ?c30 ?k30 ?a31 ?l31 ?c31 ?k31 ?a32 ?l32 ?c32 ?k32 ?a33 ?l33 ?c33 ?k33 ?a34 ?l34 ?c34 ?k34 ?a35 ?l35 ?c35 ?k35 ?a36 ?l36 ?c36 ?k36 ?a37 ?l37 ?c37 ?k37 ?a38 ?l38 ?c38 ?k38 ?z_range ?z_int ?z_len ?z_tuple ?z_isinstance ?z_bool ?z_sum ?z_min ?z_max ?z_ValueError ?k_Ledger ?k_NoSpace ?k_LandfallError ?k_PoolFull ?k_BadPromise ?k_BadCall ?g_SPARING ?gv_SPARING ?d_STEPS ?ds_STEPS ?dl_STEPS ?dk_STEPS ?dc_STEPS ?o1_Ledger ?o2_Ledger ?o3_Ledger ?o4_Ledger ?no_Ledger_0 ?no_Ledger_1 ?no_Ledger_2 ?no_Ledger_3 ?x_sup ?x_nost ?x_top ?xo_0 ?xm_0 ?xsa_0 ?xex_0 ?xty_0 ?xkp_0 ?xin_0 ?xti_0 ?xlk_0 ?xcd_0 ?xce_0 ?xco_0 ?xvs_0 ?xfi_0 ?xsi_0 ?xmr_0 ?xve_0 ?xno_0_call ?xo_1 ?xm_1 ?xsa_1 ?xex_1 ?xty_1 ?xkp_1 ?xin_1 ?xti_1 ?xlk_1 ?xcd_1 ?xce_1 ?xco_1 ?xvs_1 ?xfi_1 ?xsi_1 ?xmr_1 ?xve_1 ?xno_1_need ?xo_2 ?xm_2 ?xsa_2 ?xex_2 ?xty_2 ?xkp_2 ?xin_2 ?xti_2 ?xlk_2 ?xcd_2 ?xce_2 ?xco_2 ?xvs_2 ?xfi_2 ?xsi_2 ?xmr_2 ?xve_2 ?xno_2_need ?xno_2_left ?xta_0 ?xtb_0 ?xta_1 ?xtb_1 ?xta_2 ?xtb_2 ?xta_3 ?xtb_3 ?xta_4 ?xtb_4 ?xta_5 ?xtb_5 ?xta_6 ?xtb_6 ?xtt_0 ?xfa_0 ?xfb_0 ?xfa_1 ?xfb_1 ?xnm_0 K14.holds
    (case k_Ledger => k_is); (case k_NoSpace => k_is); (case k_LandfallError => k_is); (case k_PoolFull => k_is); (case k_BadPromise => k_is); (case k_BadCall => k_is); (case a1 => k_is); (case l1 => k_is)
    (case c1 => k_is); (case k1 => k_is); (case a2 => k_is); (case l2 => k_is); (case c2 => k_is); (case k2 => k_is); (case a3 => k_is); (case l3 => k_is)
    (case c3 => k_is); (case k3 => k_is); (case a4 => k_is); (case l4 => k_is); (case c4 => k_is); (case k4 => k_is); (case a5 => k_is); (case l5 => k_is)
    (case c5 => k_is); (case k5 => k_is); (case a6 => k_is); (case l6 => k_is); (case c6 => k_is); (case k6 => k_is); (case a8 => k_is); (case l8 => k_is)
    (case c8 => k_is); (case k8 => k_is); (case a9 => k_is); (case l9 => k_is); (case c9 => k_is); (case k9 => k_is); (case a10 => k_is); (case l10 => k_is)
    (case c10 => k_is); (case k10 => k_is); (case a11 => k_is); (case l11 => k_is); (case c11 => k_is); (case k11 => k_is); (case a12 => k_is); (case l12 => k_is)
    (case c12 => k_is); (case k12 => k_is); (case a13 => k_is); (case l13 => k_is); (case c13 => k_is); (case k13 => k_is); (case a14 => k_is); (case l14 => k_is)
    (case c14 => k_is); (case k14 => k_is); (case a15 => k_is); (case l15 => k_is); (case c15 => k_is); (case k15 => k_is); (case a16 => k_is); (case l16 => k_is)
    (case c16 => k_is); (case k16 => k_is); (case a21 => k_is); (case l21 => k_is); (case c21 => k_is); (case k21 => k_is); (case a22 => k_is); (case l22 => k_is)
    (case c22 => k_is); (case k22 => k_is); (case a23 => k_is); (case l23 => k_is); (case c23 => k_is); (case k23 => k_is); (case a24 => k_is); (case l24 => k_is)
    (case c24 => k_is); (case k24 => k_is); (case a25 => k_is); (case l25 => k_is); (case c25 => k_is); (case k25 => k_is); (case a26 => k_is); (case l26 => k_is)
    (case c26 => k_is); (case k26 => k_is); (case a30 => k_is); (case l30 => k_is); (case c30 => k_is); (case k30 => k_is); (case a31 => k_is); (case l31 => k_is)
    (case c31 => k_is); (case k31 => k_is); (case a32 => k_is); (case l32 => k_is); (case c32 => k_is); (case k32 => k_is); (case a33 => k_is); (case l33 => k_is)
    (case c33 => k_is); (case k33 => k_is); (case a34 => k_is); (case l34 => k_is); (case c34 => k_is); (case k34 => k_is); (case a35 => k_is); (case l35 => k_is)
    (case c35 => k_is); (case k35 => k_is); (case a36 => k_is); (case l36 => k_is); (case c36 => k_is); (case k36 => k_is); (case a37 => k_is); (case l37 => k_is)
    (case c37 => k_is); (case k37 => k_is); (case a38 => k_is); (case l38 => k_is); (case c38 => k_is); (case k38 => k_is); (case z_range => k_is); (case z_int => k_is)
    (case z_len => k_is); (case z_tuple => k_is); (case z_isinstance => k_is); (case z_bool => k_is); (case z_sum => k_is); (case z_min => k_is); (case z_max => k_is); (case z_ValueError => k_is)
    (case g_SPARING => first | k_is | rfl | kernel_rfl | decide +kernel)
    (case gv_SPARING => first | k_is | rfl | kernel_rfl | decide +kernel)
    (case d_STEPS => first | k_is | rfl | kernel_rfl | decide +kernel)
    (case ds_STEPS => first | k_is | rfl | kernel_rfl | decide +kernel)
    (case dl_STEPS => first | k_is | rfl | kernel_rfl | decide +kernel)
    (case dk_STEPS => (repeat (first | exact trivial | (refine ⟨⟨_, _, rfl, rfl⟩, ?_⟩))))
    (case dc_STEPS => first | k_is | rfl | kernel_rfl | decide +kernel)
    (case a0 => first | k_is | rfl | kernel_rfl | decide +kernel)
    (case pa0 => first | k_is | rfl | kernel_rfl | decide +kernel)
    (case pb0 => first | k_is | rfl | kernel_rfl | decide +kernel)
    (case pc0 => first | k_is | rfl | kernel_rfl | decide +kernel)
    (case l0 => first | k_is | rfl | kernel_rfl | decide +kernel)
    (case c0 => first | k_is | rfl | kernel_rfl | decide +kernel)
    (case k0 => first | k_is | rfl | kernel_rfl | decide +kernel)
    (case a7 => first | k_is | rfl | kernel_rfl | decide +kernel)
    (case i7 => first | k_is | rfl | kernel_rfl | decide +kernel)
    (case l7 => first | k_is | rfl | kernel_rfl | decide +kernel)
    (case c7 => first | k_is | rfl | kernel_rfl | decide +kernel)
    (case k7 => first | k_is | rfl | kernel_rfl | decide +kernel)
    (case a17 => first | k_is | rfl | kernel_rfl | decide +kernel)
    (case i17 => first | k_is | rfl | kernel_rfl | decide +kernel)
    (case l17 => first | k_is | rfl | kernel_rfl | decide +kernel)
    (case c17 => first | k_is | rfl | kernel_rfl | decide +kernel)
    (case k17 => first | k_is | rfl | kernel_rfl | decide +kernel)
    (case a18 => first | k_is | rfl | kernel_rfl | decide +kernel)
    (case i18 => first | k_is | rfl | kernel_rfl | decide +kernel)
    (case l18 => first | k_is | rfl | kernel_rfl | decide +kernel)
    (case c18 => first | k_is | rfl | kernel_rfl | decide +kernel)
    (case k18 => first | k_is | rfl | kernel_rfl | decide +kernel)
    (case a19 => first | k_is | rfl | kernel_rfl | decide +kernel)
    (case i19 => first | k_is | rfl | kernel_rfl | decide +kernel)
    (case l19 => first | k_is | rfl | kernel_rfl | decide +kernel)
    (case c19 => first | k_is | rfl | kernel_rfl | decide +kernel)
    (case k19 => first | k_is | rfl | kernel_rfl | decide +kernel)
    (case a20 => first | k_is | rfl | kernel_rfl | decide +kernel)
    (case i20 => first | k_is | rfl | kernel_rfl | decide +kernel)
    (case l20 => first | k_is | rfl | kernel_rfl | decide +kernel)
    (case c20 => first | k_is | rfl | kernel_rfl | decide +kernel)
    (case k20 => first | k_is | rfl | kernel_rfl | decide +kernel)
    (case a27 => first | k_is | rfl | kernel_rfl | decide +kernel)
    (case i27 => first | k_is | rfl | kernel_rfl | decide +kernel)
    (case mk27 => first | k_is | rfl | kernel_rfl | decide +kernel)
    (case kc27 => first | k_is | rfl | kernel_rfl | decide +kernel)
    (case l27 => first | k_is | rfl | kernel_rfl | decide +kernel)
    (case c27 => first | k_is | rfl | kernel_rfl | decide +kernel)
    (case k27 => first | k_is | rfl | kernel_rfl | decide +kernel)
    (case a28 => first | k_is | rfl | kernel_rfl | decide +kernel)
    (case i28 => first | k_is | rfl | kernel_rfl | decide +kernel)
    (case l28 => first | k_is | rfl | kernel_rfl | decide +kernel)
    (case c28 => first | k_is | rfl | kernel_rfl | decide +kernel)
    (case k28 => first | k_is | rfl | kernel_rfl | decide +kernel)
    (case a29 => first | k_is | rfl | kernel_rfl | decide +kernel)
    (case i29 => first | k_is | rfl | kernel_rfl | decide +kernel)
    (case l29 => first | k_is | rfl | kernel_rfl | decide +kernel)
    (case c29 => first | k_is | rfl | kernel_rfl | decide +kernel)
    (case k29 => first | k_is | rfl | kernel_rfl | decide +kernel)
    (case o1_Ledger => first | k_is | rfl | kernel_rfl | decide +kernel)
    (case o2_Ledger => first | k_is | rfl | kernel_rfl | decide +kernel)
    (case o3_Ledger => first | k_is | rfl | kernel_rfl | decide +kernel)
    (case o4_Ledger => first | k_is | rfl | kernel_rfl | decide +kernel)
    (case no_Ledger_0 => first | k_is | rfl | kernel_rfl | decide +kernel)
    (case no_Ledger_1 => first | k_is | rfl | kernel_rfl | decide +kernel)
    (case no_Ledger_2 => first | k_is | rfl | kernel_rfl | decide +kernel)
    (case no_Ledger_3 => first | k_is | rfl | kernel_rfl | decide +kernel)
    (case x_sup => first | k_is | rfl | kernel_rfl | decide +kernel)
    (case x_nost => first | k_is | rfl | kernel_rfl | decide +kernel)
    (case x_top => first | k_is | rfl | kernel_rfl | decide +kernel)
    (case xo_0 => first | k_is | rfl | kernel_rfl | decide +kernel)
    (case xm_0 => first | k_is | rfl | kernel_rfl | decide +kernel)
    (case xsa_0 => first | k_is | rfl | kernel_rfl | decide +kernel)
    (case xex_0 => first | k_is | rfl | kernel_rfl | decide +kernel)
    (case xty_0 => first | k_is | rfl | kernel_rfl | decide +kernel)
    (case xkp_0 => first | k_is | rfl | kernel_rfl | decide +kernel)
    (case xin_0 => first | k_is | rfl | kernel_rfl | decide +kernel)
    (case xti_0 => first | k_is | rfl | kernel_rfl | decide +kernel)
    (case xlk_0 => first | k_is | rfl | kernel_rfl | decide +kernel)
    (case xcd_0 => first | k_is | rfl | kernel_rfl | decide +kernel)
    (case xce_0 => first | k_is | rfl | kernel_rfl | decide +kernel)
    (case xco_0 => first | k_is | rfl | kernel_rfl | decide +kernel)
    (case xvs_0 => first | k_is | rfl | kernel_rfl | decide +kernel)
    (case xfi_0 => first | k_is | rfl | kernel_rfl | decide +kernel)
    (case xsi_0 => first | k_is | rfl | kernel_rfl | decide +kernel)
    (case xmr_0 => first | k_is | rfl | kernel_rfl | decide +kernel)
    (case xve_0 => first | k_is | rfl | kernel_rfl | decide +kernel)
    (case xno_0_call => first | k_is | rfl | kernel_rfl | decide +kernel)
    (case xo_1 => first | k_is | rfl | kernel_rfl | decide +kernel)
    (case xm_1 => first | k_is | rfl | kernel_rfl | decide +kernel)
    (case xsa_1 => first | k_is | rfl | kernel_rfl | decide +kernel)
    (case xex_1 => first | k_is | rfl | kernel_rfl | decide +kernel)
    (case xty_1 => first | k_is | rfl | kernel_rfl | decide +kernel)
    (case xkp_1 => first | k_is | rfl | kernel_rfl | decide +kernel)
    (case xin_1 => first | k_is | rfl | kernel_rfl | decide +kernel)
    (case xti_1 => first | k_is | rfl | kernel_rfl | decide +kernel)
    (case xlk_1 => first | k_is | rfl | kernel_rfl | decide +kernel)
    (case xcd_1 => first | k_is | rfl | kernel_rfl | decide +kernel)
    (case xce_1 => first | k_is | rfl | kernel_rfl | decide +kernel)
    (case xco_1 => first | k_is | rfl | kernel_rfl | decide +kernel)
    (case xvs_1 => first | k_is | rfl | kernel_rfl | decide +kernel)
    (case xfi_1 => first | k_is | rfl | kernel_rfl | decide +kernel)
    (case xsi_1 => first | k_is | rfl | kernel_rfl | decide +kernel)
    (case xmr_1 => first | k_is | rfl | kernel_rfl | decide +kernel)
    (case xve_1 => first | k_is | rfl | kernel_rfl | decide +kernel)
    (case xno_1_need => first | k_is | rfl | kernel_rfl | decide +kernel)
    (case xo_2 => first | k_is | rfl | kernel_rfl | decide +kernel)
    (case xm_2 => first | k_is | rfl | kernel_rfl | decide +kernel)
    (case xsa_2 => first | k_is | rfl | kernel_rfl | decide +kernel)
    (case xex_2 => first | k_is | rfl | kernel_rfl | decide +kernel)
    (case xty_2 => first | k_is | rfl | kernel_rfl | decide +kernel)
    (case xkp_2 => first | k_is | rfl | kernel_rfl | decide +kernel)
    (case xin_2 => first | k_is | rfl | kernel_rfl | decide +kernel)
    (case xti_2 => first | k_is | rfl | kernel_rfl | decide +kernel)
    (case xlk_2 => first | k_is | rfl | kernel_rfl | decide +kernel)
    (case xcd_2 => first | k_is | rfl | kernel_rfl | decide +kernel)
    (case xce_2 => first | k_is | rfl | kernel_rfl | decide +kernel)
    (case xco_2 => first | k_is | rfl | kernel_rfl | decide +kernel)
    (case xvs_2 => first | k_is | rfl | kernel_rfl | decide +kernel)
    (case xfi_2 => first | k_is | rfl | kernel_rfl | decide +kernel)
    (case xsi_2 => first | k_is | rfl | kernel_rfl | decide +kernel)
    (case xmr_2 => first | k_is | rfl | kernel_rfl | decide +kernel)
    (case xve_2 => first | k_is | rfl | kernel_rfl | decide +kernel)
    (case xno_2_need => first | k_is | rfl | kernel_rfl | decide +kernel)
    (case xno_2_left => first | k_is | rfl | kernel_rfl | decide +kernel)
    (case xta_0 => first | k_is | rfl | kernel_rfl | decide +kernel)
    (case xtb_0 => first | k_is | rfl | kernel_rfl | decide +kernel)
    (case xta_1 => first | k_is | rfl | kernel_rfl | decide +kernel)
    (case xtb_1 => first | k_is | rfl | kernel_rfl | decide +kernel)
    (case xta_2 => first | k_is | rfl | kernel_rfl | decide +kernel)
    (case xtb_2 => first | k_is | rfl | kernel_rfl | decide +kernel)
    (case xta_3 => first | k_is | rfl | kernel_rfl | decide +kernel)
    (case xtb_3 => first | k_is | rfl | kernel_rfl | decide +kernel)
    (case xta_4 => first | k_is | rfl | kernel_rfl | decide +kernel)
    (case xtb_4 => first | k_is | rfl | kernel_rfl | decide +kernel)
    (case xta_5 => first | k_is | rfl | kernel_rfl | decide +kernel)
    (case xtb_5 => first | k_is | rfl | kernel_rfl | decide +kernel)
    (case xta_6 => first | k_is | rfl | kernel_rfl | decide +kernel)
    (case xtb_6 => first | k_is | rfl | kernel_rfl | decide +kernel)
    (case xtt_0 => first | k_is | rfl | kernel_rfl | decide +kernel)
    (case xfa_0 => first | k_is | rfl | kernel_rfl | decide +kernel)
    (case xfb_0 => first | k_is | rfl | kernel_rfl | decide +kernel)
    (case xfa_1 => first | k_is | rfl | kernel_rfl | decide +kernel)
    (case xfb_1 => first | k_is | rfl | kernel_rfl | decide +kernel)
    (case xnm_0 => first | k_is | rfl | kernel_rfl | decide +kernel)
