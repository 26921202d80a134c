import PyProof.Rows.All
import Wide.All
import OpenK.AllK
import Wide.FinOn
import HandS.ForMost
import HandS.ForExc
import HandS.Flow
import HandS.Wide
import HandS.IsInst
import HandS.ExcField
import HandS.ExcIs
import HandS.CallSlots
import HandS.TryMany
import HandS.Codes
import HandS.HotCalls
import HandS.ExcInitHot
import HandS.TupAny
import HandS.EndBits
import KE.KExcSuper
import HandS.ExcInit
import HandS.Nested
import HandS.TryOnly
import HandS.StrMore
import HandS.Replace
import HandS.More
import HandS.Text
import HandS.Zip
import HandS.Strs
import HandS.Property
import HandS.Dict
import HandS.Style
import PySem.Challenge.RW_landfall_k06_power_limit
set_option Elab.async false
set_option linter.all false
set_option maxRecDepth 100000
set_option maxHeartbeats 4000000
/-! LF0: a plain machine over data and a list of objects; what it means that a judgement of the hand layer runs it. -/
namespace LF
open PySem PySem.Spec L2
open PyProof.Rows hiding St

/-! ### data, objects, results -/
inductive D where
  | non | bl (b : Bool) | int (i : Int) | str (x : Str)
  | tup (xs : List D) | ct (xs : List D) | cl (xs : List D) | loc (l : Nat) | ty (n : String) | cls (x : Str)
inductive O where
  | lst (xs : List D)
  | dK (kvs : List (Key × D))
  | dT (kvs : List (List Key × D))
  | ins (x : Str) (fs : List (Str × D))
abbrev M := List O
inductive Res (α : Type) where
  | ok (a : α) (h : M)
  | exc (x : Str) (ns : List Str) (vs : List D) (h : M)
  | stuck
def Res.bind {α β : Type} (r : Res α) (k : α → M → Res β) : Res β :=
  match r with
  | .ok a h => k a h
  | .exc x ns vs h => .exc x ns vs h
  | .stuck => .stuck
@[simp] theorem bind_ok {α β : Type} {a : α} {h : M} {k : α → M → Res β} : (Res.ok a h).bind k = k a h := (rfl)
@[simp] theorem bind_exc {α β : Type} {x ns vs} {h : M} {k : α → M → Res β} : (Res.exc x ns vs h).bind k = .exc x ns vs h := (rfl)
@[simp] theorem bind_stuck {α β : Type} {k : α → M → Res β} : (Res.stuck : Res α).bind k = .stuck := (rfl)
/-- a slot: nothing yet, a value, the exception that is handled -/
inductive Sl where
  | no | va (d : D) | ex
abbrev En := List Sl
abbrev ME := En → M → Res D
abbrev MA := En → M → Res (List D)
abbrev MT := En → M → Res Bool
inductive SR where
  | nx (env : En) (h : M) | rt (d : D) (h : M) | bk (env : En) (h : M) | ct (env : En) (h : M)
  | exc (x : Str) (ns : List Str) (vs : List D) (env : En) (h : M) | stuck
abbrev MS := En → M → SR

/-! ### how data stand in the abstract heap -/
structure Wo where
  K : PySem.W.Frag
  mg : Str → Option Value
def SqLP (K : PySem.W.Frag) (H : Hp) (a : Addr) (xs : List V) : Prop :=
  (∃ o, H a = some (.frz o (.lst xs))) ∨
    ∃ (o : Obj) (its : Array Value) (n : Nat), K.lookup a = some o ∧ o.cls = .type "list" ∧ o.dict = none ∧ o.data = .seq its n ∧ its.size ≤ sizeLine ∧ Vals xs its.toList
theorem SqLP.sq {K : PySem.W.Frag} {H : Hp} {a : Addr} {xs : List V} (h : SqLP K H a xs) : SqL K H a xs := by
  rcases h with h | h
  · exact .inl (.inr h)
  · exact .inr h
def SqTP (K : PySem.W.Frag) (a : Addr) (xs : List V) : Prop :=
  ∃ (o : Obj) (its : Array Value) (n : Nat), K.lookup a = some o ∧ o.cls = .type "tuple" ∧ o.data = .seq its n ∧ its.size ≤ sizeLine ∧ Vals xs its.toList
def Fix : HO → Prop
  | .tup _ => True
  | .frz _ _ => True
  | .xd _ => True
  | _ => False
def Keep (H H' : Hp) : Prop := ∀ a o, H a = some o → Fix o → H' a = some o
theorem Keep.refl (H : Hp) : Keep H H := fun _ _ h _ => h
theorem Keep.trans {H H1 H2 : Hp} (a : Keep H H1) (b : Keep H1 H2) : Keep H H2 := fun c o h f => b c o (a c o h f) f
theorem Keep.of_same {H H' : Hp} (s : Same H H') : Keep H H' := fun a o h _ => s a o h
theorem same_upd {H : Hp} {p : Addr} {o : HO} (h : H p = none) : Same H (upd H p o) := fun b x e => by
  rw [upd_ne (ne_of_none e h)]; exact e
theorem Keep.tup {K : PySem.W.Frag} {H H' : Hp} {a : Addr} {xs : List V} (k : Keep H H') (h : SqT K H a xs) : SqT K H' a xs := by
  rcases h with (h | ⟨o, h⟩) | h
  · exact .inl (.inl (k _ _ h trivial))
  · exact .inl (.inr ⟨o, k _ _ h trivial⟩)
  · exact .inr h
theorem Keep.sqlp {K : PySem.W.Frag} {H H' : Hp} {a : Addr} {xs : List V} (k : Keep H H') (h : SqLP K H a xs) : SqLP K H' a xs := by
  rcases h with ⟨o, h⟩ | h
  · exact .inl ⟨o, k _ _ h trivial⟩
  · exact .inr h

mutual
def RV (G : Wo) (ι : List Addr) (H : Hp) : D → V → Prop
  | .non, v => v = .non
  | .bl b, v => v = .bl b
  | .int i, v => v = .int i
  | .str x, v => v = .str x
  | .tup xs, v => ∃ a vs, v = .ref a ∧ H a = some (.tup vs) ∧ RVs G ι H xs vs
  | .ct xs, v => ∃ a vs, v = .ref a ∧ SqTP G.K a vs ∧ RVs G ι H xs vs
  | .cl xs, v => ∃ a vs, v = .ref a ∧ SqLP G.K H a vs ∧ RVs G ι H xs vs
  | .loc l, v => ∃ a, v = .ref a ∧ ι[l]? = some a
  | .ty n, v => v = .ty n
  | .cls x, v => ∃ a, v = .ref a ∧ G.mg x = some (.ref a)
def RVs (G : Wo) (ι : List Addr) (H : Hp) : List D → List V → Prop
  | [], vs => vs = []
  | x :: xs, vs => ∃ v r, vs = v :: r ∧ RV G ι H x v ∧ RVs G ι H xs r
end

theorem pre_get {ι ι' : List Addr} (p : ι <+: ι') {l : Nat} {a : Addr} (h : ι[l]? = some a) : ι'[l]? = some a := by
  obtain ⟨t, rfl⟩ := p
  have hl : l < ι.length := (List.getElem?_eq_some_iff.mp h).1
  rw [List.getElem?_append_left hl]; exact h

mutual
theorem RV.mono {G : Wo} {ι ι' : List Addr} {H H' : Hp} (p : ι <+: ι') (k : Keep H H') : ∀ (d : D) (v : V), RV G ι H d v → RV G ι' H' d v
  | .non, _, h => h
  | .bl _, _, h => h
  | .int _, _, h => h
  | .str _, _, h => h
  | .tup xs, _, h => by
    simp only [RV] at h ⊢
    obtain ⟨a, vs, e, q, r⟩ := h
    exact ⟨a, vs, e, k _ _ q trivial, RVs.mono p k xs vs r⟩
  | .ct xs, _, h => by
    simp only [RV] at h ⊢
    obtain ⟨a, vs, e, q, r⟩ := h
    exact ⟨a, vs, e, q, RVs.mono p k xs vs r⟩
  | .cl xs, _, h => by
    simp only [RV] at h ⊢
    obtain ⟨a, vs, e, q, r⟩ := h
    exact ⟨a, vs, e, k.sqlp q, RVs.mono p k xs vs r⟩
  | .loc l, _, h => by
    simp only [RV] at h ⊢
    obtain ⟨a, e, q⟩ := h
    exact ⟨a, e, pre_get p q⟩
  | .ty _, _, h => h
  | .cls _, _, h => h
theorem RVs.mono {G : Wo} {ι ι' : List Addr} {H H' : Hp} (p : ι <+: ι') (k : Keep H H') : ∀ (xs : List D) (vs : List V), RVs G ι H xs vs → RVs G ι' H' xs vs
  | [], _, h => h
  | x :: xs, _, h => by
    simp only [RVs] at h ⊢
    obtain ⟨v, r, e, h1, h2⟩ := h
    exact ⟨v, r, e, RV.mono p k x v h1, RVs.mono p k xs r h2⟩
end
theorem RVs.length {G : Wo} {ι : List Addr} {H : Hp} : ∀ {xs : List D} {vs : List V}, RVs G ι H xs vs → xs.length = vs.length
  | [], vs, h => by simp only [RVs] at h; subst h; rfl
  | x :: xs, vs, h => by
    simp only [RVs] at h
    obtain ⟨v, r, rfl, _, h2⟩ := h
    simp [RVs.length h2]
theorem RVs.get {G : Wo} {ι : List Addr} {H : Hp} : ∀ {xs : List D} {vs : List V} {i : Nat} {d : D}, RVs G ι H xs vs → xs[i]? = some d → ∃ v, vs[i]? = some v ∧ RV G ι H d v
  | [], _, _, _, _, e => by simp at e
  | x :: xs, vs, 0, d, h, e => by
    simp only [RVs] at h
    obtain ⟨v, r, rfl, h1, h2⟩ := h
    simp at e; subst e
    exact ⟨v, rfl, h1⟩
  | x :: xs, vs, i + 1, d, h, e => by
    simp only [RVs] at h
    obtain ⟨v, r, rfl, h1, h2⟩ := h
    simpa using RVs.get (i := i) h2 (by simpa using e)
theorem RVs.getV {G : Wo} {ι : List Addr} {H : Hp} : ∀ {xs : List D} {vs : List V} {i : Nat} {v : V}, RVs G ι H xs vs → vs[i]? = some v → ∃ d, xs[i]? = some d ∧ RV G ι H d v
  | [], vs, i, v, h, e => by simp only [RVs] at h; subst h; simp at e
  | x :: xs, vs, 0, v, h, e => by
    simp only [RVs] at h
    obtain ⟨w, r, rfl, h1, h2⟩ := h
    simp at e; subst e
    exact ⟨x, rfl, h1⟩
  | x :: xs, vs, i + 1, v, h, e => by
    simp only [RVs] at h
    obtain ⟨w, r, rfl, h1, h2⟩ := h
    simpa using RVs.getV (i := i) h2 (by simpa using e)
theorem RVs.append {G : Wo} {ι : List Addr} {H : Hp} : ∀ {xs ys : List D} {vs ws : List V}, RVs G ι H xs vs → RVs G ι H ys ws → RVs G ι H (xs ++ ys) (vs ++ ws)
  | [], ys, vs, ws, h, h2 => by simp only [RVs] at h; subst h; exact h2
  | x :: xs, ys, vs, ws, h, h2 => by
    simp only [RVs] at h
    obtain ⟨w, r, rfl, h1, h3⟩ := h
    show RVs G ι H (x :: (xs ++ ys)) _
    simp only [RVs]
    exact ⟨w, r ++ ws, rfl, h1, RVs.append h3 h2⟩
theorem RVs.take {G : Wo} {ι : List Addr} {H : Hp} : ∀ (n : Nat) {xs : List D} {vs : List V}, RVs G ι H xs vs → RVs G ι H (xs.take n) (vs.take n)
  | 0, xs, vs, h => by simp [RVs]
  | n + 1, [], vs, h => by simp only [RVs] at h; subst h; simp [RVs]
  | n + 1, x :: xs, vs, h => by
    simp only [RVs] at h
    obtain ⟨w, r, rfl, h1, h3⟩ := h
    simp only [List.take_succ_cons, RVs]
    exact ⟨w, _, rfl, h1, RVs.take n h3⟩
theorem RVs.drop {G : Wo} {ι : List Addr} {H : Hp} : ∀ (n : Nat) {xs : List D} {vs : List V}, RVs G ι H xs vs → RVs G ι H (xs.drop n) (vs.drop n)
  | 0, xs, vs, h => by simpa using h
  | n + 1, [], vs, h => by simp only [RVs] at h; subst h; simp [RVs]
  | n + 1, x :: xs, vs, h => by
    simp only [RVs] at h
    obtain ⟨w, r, rfl, h1, h3⟩ := h
    simpa using RVs.drop n h3
theorem RVs.set {G : Wo} {ι : List Addr} {H : Hp} : ∀ {xs : List D} {vs : List V} (i : Nat) {d : D} {v : V}, RVs G ι H xs vs → RV G ι H d v → RVs G ι H (xs.set i d) (vs.set i v)
  | [], vs, i, d, v, h, r => by simp only [RVs] at h; subst h; simp [RVs]
  | x :: xs, vs, 0, d, v, h, r => by
    simp only [RVs] at h
    obtain ⟨w, q, rfl, h1, h3⟩ := h
    simp only [List.set_cons_zero, RVs]
    exact ⟨v, q, rfl, r, h3⟩
  | x :: xs, vs, i + 1, d, v, h, r => by
    simp only [RVs] at h
    obtain ⟨w, q, rfl, h1, h3⟩ := h
    simp only [List.set_cons_succ, RVs]
    exact ⟨w, _, rfl, h1, RVs.set i h3 r⟩
theorem RVs.one {G : Wo} {ι : List Addr} {H : Hp} {d : D} {v : V} (h : RV G ι H d v) : RVs G ι H [d] [v] := by
  simp only [RVs]; exact ⟨v, [], rfl, h, rfl⟩
theorem RVs.nil {G : Wo} {ι : List Addr} {H : Hp} : RVs G ι H [] [] := by simp [RVs]
theorem RVs.cons {G : Wo} {ι : List Addr} {H : Hp} {d : D} {v : V} {xs : List D} {vs : List V} (h : RV G ι H d v) (t : RVs G ι H xs vs) : RVs G ι H (d :: xs) (v :: vs) := by
  simp only [RVs]; exact ⟨v, vs, rfl, h, t⟩
/-- pairs by keys -/
def RKs {κ : Type} (G : Wo) (ι : List Addr) (H : Hp) (kvs : List (κ × D)) (kws : List (κ × V)) : Prop := kvs.map (·.1) = kws.map (·.1) ∧ RVs G ι H (kvs.map (·.2)) (kws.map (·.2))
theorem RKs.mono {κ : Type} {G : Wo} {ι ι' : List Addr} {H H' : Hp} (p : ι <+: ι') (k : Keep H H') {kvs : List (κ × D)} {kws : List (κ × V)} (h : RKs G ι H kvs kws) : RKs G ι' H' kvs kws :=
  ⟨h.1, RVs.mono p k _ _ h.2⟩
def RO (G : Wo) (ι : List Addr) (H : Hp) (a : Addr) : O → Prop
  | .lst xs => ∃ vs, H a = some (.lst vs) ∧ RVs G ι H xs vs
  | .dK kvs => ∃ kws, H a = some (.dK kws) ∧ RKs G ι H kvs kws
  | .dT kvs => ∃ kws, H a = some (.dT kws) ∧ RKs G ι H kvs kws
  | .ins x fs => ∃ C dx fvs, G.mg x = some (.ref C) ∧ H a = some (.ins C dx fvs) ∧ RKs G ι H fs fvs
theorem RO.there {G : Wo} {ι : List Addr} {H : Hp} {a : Addr} {o : O} (h : RO G ι H a o) : ∃ u, H a = some u ∧ ¬ Fix u ∧ Mut (some u) := by
  cases o with
  | lst xs => obtain ⟨vs, e, _⟩ := h; exact ⟨_, e, fun z => z, trivial⟩
  | dK xs => obtain ⟨vs, e, _⟩ := h; exact ⟨_, e, fun z => z, trivial⟩
  | dT xs => obtain ⟨vs, e, _⟩ := h; exact ⟨_, e, fun z => z, trivial⟩
  | ins x fs => obtain ⟨C, dx, fvs, _, e, _⟩ := h; exact ⟨_, e, fun z => z, trivial⟩
/-- the object stands as it stood -/
theorem RO.stay {G : Wo} {ι ι' : List Addr} {H H' : Hp} {a : Addr} {o : O} (h : RO G ι H a o) (p : ι <+: ι') (k : Keep H H') (e : ∀ u, H a = some u → H' a = some u) : RO G ι' H' a o := by
  cases o with
  | lst xs => obtain ⟨vs, q, r⟩ := h; exact ⟨vs, e _ q, RVs.mono p k _ _ r⟩
  | dK xs => obtain ⟨vs, q, r⟩ := h; exact ⟨vs, e _ q, r.mono p k⟩
  | dT xs => obtain ⟨vs, q, r⟩ := h; exact ⟨vs, e _ q, r.mono p k⟩
  | ins x fs => obtain ⟨C, dx, fvs, g, q, r⟩ := h; exact ⟨C, dx, fvs, g, e _ q, r.mono p k⟩

structure Rel (G : Wo) (ι : List Addr) (H : Hp) (h : M) : Prop where
  len : ι.length = h.length
  inj : ∀ (i j : Nat) (a : Addr), ι[i]? = some a → ι[j]? = some a → i = j
  ok : ∀ (l : Nat) (o : O), h[l]? = some o → ∃ a, ι[l]? = some a ∧ RO G ι H a o
theorem Rel.at {G : Wo} {ι : List Addr} {H : Hp} {h : M} (r : Rel G ι H h) {l : Nat} {a : Addr} {o : O} (e : h[l]? = some o) (ea : ι[l]? = some a) : RO G ι H a o := by
  obtain ⟨b, eb, q⟩ := r.ok l o e
  rw [ea] at eb; cases eb; exact q
/-- all objects stand as they stood -/
theorem Rel.same {G : Wo} {ι : List Addr} {H H' : Hp} {h : M} (r : Rel G ι H h) (s : Same H H') : Rel G ι H' h :=
  ⟨r.len, r.inj, fun l o e => let ⟨a, ea, q⟩ := r.ok l o e; ⟨a, ea, q.stay (List.prefix_refl _) (Keep.of_same s) (fun u z => s _ _ z)⟩⟩
theorem Rel.tracked {G : Wo} {ι : List Addr} {H : Hp} {h : M} (r : Rel G ι H h) {l : Nat} {a : Addr} (e : ι[l]? = some a) : ∃ u, H a = some u ∧ ¬ Fix u ∧ Mut (some u) := by
  have hl : l < h.length := by rw [← r.len]; exact (List.getElem?_eq_some_iff.mp e).1
  exact (r.at (List.getElem?_eq_getElem hl) e).there
/-- a new object -/
theorem Rel.push {G : Wo} {ι : List Addr} {H : Hp} {h : M} (r : Rel G ι H h) {p : Addr} {o : O} {u : HO} (hp : H p = none) (ro : RO G (ι ++ [p]) (upd H p u) p o) : Rel G (ι ++ [p]) (upd H p u) (h ++ [o]) := by
  have pre : ι <+: ι ++ [p] := List.prefix_append ..
  have s : Same H (upd H p u) := same_upd hp
  refine ⟨by simp [r.len], fun i j a ei ej => ?_, fun l o' e => ?_⟩
  · have key : ∀ (k : Nat), (ι ++ [p])[k]? = some a → (k < ι.length ∧ ι[k]? = some a) ∨ (k = ι.length ∧ a = p) := fun k ek => by
      by_cases hk : k < ι.length
      · rw [List.getElem?_append_left hk] at ek; exact .inl ⟨hk, ek⟩
      · have hk2 : k < (ι ++ [p]).length := (List.getElem?_eq_some_iff.mp ek).1
        have hk3 : k = ι.length := by simp at hk2; omega
        subst hk3
        simp at ek
        exact .inr ⟨rfl, ek.symm⟩
    have np : ∀ (k : Nat), ι[k]? = some a → a ≠ p := fun k ek z => by
      obtain ⟨u', e', _⟩ := r.tracked ek
      rw [z, hp] at e'; cases e'
    rcases key i ei with ⟨_, a1⟩ | ⟨a1, a2⟩
    · rcases key j ej with ⟨_, b1⟩ | ⟨b1, b2⟩
      · exact r.inj i j a a1 b1
      · exact absurd b2 (np i a1)
    · rcases key j ej with ⟨_, b1⟩ | ⟨b1, b2⟩
      · exact absurd a2 (np j b1)
      · rw [a1, b1]
  · by_cases hl : l < h.length
    · rw [List.getElem?_append_left hl] at e
      obtain ⟨a, ea, q⟩ := r.ok l o' e
      exact ⟨a, pre_get pre ea, q.stay pre (Keep.of_same s) fun u z => s _ _ z⟩
    · have hk2 : l < (h ++ [o]).length := (List.getElem?_eq_some_iff.mp e).1
      have hk3 : l = h.length := by simp at hk2; omega
      subst hk3
      simp at e; subst e
      exact ⟨p, by rw [← r.len]; simp, ro⟩
/-- an object changed -/
theorem Rel.write {G : Wo} {ι : List Addr} {H : Hp} {h : M} (r : Rel G ι H h) {l : Nat} {a : Addr} {o : O} {u : HO} (ea : ι[l]? = some a) (ro : RO G ι (upd H a u) a o) : Rel G ι (upd H a u) (h.set l o) ∧ Keep H (upd H a u) := by
  obtain ⟨u0, e0, nf, mu⟩ := r.tracked ea
  have kp : Keep H (upd H a u) := fun b o' eb f => by
    have : b ≠ a := fun z => by rw [z, e0] at eb; cases eb; exact nf f
    rw [upd_ne this]; exact eb
  refine ⟨⟨by simp [r.len], r.inj, fun k o' e => ?_⟩, kp⟩
  have hk : k < h.length := by have := (List.getElem?_eq_some_iff.mp e).1; simpa using this
  by_cases hkl : k = l
  · subst hkl
    rw [List.getElem?_set_self hk] at e
    cases e
    exact ⟨a, ea, ro⟩
  · rw [List.getElem?_set_ne (Ne.symm hkl)] at e
    obtain ⟨b, eb, q⟩ := r.ok k o' e
    have nb : b ≠ a := fun z => by subst z; exact hkl (r.inj k l _ eb ea)
    exact ⟨b, eb, q.stay (List.prefix_refl _) kp fun u' z => by rw [upd_ne nb]; exact z⟩

/-! ### slots -/
/-- an exception as it lies behind a raise -/
def XF (G : Wo) (ι : List Addr) (H : Hp) (d : Option Addr) (ns : List Str) (xs : List D) : Prop :=
  ns.length = xs.length ∧ ∃ vs, ((ns = [] ∧ d = none) ∨ ∃ dd, d = some dd ∧ H dd = some (.xd (ns.zip vs))) ∧ RVs G ι H xs vs
theorem XF.mono {G : Wo} {ι ι' : List Addr} {H H' : Hp} {d : Option Addr} {ns : List Str} {xs : List D} (h : XF G ι H d ns xs) (p : ι <+: ι') (k : Keep H H') : XF G ι' H' d ns xs := by
  obtain ⟨e, vs, q, r⟩ := h
  refine ⟨e, vs, ?_, RVs.mono p k _ _ r⟩
  rcases q with q | ⟨dd, q1, q2⟩
  · exact .inl q
  · exact .inr ⟨dd, q1, k _ _ q2 trivial⟩
/-- the exception that is handled: its address, its class, its dict; what it is to the machine -/
abbrev Ex := Option ((Addr × Value × Option Addr) × Str × List Str × List D)
structure REn (G : Wo) (ex : Ex) (ι : List Addr) (H : Hp) (env : En) (σ : St) : Prop where
  len : env.length = σ.length
  at_ : ∀ (i : Nat) (d : D), env[i]? = some (.va d) → ∃ v, σ[i]? = some (some v) ∧ RV G ι H d v
  atx : ∀ (i : Nat), env[i]? = some .ex → ∃ a c, ex = some c ∧ c.1.1 = a ∧ σ[i]? = some (some (.ref a))
  exk : ∀ c, ex = some c → ∃ C, c.1.2.1 = .ref C ∧ G.mg c.2.1 = some (.ref C) ∧ XF G ι H c.1.2.2 c.2.2.1 c.2.2.2
theorem REn.mono {G : Wo} {ex : Ex} {ι ι' : List Addr} {H H' : Hp} {env : En} {σ : St} (r : REn G ex ι H env σ) (p : ι <+: ι') (k : Keep H H') : REn G ex ι' H' env σ :=
  ⟨r.len, fun i d e => let ⟨v, e1, q⟩ := r.at_ i d e; ⟨v, e1, RV.mono p k d v q⟩, r.atx, fun c e => let ⟨C, h1, h2, h3⟩ := r.exk c e; ⟨C, h1, h2, h3.mono p k⟩⟩
theorem REn.set {G : Wo} {ex : Ex} {ι : List Addr} {H : Hp} {env : En} {σ : St} (r : REn G ex ι H env σ) (i : Nat) {d : D} {v : V} (q : RV G ι H d v) : REn G ex ι H (env.set i (.va d)) (σ.set i (some v)) := by
  refine ⟨by simp [r.len], fun j d' e => ?_, fun j e => ?_, r.exk⟩
  · have hj : j < env.length := by have := (List.getElem?_eq_some_iff.mp e).1; simpa using this
    by_cases hji : j = i
    · subst hji
      rw [List.getElem?_set_self hj] at e
      cases e
      exact ⟨v, List.getElem?_set_self (by rw [← r.len]; exact hj), q⟩
    · rw [List.getElem?_set_ne (Ne.symm hji)] at e
      obtain ⟨w, e1, q1⟩ := r.at_ j d' e
      exact ⟨w, by rw [List.getElem?_set_ne (Ne.symm hji)]; exact e1, q1⟩
  · have hj : j < env.length := by have := (List.getElem?_eq_some_iff.mp e).1; simpa using this
    by_cases hji : j = i
    · subst hji
      rw [List.getElem?_set_self hj] at e
      cases e
    · rw [List.getElem?_set_ne (Ne.symm hji)] at e
      obtain ⟨a, c, e1, e2, e3⟩ := r.atx j e
      exact ⟨a, c, e1, e2, by rw [List.getElem?_set_ne (Ne.symm hji)]; exact e3⟩
theorem REn.drop1 {G : Wo} {ex : Ex} {ι : List Addr} {H : Hp} {env : En} {σ : St} (r : REn G ex ι H env σ) (i : Nat) (v : Option V) : REn G ex ι H (env.set i .no) (σ.set i v) := by
  refine ⟨by simp [r.len], fun j d' e => ?_, fun j e => ?_, r.exk⟩
  · have hj : j < env.length := by have := (List.getElem?_eq_some_iff.mp e).1; simpa using this
    by_cases hji : j = i
    · subst hji
      rw [List.getElem?_set_self hj] at e
      cases e
    · rw [List.getElem?_set_ne (Ne.symm hji)] at e
      obtain ⟨w, e1, q1⟩ := r.at_ j d' e
      exact ⟨w, by rw [List.getElem?_set_ne (Ne.symm hji)]; exact e1, q1⟩
  · have hj : j < env.length := by have := (List.getElem?_eq_some_iff.mp e).1; simpa using this
    by_cases hji : j = i
    · subst hji
      rw [List.getElem?_set_self hj] at e
      cases e
    · rw [List.getElem?_set_ne (Ne.symm hji)] at e
      obtain ⟨a, c, e1, e2, e3⟩ := r.atx j e
      exact ⟨a, c, e1, e2, by rw [List.getElem?_set_ne (Ne.symm hji)]; exact e3⟩

/-! ### readings -/
abbrev WX' := Value → Option Addr → Hp → Prop
/-- the end that a result leads to: B says how its value lies -/
def Post {α β : Type} (G : Wo) (B : List Addr → Hp → α → β → Prop) (E : WX') (ι : List Addr) (H : Hp) (r : Res α) (Q : β → Hp → Prop) : Prop :=
  match r with
  | .ok d h' => ∀ ι' H' v, ι <+: ι' → Keep H H' → Rel G ι' H' h' → B ι' H' d v → Q v H'
  | .exc x ns xs h' => ∀ ι' H' C d, ι <+: ι' → Keep H H' → Rel G ι' H' h' → G.mg x = some (.ref C) → XF G ι' H' d ns xs → E (.ref C) d H'
  | .stuck => False
theorem Post.mono {α β : Type} {G : Wo} {B : List Addr → Hp → α → β → Prop} {E : WX'} {ι ι1 : List Addr} {H H1 : Hp} {r : Res α} {Q : β → Hp → Prop} (p : ι <+: ι1) (k : Keep H H1) (h : Post G B E ι H r Q) : Post G B E ι1 H1 r Q := by
  cases r with
  | ok d h' => exact fun ι' H' v p' k' => h ι' H' v (p.trans p') (k.trans k')
  | exc x ns xs h' => exact fun ι' H' C d p' k' => h ι' H' C d (p.trans p') (k.trans k')
  | stuck => exact h
abbrev PoV (G : Wo) := Post G (RV G)
abbrev BLs (G : Wo) : List Addr → Hp → List D → List V → Prop := fun ι H ds vs => RVs G ι H ds vs
abbrev BB : List Addr → Hp → Bool → Bool → Prop := fun _ _ b c => c = b

def rdE (G : Wo) (ex : Ex) (W : WX) (m : ME) : TE := fun σ H Q => ∃ ι h env, Rel G ι H h ∧ REn G ex ι H env σ ∧ Post G (fun ι H d v => RV G ι H d v) (fun c d H' => W c d σ H') ι H (m env h) Q
def rdA (G : Wo) (ex : Ex) (W : WX) (m : MA) : TA := fun σ H Q => ∃ ι h env, Rel G ι H h ∧ REn G ex ι H env σ ∧ Post G (fun ι H d v => RVs G ι H d v) (fun c d H' => W c d σ H') ι H (m env h) Q
def rdT (G : Wo) (ex : Ex) (W : WX) (m : MT) : TT := fun σ H Q => ∃ ι h env, Rel G ι H h ∧ REn G ex ι H env σ ∧ Post G BB (fun c d H' => W c d σ H') ι H (m env h) Q
def PostS (G : Wo) (ex : Ex) (W : WX) (ι : List Addr) (H : Hp) (r : SR) (D : Ends) : Prop :=
  match r with
  | .nx env h' => ∀ ι' H' σ', ι <+: ι' → Keep H H' → Rel G ι' H' h' → REn G ex ι' H' env σ' → D.nx σ' H'
  | .bk env h' => ∀ ι' H' σ', ι <+: ι' → Keep H H' → Rel G ι' H' h' → REn G ex ι' H' env σ' → D.bk σ' H'
  | .ct env h' => ∀ ι' H' σ', ι <+: ι' → Keep H H' → Rel G ι' H' h' → REn G ex ι' H' env σ' → D.ct σ' H'
  | .rt d h' => ∀ ι' H' v, ι <+: ι' → Keep H H' → Rel G ι' H' h' → RV G ι' H' d v → D.rt v H'
  | .exc x ns xs env h' => ∀ ι' H' σ' C d, ι <+: ι' → Keep H H' → Rel G ι' H' h' → REn G ex ι' H' env σ' → G.mg x = some (.ref C) → XF G ι' H' d ns xs → W (.ref C) d σ' H'
  | .stuck => False
theorem PostS.mono {G : Wo} {ex : Ex} {W : WX} {ι ι1 : List Addr} {H H1 : Hp} {r : SR} {D : Ends} (p : ι <+: ι1) (k : Keep H H1) (h : PostS G ex W ι H r D) : PostS G ex W ι1 H1 r D := by
  cases r with
  | nx env h' => exact fun ι' H' v p' k' => h ι' H' v (p.trans p') (k.trans k')
  | bk env h' => exact fun ι' H' v p' k' => h ι' H' v (p.trans p') (k.trans k')
  | ct env h' => exact fun ι' H' v p' k' => h ι' H' v (p.trans p') (k.trans k')
  | rt d h' => exact fun ι' H' v p' k' => h ι' H' v (p.trans p') (k.trans k')
  | exc x ns xs env h' => exact fun ι' H' σ' C d p' k' => h ι' H' σ' C d (p.trans p') (k.trans k')
  | stuck => exact h
def rdS (G : Wo) (ex : Ex) (W : WX) (m : MS) : TS := fun D σ H => ∃ ι h env, Rel G ι H h ∧ REn G ex ι H env σ ∧ PostS G ex W ι H (m env h) D

abbrev wo (X : Cx) : Wo := ⟨X.K, X.mg⟩
def FE (X : Cx) (W : WX) (ex : Ex) (e : Expr) (m : ME) : Prop := PE X e (rdE (wo X) ex W m)
def FA (X : Cx) (W : WX) (ex : Ex) (es : List Expr) (m : MA) : Prop := PA X es (rdA (wo X) ex W m)
def FT (X : Cx) (W : WX) (ex : Ex) (e : Expr) (m : MT) : Prop := PT X e (rdT (wo X) ex W m)
def FW (X : Cx) (W : WX) (ex : Ex) (e : Expr) (m : MT) : Prop := PW X e (rdT (wo X) ex W m)
def FS (X : Cx) (W : WX) (ex : Ex) (st : Stmt) (m : MS) : Prop := PS X st (rdS (wo X) ex W m)
def FSs (X : Cx) (W : WX) (ex : Ex) (st : List Stmt) (m : MS) : Prop := PSs X st (rdS (wo X) ex W m)

theorem PE.imp {X : Cx} {e : Expr} {t t' : TE} (p : PE X e t) (h : ∀ σ H Q, t' σ H Q → t σ H Q) : PE X e t' := ⟨fun pins s σ H Q I q => p.run pins s σ H Q I (h σ H Q q)⟩
theorem PA.imp {X : Cx} {e : List Expr} {t t' : TA} (p : PA X e t) (h : ∀ σ H Q, t' σ H Q → t σ H Q) : PA X e t' := ⟨fun po pins s σ H Q I q => p.run po pins s σ H Q I (h σ H Q q)⟩
theorem PT.imp {X : Cx} {e : Expr} {t t' : TT} (p : PT X e t) (h : ∀ σ H Q, t' σ H Q → t σ H Q) : PT X e t' := ⟨fun pins s σ H Q I q => p.run pins s σ H Q I (h σ H Q q)⟩
theorem PW.imp {X : Cx} {e : Expr} {t t' : TT} (p : PW X e t) (h : ∀ σ H Q, t' σ H Q → t σ H Q) : PW X e t' := ⟨fun wh pins s σ H Q I q => p.run wh pins s σ H Q I (h σ H Q q)⟩
theorem PS.imp {X : Cx} {e : Stmt} {t t' : TS} (p : PS X e t) (h : ∀ D σ H, t' D σ H → t D σ H) : PS X e t' := ⟨fun pins s σ H D I q => p.run pins s σ H D I (h D σ H q)⟩
theorem PSs.imp {X : Cx} {e : List Stmt} {t t' : TS} (p : PSs X e t) (h : ∀ D σ H, t' D σ H → t D σ H) : PSs X e t' := ⟨fun pins s σ H D I q => p.run pins s σ H D I (h D σ H q)⟩

/-- a part is run, then the rest: the end of a bind -/
theorem post_bind {α β α' β' : Type} {G : Wo} {B : List Addr → Hp → α → β → Prop} {B' : List Addr → Hp → α' → β' → Prop} {E : WX'} {ι : List Addr} {H : Hp} {r : Res α} {k : α → M → Res α'} {Q' : β' → Hp → Prop} {Q : β → Hp → Prop}
    (h : Post G B' E ι H (r.bind k) Q') (hk : ∀ d h1 ι1 H1 v, r = .ok d h1 → ι <+: ι1 → Keep H H1 → Rel G ι1 H1 h1 → B ι1 H1 d v → Post G B' E ι1 H1 (k d h1) Q' → Q v H1) : Post G B E ι H r Q := by
  cases r with
  | ok d h1 => exact fun ι1 H1 v p kk rel b => hk d h1 ι1 H1 v rfl p kk rel b (Post.mono p kk h)
  | exc x ns xs h1 => exact h
  | stuck => exact h
end LF
set_option Elab.async false
set_option linter.all false
set_option maxRecDepth 100000
set_option maxHeartbeats 4000000
/-! LF1: expressions. -/
namespace LF
open PySem PySem.Spec L2
open PyProof.Rows hiding St
section
variable {X : Cx} {W : WX} {ex : Ex} {e a b : Expr} {ma mb mc : ME} {pos : Pos}

/-! ### names, constants -/
def mVar (i : Nat) : ME := fun env h => match env[i]? with | some (.va d) => .ok d h | _ => .stuck
theorem fe_var {i : Nat} {x : Str} (hN : X.N[i]? = some x) (hv : Vis X.env.scope x) (hd : (x == ("__debug__" : Str)) = false) (hcd : (x == ("__classdict__" : Str)) = false) : FE X W ex (.Name x pos) (mVar i) := by
  refine PE.imp (pe_var hN hv hd hcd) fun σ H Q q => ?_
  obtain ⟨ι, h, env, rel, re, po⟩ := q
  unfold mVar at po
  split at po
  · rename_i d ed
    obtain ⟨v, e1, q⟩ := re.at_ i d ed
    exact ⟨v, e1, po ι H v (List.prefix_refl _) (Keep.refl _) rel q⟩
  · exact po.elim
theorem fv (i : Nat) {x : Str} (hN : X.N[i]? = some x := by rfl) (hv : Vis X.env.scope x := by first | exact Or.inl rfl | exact Or.inr (Or.inl rfl) | exact Or.inr (Or.inr rfl)) (hd : (x == ("__debug__" : Str)) = false := by decide)
    (hcd : (x == ("__classdict__" : Str)) = false := by decide) : FE X W ex (.Name x pos) (mVar i) := fe_var hN hv hd hcd
def mC (d : D) : ME := fun _ h => .ok d h
theorem fe_c {v : V} {d : D} (p : PE X e (tC v)) (r : ∀ ι H, RV (wo X) ι H d v) : FE X W ex e (mC d) := by
  refine PE.imp p fun σ H Q q => ?_
  obtain ⟨ι, h, env, rel, re, po⟩ := q
  exact po ι H v (List.prefix_refl _) (Keep.refl _) rel (r ι H)
theorem fe_int {i j} : FE X W ex (.Constant (.int i) j pos) (mC (.int i)) := fe_c pe_int fun _ _ => by simp [RV]
theorem fe_bl {i j} : FE X W ex (.Constant (.bool i) j pos) (mC (.bl i)) := fe_c pe_bl fun _ _ => by simp [RV]
theorem fe_str {i j} : FE X W ex (.Constant (.str i) j pos) (mC (.str i)) := fe_c pe_str fun _ _ => by simp [RV]
theorem fe_non {j} : FE X W ex (.Constant .none j pos) (mC .non) := fe_c pe_non fun _ _ => by simp [RV]
/-- a module's name: an int, a class -/
theorem fe_gint {x : Str} {i : Int} {t : Tok} (hm : X.mg x = some (.int i t)) (hg : Gl X x := by rfl) (hd : (x == ("__debug__" : Str)) = false := by decide) : FE X W ex (.Name x pos) (mC (.int i)) :=
  fe_c (pe_glob hg hm (v := .int i) ⟨t, rfl⟩ hd) fun _ _ => by simp [RV]
theorem fe_gstr {x z : Str} {t : Tok} (hm : X.mg x = some (.str z t)) (hg : Gl X x := by rfl) (hd : (x == ("__debug__" : Str)) = false := by decide) : FE X W ex (.Name x pos) (mC (.str z)) :=
  fe_c (pe_glob hg hm (v := .str z) ⟨t, rfl⟩ hd) fun _ _ => by simp [RV]
theorem fe_cls {x : Str} {C : Addr} (hm : X.mg x = some (.ref C)) (hg : Gl X x := by rfl) (hd : (x == ("__debug__" : Str)) = false := by decide) : FE X W ex (.Name x pos) (mC (.cls x)) :=
  fe_c (pe_glob hg hm (v := .ref C) rfl hd) fun _ _ => by simp only [RV]; exact ⟨C, rfl, hm⟩
theorem fe_ty {x : Str} {n : String} (hm : X.mg x = none) (hv : bootBuiltins x = some (.type n)) (hg : Gl X x := by rfl) (hn : x ≠ "__name__" := by decide) (hd : (x == ("__debug__" : Str)) = false := by decide) : FE X W ex (.Name x pos) (mC (.ty n)) :=
  fe_c (pe_bltn (v := .ty n) hg hm hv rfl hn hd) fun _ _ => by simp [RV]
/-- a value of the module's that stands in the written part -/
theorem fe_gref {x : Str} {p : Addr} {d : D} (hm : X.mg x = some (.ref p)) (r : ∀ ι H, RV (wo X) ι H d (.ref p)) (hg : Gl X x := by rfl) (hd : (x == ("__debug__" : Str)) = false := by decide) : FE X W ex (.Name x pos) (mC d) :=
  fe_c (pe_glob hg hm (v := .ref p) rfl hd) r

/-! ### two parts, one -/
def m2 (f : D → D → M → Res D) (ma mb : ME) : ME := fun env h => (ma env h).bind fun x h1 => (mb env h1).bind fun y h2 => f x y h2
def m1 (f : D → M → Res D) (ma : ME) : ME := fun env h => (ma env h).bind fun x h1 => f x h1
/-- what an operator asks is met by f -/
def Ab2 (G : Wo) (r : R2) (f : D → D → M → Res D) : Prop := ∀ (E : WX') ι H h x y v u (Q : VK), Rel G ι H h → RV G ι H x v → RV G ι H y u → Post G (fun ι H d v => RV G ι H d v) E ι H (f x y h) Q → r v u H Q
def Ab1 (G : Wo) (r : V → Hp → VK → Prop) (f : D → M → Res D) : Prop := ∀ (E : WX') ι H h x v (Q : VK), Rel G ι H h → RV G ι H x v → Post G (fun ι H d v => RV G ι H d v) E ι H (f x h) Q → r v H Q
def AbL (G : Wo) (r : List V → Hp → VK → Prop) (f : List D → M → Res D) : Prop := ∀ (E : WX') ι H h x v (Q : VK), Rel G ι H h → RVs G ι H x v → Post G (fun ι H d v => RV G ι H d v) E ι H (f x h) Q → r v H Q
theorem rd_op {r : R2} {f : D → D → M → Res D} {G : Wo} (hf : Ab2 G r f) {σ : St} {H : Hp} {Q : VK} (q : rdE G ex W (m2 f ma mb) σ H Q) : tOp r (rdE G ex W ma) (rdE G ex W mb) σ H Q := by
  obtain ⟨ι, h, env, rel, re, po⟩ := q
  refine ⟨ι, h, env, rel, re, post_bind po fun x h1 ι1 H1 v _ p1 k1 rel1 rv1 po1 => ?_⟩
  refine ⟨ι1, h1, env, rel1, re.mono p1 k1, post_bind po1 fun y h2 ι2 H2 u _ p2 k2 rel2 rv2 po2 => ?_⟩
  exact hf _ ι2 H2 h2 x y v u Q rel2 (RV.mono p2 k2 _ _ rv1) rv2 po2
theorem fe_op {op : Operator} {r : R2} {f : D → D → M → Res D} (ho : OpR X (binaryOp op) r) (hf : Ab2 (wo X) r f) (ha : FE X W ex a ma) (hb : FE X W ex b mb) : FE X W ex (.BinOp a op b pos) (m2 f ma mb) :=
  PE.imp (pe_op ho ha hb) fun _ _ _ q => rd_op hf q
/-- a comparison, by what it asks -/
def FC (X : Cx) (W : WX) (ex : Ex) (op : CmpOp) (a b : Expr) (m : ME) : Prop := PC X op a b (rdE (wo X) ex W m)
theorem PC.imp {op : CmpOp} {t t' : TE} (p : PC X op a b t) (h : ∀ σ H Q, t' σ H Q → t σ H Q) : PC X op a b t' := ⟨fun pins s σ H Q I q => p.run pins s σ H Q I (h σ H Q q)⟩
theorem PC.or {op : CmpOp} {t t' : TE} (p : PC X op a b t) (p' : PC X op a b t') : PC X op a b (fun σ H Q => t σ H Q ∨ t' σ H Q) := ⟨fun pins s σ H Q I h => by
  rcases h with h | h
  · exact p.run pins s σ H Q I h
  · exact p'.run pins s σ H Q I h⟩
theorem pc_of {op : CmpOp} {r : R2} {ta tb : TE} (ho : OpR X (compareOp op) r) (ha : PE X a ta) (hb : PE X b tb) : PC X op a b (tOp r ta tb) :=
  ⟨fun pins s σ H Q I h => bin ha hb I h fun v u s2 x y H2 I2 rx ry q => ho pins s2 σ H2 x y v u Q I2 rx ry q⟩
theorem fc_op {op : CmpOp} {r : R2} {f : D → D → M → Res D} (ho : OpR X (compareOp op) r) (hf : Ab2 (wo X) r f) (ha : FE X W ex a ma) (hb : FE X W ex b mb) : FC X W ex op a b (m2 f ma mb) :=
  PC.imp (pc_of ho ha hb) fun _ _ _ q => rd_op hf q
theorem fe_c1 {op : CmpOp} {m : ME} (h : FC X W ex op a b m) (hm : behindInMarks op b = false := by first | exact nobehind _ (by decide) (by decide) | rfl) : FE X W ex (.Compare a [op] [b] pos) m := pe_cmp h hm
/-- what an operator asks at two values is met by f -/
def At2 (G : Wo) (r : R2) (f : D → D → M → Res D) (x y : D) (h : M) : Prop := ∀ (E : WX') ι H v u (Q : VK), Rel G ι H h → RV G ι H x v → RV G ι H y u → Post G (fun ι H d v => RV G ι H d v) E ι H (f x y h) Q → r v u H Q
/-- two ways, told apart by the values -/
theorem rd_op_or {r r' : R2} {f : D → D → M → Res D} {G : Wo} (hf : ∀ x y h, At2 G r f x y h ∨ At2 G r' f x y h) {σ : St} {H : Hp} {Q : VK} (q : rdE G ex W (m2 f ma mb) σ H Q) :
    tOp r (rdE G ex W ma) (rdE G ex W mb) σ H Q ∨ tOp r' (rdE G ex W ma) (rdE G ex W mb) σ H Q := by
  obtain ⟨ι, h, env, rel, re, po⟩ := q
  unfold m2 at po
  cases ea : ma env h with
  | stuck => rw [ea] at po; exact po.elim
  | exc x ns vs h1 =>
    rw [ea] at po
    exact .inl ⟨ι, h, env, rel, re, by rw [ea]; exact po⟩
  | ok x h1 =>
    rw [ea] at po
    simp only [bind_ok] at po
    cases eb : mb env h1 with
    | stuck => rw [eb] at po; exact po.elim
    | exc x' ns vs h2 =>
      rw [eb] at po
      refine .inl ⟨ι, h, env, rel, re, ?_⟩
      rw [ea]
      intro ι1 H1 v p1 k1 rel1 rv1
      refine ⟨ι1, h1, env, rel1, re.mono p1 k1, ?_⟩
      rw [eb]
      exact Post.mono p1 k1 po
    | ok y h2 =>
      rw [eb] at po
      simp only [bind_ok] at po
      have run : ∀ (R : R2), At2 G R f x y h2 → tOp R (rdE G ex W ma) (rdE G ex W mb) σ H Q := fun R hR => by
        refine ⟨ι, h, env, rel, re, ?_⟩
        rw [ea]
        intro ι1 H1 v p1 k1 rel1 rv1
        refine ⟨ι1, h1, env, rel1, re.mono p1 k1, ?_⟩
        rw [eb]
        intro ι2 H2 u p2 k2 rel2 rv2
        exact hR _ ι2 H2 v u Q rel2 (RV.mono p2 k2 _ _ rv1) rv2 (Post.mono (p1.trans p2) (k1.trans k2) po)
      rcases hf x y h2 with z | z
      · exact .inl (run _ z)
      · exact .inr (run _ z)
theorem rd_un {r : V → Hp → VK → Prop} {f : D → M → Res D} {G : Wo} (hf : Ab1 G r f) {σ : St} {H : Hp} {Q : VK} (q : rdE G ex W (m1 f ma) σ H Q) : tUn r (rdE G ex W ma) σ H Q := by
  obtain ⟨ι, h, env, rel, re, po⟩ := q
  refine ⟨ι, h, env, rel, re, post_bind po fun x h1 ι1 H1 v _ p1 k1 rel1 rv1 po1 => ?_⟩
  exact hf _ ι1 H1 h1 x v Q rel1 rv1 po1
theorem fe_un {op : UnaryOp} {r : V → Hp → VK → Prop} {f : D → M → Res D} (ho : UnR X (unaryOp op) r) (hf : Ab1 (wo X) r f) (ha : FE X W ex a ma) : FE X W ex (.UnaryOp op a pos) (m1 f ma) :=
  PE.imp (pe_un ho ha) fun _ _ _ q => rd_un hf q

/-! ### ends of an operator -/
theorem po_ok {α β : Type} {G : Wo} {B : List Addr → Hp → α → β → Prop} {E : WX'} {ι : List Addr} {H : Hp} {h : M} {d : α} {v : β} {Q : β → Hp → Prop} (rel : Rel G ι H h) (b : B ι H d v) (po : Post G B E ι H (.ok d h) Q) : Q v H :=
  po ι H v (List.prefix_refl _) (Keep.refl _) rel b
/-- a new list -/
theorem po_lst {G : Wo} {E : WX'} {ι : List Addr} {H : Hp} {h : M} {xs : List D} {vs : List V} {Q : VK} (rel : Rel G ι H h) (b : RVs G ι H xs vs) (po : Post G (fun ι H d v => RV G ι H d v) E ι H (.ok (.loc h.length) (h ++ [.lst xs])) Q)
    (p : Addr) (hp : H p = none) : Q (.ref p) (upd H p (.lst vs)) := by
  have pre : ι <+: ι ++ [p] := List.prefix_append ..
  have k : Keep H (upd H p (.lst vs)) := Keep.of_same (same_upd hp)
  refine po (ι ++ [p]) _ (.ref p) pre k (rel.push hp ⟨vs, upd_same, RVs.mono pre k _ _ b⟩) ?_
  simp only [RV]
  exact ⟨p, rfl, by rw [← rel.len]; simp⟩
/-- a new tuple -/
theorem po_tup {G : Wo} {E : WX'} {ι : List Addr} {H : Hp} {h : M} {xs : List D} {vs : List V} {Q : VK} (rel : Rel G ι H h) (b : RVs G ι H xs vs) (po : Post G (fun ι H d v => RV G ι H d v) E ι H (.ok (.tup xs) h) Q)
    (p : Addr) (hp : H p = none) : Q (.ref p) (upd H p (.tup vs)) := by
  have k : Keep H (upd H p (.tup vs)) := Keep.of_same (same_upd hp)
  refine po ι _ (.ref p) (List.prefix_refl _) k (rel.same (same_upd hp)) ?_
  simp only [RV]
  exact ⟨p, vs, rfl, upd_same, RVs.mono (List.prefix_refl _) k _ _ b⟩
/-- what stands at a place -/
theorem at_lst {G : Wo} {ι : List Addr} {H : Hp} {h : M} {l : Nat} {v : V} {xs : List D} (rel : Rel G ι H h) (rv : RV G ι H (.loc l) v) (e : h[l]? = some (.lst xs)) : ∃ a vs, v = .ref a ∧ ι[l]? = some a ∧ H a = some (.lst vs) ∧ RVs G ι H xs vs := by
  simp only [RV] at rv
  obtain ⟨a, rfl, ea⟩ := rv
  obtain ⟨vs, e1, r⟩ := rel.at e ea
  exact ⟨a, vs, rfl, ea, e1, r⟩
theorem at_dK {G : Wo} {ι : List Addr} {H : Hp} {h : M} {l : Nat} {v : V} {xs : List (Key × D)} (rel : Rel G ι H h) (rv : RV G ι H (.loc l) v) (e : h[l]? = some (.dK xs)) : ∃ a vs, v = .ref a ∧ ι[l]? = some a ∧ H a = some (.dK vs) ∧ RKs G ι H xs vs := by
  simp only [RV] at rv
  obtain ⟨a, rfl, ea⟩ := rv
  obtain ⟨vs, e1, r⟩ := rel.at e ea
  exact ⟨a, vs, rfl, ea, e1, r⟩
theorem at_dT {G : Wo} {ι : List Addr} {H : Hp} {h : M} {l : Nat} {v : V} {xs : List (List Key × D)} (rel : Rel G ι H h) (rv : RV G ι H (.loc l) v) (e : h[l]? = some (.dT xs)) : ∃ a vs, v = .ref a ∧ ι[l]? = some a ∧ H a = some (.dT vs) ∧ RKs G ι H xs vs := by
  simp only [RV] at rv
  obtain ⟨a, rfl, ea⟩ := rv
  obtain ⟨vs, e1, r⟩ := rel.at e ea
  exact ⟨a, vs, rfl, ea, e1, r⟩
theorem at_ins {G : Wo} {ι : List Addr} {H : Hp} {h : M} {l : Nat} {v : V} {x : Str} {fs : List (Str × D)} (rel : Rel G ι H h) (rv : RV G ι H (.loc l) v) (e : h[l]? = some (.ins x fs)) :
    ∃ a C dx vs, v = .ref a ∧ ι[l]? = some a ∧ G.mg x = some (.ref C) ∧ H a = some (.ins C dx vs) ∧ RKs G ι H fs vs := by
  simp only [RV] at rv
  obtain ⟨a, rfl, ea⟩ := rv
  obtain ⟨C, dx, vs, g, e1, r⟩ := rel.at e ea
  exact ⟨a, C, dx, vs, rfl, ea, g, e1, r⟩
/-- the items of a list: one of the machine's, a constant one -/
def lstOf (h : M) : D → Option (List D)
  | .loc l => match h[l]? with | some (.lst xs) => some xs | _ => none
  | .cl xs => some xs
  | _ => none
theorem lstOf_sq {G : Wo} {ι : List Addr} {H : Hp} {h : M} {d : D} {v : V} {xs : List D} (rel : Rel G ι H h) (rv : RV G ι H d v) (e : lstOf h d = some xs) : ∃ a vs, v = .ref a ∧ SqL G.K H a vs ∧ RVs G ι H xs vs := by
  cases d with
  | loc l =>
    simp only [lstOf] at e
    split at e
    · rename_i ys e1
      cases e
      obtain ⟨a, vs, rfl, _, e2, r⟩ := at_lst rel rv e1
      exact ⟨a, vs, rfl, SqL.of e2, r⟩
    · cases e
  | cl ys =>
    simp only [lstOf] at e
    cases e
    simp only [RV] at rv
    obtain ⟨a, vs, rfl, q, r⟩ := rv
    exact ⟨a, vs, rfl, q.sq, r⟩
  | _ => simp [lstOf] at e
@[simp] theorem lstOf_cl {h : M} {xs : List D} : lstOf h (.cl xs) = some xs := (rfl)
theorem lstOf_loc {h : M} {l : Nat} {xs : List D} (e : h[l]? = some (.lst xs)) : lstOf h (.loc l) = some xs := by simp only [lstOf, e]

/-- the items of a tuple: one of the run's, a constant one -/
def tupOf : D → Option (List D)
  | .tup xs => some xs
  | .ct xs => some xs
  | _ => none
theorem tupOf_sq {G : Wo} {ι : List Addr} {H : Hp} {d : D} {v : V} {xs : List D} (rv : RV G ι H d v) (e : tupOf d = some xs) : ∃ a vs, v = .ref a ∧ SqT G.K H a vs ∧ RVs G ι H xs vs := by
  cases d with
  | tup ys =>
    simp only [tupOf] at e
    cases e
    simp only [RV] at rv
    obtain ⟨a, vs, rfl, q, r⟩ := rv
    exact ⟨a, vs, rfl, SqT.of q, r⟩
  | ct ys =>
    simp only [tupOf] at e
    cases e
    simp only [RV] at rv
    obtain ⟨a, vs, rfl, q, r⟩ := rv
    exact ⟨a, vs, rfl, .inr q, r⟩
  | _ => simp [tupOf] at e
@[simp] theorem tupOf_tup {xs : List D} : tupOf (.tup xs) = some xs := (rfl)
@[simp] theorem tupOf_ct {xs : List D} : tupOf (.ct xs) = some xs := (rfl)

/-! ### arithmetic -/
def fAdd : D → D → M → Res D
  | .int i, .int j, h => .ok (.int (i + j)) h
  | .str i, .str j, h => if i.length + j.length ≤ sizeLine then .ok (.str (i ++ j)) h else .stuck
  | .loc a, .loc b, h => match h[a]?, h[b]? with
    | some (.lst xs), some (.lst ys) => if xs.length + ys.length ≤ sizeLine then .ok (.loc h.length) (h ++ [.lst (xs ++ ys)]) else .stuck
    | _, _ => .stuck
  | .tup xs, .tup ys, h => if xs.length + ys.length ≤ sizeLine ∧ xs ≠ [] then .ok (.tup (xs ++ ys)) h else .stuck
  | .int i, .bl k, h => .ok (.int (i + b2i k)) h
  | _, _, _ => .stuck

theorem fe_add (ha : FE X W ex a ma) (hb : FE X W ex b mb) : FE X W ex (.BinOp a .Add b pos) (m2 fAdd ma mb) := by
  refine fe_op (op_add.or (op_add_str.or (op_cat.or (op_catT.or op_add_ib)))) (fun E ι H h x y v u Q rel rx ry po => ?_) ha hb
  cases x <;> cases y <;> (try exact po.elim)
  case int.int i j =>
    simp only [RV] at rx ry
    subst rx; subst ry
    exact .inl ⟨i, j, rfl, rfl, po_ok rel (by simp [RV]) po⟩
  case int.bl i k =>
    simp only [RV] at rx ry
    subst rx; subst ry
    exact .inr (.inr (.inr (.inr ⟨i, k, rfl, rfl, po_ok rel (by simp [RV]) po⟩)))
  case str.str i j =>
    simp only [RV] at rx ry
    subst rx; subst ry
    simp only [fAdd] at po
    split at po
    · rename_i hz
      exact .inr (.inl ⟨i, j, rfl, rfl, hz, po_ok rel (by simp [RV]) po⟩)
    · exact po.elim
  case tup.tup xs ys =>
    simp only [fAdd] at po
    split at po
    · rename_i hz
      simp only [RV] at rx ry
      obtain ⟨a, vs, rfl, s1, r1⟩ := rx
      obtain ⟨b, ws, rfl, s2, r2⟩ := ry
      have l1 := RVs.length r1
      have l2 := RVs.length r2
      refine .inr (.inr (.inr (.inl ⟨a, b, vs, ws, rfl, rfl, SqT.of s1, SqT.of s2, fun z => hz.2 (by subst z; simpa using l1), by omega, fun z => ?_, fun z p hp => po_tup rel (r1.append r2) po p hp⟩)))
      subst z
      have : ys = [] := by simpa using l2
      subst this
      rw [List.append_nil] at po
      exact po_ok rel (by simp only [RV]; exact ⟨a, vs, rfl, s1, r1⟩) po
    · exact po.elim
  case loc.loc l k =>
    simp only [fAdd] at po
    split at po
    · rename_i xs ys e1 e2
      split at po
      · rename_i hz
        obtain ⟨a, vs, rfl, _, q1, r1⟩ := at_lst rel rx e1
        obtain ⟨b, ws, rfl, _, q2, r2⟩ := at_lst rel ry e2
        have l1 := RVs.length r1
        have l2 := RVs.length r2
        exact .inr (.inr (.inl ⟨a, b, vs, ws, rfl, rfl, q1, q2, by omega, fun p hp => po_lst rel (r1.append r2) po p hp⟩))
      · exact po.elim
    · exact po.elim
/-- two ints to a value -/
def fI (C : Int → Int → Prop) [∀ i j, Decidable (C i j)] (g : Int → Int → D) : D → D → M → Res D
  | .int i, .int j, h => if C i j then .ok (g i j) h else .stuck
  | _, _, _ => .stuck
theorem ab_I {G : Wo} {C : Int → Int → Prop} [∀ i j, Decidable (C i j)] {g : Int → Int → V} {g' : Int → Int → D} (hg : ∀ i j ι H, RV G ι H (g' i j) (g i j)) : Ab2 G (rI C g) (fI C g') := by
  intro E ι H h x y v u Q rel rx ry po
  cases x <;> cases y <;> (try exact po.elim)
  simp only [fI] at po
  split at po
  · rename_i i j hc
    simp only [RV] at rx ry
    subst rx; subst ry
    exact ⟨i, j, rfl, rfl, hc, po_ok rel (hg i j _ _) po⟩
  · exact po.elim
theorem ab_I0 {G : Wo} {g : Int → Int → V} {g' : Int → Int → D} (hg : ∀ i j ι H, RV G ι H (g' i j) (g i j)) : Ab2 G (rI0 g) (fI (fun _ _ => True) g') := by
  intro E ι H h x y v u Q rel rx ry po
  cases x <;> cases y <;> (try exact po.elim)
  simp only [fI, if_true] at po
  simp only [RV] at rx ry
  subst rx; subst ry
  exact ⟨_, _, rfl, rfl, po_ok rel (hg _ _ _ _) po⟩
def fSub := fI (fun _ _ => True) fun i j => .int (i - j)
theorem fe_sub (ha : FE X W ex a ma) (hb : FE X W ex b mb) : FE X W ex (.BinOp a .Sub b pos) (m2 fSub ma mb) := fe_op op_sub (ab_I0 fun _ _ _ _ => by simp [RV]) ha hb
instance (i j : Int) : Decidable (CMulW i j) := by unfold CMulW; infer_instance
instance (i j : Int) : Decidable (CDivW i j) := by unfold CDivW; infer_instance
instance (i j : Int) : Decidable (CPow i j) := by unfold CPow; infer_instance
def fMul : D → D → M → Res D
  | .int i, .int j, h => if CMulW i j then .ok (.int (i * j)) h else .stuck
  | .loc l, .int k, h => match h[l]? with
    | some (.lst xs) => if -(2 ^ 63) ≤ k ∧ k < 2 ^ 63 ∧ xs.length * k.toNat ≤ sizeLine then .ok (.loc h.length) (h ++ [.lst (List.replicate k.toNat xs).flatten]) else .stuck
    | _ => .stuck
  | _, _, _ => .stuck
theorem RVs.rep {G : Wo} {ι : List Addr} {H : Hp} {xs : List D} {vs : List V} (r : RVs G ι H xs vs) : ∀ n : Nat, RVs G ι H (List.replicate n xs).flatten (List.replicate n vs).flatten
  | 0 => by simp [RVs]
  | n + 1 => by
    simp only [List.replicate_succ, List.flatten_cons]
    exact r.append (RVs.rep r n)
theorem fe_mul (ha : FE X W ex a ma) (hb : FE X W ex b mb) : FE X W ex (.BinOp a .Mult b pos) (m2 fMul ma mb) := by
  refine fe_op (op_mulW.or op_rep) (fun E ι H h x y v u Q rel rx ry po => ?_) ha hb
  cases x <;> cases y <;> (try exact po.elim)
  case int.int i j =>
    simp only [fMul] at po
    split at po
    · rename_i hc
      simp only [RV] at rx ry
      subst rx; subst ry
      exact .inl ⟨i, j, rfl, rfl, hc, po_ok rel (by simp [RV]) po⟩
    · exact po.elim
  case loc.int l k =>
    simp only [fMul] at po
    split at po
    · rename_i xs e1
      split at po
      · rename_i hz
        obtain ⟨a, vs, rfl, _, q1, r1⟩ := at_lst rel rx e1
        have l1 := RVs.length r1
        simp only [RV] at ry
        subst ry
        exact .inr ⟨a, k, vs, rfl, rfl, q1, hz.1, hz.2.1, by rw [← l1]; exact hz.2.2, fun p hp => po_lst rel (r1.rep _) po p hp⟩
      · exact po.elim
    · exact po.elim
def fDiv := fI CDivW fun i j => .int (i / j)
theorem fe_div (ha : FE X W ex a ma) (hb : FE X W ex b mb) : FE X W ex (.BinOp a .FloorDiv b pos) (m2 fDiv ma mb) := fe_op op_fdivW (ab_I fun _ _ _ _ => by simp [RV]) ha hb
def fMod := fI (fun _ j => 0 < j) fun i j => .int (i % j)
theorem fe_mod (ha : FE X W ex a ma) (hb : FE X W ex b mb) : FE X W ex (.BinOp a .Mod b pos) (m2 fMod ma mb) := fe_op op_mod (ab_I fun _ _ _ _ => by simp [RV]) ha hb
def fPow := fI CPow fun i j => .int (i ^ j.toNat)
theorem fe_pow (ha : FE X W ex a ma) (hb : FE X W ex b mb) : FE X W ex (.BinOp a .Pow b pos) (m2 fPow ma mb) := fe_op op_pow (ab_I fun _ _ _ _ => by simp [RV]) ha hb
def fShr := fI (fun _ j => 0 ≤ j) fun i j => .int (i / 2 ^ j.toNat)
theorem fe_shr (ha : FE X W ex a ma) (hb : FE X W ex b mb) : FE X W ex (.BinOp a .RShift b pos) (m2 fShr ma mb) := fe_op op_shr (ab_I fun _ _ _ _ => by simp [RV]) ha hb
def fShl := fI CPow fun i j => .int (i * 2 ^ j.toNat)
theorem fe_shl (ha : FE X W ex a ma) (hb : FE X W ex b mb) : FE X W ex (.BinOp a .LShift b pos) (m2 fShl ma mb) := fe_op op_shl (ab_I fun _ _ _ _ => by simp [RV]) ha hb
def fAnd := fI (fun _ _ => True) fun i j => .int (Builtin.bitAnd i j)
theorem fe_band (ha : FE X W ex a ma) (hb : FE X W ex b mb) : FE X W ex (.BinOp a .BitAnd b pos) (m2 fAnd ma mb) := fe_op op_and (ab_I0 fun _ _ _ _ => by simp [RV]) ha hb
def fNeg : D → M → Res D
  | .int i, h => .ok (.int (-i)) h
  | _, _ => .stuck
theorem fe_neg (ha : FE X W ex a ma) : FE X W ex (.UnaryOp .USub a pos) (m1 fNeg ma) := by
  refine fe_un un_neg (fun E ι H h x v Q rel rx po => ?_) ha
  cases x <;> (try exact po.elim)
  simp only [RV] at rx
  subst rx
  exact ⟨_, rfl, po_ok rel (by simp [RV]) po⟩
/-! ### order of ints -/
def fLt := fI (fun _ _ => True) fun i j => .bl (decide (i < j))
def fLe := fI (fun _ _ => True) fun i j => .bl (decide (i ≤ j))
def fGt := fI (fun _ _ => True) fun i j => .bl (decide (j < i))
def fGe := fI (fun _ _ => True) fun i j => .bl (decide (j ≤ i))
theorem fc_lt (ha : FE X W ex a ma) (hb : FE X W ex b mb) : FC X W ex .Lt a b (m2 fLt ma mb) := fc_op op_lt (ab_I0 fun _ _ _ _ => by simp [RV]) ha hb
theorem fc_le (ha : FE X W ex a ma) (hb : FE X W ex b mb) : FC X W ex .LtE a b (m2 fLe ma mb) := fc_op op_le (ab_I0 fun _ _ _ _ => by simp [RV]) ha hb
theorem fc_gt (ha : FE X W ex a ma) (hb : FE X W ex b mb) : FC X W ex .Gt a b (m2 fGt ma mb) := fc_op op_gt (ab_I0 fun _ _ _ _ => by simp [RV]) ha hb
theorem fc_ge (ha : FE X W ex a ma) (hb : FE X W ex b mb) : FC X W ex .GtE a b (m2 fGe ma mb) := fc_op op_ge (ab_I0 fun _ _ _ _ => by simp [RV]) ha hb
end
end LF
set_option Elab.async false
set_option linter.all false
set_option maxRecDepth 100000
set_option maxHeartbeats 4000000
/-! LF2: equality, tests, displays, calls of built-ins, subscripts, slices. -/
namespace LF
open PySem PySem.Spec L2
open PyProof.Rows hiding St
section
variable {X : Cx} {W : WX} {ex : Ex} {e a b : Expr} {ma mb mc : ME} {pos : Pos}

/-! ### equality -/
/-- the plain data that a value stands for -/
def toPy (h : M) : Nat → D → Option PyData
  | _, .non => some .none
  | _, .bl b => some (.bool b)
  | _, .int i => some (.int i)
  | _, .str x => some (.str x)
  | n + 1, .tup xs => (xs.mapM (toPy h n)).map .tuple
  | n + 1, .ct xs => (xs.mapM (toPy h n)).map .tuple
  | n + 1, .cl xs => (xs.mapM (toPy h n)).map .list
  | n + 1, .loc l => match h[l]? with
    | some (.lst xs) => (xs.mapM (toPy h n)).map .list
    | _ => none
  | _, _ => none
theorem toPy_ok {G : Wo} {ι : List Addr} {H : Hp} {h : M} (rel : Rel G ι H h) : ∀ (n : Nat) (d : D) (v : V) (p : PyData), RV G ι H d v → toPy h n d = some p → Dp G.K H v p := by
  intro n
  induction n with
  | zero =>
    intro d v p r e
    cases d <;> simp only [toPy, reduceCtorEq] at e <;> (cases e; simp only [RV] at r; subst r)
    · exact .non
    · exact .bl _
    · exact .int _
    · exact .str _
  | succ n ih =>
    have all : ∀ (xs : List D) (vs : List V) (ps : List PyData), RVs G ι H xs vs → xs.mapM (toPy h n) = some ps → DpAll G.K H vs ps := by
      intro xs
      induction xs with
      | nil =>
        intro vs ps r e
        simp only [RVs] at r; subst r
        simp at e; subst e
        exact .nil
      | cons x xs ihx =>
        intro vs ps r e
        simp only [RVs] at r
        obtain ⟨v, q, rfl, r1, r2⟩ := r
        simp only [List.mapM_cons, bind, Option.bind_eq_some_iff, pure, Option.some.injEq] at e
        obtain ⟨p, e1, ps', e2, rfl⟩ := e
        exact .cons (ih x v p r1 e1) (ihx _ _ r2 e2)
    intro d v p r e
    cases d with
    | non => simp only [toPy] at e; cases e; simp only [RV] at r; subst r; exact .non
    | bl _ => simp only [toPy] at e; cases e; simp only [RV] at r; subst r; exact .bl _
    | int _ => simp only [toPy] at e; cases e; simp only [RV] at r; subst r; exact .int _
    | str _ => simp only [toPy] at e; cases e; simp only [RV] at r; subst r; exact .str _
    | tup xs =>
      simp only [toPy, Option.map_eq_some_iff] at e
      obtain ⟨ps, e1, rfl⟩ := e
      simp only [RV] at r
      obtain ⟨a, vs, rfl, s, r⟩ := r
      exact .tup (SqT.of s) (all _ _ _ r e1)
    | ct xs =>
      simp only [toPy, Option.map_eq_some_iff] at e
      obtain ⟨ps, e1, rfl⟩ := e
      simp only [RV] at r
      obtain ⟨a, vs, rfl, s, r⟩ := r
      exact .tup (.inr s) (all _ _ _ r e1)
    | cl xs =>
      simp only [toPy, Option.map_eq_some_iff] at e
      obtain ⟨ps, e1, rfl⟩ := e
      simp only [RV] at r
      obtain ⟨a, vs, rfl, s, r⟩ := r
      exact .lst s.sq (all _ _ _ r e1)
    | loc l =>
      simp only [toPy] at e
      split at e
      · rename_i xs e0
        simp only [Option.map_eq_some_iff] at e
        obtain ⟨ps, e1, rfl⟩ := e
        obtain ⟨a, vs, rfl, _, q, r⟩ := at_lst rel r e0
        exact .lst (SqL.of q) (all _ _ _ r e1)
      · cases e
    | _ => simp [toPy] at e
/-- scalars that compare by themselves -/
def scalD : D → D → Option Bool
  | .non, .non => some true
  | .int i, .int j => some (decide (i = j))
  | .bl i, .bl j => some (decide (i = j))
  | .str i, .str j => some (decide (i = j))
  | .non, .int _ => some false
  | .int _, .non => some false
  | .non, .bl _ => some false
  | .bl _, .non => some false
  | .non, .str _ => some false
  | .str _, .non => some false
  | .int _, .str _ => some false
  | .str _, .int _ => some false
  | .bl _, .str _ => some false
  | .str _, .bl _ => some false
  | _, _ => none
def eqD (x y : D) (h : M) : Option Bool :=
  match scalD x y with
  | some b => some b
  | none => match toPy h 50 x, toPy h 50 y with
    | some p, some q => if SeqAt.shaped p = true ∧ SeqAt.shaped q = true then some (PyData.eqv p q) else none
    | _, _ => none
def fEq (x y : D) (h : M) : Res D := match eqD x y h with | some b => .ok (.bl b) h | none => .stuck
def fNe (x y : D) (h : M) : Res D := match eqD x y h with | some b => .ok (.bl (!b)) h | none => .stuck
theorem scalD_ok {G : Wo} {ι : List Addr} {H : Hp} {x y : D} {v u : V} {b : Bool} (rx : RV G ι H x v) (ry : RV G ι H y u) (e : scalD x y = some b) : scal v u = true ∧ decide (v = u) = b := by
  cases x <;> cases y <;> simp only [scalD, Option.some.injEq, reduceCtorEq] at e <;> (simp only [RV] at rx ry; subst rx; subst ry; subst e; simp [scal])
theorem eqD_ok {G : Wo} {ι : List Addr} {H : Hp} {h : M} {x y : D} {v u : V} {b : Bool} (rel : Rel G ι H h) (rx : RV G ι H x v) (ry : RV G ι H y u) (e : eqD x y h = some b) :
    (scal v u = true ∧ decide (v = u) = b) ∨ ∃ d f, Dp G.K H v d ∧ Dp G.K H u f ∧ SeqAt.shaped d = true ∧ SeqAt.shaped f = true ∧ PyData.eqv d f = b := by
  unfold eqD at e
  split at e
  · rename_i c e1
    cases e
    exact .inl (scalD_ok rx ry e1)
  · split at e
    · rename_i p q e2 e3
      split at e
      · rename_i hs
        cases e
        exact .inr ⟨p, q, toPy_ok rel _ _ _ _ rx e2, toPy_ok rel _ _ _ _ ry e3, hs.1, hs.2, rfl⟩
      · cases e
    · cases e
theorem hu64 {k : Nat} {A : Around} (r : L2H.RoomH k A) : A.units + 64 < cLine := by have := r.un; omega
theorem hu1 {k : Nat} {A : Around} (r : L2H.RoomH k A) : A.units + 1 < cLine := by have := r.un; omega
theorem fc_eq {k : Nat} (hr : L2H.RoomH k X.A) (ha : FE X W ex a ma) (hb : FE X W ex b mb) : FC X W ex .Eq a b (m2 fEq ma mb) := by
  refine fc_op (op_eq.or (op_eqD (hu64 hr))) (fun E ι H h x y v u Q rel rx ry po => ?_) ha hb
  unfold fEq at po
  split at po
  · rename_i b e
    rcases eqD_ok rel rx ry e with ⟨s, d⟩ | ⟨d, f, h1, h2, h3, h4, h5⟩
    · exact .inl ⟨s, by rw [d]; exact po_ok rel (by simp [RV]) po⟩
    · exact .inr ⟨d, f, h1, h2, h3, h4, by rw [h5]; exact po_ok rel (by simp [RV]) po⟩
  · exact po.elim
theorem fc_ne {k : Nat} (hr : L2H.RoomH k X.A) (ha : FE X W ex a ma) (hb : FE X W ex b mb) : FC X W ex .NotEq a b (m2 fNe ma mb) := by
  refine fc_op (op_ne.or (op_neD (hu64 hr))) (fun E ι H h x y v u Q rel rx ry po => ?_) ha hb
  unfold fNe at po
  split at po
  · rename_i b e
    rcases eqD_ok rel rx ry e with ⟨s, d⟩ | ⟨d, f, h1, h2, h3, h4, h5⟩
    · exact .inl ⟨s, by rw [d]; exact po_ok rel (by simp [RV]) po⟩
    · exact .inr ⟨d, f, h1, h2, h3, h4, by rw [h5]; exact po_ok rel (by simp [RV]) po⟩
  · exact po.elim
/-- is None -/
def isN : D → Bool
  | .non => true
  | _ => false
theorem isN_ok {G : Wo} {ι : List Addr} {H : Hp} {x : D} {v : V} (rx : RV G ι H x v) : decide (v = .non) = isN x := by
  cases x <;> simp only [RV] at rx
  case non => subst rx; rfl
  case bl => subst rx; rfl
  case int => subst rx; rfl
  case str => subst rx; rfl
  case tup => obtain ⟨a, vs, rfl, _⟩ := rx; rfl
  case cl => obtain ⟨a, vs, rfl, _⟩ := rx; rfl
  case ct => obtain ⟨a, vs, rfl, _⟩ := rx; rfl
  case loc => obtain ⟨a, rfl, _⟩ := rx; rfl
  case ty => subst rx; rfl
  case cls => obtain ⟨a, rfl, _⟩ := rx; rfl
def fIsN : D → M → Res D := fun x h => .ok (.bl (isN x)) h
def fIsNN : D → M → Res D := fun x h => .ok (.bl (!isN x)) h
theorem fc_isN {j pos'} (ha : FE X W ex a ma) : FC X W ex .Is a (.Constant .none j pos') (m1 fIsN ma) := by
  refine PC.imp (pc_isN ha) fun σ H Q q => ?_
  obtain ⟨ι, h, env, rel, re, po⟩ := q
  refine ⟨ι, h, env, rel, re, post_bind po fun x h1 ι1 H1 v eq1 p1 k1 rel1 rv1 po1 => ?_⟩
  rw [isN_ok rv1]
  exact po_ok rel1 (by simp [RV]) po1
theorem fc_isNN {j pos'} (ha : FE X W ex a ma) : FC X W ex .IsNot a (.Constant .none j pos') (m1 fIsNN ma) := by
  refine PC.imp (pc_notN ha) fun σ H Q q => ?_
  obtain ⟨ι, h, env, rel, re, po⟩ := q
  refine ⟨ι, h, env, rel, re, post_bind po fun x h1 ι1 H1 v eq1 p1 k1 rel1 rv1 po1 => ?_⟩
  rw [isN_ok rv1]
  exact po_ok rel1 (by simp [RV]) po1

/-! ### tests -/
variable {ta tb tc : MT} {rest : List Expr}
def asB (d : D) (h : M) : Res Bool := match d with | .bl b => .ok b h | _ => .stuck
@[simp] theorem asB_bl {b : Bool} {h : M} : asB (.bl b) h = .ok b h := (rfl)
def mTest (ma : ME) : MT := fun env h => (ma env h).bind asB
theorem rd_test {G : Wo} {σ : St} {H : Hp} {Q : Bool → Hp → Prop} (q : rdT G ex W (mTest ma) σ H Q) : rdE G ex W ma σ H fun x H1 => ∃ c, x = .bl c ∧ Q c H1 := by
  obtain ⟨ι, h, env, rel, re, po⟩ := q
  refine ⟨ι, h, env, rel, re, post_bind po fun x h1 ι1 H1 v eq1 p1 k1 rel1 rv1 po1 => ?_⟩
  cases x <;> (try exact po1.elim)
  simp only [RV] at rv1
  exact ⟨_, rv1, po_ok rel1 rfl po1⟩
theorem ft_val (ha : FE X W ex a ma) (he : ∀ whole, isTrue a X.env whole = (do let v ← whole; standAt a.pos; holding [v] (truthy v)) := by intro _; rfl) : FT X W ex a (mTest ma) :=
  PT.imp (pt_val ha he) fun _ _ _ q => rd_test q
/-- a comparison as a test -/
theorem ft_c1 {op : CmpOp} {m : ME} (h : FC X W ex op a b m) (hm : behindInMarks op b = false := by first | exact nobehind _ (by decide) (by decide) | rfl) : FT X W ex (.Compare a [op] [b] pos) (mTest m) :=
  PT.imp (pt_cmp h hm) fun _ _ _ q => rd_test q
def mNotT (t : MT) : MT := fun env h => (t env h).bind fun b h => .ok (!b) h
theorem ft_not (ha : FT X W ex a ta) : FT X W ex (.UnaryOp .Not a pos) (mNotT ta) := by
  refine PT.imp (pt_not ha) fun σ H Q q => ?_
  obtain ⟨ι, h, env, rel, re, po⟩ := q
  refine ⟨ι, h, env, rel, re, post_bind po fun x h1 ι1 H1 v eq1 p1 k1 rel1 rv1 po1 => ?_⟩
  cases rv1
  exact po_ok rel1 rfl po1
def mAndT (t u : MT) : MT := fun env h => (t env h).bind fun b h => if b = true then u env h else .ok false h
def mOrT (t u : MT) : MT := fun env h => (t env h).bind fun b h => if b = true then .ok true h else u env h
theorem fw_and1 (ha : FT X W ex a ta) : FW X W ex (.BoolOp .And [a] pos) ta := pw_and1 ha
theorem fw_or1 (ha : FT X W ex a ta) : FW X W ex (.BoolOp .Or [a] pos) ta := pw_or1 ha
theorem fw_and (ha : FT X W ex a ta) (hb : FW X W ex (.BoolOp .And (b :: rest) pos) tb) : FW X W ex (.BoolOp .And (a :: b :: rest) pos) (mAndT ta tb) := by
  refine PW.imp (pw_and ha hb) fun σ H Q q => ?_
  obtain ⟨ι, h, env, rel, re, po⟩ := q
  refine ⟨ι, h, env, rel, re, post_bind po fun x h1 ι1 H1 v eq1 p1 k1 rel1 rv1 po1 => ?_⟩
  cases rv1
  split
  · rename_i hx
    rw [if_pos hx] at po1
    exact ⟨ι1, h1, env, rel1, re.mono p1 k1, po1⟩
  · rename_i hx
    rw [if_neg hx] at po1
    exact po_ok rel1 rfl po1
theorem fw_or (ha : FT X W ex a ta) (hb : FW X W ex (.BoolOp .Or (b :: rest) pos) tb) : FW X W ex (.BoolOp .Or (a :: b :: rest) pos) (mOrT ta tb) := by
  refine PW.imp (pw_or ha hb) fun σ H Q q => ?_
  obtain ⟨ι, h, env, rel, re, po⟩ := q
  refine ⟨ι, h, env, rel, re, post_bind po fun x h1 ι1 H1 v eq1 p1 k1 rel1 rv1 po1 => ?_⟩
  cases rv1
  split
  · rename_i hx
    rw [if_pos hx] at po1
    exact po_ok rel1 rfl po1
  · rename_i hx
    rw [if_neg hx] at po1
    exact ⟨ι1, h1, env, rel1, re.mono p1 k1, po1⟩
theorem FW.ft (h : FW X W ex e ta) : FT X W ex e ta := PW.pt h
/-! as values -/
def mNotV (ma : ME) : ME := fun env h => (ma env h).bind fun d h => (asB d h).bind fun b h => .ok (.bl (!b)) h
theorem fe_not (ha : FE X W ex a ma) : FE X W ex (.UnaryOp .Not a pos) (mNotV ma) := by
  refine PE.imp (pe_not ha) fun σ H Q q => ?_
  obtain ⟨ι, h, env, rel, re, po⟩ := q
  refine ⟨ι, h, env, rel, re, post_bind po fun x h1 ι1 H1 v eq1 p1 k1 rel1 rv1 po1 => ?_⟩
  cases x <;> (try exact po1.elim)
  simp only [RV] at rv1
  exact ⟨_, rv1, po_ok rel1 (by simp [RV]) po1⟩
def mAndV (ma mb : ME) : ME := fun env h => (ma env h).bind fun d h => (asB d h).bind fun b h => if b = true then mb env h else .ok (.bl false) h
def mOrV (ma mb : ME) : ME := fun env h => (ma env h).bind fun d h => (asB d h).bind fun b h => if b = true then .ok (.bl true) h else mb env h
theorem fe_one {op} (ha : FE X W ex a ma) : FE X W ex (.BoolOp op [a] pos) ma := pe_one ha
theorem fe_and (ha : FE X W ex a ma) (hb : FE X W ex (.BoolOp .And (b :: rest) pos) mb) : FE X W ex (.BoolOp .And (a :: b :: rest) pos) (mAndV ma mb) := by
  refine PE.imp (pe_and ha hb) fun σ H Q q => ?_
  obtain ⟨ι, h, env, rel, re, po⟩ := q
  refine ⟨ι, h, env, rel, re, post_bind po fun x h1 ι1 H1 v eq1 p1 k1 rel1 rv1 po1 => ?_⟩
  cases x <;> (try exact po1.elim)
  case bl c =>
  simp only [RV] at rv1
  refine ⟨_, rv1, ?_⟩
  cases c with
  | true => exact iteT ⟨ι1, h1, env, rel1, re.mono p1 k1, po1⟩
  | false => exact iteF (po_ok rel1 (by simp [RV]) po1)
theorem fe_or (ha : FE X W ex a ma) (hb : FE X W ex (.BoolOp .Or (b :: rest) pos) mb) : FE X W ex (.BoolOp .Or (a :: b :: rest) pos) (mOrV ma mb) := by
  refine PE.imp (pe_or ha hb) fun σ H Q q => ?_
  obtain ⟨ι, h, env, rel, re, po⟩ := q
  refine ⟨ι, h, env, rel, re, post_bind po fun x h1 ι1 H1 v eq1 p1 k1 rel1 rv1 po1 => ?_⟩
  cases x <;> (try exact po1.elim)
  case bl c =>
  simp only [RV] at rv1
  refine ⟨_, rv1, ?_⟩
  cases c with
  | false => exact iteF ⟨ι1, h1, env, rel1, re.mono p1 k1, po1⟩
  | true => exact iteT (po_ok rel1 (by simp [RV]) po1)
def mIf (t : MT) (ma mb : ME) : ME := fun env h => (t env h).bind fun b h => if b = true then ma env h else mb env h
theorem fe_if {c : Expr} (hc : FT X W ex c tc) (ha : FE X W ex a ma) (hb : FE X W ex b mb) : FE X W ex (.IfExp c a b pos) (mIf tc ma mb) := by
  refine PE.imp (pe_ifExp hc ha hb) fun σ H Q q => ?_
  obtain ⟨ι, h, env, rel, re, po⟩ := q
  refine ⟨ι, h, env, rel, re, post_bind po fun x h1 ι1 H1 v eq1 p1 k1 rel1 rv1 po1 => ?_⟩
  cases rv1
  cases x with
  | true => exact iteT ⟨ι1, h1, env, rel1, re.mono p1 k1, po1⟩
  | false => exact iteF ⟨ι1, h1, env, rel1, re.mono p1 k1, po1⟩

/-! ### arguments, displays -/
variable {es : List Expr} {mas : MA}
def mNil : MA := fun _ h => .ok [] h
def mCons (ma : ME) (mas : MA) : MA := fun env h => (ma env h).bind fun x h1 => (mas env h1).bind fun xs h2 => .ok (x :: xs) h2
theorem fa_nil : FA X W ex [] mNil := by
  refine PA.imp pa_nil fun σ H Q q => ?_
  obtain ⟨ι, h, env, rel, re, po⟩ := q
  exact po_ok rel RVs.nil po
theorem fa_cons (ha : FE X W ex a ma) (hs : FA X W ex es mas) (hst : starEach (a :: es) X.env = (false, eval a X.env) :: starEach es X.env := by rfl) : FA X W ex (a :: es) (mCons ma mas) := by
  refine PA.imp (pa_cons ha hs hst) fun σ H Q q => ?_
  obtain ⟨ι, h, env, rel, re, po⟩ := q
  refine ⟨ι, h, env, rel, re, post_bind po fun x h1 ι1 H1 v eq1 p1 k1 rel1 rv1 po1 => ?_⟩
  refine ⟨ι1, h1, env, rel1, re.mono p1 k1, post_bind po1 fun xs h2 ι2 H2 vs _ p2 k2 rel2 rv2 po2 => ?_⟩
  exact po_ok rel2 (RVs.cons (RV.mono p2 k2 _ _ rv1) rv2) po2
def fTup (xs : List D) (h : M) : Res D := if xs.length ≤ sizeLine then .ok (.tup xs) h else .stuck
def fLst (xs : List D) (h : M) : Res D := if xs.length ≤ sizeLine then .ok (.loc h.length) (h ++ [.lst xs]) else .stuck
def mL (f : List D → M → Res D) (mas : MA) : ME := fun env h => (mas env h).bind f
theorem fe_tup {x1} (hs : FA X W ex es mas) : FE X W ex (.Tuple es x1 pos) (mL fTup mas) := by
  refine PE.imp (pe_tup hs) fun σ H Q q => ?_
  obtain ⟨ι, h, env, rel, re, po⟩ := q
  refine ⟨ι, h, env, rel, re, post_bind po fun xs h1 ι1 H1 vs _ p1 k1 rel1 rv1 po1 => ?_⟩
  have hl := RVs.length rv1
  unfold fTup at po1
  split at po1
  · rename_i hz
    exact ⟨by omega, fun p hp => po_tup rel1 rv1 po1 p hp⟩
  · exact po1.elim
theorem fe_lst (hs : FA X W ex es mas) : FE X W ex (.List es pos) (mL fLst mas) := by
  refine PE.imp (pe_lst hs) fun σ H Q q => ?_
  obtain ⟨ι, h, env, rel, re, po⟩ := q
  refine ⟨ι, h, env, rel, re, post_bind po fun xs h1 ι1 H1 vs _ p1 k1 rel1 rv1 po1 => ?_⟩
  have hl := RVs.length rv1
  unfold fLst at po1
  split at po1
  · rename_i hz
    exact ⟨by omega, fun p hp => po_lst rel1 rv1 po1 p hp⟩
  · exact po1.elim

/-! ### calls of built-ins by values -/
theorem rd_call {G : Wo} {r : List V → Hp → VK → Prop} {f : List D → M → Res D} (hf : AbL G r f) {σ : St} {H : Hp} {Q : VK} (q : rdE G ex W (mL f mas) σ H Q) : tCB r (rdA G ex W mas) σ H Q := by
  obtain ⟨ι, h, env, rel, re, po⟩ := q
  refine ⟨ι, h, env, rel, re, post_bind po fun xs h1 ι1 H1 vs _ p1 k1 rel1 rv1 po1 => ?_⟩
  exact hf _ ι1 H1 h1 xs vs Q rel1 rv1 po1
theorem fe_callB {id : String} {x : Str} {p : Pos} {r : List V → Hp → VK → Prop} {f : List D → M → Res D} (hc : CallR X (.builtin id) r) (hf : AbL (wo X) r f) (hm : X.mg x = none) (hv : bootBuiltins x = some (.builtin id)) (hs : FA X W ex (e :: es) mas)
    (hg : Gl X x := by rfl) (hn : x ≠ "__name__" := by decide) (hdb : (x == ("__debug__" : Str)) = false := by decide) (he : starEach (e :: es) X.env = (false, eval e X.env) :: starEach es X.env := by rfl) (hpl : (backTo pos (starEach es X.env)).any (·.1) = false := by rfl) :
    FE X W ex (.Call (.Name x p) (e :: es) [] pos) (mL f mas) := PE.imp (pe_callB hc hg hm hv hs hn hdb he hpl) fun _ _ _ q => rd_call hf q
theorem fe_callTy {T : String} {x : Str} {p : Pos} {r : List V → Hp → VK → Prop} {f : List D → M → Res D} (hc : CallR X (.type T) r) (hf : AbL (wo X) r f) (hm : X.mg x = none) (hv : bootBuiltins x = some (.type T)) (hs : FA X W ex (e :: es) mas)
    (hg : Gl X x := by rfl) (hn : x ≠ "__name__" := by decide) (hdb : (x == ("__debug__" : Str)) = false := by decide) (he : starEach (e :: es) X.env = (false, eval e X.env) :: starEach es X.env := by rfl) (hpl : (backTo pos (starEach es X.env)).any (·.1) = false := by rfl) :
    FE X W ex (.Call (.Name x p) (e :: es) [] pos) (mL f mas) := PE.imp (pe_callTy hc hg hm hv hs hn hdb he hpl) fun _ _ _ q => rd_call hf q
end
end LF
set_option Elab.async false
set_option linter.all false
set_option maxRecDepth 100000
set_option maxHeartbeats 4000000
/-! LF3: built-ins, subscripts, slices, in, dicts, methods. -/
namespace LF
open PySem PySem.Spec L2
open PyProof.Rows hiding St
section
variable {X : Cx} {W : WX} {ex : Ex} {e a b i o : Expr} {es : List Expr} {ma mb mc : ME} {mas : MA} {pos : Pos}

theorem CallR_or {f : Value} {r r' : List V → Hp → VK → Prop} (h : CallR X f r) (h' : CallR X f r') : CallR X f (fun xs H Q => r xs H Q ∨ r' xs H Q) := by
  intro pins s σ H xs us Q I rx q
  rcases q with q | q
  · exact h pins s σ H xs us Q I rx q
  · exact h' pins s σ H xs us Q I rx q
theorem RVs.eq1 {G : Wo} {ι : List Addr} {H : Hp} {d : D} {vs : List V} (h : RVs G ι H [d] vs) : ∃ v, vs = [v] ∧ RV G ι H d v := by
  simp only [RVs] at h
  obtain ⟨v, r, rfl, h1, rfl⟩ := h
  exact ⟨v, rfl, h1⟩
theorem RVs.eq2 {G : Wo} {ι : List Addr} {H : Hp} {d f : D} {vs : List V} (h : RVs G ι H [d, f] vs) : ∃ v u, vs = [v, u] ∧ RV G ι H d v ∧ RV G ι H f u := by
  simp only [RVs] at h
  obtain ⟨v, r, rfl, h1, u, r2, rfl, h2, rfl⟩ := h
  exact ⟨v, u, rfl, h1, h2⟩

/-! ### len -/
def lenD (h : M) : D → Option Nat
  | .str x => if x.length ≤ sizeLine then some x.length else none
  | .tup xs => some xs.length
  | .ct xs => some xs.length
  | .cl xs => some xs.length
  | .loc l => match h[l]? with
    | some (.lst xs) => some xs.length
    | some (.dK kvs) => some kvs.length
    | _ => none
  | _ => none
def fLen (xs : List D) (h : M) : Res D := match xs with
  | [x] => match lenD h x with | some n => .ok (.int n) h | none => .stuck
  | _ => .stuck
theorem fe_len {x : Str} {p : Pos} (hx : bootBuiltins x = some (.builtin "len")) (hm : X.mg x = none) (hs : FA X W ex (e :: es) mas) (hg : Gl X x := by rfl) (hn : x ≠ "__name__" := by decide) (hdb : (x == ("__debug__" : Str)) = false := by decide)
    (he : starEach (e :: es) X.env = (false, eval e X.env) :: starEach es X.env := by rfl) (hpl : (backTo pos (starEach es X.env)).any (·.1) = false := by rfl) : FE X W ex (.Call (.Name x p) (e :: es) [] pos) (mL fLen mas) := by
  refine fe_callB (CallR_or call_len call_lenD) (fun E ι H h xs vs Q rel rx po => ?_) hm hx hs hg hn hdb he hpl
  unfold fLen at po
  split at po
  case h_2 => exact po.elim
  rename_i xs d
  obtain ⟨v, rfl, r⟩ := rx.eq1
  split at po
  case h_2 => exact po.elim
  rename_i n e1
  have fin := po_ok (v := V.int n) rel (by simp [RV]) po
  cases d with
  | str z =>
    simp only [lenD] at e1
    split at e1
    · rename_i hz
      cases e1
      simp only [RV] at r; subst r
      exact .inl ⟨_, _, rfl, ⟨hz, rfl⟩, fin⟩
    · cases e1
  | tup ys =>
    simp only [lenD] at e1; cases e1
    obtain ⟨a, ws, rfl, s, r⟩ := tupOf_sq (xs := ys) r rfl
    exact .inl ⟨_, _, rfl, .inr ⟨ws, s, RVs.length r⟩, fin⟩
  | ct ys =>
    simp only [lenD] at e1; cases e1
    obtain ⟨a, ws, rfl, s, r⟩ := tupOf_sq (xs := ys) r rfl
    exact .inl ⟨_, _, rfl, .inr ⟨ws, s, RVs.length r⟩, fin⟩
  | cl ys =>
    simp only [lenD] at e1; cases e1
    obtain ⟨a, ws, rfl, s, r⟩ := lstOf_sq (xs := ys) rel r rfl
    exact .inl ⟨_, _, rfl, .inl ⟨ws, s, RVs.length r⟩, fin⟩
  | loc l =>
    simp only [lenD] at e1
    split at e1
    · rename_i ys e2
      cases e1
      obtain ⟨a, ws, rfl, _, q, r⟩ := at_lst rel r e2
      exact .inl ⟨_, _, rfl, .inl ⟨ws, SqL.of q, RVs.length r⟩, fin⟩
    · rename_i kvs e2
      cases e1
      obtain ⟨a, ws, rfl, _, q, r⟩ := at_dK rel r e2
      have hl : kvs.length = ws.length := by have := congrArg List.length r.1; simpa using this
      rw [hl] at fin
      exact .inr ⟨a, ws, rfl, q, fin⟩
    · cases e1
  | _ => simp [lenD] at e1

/-! ### int(x), min, max, abs of two -/
def fInt (xs : List D) (h : M) : Res D := match xs with
  | [.int i] => .ok (.int i) h
  | [.bl k] => .ok (.int (if k then 1 else 0)) h
  | _ => .stuck
theorem fe_intc {p : Pos} (hm : X.mg "int" = none) (hs : FA X W ex (e :: es) mas) (hg : Gl X "int" := by rfl) (he : starEach (e :: es) X.env = (false, eval e X.env) :: starEach es X.env := by rfl) (hpl : (backTo pos (starEach es X.env)).any (·.1) = false := by rfl) :
    FE X W ex (.Call (.Name "int" p) (e :: es) [] pos) (mL fInt mas) := by
  refine fe_callTy call_int1 (fun E ι H h xs vs Q rel rx po => ?_) hm (by decide +kernel) hs hg (by decide) (by decide) he hpl
  unfold fInt at po
  split at po
  · obtain ⟨v, rfl, r⟩ := rx.eq1
    simp only [RV] at r; subst r
    exact .inl ⟨_, rfl, po_ok rel (by simp [RV]) po⟩
  · obtain ⟨v, rfl, r⟩ := rx.eq1
    simp only [RV] at r; subst r
    exact .inr ⟨_, rfl, po_ok rel (by simp [RV]) po⟩
  · exact po.elim
def fMin (xs : List D) (h : M) : Res D := match xs with
  | [.int i, .int j] => .ok (.int (if j < i then j else i)) h
  | _ => .stuck
def fMax (xs : List D) (h : M) : Res D := match xs with
  | [.int i, .int j] => .ok (.int (if j > i then j else i)) h
  | _ => .stuck
theorem fe_min2 {p : Pos} (hm : X.mg "min" = none) (hs : FA X W ex (e :: es) mas) (hc : X.calm = true := by rfl) (hg : Gl X "min" := by rfl) (he : starEach (e :: es) X.env = (false, eval e X.env) :: starEach es X.env := by rfl) (hpl : (backTo pos (starEach es X.env)).any (·.1) = false := by rfl) :
    FE X W ex (.Call (.Name "min" p) (e :: es) [] pos) (mL fMin mas) := by
  refine fe_callB (call_min2 hc) (fun E ι H h xs vs Q rel rx po => ?_) hm (by decide +kernel) hs hg (by decide) (by decide) he hpl
  unfold fMin at po
  split at po
  · obtain ⟨v, u, rfl, r, r2⟩ := rx.eq2
    simp only [RV] at r r2; subst r; subst r2
    exact ⟨_, _, rfl, po_ok rel (by simp [RV]) po⟩
  · exact po.elim
theorem fe_max2 {p : Pos} (hm : X.mg "max" = none) (hs : FA X W ex (e :: es) mas) (hc : X.calm = true := by rfl) (hg : Gl X "max" := by rfl) (he : starEach (e :: es) X.env = (false, eval e X.env) :: starEach es X.env := by rfl) (hpl : (backTo pos (starEach es X.env)).any (·.1) = false := by rfl) :
    FE X W ex (.Call (.Name "max" p) (e :: es) [] pos) (mL fMax mas) := by
  refine fe_callB (call_max2 hc) (fun E ι H h xs vs Q rel rx po => ?_) hm (by decide +kernel) hs hg (by decide) (by decide) he hpl
  unfold fMax at po
  split at po
  · obtain ⟨v, u, rfl, r, r2⟩ := rx.eq2
    simp only [RV] at r r2; subst r; subst r2
    exact ⟨_, _, rfl, po_ok rel (by simp [RV]) po⟩
  · exact po.elim
/-- list(x), tuple(x) -/
def seqOf (h : M) (d : D) : Option (List D) := match tupOf d with | some xs => some xs | none => lstOf h d
theorem seqOf_sq {G : Wo} {ι : List Addr} {H : Hp} {h : M} {d : D} {v : V} {xs : List D} (rel : Rel G ι H h) (rv : RV G ι H d v) (e : seqOf h d = some xs) : ∃ a vs, v = .ref a ∧ (SqL G.K H a vs ∨ SqT G.K H a vs) ∧ RVs G ι H xs vs := by
  unfold seqOf at e
  split at e
  · rename_i ys e1
    cases e
    obtain ⟨a, vs, rfl, s, r⟩ := tupOf_sq rv e1
    exact ⟨a, vs, rfl, .inr s, r⟩
  · obtain ⟨a, vs, rfl, s, r⟩ := lstOf_sq rel rv e
    exact ⟨a, vs, rfl, .inl s, r⟩
def fList (xs : List D) (h : M) : Res D := match xs with
  | [x] => match seqOf h x with | some ys => .ok (.loc h.length) (h ++ [.lst ys]) | none => .stuck
  | _ => .stuck
theorem fe_list {p : Pos} (hm : X.mg "list" = none) (hs : FA X W ex (e :: es) mas) (hg : Gl X "list" := by rfl) (he : starEach (e :: es) X.env = (false, eval e X.env) :: starEach es X.env := by rfl) (hpl : (backTo pos (starEach es X.env)).any (·.1) = false := by rfl) :
    FE X W ex (.Call (.Name "list" p) (e :: es) [] pos) (mL fList mas) := by
  refine fe_callTy call_list_of (fun E ι H h xs vs Q rel rx po => ?_) hm (by decide +kernel) hs hg (by decide) (by decide) he hpl
  unfold fList at po
  split at po
  case h_2 => exact po.elim
  obtain ⟨v, rfl, r⟩ := rx.eq1
  split at po
  case h_2 => exact po.elim
  rename_i ys e1
  obtain ⟨a, ws, rfl, s, r⟩ := seqOf_sq rel r e1
  exact ⟨a, ws, rfl, s, fun p hp => po_lst rel r po p hp⟩
def fTuple (xs : List D) (h : M) : Res D := match xs with
  | [.tup ys] => .ok (.tup ys) h
  | [.ct ys] => .ok (.ct ys) h
  | [x] => match lstOf h x with | some ys => .ok (.tup ys) h | none => .stuck
  | _ => .stuck
theorem fe_tuple {p : Pos} (hm : X.mg "tuple" = none) (hs : FA X W ex (e :: es) mas) (hg : Gl X "tuple" := by rfl) (he : starEach (e :: es) X.env = (false, eval e X.env) :: starEach es X.env := by rfl) (hpl : (backTo pos (starEach es X.env)).any (·.1) = false := by rfl) :
    FE X W ex (.Call (.Name "tuple" p) (e :: es) [] pos) (mL fTuple mas) := by
  refine fe_callTy call_tuple_of (fun E ι H h xs vs Q rel rx po => ?_) hm (by decide +kernel) hs hg (by decide) (by decide) he hpl
  unfold fTuple at po
  split at po
  · obtain ⟨v, rfl, r⟩ := rx.eq1
    obtain ⟨a, ws, rfl, s, r'⟩ := tupOf_sq (xs := _) r rfl
    exact ⟨a, ws, rfl, .inr ⟨s, po_ok rel r po⟩⟩
  · obtain ⟨v, rfl, r⟩ := rx.eq1
    obtain ⟨a, ws, rfl, s, r'⟩ := tupOf_sq (xs := _) r rfl
    exact ⟨a, ws, rfl, .inr ⟨s, po_ok rel r po⟩⟩
  · obtain ⟨v, rfl, r⟩ := rx.eq1
    split at po
    case h_2 => exact po.elim
    rename_i ys e1
    obtain ⟨a, ws, rfl, s, r⟩ := lstOf_sq rel r e1
    exact ⟨a, ws, rfl, .inl ⟨s, fun p hp => po_tup rel r po p hp⟩⟩
  · exact po.elim

/-! ### isinstance -/
def tyD (h : M) : D → Option String
  | .non => some "NoneType"
  | .bl _ => some "bool"
  | .int _ => some "int"
  | .str _ => some "str"
  | .tup _ => some "tuple"
  | .ct _ => some "tuple"
  | .cl _ => some "list"
  | .loc l => match h[l]? with
    | some (.lst _) => some "list"
    | some (.dK _) => some "dict"
    | some (.dT _) => some "dict"
    | _ => none
  | _ => none
theorem tyD_ok {G : Wo} {ι : List Addr} {H : Hp} {h : M} {d : D} {v : V} {t : String} (rel : Rel G ι H h) (r : RV G ι H d v) (e : tyD h d = some t) : TyX G.K H v (.type t) := by
  cases d with
  | non => cases e; simp only [RV] at r; subst r; exact .base .non
  | bl _ => cases e; simp only [RV] at r; subst r; exact .base (.bl _)
  | int _ => cases e; simp only [RV] at r; subst r; exact .base (.int _)
  | str _ => cases e; simp only [RV] at r; subst r; exact .base (.str _)
  | tup xs =>
    cases e; simp only [RV] at r
    obtain ⟨a, vs, rfl, q, _⟩ := r
    exact .base (.tup q)
  | ct xs =>
    cases e; simp only [RV] at r
    obtain ⟨a, vs, rfl, ⟨o, its, n, h1, h2, _⟩, _⟩ := r
    exact .kTuple h1 h2
  | cl xs =>
    cases e; simp only [RV] at r
    obtain ⟨a, vs, rfl, ⟨o, q⟩ | ⟨o, its, n, h1, h2, _⟩, _⟩ := r
    · exact .base (.frz q)
    · exact .kList h1 h2
  | loc l =>
    simp only [tyD] at e
    split at e
    · rename_i e2; cases e
      obtain ⟨a, ws, rfl, _, q, r⟩ := at_lst rel r e2
      exact .base (.lst q)
    · rename_i e2; cases e
      obtain ⟨a, ws, rfl, _, q, r⟩ := at_dK rel r e2
      exact .base (.dK q)
    · rename_i e2; cases e
      obtain ⟨a, ws, rfl, _, q, r⟩ := at_dT rel r e2
      exact .base (.dT q)
    · cases e
  | _ => cases e
def kinds : List String := ["NoneType", "bool", "int", "str", "tuple", "list", "dict"]
def isTy (s t : String) : Bool := s == t || (s == "bool" && t == "int")
theorem kitB_all : ∀ s ∈ kinds, ∀ t ∈ kinds, t ≠ "NoneType" → kitB s t = some (isTy s t) := by decide +kernel
def fIsI (xs : List D) (h : M) : Res D := match xs with
  | [x, .ty t] => match tyD h x with
    | some s => if s ∈ kinds ∧ t ∈ kinds ∧ t ≠ "NoneType" then .ok (.bl (isTy s t)) h else .stuck
    | none => .stuck
  | _ => .stuck
theorem fe_isI {p : Pos} (hm : X.mg "isinstance" = none) (hs : FA X W ex (e :: es) mas) (hg : Gl X "isinstance" := by rfl) (he : starEach (e :: es) X.env = (false, eval e X.env) :: starEach es X.env := by rfl) (hpl : (backTo pos (starEach es X.env)).any (·.1) = false := by rfl) :
    FE X W ex (.Call (.Name "isinstance" p) (e :: es) [] pos) (mL fIsI mas) := by
  refine fe_callB call_isi (fun E ι H h xs vs Q rel rx po => ?_) hm (by decide +kernel) hs hg (by decide) (by decide) he hpl
  unfold fIsI at po
  split at po
  case h_2 => exact po.elim
  rename_i d t
  obtain ⟨v, u, rfl, r, r2⟩ := rx.eq2
  split at po
  case h_2 => exact po.elim
  rename_i s e1
  split at po
  case isFalse => exact po.elim
  rename_i hk
  simp only [RV] at r2; subst r2
  exact ⟨_, _, _, _, _, rfl, .ty t, tyD_ok rel r e1, kit_ty (kitB_all s hk.1 t hk.2.1 hk.2.2), po_ok rel (by simp [RV]) po⟩

/-! ### subscripts -/
theorem RVs.atI {G : Wo} {ι : List Addr} {H : Hp} {xs : List D} {vs : List V} {i : Int} {d : D} (r : RVs G ι H xs vs) (e : atI xs i = some d) : ∃ v, L2.atI vs i = some v ∧ RV G ι H d v := by
  unfold L2.atI at e ⊢
  rw [← RVs.length r]
  cases h : ixN xs.length i with
  | none => rw [h] at e; simp at e
  | some j => rw [h] at e; exact r.get e
def keyD : D → Option Key
  | .int i => some (.inl i)
  | .str x => some (.inr x)
  | _ => none
def keysD : D → Option (List Key)
  | .tup xs => xs.mapM keyD
  | _ => none
theorem keyD_ok {G : Wo} {ι : List Addr} {H : Hp} {d : D} {v : V} {k : Key} (r : RV G ι H d v) (e : keyD d = some k) : v = kV k := by
  cases d <;> simp only [keyD, Option.some.injEq, reduceCtorEq] at e <;> (subst e; simp only [RV] at r; exact r)
theorem keysD_ok {G : Wo} {ι : List Addr} {H : Hp} {d : D} {v : V} {k : List Key} (r : RV G ι H d v) (e : keysD d = some k) : ∃ b, v = .ref b ∧ H b = some (.tup (k.map kV)) := by
  cases d <;> simp only [keysD, reduceCtorEq] at e
  rename_i xs
  simp only [RV] at r
  obtain ⟨a, vs, rfl, q, r⟩ := r
  refine ⟨a, rfl, ?_⟩
  have : vs = k.map kV := by
    clear q
    induction xs generalizing vs k with
    | nil => simp at e; subst e; simp only [RVs] at r; subst r; rfl
    | cons x xs ih =>
      simp only [List.mapM_cons, bind, Option.bind_eq_some_iff, pure, Option.some.injEq] at e
      obtain ⟨k1, e1, ks, e2, rfl⟩ := e
      simp only [RVs] at r
      obtain ⟨v1, r1, rfl, h1, h2⟩ := r
      rw [keyD_ok h1 e1, ih e2 _ h2]; rfl
  rw [← this]; exact q
section
variable {κ : Type} [DecidableEq κ]
def valD (kvs : List (κ × D)) (k : κ) : Option D := (kvs.find? fun kv => decide (kv.1 = k)).map (·.2)
def putD (kvs : List (κ × D)) (k : κ) (d : D) : List (κ × D) := if (kvs.any fun kv => decide (kv.1 = k)) = true then kvs.map (fun kv => if kv.1 = k then (kv.1, d) else kv) else kvs ++ [(k, d)]
def dropD (kvs : List (κ × D)) (k : κ) : List (κ × D) := kvs.filter fun kv => decide (kv.1 ≠ k)
theorem RKs.nil_iff {G : Wo} {ι : List Addr} {H : Hp} {kws : List (κ × V)} (h : RKs G ι H ([] : List (κ × D)) kws) : kws = [] := by
  have := h.1
  simpa using this.symm
theorem RKs.cons_iff {G : Wo} {ι : List Addr} {H : Hp} {k : κ} {d : D} {kvs : List (κ × D)} {kws : List (κ × V)} (h : RKs G ι H ((k, d) :: kvs) kws) : ∃ v r, kws = (k, v) :: r ∧ RV G ι H d v ∧ RKs G ι H kvs r := by
  obtain ⟨h1, h2⟩ := h
  cases kws with
  | nil => simp at h1
  | cons p r =>
    obtain ⟨k', v⟩ := p
    simp only [List.map_cons, List.cons.injEq] at h1
    obtain ⟨rfl, h1⟩ := h1
    simp only [List.map_cons, RVs] at h2
    obtain ⟨v', r', e, h3, h4⟩ := h2
    simp only [List.cons.injEq] at e
    obtain ⟨rfl, rfl⟩ := e
    exact ⟨v, r, rfl, h3, h1, h4⟩
theorem RKs.cons {G : Wo} {ι : List Addr} {H : Hp} {k : κ} {d : D} {v : V} {kvs : List (κ × D)} {kws : List (κ × V)} (r : RV G ι H d v) (h : RKs G ι H kvs kws) : RKs G ι H ((k, d) :: kvs) ((k, v) :: kws) :=
  ⟨by simp [h.1], by simp only [List.map_cons]; exact RVs.cons r h.2⟩
theorem RKs.nil {G : Wo} {ι : List Addr} {H : Hp} : RKs G ι H ([] : List (κ × D)) [] := ⟨rfl, by simp [RVs]⟩
theorem RKs.len {G : Wo} {ι : List Addr} {H : Hp} {kvs : List (κ × D)} {kws : List (κ × V)} (h : RKs G ι H kvs kws) : kvs.length = kws.length := by
  have := congrArg List.length h.1; simpa using this
theorem RKs.val {G : Wo} {ι : List Addr} {H : Hp} : ∀ {kvs : List (κ × D)} {kws : List (κ × V)} {k : κ}, RKs G ι H kvs kws → (∀ d, valD kvs k = some d → ∃ v, valV kws k = some v ∧ RV G ι H d v) ∧ (valD kvs k = none → valV kws k = none)
  | [], kws, k, h => by rw [h.nil_iff]; exact ⟨fun d e => by simp [valD] at e, fun _ => rfl⟩
  | (k', d') :: kvs, kws, k, h => by
    obtain ⟨v, r, rfl, h1, h2⟩ := h.cons_iff
    have ih := RKs.val (k := k) h2
    by_cases hk : k' = k
    · refine ⟨fun d e => ⟨v, valV_pos hk, ?_⟩, fun e => ?_⟩
      · have : d' = d := by simpa [valD, List.find?_cons, hk] using e
        rw [← this]; exact h1
      · simp [valD, List.find?_cons, hk] at e
    · have e1 : valD ((k', d') :: kvs) k = valD kvs k := by simp [valD, List.find?_cons, hk]
      rw [e1, valV_neg hk]
      exact ih
theorem RKs.any {G : Wo} {ι : List Addr} {H : Hp} : ∀ {kvs : List (κ × D)} {kws : List (κ × V)} {k : κ}, RKs G ι H kvs kws → (kvs.any fun kv => decide (kv.1 = k)) = (kws.any fun kv => decide (kv.1 = k))
  | [], kws, k, h => by rw [h.nil_iff]; rfl
  | (k', d') :: kvs, kws, k, h => by
    obtain ⟨v, r, rfl, h1, h2⟩ := h.cons_iff
    simp only [List.any_cons, RKs.any h2]
theorem RKs.app {G : Wo} {ι : List Addr} {H : Hp} {a b : List (κ × D)} {c d : List (κ × V)} (h : RKs G ι H a c) (h2 : RKs G ι H b d) : RKs G ι H (a ++ b) (c ++ d) :=
  ⟨by simp [h.1, h2.1], by simp only [List.map_append]; exact h.2.append h2.2⟩
theorem RKs.put {G : Wo} {ι : List Addr} {H : Hp} {kvs : List (κ × D)} {kws : List (κ × V)} {k : κ} {d : D} {v : V} (h : RKs G ι H kvs kws) (r : RV G ι H d v) : RKs G ι H (putD kvs k d) (putK kws k v) := by
  have go : ∀ {kvs : List (κ × D)} {kws : List (κ × V)}, RKs G ι H kvs kws → RKs G ι H (kvs.map (fun kv => if kv.1 = k then (kv.1, d) else kv)) (kws.map (fun kv => if kv.1 = k then (kv.1, v) else kv)) := by
    intro kvs
    induction kvs with
    | nil => intro kws h; rw [h.nil_iff]; exact RKs.nil
    | cons p kvs ih =>
      intro kws h
      obtain ⟨k', d'⟩ := p
      obtain ⟨v', q, rfl, h1, h2⟩ := h.cons_iff
      simp only [List.map_cons]
      by_cases hk : k' = k
      · rw [if_pos hk, if_pos hk]; exact RKs.cons r (ih h2)
      · rw [if_neg hk, if_neg hk]; exact RKs.cons h1 (ih h2)
  unfold putD putK
  rw [RKs.any h]
  split
  · exact go h
  · exact h.app (RKs.cons r RKs.nil)
theorem RKs.drop {G : Wo} {ι : List Addr} {H : Hp} {k : κ} : ∀ {kvs : List (κ × D)} {kws : List (κ × V)}, RKs G ι H kvs kws → RKs G ι H (dropD kvs k) (dropK kws k)
  | [], kws, h => by rw [h.nil_iff]; exact RKs.nil
  | (k', d') :: kvs, kws, h => by
    obtain ⟨v, r, rfl, h1, h2⟩ := h.cons_iff
    have ih := RKs.drop (k := k) h2
    unfold dropD dropK at ih ⊢
    simp only [List.filter_cons]
    by_cases hk : k' = k
    · simp only [hk, ne_eq, not_true_eq_false, decide_false, Bool.false_eq_true, if_false]; exact ih
    · simp only [hk, ne_eq, not_false_eq_true, decide_true, if_true]; exact RKs.cons h1 ih
end
/-- d[k], by the object's kind -/
def dGet (h : M) (x y : D) : Option (Option D) := match x with
  | .loc l => match h[l]? with
    | some (.dK kvs) => (keyD y).map (valD kvs)
    | some (.dT kvs) => (keysD y).map (valD kvs)
    | _ => none
  | _ => none
theorem dGet_ok {G : Wo} {ι : List Addr} {H : Hp} {h : M} {x y : D} {v u : V} {r : Option D} (rel : Rel G ι H h) (rx : RV G ι H x v) (ry : RV G ι H y u) (e : dGet h x y = some r) :
    ∃ a ro, v = .ref a ∧ IsD H a ∧ DGet H a u ro ∧ (∀ d, r = some d → ∃ w, ro = some w ∧ RV G ι H d w) ∧ (r = none → ro = none) := by
  cases x with
  | loc l =>
    simp only [dGet] at e
    split at e
    · rename_i kvs e1
      simp only [Option.map_eq_some_iff] at e
      obtain ⟨k, ek, rfl⟩ := e
      obtain ⟨a, ws, rfl, _, q, rk⟩ := at_dK rel rx e1
      rw [keyD_ok ry ek]
      exact ⟨a, _, rfl, .inl ⟨ws, .inl q⟩, DGet.k q, (RKs.val rk).1, (RKs.val rk).2⟩
    · rename_i kvs e1
      simp only [Option.map_eq_some_iff] at e
      obtain ⟨k, ek, rfl⟩ := e
      obtain ⟨a, ws, rfl, _, q, rk⟩ := at_dT rel rx e1
      obtain ⟨b, rfl, hb⟩ := keysD_ok ry ek
      exact ⟨a, _, rfl, .inr ⟨ws, .inl q⟩, DGet.t q hb, (RKs.val rk).1, (RKs.val rk).2⟩
    · cases e
  | _ => simp [dGet] at e
def fIx (x y : D) (h : M) : Res D := match x, y with
  | .str z, .int i => if z.length ≤ sizeLine then match atI z.cps.toList i with | some c => .ok (.str ⟨#[c]⟩) h | none => .stuck else .stuck
  | x, y => match seqOf h x, y with
    | some xs, .int i => match atI xs i with | some d => .ok d h | none => .stuck
    | some _, _ => .stuck
    | none, y => match dGet h x y with
      | some (some d) => .ok d h
      | _ => .stuck
theorem PE.or {t t' : TE} (p : PE X e t) (p' : PE X e t') : PE X e (fun σ H Q => t σ H Q ∨ t' σ H Q) := ⟨fun pins s σ H Q I h => by
  rcases h with h | h
  · exact p.run pins s σ H Q I h
  · exact p'.run pins s σ H Q I h⟩
theorem fe_ix {k : Nat} (hr : L2H.RoomH k X.A) (ha : FE X W ex a ma) (hb : FE X W ex b mb) (hs : PlainIx b := by exact fun _ _ => rfl) (hn : NoSl b := by exact fun _ _ => rfl) : FE X W ex (.Subscript a b pos) (m2 fIx ma mb) := by
  refine PE.imp (PE.or (pe_ix ix_seq ha hb hs) (pe_dget (hu1 hr) ha hb hn)) fun σ H Q q => ?_
  obtain ⟨ι, h, env, rel, re, po⟩ := q
  -- which way
  have way : ∀ (P : Prop) (c : Bool), (c = true → P) → (c = false → P) → P := fun P c h1 h2 => by cases c; exact h2 rfl; exact h1 rfl
  unfold m2 at po
  cases ea : ma env h with
  | stuck => rw [ea] at po; exact po.elim
  | exc x ns vs h1 => 
    rw [ea] at po
    exact .inl ⟨ι, h, env, rel, re, by rw [ea]; exact po⟩
  | ok x h1 =>
    rw [ea] at po
    simp only [bind_ok] at po
    cases eb : mb env h1 with
    | stuck => rw [eb] at po; exact po.elim
    | exc x' ns vs h2 =>
      rw [eb] at po
      refine .inl ⟨ι, h, env, rel, re, ?_⟩
      rw [ea]
      intro ι1 H1 v p1 k1 rel1 rv1
      refine ⟨ι1, h1, env, rel1, re.mono p1 k1, ?_⟩
      rw [eb]
      exact Post.mono p1 k1 po
    | ok y h2 =>
      rw [eb] at po
      simp only [bind_ok] at po
      -- the two values, then the rule's own question
      have run : ∀ (R : R2), (∀ ι2 H2 v u, ι <+: ι2 → Keep H H2 → Rel (wo X) ι2 H2 h2 → RV (wo X) ι2 H2 x v → RV (wo X) ι2 H2 y u → R v u H2 Q) → tOp R (rdE (wo X) ex W ma) (rdE (wo X) ex W mb) σ H Q := fun R hR => by
        refine ⟨ι, h, env, rel, re, ?_⟩
        rw [ea]
        intro ι1 H1 v p1 k1 rel1 rv1
        refine ⟨ι1, h1, env, rel1, re.mono p1 k1, ?_⟩
        rw [eb]
        intro ι2 H2 u p2 k2 rel2 rv2
        exact hR ι2 H2 v u (p1.trans p2) (k1.trans k2) rel2 (RV.mono p2 k2 _ _ rv1) rv2
      unfold fIx at po
      split at po
      · rename_i z i
        split at po
        case isFalse => exact po.elim
        rename_i hz
        split at po
        case h_2 => exact po.elim
        rename_i c ec
        refine .inl (run _ fun ι2 H2 v u p k rel2 r1 r2 => ?_)
        simp only [RV] at r1 r2; subst r1; subst r2
        exact .inr (.inr ⟨z, i, c, rfl, rfl, hz, ec, po_ok rel2 (by simp [RV]) (Post.mono p k po)⟩)
      · split at po
        · rename_i xs i es hno
          split at po
          case h_2 => exact po.elim
          rename_i d ed
          refine .inl (run _ fun ι2 H2 v u p k rel2 r1 r2 => ?_)
          simp only [RV] at r2; subst r2
          obtain ⟨a, ws, rfl, s, r⟩ := seqOf_sq rel2 r1 es
          obtain ⟨w, ew, rw'⟩ := r.atI ed
          rcases s with s | s
          · exact .inl ⟨a, ws, i, w, rfl, rfl, s, ew, po_ok rel2 rw' (Post.mono p k po)⟩
          · exact .inr (.inl ⟨a, ws, i, w, rfl, rfl, s, ew, po_ok rel2 rw' (Post.mono p k po)⟩)
        · exact po.elim
        · split at po
          case h_2 => exact po.elim
          rename_i d ed
          refine .inr ?_
          have z := run (fun x y H2 Q => ∃ a v, x = .ref a ∧ DGet H2 a y (some v) ∧ Q v H2) fun ι2 H2 v u p k rel2 r1 r2 => by
            obtain ⟨a, ro, rfl, _, g, g1, _⟩ := dGet_ok rel2 r1 r2 ed
            obtain ⟨w, rfl, rw'⟩ := g1 d rfl
            exact ⟨a, w, rfl, g, po_ok rel2 rw' (Post.mono p k po)⟩
          exact z
end
end LF
set_option Elab.async false
set_option linter.all false
set_option maxRecDepth 100000
set_option maxHeartbeats 4000000
/-! LF4: slices, in, methods of built-in types. -/
namespace LF
open PySem PySem.Spec L2
open PyProof.Rows hiding St
section
variable {X : Cx} {W : WX} {ex : Ex} {e a b i o : Expr} {es : List Expr} {ma mb mc : ME} {mas : MA} {pos : Pos}

/-! ### slices -/
abbrev MO := En → M → Res (Option Int)
abbrev BO : List Addr → Hp → Option Int → Option Int → Prop := fun _ _ b c => c = b
def rdO (G : Wo) (ex : Ex) (W : WX) (m : MO) : TO := fun σ H Q => ∃ ι h env, Rel G ι H h ∧ REn G ex ι H env σ ∧ Post G BO (fun c d H' => W c d σ H') ι H (m env h) Q
def FO (X : Cx) (W : WX) (ex : Ex) (e : Option Expr) (m : MO) : Prop := PO X e (rdO (wo X) ex W m)
theorem PO.imp {oe : Option Expr} {t t' : TO} (p : PO X oe t) (h : ∀ σ H Q, t' σ H Q → t σ H Q) : PO X oe t' := ⟨fun pins s σ H Q I q => p.run pins s σ H Q I (h σ H Q q)⟩
def mNoPart : MO := fun _ h => .ok none h
def mPart (m : ME) : MO := fun env h => (m env h).bind fun d h => match d with | .int i => .ok (some i) h | _ => .stuck
theorem fo_none : FO X W ex none mNoPart := by
  refine PO.imp po_none fun σ H Q q => ?_
  obtain ⟨ι, h, env, rel, re, po⟩ := q
  exact po_ok (α := Option Int) (β := Option Int) rel rfl po
theorem fo_some (ha : FE X W ex a ma) : FO X W ex (some a) (mPart ma) := by
  refine PO.imp (po_some ha) fun σ H Q q => ?_
  obtain ⟨ι, h, env, rel, re, po⟩ := q
  refine ⟨ι, h, env, rel, re, post_bind po fun x h1 ι1 H1 v eq1 p1 k1 rel1 rv1 po1 => ?_⟩
  cases x <;> (try exact po1.elim)
  simp only [RV] at rv1
  exact ⟨_, rv1, po_ok (α := Option Int) (β := Option Int) rel1 rfl po1⟩
def cutD (xs : List D) (lo hi : Option Int) : List D := (xs.drop (HT.sIx xs.length 0 lo)).take (HT.sIx xs.length xs.length hi - HT.sIx xs.length 0 lo)
theorem RVs.cut {G : Wo} {ι : List Addr} {H : Hp} {xs : List D} {vs : List V} (r : RVs G ι H xs vs) (lo hi : Option Int) : RVs G ι H (cutD xs lo hi) (cutV vs lo hi) := by
  unfold cutD cutV
  rw [RVs.length r]
  exact (r.drop _).take _
def fSl (x : D) (lo hi : Option Int) (h : M) : Res D := match x with
  | .str z => if z.length ≤ sizeLine then .ok (.str (cutS z lo hi)) h else .stuck
  | .tup xs => .ok (.tup (cutD xs lo hi)) h
  | .ct xs => if HT.sIx xs.length 0 lo = 0 ∧ HT.sIx xs.length xs.length hi = xs.length then .ok (.ct xs) h else .ok (.tup (cutD xs lo hi)) h
  | x => match lstOf h x with
    | some xs => .ok (.loc h.length) (h ++ [.lst (cutD xs lo hi)])
    | none => .stuck
def mSl (ma : ME) (lo hi : MO) : ME := fun env h => (ma env h).bind fun x h1 => (lo env h1).bind fun l h2 => (hi env h2).bind fun u h3 => fSl x l u h3
theorem fe_slice {lo hi : Option Expr} {ml mh : MO} {p2 : Pos} (ha : FE X W ex a ma) (hl : FO X W ex lo ml) (hh : FO X W ex hi mh) : FE X W ex (.Subscript a (.Slice lo hi none p2) pos) (mSl ma ml mh) := by
  refine PE.imp (pe_slice (sl_list.or (sl_tupA.or sl_str)) ha hl hh) fun σ H Q q => ?_
  obtain ⟨ι, h, env, rel, re, po⟩ := q
  refine ⟨ι, h, env, rel, re, post_bind po fun x h1 ι1 H1 v eq1 p1 k1 rel1 rv1 po1 => ?_⟩
  refine ⟨ι1, h1, env, rel1, re.mono p1 k1, post_bind (α := Option Int) po1 fun l h2 ι2 H2 l' eq2 p2 k2 rel2 rv2 po2 => ?_⟩
  cases rv2
  have rv1 := RV.mono p2 k2 _ _ rv1
  refine ⟨ι2, h2, env, rel2, (re.mono p1 k1).mono p2 k2, post_bind (α := Option Int) po2 fun u h3 ι3 H3 u' eq3 p3 k3 rel3 rv3 po3 => ?_⟩
  cases rv3
  have rv1 := RV.mono p3 k3 _ _ rv1
  have viaL : ∀ xs, lstOf h3 x = some xs → Post (wo X) (fun ι H d v => RV (wo X) ι H d v) (fun c d H' => W c d σ H') ι3 H3 (.ok (.loc h3.length) (h3 ++ [.lst (cutD xs l u)])) Q → rSlL X.K v l u H3 Q := fun xs e1 po => by
    obtain ⟨a, ws, rfl, s, r⟩ := lstOf_sq rel3 rv1 e1
    exact ⟨a, ws, rfl, s, fun p hp => po_lst rel3 (r.cut l u) po p hp⟩
  cases x with
  | str z =>
    simp only [fSl] at po3
    split at po3
    · rename_i hz
      simp only [RV] at rv1; subst rv1
      exact .inr (.inr ⟨z, rfl, hz, po_ok rel3 (by simp [RV]) po3⟩)
    · exact po3.elim
  | tup xs =>
    simp only [fSl] at po3
    obtain ⟨a, ws, rfl, s, r⟩ := tupOf_sq (xs := xs) rv1 rfl
    refine .inr (.inl ⟨a, ws, rfl, s, fun hw => ?_, fun hw p hp => po_tup rel3 (r.cut l u) po3 p hp⟩)
    have e : cutD xs l u = xs := by
      unfold cutD
      rw [RVs.length r, hw.1, hw.2, List.drop_zero, Nat.sub_zero, ← RVs.length r]
      exact List.take_length
    rw [e] at po3
    exact po_ok rel3 rv1 po3
  | ct xs =>
    simp only [fSl] at po3
    obtain ⟨a, ws, rfl, s, r⟩ := tupOf_sq (xs := xs) rv1 rfl
    rw [RVs.length r] at po3
    refine .inr (.inl ⟨a, ws, rfl, s, fun hw => ?_, fun hw p hp => ?_⟩)
    · rw [if_pos hw] at po3
      exact po_ok rel3 rv1 po3
    · rw [if_neg hw] at po3
      exact po_tup rel3 (r.cut l u) po3 p hp
  | cl xs => simp only [fSl, lstOf_cl] at po3; exact .inl (viaL xs rfl po3)
  | loc k =>
    simp only [fSl] at po3
    split at po3
    · rename_i xs e1
      exact .inl (viaL xs e1 po3)
    · exact po3.elim
  | _ => simp [fSl, lstOf, Post] at po3

/-! ### in -/
def flatD : D → Bool
  | .non => true
  | .bl _ => true
  | .int _ => true
  | .str _ => true
  | _ => false
def eqF : D → D → Bool
  | .non, .non => true
  | .bl a, .bl b => a == b
  | .bl a, .int b => (if a then 1 else 0) == b
  | .int a, .bl b => a == (if b then 1 else 0)
  | .int a, .int b => a == b
  | .str a, .str b => a == b
  | _, _ => false
theorem flatD_ok {G : Wo} {ι : List Addr} {H : Hp} {d : D} {v : V} (r : RV G ι H d v) (h : flatD d = true) : flatV v = true := by
  cases d <;> simp only [flatD, reduceCtorEq] at h <;> (simp only [RV] at r; subst r; rfl)
theorem flatDs_ok {G : Wo} {ι : List Addr} {H : Hp} : ∀ {xs : List D} {vs : List V}, RVs G ι H xs vs → xs.all flatD = true → vs.all flatV = true
  | [], vs, r, _ => by simp only [RVs] at r; subst r; rfl
  | x :: xs, vs, r, h => by
    simp only [RVs] at r
    obtain ⟨v, q, rfl, r1, r2⟩ := r
    simp only [List.all_cons, Bool.and_eq_true] at h ⊢
    exact ⟨flatD_ok r1 h.1, flatDs_ok r2 h.2⟩
theorem eqF_ok {G : Wo} {ι : List Addr} {H : Hp} {d f : D} {v u : V} (r : RV G ι H d v) (r2 : RV G ι H f u) (h : flatD d = true) (h2 : flatD f = true) : eqV v u = eqF d f := by
  cases d <;> simp only [flatD, reduceCtorEq] at h <;> cases f <;> simp only [flatD, reduceCtorEq] at h2 <;> (simp only [RV] at r r2; subst r; subst r2; rfl)
theorem inF_ok {G : Wo} {ι : List Addr} {H : Hp} {d : D} {v : V} (r : RV G ι H d v) (h : flatD d = true) : ∀ {xs : List D} {vs : List V}, RVs G ι H xs vs → xs.all flatD = true → inV v vs = xs.any fun y => eqF y d
  | [], vs, q, _ => by simp only [RVs] at q; subst q; rfl
  | x :: xs, vs, q, hx => by
    simp only [RVs] at q
    obtain ⟨w, q, rfl, r1, r2⟩ := q
    simp only [List.all_cons, Bool.and_eq_true] at hx
    have ih := inF_ok r h r2 hx.2
    unfold inV at ih ⊢
    simp only [List.any_cons, ih, eqF_ok r1 r hx.1 h]
def inD (h : M) (x y : D) : Option Bool := match x, y with
  | .str a, .str b => some (!(Builtin.Str.occurrences b a 0 b.length 1).isEmpty)
  | x, y => match seqOf h y with
    | some xs => if flatD x = true ∧ xs.all flatD = true then some (xs.any fun z => eqF z x) else none
    | none => (dGet h y x).map (·.isSome)
def rInA (K : PySem.W.Frag) (neg : Bool) : R2 := fun x y H Q => rIn K neg x y H Q ∨ ∃ i j, x = .str i ∧ y = .str j ∧ Q (.bl (if neg then !(!(Builtin.Str.occurrences j i 0 j.length 1).isEmpty) else !(Builtin.Str.occurrences j i 0 j.length 1).isEmpty)) H
def rDIn (neg : Bool) : R2 := fun y x H Q => ∃ a ov, x = .ref a ∧ DGet H a y ov ∧ Q (.bl (if neg then !ov.isSome else ov.isSome)) H
def fInN (neg : Bool) (x y : D) (h : M) : Res D := match inD h x y with | some b => .ok (.bl (if neg then !b else b)) h | none => .stuck
theorem inD_at {G : Wo} (neg : Bool) (x y : D) (h : M) : At2 G (rDIn neg) (fInN neg) x y h ∨ At2 G (rInA G.K neg) (fInN neg) x y h := by
  cases e : inD h x y with
  | none => exact .inl fun E ι H v u Q rel rx ry po => by unfold fInN at po; rw [e] at po; exact po.elim
  | some b =>
    have fin : ∀ {E : WX'} {ι : List Addr} {H : Hp} {Q : VK}, Rel G ι H h → Post G (fun ι H d v => RV G ι H d v) E ι H (fInN neg x y h) Q → Q (.bl (if neg then !b else b)) H := fun {E ι H Q} rel po => by
      unfold fInN at po; rw [e] at po
      exact po_ok (v := V.bl (if neg then !b else b)) rel (by simp [RV]) po
    have e0 := e
    unfold inD at e
    split at e
    · cases e
      refine .inr fun E ι H v u Q rel rx ry po => ?_
      have q := fin rel po
      simp only [RV] at rx ry
      exact .inr ⟨_, _, rx, ry, q⟩
    · split at e
      · rename_i xs es
        split at e
        · rename_i hf
          cases e
          refine .inr fun E ι H v u Q rel rx ry po => ?_
          have q := fin rel po
          obtain ⟨a, ws, rfl, s, r⟩ := seqOf_sq rel ry es
          exact .inl ⟨a, ws, rfl, s, flatD_ok rx hf.1, flatDs_ok r hf.2, by rw [inF_ok rx hf.1 r hf.2]; exact q⟩
        · cases e
      · simp only [Option.map_eq_some_iff] at e
        obtain ⟨ro, er, rfl⟩ := e
        refine .inl fun E ι H v u Q rel rx ry po => ?_
        have q := fin rel po
        obtain ⟨a, rv, rfl, _, g, g1, g2⟩ := dGet_ok rel ry rx er
        have : rv.isSome = ro.isSome := by
          cases ro with
          | none => rw [g2 rfl]; rfl
          | some d => obtain ⟨w, rfl, _⟩ := g1 d rfl; rfl
        rw [← this] at q
        exact ⟨a, rv, rfl, g, q⟩
def fIn := fInN false
def fNotIn := fInN true
theorem fc_in {k : Nat} (hr : L2H.RoomH k X.A) (ha : FE X W ex a ma) (hb : FE X W ex b mb) : FC X W ex .In a b (m2 fIn ma mb) := by
  have P1 : PC X .In a b (tOp (rDIn false) (rdE (wo X) ex W ma) (rdE (wo X) ex W mb)) := PC.imp (pc_din (hu1 hr) ha hb) fun σ H Q q => q
  have P2 : PC X .In a b (tOp (rInA X.K false) (rdE (wo X) ex W ma) (rdE (wo X) ex W mb)) := pc_of (op_in_seq.or op_in_str) ha hb
  exact PC.imp (PC.or P1 P2) fun σ H Q q => rd_op_or (inD_at false) q
theorem fc_notIn {k : Nat} (hr : L2H.RoomH k X.A) (ha : FE X W ex a ma) (hb : FE X W ex b mb) : FC X W ex .NotIn a b (m2 fNotIn ma mb) := by
  have P1 : PC X .NotIn a b (tOp (rDIn true) (rdE (wo X) ex W ma) (rdE (wo X) ex W mb)) := PC.imp (pc_dnotin (hu1 hr) ha hb) fun σ H Q q => q
  have P2 : PC X .NotIn a b (tOp (rInA X.K true) (rdE (wo X) ex W ma) (rdE (wo X) ex W mb)) := pc_of (op_notIn_seq.or op_notIn_str) ha hb
  exact PC.imp (PC.or P1 P2) fun σ H Q q => rd_op_or (inD_at true) q

/-! ### methods of built-in types -/
/-- what is asked of the receiver ahead of the arguments -/
def isTyp (h : M) (T : String) : D → Bool
  | .str _ => T == "str"
  | .cl _ => T == "list"
  | .loc l => match h[l]? with
    | some (.lst _) => T == "list"
    | some (.dK _) => T == "dict"
    | some (.dT _) => T == "dict"
    | _ => false
  | _ => false
theorem isTyp_ok {G : Wo} {ι : List Addr} {H : Hp} {h : M} {T : String} {d : D} {v : V} (rel : Rel G ι H h) (r : RV G ι H d v) (e : isTyp h T d = true) : tyV G.K T v H := by
  cases d with
  | str x => simp only [isTyp, beq_iff_eq] at e; subst e; simp only [RV] at r; subst r; exact rfl
  | cl xs =>
    simp only [isTyp, beq_iff_eq] at e; subst e
    obtain ⟨a, ws, rfl, s, _⟩ := lstOf_sq (xs := xs) rel r rfl
    exact .inl ⟨rfl, ws, s⟩
  | loc l =>
    simp only [isTyp] at e
    split at e
    · rename_i e1
      simp only [beq_iff_eq] at e; subst e
      obtain ⟨a, ws, rfl, _, q, _⟩ := at_lst rel r e1
      exact .inl ⟨rfl, ws, SqL.of q⟩
    · rename_i e1
      simp only [beq_iff_eq] at e; subst e
      obtain ⟨a, ws, rfl, _, q, _⟩ := at_dK rel r e1
      exact .inr (.inr (.inl ⟨rfl, .inl ⟨ws, q⟩⟩))
    · rename_i e1
      simp only [beq_iff_eq] at e; subst e
      obtain ⟨a, ws, rfl, _, q, _⟩ := at_dT rel r e1
      exact .inr (.inr (.inl ⟨rfl, .inr ⟨ws, q⟩⟩))
    · cases e
  | _ => simp [isTyp] at e
def AbM (G : Wo) (r : V → List V → Hp → VK → Prop) (f : D → List D → M → Res D) : Prop := ∀ (E : WX') ι H h x xs v vs (Q : VK), Rel G ι H h → RV G ι H x v → RVs G ι H xs vs → Post G (fun ι H d v => RV G ι H d v) E ι H (f x xs h) Q → r v vs H Q
def mBM (T : String) (f : D → List D → M → Res D) (mo : ME) (mas : MA) : ME := fun env h => (mo env h).bind fun x h1 => if isTyp h1 T x = true then (mas env h1).bind fun xs h2 => f x xs h2 else .stuck
variable {mo : ME} {name : Str} {apos cpos : Pos} {T id : String} {r : V → List V → Hp → VK → Prop} {f : D → List D → M → Res D}
theorem fe_bm (pa : PlainAttrs T) (slot : Slot T name id) (hty : typeOf (.builtin id) = pure (.type "method_descriptor")) (hm : MtR X id r) (hf : AbM (wo X) r f) (ho : FE X W ex o mo) (hs : FA X W ex (e :: es) mas)
    (hbase : attributeBase o name X.env (eval o X.env) = eval o X.env := by rfl)
    (hfew : ((backTo cpos (starEach (e :: es) X.env)).all (fun x => !x.1) && (backToKw cpos (keywordEach [] X.env)).all (fun x => x.1.isSome)
      && decide ((e :: es).length + ([] : List Keyword).length + (if ([] : List Keyword).isEmpty then 0 else 1) < 30)) = true := by rfl)
    (hline : (apos.endLine == cpos.line) = true := by rfl) (hst : starEach (e :: es) X.env = (false, eval e X.env) :: starEach es X.env := by rfl) (hplain : (backTo cpos (starEach es X.env)).any (·.1) = false := by rfl) :
    FE X W ex (.Call (.Attribute o name apos) (e :: es) [] cpos) (mBM T f mo mas) := by
  refine PE.imp (pe_bm pa slot hty hm ho hs hbase hfew hline hst hplain) fun σ H Q q => ?_
  obtain ⟨ι, h, env, rel, re, po⟩ := q
  refine ⟨ι, h, env, rel, re, post_bind po fun x h1 ι1 H1 v eq1 p1 k1 rel1 rv1 po1 => ?_⟩
  split at po1
  case isFalse => exact po1.elim
  rename_i ht
  refine ⟨isTyp_ok rel1 rv1 ht, ι1, h1, env, rel1, re.mono p1 k1, post_bind po1 fun xs h2 ι2 H2 vs eq2 p2 k2 rel2 rv2 po2 => ?_⟩
  exact hf _ ι2 H2 h2 x xs v vs Q rel2 (RV.mono p2 k2 _ _ rv1) rv2 po2
theorem fe_bm0 (pa : PlainAttrs T) (slot : Slot T name id) (hty : typeOf (.builtin id) = pure (.type "method_descriptor")) (hm : MtR X id r) (hf : AbM (wo X) r f) (ho : FE X W ex o mo)
    (hbase : attributeBase o name X.env (eval o X.env) = eval o X.env := by rfl) (hline : (apos.endLine == cpos.line) = true := by rfl) : FE X W ex (.Call (.Attribute o name apos) [] [] cpos) (mBM T f mo mNil) := by
  refine PE.imp (pe_bm0 pa slot hty hm ho hbase hline) fun σ H Q q => ?_
  obtain ⟨ι, h, env, rel, re, po⟩ := q
  refine ⟨ι, h, env, rel, re, post_bind po fun x h1 ι1 H1 v eq1 p1 k1 rel1 rv1 po1 => ?_⟩
  split at po1
  case isFalse => exact po1.elim
  rename_i ht
  exact ⟨isTyp_ok rel1 rv1 ht, hf _ ι1 H1 h1 x [] v [] Q rel1 rv1 RVs.nil po1⟩
/-- a list changed -/
theorem po_wr {G : Wo} {E : WX'} {ι : List Addr} {H : Hp} {h : M} {l : Nat} {a : Addr} {xs : List D} {vs : List V} {d : D} {v : V} {Q : VK} (rel : Rel G ι H h) (ea : ι[l]? = some a) (r : RVs G ι H xs vs)
    (rd : ∀ H', Keep H H' → RV G ι H' d v) (po : Post G (fun ι H d v => RV G ι H d v) E ι H (.ok d (h.set l (.lst xs))) Q) : Q v (upd H a (.lst vs)) := by
  have k : Keep H (upd H a (.lst vs)) := by
    obtain ⟨u0, e0, nf, mu⟩ := rel.tracked ea
    exact fun b o' eb f => by
      have : b ≠ a := fun z => by rw [z, e0] at eb; cases eb; exact nf f
      rw [upd_ne this]; exact eb
  have w := rel.write (o := .lst xs) (u := .lst vs) ea ⟨vs, upd_same, RVs.mono (List.prefix_refl _) k _ _ r⟩
  exact po ι _ v (List.prefix_refl _) k w.1 (rd _ k)
def fAppend (x : D) (xs : List D) (h : M) : Res D := match x, xs with
  | .loc l, [y] => match h[l]? with
    | some (.lst ys) => if ys.length < sizeLine then .ok .non (h.set l (.lst (ys ++ [y]))) else .stuck
    | _ => .stuck
  | _, _ => .stuck
theorem fe_append (ho : FE X W ex o mo) (hs : FA X W ex (e :: es) mas) (hbase : attributeBase o "append" X.env (eval o X.env) = eval o X.env := by rfl)
    (hfew : ((backTo cpos (starEach (e :: es) X.env)).all (fun x => !x.1) && (backToKw cpos (keywordEach [] X.env)).all (fun x => x.1.isSome)
      && decide ((e :: es).length + ([] : List Keyword).length + (if ([] : List Keyword).isEmpty then 0 else 1) < 30)) = true := by rfl)
    (hline : (apos.endLine == cpos.line) = true := by rfl) (hst : starEach (e :: es) X.env = (false, eval e X.env) :: starEach es X.env := by rfl) (hplain : (backTo cpos (starEach es X.env)).any (·.1) = false := by rfl) :
    FE X W ex (.Call (.Attribute o "append" apos) (e :: es) [] cpos) (mBM "list" fAppend mo mas) := by
  refine fe_bm PySem.F.plainAttrs_list PySem.F.slot_list_append PySem.F.type_list_append mt_append (fun E ι H h x xs v vs Q rel rx rxs po => ?_) ho hs hbase hfew hline hst hplain
  unfold fAppend at po
  split at po
  case h_2 => exact po.elim
  split at po
  case h_2 => exact po.elim
  rename_i ys e1
  split at po
  case isFalse => exact po.elim
  rename_i hz
  obtain ⟨w, rfl, rw'⟩ := rxs.eq1
  obtain ⟨a, ws, rfl, ea, q, r⟩ := at_lst rel rx e1
  have hl := RVs.length r
  exact ⟨a, ws, w, rfl, rfl, q, by omega, po_wr rel ea (r.append (RVs.one rw')) (fun _ _ => by simp [RV]) po⟩
end
/-- extend by a tuple -/
theorem extend_by_tup (l : Addr) (xs : Array Value) (k : Nat) (b : Addr) (ys : Array Value) (n2 : Nat) (dd : Option Addr) (sl : Array (Option Value)) (hs0 : ¬(!xs.isEmpty && Builtin.List.listTooLong (xs.size + ys.size)) = true) (hs1 : xs.size ≤ sizeLine) (hs2 : xs.size + ys.size ≤ sizeLine + 1) :
    Meets (Builtin.«list.extend» ⟨[.ref l, .ref b], []⟩) (fun _ R s => s.heap.get? l = some { cls := .type "list", dict := none, data := .seq xs k, slots := #[] } ∧ s.heap.get? b = some ⟨.type "tuple", dd, .seq ys n2, sl⟩ ∧
      R (.ok (.ret Value.none)) { s with heap := s.heap.update l (Obj.mapSeq fun x => x ++ ys), toks := s.toks }) :=
  .of_wp fun prog w A R s h => by
    obtain ⟨hp, g, d, tk, os⟩ := s
    obtain ⟨hl, hb, h⟩ := h
    have f1 := AutoSeq1.idx_int
    have f2 := AutoSeq1.sub_tuple_tuple; have f3 := AutoSeq1.sub_list_list; have f4 := AutoSeq1.sub_tuple_list; have f5 := AutoSeq1.sub_list_tuple
    have hz' : (xs ++ ys).size ≤ sizeLine + 1 := by rw [Array.size_append]; exact hs2
    wp_walk using (wpAny_updateSeq hl rfl (hz := hs1) (_hz' := hz')), AutoSeq1.wpAny_loadPart' hl, AutoSeq1.wpAny_loadPart' hb
    exact ⟨_, rfl, h⟩
section
variable {X : Cx} {W : WX} {ex : Ex} {e a b i o : Expr} {es : List Expr} {ma mb mc : ME} {mas : MA} {pos : Pos}
variable {mo : ME} {name : Str} {apos cpos : Pos} {T id : String} {r : V → List V → Hp → VK → Prop} {f : D → List D → M → Res D}
theorem mt_extendT : MtM X "list.extend" (fun x vs H Q => ∃ l b xs zs, x = .ref l ∧ vs = [.ref b] ∧ H l = some (.lst xs) ∧ SqT X.K H b zs ∧ xs.length + zs.length ≤ sizeLine ∧ Q .non (upd H l (.lst (xs ++ zs)))) := by
  intro pins s σ H x vs v us Q I rx rv h
  obtain ⟨l, b, xs, zs, rfl, rfl, hH, hB, hz, q⟩ := h
  cases rx
  obtain ⟨u, rfl, ru⟩ := rv.one
  cases ru
  obtain ⟨z, its, n, r, hl, e⟩ := I.lstM hH
  obtain ⟨its2, r2, ⟨ob, e2, c2, n2, d2⟩, hz2⟩ := I.tuple hB
  have hl2 := r2.length
  obtain ⟨oc, od, dt, sl⟩ := ob
  simp only at c2 d2
  subst c2 d2
  have hsz : its.toArray.size + its2.toArray.size ≤ sizeLine := by rw [List.size_toArray, List.size_toArray]; omega
  have hlong : ¬ (!its.toArray.isEmpty && Builtin.List.listTooLong (its.toArray.size + its2.toArray.size)) = true := by
    rw [notLongL hsz, Bool.and_false]
    exact Bool.false_ne_true
  refine call_meets F.slot_list_extend ⟨_, e, rfl⟩ F.entry_list_extend (F.args_list_extend_2 _ _)
    (extend_by_tup l its.toArray n b its2.toArray n2 _ _ hlong (by rw [List.size_toArray]; omega) (by omega)) ⟨e, e2, ?_⟩
  refine ⟨.non, _, I.lset (its' := its ++ its2) hH e (by simp) (r.append r2) ?_, rfl, q⟩
  rw [List.length_append]
  exact hz
theorem MtR_or {r r' : V → List V → Hp → VK → Prop} (h : MtR X id r) (h' : MtR X id r') : MtR X id (fun x xs H Q => r x xs H Q ∨ r' x xs H Q) := by
  intro pins s σ H x xs v us Q I rx rv q
  rcases q with q | q
  · exact h pins s σ H x xs v us Q I rx rv q
  · exact h' pins s σ H x xs v us Q I rx rv q
def fExtend (x : D) (xs : List D) (h : M) : Res D := match x, xs with
  | .loc l, [y] => match h[l]? with
    | some (.lst ys) => match tupOf y with
      | some zs => if ys.length + zs.length ≤ sizeLine then .ok .non (h.set l (.lst (ys ++ zs))) else .stuck
      | none => match y with
        | .loc k => match h[k]? with
          | some (.lst zs) => if ys.length + zs.length ≤ sizeLine then .ok .non (h.set l (.lst (ys ++ zs))) else .stuck
          | _ => .stuck
        | _ => .stuck
    | _ => .stuck
  | _, _ => .stuck
theorem fe_extend (ho : FE X W ex o mo) (hs : FA X W ex (e :: es) mas) (hbase : attributeBase o "extend" X.env (eval o X.env) = eval o X.env := by rfl)
    (hfew : ((backTo cpos (starEach (e :: es) X.env)).all (fun x => !x.1) && (backToKw cpos (keywordEach [] X.env)).all (fun x => x.1.isSome)
      && decide ((e :: es).length + ([] : List Keyword).length + (if ([] : List Keyword).isEmpty then 0 else 1) < 30)) = true := by rfl)
    (hline : (apos.endLine == cpos.line) = true := by rfl) (hst : starEach (e :: es) X.env = (false, eval e X.env) :: starEach es X.env := by rfl) (hplain : (backTo cpos (starEach es X.env)).any (·.1) = false := by rfl) :
    FE X W ex (.Call (.Attribute o "extend" apos) (e :: es) [] cpos) (mBM "list" fExtend mo mas) := by
  refine fe_bm PySem.F.plainAttrs_list PySem.F.slot_list_extend PySem.F.type_list_extend (MtR_or mt_extend mt_extendT) (fun E ι H h x xs v vs Q rel rx rxs po => ?_) ho hs hbase hfew hline hst hplain
  unfold fExtend at po
  split at po
  case h_2 => exact po.elim
  split at po
  case h_2 => exact po.elim
  rename_i ys e1
  obtain ⟨w, rfl, rw'⟩ := rxs.eq1
  obtain ⟨a, ws, rfl, ea, q, r⟩ := at_lst rel rx e1
  have hl := RVs.length r
  split at po
  · rename_i zs ez
    split at po
    case isFalse => exact po.elim
    rename_i hz
    obtain ⟨b, us, rfl, s, r2⟩ := tupOf_sq (G := wo X) rw' ez
    have hl2 := RVs.length r2
    exact .inr ⟨a, b, ws, us, rfl, rfl, q, s, by omega, po_wr rel ea (r.append r2) (fun _ _ => by simp [RV]) po⟩
  · split at po
    · split at po
      · rename_i zs ez
        split at po
        case isFalse => exact po.elim
        rename_i hz
        obtain ⟨b, us, rfl, _, s, r2⟩ := at_lst rel rw' ez
        have hl2 := RVs.length r2
        exact .inl ⟨a, b, ws, us, rfl, rfl, q, s, by omega, po_wr rel ea (r.append r2) (fun _ _ => by simp [RV]) po⟩
      · exact po.elim
    · exact po.elim
end
end LF
set_option Elab.async false
set_option linter.all false
set_option maxRecDepth 100000
set_option maxHeartbeats 4000000
/-! LF5: defs, statements, loops. -/
namespace LF
open PySem PySem.Spec L2
open PyProof.Rows hiding St

/-! ### defs -/
def spF (G : Wo) (n : Nat) (m : List D → M → Res D) : Sp := fun vs H Q E => vs.length = n ∧ ∃ ι h ds, Rel G ι H h ∧ RVs G ι H ds vs ∧ Post G (fun ι H d v => RV G ι H d v) E ι H (m ds h) Q
structure Def (P : Program) (w : World) (K : PySem.W.Frag) (mg : Str → Option Value) (base : Heap) (x : Str) (k n : Nat) (m : List D → M → Res D) : Prop where
  ex : ∃ f fd ps, ps.length = n ∧ mg x = some (.ref f) ∧ PySem.W.keepIn K (.ref f) = true ∧ Binds K fd ps [] ∧ FnOk P w K mg base (L2N.CX P w) k f fd ps (spF ⟨K, mg⟩ n m)
theorem Def.mono {P : Program} {w : World} {K : PySem.W.Frag} {mg : Str → Option Value} {base : Heap} {x : Str} {k k' n : Nat} {m : List D → M → Res D} (F : Def P w K mg base x k n m) (h : k ≤ k') : Def P w K mg base x k' n m := by
  obtain ⟨f, fd, ps, h1, h2, h3, h4, h5⟩ := F.ex
  exact ⟨f, fd, ps, h1, h2, h3, h4, h5.mono h⟩
structure DefH (P : Program) (w : World) (K : PySem.W.Frag) (mg : Str → Option Value) (base : Heap) (x : Str) (k n : Nat) (m : List D → M → Res D) : Prop where
  ex : ∃ f fd ps, ps.length = n ∧ mg x = some (.ref f) ∧ PySem.W.keepIn K (.ref f) = true ∧ Binds K fd ps [] ∧ L2H.FnH P w K mg base (L2N.CX P w) k f fd ps (spF ⟨K, mg⟩ n m)
def mFix (n : Nat) (m : List D → M → Res D) : List D → M → Res D := fun ds h => if ds.length = n then m ds h else .stuck
def mFn (N n : Nat) (mb : MS) : List D → M → Res D := fun ds h =>
  match mb (ds.map .va ++ List.replicate (N - n) .no) h with
  | .nx _ h => .ok .non h
  | .rt d h => .ok d h
  | .exc x ns xs _ h => .exc x ns xs h
  | _ => .stuck
theorem REn.start {G : Wo} {ι : List Addr} {H : Hp} {N : List Str} {ds : List D} {vs : List V} (r : RVs G ι H ds vs) : REn G none ι H (ds.map .va ++ List.replicate (N.length - vs.length) .no) (start N vs) := by
  have hl := RVs.length r
  refine ⟨by simp [L2.start, hl], fun i d e => ?_, fun i e => ?_, fun c e => nomatch e⟩
  · by_cases hi : i < ds.length
    · rw [List.getElem?_append_left (by simpa using hi), List.getElem?_map] at e
      simp only [Option.map_eq_some_iff] at e
      obtain ⟨d', e1, e2⟩ := e
      cases e2
      obtain ⟨v, ev, rv⟩ := r.get e1
      refine ⟨v, ?_, rv⟩
      unfold L2.start
      rw [List.getElem?_append_left (by simp; omega), List.getElem?_map, ev]; rfl
    · rw [List.getElem?_append_right (by simpa using Nat.le_of_not_lt hi), List.getElem?_replicate] at e
      split at e <;> cases e
  · by_cases hi : i < ds.length
    · rw [List.getElem?_append_left (by simpa using hi), List.getElem?_map] at e
      simp only [Option.map_eq_some_iff] at e
      obtain ⟨d', e1, e2⟩ := e
      cases e2
    · rw [List.getElem?_append_right (by simpa using Nat.le_of_not_lt hi), List.getElem?_replicate] at e
      split at e <;> cases e
theorem body_end {G : Wo} {N ps : List Str} {mb : MS} {vs : List V} {H : Hp} {Q : VK} {E : XK} (hsp : spF G ps.length (mFn N.length ps.length mb) vs H Q E) :
    rdS G none (fun c d _ H => E c d H) mb { nx := fun _ H' => Q .non H', rt := Q } (start N vs) H := by
  obtain ⟨hl, ι, h, ds, rel, r, po⟩ := hsp
  refine ⟨ι, h, _, rel, REn.start r, ?_⟩
  unfold mFn at po
  rw [hl]
  generalize mb (ds.map .va ++ List.replicate (N.length - ps.length) .no) h = z at po ⊢
  cases z with
  | nx env h' => exact fun ι' H' σ' p k rel' _ => po ι' H' .non p k rel' (by simp [RV])
  | rt d h' => exact po
  | exc x ns xs env h' => exact fun ι' H' σ' C d p k rel' _ g xf => po ι' H' C d p k rel' g xf
  | bk _ _ => exact po.elim
  | ct _ _ => exact po.elim
  | stuck => exact po.elim
theorem okN {CX : CXT} {P : Program} {w : World} {K : PySem.W.Frag} {mg : Str → Option Value} {base : Heap} {x qual : Str} {st : Stmt} {f : Addr} {fd : FuncData} {N ps : List Str} {k : Nat} {sp : Sp} (F : Fun K x qual st f fd) (S : FnScope N ps (defScope st)) (len : ∀ vs H Q E, sp vs H Q E → vs.length = ps.length)
    (hbody : ∀ (cdv : Value) (A : Around) (outer : List Env) (s : Shared) (H : Hp) (vs : List V) (Q : VK) (E : XK), Room k (A.deeper (envOfC qual (defScope st) s.heap.objs.size f cdv)) → sp vs H Q E →
      ∃ t, PSs (cxOf CX P w K mg base N qual (defScope st) f cdv A outer s H E) (defBody st) t ∧ t { nx := fun _ H' => Q .non H', rt := Q } (start N vs) H) : FnOk P w K mg base CX (k + 1) f fd ps sp := by
  obtain ⟨oc, od, kV, doc, pm, an, cdv, ct, osl, rfl, lk, hcd⟩ := F.ex
  exact fn_of lk hcd S len (hbody cdv)
/-- the same, of a def that is called while an exception is handled -/
theorem okH {CX : CXT} {P : Program} {w : World} {K : PySem.W.Frag} {mg : Str → Option Value} {base : Heap} {x qual : Str} {st : Stmt} {f : Addr} {fd : FuncData} {N ps : List Str} {k : Nat} {sp : Sp} (F : Fun K x qual st f fd) (S : FnScope N ps (defScope st)) (len : ∀ vs H Q E, sp vs H Q E → vs.length = ps.length)
    (hbody : ∀ (cdv : Value) (A : Around) (outer : List Env) (s : Shared) (H : Hp) (vs : List V) (Q : VK) (E : XK) (p : Addr × Obj), L2H.Hot1 A p → L2H.RoomH k (A.deeper (envOfC qual (defScope st) s.heap.objs.size f cdv)) → sp vs H Q E →
      ∃ t, PSs (L2H.cxH CX P w K mg base N qual (defScope st) f cdv A outer s H E p) (defBody st) t ∧ t { nx := fun _ H' => Q .non H', rt := Q } (start N vs) H) : L2H.FnH P w K mg base CX (k + 1) f fd ps sp := by
  obtain ⟨oc, od, kV, doc, pm, an, cdv, ct, osl, rfl, lk, hcd⟩ := F.ex
  exact L2H.fn_ofH lk hcd S len (hbody cdv)
theorem def_of {P : Program} {w : World} {K : PySem.W.Frag} {mg : Str → Option Value} {base : Heap} {x qual : Str} {st : Stmt} {f : Addr} {fd : FuncData} {N ps : List Str} {k : Nat} {mb : MS} (F : Fun K x qual st f fd) (S : FnScope N ps (defScope st)) (gx : mg x = some (.ref f)) (hb : Binds K fd ps [])
    (body : ∀ (cdv : Value) (A : Around) (outer : List Env) (s : Shared) (H : Hp) (E : XK), Room k (A.deeper (envOfC qual (defScope st) s.heap.objs.size f cdv)) →
      FSs (cxOf (L2N.CX P w) P w K mg base N qual (defScope st) f cdv A outer s H E) (fun c d _ H => E c d H) none (defBody st) mb) : Def P w K mg base x (k + 1) ps.length (mFn N.length ps.length mb) :=
  ⟨f, fd, ps, rfl, gx, F.kp, hb, okN F S (fun vs H Q E h => h.1) fun cdv A outer s H vs Q E hr hsp => ⟨_, body cdv A outer s H E hr, body_end hsp⟩⟩
theorem defH_of {P : Program} {w : World} {K : PySem.W.Frag} {mg : Str → Option Value} {base : Heap} {x qual : Str} {st : Stmt} {f : Addr} {fd : FuncData} {N ps : List Str} {k : Nat} {mb : MS} (F : Fun K x qual st f fd) (S : FnScope N ps (defScope st)) (gx : mg x = some (.ref f)) (hb : Binds K fd ps [])
    (body : ∀ (cdv : Value) (A : Around) (outer : List Env) (s : Shared) (H : Hp) (E : XK) (p : Addr × Obj), L2H.Hot1 A p → L2H.RoomH k (A.deeper (envOfC qual (defScope st) s.heap.objs.size f cdv)) →
      FSs (L2H.cxH (L2N.CX P w) P w K mg base N qual (defScope st) f cdv A outer s H E p) (fun c d _ H => E c d H) none (defBody st) mb) : DefH P w K mg base x (k + 1) ps.length (mFn N.length ps.length mb) :=
  ⟨f, fd, ps, rfl, gx, F.kp, hb, okH F S (fun vs H Q E h => h.1) fun cdv A outer s H vs Q E p hot hr hsp => ⟨_, body cdv A outer s H E p hot hr, body_end hsp⟩⟩

section
variable {X : Cx} {W : WX} {ex : Ex} {e a b i o : Expr} {es : List Expr} {ma mb mc me : ME} {mas : MA} {pos pos' p : Pos} {x : Str} {k n : Nat} {m : List D → M → Res D}
theorem fe_call (F : Def X.prog X.w X.K X.mg X.base x k n m) (tk : L2N.Takes X W) (hr : Room k X.A) (hs : FA X W ex (e :: es) mas) (hg : Gl X x := by rfl) (hdb : (x == ("__debug__" : Str)) = false := by decide)
    (he : starEach (e :: es) X.env = (false, eval e X.env) :: starEach es X.env := by rfl) (hpl : (backTo pos (starEach es X.env)).any (·.1) = false := by rfl) : FE X W ex (.Call (.Name x p) (e :: es) [] pos) (mL (mFix n m) mas) := by
  obtain ⟨f, fd, ps, h1, h2, h3, h4, h5⟩ := F.ex
  refine PE.imp (pe_callS h5 hr hg h2 h3 h4 (L2N.passAt tk) hs hdb he hpl) fun σ H Q q => ?_
  obtain ⟨ι, h, env, rel, re, po⟩ := q
  refine ⟨ι, h, env, rel, re, post_bind po fun xs h1 ι1 H1 vs eq1 p1 k1 rel1 rv1 po1 => ?_⟩
  unfold mFix at po1
  split at po1
  case isFalse => exact po1.elim
  rename_i hl
  exact ⟨by rw [← RVs.length rv1]; exact hl, ι1, h1, xs, rel1, rv1, po1⟩
theorem fe_call0 (F : Def X.prog X.w X.K X.mg X.base x k n m) (tk : L2N.Takes X W) (hr : Room k X.A) (hn : n = 0) (hg : Gl X x := by rfl) (hdb : (x == ("__debug__" : Str)) = false := by decide) : FE X W ex (.Call (.Name x p) [] [] pos) (mL m mNil) := by
  obtain ⟨f, fd, ps, h1, h2, h3, h4, h5⟩ := F.ex
  have P0 : PE X (.Call (.Name x p) [] [] pos) (fun σ H Q => spF ⟨X.K, X.mg⟩ n m [] H Q (WE W σ)) := by
    refine ⟨fun pins s σ H Q I h => ?_⟩
    refine wpAny_Call_Name_kw (ld_glob I hg h2 ?_ hdb)
    exact PySem.W.callWith_K0 I.kIn h3 (run_fnS (E := WE W) (us := []) h5 hr h4 (L2N.passAt tk σ) I .nil h)
  refine PE.imp P0 fun σ H Q q => ?_
  obtain ⟨ι, h, env, rel, re, po⟩ := q
  exact ⟨hn.symm, ι, h, [], rel, RVs.nil, po⟩

/-- a def, called while an exception is handled -/
theorem fe_callH (F : DefH X.prog X.w X.K X.mg X.base x k n m) (tk : L2N.Takes X W) (hu : L2H.RoomH k X.A) (hc : L2H.HotC X) (hs : FA X W ex (e :: es) mas) (hg : Gl X x := by rfl) (hdb : (x == ("__debug__" : Str)) = false := by decide)
    (he : starEach (e :: es) X.env = (false, eval e X.env) :: starEach es X.env := by rfl) (hpl : (backTo pos (starEach es X.env)).any (·.1) = false := by rfl) : FE X W ex (.Call (.Name x p) (e :: es) [] pos) (mL (mFix n m) mas) := by
  obtain ⟨f, fd, ps, h1, h2, h3, h4, h5⟩ := F.ex
  refine PE.imp (L2H.pe_callH h5 hu hc hg h2 h3 h4 (L2N.passAt tk) hs hdb he hpl) fun σ H Q q => ?_
  obtain ⟨ι, h, env, rel, re, po⟩ := q
  refine ⟨ι, h, env, rel, re, post_bind po fun xs h1 ι1 H1 vs eq1 p1 k1 rel1 rv1 po1 => ?_⟩
  unfold mFix at po1
  split at po1
  case isFalse => exact po1.elim
  rename_i hl
  exact ⟨by rw [← RVs.length rv1]; exact hl, ι1, h1, xs, rel1, rv1, po1⟩

/-! ### small statements -/
def SR.of {α : Type} (r : Res α) (env : En) (k : α → M → SR) : SR :=
  match r with
  | .ok a h => k a h
  | .exc x ns vs h => .exc x ns vs env h
  | .stuck => .stuck
@[simp] theorem of_ok {α : Type} {a : α} {h : M} {env : En} {k : α → M → SR} : SR.of (.ok a h) env k = k a h := (rfl)
@[simp] theorem of_exc {α : Type} {x ns vs} {h : M} {env : En} {k : α → M → SR} : SR.of (.exc x ns vs h) env k = .exc x ns vs env h := (rfl)
@[simp] theorem of_stuck {α : Type} {env : En} {k : α → M → SR} : SR.of (.stuck : Res α) env k = .stuck := (rfl)
theorem post_of {α β : Type} {G : Wo} {B : List Addr → Hp → α → β → Prop} {ι : List Addr} {H : Hp} {r : Res α} {env : En} {σ : St} {k : α → M → SR} {D : Ends} {Q : β → Hp → Prop} (re : REn G ex ι H env σ)
    (h : PostS G ex W ι H (SR.of r env k) D) (hk : ∀ d h1 ι1 H1 v, r = .ok d h1 → ι <+: ι1 → Keep H H1 → Rel G ι1 H1 h1 → B ι1 H1 d v → PostS G ex W ι1 H1 (k d h1) D → Q v H1) : Post G B (fun c d H' => W c d σ H') ι H r Q := by
  cases r with
  | ok d h1 => exact fun ι1 H1 v p kk rel b => hk d h1 ι1 H1 v rfl p kk rel b (PostS.mono p kk h)
  | exc x ns xs h1 => exact fun ι1 H1 C d p kk rel g xf => h ι1 H1 σ C d p kk rel (re.mono p kk) g xf
  | stuck => exact h
theorem ps_nx {G : Wo} {ι : List Addr} {H : Hp} {env : En} {σ : St} {h : M} {D : Ends} (rel : Rel G ι H h) (re : REn G ex ι H env σ) (po : PostS G ex W ι H (.nx env h) D) : D.nx σ H := po ι H σ (List.prefix_refl _) (Keep.refl _) rel re
variable {st : Stmt} {rest body sa sb : List Stmt} {ms ms' msa msb : MS} {tc : MT} {c : Expr}
def mSkip : MS := fun env h => .nx env h
def mSeq (a b : MS) : MS := fun env h => match a env h with
  | .nx env' h' => b env' h'
  | r => r
theorem fs_nil : FSs X W ex [] mSkip := by
  refine PSs.imp pss_nil fun D σ H q => ?_
  obtain ⟨ι, h, env, rel, re, po⟩ := q
  exact ps_nx rel re po
theorem fs_cons (h1 : FS X W ex st ms) (h2 : FSs X W ex rest ms') : FSs X W ex (st :: rest) (mSeq ms ms') := by
  refine PSs.imp (pss_cons h1 h2) fun D σ H q => ?_
  obtain ⟨ι, h, env, rel, re, po⟩ := q
  refine ⟨ι, h, env, rel, re, ?_⟩
  unfold mSeq at po
  cases e : ms env h <;> rw [e] at po
  case nx env' h' => exact fun ι' H' σ' p k rel' re' => ⟨ι', h', env', rel', re', PostS.mono p k po⟩
  all_goals exact po
theorem fs_one (h1 : FS X W ex st ms) : FSs X W ex [st] ms := pss_one h1
theorem fs_pass : FS X W ex (.Pass pos) mSkip := by
  refine PS.imp ps_pass fun D σ H q => ?_
  obtain ⟨ι, h, env, rel, re, po⟩ := q
  exact ps_nx rel re po
theorem fs_doc {z j} : FS X W ex (.Expr (.Constant (.str z) j pos) pos') mSkip := by
  refine PS.imp ps_doc fun D σ H q => ?_
  obtain ⟨ι, h, env, rel, re, po⟩ := q
  exact ps_nx rel re po
def mBreak : MS := fun env h => .bk env h
def mCont : MS := fun env h => .ct env h
theorem fs_break : FS X W ex (.Break pos) mBreak := by
  refine PS.imp ps_break fun D σ H q => ?_
  obtain ⟨ι, h, env, rel, re, po⟩ := q
  exact po ι H σ (List.prefix_refl _) (Keep.refl _) rel re
theorem fs_cont : FS X W ex (.Continue pos) mCont := by
  refine PS.imp ps_continue fun D σ H q => ?_
  obtain ⟨ι, h, env, rel, re, po⟩ := q
  exact po ι H σ (List.prefix_refl _) (Keep.refl _) rel re
def mSet (i : Nat) (me : ME) : MS := fun env h => SR.of (me env h) env fun d h => .nx (env.set i (.va d)) h
theorem fs_set {i : Nat} (hN : X.N.Nodup) (he : FE X W ex e me) (hi : X.N[i]? = some x := by rfl) (hx : Loc X.env.scope x := by first | exact Or.inl rfl | exact Or.inr rfl) (hs : swapsWith e (some (.Name x pos')) pos.line X.env = pure false := by rfl)
    (hf : X.fn x = true ∨ X.env.scope.names.lookup x = some .local := by first | exact .inl rfl | exact .inr rfl | assumption) : FS X W ex (.Assign [.Name x pos'] e pos) (mSet i me) := by
  refine PS.imp (ps_set hN hi hx he hs hf) fun D σ H q => ?_
  obtain ⟨ι, h, env, rel, re, po⟩ := q
  refine ⟨ι, h, env, rel, re, post_of re po fun d h1 ι1 H1 v eq1 p1 k1 rel1 rv1 po1 => ?_⟩
  exact ps_nx rel1 ((re.mono p1 k1).set i rv1) po1
def mDo (me : ME) : MS := fun env h => SR.of (me env h) env fun _ h => .nx env h
theorem fs_expr (he : FE X W ex e me) (hs : swapsWith e none pos.line X.env = pure false := by rfl) : FS X W ex (.Expr e pos) (mDo me) := by
  refine PS.imp (ps_expr he hs) fun D σ H q => ?_
  obtain ⟨ι, h, env, rel, re, po⟩ := q
  refine ⟨ι, h, env, rel, re, post_of re po fun d h1 ι1 H1 v eq1 p1 k1 rel1 rv1 po1 => ?_⟩
  exact ps_nx rel1 (re.mono p1 k1) po1
def mRet (me : ME) : MS := fun env h => SR.of (me env h) env fun d h => .rt d h
theorem fs_ret (he : FE X W ex e me) : FS X W ex (.Return (some e) pos) (mRet me) := by
  refine PS.imp (ps_ret he) fun D σ H q => ?_
  obtain ⟨ι, h, env, rel, re, po⟩ := q
  refine ⟨ι, h, env, rel, re, post_of re po fun d h1 ι1 H1 v eq1 p1 k1 rel1 rv1 po1 => ?_⟩
  exact po1 ι1 H1 v (List.prefix_refl _) (Keep.refl _) rel1 rv1
def mRetN : MS := fun env h => .rt .non h
theorem fs_retN : FS X W ex (.Return none pos) mRetN := by
  refine PS.imp ps_retN fun D σ H q => ?_
  obtain ⟨ι, h, env, rel, re, po⟩ := q
  exact po ι H .non (List.prefix_refl _) (Keep.refl _) rel (by simp [RV])
def mIfS (t : MT) (a b : MS) : MS := fun env h => SR.of (t env h) env fun b' h => if b' = true then a env h else b env h
theorem fs_if (hc : FT X W ex c tc) (ha : FSs X W ex sa msa) (hb : FSs X W ex sb msb) : FS X W ex (.If c sa sb pos) (mIfS tc msa msb) := by
  refine PS.imp (ps_if hc ha hb) fun D σ H q => ?_
  obtain ⟨ι, h, env, rel, re, po⟩ := q
  refine ⟨ι, h, env, rel, re, post_of re po fun d h1 ι1 H1 v eq1 p1 k1 rel1 rv1 po1 => ?_⟩
  cases rv1
  cases d with
  | true => exact iteT ⟨ι1, h1, env, rel1, re.mono p1 k1, po1⟩
  | false => exact iteF ⟨ι1, h1, env, rel1, re.mono p1 k1, po1⟩
/-- name op= e -/
def mAug (i : Nat) (f : D → D → M → Res D) (me : ME) : MS := fun env h => match env[i]? with
  | some (.va d) => SR.of ((me env h).bind fun y h1 => f d y h1) env fun z h2 => .nx (env.set i (.va z)) h2
  | _ => .stuck
theorem fs_aug {i : Nat} {op : Operator} {r : R2} {f : D → D → M → Res D} (ho : OpR X (inplaceOp op) r) (hf : Ab2 (wo X) r f) (hN : X.N.Nodup) (he : FE X W ex e me) (hi : X.N[i]? = some x := by rfl) (hx : Loc X.env.scope x := by first | exact Or.inl rfl | exact Or.inr rfl)
    (hfn : X.fn x = true ∨ X.env.scope.names.lookup x = some .local := by first | exact .inl rfl | exact .inr rfl | assumption) : FS X W ex (.AugAssign (.Name x pos') op e pos) (mAug i f me) := by
  refine PS.imp (ps_aug (ti := r) hN hi hx he ho hfn) fun D σ H q => ?_
  obtain ⟨ι, h, env, rel, re, po⟩ := q
  unfold mAug at po
  split at po
  case h_2 => exact po.elim
  rename_i d ed
  obtain ⟨v, ev, rv⟩ := re.at_ i d ed
  refine ⟨v, ev, ι, h, env, rel, re, ?_⟩
  have po' := post_of (σ := σ) (B := fun ι H d v => RV (wo X) ι H d v) (Q := fun z H2 => D.nx (σ.set i (some z)) H2) re po fun z h2 ι2 H2 zv eq2 p2 k2 rel2 rv2 po2 => ps_nx rel2 ((re.mono p2 k2).set i rv2) po2
  exact post_bind po' fun y h1 ι1 H1 u eq1 p1 k1 rel1 rv1 po1 => hf _ ι1 H1 h1 d y v u _ rel1 (RV.mono p1 k1 _ _ rv) rv1 po1
theorem fs_augadd {i : Nat} (hN : X.N.Nodup) (he : FE X W ex e me) (hi : X.N[i]? = some x := by rfl) (hx : Loc X.env.scope x := by first | exact Or.inl rfl | exact Or.inr rfl)
    (hfn : X.fn x = true ∨ X.env.scope.names.lookup x = some .local := by first | exact .inl rfl | exact .inr rfl | assumption) : FS X W ex (.AugAssign (.Name x pos') .Add e pos) (mAug i (fI (fun _ _ => True) fun i j => .int (i + j)) me) :=
  fs_aug iop_add (ab_I0 fun _ _ _ _ => by simp [RV]) hN he hi hx hfn
theorem fs_augsub {i : Nat} (hN : X.N.Nodup) (he : FE X W ex e me) (hi : X.N[i]? = some x := by rfl) (hx : Loc X.env.scope x := by first | exact Or.inl rfl | exact Or.inr rfl)
    (hfn : X.fn x = true ∨ X.env.scope.names.lookup x = some .local := by first | exact .inl rfl | exact .inr rfl | assumption) : FS X W ex (.AugAssign (.Name x pos') .Sub e pos) (mAug i fSub me) :=
  fs_aug iop_sub (ab_I0 fun _ _ _ _ => by simp [RV]) hN he hi hx hfn

/-! ### targets -/
abbrev MG := D → En → M → Res En
abbrev MGs := List D → En → M → Res En
/-- the slots at sl alone may be changed -/
def Only' (sl : List Nat) (σ σ' : St) : Prop := ∀ vs : List Nat, (∀ i ∈ sl, i ∈ vs) → wipe σ' vs = wipe σ vs
def rdG (G : Wo) (ex : Ex) (W : WX) (sl : List Nat) (m : MG) : TG := fun v σ H Q => ∃ ι h env d, Rel G ι H h ∧ REn G ex ι H env σ ∧ RV G ι H d v ∧ Post G (fun ι H env' σ' => REn G ex ι H env' σ' ∧ Only' sl σ σ') (fun c d H' => W c d σ H') ι H (m d env h) Q
def rdGs (G : Wo) (ex : Ex) (W : WX) (sl : List Nat) (m : MGs) : TGs := fun vs σ H Q => ∃ ι h env ds, Rel G ι H h ∧ REn G ex ι H env σ ∧ RVs G ι H ds vs ∧ Post G (fun ι H env' σ' => REn G ex ι H env' σ' ∧ Only' sl σ σ') (fun c d H' => W c d σ H') ι H (m ds env h) Q
def FG (X : Cx) (W : WX) (ex : Ex) (e : Expr) (sl : List Nat) (m : MG) : Prop := PG X e (rdG (wo X) ex W sl m)
def FGs (X : Cx) (W : WX) (ex : Ex) (es : List Expr) (sl : List Nat) (m : MGs) : Prop := PGs X es (rdGs (wo X) ex W sl m)
theorem PG.imp {t t' : TG} (p : PG X e t) (h : ∀ v σ H Q, t' v σ H Q → t v σ H Q) : PG X e t' := ⟨fun pins s σ H v u Q I r q => p.run pins s σ H v u Q I r (h v σ H Q q)⟩
theorem PGs.imp {t t' : TGs} (p : PGs X es t) (h : ∀ v σ H Q, t' v σ H Q → t v σ H Q) : PGs X es t' := ⟨fun pins s σ H v u Q I r q => p.run pins s σ H v u Q I r (h v σ H Q q)⟩
def gN (i : Nat) : MG := fun d env h => .ok (env.set i (.va d)) h
theorem wipe_set (i : Nat) (v : Option V) : ∀ (vs : List Nat) (σ : St), i ∈ vs → wipe (σ.set i v) vs = wipe σ vs
  | [], _, h => by cases h
  | u :: vs, σ, h => by
    show (wipe (σ.set i v) vs).set u none = (wipe σ vs).set u none
    by_cases hi : i ∈ vs
    · rw [wipe_set i v vs σ hi]
    · have e : u = i := by
        rcases List.mem_cons.mp h with z | z
        · exact z.symm
        · exact absurd z hi
      subst e
      have out : ∀ (vs : List Nat) (σ : St), wipe (σ.set u v) vs = (wipe σ vs).set u v ∨ wipe (σ.set u v) vs = wipe σ vs := by
        intro vs
        induction vs with
        | nil => intro σ; exact .inl rfl
        | cons z vs ih =>
          intro σ
          show (wipe (σ.set u v) vs).set z none = ((wipe σ vs).set z none).set u v ∨ (wipe (σ.set u v) vs).set z none = (wipe σ vs).set z none
          rcases ih σ with e | e
          · rw [e]
            by_cases hz : z = u
            · subst hz; right; rw [List.set_set]
            · left; rw [List.set_comm _ _ hz]
          · right; rw [e]
      rcases out vs σ with e | e
      · rw [e, List.set_set]
      · rw [e]
theorem fg_name {i : Nat} (hN : X.N.Nodup) (hi : X.N[i]? = some x := by rfl) (hx : Loc X.env.scope x := by first | exact Or.inl rfl | exact Or.inr rfl) (hf : X.fn x = true ∨ X.env.scope.names.lookup x = some .local := by first | exact .inl rfl | exact .inr rfl | assumption) : FG X W ex (.Name x pos) [i] (gN i) := by
  refine PG.imp (pg_name hN hi hx hf) fun v σ H Q q => ?_
  obtain ⟨ι, h, env, d, rel, re, rv, po⟩ := q
  exact po_ok rel ⟨re.set i rv, fun vs hv => wipe_set i _ vs σ (hv i (by simp))⟩ po
def gNil' : MGs := fun ds env h => match ds with
  | [] => .ok env h
  | _ :: _ => .stuck
theorem fgs_nil : FGs X W ex [] [] gNil' := by
  refine PGs.imp pgs_nil fun v σ H Q q => ?_
  obtain ⟨ι, h, env, ds, rel, re, rv, po⟩ := q
  cases ds with
  | nil => simp only [RVs] at rv; exact ⟨rv, po_ok rel ⟨re, fun _ _ => rfl⟩ po⟩
  | cons d ds => exact po.elim
/-- a target's end that raises nothing: stuck in place of an exception -/
def noX {α : Type} (r : Res α) : Res α := match r with
  | .ok a h => .ok a h
  | _ => .stuck
@[simp] theorem noX_ok {α : Type} {a : α} {h : M} : noX (.ok a h) = .ok a h := (rfl)
theorem post_noX {α β : Type} {G : Wo} {B : List Addr → Hp → α → β → Prop} {E E' : WX'} {ι : List Addr} {H : Hp} {r : Res α} {Q : β → Hp → Prop} (h : Post G B E ι H (noX r) Q) : Post G B E' ι H r Q := by
  cases r with
  | ok d h1 => exact h
  | exc x ns xs h1 => exact h.elim
  | stuck => exact h
theorem post_B {α β : Type} {G : Wo} {B B' : List Addr → Hp → α → β → Prop} {E : WX'} {ι : List Addr} {H : Hp} {r : Res α} {Q : β → Hp → Prop} (h : Post G B E ι H r Q) (hb : ∀ ι' H' a b, B' ι' H' a b → B ι' H' a b) : Post G B' E ι H r Q := by
  cases r with
  | ok d h1 => exact fun ι' H' v p k rel b => h ι' H' v p k rel (hb _ _ _ _ b)
  | exc x ns xs h1 => exact h
  | stuck => exact h
def gCons' (g : MG) (gs : MGs) : MGs := fun ds env h => match ds with
  | d :: ds => (g d env h).bind fun env' h' => noX (gs ds env' h')
  | [] => .stuck
theorem fgs_cons {g : MG} {gs : MGs} {sl sl' : List Nat} (h1 : FG X W ex e sl g) (h2 : FGs X W ex es sl' gs) (hs : (assignEach (e :: es) X.env).map (·.2) = assign e X.env :: (assignEach es X.env).map (·.2) := by rfl) : FGs X W ex (e :: es) (sl ++ sl') (gCons' g gs) := by
  refine PGs.imp (pgs_cons h1 h2 hs) fun v σ H Q q => ?_
  obtain ⟨ι, h, env, ds, rel, re, rv, po⟩ := q
  cases ds with
  | nil => exact po.elim
  | cons d ds =>
    simp only [RVs] at rv
    obtain ⟨v1, vr, rfl, r1, r2⟩ := rv
    refine ⟨v1, vr, rfl, ι, h, env, d, rel, re, r1, post_bind po fun env1 h1 ι1 H1 σ1 eq1 p1 k1 rel1 re1 po1 => ?_⟩
    refine ⟨ι1, h1, env1, ds, rel1, re1.1, RVs.mono p1 k1 _ _ r2, post_noX (post_B po1 fun ι' H' env' σ' b => ⟨b.1, fun vs hv => ?_⟩)⟩
    rw [b.2 vs fun i hi => hv i (by simp [hi]), re1.2 vs fun i hi => hv i (by simp [hi])]
def gTp (n : Nat) (gs : MGs) : MG := fun d env h => match tupOf d with
  | some xs => if xs.length = n then gs xs env h else .stuck
  | none => .stuck
theorem fg_tup {gs : MGs} {kk : Nat} {sl : List Nat} (h : FGs X W ex es sl gs) (hc : X.calm = true := by rfl) (hn : (assignEach es X.env).length = n := by rfl) (hst : (assignEach es X.env).findIdx? (·.1) = none := by rfl) : FG X W ex (.Tuple es kk pos) sl (gTp n gs) := by
  refine PG.imp (pg_tup hc h hn hst) fun v σ H Q q => ?_
  obtain ⟨ι, h, env, d, rel, re, rv, po⟩ := q
  unfold gTp at po
  split at po
  case h_2 => exact po.elim
  rename_i xs ed
  split at po
  case isFalse => exact po.elim
  rename_i hl
  obtain ⟨a, vs, rfl, s, r⟩ := tupOf_sq (G := wo X) rv ed
  exact ⟨a, vs, rfl, s, by rw [← RVs.length r]; exact hl, ι, h, env, xs, rel, re, r, po⟩
/-- target = value -/
def mAsg (me : ME) (g : MG) : MS := fun env h => SR.of (me env h) env fun d h => SR.of (g d env h) env fun env' h => .nx env' h
theorem fs_asg {tg : Expr} {g : MG} {sl : List Nat} (he : FE X W ex e me) (hg : FG X W ex tg sl g) (hs : swapsWithSole [tg] e pos.line X.env = pure false := by rfl) (hw : swappedStores [tg] e X.env = pure none := by rfl)
    (h1 : (assignEach [tg] X.env).map (·.2) = [assign tg X.env] := by rfl) : FS X W ex (.Assign [tg] e pos) (mAsg me g) := by
  refine PS.imp (ps_asg he hg hs hw h1) fun D σ H q => ?_
  obtain ⟨ι, h, env, rel, re, po⟩ := q
  refine ⟨ι, h, env, rel, re, post_of re po fun d h1 ι1 H1 v eq1 p1 k1 rel1 rv1 po1 => ?_⟩
  refine ⟨ι1, h1, env, d, rel1, re.mono p1 k1, rv1, post_of (re.mono p1 k1) po1 fun env' h2 ι2 H2 σ2 eq2 p2 k2 rel2 re2 po2 => ?_⟩
  exact ps_nx rel2 re2.1 po2

/-! ### o[i] = e: a list, a dict -/
abbrev BU : List Addr → Hp → Unit → Unit → Prop := fun _ _ _ _ => True
abbrev R3 := V → V → V → Hp → (Hp → Prop) → Prop
def t3 (r : R3) (to ti te : TE) : TS := fun D σ H => te σ H fun v H1 => to σ H1 fun o H2 => ti σ H2 fun i H3 => r o i v H3 fun H4 => D.nx σ H4
def At3 (G : Wo) (r : R3) (f : D → D → D → M → Res Unit) (o i v : D) (h : M) : Prop := ∀ (E : WX') ι H ov iv vv (Q : Hp → Prop), Rel G ι H h → RV G ι H o ov → RV G ι H i iv → RV G ι H v vv → Post G BU E ι H (f o i v h) (fun _ H' => Q H') → r ov iv vv H Q
def m3 (f : D → D → D → M → Res Unit) (mo mi me : ME) : MS := fun env h => SR.of ((me env h).bind fun v h1 => (mo env h1).bind fun o h2 => (mi env h2).bind fun i h3 => f o i v h3) env fun _ h => .nx env h
theorem rd3_or {r r' : R3} {f : D → D → D → M → Res Unit} {G : Wo} {mo mi : ME} (hf : ∀ o i v h, At3 G r f o i v h ∨ At3 G r' f o i v h) {D : Ends} {σ : St} {H : Hp} (q : rdS G ex W (m3 f mo mi me) D σ H) :
    t3 r (rdE G ex W mo) (rdE G ex W mi) (rdE G ex W me) D σ H ∨ t3 r' (rdE G ex W mo) (rdE G ex W mi) (rdE G ex W me) D σ H := by
  obtain ⟨ι, h, env, rel, re, po⟩ := q
  -- the way by the values, where all three come to one
  have go : ∀ (R : R3), (∀ v h1 o h2 i h3, me env h = .ok v h1 → mo env h1 = .ok o h2 → mi env h2 = .ok i h3 → At3 G R f o i v h3) → t3 R (rdE G ex W mo) (rdE G ex W mi) (rdE G ex W me) D σ H := fun R hR => by
    have po' := post_of (σ := σ) (B := BU) (Q := fun _ H' => D.nx σ H') re po fun _ h2 ι2 H2 zv eq2 p2 k2 rel2 rv2 po2 => ps_nx rel2 (re.mono p2 k2) po2
    refine ⟨ι, h, env, rel, re, post_bind po' fun v h1 ι1 H1 vv eq1 p1 k1 rel1 rv1 po1 => ?_⟩
    refine ⟨ι1, h1, env, rel1, re.mono p1 k1, post_bind po1 fun o h2 ι2 H2 ov eq2 p2 k2 rel2 rv2 po2 => ?_⟩
    refine ⟨ι2, h2, env, rel2, (re.mono p1 k1).mono p2 k2, post_bind po2 fun i h3 ι3 H3 iv eq3 p3 k3 rel3 rv3 po3 => ?_⟩
    exact hR v h1 o h2 i h3 eq1 eq2 eq3 _ ι3 H3 ov iv vv _ rel3 (RV.mono p3 k3 _ _ rv2) rv3 (RV.mono (p2.trans p3) (k2.trans k3) _ _ rv1) po3
  cases e1 : me env h with
  | ok v h1 =>
    cases e2 : mo env h1 with
    | ok o h2 =>
      cases e3 : mi env h2 with
      | ok i h3 =>
        have sole : ∀ v' h1' o' h2' i' h3', me env h = .ok v' h1' → mo env h1' = .ok o' h2' → mi env h2' = .ok i' h3' → v' = v ∧ o' = o ∧ i' = i ∧ h3' = h3 := fun v' h1' o' h2' i' h3' a b c => by
          rw [e1] at a; cases a; rw [e2] at b; cases b; rw [e3] at c; cases c; exact ⟨rfl, rfl, rfl, rfl⟩
        rcases hf o i v h3 with z | z
        · exact .inl (go r fun v' h1' o' h2' i' h3' a b c => by obtain ⟨rfl, rfl, rfl, rfl⟩ := sole _ _ _ _ _ _ a b c; exact z)
        · exact .inr (go r' fun v' h1' o' h2' i' h3' a b c => by obtain ⟨rfl, rfl, rfl, rfl⟩ := sole _ _ _ _ _ _ a b c; exact z)
      | exc _ _ _ _ => exact .inl (go r fun v' h1' o' h2' i' h3' a b c => by rw [e1] at a; cases a; rw [e2] at b; cases b; rw [e3] at c; cases c)
      | stuck => exact .inl (go r fun v' h1' o' h2' i' h3' a b c => by rw [e1] at a; cases a; rw [e2] at b; cases b; rw [e3] at c; cases c)
    | exc _ _ _ _ => exact .inl (go r fun v' h1' o' h2' i' h3' a b c => by rw [e1] at a; cases a; rw [e2] at b; cases b)
    | stuck => exact .inl (go r fun v' h1' o' h2' i' h3' a b c => by rw [e1] at a; cases a; rw [e2] at b; cases b)
  | exc _ _ _ _ => exact .inl (go r fun v' h1' o' h2' i' h3' a b c => by rw [e1] at a; cases a)
  | stuck => exact .inl (go r fun v' h1' o' h2' i' h3' a b c => by rw [e1] at a; cases a)
def fPut (o i v : D) (h : M) : Res Unit := match o with
  | .loc l => match h[l]? with
    | some (.lst xs) => match i with
      | .int k => match ixN xs.length k with
        | some j => .ok () (h.set l (.lst (xs.set j v)))
        | none => .stuck
      | _ => .stuck
    | some (.dK kvs) => match keyD i with
      | some k => if kvs.length < sizeLine then .ok () (h.set l (.dK (putD kvs k v))) else .stuck
      | none => .stuck
    | some (.dT kvs) => match keysD i with
      | some k => if kvs.length < sizeLine then .ok () (h.set l (.dT (putD kvs k v))) else .stuck
      | none => .stuck
    | _ => .stuck
  | _ => .stuck
/-- an object written: the end -/
theorem po_wrU {G : Wo} {E : WX'} {ι : List Addr} {H : Hp} {h : M} {l : Nat} {a : Addr} {ob : O} {u : HO} {Q : Hp → Prop} (rel : Rel G ι H h) (ea : ι[l]? = some a) (ro : ∀ H', Keep H H' → H' = upd H a u → RO G ι H' a ob)
    (po : Post G BU E ι H (.ok () (h.set l ob)) (fun _ H' => Q H')) : Q (upd H a u) := by
  have k : Keep H (upd H a u) := by
    obtain ⟨u0, e0, nf, mu⟩ := rel.tracked ea
    exact fun b o' eb f => by
      have : b ≠ a := fun z => by rw [z, e0] at eb; cases eb; exact nf f
      rw [upd_ne this]; exact eb
  have w := rel.write (o := ob) (u := u) ea (ro _ k rfl)
  exact po ι _ () (List.prefix_refl _) k w.1 trivial
def rDPut : R3 := fun x y v H Q => ∃ a H', x = .ref a ∧ DPut H a y v H' ∧ Q H'
theorem put_at {G : Wo} (o i v : D) (h : M) : At3 G rSetL fPut o i v h ∨ At3 G rDPut fPut o i v h := by
  cases o with
  | loc l =>
    cases e : h[l]? with
    | none => exact .inl fun E ι H ov iv vv Q rel ro ri rv po => by simp only [fPut, e] at po; exact po.elim
    | some ob =>
      cases ob with
      | lst xs =>
        refine .inl fun E ι H ov iv vv Q rel ro ri rv po => ?_
        simp only [fPut, e] at po
        split at po
        case h_2 => exact po.elim
        rename_i k
        split at po
        case h_2 => exact po.elim
        rename_i j ej
        obtain ⟨a, ws, rfl, ea, q, r⟩ := at_lst rel ro e
        simp only [RV] at ri; subst ri
        exact ⟨a, ws, k, j, rfl, rfl, q, by rw [← RVs.length r]; exact ej, po_wrU (ob := .lst (xs.set j v)) rel ea (fun H' kp eq => ⟨_, by rw [eq]; exact upd_same, RVs.mono (List.prefix_refl _) kp _ _ (r.set j rv)⟩) po⟩
      | dK kvs =>
        refine .inr fun E ι H ov iv vv Q rel ro ri rv po => ?_
        simp only [fPut, e] at po
        split at po
        case h_2 => exact po.elim
        rename_i k ek
        split at po
        case isFalse => exact po.elim
        rename_i hz
        obtain ⟨a, ws, rfl, ea, q, r⟩ := at_dK rel ro e
        rw [keyD_ok ri ek]
        exact ⟨a, _, rfl, DPut.k q (by rw [← RKs.len r]; exact hz), po_wrU (ob := .dK (putD kvs k v)) rel ea (fun H' kp eq => ⟨_, by rw [eq]; exact upd_same, (r.put rv).mono (List.prefix_refl _) kp⟩) po⟩
      | dT kvs =>
        refine .inr fun E ι H ov iv vv Q rel ro ri rv po => ?_
        simp only [fPut, e] at po
        split at po
        case h_2 => exact po.elim
        rename_i k ek
        split at po
        case isFalse => exact po.elim
        rename_i hz
        obtain ⟨a, ws, rfl, ea, q, r⟩ := at_dT rel ro e
        obtain ⟨b, rfl, hb⟩ := keysD_ok ri ek
        exact ⟨a, _, rfl, DPut.t q hb (by rw [← RKs.len r]; exact hz), po_wrU (ob := .dT (putD kvs k v)) rel ea (fun H' kp eq => ⟨_, by rw [eq]; exact upd_same, (r.put rv).mono (List.prefix_refl _) kp⟩) po⟩
      | ins x fs => exact .inl fun E ι H ov iv vv Q rel ro ri rv po => by simp only [fPut, e] at po; exact po.elim
  | _ => exact .inl fun E ι H ov iv vv Q rel ro ri rv po => by simp only [fPut] at po; exact po.elim
theorem PS.or {t t' : TS} (p : PS X st t) (p' : PS X st t') : PS X st (fun D σ H => t D σ H ∨ t' D σ H) := ⟨fun pins s σ H D I h => by
  rcases h with h | h
  · exact p.run pins s σ H D I h
  · exact p'.run pins s σ H D I h⟩
theorem fs_put {k : Nat} {mo mi : ME} (hr : L2H.RoomH k X.A) (ho : FE X W ex o mo) (hi : FE X W ex i mi) (he : FE X W ex e me)
    (ha : ∀ v, assign (.Subscript o i pos') X.env v = (do
      let ov ← holding [v] (eval o X.env)
      let iv ← holding [v, ov] (eval i X.env)
      standAt pos'
      holding [v, ov, iv] (setItem ov iv v)
      release [v, ov, iv] []) := by intro _; rfl)
    (hs : swapsWithSole [.Subscript o i pos'] e pos.line X.env = pure false := by rfl) (hw : swappedStores [.Subscript o i pos'] e X.env = pure none := by rfl)
    (h1 : (assignEach [.Subscript o i pos'] X.env).map (·.2) = [assign (.Subscript o i pos') X.env] := by rfl) (hs2 : swapsWith e (some (.Subscript o i pos')) pos.line X.env = pure false := by rfl) :
    FS X W ex (.Assign [.Subscript o i pos'] e pos) (m3 fPut mo mi me) := by
  have P1 : PS X (.Assign [.Subscript o i pos'] e pos) (t3 rSetL (rdE (wo X) ex W mo) (rdE (wo X) ex W mi) (rdE (wo X) ex W me)) := PS.imp (ps_asg he (pg_sub ho hi set_list ha) hs hw h1) fun D σ H q => q
  have P2 : PS X (.Assign [.Subscript o i pos'] e pos) (t3 rDPut (rdE (wo X) ex W mo) (rdE (wo X) ex W mi) (rdE (wo X) ex W me)) := PS.imp (ps_dput (hu1 hr) ho hi he hs2) fun D σ H q => q
  exact PS.imp (PS.or P1 P2) fun D σ H q => rd3_or put_at q
end
end LF
set_option Elab.async false
set_option linter.all false
set_option maxRecDepth 100000
set_option maxHeartbeats 4000000
/-! LF6: iterators, for, while, comprehensions. -/
namespace LF
open PySem PySem.Spec L2
open PyProof.Rows hiding St
/-- what a loop walks: the items, and what must stay true of the machine's objects meanwhile -/
structure Itr' where
  items : List D
  chk : M → Prop
def JOk (G : Wo) (ι0 : List Addr) (H0 : Hp) (J : It) (it : Itr') : Prop :=
  ∀ (i : Nat) (ι : List Addr) (H : Hp) (h : M), ι0 <+: ι → Keep H0 H → Rel G ι H h → it.chk h →
    (∀ d, it.items[i]? = some d → J.go i H ∧ ∀ x H', J.yld i H x H' → Same H H' ∧ RV G ι H' d x) ∧ (it.items.length ≤ i → J.stop i H)
abbrev MI := En → M → Res Itr'
def rdI (G : Wo) (ex : Ex) (W : WX) (m : MI) : TI := fun σ H R => ∃ ι h env, Rel G ι H h ∧ REn G ex ι H env σ ∧ Post G (fun ι H it J => JOk G ι H J it) (fun c d H' => W c d σ H') ι H (m env h) R
def FI (X : Cx) (W : WX) (ex : Ex) (tg iter : Expr) (m : MI) : Prop := PI X tg iter (rdI (wo X) ex W m)
section
variable {X : Cx} {W : WX} {ex : Ex} {tg e a b i o iter : Expr} {es : List Expr} {ma mb mc me ml : ME} {mas : MA} {pos pos' p : Pos} {x : Str}
theorem PI.imp {t t' : TI} (p : PI X tg iter t) (h : ∀ σ H Q, t' σ H Q → t σ H Q) : PI X tg iter t' := ⟨fun pins s σ H R I q => p.run pins s σ H R I (h σ H R q)⟩
theorem PI.or {t t' : TI} (p : PI X tg iter t) (p' : PI X tg iter t') : PI X tg iter (fun σ H Q => t σ H Q ∨ t' σ H Q) := ⟨fun pins s σ H R I h => by
  rcases h with h | h
  · exact p.run pins s σ H R I h
  · exact p'.run pins s σ H R I h⟩
/-- a list's items, a tuple's, a text's signs -/
def itOf (d : D) (h : M) : Res Itr' := match d with
  | .str z => .ok ⟨z.cps.toList.map fun c => .str ⟨#[c]⟩, fun _ => True⟩ h
  | d => match tupOf d with
    | some xs => .ok ⟨xs, fun _ => True⟩ h
    | none => match lstOf h d with
      | some xs => .ok ⟨xs, fun h' => lstOf h' d = some xs⟩ h
      | none => .stuck
theorem itOf_not {d : D} {h : M} (hs : ¬ ∃ z, d = .str z) : itOf d h = (match tupOf d with
    | some xs => .ok ⟨xs, fun _ => True⟩ h
    | none => match lstOf h d with
      | some xs => .ok ⟨xs, fun h' => lstOf h' d = some xs⟩ h
      | none => .stuck) := by
  cases d <;> first | rfl | exact absurd ⟨_, rfl⟩ hs
def mIter (ml : ME) : MI := fun env h => (ml env h).bind itOf
theorem fi_any (hl : FE X W ex e ml) : FI X W ex tg e (mIter ml) := by
  refine PI.imp (PI.or (pi_list hl) (PI.or (pi_tup hl) (pi_str hl))) fun σ H R q => ?_
  obtain ⟨ι, h, env, rel, re, po⟩ := q
  -- told apart by the value
  have go : ∀ (Rr : V → Hp → Prop), (∀ d h1 ι1 H1 v, ml env h = .ok d h1 → ι <+: ι1 → Keep H H1 → Rel (wo X) ι1 H1 h1 → RV (wo X) ι1 H1 d v → Post (wo X) (fun ι H it J => JOk (wo X) ι H J it) (fun c d H' => W c d σ H') ι1 H1 (itOf d h1) R → Rr v H1) → rdE (wo X) ex W ml σ H Rr := fun Rr hR =>
    ⟨ι, h, env, rel, re, post_bind po fun d h1 ι1 H1 v eq1 p1 k1 rel1 rv1 po1 => hR d h1 ι1 H1 v eq1 p1 k1 rel1 rv1 po1⟩
  cases e1 : ml env h with
  | stuck => unfold mIter at po; rw [e1] at po; exact po.elim
  | exc _ _ _ _ => exact .inl (go _ fun d h1 ι1 H1 v eq1 => by rw [e1] at eq1; cases eq1)
  | ok d h1 =>
    have sole : ∀ {d' h1'}, ml env h = .ok d' h1' → d' = d ∧ h1' = h1 := fun eq => by rw [e1] at eq; cases eq; exact ⟨rfl, rfl⟩
    by_cases hs : ∃ z, d = .str z
    · obtain ⟨z, rfl⟩ := hs
      refine .inr (.inr (go _ fun d' h1' ι1 H1 v eq1 p1 k1 rel1 rv1 po1 => ?_))
      obtain ⟨rfl, rfl⟩ := sole eq1
      simp only [RV] at rv1; subst rv1
      simp only [itOf] at po1
      refine ⟨z, rfl, po_ok rel1 ?_ po1⟩
      intro i ι H h p k rel _
      refine ⟨fun d ed => ?_, fun hi => ?_⟩
      · rw [List.getElem?_map] at ed
        simp only [Option.map_eq_some_iff] at ed
        obtain ⟨c, ec, rfl⟩ := ed
        have ec' : z.cps[i]? = some c := by simpa using ec
        refine ⟨(Array.getElem?_eq_some_iff.mp ec').1, fun x H' hy => ?_⟩
        obtain ⟨rfl, c', e', rfl⟩ := hy
        rw [ec'] at e'; cases e'
        exact ⟨Same.refl _, by simp [RV]⟩
      · show z.cps.size ≤ i
        simpa using hi
    · cases et : tupOf d with
      | some xs =>
        refine .inr (.inl (go _ fun d' h1' ι1 H1 v eq1 p1 k1 rel1 rv1 po1 => ?_))
        obtain ⟨rfl, rfl⟩ := sole eq1
        rw [itOf_not hs, et] at po1
        obtain ⟨a, vs, rfl, s, r⟩ := tupOf_sq rv1 et
        refine ⟨a, rfl, ⟨vs, s⟩, po_ok rel1 ?_ po1⟩
        intro i ι H h p k rel _
        have s' := k.tup s
        have r' := RVs.mono p k _ _ r
        refine ⟨fun d ed => ?_, fun hi => ⟨vs, s', by rw [← RVs.length r]; exact hi⟩⟩
        obtain ⟨v, ev, rv⟩ := r'.get ed
        refine ⟨⟨vs, v, s', ev⟩, fun x H' hy => ?_⟩
        obtain ⟨rfl, hy⟩ := hy
        have := hy vs s'
        rw [ev] at this; cases this
        exact ⟨Same.refl _, rv⟩
      | none =>
        refine .inl (go _ fun d' h1' ι1 H1 v eq1 p1 k1 rel1 rv1 po1 => ?_)
        obtain ⟨rfl, rfl⟩ := sole eq1
        cases el : lstOf h1' d' with
        | none =>
          exfalso
          rw [itOf_not hs, et] at po1
          simp only [el] at po1
          exact po1
        | some xs =>
          rw [itOf_not hs, et] at po1
          simp only [el] at po1
          obtain ⟨a, vs, rfl, s, r⟩ := lstOf_sq rel1 rv1 el
          refine ⟨a, rfl, ⟨vs, s⟩, po_ok rel1 ?_ po1⟩
          intro i ι H h p k rel ck
          have rv' := RV.mono p k _ _ rv1
          obtain ⟨a', vs', e', s', r'⟩ := lstOf_sq rel rv' ck
          cases e'
          refine ⟨fun d ed => ?_, fun hi => ⟨vs', s', by rw [← RVs.length r']; exact hi⟩⟩
          obtain ⟨v, ev, rv⟩ := r'.get ed
          refine ⟨⟨vs', v, s', ev⟩, fun x H' hy => ?_⟩
          obtain ⟨rfl, hy⟩ := hy
          have := hy vs' s'
          rw [ev] at this; cases this
          exact ⟨Same.refl _, rv⟩
/-- range -/
def rgItems (lo : Int) (n : Nat) : List D := (List.range n).map fun i => .int (lo + (i : Nat))
theorem rg_ok {G : Wo} {ι : List Addr} {H : Hp} (lo : Int) (n : Nat) : JOk G ι H (Itr lo n) ⟨rgItems lo n, fun _ => True⟩ := by
  intro i ι' H' h p k rel _
  refine ⟨fun d ed => ?_, fun hi => ?_⟩
  · simp only [rgItems, List.getElem?_map, Option.map_eq_some_iff] at ed
    obtain ⟨j, ej, rfl⟩ := ed
    have hi : i < n := by have := (List.getElem?_eq_some_iff.mp ej).1; simpa using this
    have : j = i := by rw [List.getElem?_range hi] at ej; exact (Option.some.inj ej).symm
    subst this
    refine ⟨hi, fun x H'' hy => ?_⟩
    obtain ⟨rfl, rfl⟩ := hy
    exact ⟨Same.refl _, by simp [RV]⟩
  · show n ≤ i
    simpa [rgItems] using hi
def fRng (ds : List D) (h : M) : Res Itr' := match ds with
  | [.int j] => if -(2 ^ 62) ≤ j ∧ j < 2 ^ 62 then .ok ⟨rgItems 0 j.toNat, fun _ => True⟩ h else .stuck
  | [.int i, .int j] => if -(2 ^ 62) ≤ i ∧ i < 2 ^ 62 ∧ -(2 ^ 62) ≤ j ∧ j < 2 ^ 62 then .ok ⟨rgItems i (j - i).toNat, fun _ => True⟩ h else .stuck
  | _ => .stuck
def mRng (mas : MA) : MI := fun env h => (mas env h).bind fRng
theorem RVs.eq3 {G : Wo} {ι : List Addr} {H : Hp} {d f g : D} {vs : List V} (h : RVs G ι H [d, f, g] vs) : ∃ v u t, vs = [v, u, t] ∧ RV G ι H d v ∧ RV G ι H f u ∧ RV G ι H g t := by
  simp only [RVs] at h
  obtain ⟨v, r, rfl, h1, u, r2, rfl, h2, t, r3, rfl, h3, rfl⟩ := h
  exact ⟨v, u, t, rfl, h1, h2, h3⟩
theorem fi_range1 (hm : X.mg "range" = none) (hs : FA X W ex [a] mas) (hone : ∀ env h ds h', mas env h = .ok ds h' → ds.length = 1) (hg : Gl X "range" := by rfl) (hst : starEach [a] X.env = [(false, eval a X.env)] := by rfl) : FI X W ex tg (.Call (.Name "range" p) [a] [] pos) (mRng mas) := by
  refine PI.imp (pi_range1 hg hm hs hst) fun σ H R q => ?_
  obtain ⟨ι, h, env, rel, re, po⟩ := q
  refine ⟨ι, h, env, rel, re, post_bind po fun ds h1 ι1 H1 vs eq1 p1 k1 rel1 rv1 po1 => ?_⟩
  have hl := hone _ _ _ _ eq1
  unfold fRng at po1
  split at po1
  · split at po1
    case isFalse => exact po1.elim
    rename_i hz
    obtain ⟨v, rfl, r⟩ := rv1.eq1
    simp only [RV] at r; subst r
    exact ⟨_, rfl, hz.1, hz.2, po_ok rel1 (rg_ok _ _) po1⟩
  · simp at hl
  · exact po1.elim
theorem fi_range2 (hm : X.mg "range" = none) (hs : FA X W ex [a, b] mas) (hone : ∀ env h ds h', mas env h = .ok ds h' → ds.length = 2) (hg : Gl X "range" := by rfl) (hst : starEach [a, b] X.env = [(false, eval a X.env), (false, eval b X.env)] := by rfl) (hst2 : starEach [b] X.env = [(false, eval b X.env)] := by rfl) : FI X W ex tg (.Call (.Name "range" p) [a, b] [] pos) (mRng mas) := by
  refine PI.imp (pi_range2 hg hm hs hst hst2) fun σ H R q => ?_
  obtain ⟨ι, h, env, rel, re, po⟩ := q
  refine ⟨ι, h, env, rel, re, post_bind po fun ds h1 ι1 H1 vs eq1 p1 k1 rel1 rv1 po1 => ?_⟩
  have hl := hone _ _ _ _ eq1
  unfold fRng at po1
  split at po1
  · simp at hl
  · split at po1
    case isFalse => exact po1.elim
    rename_i hz
    obtain ⟨v, u, rfl, r, r2⟩ := rv1.eq2
    simp only [RV] at r r2; subst r; subst r2
    exact ⟨_, _, rfl, hz, po_ok rel1 (rg_ok _ _) po1⟩
  · exact po1.elim
theorem mCons_len {m : ME} {ms : MA} {n : Nat} (h : ∀ env h ds h', ms env h = .ok ds h' → ds.length = n) : ∀ env h ds h', mCons m ms env h = .ok ds h' → ds.length = n + 1 := by
  intro env hh ds h' eq
  unfold mCons at eq
  cases e1 : m env hh <;> rw [e1] at eq <;> simp only [bind_ok, bind_exc, bind_stuck, reduceCtorEq] at eq
  rename_i d h1
  cases e2 : ms env h1 <;> rw [e2] at eq <;> simp only [bind_ok, bind_exc, bind_stuck, reduceCtorEq] at eq
  cases eq
  simp [h _ _ _ _ e2]
theorem mNil_len : ∀ env h ds h', mNil env h = .ok ds h' → ds.length = 0 := by
  intro env h ds h' eq; cases eq; rfl

/-! ### for -/
open Classical in
noncomputable def floop (chk : M → Prop) (g : MG) (mb : MS) : List D → MS
  | [], env, h => if chk h then .nx env h else .stuck
  | d :: ds, env, h => if chk h then SR.of (g d env h) env fun env1 h1 => match mb env1 h1 with
      | .nx e2 h2 => floop chk g mb ds e2 h2
      | .ct e2 h2 => floop chk g mb ds e2 h2
      | .bk e2 h2 => .nx e2 h2
      | r => r
    else .stuck
noncomputable def mFor (mi : MI) (g : MG) (mb : MS) : MS := fun env h => SR.of (mi env h) env fun it h1 => floop it.chk g mb it.items env h1
variable {mi : MI} {g : MG} {sl : List Nat} {msb : MS} {body : List Stmt} {c : Expr} {tc : MT}
theorem for_imp {mi : MI} {g : MG} {sl : List Nat} {msb : MS} {D : Ends} {σ : St} {H : Hp} (q : rdS (wo X) ex W (mFor mi g msb) D σ H) : tFor (rdI (wo X) ex W mi) (rdG (wo X) ex W sl g) (rdS (wo X) ex W msb) D σ H := by
  obtain ⟨ι, h, env, rel, re, po⟩ := q
  refine ⟨ι, h, env, rel, re, post_of re po fun it h1 ι1 H1 J eq1 p1 k1 rel1 jok po1 => ?_⟩
  refine ⟨fun i m σ2 H2 => ∃ ι2 h2 env2, ι1 <+: ι2 ∧ Keep H1 H2 ∧ Rel (wo X) ι2 H2 h2 ∧ REn (wo X) ex ι2 H2 env2 σ2 ∧ m = it.items.length - i ∧ i ≤ it.items.length ∧ PostS (wo X) ex W ι2 H2 (floop it.chk g msb (it.items.drop i) env2 h2) D, ?_, ?_⟩
  · exact ⟨it.items.length, ι1, h1, env, List.prefix_refl _, Keep.refl _, rel1, re.mono p1 k1, by simp, Nat.zero_le _, by simpa using po1⟩
  · rintro i m σ2 H2 ⟨ι2, h2, env2, p2, k2, rel2, re2, rfl, hi2, po2⟩
    by_cases hlt : i < it.items.length
    · have ed : it.items[i]? = some it.items[i] := List.getElem?_eq_getElem hlt
      rw [List.drop_eq_getElem_cons hlt] at po2
      unfold floop at po2
      split at po2
      case isFalse => exact po2.elim
      rename_i ck
      obtain ⟨go, yl⟩ := (jok i ι2 H2 h2 p2 k2 rel2 ck).1 _ ed
      refine .inr ⟨go, fun σ' H' => ∃ ι2 h2 env2, ι1 <+: ι2 ∧ Keep H1 H' ∧ Rel (wo X) ι2 H' h2 ∧ REn (wo X) ex ι2 H' env2 σ' ∧ PostS (wo X) ex W ι2 H' (floop it.chk g msb (it.items.drop (i + 1)) env2 h2) D, fun σ' H' n => ?_, fun x H' hy => ?_⟩
      · obtain ⟨ι3, h3, env3, a1, a2, a3, a4, a5⟩ := n
        exact ⟨_, by omega, ι3, h3, env3, a1, a2, a3, a4, rfl, hlt, a5⟩
      · obtain ⟨sm, rv⟩ := yl x H' hy
        have k3 := Keep.of_same sm
        have rel3 := rel2.same sm
        have re3 := re2.mono (List.prefix_refl _) k3
        have po3 := PostS.mono (List.prefix_refl _) k3 po2
        refine ⟨ι2, h2, env2, it.items[i], rel3, re3, rv, post_of re3 po3 fun env4 h4 ι4 H4 σ4 eq4 p4 k4 rel4 re4 po4 => ?_⟩
        refine ⟨ι4, h4, env4, rel4, re4.1, ?_⟩
        have fin : ∀ {env5 h5}, PostS (wo X) ex W ι4 H4 (floop it.chk g msb (it.items.drop (i + 1)) env5 h5) D → ∀ ι' H' σ', ι4 <+: ι' → Keep H4 H' → Rel (wo X) ι' H' h5 → REn (wo X) ex ι' H' env5 σ' → ∃ ι2 h2 env2, ι1 <+: ι2 ∧ Keep H1 H' ∧ Rel (wo X) ι2 H' h2 ∧ REn (wo X) ex ι2 H' env2 σ' ∧ PostS (wo X) ex W ι2 H' (floop it.chk g msb (it.items.drop (i + 1)) env2 h2) D :=
          fun {env5 h5} q ι' H' σ' a1 a2 a3 a4 => ⟨ι', h5, env5, (p2.trans p4).trans a1, ((k2.trans k3).trans k4).trans a2, a3, a4, PostS.mono a1 a2 q⟩
        generalize msb env4 h4 = z at po4 ⊢
        cases z with
        | nx e5 h5 => exact fin po4
        | ct e5 h5 => exact fin po4
        | bk e5 h5 => exact po4
        | rt d h5 => exact po4
        | exc _ _ _ _ _ => exact po4
        | stuck => exact po4
    · have e : i = it.items.length := by omega
      subst e
      simp only [List.drop_length] at po2
      unfold floop at po2
      split at po2
      case isFalse => exact po2.elim
      rename_i ck
      exact .inl ⟨(jok _ ι2 H2 h2 p2 k2 rel2 ck).2 (Nat.le_refl _), ps_nx rel2 re2 po2⟩
theorem fs_for (hp : PassesOwn (model X.prog X.w) X.A X.env X.xe) (hi : FI X W ex tg iter mi) (hg : FG X W ex tg sl g) (hb : FSs X W ex body msb) (hc : X.calm = true := by rfl) (hs : ∀ x, foldedSetIterable iter X.env x = pure x := by intro _; rfl) :
    FS X W ex (.For tg iter body [] pos) (mFor mi g msb) := by
  exact PS.imp (ps_for hp hc hi hg hb hs) fun D σ H q => for_imp q

/-! ### while -/
def wloop (c : MT) (b : MS) : Nat → MS
  | 0, _, _ => .stuck
  | n + 1, env, h => SR.of (c env h) env fun t h1 => if t = true then match b env h1 with
      | .nx e2 h2 => wloop c b n e2 h2
      | .ct e2 h2 => wloop c b n e2 h2
      | .bk e2 h2 => .nx e2 h2
      | r => r
    else .nx env h1
def mWhile (fuel : Nat) (c : MT) (b : MS) : MS := wloop c b fuel
theorem fs_while (fuel : Nat) (hp : PassesOwn (model X.prog X.w) X.A X.env X.xe) (hc : FT X W ex c tc) (hb : FSs X W ex body msb) : FS X W ex (.While c body [] pos) (mWhile fuel tc msb) := by
  refine PS.imp (ps_while hp hc hb) fun D σ H q => ?_
  obtain ⟨ι, h, env, rel, re, po⟩ := q
  refine ⟨fun m σ2 H2 => ∃ ι2 h2 env2, Rel (wo X) ι2 H2 h2 ∧ REn (wo X) ex ι2 H2 env2 σ2 ∧ PostS (wo X) ex W ι2 H2 (wloop tc msb m env2 h2) D, ⟨fuel, ι, h, env, rel, re, po⟩, ?_⟩
  rintro m σ2 H2 ⟨ι2, h2, env2, rel2, re2, po2⟩
  cases m with
  | zero => exact po2.elim
  | succ m =>
    unfold wloop at po2
    refine ⟨ι2, h2, env2, rel2, re2, post_of re2 po2 fun t h3 ι3 H3 t' eq3 p3 k3 rel3 rv3 po3 => ?_⟩
    cases rv3
    cases t with
    | false => exact iteF (ps_nx rel3 (re2.mono p3 k3) po3)
    | true =>
      refine iteT ⟨fun σ' H' => ∃ ι2 h2 env2, Rel (wo X) ι2 H' h2 ∧ REn (wo X) ex ι2 H' env2 σ' ∧ PostS (wo X) ex W ι2 H' (wloop tc msb m env2 h2) D, fun σ' H' n => ⟨m, Nat.lt_succ_self _, n⟩, ι3, h3, env2, rel3, re2.mono p3 k3, ?_⟩
      simp only [if_true] at po3
      generalize msb env2 h3 = z at po3 ⊢
      cases z with
      | nx e5 h5 => exact fun ι' H' σ' a1 a2 a3 a4 => ⟨ι', h5, e5, a3, a4, PostS.mono a1 a2 po3⟩
      | ct e5 h5 => exact fun ι' H' σ' a1 a2 a3 a4 => ⟨ι', h5, e5, a3, a4, PostS.mono a1 a2 po3⟩
      | bk e5 h5 => exact po3
      | rt d h5 => exact po3
      | exc _ _ _ _ _ => exact po3
      | stuck => exact po3

/-! ### comprehensions -/
def wipeE (env : En) : List Nat → En
  | [] => env
  | v :: vs => (wipeE env vs).set v .no
theorem REn.wipe {G : Wo} {ι : List Addr} {H : Hp} {env : En} {σ : St} (r : REn G ex ι H env σ) : ∀ vs : List Nat, REn G ex ι H (wipeE env vs) (L2.wipe σ vs)
  | [] => r
  | v :: vs => (REn.wipe r vs).drop1 v none
def FTs (X : Cx) (W : WX) (ex : Ex) (ifs : List Expr) (m : MT) : Prop := PTs X ifs (rdT (wo X) ex W m)
theorem PTs.imp {ifs : List Expr} {t t' : TT} (p : PTs X ifs t) (h : ∀ σ H Q, t' σ H Q → t σ H Q) : PTs X ifs t' := ⟨fun pins s σ H R I q => p.run pins s σ H R I (h σ H R q)⟩
def mYes : MT := fun _ h => .ok true h
theorem fts_nil : FTs X W ex [] mYes := by
  refine PTs.imp pts_nil fun σ H Q q => ?_
  obtain ⟨ι, h, env, rel, re, po⟩ := q
  exact po_ok rel rfl po
theorem fts_one (hc : FT X W ex c tc) : FTs X W ex [c] tc := pts_one hc
open Classical in
noncomputable def lcloop (chk : M → Prop) (env : En) (g : MG) (tt : MT) (me : ME) (l : Nat) : List D → M → Res D
  | [], h => if chk h then .ok (.loc l) h else .stuck
  | d :: ds, h => if chk h then (g d env h).bind fun env2 h2 => (tt env2 h2).bind fun b h3 => if b = true then (me env2 h3).bind fun y h4 => match h4[l]? with
        | some (.lst acc) => if acc.length < sizeLine then lcloop chk env g tt me l ds (h4.set l (.lst (acc ++ [y]))) else .stuck
        | _ => .stuck
      else lcloop chk env g tt me l ds h3
    else .stuck
/-- own: the slots of the comprehension's own names -/
noncomputable def mLc (own : List Nat) (mi : MI) (g : MG) (tt : MT) (me : ME) : ME := fun env h => (mi env h).bind fun it h1 => lcloop it.chk (wipeE env own) g tt me h1.length it.items (h1 ++ [.lst []])
abbrev WN : WX := fun _ _ _ _ => False
/-- in a block no exception leaves -/
theorem post_WN {α β : Type} {G : Wo} {B : List Addr → Hp → α → β → Prop} {E : WX'} {ι : List Addr} {H : Hp} {r : Res α} {Q : β → Hp → Prop} (h : Post G B E ι H (noX r) Q) {E' : WX'} : Post G B E' ι H r Q := post_noX h
open Classical in
noncomputable def lcloopN (chk : M → Prop) (env : En) (g : MG) (tt : MT) (me : ME) (l : Nat) : List D → M → Res D
  | [], h => if chk h then .ok (.loc l) h else .stuck
  | d :: ds, h => if chk h then (noX (g d env h)).bind fun env2 h2 => (noX (tt env2 h2)).bind fun b h3 => if b = true then (noX (me env2 h3)).bind fun y h4 => match h4[l]? with
        | some (.lst acc) => if acc.length < sizeLine then lcloopN chk env g tt me l ds (h4.set l (.lst (acc ++ [y]))) else .stuck
        | _ => .stuck
      else lcloopN chk env g tt me l ds h3
    else .stuck
noncomputable def mLcN (own : List Nat) (mi : MI) (g : MG) (tt : MT) (me : ME) : ME := fun env h => (mi env h).bind fun it h1 => lcloopN it.chk (wipeE env own) g tt me h1.length it.items (h1 ++ [.lst []])
theorem wipe_idem (vs : List Nat) : ∀ (us : List Nat) (σ : St), (∀ i ∈ us, i ∈ vs) → L2.wipe (L2.wipe σ us) vs = L2.wipe σ vs
  | [], σ, _ => rfl
  | u :: us, σ, hu => by
    show L2.wipe ((L2.wipe σ us).set u none) vs = _
    rw [wipe_set u none vs _ (hu u (by simp))]
    exact wipe_idem vs us σ fun i hi => hu i (by simp [hi])
theorem rd_lc {own : List Nat} {g : MG} {tt : MT} {sl : List Nat} (hsl : ∀ i ∈ sl, i ∈ own) {σ : St} {Q : VK} {E : WX'} {ι1 : List Addr} {H1 : Hp} {h1 : M} {env : En} {it : Itr'} {J : It}
    (jok : JOk (wo X) ι1 H1 J it) (rel1 : Rel (wo X) ι1 H1 h1) (re1 : REn (wo X) ex ι1 H1 env σ)
    (po : Post (wo X) (fun ι H d v => RV (wo X) ι H d v) E ι1 H1 (lcloopN it.chk (wipeE env own) g tt me h1.length it.items (h1 ++ [.lst []])) Q) : ∀ L, H1 L = none → ∃ Wv : Nat → Nat → Hp → Prop, (∃ m, Wv 0 m (upd H1 L (.lst []))) ∧ ∀ i m H, Wv i m H →
      (J.stop i H ∧ Q (.ref L) H) ∨ (J.go i H ∧ ∃ Nx : Hp → Prop, (∀ H', Nx H' → ∃ m', m' < m ∧ Wv (i + 1) m' H') ∧ ∀ x H', J.yld i H x H' → rdG (wo X) ex WN sl g x (L2.wipe σ own) H' fun σ2 H2 => L2.wipe σ2 own = L2.wipe σ own ∧ rdT (wo X) ex WN tt σ2 H2 fun b H3 =>
        if b = true then rdE (wo X) ex WN me σ2 H3 fun y H4 => ∃ acc, H4 L = some (.lst acc) ∧ acc.length < sizeLine ∧ Nx (upd H4 L (.lst (acc ++ [y]))) else Nx H3) := by
  intro L hL
  have p0 : ι1 <+: ι1 ++ [L] := List.prefix_append ..
  have s0 : Same H1 (upd H1 L (.lst [])) := same_upd hL
  have k0 := Keep.of_same s0
  have rel0 : Rel (wo X) (ι1 ++ [L]) (upd H1 L (.lst [])) (h1 ++ [.lst []]) := rel1.push hL ⟨[], upd_same, RVs.nil⟩
  have eL : (ι1 ++ [L])[h1.length]? = some L := by rw [← rel1.len]; simp
  let Inv' : Nat → Hp → Prop := fun i H2 => ∃ ι2 h2, ι1 ++ [L] <+: ι2 ∧ Keep H1 H2 ∧ Rel (wo X) ι2 H2 h2 ∧ REn (wo X) ex ι2 H2 (wipeE env own) (L2.wipe σ own) ∧ Post (wo X) (fun ι H d v => RV (wo X) ι H d v) E ι2 H2 (lcloopN it.chk (wipeE env own) g tt me h1.length (it.items.drop i) h2) Q
  refine ⟨fun i m H2 => m = it.items.length - i ∧ i ≤ it.items.length ∧ Inv' i H2, ⟨it.items.length, by simp, Nat.zero_le _, ι1 ++ [L], h1 ++ [.lst []], List.prefix_refl _, k0, rel0, (re1.mono p0 k0).wipe own, by simpa using Post.mono p0 k0 po⟩, ?_⟩
  rintro i m H2 ⟨rfl, hi2, ι2, h2, p2, k2, rel2, re2, po2⟩
  by_cases hlt : i < it.items.length
  · have ed : it.items[i]? = some it.items[i] := List.getElem?_eq_getElem hlt
    rw [List.drop_eq_getElem_cons hlt] at po2
    unfold lcloopN at po2
    split at po2
    case isFalse => exact po2.elim
    rename_i ck
    obtain ⟨go, yl⟩ := (jok i ι2 H2 h2 (p0.trans p2) k2 rel2 ck).1 _ ed
    refine .inr ⟨go, Inv' (i + 1), fun H' n => ⟨_, by omega, rfl, hlt, n⟩, fun x H' hy => ?_⟩
    obtain ⟨sm, rv⟩ := yl x H' hy
    have k3 := Keep.of_same sm
    have rel3 := rel2.same sm
    have re3 := re2.mono (List.prefix_refl _) k3
    have po3 := Post.mono (List.prefix_refl _) k3 po2
    refine ⟨ι2, h2, wipeE env own, it.items[i], rel3, re3, rv, post_WN (E := E) (post_bind po3 fun env4 h4 ι4 H4 σ4 eq4 p4 k4 rel4 re4 po4 => ?_)⟩
    have hw : L2.wipe σ4 own = L2.wipe (L2.wipe σ own) own := re4.2 own hsl
    have hww : L2.wipe (L2.wipe σ own) own = L2.wipe σ own := wipe_idem own own σ fun _ h => h
    refine ⟨hw.trans hww, ι4, h4, env4, rel4, re4.1, post_WN (E := E) (post_bind po4 fun b h5 ι5 H5 b' eq5 p5 k5 rel5 rv5 po5 => ?_)⟩
    cases rv5
    have back : ∀ {ι6 H6}, ι5 <+: ι6 → Keep H5 H6 → ι1 ++ [L] <+: ι6 ∧ Keep H1 H6 ∧ REn (wo X) ex ι6 H6 (wipeE env own) (L2.wipe σ own) := fun {ι6 H6} a b =>
      ⟨((p2.trans p4).trans p5).trans a, ((((k2.trans k3).trans k4).trans k5).trans b), (((re3.mono p4 k4).mono p5 k5).mono a b)⟩
    cases b with
    | false =>
      refine iteF ?_
      simp only [Bool.false_eq_true, if_false] at po5
      obtain ⟨b1, b2, b3⟩ := back (List.prefix_refl _) (Keep.refl _)
      exact ⟨ι5, h5, b1, b2, rel5, b3, po5⟩
    | true =>
      refine iteT ?_
      simp only [if_true] at po5
      refine ⟨ι5, h5, env4, rel5, re4.1.mono p5 k5, post_WN (E := E) (post_bind po5 fun y h6 ι6 H6 yv eq6 p6 k6 rel6 rv6 po6 => ?_)⟩
      split at po6
      case h_2 => exact po6.elim
      rename_i acc ea
      split at po6
      case isFalse => exact po6.elim
      rename_i hz
      obtain ⟨b1, b2, b3⟩ := back p6 k6
      have eL6 : ι6[h1.length]? = some L := pre_get b1 eL
      obtain ⟨vs, ev, r⟩ := rel6.at ea eL6
      have hl := RVs.length r
      have w := rel6.write (o := .lst (acc ++ [y])) (u := .lst (vs ++ [yv])) eL6 ⟨_, upd_same, by
        have k7 : Keep H6 (upd H6 L (.lst (vs ++ [yv]))) := by
          obtain ⟨u0, e0, nf, mu⟩ := rel6.tracked eL6
          exact fun b o' eb f => by
            have : b ≠ L := fun z => by rw [z, e0] at eb; cases eb; exact nf f
            rw [upd_ne this]; exact eb
        exact RVs.mono (List.prefix_refl _) k7 _ _ (r.append (RVs.one rv6))⟩
      refine ⟨vs, ev, by omega, ι6, h6.set h1.length (.lst (acc ++ [y])), b1, b2.trans w.2, w.1, b3.mono (List.prefix_refl _) w.2, Post.mono (List.prefix_refl _) w.2 po6⟩
  · have e : i = it.items.length := by omega
    subst e
    simp only [List.drop_length] at po2
    unfold lcloopN at po2
    split at po2
    case isFalse => exact po2.elim
    rename_i ck
    refine .inl ⟨(jok _ ι2 H2 h2 (p0.trans p2) k2 rel2 ck).2 (Nat.le_refl _), ?_⟩
    refine po_ok rel2 ?_ po2
    simp only [RV]
    exact ⟨L, rfl, pre_get p2 eL⟩
variable {elt : Expr} {ifs : List Expr} {scope : Scope} {tt : MT} {spos py : Pos} {y : Str}
theorem fe_lc (own : List (Str × Nat)) (hN : X.N.Nodup) (hi : FI X W ex tg iter mi) (ok : BlkOk X.N X.env.scope scope own)
    (hg : ∀ (s : Shared) (H : Hp) (C : Addr) (cl : List (Str × Addr)) (fp : List Addr), FG (X.blk s H scope (compEnvC scope cl C X.env) fp) WN ex tg sl g)
    (ht : ∀ (s : Shared) (H : Hp) (C : Addr) (cl : List (Str × Addr)) (fp : List Addr), FTs (X.blk s H scope (compEnvC scope cl C X.env) fp) WN ex ifs tt)
    (he : ∀ (s : Shared) (H : Hp) (C : Addr) (cl : List (Str × Addr)) (fp : List Addr), FE (X.blk s H scope (compEnvC scope cl C X.env) fp) WN ex elt me)
    (hsl : ∀ i ∈ sl, i ∈ own.map (·.2) := by decide) (hc : X.calm = true := by rfl) (hs : ∀ x, foldedSetIterable iter X.env x = pure x := by intro _; rfl) : FE X W ex (.ListComp elt [⟨tg, iter, ifs, 0⟩] scope pos) (mLcN (own.map (·.2)) mi g tt me) := by
  refine PE.imp (pe_lc (g := rdG (wo X) ex WN sl g) (tt := rdT (wo X) ex WN tt) (te := rdE (wo X) ex WN me) hc hN hi ok hg ht he hs) fun σ H Q q => ?_
  obtain ⟨ι, h, env, rel, re, po⟩ := q
  exact ⟨ι, h, env, rel, re, post_bind po fun it h1 ι1 H1 J eq1 p1 k1 rel1 jok po1 => rd_lc hsl jok rel1 (re.mono p1 k1) po1⟩
theorem fs_setLc {i : Nat} (own : List (Str × Nat)) (hN : X.N.Nodup) (hi : FI X W ex tg iter mi) (ok : BlkOk X.N X.env.scope scope own)
    (hg : ∀ (s : Shared) (H : Hp) (C : Addr) (cl : List (Str × Addr)) (fp : List Addr), FG (X.blk s H scope (compEnvC scope cl C X.env) fp) WN ex tg sl g)
    (ht : ∀ (s : Shared) (H : Hp) (C : Addr) (cl : List (Str × Addr)) (fp : List Addr), FTs (X.blk s H scope (compEnvC scope cl C X.env) fp) WN ex ifs tt)
    (he : ∀ (s : Shared) (H : Hp) (C : Addr) (cl : List (Str × Addr)) (fp : List Addr), FE (X.blk s H scope (compEnvC scope cl C X.env) fp) WN ex elt me)
    (hsw : swapsWith (.ListComp elt [⟨tg, iter, ifs, 0⟩] scope pos) (some (.Name y py)) spos.line X.env = pure true)
    (hsl : ∀ i ∈ sl, i ∈ own.map (·.2) := by decide) (hy : X.N[i]? = some y := by rfl) (hyl : X.env.scope.names.lookup y = some .local := by rfl) (hc : X.calm = true := by rfl) (hs : ∀ x, foldedSetIterable iter X.env x = pure x := by intro _; rfl) :
    FS X W ex (.Assign [.Name y py] (.ListComp elt [⟨tg, iter, ifs, 0⟩] scope pos) spos) (mSet i (mLcN (own.map (·.2)) mi g tt me)) := by
  refine PS.imp (ps_setLc (g := rdG (wo X) ex WN sl g) (tt := rdT (wo X) ex WN tt) (te := rdE (wo X) ex WN me) hc hN hy hyl hsw hi ok hg ht he hs) fun D σ H q => ?_
  obtain ⟨ι, h, env, rel, re, po⟩ := q
  have po' := post_of (σ := σ) (B := fun ι H d v => RV (wo X) ι H d v) (Q := fun z H2 => D.nx (σ.set i (some z)) H2) re po fun z h2 ι2 H2 zv eq2 p2 k2 rel2 rv2 po2 => ps_nx rel2 ((re.mono p2 k2).set i rv2) po2
  exact ⟨ι, h, env, rel, re, post_bind po' fun it h1 ι1 H1 J eq1 p1 k1 rel1 jok po1 => rd_lc hsl jok rel1 (re.mono p1 k1) po1⟩
end
end LF
set_option Elab.async false
set_option linter.all false
set_option maxRecDepth 100000
set_option maxHeartbeats 4000000
/-! LF7: constants folded, truth, chains; what a proof of a law begins and ends with. -/
namespace LF
open PySem PySem.Spec L2
open PyProof.Rows hiding St
section
variable {X : Cx} {W : WX} {ex : Ex} {tg e a b c i o iter : Expr} {es : List Expr} {ma mb mc me ml : ME} {mas : MA} {pos pos' p : Pos} {x : Str}
theorem FE.to {m m' : ME} (h : FE X W ex e m) (he : ∀ env h, m env h = m' env h) : FE X W ex e m' := by
  have : m = m' := funext fun env => funext fun h => he env h
  rw [← this]; exact h
/-! ### constants -/
variable {k j v : Int}
theorem fk_add (ha : FE X W ex a (mC (.int k))) (hb : FE X W ex b (mC (.int j))) (hv : k + j = v) : FE X W ex (.BinOp a .Add b pos) (mC (.int v)) := by
  subst hv; exact (fe_add ha hb).to fun _ _ => rfl
theorem fk_sub (ha : FE X W ex a (mC (.int k))) (hb : FE X W ex b (mC (.int j))) (hv : k - j = v) : FE X W ex (.BinOp a .Sub b pos) (mC (.int v)) := by
  subst hv; exact (fe_sub ha hb).to fun _ _ => by simp [m2, mC, fSub, fI]
theorem fk_mul (ha : FE X W ex a (mC (.int k))) (hb : FE X W ex b (mC (.int j))) (hc : CMulW k j) (hv : k * j = v) : FE X W ex (.BinOp a .Mult b pos) (mC (.int v)) := by
  subst hv; exact (fe_mul ha hb).to fun _ _ => by simp [m2, mC, fMul, hc]
theorem fk_neg (ha : FE X W ex a (mC (.int k))) (hv : -k = v) : FE X W ex (.UnaryOp .USub a pos) (mC (.int v)) := by
  subst hv; exact (fe_neg ha).to fun _ _ => rfl
def CPowW (i j : Int) : Prop := 0 ≤ j ∧ (Builtin.Int.intBits i : Int) * j ≤ 2 ^ 27
instance (i j : Int) : Decidable (CPowW i j) := by unfold CPowW; infer_instance
theorem op_powW : OpR X (binaryOp .Pow) (rI CPowW fun i j => .int (i ^ j.toNat)) := opI fun _ _ _ _ _ _ _ hc q => pow_int hc.1 hc.2 q
def fPowW := fI CPowW fun i j => .int (i ^ j.toNat)
theorem fe_powW (ha : FE X W ex a ma) (hb : FE X W ex b mb) : FE X W ex (.BinOp a .Pow b pos) (m2 fPowW ma mb) := fe_op op_powW (ab_I fun _ _ _ _ => by simp [RV]) ha hb
theorem fk_pow (ha : FE X W ex a (mC (.int k))) (hb : FE X W ex b (mC (.int j))) (hc : CPowW k j) (hv : k ^ j.toNat = v) : FE X W ex (.BinOp a .Pow b pos) (mC (.int v)) := by
  subst hv; exact (fe_powW ha hb).to fun _ _ => by simp [m2, mC, fPowW, fI, hc]

/-! ### truth -/
def truD (h : M) : D → Option Bool
  | .non => some false
  | .bl b => some b
  | .int i => some (i != 0)
  | .str y => if y.length ≤ sizeLine then some ((y.length : Int) != 0) else none
  | .tup xs => some !xs.isEmpty
  | .ct xs => some !xs.isEmpty
  | .cl xs => some !xs.isEmpty
  | .loc l => match h[l]? with
    | some (.lst xs) => some !xs.isEmpty
    | some (.dK kvs) => some !kvs.isEmpty
    | _ => none
  | _ => none
theorem isEmpty_len {α β : Type} {xs : List α} {ys : List β} (h : xs.length = ys.length) : xs.isEmpty = ys.isEmpty := by
  cases xs <;> cases ys <;> simp at h ⊢
theorem truD_ok {G : Wo} {ι : List Addr} {H : Hp} {h : M} {d : D} {v : V} {t : Bool} (rel : Rel G ι H h) (r : RV G ι H d v) (e : truD h d = some t) : TruV G.K v H t := by
  cases d with
  | non => cases e; simp only [RV] at r; subst r; rfl
  | bl _ => cases e; simp only [RV] at r; subst r; rfl
  | int _ => cases e; simp only [RV] at r; subst r; rfl
  | str y =>
    simp only [truD] at e
    split at e
    · cases e; simp only [RV] at r; subst r; exact ⟨‹_›, rfl⟩
    · cases e
  | tup xs =>
    cases e
    obtain ⟨a, vs, rfl, s, r⟩ := tupOf_sq (xs := xs) r rfl
    exact .inr (.inl ⟨vs, s, by rw [isEmpty_len (RVs.length r)]⟩)
  | ct xs =>
    cases e
    obtain ⟨a, vs, rfl, s, r⟩ := tupOf_sq (xs := xs) r rfl
    exact .inr (.inl ⟨vs, s, by rw [isEmpty_len (RVs.length r)]⟩)
  | cl xs =>
    cases e
    obtain ⟨a, vs, rfl, s, r⟩ := lstOf_sq (xs := xs) rel r rfl
    exact .inl ⟨vs, s, by rw [isEmpty_len (RVs.length r)]⟩
  | loc l =>
    simp only [truD] at e
    split at e
    · rename_i xs e1
      cases e
      obtain ⟨a, vs, rfl, _, q, r⟩ := at_lst rel r e1
      exact .inl ⟨vs, SqL.of q, by rw [isEmpty_len (RVs.length r)]⟩
    · rename_i kvs e1
      cases e
      obtain ⟨a, vs, rfl, _, q, r⟩ := at_dK rel r e1
      exact .inr (.inr ⟨vs, q, by rw [isEmpty_len (RKs.len r)]⟩)
    · cases e
  | _ => cases e
def fTru (d : D) (h : M) : Res Bool := match truD h d with | some b => .ok b h | none => .stuck
@[simp] theorem fTru_bl {b : Bool} {h : M} : fTru (.bl b) h = .ok b h := (rfl)
def mTru (ma : ME) : MT := fun env h => (ma env h).bind fTru
theorem ft_tru (ha : FE X W ex a ma) (he : ∀ whole, isTrue a X.env whole = (do let v ← whole; standAt a.pos; holding [v] (truthy v)) := by intro _; rfl) : FT X W ex a (mTru ma) := by
  refine PT.imp (pt_truth ha he) fun σ H Q q => ?_
  obtain ⟨ι, h, env, rel, re, po⟩ := q
  refine ⟨ι, h, env, rel, re, post_bind po fun x h1 ι1 H1 v eq1 p1 k1 rel1 rv1 po1 => ?_⟩
  unfold fTru at po1
  split at po1
  · rename_i t e1
    exact ⟨t, truD_ok rel1 rv1 e1, po_ok rel1 rfl po1⟩
  · exact po1.elim

/-! ### chains -/
def mChain (f f' : D → D → M → Res D) (ma mb mc : ME) : ME := fun env h => (ma env h).bind fun x h1 => (mb env h1).bind fun y h2 => (f x y h2).bind fun z h3 => (asB z h3).bind fun t h3 => if t = true then (mc env h3).bind fun u h4 => f' y u h4 else .ok (.bl false) h3
/-- ints' order: what a chain's operator asks -/
theorem rd_chain {G : Wo} {g g' : Int → Int → Bool} {σ : St} {H : Hp} {Q : VK} (q : rdE G ex W (mChain (fI (fun _ _ => True) fun i j => .bl (g i j)) (fI (fun _ _ => True) fun i j => .bl (g' i j)) ma mb mc) σ H Q) :
    tChain (rI0 fun i j => .bl (g i j)) (rI0 fun i j => .bl (g' i j)) (rdE G ex W ma) (rdE G ex W mb) (rdE G ex W mc) σ H Q := by
  obtain ⟨ι, h, env, rel, re, po⟩ := q
  refine ⟨ι, h, env, rel, re, post_bind po fun x h1 ι1 H1 v eq1 p1 k1 rel1 rv1 po1 => ?_⟩
  refine ⟨ι1, h1, env, rel1, re.mono p1 k1, post_bind po1 fun y h2 ι2 H2 u eq2 p2 k2 rel2 rv2 po2 => ?_⟩
  have rv1 := RV.mono p2 k2 _ _ rv1
  cases x <;> (try exact po2.elim)
  cases y <;> (try exact po2.elim)
  simp only [RV] at rv1 rv2
  subst rv1; subst rv2
  simp only [fI, if_true, bind_ok, asB_bl] at po2
  refine ⟨_, _, rfl, rfl, _, rfl, ?_⟩
  split
  · rename_i ht
    rw [if_pos ht] at po2
    refine ⟨ι2, h2, env, rel2, (re.mono p1 k1).mono p2 k2, post_bind po2 fun w h3 ι3 H3 wv eq3 p3 k3 rel3 rv3 po3 => ?_⟩
    cases w <;> (try exact po3.elim)
    simp only [RV] at rv3
    subst rv3
    simp only [fI, if_true] at po3
    exact ⟨_, _, rfl, rfl, po_ok rel3 (by simp [RV]) po3⟩
  · rename_i ht
    rw [if_neg ht] at po2
    exact po_ok rel2 (by simp [RV]) po2

/-! ### a def's own contexts -/
section
variable {P : Program} {w : World} {K : PySem.W.Frag} {mg : Str → Option Value} {base : Heap} {N : List Str} {qual : Str} {sc : Scope} {f : Addr} {cd : Value} {A : Around} {outer : List Env} {s : Shared} {H : Hp} {E : XK}
theorem tkD : L2N.Takes (cxOf (L2N.CX P w) P w K mg base N qual sc f cd A outer s H E) (fun c d _ H => E c d H) := L2N.takes_of rfl rfl rfl rfl
theorem tkH {p : Addr × Obj} : L2N.Takes (L2H.cxH (L2N.CX P w) P w K mg base N qual sc f cd A outer s H E p) (fun c d _ H => E c d H) := L2N.takes_of rfl rfl rfl rfl
theorem hotH {p : Addr × Obj} (h : L2H.Hot1 A p) : L2H.HotC (L2H.cxH (L2N.CX P w) P w K mg base N qual sc f cd A outer s H E p) := ⟨p, ⟨h.1, h.2⟩, List.mem_cons_self⟩
theorem poD : PassesOwn (model P w) (cxOf (L2N.CX P w) P w K mg base N qual sc f cd A outer s H E).A (cxOf (L2N.CX P w) P w K mg base N qual sc f cd A outer s H E).env (cxOf (L2N.CX P w) P w K mg base N qual sc f cd A outer s H E).xe := passes_of rfl
end
theorem tkN : L2N.Takes X WN := fun _ _ x => by
  obtain ⟨_, _, _, _, _, _, _, _, _, _, _, _, _, _, _, _, w⟩ := x
  exact w.elim
end
/-- where a def of the text stands -/
structure FnAt (K : PySem.W.Frag) (mg : Str → Option Value) (x qual : Str) (st : Stmt) (ps : List Str) : Prop where
  ex : ∃ f fd, Fun K x qual st f fd ∧ mg x = some (.ref f) ∧ ∀ us : List Value, us.length = ps.length → bindArgs fd ⟨us, []⟩ = pure (ps.zip us)
theorem defOf {P : Program} {w : World} {K : PySem.W.Frag} {mg : Str → Option Value} {base : Heap} {x qual : Str} {st : Stmt} {N ps : List Str} {k : Nat} {mb : MS} (T : FnAt K mg x qual st ps) (S : FnScope N ps (defScope st))
    (body : ∀ (f : Addr) (cdv : Value) (A : Around) (outer : List Env) (s : Shared) (H : Hp) (E : XK), Room k (A.deeper (envOfC qual (defScope st) s.heap.objs.size f cdv)) →
      FSs (cxOf (L2N.CX P w) P w K mg base N qual (defScope st) f cdv A outer s H E) (fun c d _ H => E c d H) none (defBody st) mb) : Def P w K mg base x (k + 1) ps.length (mFn N.length ps.length mb) := by
  obtain ⟨f, fd, F, gx, hb⟩ := T.ex
  exact def_of F S gx (.all hb) (body f)
/-- the same, of a def that is called while an exception is handled -/
theorem defHOf {P : Program} {w : World} {K : PySem.W.Frag} {mg : Str → Option Value} {base : Heap} {x qual : Str} {st : Stmt} {N ps : List Str} {k : Nat} {mb : MS} (T : FnAt K mg x qual st ps) (S : FnScope N ps (defScope st))
    (body : ∀ (f : Addr) (cdv : Value) (A : Around) (outer : List Env) (s : Shared) (H : Hp) (E : XK) (p : Addr × Obj), L2H.Hot1 A p → L2H.RoomH k (A.deeper (envOfC qual (defScope st) s.heap.objs.size f cdv)) →
      FSs (L2H.cxH (L2N.CX P w) P w K mg base N qual (defScope st) f cdv A outer s H E p) (fun c d _ H => E c d H) none (defBody st) mb) : DefH P w K mg base x (k + 1) ps.length (mFn N.length ps.length mb) := by
  obtain ⟨f, fd, F, gx, hb⟩ := T.ex
  exact defH_of F S gx (.all hb) (body f)
theorem fnAt_mk {K : PySem.W.Frag} {h : Heap} {mg : Str → Option Value} (XK : K.In h) (G : h.Ns mainGlobals mg) {x : Str} {st : Stmt} {ps : List Str} {f : Addr} {oc : Value} {od an : Option Addr} {osl : Array (Option Value)} {kV doc pm cdv ct : Value}
    (hb : ∀ (kV doc pm : Value) (an : Option Addr) (cdv ct : Value) (us : List Value), us.length = ps.length → bindArgs (PySem.W.fnOf x x (defArgs st) (defBody st) (defScope st) .none kV doc pm an cdv ct) ⟨us, []⟩ = pure (ps.zip us))
    (a : PySem.W.nsIn K mainGlobals x = some (some (.ref f))) (l : K.lookup f = some ⟨oc, od, .func (PySem.W.fnOf x x (defArgs st) (defBody st) (defScope st) .none kV doc pm an cdv ct), osl⟩)
    (c : PySem.W.codeIn K cdv x = true) (k : PySem.W.keepIn K (.ref f) = true) : FnAt K mg x x st ps :=
  ⟨f, _, fun_mk (st := st) l c k, PySem.W.mg_of XK G a, hb kV doc pm an cdv ct⟩
/-- what the law's call is handed -/
def spL (K : PySem.W.Frag) : Sp := fun vs H Q _ => ∃ (a : Addr) (ns : List Int), vs = [.ref a] ∧ ns.length ≤ 63 ∧ (∀ z ∈ ns, Builtin.Int.intBits z ≤ 1048576) ∧ Only H ∧ SqL K H a (ns.map V.int) ∧ ∀ H', Q (.bl true) H'
/-- the mathematics' last word -/
def LawHolds (m : List D → M → Res D) : Prop := ∀ ns : List Int, ns.length ≤ 63 → (∀ z ∈ ns, Builtin.Int.intBits z ≤ 1048576) → ∃ h', m [.cl (ns.map D.int)] [] = .ok (.bl true) h'
theorem law_in {K : PySem.W.Frag} {mg : Str → Option Value} {m : List D → M → Res D} (hm : LawHolds m) (vs : List V) (H : Hp) (Q : VK) (E : XK) (h : spL K vs H Q E) : spF ⟨K, mg⟩ 1 m vs H Q E := by
  obtain ⟨a, ns, rfl, hl, hbits, hO, hS, hQ⟩ := h
  refine ⟨rfl, [], [], [.cl (ns.map D.int)], ⟨rfl, fun i j b h _ => by simp at h, fun l o h => by simp at h⟩, RVs.one ?_, ?_⟩
  · simp only [RV]
    refine ⟨a, ns.map V.int, rfl, ?_, ?_⟩
    · rcases hS with (h | ⟨o, h⟩) | h
      · exfalso
        rcases hO a with z | ⟨o, xs, z⟩
        · rw [z] at h; cases h
        · rw [z] at h; cases h
      · exact .inl ⟨o, h⟩
      · exact .inr h
    · clear hS hm hl hbits
      induction ns with
      | nil => exact RVs.nil
      | cons n ns ih => exact RVs.cons (by simp [RV]) ih
  · obtain ⟨h', e⟩ := hm ns hl hbits
    rw [e]
    intro ι' H' v _ _ _ rv
    simp only [RV] at rv
    subst rv
    exact hQ H'
theorem cx_none {P : Program} {w : World} (H : Hp) (s : Shared) (e : Value) (s' : Shared) (h : L2N.CX P w [] H s (fun _ _ _ => False) e s') : False := by
  obtain ⟨_, _, _, _, _, _, _, _, _, _, _, _, z⟩ := h
  exact z.elim
/-- the law's own def -/
theorem lawOf {P : Program} {w : World} {K : PySem.W.Frag} {mg : Str → Option Value} {st : Stmt} {N : List Str} {k : Nat} {mb : MS} {fa : Addr} (T : FnAt K mg "law" "law" st ["script"]) (hmg : mg "law" = some (.ref fa)) (S : FnScope N ["script"] (defScope st))
    (body : ∀ (base : Heap) (f : Addr) (cdv : Value) (A : Around) (outer : List Env) (s : Shared) (H : Hp) (E : XK), Room k (A.deeper (envOfC "law" (defScope st) s.heap.objs.size f cdv)) →
      FSs (cxOf (L2N.CX P w) P w K mg base N "law" (defScope st) f cdv A outer s H E) (fun c d _ H => E c d H) none (defBody st) mb) (hm : LawHolds (mFn N.length 1 mb)) :
    ∃ fd : FuncData, (∀ (s : Shared) (u : Value), BindsTo s fd ⟨[u], []⟩ [(("script" : Str), u)]) ∧ ∀ base : Heap, K.In base → base.Ns mainGlobals mg → FnOk P w K mg base (L2N.CX P w) (k + 1) fa fd ["script"] (spL K) := by
  obtain ⟨f, fd, F, gx, hb⟩ := T.ex
  cases gx.symm.trans hmg
  refine ⟨fd, fun s u => .of_eq (hb [u] rfl), fun base _ _ => FnOk.imp (sp := spF ⟨K, mg⟩ 1 (mFn N.length 1 mb)) (okN F S (fun vs H Q E h => h.1) fun cdv A outer s H vs Q E hr hsp => ⟨_, body base fa cdv A outer s H E hr, ?_⟩) fun vs H Q E h => law_in hm vs H Q E h⟩
  exact body_end (ps := ["script"]) hsp
/-- the end of a law's row -/
theorem law_walk {l : PySem.W.OpenLaw} {k : Nat} {q : Program} {loose : List Str} {XP : (Str → Option Value) → Heap → Prop} {YP : World → Heap → Prop} {d : DefRec} {K : Params → PySem.W.Frag}
    (hn : l.most = some 63) (hdf : d.params.defaults = []) (hr : Room k callerA) (hY : ∀ (w : World) (h : Heap), YP w h → (K w.params).In h)
    (F : ∀ (w : World) (mg : Str → Option Value) (fa : Addr) (h : Heap), (K w.params).In h → h.Ns mainGlobals mg → mg d.name = some (.ref fa) → ∃ fd : FuncData, (∀ (s : Shared) (u : Value), BindsTo s fd ⟨[u], []⟩ [(("script" : Str), u)]) ∧
        ∀ base : Heap, (K w.params).In base → base.Ns mainGlobals mg → FnOk l.prog w (K w.params) mg base (L2N.CX l.prog w) k fa fd ["script"] (spL (K w.params))) :
    PySem.W.WalkO q loose XP YP l.row.toRowW d [] (fun f vs => PySem.call f vs) :=
  walk_ofB (n := 63) (CX := fun w => L2N.CX l.prog w) (sp := fun w => spL (K w.params)) hn (by decide) hdf hr hY F
    (fun w H a ns h1 h2 h3 h4 => ⟨a, ns, rfl, h1, h2, h3, h4, fun _ => rfl⟩) fun w H s e s' z => cx_none H s e s' z
end LF
set_option Elab.async false
set_option linter.all false
set_option maxRecDepth 100000
set_option maxHeartbeats 4000000
/-! LFX: own exceptions: made, raised, caught. -/
namespace LF
open PySem PySem.Spec L2
open NdefX (NF NScope CellsAt startF ncx envF inv_startN)
open PyProof.Rows hiding St
section
open PySem.W
variable {prog : Program} {w : World} {A : Around} {E : Value → Shared → Prop} {h : Heap} {g : Array GenState} {d : Drawn} {t : Nat} {os : OsState}
variable {nm q : Str} {C N : Addr} {bs bm : List Value} {hdct : Bool} {sn : List Str} {sub : List Value} {ab : Bool} {col : Option Bool} {dd : Option Addr} {k0 k1 k2 k3 k5 : Option Value}
/-- the bound __init__ of ValueError, called -/
theorem call_mw {u e t0 : Addr} {rest : List Value} {Q : Value → Shared → Prop}
    (hC : h.get? C = some (excClassObj nm q C N bs bm hdct sn sub ab col dd k0 k1 k2 k3 k5 "ValueError.__new__")) (he : h.get? e = some (HandSPX.excO C t0)) (hu : h.get? u = some (kxs_mw "ValueError.__init__" e)) (hrest : rest.length ≤ sizeLine)
    (hq : ∀ h' t1, (∀ b o, b ≠ e → h.get? b = some o → h'.get? b = some o) → h'.get? e = some (HandSPX.excO C t1) → Q .none ⟨h', g, d, t, os⟩) :
    wpAny (model prog w) A (call (.ref u) rest) Q E ⟨h, g, d, t, os⟩ := by
  refine wpAny_call (codeAny_of_tree ?_)
  show wpAny _ A.in1 (callAny (.ref u) ⟨rest, []⟩) _ _ _
  simp only [callAny]
  refine wpAny_bind (wpAny_load hu ?_)
  simp only [kxs_mw, show (Value.type "method-wrapper" == Value.type "method" || Value.type "method-wrapper" == Value.type "builtin_function_or_method" || Value.type "method-wrapper" == Value.type "method-wrapper") = true by decide, if_true]
  refine KFB.if_so (by decide) ?_
  refine wpAny_bind (check_bound_init F.excBase_ValueError.toExcCallFacts hC he rfl ?_)
  refine wpAny_bind (wpAny_pure (wpAny_pure ?_))
  refine ⟨plainId_quiet F.excBase_ValueError.init.plain _, codeAny_builtin F.excBase_ValueError.initEntry ?_⟩
  rw [Around.under_plainId F.excBase_ValueError.init.plain _]
  wp_walk
  refine hq _ h.objs.size (fun b o hb ho => ?_) ?_
  · rw [Heap.get?_update_other _ _ (Ne.symm hb)]
    exact Heap.get?_push_of_some _ ho
  · rw [Heap.get?_update_self _ (Heap.get?_push_of_some _ he) rfl]
    rfl
end
/-- what the written part says around super().__init__ in the __init__ of the class at D, of an instance of the class at C -/
structure SupK (P : Program) (K : PySem.W.Frag) (mg : Str → Option Value) (C D f cc : Addr) (cdv : Value) (sf : Str) : Prop where
  fn : ∃ oc od fd osl ar, K.lookup f = some ⟨oc, od, .func fd, osl⟩ ∧ (fd.params.posonlyargs ++ fd.params.args).head? = some ar ∧ ar.arg = sf
  code : ∃ cda ccl cdd vs ccs file tf, cdv = .ref cda ∧ K.lookup cda = some ⟨ccl, cdd, .fields vs, ccs⟩ ∧ vs[2]? = some (.str file tf) ∧ ((P.main.file : Str) == file) = true
  top : (P.main.scope.names.lookup ("super" : Str)).isSome = false
  cell : ∃ cl cld csl, K.lookup cc = some ⟨cl, cld, .cell (some (.ref D)), csl⟩
  cls : (PySem.W.clsIn K D).isSome = true
  sub : PySem.W.mroIn K C (.ref D) = some true
  glob : mg "super" = none
  ini : PySem.W.ks_superIn K C D "__init__" = some (some (.builtin "ValueError.__init__"))
  nost : PySem.W.nsIn K cStatics "thirdparty.any" = some none
  ve : PySem.W.subIn K (.ref C) (.type "ValueError") = some true
section
variable {X : Cx} {pins : List (Addr × Obj)} {σ : St} {H : Hp} {s : Shared} {a C D f cc : Addr} {sf : Str} {m : Str} {body : List Stmt} {p0 p1 p2 p3 p4 p5 : Pos} {j : Nat} {Q : Flow → Shared → Prop} {pl : Sem Bool}
theorem super_init (S : SupK X.prog X.K X.mg C D f cc X.env.code sf) (T : OexC X.K C) (I : Inv X pins σ H s) (e : H a = some (exo a C none)) (hks : X.env.kindOf "super" = some .globalImplicit) (hkc : X.env.kindOf "__class__" = some .free) (hfu : X.env.func = some f)
    (hcl : X.env.cells.lookup ("__class__" : Str) = some cc) (hN : X.N[0]? = some sf) (hσ : σ[0]? = some (some (.ref a))) (hsf : X.env.kindOf sf = some .local) (hq : ∀ s', Inv X pins σ H s' → Q .next s')
    (hs : swapsWith (.Call (.Attribute (.Call (.Name "super" p0) [] [] p1) "__init__" p2) [.Constant (.str m) j p3] [] p4) none p5.line X.env = pure false := by rfl) (he : starEach [.Constant (.str m) j p3] X.env = (false, eval (.Constant (.str m) j p3) X.env) :: starEach [] X.env := by rfl)
    (hev : eval (.Call (.Attribute (.Call (.Name "super" p0) [] [] p1) "__init__" p2) [.Constant (.str m) j p3] [] p4) X.env = (do
      let ov ← attributeBase (.Call (.Name "super" p0) [] [] p1) "__init__" X.env (eval (.Call (.Name "super" p0) [] [] p1) X.env)
      standAt p2.atName
      let (f, first) ← holding [ov] (getMethod ov "__init__" pl)
      callWith p4 f first (backTo p4 (starEach [.Constant (.str m) j p3] X.env)) []) := by rfl) :
    PySem.wpAt (model X.prog X.w) X.A (.func body X.env) (exec (.Expr (.Call (.Attribute (.Call (.Name "super" p0) [] [] p1) "__init__" p2) [.Constant (.str m) j p3] [] p4) p5) X.env) Q X.xe s := by
  obtain ⟨oc, od, fd, osl, ar, hf, hp, har⟩ := S.fn
  obtain ⟨cda, ccl, cdd, vs, ccs, file, tf, hco, hcode, hvs, hfile⟩ := S.code
  obtain ⟨cl, cld, csl, hcell⟩ := S.cell
  obtain ⟨cdD, hD⟩ := Option.isSome_iff_exists.mp S.cls
  obtain ⟨oD, hD1, hD2⟩ : ∃ oD, X.K.lookup D = some oD ∧ oD.data = .cls cdD := by
    unfold PySem.W.clsIn at hD
    split at hD
    · rename_i c d cd' sl ho
      cases hD
      exact ⟨_, ho, rfl⟩
    · cases hD
  have hk := I.ok.kind
  have X1 := I.kIn
  obtain ⟨t1, hoe⟩ := exo_at I.hok e
  obtain ⟨nm, q, N, bs, bm, sn, sub, ab, col, dd, k0, k1, k2, k3, k5, hC, hbm⟩ := T.cls
  have hclC : PySem.W.clsIn X.K C = some { name := nm, bases := bs, mro := .ref C :: bm, ns := N, qualname := q, hasDict := true, slotNames := sn, subclasses := sub, abstract := ab, collection := col, hasDel := false } := by unfold PySem.W.clsIn; rw [hC] <;> rfl
  refine PySem.ks_wpAt_Expr_any (PySem.ks_wpAt_MethodCall ?_ hev) (I.quiet) hs
  refine PySem.ks_wpAt_super_base hks hkc rfl hfu (X1 _ _ hf) rfl hp hco (X1 _ _ hcode) rfl hvs hfile S.top ?_
  obtain ⟨mb, hb1, hb2⟩ := I.mod.blt
  refine PySem.W.ks_loadName_global hk hks (Calls.loadGlobal_builtin (by rw [I.ok.glob]; exact I.mod.glob.keeps I.bk) S.glob (by rw [I.ok.blt]; exact hb1.keeps I.bk) ((hb2 _ (by decide)).trans (by decide +kernel)) ⟨rfl, ?_⟩)
  refine wpAny_loadName_free hk hkc hcl ⟨_, X1 _ _ hcell, rfl⟩ ?_
  obtain ⟨ml, hn, hl⟩ := I.loc
  obtain ⟨u, ru, hu⟩ := hl 0 sf (.ref a) hN hσ (.inl hsf)
  obtain rfl : u = Value.ref a := ru
  have hml : ml sf = some (.ref a) := by
    rcases hu with ⟨_, h⟩ | ⟨h | h, _⟩
    · exact h
    · rw [hsf] at h; cases h
    · rw [hsf] at h; cases h
  rw [har]
  refine wpAny_loadName_local hk hsf hn hml ?_
  obtain ⟨hh, g, d, t, os⟩ := s
  refine PySem.ks_wpAny_isType_cls (X1 _ _ hD1) hD2 ⟨rfl, ?_⟩
  refine PySem.ks_wpAny_call_super (X1 _ _ hD1) hD2 hoe rfl (fun c z => by cases z) (PySem.W.looks_mroIn X1 S.sub) (fun h' e' k => ?_)
  have I2 : Inv X pins σ H ⟨h', g, d, t, os⟩ := I.kept (t' := t) k
  have X2 := I2.kIn
  have hoe2 := k _ _ hoe
  have IA : PySem.W.InstAt h' a _ C none := ⟨hoe2, rfl, rfl, trivial⟩
  have hsup := S.ini
  unfold PySem.W.ks_superIn at hsup
  rw [hclC] at hsup
  refine PySem.W.kxs_getMethod PySem.W.kxs_ValueError e' (PySem.W.looks_opaque X2 S.nost) (l₀ := .ref C :: bm) ?_ rfl X2 hsup (IA.type.andThen (PySem.W.looks_subIn X2 S.ve)) (PySem.W.ks_ne X2 IA hclC) (by decide) ?_
  · exact fun A Q E s k q => wpAny_bind ((PySem.W.looks_clsIn X2 hclC) A _ E s k (wpAny_pure q))
  have k3' : ∀ b o, h'.get? b = some o → (h'.push (PySem.W.kxs_mw "ValueError.__init__" a)).get? b = some o := fun b o z => Heap.get?_push_of_some _ z
  have I3 : Inv X pins σ H ⟨h'.push (PySem.W.kxs_mw "ValueError.__init__" a), g, d, t + 1, os⟩ := I2.kept (t' := t + 1) k3'
  have hw : (h'.push (PySem.W.kxs_mw "ValueError.__init__" a)).get? h'.objs.size = some (PySem.W.kxs_mw "ValueError.__init__" a) := Heap.get?_push_at rfl rfl
  have nH : H h'.objs.size = none := I2.hok.fresh (Nat.le_refl _)
  have I4 : Inv X ((h'.objs.size, PySem.W.kxs_mw "ValueError.__init__" a) :: pins) σ H ⟨h'.push (PySem.W.kxs_mw "ValueError.__init__" a), g, d, t + 1, os⟩ := I3.pins_of fun p hp => by
    rcases List.mem_cons.mp hp with rfl | hp
    · exact ⟨hw, nH, fun z => absurd I2.lt (by rw [← z]; exact Nat.lt_irrefl _), I2.nofs (Nat.le_refl _), fun v z => by cases z⟩
    · exact I3.pin p (List.mem_append_right _ hp)
  show wpAny _ _ (callWith p4 (.ref h'.objs.size) [] (backTo p4 (starEach [.Constant (.str m) j p3] X.env)) []) _ _ _
  rw [he]
  refine PySem.W.kxs_callWith (i := "ValueError.__init__") (x := a) rfl ?_
  refine Calls.evalArgs_plain ?_
  have R := (pa_cons (X := X) (pe_str (x := m) (j := j) (pos := p3)) pa_nil (hs := he)).run p4 _ _ σ H (fun vs H1 => vs = [V.str m] ∧ H = H1) I4 ⟨rfl, rfl⟩
  rw [he] at R
  refine wpAny_mono R (fun us s1 hh => ?_) fun _ _ z => ?_
  · obtain ⟨vs', H1, I5, r1, ev, eH⟩ := hh
    subst ev; subst eH
    have hu := (I5.pin (h'.objs.size, PySem.W.kxs_mw "ValueError.__init__" a) (List.mem_append_right _ List.mem_cons_self)).1
    refine ⟨hu, ?_⟩
    obtain ⟨t2, hoe5⟩ := exo_at I5.hok e
    have hlen : us.length ≤ sizeLine := by rw [← Paired.length r1]; show 1 ≤ sizeLine; decide
    obtain ⟨h5, g5, d5, tk5, os5⟩ := s1
    refine call_mw (I5.kIn _ _ hC) hoe5 hu hlen fun h6 t3 k6 hx6 => ?_
    have J := I5.write (t' := tk5) (x := a) (e := a) (o := exo a C none) (by rw [e]; exact True.intro) (.inl rfl) k6 ⟨_, hx6⟩ (exo_ok hx6)
    have eu : upd H a (exo a C none) = H := by
      funext b
      by_cases hb : b = a
      · rw [hb, upd_same, e]
      · rw [upd_ne hb]
    rw [eu] at J
    exact hq _ (J.pins_of fun p hp => J.pin p (List.mem_append_right _ (List.mem_cons_of_mem _ hp)))
  · exact z
end
/-! ### the __init__ of an own exception -/
abbrev clsN : Str := "__class__"
abbrev supSt (m : Str) (j : Nat) (p0 p1 p2 p3 p4 p5 : Pos) : Stmt := .Expr (.Call (.Attribute (.Call (.Name "super" p0) [] [] p1) "__init__" p2) [.Constant (.str m) j p3] [] p4) p5
section
variable {CX : CXT} {P : Program} {w : World} {K : PySem.W.Frag} {mg : Str → Option Value} {base : Heap} {ps : List Str} {F : NF} {f cc D : Addr} {k : Nat} {sp : Sp} {sf m : Str} {j : Nat} {p0 p1 p2 p3 p4 p5 : Pos} {rest : List Stmt} {dV kV doc pm ct oc : Value} {an od : Option Addr} {osl : Array (Option Value)}
theorem fn_sup (lk : K.lookup f = some ⟨oc, od, .func (PySem.W.ksFn F.name F.qual F.params F.body F.scope dV kV doc pm an (.ref F.c) ct cc), osl⟩) (hcd : PySem.W.codeIn K (.ref F.c) F.qual = true) (hF : F.cl = [(clsN, cc)]) (hb : F.body = supSt m j p0 p1 p2 p3 p4 p5 :: rest)
    (S : NScope (ps ++ [clsN]) ps [clsN] F.scope) (hps : ps[0]? = some sf) (hsu : F.scope.names.lookup ("super" : Str) = some .globalImplicit) (hcell : ∃ cl cld csl, K.lookup cc = some ⟨cl, cld, .cell (some (.ref D)), csl⟩)
    (len : ∀ vs H Q E, sp vs H Q E → vs.length = ps.length)
    (hq : ∀ L, swapsWith (.Call (.Attribute (.Call (.Name "super" p0) [] [] p1) "__init__" p2) [.Constant (.str m) j p3] [] p4) none p5.line (envF F f L) = pure false) (he : ∀ L, starEach [.Constant (.str m) j p3] (envF F f L) = (false, eval (.Constant (.str m) j p3) (envF F f L)) :: starEach [] (envF F f L))
    {pl : Sem Bool}
    (hev : ∀ L, eval (.Call (.Attribute (.Call (.Name "super" p0) [] [] p1) "__init__" p2) [.Constant (.str m) j p3] [] p4) (envF F f L) = (do
      let ov ← attributeBase (.Call (.Name "super" p0) [] [] p1) "__init__" (envF F f L) (eval (.Call (.Name "super" p0) [] [] p1) (envF F f L))
      standAt p2.atName
      let (fv, first) ← holding [ov] (getMethod ov "__init__" pl)
      callWith p4 fv first (backTo p4 (starEach [.Constant (.str m) j p3] (envF F f L))) []))
    (hbody : ∀ (A : Around) (outer : List Env) (s : Shared) (H : Hp) (vs : List V) (Q : VK) (E : XK), Room k (A.deeper (envF F f s.heap.objs.size)) → sp vs H Q E →
      ∃ a C, vs[0]? = some (.ref a) ∧ SupK P K mg C D f cc (.ref F.c) sf ∧ OexC K C ∧ H a = some (exo a C none) ∧
      ∃ t, PSs (ncx CX P w K mg base (ps ++ [clsN]) F f A outer s H E) rest t ∧ t { nx := fun _ H' => Q .non H', rt := Q } (startF (ps ++ [clsN]) vs [none]) H) :
    FnOk P w K mg base CX (k + 1) f (PySem.W.ksFn F.name F.qual F.params F.body F.scope dV kV doc pm an (.ref F.c) ct cc) ps sp := by
  refine ⟨len, fun A outer s H args us vs Q E hr e0 hbd r hsp => ?_⟩
  have hl := len _ _ _ _ hsp
  obtain ⟨cl, cld, csl, hcc⟩ := hcell
  have KB := e0.mod.kin
  have KX : K.In s.heap := e0.mod.kin.keeps fun b o e => (e0.bs b o e).1
  have lim : s.heap.NoLimit := e0.mod.nolimit.keeps fun b o e => (e0.bs b o e).1
  have hnd : ps.Nodup := (List.nodup_append.mp S.nd).1
  refine PySem.ks_codeAny_call_defAt (fd := PySem.W.ksFn F.name F.qual F.params F.body F.scope dV kV doc pm an (.ref F.c) ct cc) (body := F.body) (binds := ps.zip us) hr.depth (KX _ _ lk) rfl lim (PySem.W.codeRec_of KX hcd) rfl hbd S.nocell (fun x hx => S.par _ (List.of_mem_zip hx).1) (fun h₁ hns kp => ?_) S.co S.gen S.kind
  obtain ⟨a, C, ha, SK, T, ea, t, ht, q⟩ := hbody A outer s H vs Q E (hr.deeper _) hsp
  have C0 : CellsAt F.cl [clsN] [none] s.heap H := by
    rw [hF]
    refine ⟨rfl, fun y c z => ?_, fun x y c z1 z2 => ?_, fun i y z => ?_⟩
    · have : c = cc := by
        simp only [List.lookup] at z
        split at z
        · cases z; rfl
        · cases z
      subst this
      exact ⟨(e0.bs _ _ (KB _ _ hcc)).2, _, _, KX _ _ hcc, rfl⟩
    · have h1 : ∀ {x : Str} {c : Addr}, List.lookup x [(clsN, cc)] = some c → x = clsN := fun {x c} z => by
        simp only [List.lookup] at z
        split at z
        · rename_i h; exact beq_iff_eq.mp h
        · cases z
      rw [h1 z1, h1 z2]
    · cases i with
      | zero =>
        have : y = clsN := by simpa using z.symm
        subst this
        exact ⟨cc, rfl, fun v z => by cases z⟩
      | succ i => simp at z
  have I : Inv (ncx CX P w K mg base (ps ++ [clsN]) F f A outer s H E) [] (startF (ps ++ [clsN]) vs [none]) H { s with heap := h₁, toks := s.toks + (ps.zip us).length } := inv_startN S hr.hd e0 hl r C0 hns kp
  have fin : ∀ {σ' : St} {H' : Hp} {v : V} {u : Value} {s' : Shared}, Inv (ncx CX P w K mg base (ps ++ [clsN]) F f A outer s H E) [] σ' H' s' → RelV v u → Q v H' → CE outer P w H s Q u s' :=
    fun {σ' H' v u s'} J rv q => ⟨v, H', J.os, J.bare, J.base, J.hok, rv, q⟩
  have hp0 : 0 < ps.length := (List.getElem?_eq_some_iff.mp hps).1
  have hσ : (startF (ps ++ [clsN]) vs [none])[0]? = some (some (.ref a)) := by
    unfold startF
    rw [List.getElem?_append_left (by rw [List.length_map]; omega), List.getElem?_map, ha]; rfl
  have hev1 := hev s.heap.objs.size
  have eenv : callEnv (PySem.W.ksFn F.name F.qual F.params F.body F.scope dV kV doc pm an (.ref F.c) ct cc) s.heap.objs.size f = envF F f s.heap.objs.size := by unfold envF; rw [hF]; rfl
  rw [eenv]
  rw [hb] at *
  refine PySem.ks_wpAt_execs_cons ?_
  refine super_init (X := ncx CX P w K mg base (ps ++ [clsN]) F f A outer s H E) (pl := pl) SK T I ea hsu (S.frk _ (by simp)) rfl (by show List.lookup _ F.cl = _; rw [hF]; rfl) (by show (ps ++ [clsN])[0]? = _; rw [List.getElem?_append_left hp0]; exact hps) hσ (S.par _ (List.mem_of_getElem? hps)) (fun s' J => ?_) (hq _) (he _) hev1
  refine PySem.wpAt_of_wpAny (wpAny_mono (ht.run [] s' _ H _ J q) (fun fl s'' hs => ?_) fun e s' hs => hs)
  cases fl with
  | ret u =>
    obtain ⟨v, σ', H', J, rv, q⟩ := hs
    exact fin J rv q
  | next =>
    obtain ⟨σ', H', J, q⟩ := hs
    exact fin (v := V.non) (u := Value.none) J rfl q
  | brk =>
    obtain ⟨_, _, _, q⟩ := hs
    exact False.elim q
  | cont =>
    obtain ⟨_, _, _, q⟩ := hs
    exact False.elim q
end
/-! ### an own exception is made and raised -/
/-- what the __init__ of the class at C promises: the fields fs, out of the parameters of the same names -/
def spX (K : PySem.W.Frag) (C : Addr) (fs : List Str) : Sp := fun vs H Q _ => ∃ (a : Addr) (ws : List V), vs = .ref a :: ws ∧ ws.length = fs.length ∧ H a = some (exo a C none) ∧
  ∀ (dx : Addr) (H' : Hp), H dx = none → dx ≠ a → H' a = some (exo a C (some dx)) → H' dx = some (exd dx (fs.zip ws).reverse) → (∀ b, b ≠ a → b ≠ dx → H' b = H b) → Q .non H'
abbrev slfN : Str := "self"
structure ExcOk (P : Program) (w : World) (K : PySem.W.Frag) (mg : Str → Option Value) (base : Heap) (x : Str) (k : Nat) (fs : List Str) : Prop where
  ex : ∃ C fI fd, mg x = some (.ref C) ∧ OexC K C ∧ PySem.W.findIn K (.ref C) "__init__" = some (some (.ref fI)) ∧ PySem.W.typeIn K (.ref fI) = some (.type "function") ∧ FnOk P w K mg base (L2N.CX P w) k fI fd (slfN :: fs) (spX K C fs) ∧ Binds K fd (slfN :: fs) []
abbrev asSt (f : Str) (q0 q1 q2 q3 : Pos) : Stmt := .Assign [.Attribute (.Name slfN q0) f q1] (.Name f q2) q3
section
variable {P : Program} {w : World} {K : PySem.W.Frag} {mg : Str → Option Value} {base : Heap} {F : NF} {fI cc C : Addr} {k : Nat} {x m f1 f2 : Str} {j : Nat} {p0 p1 p2 p3 p4 p5 q0 q1 q2 q3 r0 r1 r2 r3 : Pos} {dV kV doc pm ct oc : Value} {an od : Option Addr} {osl : Array (Option Value)} {pl : Sem Bool}
theorem excOk1 (gx : mg x = some (.ref C)) (T : OexC K C) (hi : PySem.W.findIn K (.ref C) "__init__" = some (some (.ref fI))) (hty : PySem.W.typeIn K (.ref fI) = some (.type "function"))
    (hbd : ∀ us : List Value, us.length = [slfN, f1].length → bindArgs (PySem.W.ksFn F.name F.qual F.params F.body F.scope dV kV doc pm an (.ref F.c) ct cc) ⟨us, []⟩ = pure ([slfN, f1].zip us))
    (SK : SupK P K mg C C fI cc (.ref F.c) slfN) (no1 : PySem.W.findIn K (.ref C) f1 = some none)
    (lk : K.lookup fI = some ⟨oc, od, .func (PySem.W.ksFn F.name F.qual F.params F.body F.scope dV kV doc pm an (.ref F.c) ct cc), osl⟩) (hcd : PySem.W.codeIn K (.ref F.c) F.qual = true) (hF : F.cl = [(clsN, cc)])
    (hb : F.body = supSt m j p0 p1 p2 p3 p4 p5 :: [asSt f1 q0 q1 q2 q3])
    (S : NScope ([slfN, f1] ++ [clsN]) [slfN, f1] [clsN] F.scope) (hsu : F.scope.names.lookup ("super" : Str) = some .globalImplicit)
    (hq : ∀ L, swapsWith (.Call (.Attribute (.Call (.Name "super" p0) [] [] p1) "__init__" p2) [.Constant (.str m) j p3] [] p4) none p5.line (envF F fI L) = pure false) (he : ∀ L, starEach [.Constant (.str m) j p3] (envF F fI L) = (false, eval (.Constant (.str m) j p3) (envF F fI L)) :: starEach [] (envF F fI L))
    (hev : ∀ L, eval (.Call (.Attribute (.Call (.Name "super" p0) [] [] p1) "__init__" p2) [.Constant (.str m) j p3] [] p4) (envF F fI L) = (do
      let ov ← attributeBase (.Call (.Name "super" p0) [] [] p1) "__init__" (envF F fI L) (eval (.Call (.Name "super" p0) [] [] p1) (envF F fI L))
      standAt p2.atName
      let (fv, first) ← holding [ov] (getMethod ov "__init__" pl)
      callWith p4 fv first (backTo p4 (starEach [.Constant (.str m) j p3] (envF F fI L))) []))
    (hs1 : ∀ L, swapsWith (.Name f1 q2) (some (.Attribute (.Name slfN q0) f1 q1)) q3.line (envF F fI L) = pure false)
    (hd1 : (f1 == ("__debug__" : Str)) = false) (hd2 : (f1 == ("__classdict__" : Str)) = false) :
    ExcOk P w K mg base x (k + 1) [f1] := by
  refine ⟨C, fI, _, gx, T, hi, hty, fn_sup (sf := slfN) (pl := pl) lk hcd hF hb S rfl hsu SK.cell (fun vs H Q E h => ?_) hq he hev (fun A outer s H vs Q E hr hsp => ?_), .all hbd⟩
  · obtain ⟨a, ws, rfl, hl, _⟩ := h
    simp at hl; simp [hl]
  · obtain ⟨a, ws, rfl, hl, ha, q⟩ := hsp
    obtain ⟨y, rfl⟩ : ∃ y, ws = [y] := by
      match ws, hl with
      | [y], _ => exact ⟨y, rfl⟩
    refine ⟨a, C, rfl, SK, T, ha, _, pss_one (ps_ost (pe_var (i := 0) rfl (.inl (S.par _ (by simp)))) (pe_var (i := 1) rfl (.inl (S.par _ (by simp))) hd1 hd2) (hs1 _)), ?_⟩
    refine ⟨y, rfl, .ref a, rfl, a, C, rfl, T, no1, .inl ⟨ha, fun dx hn hne => q dx _ hn hne upd_same ?_ fun b h1 h2 => ?_⟩⟩
    · rw [upd_ne hne, upd_same]; rfl
    · rw [upd_ne h1, upd_ne h2]
theorem excOk2 (gx : mg x = some (.ref C)) (T : OexC K C) (hi : PySem.W.findIn K (.ref C) "__init__" = some (some (.ref fI))) (hty : PySem.W.typeIn K (.ref fI) = some (.type "function"))
    (hbd : ∀ us : List Value, us.length = [slfN, f1, f2].length → bindArgs (PySem.W.ksFn F.name F.qual F.params F.body F.scope dV kV doc pm an (.ref F.c) ct cc) ⟨us, []⟩ = pure ([slfN, f1, f2].zip us))
    (SK : SupK P K mg C C fI cc (.ref F.c) slfN) (no1 : PySem.W.findIn K (.ref C) f1 = some none) (no2 : PySem.W.findIn K (.ref C) f2 = some none)
    (lk : K.lookup fI = some ⟨oc, od, .func (PySem.W.ksFn F.name F.qual F.params F.body F.scope dV kV doc pm an (.ref F.c) ct cc), osl⟩) (hcd : PySem.W.codeIn K (.ref F.c) F.qual = true) (hF : F.cl = [(clsN, cc)])
    (hb : F.body = supSt m j p0 p1 p2 p3 p4 p5 :: [asSt f1 q0 q1 q2 q3, asSt f2 r0 r1 r2 r3])
    (S : NScope ([slfN, f1, f2] ++ [clsN]) [slfN, f1, f2] [clsN] F.scope) (hsu : F.scope.names.lookup ("super" : Str) = some .globalImplicit)
    (hq : ∀ L, swapsWith (.Call (.Attribute (.Call (.Name "super" p0) [] [] p1) "__init__" p2) [.Constant (.str m) j p3] [] p4) none p5.line (envF F fI L) = pure false) (he : ∀ L, starEach [.Constant (.str m) j p3] (envF F fI L) = (false, eval (.Constant (.str m) j p3) (envF F fI L)) :: starEach [] (envF F fI L))
    (hev : ∀ L, eval (.Call (.Attribute (.Call (.Name "super" p0) [] [] p1) "__init__" p2) [.Constant (.str m) j p3] [] p4) (envF F fI L) = (do
      let ov ← attributeBase (.Call (.Name "super" p0) [] [] p1) "__init__" (envF F fI L) (eval (.Call (.Name "super" p0) [] [] p1) (envF F fI L))
      standAt p2.atName
      let (fv, first) ← holding [ov] (getMethod ov "__init__" pl)
      callWith p4 fv first (backTo p4 (starEach [.Constant (.str m) j p3] (envF F fI L))) []))
    (hs1 : ∀ L, swapsWith (.Name f1 q2) (some (.Attribute (.Name slfN q0) f1 q1)) q3.line (envF F fI L) = pure false) (hs2 : ∀ L, swapsWith (.Name f2 r2) (some (.Attribute (.Name slfN r0) f2 r1)) r3.line (envF F fI L) = pure false)
    (hd1 : (f1 == ("__debug__" : Str)) = false) (hd2 : (f1 == ("__classdict__" : Str)) = false) (hd3 : (f2 == ("__debug__" : Str)) = false) (hd4 : (f2 == ("__classdict__" : Str)) = false) :
    ExcOk P w K mg base x (k + 1) [f1, f2] := by
  refine ⟨C, fI, _, gx, T, hi, hty, fn_sup (sf := slfN) (pl := pl) lk hcd hF hb S rfl hsu SK.cell (fun vs H Q E h => ?_) hq he hev (fun A outer s H vs Q E hr hsp => ?_), .all hbd⟩
  · obtain ⟨a, ws, rfl, hl, _⟩ := h
    simp at hl; simp [hl]
  · obtain ⟨a, ws, rfl, hl, ha, q⟩ := hsp
    obtain ⟨y, z, rfl⟩ : ∃ y z, ws = [y, z] := by
      match ws, hl with
      | [y, z], _ => exact ⟨y, z, rfl⟩
    refine ⟨a, C, rfl, SK, T, ha, _, pss_cons (ps_ost (pe_var (i := 0) rfl (.inl (S.par _ (by simp)))) (pe_var (i := 1) rfl (.inl (S.par _ (by simp))) hd1 hd2) (hs1 _)) (pss_one (ps_ost (pe_var (i := 0) rfl (.inl (S.par _ (by simp)))) (pe_var (i := 2) rfl (.inl (S.par _ (by simp))) hd3 hd4) (hs2 _))), ?_⟩
    refine ⟨y, rfl, .ref a, rfl, a, C, rfl, T, no1, .inl ⟨ha, fun dx hn hne => ?_⟩⟩
    refine ⟨z, rfl, .ref a, rfl, a, C, rfl, T, no2, .inr ⟨dx, [(f1, y)], upd_same, ?_, by simp, q dx _ hn hne ?_ ?_ fun b h1 h2 => ?_⟩⟩
    · rw [upd_ne hne, upd_same]
    · rw [upd_ne (Ne.symm hne), upd_same]
    · rw [upd_same]; rfl
    · rw [upd_ne h2, upd_ne h1, upd_ne h2]
end
theorem zip_rev {α β : Type} : ∀ (as : List α) (bs : List β), as.length = bs.length → (as.zip bs).reverse = as.reverse.zip bs.reverse
  | [], [], _ => rfl
  | a :: as, b :: bs, h => by
    have h' : as.length = bs.length := by simpa using h
    rw [List.zip_cons_cons, List.reverse_cons, zip_rev as bs h', List.reverse_cons, List.reverse_cons, List.zip_append (by simp [h'])]; rfl
theorem RVs.rev {G : Wo} {ι : List Addr} {H : Hp} : ∀ {xs : List D} {vs : List V}, RVs G ι H xs vs → RVs G ι H xs.reverse vs.reverse
  | [], vs, r => by simp only [RVs] at r; subst r; exact RVs.nil
  | x :: xs, vs, r => by
    simp only [RVs] at r
    obtain ⟨v, q, rfl, r1, r2⟩ := r
    rw [List.reverse_cons, List.reverse_cons]
    exact (RVs.rev r2).append (RVs.one r1)
/-- C(e, ..) where nothing is handled: the new exception's context is None -/
theorem pmk_oexN {X : Cx} {CX : CXT} {x : Str} {e : Expr} {es : List Expr} {ta : TA} {p pos : Pos} {C fI : Addr} {k : Nat} {fd : FuncData} {ps : List Str} {sp : Sp} (T : OexC X.K C) (iC : PySem.W.findIn X.K (.ref C) "__init__" = some (some (.ref fI))) (tI : PySem.W.typeIn X.K (.ref fI) = some (.type "function"))
    (F1 : FnOk X.prog X.w X.K X.mg X.base CX k fI fd ps sp) (hr : Room (k + 1) X.A) (hb : Binds X.K fd ps []) (hx : Passes CX X (fun _ _ _ => False)) (hg : Gl X x) (hm : X.mg x = some (.ref C)) (ha : PA X (e :: es) ta)
    (hdb : (x == ("__debug__" : Str)) = false := by decide) (he : starEach (e :: es) X.env = (false, eval e X.env) :: starEach es X.env := by rfl) (hpl : (backTo pos (starEach es X.env)).any (·.1) = false := by rfl) :
    L2N.PMk X (.Call (.Name x p) (e :: es) [] pos) (tMkO C sp [] ta) := by
  intro pins s σ H Q I h
  obtain ⟨nm, q, N, bs, bm, sn, sub, ab, col, dd, k0, k1, k2, k3, k5, hC, hbm⟩ := T.cls
  refine wpAny_Call_Name_kw (ld_glob I hg hm ?_ hdb)
  refine PySem.W.callWith_K (h₀ := X.base) I.ok.mod.kin T.kC (thn (ha.run pos pins s σ H _ I h) fun us s1 ⟨vs, H1, I1, r1, hz, q1⟩ => ⟨I1.kIn, ?_⟩) he hpl
  show wpAny _ _ (call (.ref C) us) _ _ _
  obtain ⟨hp, g, dr, tk, os⟩ := s1
  have hq := q1 (hp.objs.size + 1) (I1.hok.fresh (Nat.le_succ _))
  rw [List.append_nil] at hq
  have kk : ∀ b o, hp.get? b = some o → ((hp.push (PySem.W.kdv_tup us)).push (PySem.HandSPX.excO C hp.objs.size)).get? b = some o := fun b o e => Heap.get?_push_of_some _ (Heap.get?_push_of_some _ e)
  have I2 : Inv X pins σ (upd H1 (hp.objs.size + 1) (exo (hp.objs.size + 1) C none)) ⟨(hp.push (PySem.W.kdv_tup us)).push (PySem.HandSPX.excO C hp.objs.size), g, dr, tk, os⟩ :=
    I1.laid (t' := tk) (a := hp.objs.size + 1) (o := exo (hp.objs.size + 1) C none) kk (Nat.le_succ _) (exo_ok (by heap_get))
  have r2 : Vals (V.ref (hp.objs.size + 1) :: vs) (Value.ref (hp.objs.size + 1) :: us) := .cons rfl r1
  have b2 := hb _ (Value.ref (hp.objs.size + 1) :: us) I2.kIn (by rw [List.append_nil, ← r2.length]; exact F1.len _ _ _ _ hq)
  rw [List.append_nil] at b2
  refine wpAny_call (PySem.HandSPX.call_own F.excBase_ValueError (fun Y => PySem.HandSPX.refsVE_contains Y bm hbm) (I1.kIn _ _ hC) (PySem.W.looks_findIn I1.kIn iC) (fun self => PySem.W.bind_fn I1.kIn self tI) (by rw [← Paired.length r1, sizeLine_eq]; omega)
    (codeAny_mono (F1.run _ X.stack _ _ ⟨Value.ref (hp.objs.size + 1) :: us, []⟩ (Value.ref (hp.objs.size + 1) :: us) _ _ (fun _ _ _ => False) (hr.make C us []) (I2.env0.make C us []) b2 r2 hq) fun r s' hq' => ?_))
  cases r with
  | error er => exact hx pins σ _ _ er s' I2 hq'
  | ok fl =>
    cases fl with
    | ret u =>
      obtain ⟨v, H2, os2, bare2, un2, hok2, rv, ev, d, fs, ea, ed, hd1, q2⟩ := hq'
      subst ev
      obtain ⟨h2, g2, d2, t2, os'⟩ := s'
      obtain ⟨t0, G, J, kG, ge, hoe, na⟩ := mk_end0 (d2 := d2) (t2 := t2) I1 (Nat.le_succ _) kk un2 hok2 os2 bare2 ea ed hd1
      exact ⟨rv, hp.objs.size + 1, _, _, ⟨G, g2, d2, t2, os'⟩, _, .ref C, some d, rfl, J, kG, ge, hoe, ⟨rfl, rfl, fun vs hv => by cases hv; rfl⟩, rfl, rfl, na, rfl, bare2, raises_own T.exC T.tyC, q2⟩
    | next => exact False.elim hq'
    | brk => exact False.elim hq'
    | cont => exact False.elim hq'
/-- raise X(e, ..) -/
def mRaise (x : Str) (fs : List Str) (mas : MA) : MS := fun env h => SR.of (mas env h) env fun ds h => if ds.length = fs.length then .exc x fs.reverse ds.reverse env h else .stuck
section
variable {X : Cx} {W : WX} {ex : Ex} {e : Expr} {es : List Expr} {mas : MA} {x : Str} {fs : List Str} {k : Nat} {p pos pos' : Pos}
theorem fs_raise (T : ExcOk X.prog X.w X.K X.mg X.base x k fs) (tk : L2N.Takes X W) (hr : Room (k + 1) X.A) (ha : FA X W ex (e :: es) mas) (hc : X.calm = true := by rfl) (hg : Gl X x := by rfl) (hn : fs.length ≤ 1000 := by decide) (hdb : (x == ("__debug__" : Str)) = false := by decide)
    (he : starEach (e :: es) X.env = (false, eval e X.env) :: starEach es X.env := by rfl) (hpl : (backTo pos (starEach es X.env)).any (·.1) = false := by rfl) :
    FS X W ex (.Raise (some (.Call (.Name x p) (e :: es) [] pos)) none pos') (mRaise x fs mas) := by
  obtain ⟨C, fI, fd, gx, T1, hi, hty, F1, hb⟩ := T.ex
  have hx : Passes (L2N.CX X.prog X.w) X (fun _ _ _ => False) := fun pins σ H s e s' I c => by
    obtain ⟨_, _, _, _, _, _, _, _, _, _, _, _, z⟩ := c
    exact z.elim
  refine PS.imp (L2N.ps_raise hc tk (pmk_oexN T1 hi hty F1 hr hb hx hg gx ha hdb he hpl)) fun D σ H q => ?_
  obtain ⟨ι, h, env, rel, re, po⟩ := q
  refine ⟨ι, h, env, rel, re, post_of re po fun ds h1 ι1 H1 vs eq1 p1 k1 rel1 rv1 po1 => ?_⟩
  split at po1
  case isFalse => exact po1.elim
  rename_i hl
  have hlv : vs.length = fs.length := by rw [← hl, RVs.length rv1]
  refine ⟨by omega, fun a na => ⟨a, vs, by simp, hlv, upd_same, fun dx H' hn hne h1 h2 h3 => ⟨rfl, dx, _, h1, h2, by rwa [upd_ne hne] at hn, ?_⟩⟩⟩
  have hd : H1 dx = none := by rwa [upd_ne hne] at hn
  have e3 : upd (del H' a) dx (.xd (fs.zip vs).reverse) = upd H1 dx (.xd (fs.zip vs).reverse) := by
    funext b
    by_cases hb : b = dx
    · rw [hb, upd_same, upd_same]
    · rw [upd_ne hb, upd_ne hb]
      by_cases ha : b = a
      · rw [ha, del_same, na]
      · rw [del_ne ha, h3 b ha hb, upd_ne ha]
  rw [e3]
  have sm : Same H1 (upd H1 dx (.xd (fs.zip vs).reverse)) := same_upd hd
  refine po1 ι1 _ σ C (some dx) (List.prefix_refl _) (Keep.of_same sm) (rel1.same sm) ((re.mono p1 k1).mono (List.prefix_refl _) (Keep.of_same sm)) gx ⟨by simp [hl], vs.reverse, .inr ⟨dx, rfl, ?_⟩, (RVs.rev rv1).mono (List.prefix_refl _) (Keep.of_same sm) _ _⟩
  rw [upd_same, zip_rev _ _ hlv.symm]
end
end LF
set_option Elab.async false
set_option linter.all false
set_option maxRecDepth 100000
set_option maxHeartbeats 4000000
/-! LFY: own exceptions caught. -/
namespace PySem.W
open PySem PySem.Spec PySem.Calls PyProof.Rows
section
variable {prog : Program} {w : World} {A : Around} {E : Value → Shared → Prop} {s : Shared} {K : Frag} {x D : Addr} {ox : Obj} {od : Option Obj}
theorem lf_findD {C : Addr} {name : Str} {a g : Value} (hc : (clsIn K C).isSome = true) (ha : findIn K (.ref C) name = some (some a)) (hg : specialIn K a "__get__" = some (some g)) (ht : takesIn K a = some true) : findObj K C od name = some (.bind g a) := by
  obtain ⟨cd, hc⟩ := Option.isSome_iff_exists.mp hc
  unfold findObj
  rw [hc, Option.bind_some, ha, Option.bind_some]
  simp [hg, ht]
theorem lf_classE {Q : Option Value → Shared → Prop} (hga : findIn K (.ref D) "__getattribute__" = some (some (.builtin "BaseException.__getattribute__"))) (hgt : findIn K (.ref D) "__getattr__" = some none) (hsub : subIn K (.ref D) (.type "BaseException") = some true)
    (hdct : hasDictIn K D = true) (ha : findIn K (.ref D) "__class__" = some (some (.builtin "object.__class__"))) (hn : specialIn K (.builtin "object.__class__") "__get__" = some (some (.builtin "getset_descriptor.__get__"))) (htk : takesIn K (.builtin "object.__class__") = some true) (hm : mroIn K D (.type "object") = some true)
    (X : K.In s.heap) (I : InstAt s.heap x ox D od) (h : Q (some (.ref D)) { s with toks := s.toks + 1 }) : wpAny (model prog w) A (getAttr? (.ref x) "__class__") Q E s := by
  have hf : findObj K D od "__class__" = some (.bind (.builtin "getset_descriptor.__get__") (.builtin "object.__class__")) := lf_findD (by obtain ⟨cd, hc, _⟩ := any_some hdct; rw [hc]; rfl) ha hn htk
  obtain ⟨hp, g, d, t, os⟩ := s
  have L0 := I.type (M := model prog w)
  have L1 := looks_findIn (M := model prog w) X hga
  have L2 := looks_findIn (M := model prog w) X hgt
  have L3 := looks_find (M := model prog w) X I hf
  have sub : Looks (model prog w) hp (isInstance (.ref x) (.type "BaseException")) true := L0.andThen (looks_subIn X hsub)
  have hx0 : (false && onTheHeap (Value.builtin "BaseException.__getattribute__")) = false := rfl
  have hx2 : (Value.builtin "BaseException.__getattribute__" == Value.builtin "object.__getattribute__") = false := by decide +kernel
  have hx1 : (onTheHeap (Value.ref D) && Value.builtin "BaseException.__getattribute__" == Value.builtin "object.__getattribute__") = false := by rw [hx2]; rfl
  unfold getAttr? getAttrBy? getAttrBy
  refine wpAny_bind (wpAny_mkText (wpAny_bind (wpAny_attempt (wpAny_holding (wpAny_bind (L0.at (wpAny_bind (L1.at ?_))))))))
  show wpAny _ _ (if (onTheHeap (Value.ref D) && Value.builtin "BaseException.__getattribute__" == Value.builtin "object.__getattribute__") = true then _ else _) _ _ _
  rw [hx1, if_neg Bool.false_ne_true]
  unfold getAttrByItsOwn hookBefore
  refine wpAny_bind ?_
  rw [if_pos (show onTheHeap (Value.ref D) = true from rfl)]
  refine L2.at ?_
  refine wpAny_bind (wpAny_attempt (wpAny_holding ?_))
  unfold callGetattribute
  rw [hx0, if_neg Bool.false_ne_true]
  unfold boundAndCalled
  rw [PySem.F.excAttr_ValueError.ga.bind (.ref x)]
  refine wpAny_bind (wpAny_pure ?_)
  show wpAny _ _ (call (.builtin "BaseException.__getattribute__") [.ref x, .str "__class__" t]) _ _ _
  refine wpAny_call (codeAny_call_builtin PySem.F.excAttr_ValueError.ga.plain PySem.F.entry_bexc_ga ?_)
  refine @check_slot (model prog w) _ _ ⟨hp, g, d, t + 1, os⟩ "BaseException.__getattribute__" "BaseException" "__getattribute__" (.ref x) [.str "__class__" t] [] _ (by decide +kernel) (by decide +kernel) sub (PySem.F.args_bexc_ga (.ref x) (.str "__class__" t)) ?_
  unfold Builtin.«object.__getattribute__»
  refine wpAny_bind (wpAny_of_eq (a := ((Value.ref x : Value), [Value.str "__class__" t])) (by first | rfl | (simp only [slotArgs]; rfl)) ?_)
  refine wpAny_bind (wpAny_pure (wpAny_bind (L0.at (wpAny_bind (L3.at ?_)))))
  show wpAny _ _ (holding [Value.builtin "object.__class__"] (call (.builtin "getset_descriptor.__get__") [.builtin "object.__class__", .ref x, .ref D]) >>= ret) _ _ _
  refine wpAny_bind (wpAny_holding (wpAny_call (class_get (s := ⟨hp, g, d, t + 1, os⟩) (ox := ox) (od := od) X I hm ?_)))
  refine wpAny_pure ?_
  show wpAny _ _ (handedOut (.ref D)) _ _ _
  rw [handedOut_of (v := .ref D) rfl]
  first
    | exact wpAny_pure (wpAny_pure h)
    | exact wpAny_pure h
    | exact wpAny_pure (wpAny_bind (wpAny_pure (wpAny_pure h)))
theorem lf_kitx (hga : findIn K (.ref D) "__getattribute__" = some (some (.builtin "BaseException.__getattribute__"))) (hgt : findIn K (.ref D) "__getattr__" = some none) (hsub : subIn K (.ref D) (.type "BaseException") = some true) (hdct : hasDictIn K D = true) (ha : findIn K (.ref D) "__class__" = some (some (.builtin "object.__class__")))
    (hn : specialIn K (.builtin "object.__class__") "__get__" = some (some (.builtin "getset_descriptor.__get__"))) (htk : takesIn K (.builtin "object.__class__") = some true) (hm : mroIn K D (.type "object") = some true) :
    KitX K (.ref x) (.ref D) (fun h => InstAt h x ox D od) where
  ty := fun _ _ _ I => I.type
  it := fun _ _ X _ => by
    obtain ⟨cdD, hcD, _⟩ := any_some hdct
    unfold clsIn at hcD
    split at hcD
    · rename_i c' d' cd' sl' ho
      intro A' Q' E' s' k q
      unfold isType loadHead
      exact wpAny_bind (wpAny_loadPart (k _ _ (X _ _ ho)) (wpAny_pure q))
    · cases hcD
  ne := fun h tp dd its n sl X htp => by
    obtain ⟨cdD, hcD, _⟩ := any_some hdct
    refine Bool.eq_false_iff.mpr fun q => ?_
    have e : D = tp := Value.ref.inj (beq_iff_eq.mp q)
    subst e
    unfold clsIn at hcD
    split at hcD
    · rename_i c' d' cd' sl' ho
      have z := (X _ _ ho).symm.trans htp
      cases z
    · cases hcD
  ca := fun X I k => lf_classE hga hgt hsub hdct ha hn htk hm X I k
end
end PySem.W
namespace LF
open PySem PySem.Spec L2
open PyProof.Rows hiding St
/-! ### tables of the written part's classes -/
def XTab (K : PySem.W.Frag) (mg : Str → Option Value) (tab : List ((Str × Str) × Bool)) : Prop := ∀ p ∈ tab, ∃ C C' : Addr, mg p.1.1 = some (.ref C) ∧ mg p.1.2 = some (.ref C') ∧ PySem.W.exmOne K (.ref C) (.ref C') = some p.2 ∧ PySem.W.kitOne K (.ref C) (.ref C') = some p.2
def TTab (K : PySem.W.Frag) (mg : Str → Option Value) (tab : List ((Str × String) × Bool)) : Prop := ∀ p ∈ tab, ∃ C : Addr, mg p.1.1 = some (.ref C) ∧ PySem.W.kitOne K (.ref C) (.type p.1.2) = some p.2
def FTab (K : PySem.W.Frag) (mg : Str → Option Value) (tab : List (Str × Str)) : Prop := ∀ p ∈ tab, ∃ C : Addr, mg p.1 = some (.ref C) ∧ XfC K C ∧ PySem.W.findIn K (.ref C) p.2 = some none
def ETab (K : PySem.W.Frag) (mg : Str → Option Value) (names : List Str) : Prop := ∀ x ∈ names, ∃ C : Addr, mg x = some (.ref C) ∧ ExcC K C
def lookT {α β : Type} [DecidableEq α] (tab : List (α × β)) (a : α) : Option β := (tab.find? fun p => decide (p.1 = a)).map (·.2)
theorem lookT_mem {α β : Type} [DecidableEq α] {tab : List (α × β)} {a : α} {b : β} (h : lookT tab a = some b) : (a, b) ∈ tab := by
  unfold lookT at h
  rw [Option.map_eq_some_iff] at h
  obtain ⟨p, h1, rfl⟩ := h
  have := List.find?_some h1
  simp at this
  have m := List.mem_of_find?_eq_some h1
  rw [← this]; exact m
/-- does an exception of the class x match d? -/
def isX1 (tk : List ((Str × Str) × Bool)) (tt : List ((Str × String) × Bool)) (x : Str) : D → Option Bool
  | .cls y => lookT tk (x, y)
  | .ty t => lookT tt (x, t)
  | _ => none
def isXs (tk : List ((Str × Str) × Bool)) (tt : List ((Str × String) × Bool)) (x : Str) : List D → Option Bool
  | [] => some false
  | d :: ds => match isX1 tk tt x d with
    | some true => some true
    | some false => isXs tk tt x ds
    | none => none
def isX (tk : List ((Str × Str) × Bool)) (tt : List ((Str × String) × Bool)) (x : Str) : D → Option Bool
  | .tup ds => isXs tk tt x ds
  | d => isX1 tk tt x d
theorem isX1_ok {G : Wo} {ι : List Addr} {H : Hp} {tk : List ((Str × Str) × Bool)} {tt : List ((Str × String) × Bool)} {x : Str} {C : Addr} {d : D} {v : V} {b : Bool} (h1 : XTab G.K G.mg tk) (h2 : TTab G.K G.mg tt) (gx : G.mg x = some (.ref C)) (r : RV G ι H d v) (e : isX1 tk tt x d = some b) :
    ∃ u, ClsV v u ∧ PySem.W.kitOne G.K (.ref C) u = some b := by
  cases d with
  | cls y =>
    obtain ⟨C1, C2, g1, g2, _, k⟩ := h1 _ (lookT_mem e)
    simp only [RV] at r
    obtain ⟨a, rfl, ga⟩ := r
    dsimp only at g1 g2 k
    rw [gx] at g1; cases g1
    rw [ga] at g2; cases g2
    exact ⟨_, .own _, k⟩
  | ty t =>
    obtain ⟨C1, g1, k⟩ := h2 _ (lookT_mem e)
    simp only [RV] at r
    subst r
    dsimp only at g1 k
    rw [gx] at g1; cases g1
    exact ⟨_, .ty _, k⟩
  | _ => cases e
theorem isXs_ok {G : Wo} {ι : List Addr} {H : Hp} {tk : List ((Str × Str) × Bool)} {tt : List ((Str × String) × Bool)} {x : Str} {C : Addr} (h1 : XTab G.K G.mg tk) (h2 : TTab G.K G.mg tt) (gx : G.mg x = some (.ref C)) : ∀ {ds : List D} {vs : List V} {b : Bool}, RVs G ι H ds vs → isXs tk tt x ds = some b → (∀ d ∈ ds, (isX1 tk tt x d).isSome = true) →
    ∃ us, Paired ClsV vs us ∧ PySem.W.kitAny G.K (.ref C) us = some b
  | [], vs, b, r, e, _ => by
    simp only [RVs] at r; subst r
    exact ⟨[], .nil, e⟩
  | d :: ds, vs, b, r, e, al => by
    simp only [RVs] at r
    obtain ⟨v, q, rfl, r1, r2⟩ := r
    obtain ⟨b1, e1⟩ := Option.isSome_iff_exists.mp (al d (by simp))
    obtain ⟨u, k, k1⟩ := isX1_ok h1 h2 gx r1 e1
    unfold isXs at e
    rw [e1] at e
    have al' : ∀ d ∈ ds, (isX1 tk tt x d).isSome = true := fun d m => al d (by simp [m])
    cases b1 with
    | true =>
      -- the others need only be classes
      have : ∃ b2, isXs tk tt x ds = some b2 := by
        clear e r2
        induction ds with
        | nil => exact ⟨_, rfl⟩
        | cons d ds ih =>
          obtain ⟨b3, e3⟩ := Option.isSome_iff_exists.mp (al' d (by simp))
          unfold isXs
          rw [e3]
          cases b3 with
          | true => exact ⟨_, rfl⟩
          | false => exact ih (fun d m => al d (by simp at m ⊢; rcases m with m | m <;> simp [m])) fun d m => al' d (by simp [m])
      obtain ⟨b2, e2⟩ := this
      obtain ⟨us, p, _⟩ := isXs_ok h1 h2 gx r2 e2 al'
      exact ⟨u :: us, .cons k p, by unfold PySem.W.kitAny; rw [k1]; exact e⟩
    | false =>
      obtain ⟨us, p, k2⟩ := isXs_ok h1 h2 gx r2 e al'
      exact ⟨u :: us, .cons k p, by unfold PySem.W.kitAny; rw [k1]; exact k2⟩
/-! ### isinstance of the exception that is handled -/
def rIsX (K : PySem.W.Frag) (C a : Addr) : List V → Hp → VK → Prop := fun xs H Q => ∃ (c : V) (b : Bool), xs = [.ref a, c] ∧
  ((∃ u, ClsV c u ∧ PySem.W.kitOne K (.ref C) u = some b) ∨ ∃ (tp : Addr) (cs : List V) (us : List Value), c = .ref tp ∧ H tp = some (.tup cs) ∧ Paired ClsV cs us ∧ PySem.W.kitAny K (.ref C) us = some b) ∧ Q (.bl b) H
abbrev XAt (ns : List Str) (xs : List D) (d : Option Addr) (H : Hp) : Prop := d = none ∨ ∃ dd fs, d = some dd ∧ H dd = some (.xd fs)
theorem call_isX {X : Cx} {a C : Addr} {d : Option Addr} {oe : Obj} {pn : List (Addr × Obj)} (T : ExcC X.K C) (hz : Zc (.ref C) d oe) (hf : ∃ vs, oe.data = .fields vs) :
    CallR (X.suite a ((a, oe) :: pn)) (.builtin "isinstance") (fun xs H Q => (d = none ∨ ∃ dd fs, d = some dd ∧ H dd = some (.xd fs)) ∧ rIsX X.K C a xs H Q) := by
  intro pins s σ H xs us Q I r h
  obtain ⟨hd, c, b, rfl, hc, q⟩ := h
  obtain ⟨u1, u2, rfl, r1, r2⟩ := vals2 r
  cases (show u1 = Value.ref a from r1)
  obtain ⟨hget, _⟩ := I.pin (a, oe) (List.mem_append_left _ List.mem_cons_self)
  obtain ⟨vs, hv⟩ := hf
  obtain ⟨od, J⟩ : ∃ od, PySem.W.InstAt s.heap a oe C od := by
    rcases hd with hd | ⟨dd, fs, hd, hx⟩
    · exact ⟨none, hget, hz.1, by unfold PySem.W.notCls; rw [hv] <;> rfl, by rw [hz.2, hd]; trivial⟩
    · have hx' : ObjOk (X.suite a ((a, oe) :: pn)).prog (X.suite a ((a, oe) :: pn)).w H s.heap dd (.xd fs) := I.hok dd _ hx
      obtain ⟨mA, hns, hr⟩ := hx'
      obtain ⟨od, ho, hl⟩ := lookIn_ns hns
      exact ⟨some od, hget, hz.1, by unfold PySem.W.notCls; rw [hv] <;> rfl, by rw [hz.2, hd]; exact ho⟩
  have Z := PySem.W.lf_kitx (x := a) (ox := oe) (od := od) T.hg T.hk T.hs T.hd T.ha T.hn T.ht T.hm
  rcases hc with ⟨u, k, e⟩ | ⟨tp, cs, ws, rfl, hT, k, e⟩
  · have e2 := k.eq r2
    subst e2
    exact PySem.W.kia_one Z I.kIn J e (fun z => nomatch z) fun tk => ⟨.bl b, H, I.tok tk, rfl, q⟩
  · cases (show u2 = Value.ref tp from r2)
    obtain ⟨_, its, rv, o, h1, h2, n, h3⟩ := (show ObjOk X.prog X.w H s.heap tp (.tup cs) from I.hok tp _ hT)
    have e3 := ClsV.all k rv
    subst e3
    obtain ⟨oc, od', dt, sl⟩ := o
    simp only at h2 h3
    subst h2 h3
    exact PySem.W.kia_tup Z I.kIn J h1 e (fun z => nomatch z) fun tk => ⟨.bl b, H, I.tok tk, rfl, q⟩
def allX (tk : List ((Str × Str) × Bool)) (tt : List ((Str × String) × Bool)) (x : Str) : D → Bool
  | .tup ds => ds.all fun y => (isX1 tk tt x y).isSome
  | _ => true
/-- isinstance(e, c) -/
def fIsX (tk : List ((Str × Str) × Bool)) (tt : List ((Str × String) × Bool)) (x : Str) (d : D) (h : M) : Res D :=
  if allX tk tt x d = true then match isX tk tt x d with | some b => .ok (.bl b) h | none => .stuck else .stuck
def mIsX (nm : List Str) (tk : List ((Str × Str) × Bool)) (tt : List ((Str × String) × Bool)) (x : Str) (i : Nat) (mc : ME) : ME := fun env h => match env[i]? with
  | some .ex => if x ∈ nm then (mc env h).bind fun d h => fIsX tk tt x d h else .stuck
  | _ => .stuck
section
variable {X : Cx} {W : WX} {a : Addr} {cls : Value} {d : Option Addr} {oe : Obj} {pn : List (Addr × Obj)} {x n y : Str} {ns : List Str} {xs : List D} {nm : List Str} {tk : List ((Str × Str) × Bool)} {tt : List ((Str × String) × Bool)} {i : Nat} {c : Expr} {mc : ME} {p p1 pos : Pos}
theorem fe_isX (hz : Zc cls d oe) (hf : ∃ vs, oe.data = .fields vs) (T : ETab X.K X.mg nm) (h1 : XTab X.K X.mg tk) (h2 : TTab X.K X.mg tt) (hm : X.mg "isinstance" = none) (hN : X.N[i]? = some n) (hv : Vis X.env.scope n)
    (hc : FE (X.suite a ((a, oe) :: pn)) W (some ((a, cls, d), x, ns, xs)) c mc) (hg : Gl X "isinstance" := by rfl) (hd1 : (n == ("__debug__" : Str)) = false := by decide) (hd2 : (n == ("__classdict__" : Str)) = false := by decide)
    (he : starEach [.Name n p1, c] X.env = (false, eval (.Name n p1) X.env) :: starEach [c] X.env := by rfl) (he2 : starEach [c] X.env = (false, eval c X.env) :: starEach [] X.env := by rfl) :
    FE (X.suite a ((a, oe) :: pn)) W (some ((a, cls, d), x, ns, xs)) (.Call (.Name "isinstance" p) [.Name n p1, c] [] pos) (mIsX nm tk tt x i mc) := by
  by_cases hx : x ∈ nm ∧ ∃ C, cls = .ref C ∧ X.mg x = some (.ref C)
  · obtain ⟨hx, C, rfl, gx⟩ := hx
    obtain ⟨C', g', EC⟩ := T x hx
    rw [gx] at g'; cases g'
    have P := pe_callB (X := X.suite a ((a, oe) :: pn)) (p := p) (pos := pos) (call_isX EC hz hf) hg hm (by decide +kernel) (pa_cons (pe_var (X := X.suite a ((a, oe) :: pn)) (pos := p1) hN hv hd1 hd2) (pa_cons hc pa_nil (hs := he2)) (hs := he)) (by decide) (by decide) he (by rw [he2]; rfl)
    refine PE.imp P fun σ H Q q => ?_
    obtain ⟨ι, h, env, rel, re, po⟩ := q
    unfold mIsX at po
    split at po
    case h_2 => exact po.elim
    rename_i ei
    rw [if_pos hx] at po
    obtain ⟨a', c', e1, e2, e3⟩ := re.atx i ei
    cases e1
    refine ⟨.ref a', by rw [e3, ← e2], ι, h, env, rel, re, post_bind po fun dd h1' ι1 H1 v eq1 p1' k1 rel1 rv1 po1 => ?_⟩
    obtain ⟨C2, ec, gx2, xl, vs, xd, rxs⟩ := re.exk _ rfl
    dsimp only at ec gx2 xl xd
    cases ec
    unfold fIsX at po1
    split at po1
    case isFalse => exact po1.elim
    rename_i hall
    split at po1
    case h_2 => exact po1.elim
    rename_i b eb
    have fin : Q (.bl b) H1 := po_ok rel1 (by simp [RV]) po1
    refine ⟨?_, v, b, by rw [← e2], ?_, fin⟩
    · rcases xd with ⟨_, rfl⟩ | ⟨dx, rfl, xd⟩
      · exact .inl rfl
      · exact .inr ⟨dx, _, rfl, k1 _ _ xd trivial⟩
    · cases dd with
      | tup ds =>
        simp only [RV] at rv1
        obtain ⟨tp, ws, rfl, ht, rw1⟩ := rv1
        obtain ⟨us, pu, ku⟩ := isXs_ok (G := wo X) h1 h2 gx rw1 eb (List.all_eq_true.mp hall)
        exact .inr ⟨tp, ws, us, rfl, ht, pu, ku⟩
      | _ => exact .inl (isX1_ok (G := wo X) h1 h2 gx rv1 eb)
  · refine PE.imp (t := fun _ _ _ => False) ⟨fun pins s σ H Q I h => h.elim⟩ fun σ H Q q => ?_
    obtain ⟨ι, h, env, rel, re, po⟩ := q
    unfold mIsX at po
    split at po
    case h_2 => exact po.elim
    obtain ⟨C2, ec, gx2, _⟩ := re.exk _ rfl
    dsimp only at ec gx2
    have hn : x ∉ nm := fun z => hx ⟨z, C2, ec, gx2⟩
    rw [if_neg hn] at po
    exact po.elim
end
/-! ### a field of the exception that is handled -/
def mXf (ft : List (Str × Str)) (x : Str) (ns : List Str) (xs : List D) (i : Nat) (f : Str) : ME := fun env h => match env[i]? with
  | some .ex => if (x, f) ∈ ft then match lookT (ns.zip xs) f with | some d => .ok d h | none => .stuck else .stuck
  | _ => .stuck
theorem lookT_zip {G : Wo} {ι : List Addr} {H : Hp} {f : Str} {d : D} : ∀ {ns : List Str} {xs : List D} {vs : List V}, RVs G ι H xs vs → lookT (ns.zip xs) f = some d → ∃ v, (ns.zip vs).lookup f = some v ∧ RV G ι H d v
  | [], xs, vs, _, e => by simp [lookT] at e
  | n :: ns, [], vs, _, e => by simp [lookT] at e
  | n :: ns, x :: xs, vs, r, e => by
    simp only [RVs] at r
    obtain ⟨v, q, rfl, r1, r2⟩ := r
    unfold lookT at e
    rw [List.zip_cons_cons, List.find?_cons] at e
    rw [List.zip_cons_cons]
    simp only [List.lookup]
    by_cases hn : n = f
    · subst hn
      simp at e
      subst e
      exact ⟨v, by simp, r1⟩
    · have hf : (f == n) = false := by simpa using Ne.symm hn
      rw [hf]
      simp [hn] at e
      exact lookT_zip r2 (by unfold lookT; rw [Option.map_eq_some_iff]; obtain ⟨y, h⟩ := e; exact ⟨(y, d), h, rfl⟩)
section
variable {X : Cx} {W : WX} {a : Addr} {cls : Value} {d : Option Addr} {oe : Obj} {pn : List (Addr × Obj)} {x n f : Str} {ns : List Str} {xs : List D} {ft : List (Str × Str)} {i : Nat} {p1 pos : Pos}
theorem fe_xf (hz : Zc cls d oe) (hf : ∃ vs, oe.data = .fields vs) (T : FTab X.K X.mg ft) (hN : X.N[i]? = some n) (hv : Vis X.env.scope n) (hd1 : (n == ("__debug__" : Str)) = false := by decide) (hd2 : (n == ("__classdict__" : Str)) = false := by decide)
    (hb : attributeBase (.Name n p1) f X.env (eval (.Name n p1) X.env) = eval (.Name n p1) X.env := by rfl) :
    FE (X.suite a ((a, oe) :: pn)) W (some ((a, cls, d), x, ns, xs)) (.Attribute (.Name n p1) f pos) (mXf ft x ns xs i f) := by
  by_cases hx : (x, f) ∈ ft ∧ ∃ C, cls = .ref C ∧ X.mg x = some (.ref C)
  · obtain ⟨hx, C, rfl, gx⟩ := hx
    obtain ⟨C', g', XC, hno⟩ := T _ hx
    dsimp only at g' hno
    rw [gx] at g'; cases g'
    refine PE.imp (pe_xf XC hno hz hf (pe_var (X := X.suite a ((a, oe) :: pn)) (pos := p1) hN hv hd1 hd2) hb) fun σ H Q q => ?_
    obtain ⟨ι, h, env, rel, re, po⟩ := q
    unfold mXf at po
    split at po
    case h_2 => exact po.elim
    rename_i ei
    rw [if_pos hx] at po
    split at po
    case h_2 => exact po.elim
    rename_i dd ed
    obtain ⟨a', c', e1, e2, e3⟩ := re.atx i ei
    cases e1
    obtain ⟨C2, ec, gx2, xl, vs, xd, rxs⟩ := re.exk _ rfl
    dsimp only at ec gx2 xl xd rxs
    cases ec
    obtain ⟨v, ev, rv⟩ := lookT_zip rxs ed
    refine ⟨.ref a', by rw [e3, ← e2], e2.symm ▸ rfl, rfl, ?_⟩
    rcases xd with ⟨rfl, _⟩ | ⟨dx, rfl, xd⟩
    · simp at ev
    · exact ⟨dx, _, v, rfl, xd, ev, po_ok rel rv po⟩
  · refine PE.imp (t := fun _ _ _ => False) ⟨fun pins s σ H Q I h => h.elim⟩ fun σ H Q q => ?_
    obtain ⟨ι, h, env, rel, re, po⟩ := q
    unfold mXf at po
    split at po
    case h_2 => exact po.elim
    obtain ⟨C2, ec, gx2, _⟩ := re.exk _ rfl
    dsimp only at ec gx2
    have hn : (x, f) ∉ ft := fun z => hx ⟨z, C2, ec, gx2⟩
    rw [if_neg hn] at po
    exact po.elim
end
end LF
set_option Elab.async false
set_option linter.all false
set_option maxRecDepth 100000
set_option maxHeartbeats 4000000
/-! LFZ: try. -/
namespace LF
open PySem PySem.Spec L2
open PyProof.Rows hiding St
open NdefX (NF NScope CellsAt startF ncx envF inv_startN)
def plainSl : Sl → Bool
  | .ex => false
  | _ => true
def calmE (e : En) : Bool := e.all plainSl
/-- behind a suite: its name is gone -/
def afterX (i : Nat) : SR → SR
  | .nx e h => if calmE (e.set i .no) = true then .nx (e.set i .no) h else .stuck
  | .bk e h => if calmE (e.set i .no) = true then .bk (e.set i .no) h else .stuck
  | .ct e h => if calmE (e.set i .no) = true then .ct (e.set i .no) h else .stuck
  | .rt d h => .rt d h
  | _ => .stuck
/-- try: .. except c as n: .. -/
def mTryAs (tk : List ((Str × Str) × Bool)) (c : Str) (i : Nat) (mb : MS) (ms : Str → List Str → List D → MS) : MS := fun env h => match mb env h with
  | .exc x ns xs e h' => match lookT tk (x, c) with
    | some true => afterX i (ms x ns xs (e.set i .ex) h')
    | some false => .exc x ns xs e h'
    | none => .stuck
  | r => r
theorem REn.setEx {G : Wo} {ι : List Addr} {H : Hp} {env : En} {σ : St} {a : Addr} {C : Addr} {d : Option Addr} {x : Str} {ns : List Str} {xs : List D} (r : REn G none ι H env σ) (i : Nat) (gx : G.mg x = some (.ref C)) (xf : XF G ι H d ns xs) :
    REn G (some ((a, .ref C, d), x, ns, xs)) ι H (env.set i .ex) (σ.set i (some (.ref a))) := by
  refine ⟨by simp [r.len], fun j d' e => ?_, fun j e => ?_, fun c e => ?_⟩
  · have hj : j < env.length := by have := (List.getElem?_eq_some_iff.mp e).1; simpa using this
    by_cases hji : j = i
    · subst hji
      rw [List.getElem?_set_self hj] at e; cases e
    · rw [List.getElem?_set_ne (Ne.symm hji)] at e
      obtain ⟨w, e1, q1⟩ := r.at_ j d' e
      exact ⟨w, by rw [List.getElem?_set_ne (Ne.symm hji)]; exact e1, q1⟩
  · have hj : j < env.length := by have := (List.getElem?_eq_some_iff.mp e).1; simpa using this
    by_cases hji : j = i
    · subst hji
      exact ⟨a, _, rfl, rfl, List.getElem?_set_self (by rw [← r.len]; exact hj)⟩
    · rw [List.getElem?_set_ne (Ne.symm hji)] at e
      obtain ⟨a', c', z, _⟩ := r.atx j e
      cases z
  · cases e
    exact ⟨C, rfl, gx, xf⟩
theorem REn.calm {G : Wo} {ex ex' : Ex} {ι : List Addr} {H : Hp} {env : En} {σ : St} (r : REn G ex ι H env σ) (hc : calmE env = true) (hn : ex' = none) : REn G ex' ι H env σ := by
  refine ⟨r.len, r.at_, fun i e => ?_, fun c e => by rw [hn] at e; cases e⟩
  have := List.all_eq_true.mp hc _ (List.mem_of_getElem? e)
  cases this
theorem after_ok {G : Wo} {C : (Addr × Value × Option Addr) × Str × List Str × List D} {W : WX} {i : Nat} {ι : List Addr} {H : Hp} {r : SR} {D : Ends} (h : PostS G none W ι H (afterX i r) D) :
    PostS G (some C) WN ι H r { nx := fun σ' H' => D.nx (σ'.set i none) H', rt := D.rt, bk := fun σ' H' => D.bk (σ'.set i none) H', ct := fun σ' H' => D.ct (σ'.set i none) H' } := by
  cases r with
  | nx e h1 =>
    simp only [afterX] at h
    split at h
    · rename_i hc; exact fun ι' H' σ' p k rel re => h ι' H' _ p k rel ((re.drop1 i none).calm hc rfl)
    · exact h.elim
  | bk e h1 =>
    simp only [afterX] at h
    split at h
    · rename_i hc; exact fun ι' H' σ' p k rel re => h ι' H' _ p k rel ((re.drop1 i none).calm hc rfl)
    · exact h.elim
  | ct e h1 =>
    simp only [afterX] at h
    split at h
    · rename_i hc; exact fun ι' H' σ' p k rel re => h ι' H' _ p k rel ((re.drop1 i none).calm hc rfl)
    · exact h.elim
  | rt d h1 => exact h
  | exc x ns xs e h1 => exact h.elim
  | stuck => exact h.elim
section
variable {X : Cx} {W : WX} {n c : Str} {i : Nat} {body suite : List Stmt} {b₀ : Stmt} {np pos pos' : Pos} {mb : MS} {ms : Str → List Str → List D → MS} {tk : List ((Str × Str) × Bool)}
theorem PSs.ex {X : Cx} {body : List Stmt} {α : Type} {t : α → TS} (h : ∀ x, PSs X body (t x)) : PSs X body (fun D σ H => ∃ x, t x D σ H) := ⟨fun pins s σ H D I ⟨x, q⟩ => (h x).run pins s σ H D I q⟩
theorem fs_try_as {k : Nat} (hr : Room k X.A) (T : XTab X.K X.mg tk) (tkW : L2N.Takes X W) (hN : X.N.Nodup) (hi : X.N[i]? = some n) (hln : X.env.kindOf n = some .local) (hcl : ∃ C : Addr, X.mg c = some (.ref C))
    (hb : ∀ (W : WX) (pn : List (Addr × Obj)) (xe : Value → Shared → Prop), L2N.Takes (X.tr pn xe) W → PassesOwn (model X.prog X.w) X.A X.env xe → FSs (X.tr pn xe) W none body mb)
    (hsu : ∀ (a : Addr) (oe : Obj) (cls : Value) (d : Option Addr) (pn : List (Addr × Obj)) (x : Str) (ns : List Str) (xs : List D), Zc cls d oe → (∃ vs, oe.data = .fields vs) → L2H.RoomH k (X.suite a ((a, oe) :: pn)).A → L2H.HotC (X.suite a ((a, oe) :: pn)) → FSs (X.suite a ((a, oe) :: pn)) WN (some ((a, cls, d), x, ns, xs)) (b₀ :: suite) (ms x ns xs))
    (hs : X.stack = X.env :: X.outer := by rfl) (hf : X.env.frame = some X.env.locals := by rfl) (hg : Gl X c := by rfl) (hd : (c == ("__debug__" : Str)) = false := by decide) :
    FS X W none (.Try body [.ExceptHandler (some (.Name c np)) (some n) (b₀ :: suite) pos'] [] [] pos) (mTryAs tk c i mb ms) := by
  obtain ⟨Cc, hc⟩ := hcl
  refine PS.imp (L2N.ps_try_as (c := .ref Cc) (tb := fun W => rdS (wo X) none W mb) (ts := fun a cls d D' σ H => ∃ z : Str × List Str × List D, rdS (wo X) (some ((a, cls, d), z)) WN (ms z.1 z.2.1 z.2.2) D' σ H)
    hs hf hN hi hln ⟨hg, hd, .inl hc⟩ tkW hb (fun a oe cls d pn hz hv => PSs.ex fun z => hsu a oe cls d pn z.1 z.2.1 z.2.2 hz.zc hv (L2H.roomH_mark hr _) (by obtain ⟨vs, e⟩ := hv; exact ⟨(a, oe), ⟨rfl, vs, e, hz.2.2 vs e⟩, List.mem_cons_self⟩))) fun D σ H q => ?_
  obtain ⟨ι, h, env, rel, re, po⟩ := q
  refine ⟨ι, h, env, rel, re, ?_⟩
  unfold mTryAs at po
  cases e : mb env h with
  | nx _ _ => rw [e] at po; exact po
  | bk _ _ => rw [e] at po; exact po
  | ct _ _ => rw [e] at po; exact po
  | rt _ _ => rw [e] at po; exact po
  | stuck => rw [e] at po; exact po.elim
  | exc x ns xs e1 h1 =>
    rw [e] at po
    intro ι' H' σ' C d p k rel' re' gx xf
    dsimp only at po
    cases el : lookT tk (x, c) with
    | none => rw [el] at po; exact po.elim
    | some b =>
      rw [el] at po
      obtain ⟨C1, C2, g1, g2, ex1, _⟩ := T _ (lookT_mem el)
      dsimp only at g1 g2 ex1
      have gx' : X.mg x = some (.ref C) := gx
      rw [gx'] at g1; cases g1
      rw [hc] at g2; cases g2
      refine ⟨b, ex1, fun hb1 a na => ?_, fun hb1 => ?_⟩
      · subst hb1
        exact ⟨(x, ns, xs), ι', h1, _, rel', re'.setEx i gx xf, after_ok (PostS.mono p k po)⟩
      · subst hb1
        exact po ι' H' σ' C d p k rel' re' gx xf
end
/-! ### a class statement's parts -/
def clsBody (s : Stmt) : List Stmt := match s with
  | .ClassDef _ _ _ b _ _ _ _ _ _ _ => b
  | _ => []
def stAt (b : List Stmt) (i : Nat) : Stmt := b.getD i (.Pass ⟨0, 0, 0, 0⟩)
/-- the words of the written part on an own exception class with its own __init__ -/
structure ExcW (P : Program) (K : PySem.W.Frag) (x qual : Str) (st : Stmt) (C fI cc cda : Addr) : Prop where
  gx : PySem.W.nsIn K mainGlobals x = some (some (.ref C))
  obj : ∃ nm q N bs bm sn sub ab col dd k0 k1 k2 k3 k5, K.lookup C = some (excClassObj nm q C N bs bm true sn sub ab col dd k0 k1 k2 k3 k5 "ValueError.__new__") ∧ PySem.HandSPX.refsVE bm = true
  sa : PySem.W.findIn K (.ref C) "__setattr__" = some (some (.builtin "object.__setattr__"))
  exC : PySem.W.subIn K (.ref C) (.type "BaseException") = some true
  tyC : PySem.W.typeIn K (.ref C) = some (.type "type")
  kC : PySem.W.keepIn K (.ref C) = true
  ini : PySem.W.findIn K (.ref C) "__init__" = some (some (.ref fI))
  tyI : PySem.W.typeIn K (.ref fI) = some (.type "function")
  lk : ∃ oc od kV doc pm an ct osl, K.lookup fI = some ⟨oc, od, .func (PySem.W.ksFn "__init__" qual (defArgs st) (defBody st) (defScope st) .none kV doc pm an (.ref cda) ct cc), osl⟩
  hcd : PySem.W.codeIn K (.ref cda) qual = true
  cell : ∃ cl cld csl, K.lookup cc = some ⟨cl, cld, .cell (some (.ref C)), csl⟩
  code : ∃ ccl cdd vs ccs file tf, K.lookup cda = some ⟨ccl, cdd, .fields vs, ccs⟩ ∧ vs[2]? = some (.str file tf) ∧ ((P.main.file : Str) == file) = true
  top : (P.main.scope.names.lookup ("super" : Str)).isSome = false
  sup : PySem.W.nsIn K mainGlobals "super" = some none
  nost : PySem.W.nsIn K cStatics "thirdparty.any" = some none
  sini : PySem.W.ks_superIn K C C "__init__" = some (some (.builtin "ValueError.__init__"))
  mro : PySem.W.mroIn K C (.ref C) = some true
  ve : PySem.W.subIn K (.ref C) (.type "ValueError") = some true
theorem ExcW.oex {P : Program} {K : PySem.W.Frag} {x qual : Str} {st : Stmt} {C fI cc cda : Addr} (E : ExcW P K x qual st C fI cc cda) : OexC K C := ⟨E.obj, E.sa, E.exC, E.tyC, E.kC⟩
theorem ExcW.sk {P : Program} {K : PySem.W.Frag} {h : Heap} {mg : Str → Option Value} (XK : K.In h) (G : h.Ns mainGlobals mg) {x qual : Str} {st : Stmt} {C fI cc cda : Addr} {ar : Arg} (E : ExcW P K x qual st C fI cc cda) (hp : ((defArgs st).posonlyargs ++ (defArgs st).args).head? = some ar) (ha : ar.arg = slfN) : SupK P K mg C C fI cc (.ref cda) slfN := by
  obtain ⟨oc, od, kV, doc, pm, an, ct, osl, lk⟩ := E.lk
  obtain ⟨ccl, cdd, vs, ccs, file, tf, h1, h2, h3⟩ := E.code
  obtain ⟨nm, q, N, bs, bm, sn, sub, ab, col, dd, k0, k1, k2, k3, k5, hC, hbm⟩ := E.obj
  refine ⟨⟨oc, od, _, osl, ar, lk, hp, ha⟩, ⟨cda, ccl, cdd, vs, ccs, file, tf, rfl, h1, h2, h3⟩, E.top, E.cell, ?_, E.mro, PySem.W.mg_none_of XK G E.sup, E.sini, E.nost, E.ve⟩
  unfold PySem.W.clsIn; rw [hC]; rfl
/-- one field -/
theorem exc1 {P : Program} {w : World} {K : PySem.W.Frag} {h : Heap} {mg : Str → Option Value} {base : Heap} (XK : K.In h) (G : h.Ns mainGlobals mg) {x qual f1 m : Str} {st : Stmt} {C fI cc cda : Addr} {ar : Arg} {j : Nat} {p0 p1 p2 p3 p4 p5 q0 q1 q2 q3 : Pos} {pl : Sem Bool}
    (E : ExcW P K x qual st C fI cc cda) (no1 : PySem.W.findIn K (.ref C) f1 = some none)
    (hp : ((defArgs st).posonlyargs ++ (defArgs st).args).head? = some ar := by rfl) (ha : ar.arg = slfN := by rfl)
    (hb : defBody st = supSt m j p0 p1 p2 p3 p4 p5 :: [asSt f1 q0 q1 q2 q3] := by rfl)
    (hbd : ∀ (kV doc pm : Value) (an : Option Addr) (ct : Value) (us : List Value), us.length = [slfN, f1].length → bindArgs (PySem.W.ksFn "__init__" qual (defArgs st) (defBody st) (defScope st) .none kV doc pm an (.ref cda) ct cc) ⟨us, []⟩ = pure ([slfN, f1].zip us) := by
      intro _ _ _ _ _ us hl; match us, hl with | [_, _], _ => rfl)
    (S : NScope ([slfN, f1] ++ [clsN]) [slfN, f1] [clsN] (defScope st) := by exact NdefX.nscope_by (by decide +kernel)) (hsu : (defScope st).names.lookup ("super" : Str) = some .globalImplicit := by rfl)
    (hq : ∀ L, swapsWith (.Call (.Attribute (.Call (.Name "super" p0) [] [] p1) "__init__" p2) [.Constant (.str m) j p3] [] p4) none p5.line (envF ⟨"__init__", qual, defArgs st, defBody st, defScope st, [(clsN, cc)], cda⟩ fI L) = pure false := by intro _; rfl)
    (he : ∀ L, starEach [.Constant (.str m) j p3] (envF ⟨"__init__", qual, defArgs st, defBody st, defScope st, [(clsN, cc)], cda⟩ fI L) = (false, eval (.Constant (.str m) j p3) (envF ⟨"__init__", qual, defArgs st, defBody st, defScope st, [(clsN, cc)], cda⟩ fI L)) :: starEach [] (envF ⟨"__init__", qual, defArgs st, defBody st, defScope st, [(clsN, cc)], cda⟩ fI L) := by intro _; rfl)
    (hev : ∀ L, eval (.Call (.Attribute (.Call (.Name "super" p0) [] [] p1) "__init__" p2) [.Constant (.str m) j p3] [] p4) (envF ⟨"__init__", qual, defArgs st, defBody st, defScope st, [(clsN, cc)], cda⟩ fI L) = (do
      let ov ← attributeBase (.Call (.Name "super" p0) [] [] p1) "__init__" (envF ⟨"__init__", qual, defArgs st, defBody st, defScope st, [(clsN, cc)], cda⟩ fI L) (eval (.Call (.Name "super" p0) [] [] p1) (envF ⟨"__init__", qual, defArgs st, defBody st, defScope st, [(clsN, cc)], cda⟩ fI L))
      standAt p2.atName
      let (fv, first) ← holding [ov] (getMethod ov "__init__" pl)
      callWith p4 fv first (backTo p4 (starEach [.Constant (.str m) j p3] (envF ⟨"__init__", qual, defArgs st, defBody st, defScope st, [(clsN, cc)], cda⟩ fI L))) []) := by intro _; rfl)
    (hs1 : ∀ L, swapsWith (.Name f1 q2) (some (.Attribute (.Name slfN q0) f1 q1)) q3.line (envF ⟨"__init__", qual, defArgs st, defBody st, defScope st, [(clsN, cc)], cda⟩ fI L) = pure false := by intro _; rfl)
    (hd1 : (f1 == ("__debug__" : Str)) = false := by decide) (hd2 : (f1 == ("__classdict__" : Str)) = false := by decide) : ExcOk P w K mg base x 1 [f1] := by
  obtain ⟨oc, od, kV, doc, pm, an, ct, osl, lk⟩ := E.lk
  exact excOk1 (k := 0) (F := ⟨"__init__", qual, defArgs st, defBody st, defScope st, [(clsN, cc)], cda⟩) (PySem.W.mg_of XK G E.gx) E.oex E.ini E.tyI (hbd kV doc pm an ct) (E.sk XK G hp ha) no1 lk E.hcd rfl hb S hsu hq he hev hs1 hd1 hd2
/-- two fields -/
theorem exc2 {P : Program} {w : World} {K : PySem.W.Frag} {h : Heap} {mg : Str → Option Value} {base : Heap} (XK : K.In h) (G : h.Ns mainGlobals mg) {x qual f1 f2 m : Str} {st : Stmt} {C fI cc cda : Addr} {ar : Arg} {j : Nat} {p0 p1 p2 p3 p4 p5 q0 q1 q2 q3 r0 r1 r2 r3 : Pos} {pl : Sem Bool}
    (E : ExcW P K x qual st C fI cc cda) (no1 : PySem.W.findIn K (.ref C) f1 = some none) (no2 : PySem.W.findIn K (.ref C) f2 = some none)
    (hp : ((defArgs st).posonlyargs ++ (defArgs st).args).head? = some ar := by rfl) (ha : ar.arg = slfN := by rfl)
    (hb : defBody st = supSt m j p0 p1 p2 p3 p4 p5 :: [asSt f1 q0 q1 q2 q3, asSt f2 r0 r1 r2 r3] := by rfl)
    (hbd : ∀ (kV doc pm : Value) (an : Option Addr) (ct : Value) (us : List Value), us.length = [slfN, f1, f2].length → bindArgs (PySem.W.ksFn "__init__" qual (defArgs st) (defBody st) (defScope st) .none kV doc pm an (.ref cda) ct cc) ⟨us, []⟩ = pure ([slfN, f1, f2].zip us) := by
      intro _ _ _ _ _ us hl; match us, hl with | [_, _, _], _ => rfl)
    (S : NScope ([slfN, f1, f2] ++ [clsN]) [slfN, f1, f2] [clsN] (defScope st) := by exact NdefX.nscope_by (by decide +kernel)) (hsu : (defScope st).names.lookup ("super" : Str) = some .globalImplicit := by rfl)
    (hq : ∀ L, swapsWith (.Call (.Attribute (.Call (.Name "super" p0) [] [] p1) "__init__" p2) [.Constant (.str m) j p3] [] p4) none p5.line (envF ⟨"__init__", qual, defArgs st, defBody st, defScope st, [(clsN, cc)], cda⟩ fI L) = pure false := by intro _; rfl)
    (he : ∀ L, starEach [.Constant (.str m) j p3] (envF ⟨"__init__", qual, defArgs st, defBody st, defScope st, [(clsN, cc)], cda⟩ fI L) = (false, eval (.Constant (.str m) j p3) (envF ⟨"__init__", qual, defArgs st, defBody st, defScope st, [(clsN, cc)], cda⟩ fI L)) :: starEach [] (envF ⟨"__init__", qual, defArgs st, defBody st, defScope st, [(clsN, cc)], cda⟩ fI L) := by intro _; rfl)
    (hev : ∀ L, eval (.Call (.Attribute (.Call (.Name "super" p0) [] [] p1) "__init__" p2) [.Constant (.str m) j p3] [] p4) (envF ⟨"__init__", qual, defArgs st, defBody st, defScope st, [(clsN, cc)], cda⟩ fI L) = (do
      let ov ← attributeBase (.Call (.Name "super" p0) [] [] p1) "__init__" (envF ⟨"__init__", qual, defArgs st, defBody st, defScope st, [(clsN, cc)], cda⟩ fI L) (eval (.Call (.Name "super" p0) [] [] p1) (envF ⟨"__init__", qual, defArgs st, defBody st, defScope st, [(clsN, cc)], cda⟩ fI L))
      standAt p2.atName
      let (fv, first) ← holding [ov] (getMethod ov "__init__" pl)
      callWith p4 fv first (backTo p4 (starEach [.Constant (.str m) j p3] (envF ⟨"__init__", qual, defArgs st, defBody st, defScope st, [(clsN, cc)], cda⟩ fI L))) []) := by intro _; rfl)
    (hs1 : ∀ L, swapsWith (.Name f1 q2) (some (.Attribute (.Name slfN q0) f1 q1)) q3.line (envF ⟨"__init__", qual, defArgs st, defBody st, defScope st, [(clsN, cc)], cda⟩ fI L) = pure false := by intro _; rfl)
    (hs2 : ∀ L, swapsWith (.Name f2 r2) (some (.Attribute (.Name slfN r0) f2 r1)) r3.line (envF ⟨"__init__", qual, defArgs st, defBody st, defScope st, [(clsN, cc)], cda⟩ fI L) = pure false := by intro _; rfl)
    (hd1 : (f1 == ("__debug__" : Str)) = false := by decide) (hd2 : (f1 == ("__classdict__" : Str)) = false := by decide) (hd3 : (f2 == ("__debug__" : Str)) = false := by decide) (hd4 : (f2 == ("__classdict__" : Str)) = false := by decide) : ExcOk P w K mg base x 1 [f1, f2] := by
  obtain ⟨oc, od, kV, doc, pm, an, ct, osl, lk⟩ := E.lk
  exact excOk2 (k := 0) (F := ⟨"__init__", qual, defArgs st, defBody st, defScope st, [(clsN, cc)], cda⟩) (PySem.W.mg_of XK G E.gx) E.oex E.ini E.tyI (hbd kV doc pm an ct) (E.sk XK G hp ha) no1 no2 lk E.hcd rfl hb S hsu hq he hev hs1 hs2 hd1 hd2 hd3 hd4
/-- a def that calls itself too often for what is asked -/
theorem def_stuck {P : Program} {w : World} {K : PySem.W.Frag} {mg : Str → Option Value} {base : Heap} {x : Str} {st : Stmt} {ps : List Str} {k : Nat} (T : FnAt K mg x x st ps) : Def P w K mg base x k ps.length (fun _ _ => .stuck) := by
  obtain ⟨f, fd, F, gx, hb⟩ := T.ex
  refine ⟨f, fd, ps, rfl, gx, F.kp, .all hb, ⟨fun vs H Q E h => h.1, fun A outer s H args us vs Q E _ _ _ _ h => ?_⟩⟩
  obtain ⟨_, ι, h, ds, _, _, po⟩ := h
  exact po.elim
/-! ### yes and no about the written part, by computing -/
def excB (K : PySem.W.Frag) (D : Addr) : Bool := decide (PySem.W.findIn K (.ref D) "__getattribute__" = some (some (.builtin "BaseException.__getattribute__"))) && decide (PySem.W.findIn K (.ref D) "__getattr__" = some none) && decide (PySem.W.subIn K (.ref D) (.type "BaseException") = some true) && PySem.W.hasDictIn K D &&
  decide (PySem.W.findIn K (.ref D) "__class__" = some (some (.builtin "object.__class__"))) && decide (PySem.W.specialIn K (.builtin "object.__class__") "__get__" = some (some (.builtin "getset_descriptor.__get__"))) && decide (PySem.W.takesIn K (.builtin "object.__class__") = some true) && decide (PySem.W.mroIn K D (.type "object") = some true)
theorem excB_ok {K : PySem.W.Frag} {D : Addr} (h : excB K D = true) : ExcC K D := by
  unfold excB at h
  simp only [Bool.and_eq_true, decide_eq_true_eq] at h
  obtain ⟨⟨⟨⟨⟨⟨⟨h1, h2⟩, h3⟩, h4⟩, h5⟩, h6⟩, h7⟩, h8⟩ := h
  exact ⟨h1, h2, h3, h4, h5, h6, h7, h8⟩
end LF
set_option Elab.async false
set_option linter.all false
set_option maxRecDepth 100000
set_option maxHeartbeats 4000000
/-! LFV: texts and further methods. -/
namespace LF
open PySem PySem.Spec L2
open PyProof.Rows hiding St
instance (x : Str) (n : Int) : Decidable (MulOk x n) := by unfold MulOk; infer_instance
section
variable {X : Cx} {W : WX} {ex : Ex} {e a b c i o : Expr} {es : List Expr} {ma mb mc : ME} {mas : MA} {pos : Pos} {G : Wo}
theorem op_smul : OpR X (binaryOp .Mult) (fun x y H Q => ∃ i j, x = .str i ∧ y = .int j ∧ MulOk i j ∧ Q (.str (Txt.mul i j)) H) := by
  intro pins s σ H x y v u Q I rx ry h
  obtain ⟨i, j, rfl, rfl, hz, q⟩ := h
  obtain ⟨t, rfl⟩ := rx
  obtain ⟨t', rfl⟩ := ry
  exact SB.mul hz fun t' k => ⟨.str (Txt.mul i j), H, I.tok k, ⟨_, rfl⟩, q⟩
def fSMul (x y : D) (h : M) : Res D := match x, y with
  | .str i, .int j => if MulOk i j then .ok (.str (Txt.mul i j)) h else .stuck
  | _, _ => .stuck
theorem fe_smul (ha : FE X W ex a ma) (hb : FE X W ex b mb) : FE X W ex (.BinOp a .Mult b pos) (m2 fSMul ma mb) := by
  refine fe_op op_smul (fun E ι H h x y v u Q rel rx ry po => ?_) ha hb
  unfold fSMul at po
  split at po
  · rename_i i j
    split at po
    · rename_i hc
      simp only [RV] at rx ry
      subst rx; subst ry
      exact ⟨i, j, rfl, rfl, hc, po_ok rel (by simp [RV]) po⟩
    · exact po.elim
  · exact po.elim
def fSLt (x y : D) (h : M) : Res D := match x, y with
  | .str i, .str j => .ok (.bl (decide (i.cps.toList < j.cps.toList))) h
  | .int i, .int j => .ok (.bl (decide (i < j))) h
  | _, _ => .stuck
theorem fc_slt (ha : FE X W ex a ma) (hb : FE X W ex b mb) : FC X W ex .Lt a b (m2 fSLt ma mb) := by
  refine fc_op (op_lt.or op_lt_str) (fun E ι H h x y v u Q rel rx ry po => ?_) ha hb
  unfold fSLt at po
  split at po
  · rename_i i j
    simp only [RV] at rx ry
    subst rx; subst ry
    exact .inr ⟨i, j, rfl, rfl, po_ok rel (by simp [RV]) po⟩
  · rename_i i j
    simp only [RV] at rx ry
    subst rx; subst ry
    exact .inl ⟨i, j, rfl, rfl, po_ok rel (by simp [RV]) po⟩
  · exact po.elim
/-! ### methods of texts -/
def fFind (x : D) (xs : List D) (h : M) : Res D := match x, xs with
  | .str a, [.str b] => .ok (.int (Txt.find a b)) h
  | _, _ => .stuck
theorem ab_find : AbM G (fun x xs H Q => ∃ a b, x = .str a ∧ xs = [.str b] ∧ Q (.int (Txt.find a b)) H) fFind := by
  intro E ι H h x xs v vs Q rel rx rxs po
  unfold fFind at po
  split at po
  · obtain ⟨w, rfl, rw'⟩ := rxs.eq1
    simp only [RV] at rx rw'
    subst rx; subst rw'
    exact ⟨_, _, rfl, rfl, po_ok rel (by simp [RV]) po⟩
  · exact po.elim
def fSIndex (x : D) (xs : List D) (h : M) : Res D := match x, xs with
  | .str a, [.str b] => match Builtin.Str.occurrences a b 0 a.length 1 with
    | i :: _ => .ok (.int (i : Nat)) h
    | [] => .stuck
  | _, _ => .stuck
theorem ab_sindex : AbM G (fun x xs H Q => ∃ a b i rest, x = .str a ∧ xs = [.str b] ∧ Builtin.Str.occurrences a b 0 a.length 1 = i :: rest ∧ Q (.int (i : Nat)) H) fSIndex := by
  intro E ι H h x xs v vs Q rel rx rxs po
  unfold fSIndex at po
  split at po
  · split at po
    · rename_i i r eo
      obtain ⟨w, rfl, rw'⟩ := rxs.eq1
      simp only [RV] at rx rw'
      subst rx; subst rw'
      exact ⟨_, _, _, _, rfl, rfl, eo, po_ok rel (by simp [RV]) po⟩
    · exact po.elim
  · exact po.elim
def fStarts (x : D) (xs : List D) (h : M) : Res D := match x, xs with
  | .str a, [.str b] => .ok (.bl (Txt.startswith a b)) h
  | _, _ => .stuck
theorem ab_starts : AbM G (fun x xs H Q => ∃ a b, x = .str a ∧ xs = [.str b] ∧ Q (.bl (Txt.startswith a b)) H) fStarts := by
  intro E ι H h x xs v vs Q rel rx rxs po
  unfold fStarts at po
  split at po
  · obtain ⟨w, rfl, rw'⟩ := rxs.eq1
    simp only [RV] at rx rw'
    subst rx; subst rw'
    exact ⟨_, _, rfl, rfl, po_ok rel (by simp [RV]) po⟩
  · exact po.elim
def fUpper (x : D) (xs : List D) (h : M) : Res D := match x, xs with
  | .str a, [] => if a.length ≤ 5592405 then .ok (.str (Txt.upper a)) h else .stuck
  | _, _ => .stuck
theorem ab_upper : AbM G (fun x xs H Q => ∃ a, x = .str a ∧ xs = [] ∧ a.length ≤ 5592405 ∧ Q (.str (Txt.upper a)) H) fUpper := by
  intro E ι H h x xs v vs Q rel rx rxs po
  unfold fUpper at po
  split at po
  · split at po
    · rename_i hc
      simp only [RVs] at rxs
      simp only [RV] at rx
      subst rx; subst rxs
      exact ⟨_, rfl, rfl, hc, po_ok rel (by simp [RV]) po⟩
    · exact po.elim
  · exact po.elim
def fSplit (x : D) (xs : List D) (h : M) : Res D := match x, xs with
  | .str a, [.str b] => if (b.length == 0) = false ∧ a.length + 2 ≤ sizeLine then .ok (.loc h.length) (h ++ [.lst ((Txt.split a b).map .str)]) else .stuck
  | _, _ => .stuck
theorem RVs.strs {ι : List Addr} {H : Hp} : ∀ ys : List Str, RVs G ι H (ys.map .str) (ys.map V.str)
  | [] => RVs.nil
  | y :: ys => RVs.cons (by simp [RV]) (RVs.strs ys)
theorem ab_split : AbM G (fun x xs H Q => ∃ a b, x = .str a ∧ xs = [.str b] ∧ (b.length == 0) = false ∧ a.length + 2 ≤ sizeLine ∧ rNewStrs (Txt.split a b) H Q) fSplit := by
  intro E ι H h x xs v vs Q rel rx rxs po
  unfold fSplit at po
  split at po
  · split at po
    · rename_i hc
      obtain ⟨w, rfl, rw'⟩ := rxs.eq1
      simp only [RV] at rx rw'
      subst rx; subst rw'
      exact ⟨_, _, rfl, rfl, hc.1, hc.2, fun p hp => po_lst rel (RVs.strs _) po p hp⟩
    · exact po.elim
  · exact po.elim
def strsD : List D → Option (List Str)
  | [] => some []
  | .str y :: ds => (strsD ds).map (y :: ·)
  | _ => none
theorem strsD_ok {ι : List Addr} {H : Hp} : ∀ {ds : List D} {ys : List Str} {vs : List V}, strsD ds = some ys → RVs G ι H ds vs → vs = ys.map V.str
  | [], ys, vs, e, r => by
    simp only [strsD, Option.some.injEq] at e
    simp only [RVs] at r
    subst e; subst r; rfl
  | d :: ds, ys, vs, e, r => by
    simp only [RVs] at r
    obtain ⟨v, q, rfl, r1, r2⟩ := r
    cases d <;> simp only [strsD, reduceCtorEq, Option.map_eq_some_iff] at e
    obtain ⟨zs, e1, rfl⟩ := e
    simp only [RV] at r1
    rw [strsD_ok e1 r2, r1]; rfl
def fJoin (x : D) (xs : List D) (h : M) : Res D := match x, xs with
  | .str a, [y] => match seqOf h y with
    | some ds => match strsD ds with
      | some ys => if (ys.map (·.length)).sum + ys.length * a.length ≤ 16777216 then .ok (.str (Txt.join a ys)) h else .stuck
      | none => .stuck
    | none => .stuck
  | _, _ => .stuck
theorem ab_join : AbM G (fun x xs H Q => ∃ a p, ∃ ys : List Str, x = .str a ∧ xs = [.ref p] ∧ (SqL G.K H p (ys.map V.str) ∨ SqT G.K H p (ys.map V.str)) ∧
    (ys.map (·.length)).sum + ys.length * a.length ≤ 16777216 ∧ Q (.str (Txt.join a ys)) H) fJoin := by
  intro E ι H h x xs v vs Q rel rx rxs po
  unfold fJoin at po
  split at po
  case h_2 => exact po.elim
  split at po
  case h_2 => exact po.elim
  rename_i ds e1
  split at po
  case h_2 => exact po.elim
  rename_i ys e2
  split at po
  case isFalse => exact po.elim
  rename_i hc
  obtain ⟨w, rfl, rw'⟩ := rxs.eq1
  simp only [RV] at rx
  subst rx
  obtain ⟨p, ws, rfl, s, r⟩ := seqOf_sq rel rw' e1
  have := strsD_ok e2 r
  subst this
  exact ⟨_, p, ys, rfl, rfl, s, hc, po_ok rel (by simp [RV]) po⟩
/-! ### methods of lists -/
def fReverse (x : D) (xs : List D) (h : M) : Res D := match x, xs with
  | .loc l, [] => match h[l]? with
    | some (.lst ys) => .ok .non (h.set l (.lst ys.reverse))
    | _ => .stuck
  | _, _ => .stuck
theorem RVs.rev' {ι : List Addr} {H : Hp} : ∀ {xs : List D} {vs : List V}, RVs G ι H xs vs → RVs G ι H xs.reverse vs.reverse
  | [], vs, r => by simp only [RVs] at r; subst r; exact RVs.nil
  | x :: xs, vs, r => by
    simp only [RVs] at r
    obtain ⟨v, q, rfl, r1, r2⟩ := r
    rw [List.reverse_cons, List.reverse_cons]
    exact (RVs.rev' r2).append (RVs.one r1)
theorem ab_reverse : AbM G rReverse fReverse := by
  intro E ι H h x xs v vs Q rel rx rxs po
  unfold fReverse at po
  split at po
  case h_2 => exact po.elim
  split at po
  case h_2 => exact po.elim
  rename_i ys e1
  simp only [RVs] at rxs
  subst rxs
  obtain ⟨a, ws, rfl, ea, q, r⟩ := at_lst rel rx e1
  exact ⟨a, ws, rfl, rfl, q, po_wr rel ea (RVs.rev' r) (fun _ _ => by simp [RV]) po⟩
def fInsert (x : D) (xs : List D) (h : M) : Res D := match x, xs with
  | .loc l, [.int i, y] => match h[l]? with
    | some (.lst ys) => if ys.length < sizeLine ∧ 0 ≤ i ∧ i < 2 ^ 63 then .ok .non (h.set l (.lst (ys.take i.toNat ++ [y] ++ ys.drop i.toNat))) else .stuck
    | _ => .stuck
  | _, _ => .stuck
theorem ab_insert : AbM G (fun x vs H Q => ∃ (l : Addr) (xs : List V) (i : Int) (y : V), x = .ref l ∧ vs = [.int i, y] ∧ H l = some (.lst xs) ∧ xs.length < sizeLine ∧ 0 ≤ i ∧ i < 2 ^ 63 ∧
    Q .non (upd H l (.lst (xs.take i.toNat ++ [y] ++ xs.drop i.toNat)))) fInsert := by
  intro E ι H h x xs v vs Q rel rx rxs po
  unfold fInsert at po
  split at po
  case h_2 => exact po.elim
  split at po
  case h_2 => exact po.elim
  rename_i ys e1
  split at po
  case isFalse => exact po.elim
  rename_i hc
  obtain ⟨w, u, rfl, rw', ru⟩ := rxs.eq2
  simp only [RV] at rw'
  subst rw'
  obtain ⟨a, ws, rfl, ea, q, r⟩ := at_lst rel rx e1
  have hl := RVs.length r
  exact ⟨a, ws, _, u, rfl, rfl, q, by omega, hc.2.1, hc.2.2, po_wr rel ea (((r.take _).append (RVs.one ru)).append (r.drop _)) (fun _ _ => by simp [RV]) po⟩
def fPop (x : D) (xs : List D) (h : M) : Res D := match x, xs with
  | .loc l, [] => match h[l]? with
    | some (.lst ys) => match ys[ys.length - 1]? with
      | some y => .ok y (h.set l (.lst ys.dropLast))
      | none => .stuck
    | _ => .stuck
  | _, _ => .stuck
/-! ### chains -/
theorem fe_chain {op op' : CmpOp} {g g' : Int → Int → Bool} (ho : OpR X (compareOp op) (rI0 fun i j => .bl (g i j))) (ho' : OpR X (compareOp op') (rI0 fun i j => .bl (g' i j))) (ha : FE X W ex a ma) (hb : FE X W ex b mb) (hc : FE X W ex c mc)
    (hm : lastMarks [op, op'] [b, c] = false := by with_unfolding_all rfl) : FE X W ex (.Compare a [op, op'] [b, c] pos) (mChain (fI (fun _ _ => True) fun i j => .bl (g i j)) (fI (fun _ _ => True) fun i j => .bl (g' i j)) ma mb mc) :=
  PE.imp (pe_chain ho ho' ha hb hc hm) fun σ H Q q => rd_chain q
theorem ft_chain {op op' : CmpOp} {g g' : Int → Int → Bool} (ho : OpR X (compareOp op) (rI0 fun i j => .bl (g i j))) (ho' : OpR X (compareOp op') (rI0 fun i j => .bl (g' i j))) (ha : FE X W ex a ma) (hb : FE X W ex b mb) (hc : FE X W ex c mc)
    (hm : lastMarks [op, op'] [b, c] = false := by with_unfolding_all rfl) : FT X W ex (.Compare a [op, op'] [b, c] pos) (mTest (mChain (fI (fun _ _ => True) fun i j => .bl (g i j)) (fI (fun _ _ => True) fun i j => .bl (g' i j)) ma mb mc)) :=
  PT.imp (pt_chain ho ho' ha hb hc hm) fun σ H Q q => rd_chain (rd_test q)
def fMulX (x y : D) (h : M) : Res D := match x with
  | .str _ => fSMul x y h
  | _ => fMul x y h
theorem fe_mulX (ha : FE X W ex a ma) (hb : FE X W ex b mb) : FE X W ex (.BinOp a .Mult b pos) (m2 fMulX ma mb) := by
  refine PE.imp (PE.or (fe_mul ha hb) (fe_smul ha hb)) fun σ H Q q => ?_
  obtain ⟨ι, h, env, rel, re, po⟩ := q
  cases e : ma env h with
  | ok x h1 =>
    by_cases hx : ∃ z, x = .str z
    · obtain ⟨z, rfl⟩ := hx
      have e2 : m2 fMulX ma mb env h = m2 fSMul ma mb env h := by unfold m2; rw [e]; rfl
      rw [e2] at po
      exact .inr ⟨ι, h, env, rel, re, po⟩
    · have e2 : m2 fMulX ma mb env h = m2 fMul ma mb env h := by
        unfold m2; rw [e]
        simp only [bind_ok]
        congr 1; funext y h2
        cases x <;> first | rfl | exact absurd ⟨_, rfl⟩ hx
      rw [e2] at po
      exact .inl ⟨ι, h, env, rel, re, po⟩
  | exc x ns vs h1 =>
    have e2 : m2 fMulX ma mb env h = m2 fMul ma mb env h := by unfold m2; rw [e]; rfl
    rw [e2] at po
    exact .inl ⟨ι, h, env, rel, re, po⟩
  | stuck =>
    have e2 : m2 fMulX ma mb env h = m2 fMul ma mb env h := by unfold m2; rw [e]; rfl
    rw [e2] at po
    exact .inl ⟨ι, h, env, rel, re, po⟩
end
end LF
set_option Elab.async false
set_option linter.all false
set_option maxRecDepth 100000
set_option maxHeartbeats 4000000
/-! LFM: a small logic over the plain machine. -/
namespace LF
open PySem L2
abbrev XP := Str → List Str → List D → M → Prop
/-- what must hold behind an expression; a class, so that simp leaves it alone -/
class Kw (α : Type) where
  q : α → M → Prop
  x : XP
def Wc {α : Type} (r : Res α) [k : Kw α] : Prop := match r with
  | .ok a h => k.q a h
  | .exc x ns vs h => k.x x ns vs h
  | .stuck => False
class Kt where
  nx : En → M → Prop
  rt : D → M → Prop
  bk : En → M → Prop
  ct : En → M → Prop
  ex : Str → List Str → List D → En → M → Prop
def Ws (r : SR) [k : Kt] : Prop := match r with
  | .nx e h => k.nx e h
  | .rt d h => k.rt d h
  | .bk e h => k.bk e h
  | .ct e h => k.ct e h
  | .exc x ns vs e h => k.ex x ns vs e h
  | .stuck => False
abbrev noEx : XP := fun _ _ _ _ => False
/-- what a call that raises nothing comes to -/
def Wp {α : Type} (r : Res α) (Q : α → M → Prop) : Prop := @Wc α r ⟨Q, noEx⟩
/-- and one that may raise -/
def Wx {α : Type} (r : Res α) (Q : α → M → Prop) (X : XP) : Prop := @Wc α r ⟨Q, X⟩
theorem Wc.mono {α : Type} {r : Res α} {k k' : Kw α} (h : @Wc α r k) (hq : ∀ a h, k.q a h → k'.q a h) (hx : ∀ x ns vs h, k.x x ns vs h → k'.x x ns vs h) : @Wc α r k' := by
  cases r with
  | ok a h1 => exact hq _ _ h
  | exc x ns vs h1 => exact hx _ _ _ _ h
  | stuck => exact h
/-- behind a call that raises nothing -/
theorem Wp.call {α : Type} {r : Res α} {Q Q' : α → M → Prop} {X : XP} (h : Wp r Q) (hq : ∀ a h, Q a h → Q' a h) : @Wc α r ⟨Q', X⟩ := Wc.mono h hq fun _ _ _ _ z => z.elim
theorem Wx.call {α : Type} {r : Res α} {Q Q' : α → M → Prop} {X X' : XP} (h : Wx r Q X) (hq : ∀ a h, Q a h → Q' a h) (hx : ∀ x ns vs h, X x ns vs h → X' x ns vs h) : @Wc α r ⟨Q', X'⟩ := Wc.mono h hq hx
theorem Wp.mono {α : Type} {r : Res α} {Q Q' : α → M → Prop} (h : Wp r Q) (hq : ∀ a h, Q a h → Q' a h) : Wp r Q' := Wc.mono h hq fun _ _ _ _ z => z
theorem Ws.mono {r : SR} {k k' : Kt} (h : @Ws r k) (h1 : ∀ e m, k.nx e m → k'.nx e m) (h2 : ∀ d m, k.rt d m → k'.rt d m) (h3 : ∀ e m, k.bk e m → k'.bk e m) (h4 : ∀ e m, k.ct e m → k'.ct e m) (h5 : ∀ x ns vs e m, k.ex x ns vs e m → k'.ex x ns vs e m) : @Ws r k' := by
  cases r with
  | nx => exact h1 _ _ h
  | rt => exact h2 _ _ h
  | bk => exact h3 _ _ h
  | ct => exact h4 _ _ h
  | exc => exact h5 _ _ _ _ _ h
  | stuck => exact h
theorem wc_eq {α : Type} {r : Res α} {Q Q' : α → M → Prop} {X : XP} (e : ∀ a h, Q a h = Q' a h) : @Wc α r ⟨Q, X⟩ = @Wc α r ⟨Q', X⟩ := by
  have : Q = Q' := by funext a h; exact e a h
  rw [this]
theorem Wc.ok_of {α : Type} {r : Res α} {Q : α → M → Prop} (h : @Wc α r ⟨Q, noEx⟩) : ∃ a m, r = .ok a m ∧ Q a m := by
  cases r with
  | ok a m => exact ⟨a, m, rfl, h⟩
  | exc => exact h.elim
  | stuck => exact h.elim
section
variable {α β : Type} {Q : α → M → Prop} {X : XP} {env : En} {h : M} {nx : En → M → Prop} {rt : D → M → Prop} {bk ct : En → M → Prop} {ex : Str → List Str → List D → En → M → Prop}
@[simp] theorem wp_ok {a : α} : @Wc α (.ok a h) ⟨Q, X⟩ = Q a h := (rfl)
@[simp] theorem wp_exc {x ns vs} : @Wc α (.exc x ns vs h) ⟨Q, X⟩ = X x ns vs h := (rfl)
@[simp] theorem wp_stuck : @Wc α .stuck ⟨Q, X⟩ = False := (rfl)
@[simp] theorem wp_guard {c : Prop} [Decidable c] {r : Res α} : @Wc α (if c then r else .stuck) ⟨Q, X⟩ = (c ∧ @Wc α r ⟨Q, X⟩) := by
  split
  · rename_i hc; exact propext ⟨fun z => ⟨hc, z⟩, fun z => z.2⟩
  · rename_i hc; exact propext ⟨fun z => z.elim, fun z => hc z.1⟩
theorem wp_ite {c : Prop} [Decidable c] {r s : Res α} : @Wc α (if c then r else s) ⟨Q, X⟩ = if c then @Wc α r ⟨Q, X⟩ else @Wc α s ⟨Q, X⟩ := by split <;> rfl
@[simp] theorem wp_bind {r : Res β} {k : β → M → Res α} : @Wc α (r.bind k) ⟨Q, X⟩ = @Wc β r ⟨fun a h => @Wc α (k a h) ⟨Q, X⟩, X⟩ := by cases r <;> rfl
@[simp] theorem ws_of {r : Res α} {k : α → M → SR} : @Ws (SR.of r env k) ⟨nx, rt, bk, ct, ex⟩ = @Wc α r ⟨fun a h => @Ws (k a h) ⟨nx, rt, bk, ct, ex⟩, fun x ns vs h => ex x ns vs env h⟩ := by cases r <;> rfl
@[simp] theorem ws_nx : @Ws (.nx env h) ⟨nx, rt, bk, ct, ex⟩ = nx env h := (rfl)
@[simp] theorem ws_rt {d : D} : @Ws (.rt d h) ⟨nx, rt, bk, ct, ex⟩ = rt d h := (rfl)
@[simp] theorem ws_bk : @Ws (.bk env h) ⟨nx, rt, bk, ct, ex⟩ = bk env h := (rfl)
@[simp] theorem ws_ct : @Ws (.ct env h) ⟨nx, rt, bk, ct, ex⟩ = ct env h := (rfl)
@[simp] theorem ws_stuck : @Ws .stuck ⟨nx, rt, bk, ct, ex⟩ = False := (rfl)
@[simp] theorem ws_exc {x ns vs} : @Ws (.exc x ns vs env h) ⟨nx, rt, bk, ct, ex⟩ = ex x ns vs env h := (rfl)
@[simp] theorem ws_seq {a b : MS} : @Ws (mSeq a b env h) ⟨nx, rt, bk, ct, ex⟩ = @Ws (a env h) ⟨fun env h => @Ws (b env h) ⟨nx, rt, bk, ct, ex⟩, rt, bk, ct, ex⟩ := by
  unfold mSeq; cases a env h <;> rfl
@[simp] theorem ws_skip : @Ws (mSkip env h) ⟨nx, rt, bk, ct, ex⟩ = nx env h := (rfl)
@[simp] theorem ws_set {i : Nat} {m : ME} : @Ws (mSet i m env h) ⟨nx, rt, bk, ct, ex⟩ = @Wc D (m env h) ⟨fun d h => nx (env.set i (.va d)) h, fun x ns vs h => ex x ns vs env h⟩ := by unfold mSet; rw [ws_of]; rfl
@[simp] theorem ws_do {m : ME} : @Ws (mDo m env h) ⟨nx, rt, bk, ct, ex⟩ = @Wc D (m env h) ⟨fun _ h => nx env h, fun x ns vs h => ex x ns vs env h⟩ := by unfold mDo; rw [ws_of]; rfl
@[simp] theorem ws_ret {m : ME} : @Ws (mRet m env h) ⟨nx, rt, bk, ct, ex⟩ = @Wc D (m env h) ⟨rt, fun x ns vs h => ex x ns vs env h⟩ := by unfold mRet; rw [ws_of]; rfl
@[simp] theorem ws_retN : @Ws (mRetN env h) ⟨nx, rt, bk, ct, ex⟩ = rt .non h := (rfl)
@[simp] theorem ws_break : @Ws (mBreak env h) ⟨nx, rt, bk, ct, ex⟩ = bk env h := (rfl)
@[simp] theorem ws_cont : @Ws (mCont env h) ⟨nx, rt, bk, ct, ex⟩ = ct env h := (rfl)
@[simp] theorem ws_if {t : MT} {a b : MS} : @Ws (mIfS t a b env h) ⟨nx, rt, bk, ct, ex⟩ = @Wc Bool (t env h) ⟨fun c h => if c = true then @Ws (a env h) ⟨nx, rt, bk, ct, ex⟩ else @Ws (b env h) ⟨nx, rt, bk, ct, ex⟩, fun x ns vs h => ex x ns vs env h⟩ := by
  unfold mIfS
  rw [ws_of]
  exact wc_eq fun c _ => by cases c <;> rfl
@[simp] theorem ws_m3 {f : D → D → D → M → Res Unit} {mo mi me : ME} : @Ws (m3 f mo mi me env h) ⟨nx, rt, bk, ct, ex⟩ = @Wc D (me env h) ⟨fun v h => @Wc D (mo env h) ⟨fun o h => @Wc D (mi env h) ⟨fun i h => @Wc Unit (f o i v h) ⟨fun _ h => nx env h, fun x ns vs h => ex x ns vs env h⟩, fun x ns vs h => ex x ns vs env h⟩, fun x ns vs h => ex x ns vs env h⟩, fun x ns vs h => ex x ns vs env h⟩ := by
  unfold m3; rw [ws_of, wp_bind]; exact wc_eq fun _ _ => by rw [wp_bind]; exact wc_eq fun _ _ => by rw [wp_bind]; rfl
@[simp] theorem ws_asg {m : ME} {g : MG} : @Ws (mAsg m g env h) ⟨nx, rt, bk, ct, ex⟩ = @Wc D (m env h) ⟨fun d h => @Wc En (g d env h) ⟨fun env' h => nx env' h, fun x ns vs h => ex x ns vs env h⟩, fun x ns vs h => ex x ns vs env h⟩ := by
  unfold mAsg; rw [ws_of]; exact wc_eq fun _ _ => by rw [ws_of]; rfl
end
section
variable {Q : D → M → Prop} {QB : Bool → M → Prop} {QL : List D → M → Prop} {QO : Option Int → M → Prop} {QI : Itr' → M → Prop} {QE : En → M → Prop} {X : XP} {env : En} {h : M} {ma mb mc : ME} {mas : MA}
@[simp] theorem wp_c {d : D} : @Wc D (mC d env h) ⟨Q, X⟩ = Q d h := (rfl)
@[simp] theorem wp_m2 {f : D → D → M → Res D} : @Wc D (m2 f ma mb env h) ⟨Q, X⟩ = @Wc D (ma env h) ⟨fun x h => @Wc D (mb env h) ⟨fun y h => @Wc D (f x y h) ⟨Q, X⟩, X⟩, X⟩ := by
  unfold m2; rw [wp_bind]; exact wc_eq fun _ _ => by rw [wp_bind]
@[simp] theorem wp_m1 {f : D → M → Res D} : @Wc D (m1 f ma env h) ⟨Q, X⟩ = @Wc D (ma env h) ⟨fun x h => @Wc D (f x h) ⟨Q, X⟩, X⟩ := by
  unfold m1; rw [wp_bind]
@[simp] theorem wp_nil : @Wc (List D) (mNil env h) ⟨QL, X⟩ = QL [] h := (rfl)
@[simp] theorem wp_cons : @Wc (List D) (mCons ma mas env h) ⟨QL, X⟩ = @Wc D (ma env h) ⟨fun x h => @Wc (List D) (mas env h) ⟨fun xs h => QL (x :: xs) h, X⟩, X⟩ := by
  unfold mCons; rw [wp_bind]; exact wc_eq fun _ _ => by rw [wp_bind]; rfl
@[simp] theorem wp_L {f : List D → M → Res D} : @Wc D (mL f mas env h) ⟨Q, X⟩ = @Wc (List D) (mas env h) ⟨fun xs h => @Wc D (f xs h) ⟨Q, X⟩, X⟩ := by
  unfold mL; rw [wp_bind]
@[simp] theorem wp_test : @Wc Bool (mTest ma env h) ⟨QB, X⟩ = @Wc D (ma env h) ⟨fun d h => @Wc Bool (asB d h) ⟨QB, X⟩, X⟩ := by
  unfold mTest; rw [wp_bind]
@[simp] theorem wp_tru : @Wc Bool (mTru ma env h) ⟨QB, X⟩ = @Wc D (ma env h) ⟨fun d h => @Wc Bool (fTru d h) ⟨QB, X⟩, X⟩ := by
  unfold mTru; rw [wp_bind]
@[simp] theorem wp_notT {t : MT} : @Wc Bool (mNotT t env h) ⟨QB, X⟩ = @Wc Bool (t env h) ⟨fun b h => QB (!b) h, X⟩ := by
  unfold mNotT; rw [wp_bind]; rfl
@[simp] theorem wp_andT {t u : MT} : @Wc Bool (mAndT t u env h) ⟨QB, X⟩ = @Wc Bool (t env h) ⟨fun b h => if b = true then @Wc Bool (u env h) ⟨QB, X⟩ else QB false h, X⟩ := by
  simp only [mAndT, wp_bind]; exact wc_eq fun b _ => by cases b <;> rfl
@[simp] theorem wp_orT {t u : MT} : @Wc Bool (mOrT t u env h) ⟨QB, X⟩ = @Wc Bool (t env h) ⟨fun b h => if b = true then QB true h else @Wc Bool (u env h) ⟨QB, X⟩, X⟩ := by
  simp only [mOrT, wp_bind]; exact wc_eq fun b _ => by cases b <;> rfl
@[simp] theorem wp_notV : @Wc D (mNotV ma env h) ⟨Q, X⟩ = @Wc D (ma env h) ⟨fun d h => @Wc Bool (asB d h) ⟨fun b h => Q (.bl (!b)) h, X⟩, X⟩ := by
  unfold mNotV; rw [wp_bind]; exact wc_eq fun _ _ => by rw [wp_bind]; rfl
@[simp] theorem wp_andV : @Wc D (mAndV ma mb env h) ⟨Q, X⟩ = @Wc D (ma env h) ⟨fun d h => @Wc Bool (asB d h) ⟨fun b h => if b = true then @Wc D (mb env h) ⟨Q, X⟩ else Q (.bl false) h, X⟩, X⟩ := by
  unfold mAndV; rw [wp_bind]; exact wc_eq fun _ _ => by rw [wp_bind]; exact wc_eq fun b _ => by cases b <;> rfl
@[simp] theorem wp_orV : @Wc D (mOrV ma mb env h) ⟨Q, X⟩ = @Wc D (ma env h) ⟨fun d h => @Wc Bool (asB d h) ⟨fun b h => if b = true then Q (.bl true) h else @Wc D (mb env h) ⟨Q, X⟩, X⟩, X⟩ := by
  unfold mOrV; rw [wp_bind]; exact wc_eq fun _ _ => by rw [wp_bind]; exact wc_eq fun b _ => by cases b <;> rfl
@[simp] theorem wp_if {t : MT} : @Wc D (mIf t ma mb env h) ⟨Q, X⟩ = @Wc Bool (t env h) ⟨fun b h => if b = true then @Wc D (ma env h) ⟨Q, X⟩ else @Wc D (mb env h) ⟨Q, X⟩, X⟩ := by
  simp only [mIf, wp_bind]; exact wc_eq fun b _ => by cases b <;> rfl
@[simp] theorem wp_noPart : @Wc (Option Int) (mNoPart env h) ⟨QO, X⟩ = QO none h := (rfl)
@[simp] theorem wp_part : @Wc (Option Int) (mPart ma env h) ⟨QO, X⟩ = @Wc D (ma env h) ⟨fun d h => match d with | .int i => QO (some i) h | _ => False, X⟩ := by
  simp only [mPart, wp_bind]; exact wc_eq fun d _ => by cases d <;> rfl
@[simp] theorem wp_sl {lo hi : MO} : @Wc D (mSl ma lo hi env h) ⟨Q, X⟩ = @Wc D (ma env h) ⟨fun x h => @Wc (Option Int) (lo env h) ⟨fun l h => @Wc (Option Int) (hi env h) ⟨fun u h => @Wc D (fSl x l u h) ⟨Q, X⟩, X⟩, X⟩, X⟩ := by
  unfold mSl; rw [wp_bind]; exact wc_eq fun _ _ => by rw [wp_bind]; exact wc_eq fun _ _ => by rw [wp_bind]
@[simp] theorem wp_bm {T : String} {f : D → List D → M → Res D} : @Wc D (mBM T f ma mas env h) ⟨Q, X⟩ = @Wc D (ma env h) ⟨fun x h => isTyp h T x = true ∧ @Wc (List D) (mas env h) ⟨fun xs h => @Wc D (f x xs h) ⟨Q, X⟩, X⟩, X⟩ := by
  unfold mBM; rw [wp_bind]; exact wc_eq fun _ _ => by rw [wp_guard, wp_bind]
@[simp] theorem wp_fix {n : Nat} {m : List D → M → Res D} {ds : List D} : @Wc D (mFix n m ds h) ⟨Q, X⟩ = (ds.length = n ∧ @Wc D (m ds h) ⟨Q, X⟩) := by
  simp only [mFix, wp_guard]
@[simp] theorem wp_iter : @Wc Itr' (mIter ma env h) ⟨QI, X⟩ = @Wc D (ma env h) ⟨fun d h => @Wc Itr' (itOf d h) ⟨QI, X⟩, X⟩ := by
  unfold mIter; rw [wp_bind]
@[simp] theorem wp_rng : @Wc Itr' (mRng mas env h) ⟨QI, X⟩ = @Wc (List D) (mas env h) ⟨fun d h => @Wc Itr' (fRng d h) ⟨QI, X⟩, X⟩ := by
  unfold mRng; rw [wp_bind]
@[simp] theorem wp_gN {i : Nat} {d : D} : @Wc En (gN i d env h) ⟨QE, X⟩ = QE (env.set i (.va d)) h := (rfl)
@[simp] theorem wp_yes : @Wc Bool (mYes env h) ⟨QB, X⟩ = QB true h := (rfl)
/-- a def's body -/
theorem wp_fn {N n : Nat} {mb : MS} {ds : List D} : @Wc D (mFn N n mb ds h) ⟨Q, X⟩ = @Ws (mb (ds.map .va ++ List.replicate (N - n) .no) h) ⟨fun _ h => Q .non h, Q, fun _ _ => False, fun _ _ => False, fun x ns vs _ h => X x ns vs h⟩ := by
  unfold mFn; cases mb (ds.map .va ++ List.replicate (N - n) .no) h <;> rfl
/-! ### values -/
@[simp] theorem v_var {i : Nat} : mVar i env h = match env[i]? with | some (.va d) => .ok d h | _ => .stuck := (rfl)
@[simp] theorem v_asB {b : Bool} : asB (.bl b) h = .ok b h := (rfl)
@[simp] theorem v_add {i j : Int} : fAdd (.int i) (.int j) h = .ok (.int (i + j)) h := (rfl)
@[simp] theorem v_sub {i j : Int} : fSub (.int i) (.int j) h = .ok (.int (i - j)) h := by simp [fSub, fI]
theorem v_mulW {i j : Int} (hc : CMulW i j) : fMul (.int i) (.int j) h = .ok (.int (i * j)) h := by simp [fMul, hc]
theorem v_divW {i j : Int} (hc : CDivW i j) : fDiv (.int i) (.int j) h = .ok (.int (i / j)) h := by simp [fDiv, fI, hc]
theorem abs_lt {i : Int} (h1 : -1606938044258990275541962092341162602522202993782792835301376 < i) (h2 : i < 1606938044258990275541962092341162602522202993782792835301376) : i.natAbs < 2 ^ 200 := by omega
@[simp] theorem v_mul {i j : Int} : fMul (.int i) (.int j) h = if CMulW i j then .ok (.int (i * j)) h else .stuck := (rfl)
@[simp] theorem v_div {i j : Int} : fDiv (.int i) (.int j) h = if CDivW i j then .ok (.int (i / j)) h else .stuck := by simp [fDiv, fI]
@[simp] theorem v_mod {i j : Int} : fMod (.int i) (.int j) h = if 0 < j then .ok (.int (i % j)) h else .stuck := by simp [fMod, fI]
theorem cmulW {i j : Int} (h1 : -1606938044258990275541962092341162602522202993782792835301376 < i) (h2 : i < 1606938044258990275541962092341162602522202993782792835301376) (h3 : -1606938044258990275541962092341162602522202993782792835301376 < j) (h4 : j < 1606938044258990275541962092341162602522202993782792835301376) : CMulW i j :=
  wide_mul (abs_lt h1 h2) (abs_lt h3 h4) (by decide) (by decide) (by decide)
theorem cdivW {i j : Int} (h1 : 0 < j) (h2 : j < 1606938044258990275541962092341162602522202993782792835301376) : CDivW i j := wide_div h1 (abs_lt (by omega) h2) (by decide) (by decide)
@[simp] theorem v_lt {i j : Int} : fLt (.int i) (.int j) h = .ok (.bl (decide (i < j))) h := by simp [fLt, fI]
@[simp] theorem v_le {i j : Int} : fLe (.int i) (.int j) h = .ok (.bl (decide (i ≤ j))) h := by simp [fLe, fI]
@[simp] theorem v_gt {i j : Int} : fGt (.int i) (.int j) h = .ok (.bl (decide (j < i))) h := by simp [fGt, fI]
@[simp] theorem v_ge {i j : Int} : fGe (.int i) (.int j) h = .ok (.bl (decide (j ≤ i))) h := by simp [fGe, fI]
@[simp] theorem v_int {i : Int} : fInt [.int i] h = .ok (.int i) h := (rfl)
@[simp] theorem v_min {i j : Int} : fMin [.int i, .int j] h = .ok (.int (if j < i then j else i)) h := (rfl)
@[simp] theorem v_max {i j : Int} : fMax [.int i, .int j] h = .ok (.int (if j > i then j else i)) h := (rfl)
@[simp] theorem v_eqI {i j : Int} : fEq (.int i) (.int j) h = .ok (.bl (decide (i = j))) h := (rfl)
@[simp] theorem v_neI {i j : Int} : fNe (.int i) (.int j) h = .ok (.bl (!decide (i = j))) h := (rfl)
@[simp] theorem v_eqS {i j : Str} : fEq (.str i) (.str j) h = .ok (.bl (decide (i = j))) h := (rfl)
@[simp] theorem v_neS {i j : Str} : fNe (.str i) (.str j) h = .ok (.bl (!decide (i = j))) h := (rfl)
@[simp] theorem ixN_lit {len n : Nat} : ixN len (no_index (OfNat.ofNat n) : Int) = if n < len then some n else none := by
  unfold ixN
  have h0 : (0 : Int) ≤ (OfNat.ofNat n : Int) := Int.natCast_nonneg n
  rw [if_pos h0]
  have e : ((OfNat.ofNat n : Int) < (len : Int)) ↔ n < len := Int.ofNat_lt
  by_cases hl : n < len
  · rw [if_pos (e.mpr hl), if_pos hl]; rfl
  · rw [if_neg (fun z => hl (e.mp z)), if_neg hl]
theorem ixN_nat {len n : Nat} : ixN len (n : Int) = if n < len then some n else none := by
  unfold ixN
  rw [if_pos (Int.natCast_nonneg n)]
  by_cases hl : n < len
  · rw [if_pos (Int.ofNat_lt.mpr hl), if_pos hl]; rfl
  · rw [if_neg (fun z => hl (Int.ofNat_lt.mp z)), if_neg hl]
@[simp] theorem atI_lit {α : Type} {xs : List α} {n : Nat} : atI xs (no_index (OfNat.ofNat n) : Int) = xs[n]? := by
  unfold atI
  rw [ixN_lit]
  by_cases hl : n < xs.length
  · rw [if_pos hl]; rfl
  · rw [if_neg hl, List.getElem?_eq_none (Nat.le_of_not_lt hl)]; rfl
theorem atI_n {α : Type} {xs : List α} {n : Nat} : atI xs (n : Int) = xs[n]? := by
  unfold atI
  rw [ixN_nat]
  by_cases hl : n < xs.length
  · rw [if_pos hl]; rfl
  · rw [if_neg hl, List.getElem?_eq_none (Nat.le_of_not_lt hl)]; rfl
/-- a list's item -/
@[simp] theorem v_ixL {l : Nat} {i : Int} : fIx (.loc l) (.int i) h = match h[l]? with
    | some (.lst xs) => match atI xs i with | some d => .ok d h | none => .stuck
    | some (.dK kvs) => match valD kvs (.inl i) with | some d => .ok d h | none => .stuck
    | _ => .stuck := by
  unfold fIx seqOf
  simp only [tupOf, lstOf, dGet, keyD, keysD]
  cases h[l]? with
  | none => rfl
  | some o => cases o with
    | lst xs => rfl
    | dK kvs => simp only [Option.map_some]; cases valD kvs (.inl i) <;> rfl
    | dT kvs => rfl
    | ins x fs => rfl
@[simp] theorem v_ixT {xs : List D} {i : Int} : fIx (.tup xs) (.int i) h = match atI xs i with | some d => .ok d h | none => .stuck := (rfl)
@[simp] theorem v_ixC {xs : List D} {i : Int} : fIx (.cl xs) (.int i) h = match atI xs i with | some d => .ok d h | none => .stuck := (rfl)
@[simp] theorem v_ixK {xs : List D} {i : Int} : fIx (.ct xs) (.int i) h = match atI xs i with | some d => .ok d h | none => .stuck := (rfl)
@[simp] theorem v_putL {l : Nat} {i v : D} {xs : List D} (e : h[l]? = some (.lst xs)) : fPut (.loc l) i v h = match i with
    | .int k => match ixN xs.length k with | some j => .ok () (h.set l (.lst (xs.set j v))) | none => .stuck
    | _ => .stuck := by simp only [fPut, e] <;> cases i <;> rfl
@[simp] theorem v_app {l : Nat} {d : D} {xs : List D} (e : h[l]? = some (.lst xs)) (hz : xs.length < sizeLine) : fAppend (.loc l) [d] h = .ok .non (h.set l (.lst (xs ++ [d]))) := by simp only [fAppend, e, hz, if_true]
@[simp] theorem v_isN : fIsN .non h = .ok (.bl true) h := (rfl)
end
/-! ### loops -/
section
variable {chk : M → Prop} {g : MG} {mb : MS} {nx : En → M → Prop} {rt : D → M → Prop} {bk ct : En → M → Prop} {ex : Str → List Str → List D → En → M → Prop}
/-- a for loop by what holds ahead of each turn -/
theorem floop_inv {items : List D} {env : En} {h : M} (I : Nat → En → M → Prop) (h0 : I 0 env h) (ck : ∀ i env h, i ≤ items.length → I i env h → chk h)
    (step : ∀ i d env h, items[i]? = some d → I i env h → @Wc En (g d env h) ⟨fun env h => @Ws (mb env h) ⟨I (i + 1), rt, nx, I (i + 1), ex⟩, fun x ns vs h => ex x ns vs env h⟩) (fin : ∀ env h, I items.length env h → nx env h) :
    @Ws (floop chk g mb items env h) ⟨nx, rt, bk, ct, ex⟩ := by
  have go : ∀ (n i : Nat) (env : En) (h : M), items.length - i = n → i ≤ items.length → I i env h → @Ws (floop chk g mb (items.drop i) env h) ⟨nx, rt, bk, ct, ex⟩ := by
    intro n
    induction n with
    | zero =>
      intro i env h e hi p
      have : i = items.length := by omega
      subst this
      simp only [List.drop_length]
      unfold floop
      rw [if_pos (ck _ _ _ (Nat.le_refl _) p)]
      exact fin _ _ p
    | succ n ih =>
      intro i env h e hi p
      have hlt : i < items.length := by omega
      rw [List.drop_eq_getElem_cons hlt]
      unfold floop
      rw [if_pos (ck _ _ _ hi p), ws_of]
      refine Wc.mono (step i items[i] env h (List.getElem?_eq_getElem hlt) p) (fun env1 h1 q => ?_) fun _ _ _ _ z => z
      have q : @Ws (mb env1 h1) ⟨I (i + 1), rt, nx, I (i + 1), ex⟩ := q
      show @Ws _ ⟨nx, rt, bk, ct, ex⟩
      cases e1 : mb env1 h1 with
      | nx e2 h2 => rw [e1] at q; exact ih (i + 1) e2 h2 (by omega) hlt q
      | ct e2 h2 => rw [e1] at q; exact ih (i + 1) e2 h2 (by omega) hlt q
      | bk e2 h2 => rw [e1] at q; exact q
      | rt d h2 => rw [e1] at q; exact q
      | exc x ns vs e2 h2 => rw [e1] at q; exact q
      | stuck => rw [e1] at q; exact q
  simpa using go items.length 0 env h (by simp) (Nat.zero_le _) h0
@[simp] theorem ws_for {mi : MI} {env : En} {h : M} : @Ws (mFor mi g mb env h) ⟨nx, rt, bk, ct, ex⟩ = @Wc Itr' (mi env h) ⟨fun it h => @Ws (floop it.chk g mb it.items env h) ⟨nx, rt, bk, ct, ex⟩, fun x ns vs h => ex x ns vs env h⟩ := by
  unfold mFor; rw [ws_of]
/-- a comprehension by what holds ahead of each turn: I i acc h -/
theorem lcloop_inv {Q : D → M → Prop} {X : XP} {env : En} {tt : MT} {me : ME} {l : Nat} {items : List D} {h : M} (I : Nat → List D → M → Prop) (h0 : I 0 [] h) (ck : ∀ i acc h, i ≤ items.length → I i acc h → chk h)
    (step : ∀ i d acc h, items[i]? = some d → I i acc h → @Wc En (g d env h) ⟨fun env2 h => @Wc Bool (tt env2 h) ⟨fun b h => if b = true then @Wc D (me env2 h) ⟨fun y h => h[l]? = some (.lst acc) ∧ acc.length < sizeLine ∧ I (i + 1) (acc ++ [y]) (h.set l (.lst (acc ++ [y]))), noEx⟩ else I (i + 1) acc h, noEx⟩, noEx⟩)
    (fin : ∀ acc h, I items.length acc h → Q (.loc l) h) : @Wc D (lcloopN chk env g tt me l items h) ⟨Q, X⟩ := by
  have go : ∀ (n i : Nat) (acc : List D) (h : M), items.length - i = n → i ≤ items.length → I i acc h → @Wc D (lcloopN chk env g tt me l (items.drop i) h) ⟨Q, X⟩ := by
    intro n
    induction n with
    | zero =>
      intro i acc h e hi p
      have : i = items.length := by omega
      subst this
      simp only [List.drop_length]
      unfold lcloopN
      rw [if_pos (ck _ _ _ (Nat.le_refl _) p)]
      exact fin _ _ p
    | succ n ih =>
      intro i acc h e hi p
      have hlt : i < items.length := by omega
      rw [List.drop_eq_getElem_cons hlt]
      unfold lcloopN
      rw [if_pos (ck _ _ _ hi p)]
      obtain ⟨env2, h2, e1, q1⟩ := Wc.ok_of (step i items[i] acc h (List.getElem?_eq_getElem hlt) p)
      rw [e1]
      simp only [noX_ok, bind_ok]
      obtain ⟨b, h3, e2, q2⟩ := Wc.ok_of q1
      rw [e2]
      simp only [noX_ok, bind_ok]
      cases b with
      | false => exact ih (i + 1) acc h3 (by omega) hlt q2
      | true =>
        simp only [if_true] at q2 ⊢
        obtain ⟨y, h4, e3, q3, q4, q5⟩ := Wc.ok_of q2
        rw [e3]
        simp only [noX_ok, bind_ok, q3]
        rw [if_pos q4]
        exact ih (i + 1) (acc ++ [y]) _ (by omega) hlt q5
  simpa using go items.length 0 [] h (by simp) (Nat.zero_le _) h0
@[simp] theorem wp_lc {Q : D → M → Prop} {X : XP} {env : En} {own : List Nat} {mi : MI} {tt : MT} {me : ME} {h : M} : @Wc D (mLcN own mi g tt me env h) ⟨Q, X⟩ = @Wc Itr' (mi env h) ⟨fun it h1 => @Wc D (lcloopN it.chk (wipeE env own) g tt me h1.length it.items (h1 ++ [.lst []])) ⟨Q, X⟩, X⟩ := by
  unfold mLcN; rw [wp_bind]
theorem wloop_inv {c : MT} {n : Nat} {env : En} {h : M} (I : En → M → Prop) (μ : En → M → Nat) (h0 : I env h) (hn : μ env h < n)
    (step : ∀ env h, I env h → @Wc Bool (c env h) ⟨fun t h1 => if t = true then @Ws (mb env h1) ⟨fun e m => I e m ∧ μ e m < μ env h, rt, nx, fun e m => I e m ∧ μ e m < μ env h, ex⟩ else nx env h1, fun x ns vs h => ex x ns vs env h⟩) : @Ws (wloop c mb n env h) ⟨nx, rt, bk, ct, ex⟩ := by
  induction n generalizing env h with
  | zero => omega
  | succ n ih =>
    unfold wloop
    rw [ws_of]
    refine Wc.mono (step env h h0) (fun t h1 q => ?_) fun _ _ _ _ z => z
    cases t with
    | false => exact q
    | true =>
      have q : @Ws (mb env h1) ⟨fun e m => I e m ∧ μ e m < μ env h, rt, nx, fun e m => I e m ∧ μ e m < μ env h, ex⟩ := q
      show @Ws _ ⟨nx, rt, bk, ct, ex⟩
      simp only [if_true] at q ⊢
      cases e1 : mb env h1 with
      | nx e2 h2 => rw [e1] at q; exact ih q.1 (by have := q.2; omega)
      | ct e2 h2 => rw [e1] at q; exact ih q.1 (by have := q.2; omega)
      | bk e2 h2 => rw [e1] at q; exact q
      | rt d h2 => rw [e1] at q; exact q
      | exc x ns vs e2 h2 => rw [e1] at q; exact q
      | stuck => rw [e1] at q; exact q
@[simp] theorem ws_while {c : MT} {n : Nat} {env : En} {h : M} : @Ws (mWhile n c mb env h) ⟨nx, rt, bk, ct, ex⟩ = @Ws (wloop c mb n env h) ⟨nx, rt, bk, ct, ex⟩ := rfl
end
/-! ### heaps -/
/-- what stood in the places but those of S stands there yet -/
structure Fr (S : List Nat) (h h' : M) : Prop where
  len : h.length ≤ h'.length
  at_ : ∀ l o, l ∉ S → h[l]? = some o → h'[l]? = some o
theorem Fr.refl (S : List Nat) (h : M) : Fr S h h := ⟨Nat.le_refl _, fun _ _ _ e => e⟩
theorem Fr.trans {S : List Nat} {h h1 h2 : M} (a : Fr S h h1) (b : Fr S h1 h2) : Fr S h h2 := ⟨Nat.le_trans a.len b.len, fun l o n e => b.at_ l o n (a.at_ l o n e)⟩
theorem Fr.push {S : List Nat} {h : M} (o : O) : Fr S h (h ++ [o]) := ⟨by simp, fun l u _ e => by
  have hl : l < h.length := (List.getElem?_eq_some_iff.mp e).1
  rw [List.getElem?_append_left hl]; exact e⟩
theorem Fr.set {S : List Nat} {h : M} {l : Nat} (o : O) (hl : l ∈ S) : Fr S h (h.set l o) := ⟨by simp, fun k u n e => by
  rw [List.getElem?_set_ne (fun z => n (by rw [← z]; exact hl))]; exact e⟩
theorem Fr.mono {S S' : List Nat} {h h' : M} (a : Fr S h h') (s : ∀ l ∈ S, l ∈ S') : Fr S' h h' := ⟨a.len, fun l o n e => a.at_ l o (fun z => n (s l z)) e⟩
/-- new places do not count -/
theorem Fr.cut {S S' : List Nat} {h h' : M} (a : Fr S h h') (s : ∀ l ∈ S, l < h.length → l ∈ S') : Fr S' h h' := ⟨a.len, fun l o n e => a.at_ l o (fun z => n (s l z (List.getElem?_eq_some_iff.mp e).1)) e⟩
theorem at_lt {h : M} {l : Nat} {o : O} (e : h[l]? = some o) : l < h.length := (List.getElem?_eq_some_iff.mp e).1
theorem at_push {h : M} {o : O} : (h ++ [o])[h.length]? = some o := by simp
theorem at_app {h : M} {l : Nat} {o u : O} (e : h[l]? = some o) : (h ++ [u])[l]? = some o := by rw [List.getElem?_append_left (at_lt e)]; exact e
theorem at_set {h : M} {l : Nat} {o u : O} (e : h[l]? = some o) : (h.set l u)[l]? = some u := List.getElem?_set_self (at_lt e)
theorem at_setN {h : M} {l k : Nat} {o u : O} (e : h[l]? = some o) (n : k ≠ l) : (h.set k u)[l]? = some o := by rw [List.getElem?_set_ne n]; exact e
end LF
set_option Elab.async false
set_option linter.all false
set_option maxRecDepth 100000
set_option maxHeartbeats 4000000
/-! LFN: heaps, equality, lists of integers. -/
namespace LF
open PySem PySem.Spec L2
open PyProof.Rows hiding St
/-! ### places -/
section
variable {h os : M} {o u : O} {l k : Nat}
@[simp] theorem cat_at0 : (h ++ os)[h.length]? = os[0]? := by simp [List.getElem?_append_right]
@[simp] theorem cat_at : (h ++ os)[h.length + k]? = os[k]? := by rw [List.getElem?_append_right (by omega)]; congr 1; omega
@[simp] theorem cat_set0 : (h ++ os).set h.length o = h ++ os.set 0 o := by simp [List.set_append]
@[simp] theorem cat_set : (h ++ os).set (h.length + k) o = h ++ os.set k o := by
  rw [List.set_append, if_neg (by omega)]; congr 2; omega
theorem cat_old (hl : l < h.length) : (h ++ os)[l]? = h[l]? := List.getElem?_append_left hl
theorem cat_setO (hl : l < h.length) : (h ++ os).set l o = h.set l o ++ os := by rw [List.set_append, if_pos hl]
theorem Fr.cat {S : List Nat} (os : M) : Fr S h (h ++ os) := ⟨by simp, fun l u _ e => by rw [cat_old (at_lt e)]; exact e⟩
theorem Fr.at {S : List Nat} {h h' : M} {l : Nat} {o : O} (F : Fr S h h') (e : h[l]? = some o) (n : l ∉ S := by simp) : h'[l]? = some o := F.at_ l o n e
theorem Fr.nil {S : List Nat} {h h' : M} (F : Fr [] h h') : Fr S h h' := F.mono (by simp)
end
/-! ### plain values -/
def Pl (h : M) (n : Nat) (d : D) (p : PyData) : Prop := toPy h n d = some p ∧ p.canLay0 = true ∧ p.depth ≤ n
def PlA (h : M) (n : Nat) (xs : List D) (ps : List PyData) : Prop := xs.mapM (toPy h n) = some ps ∧ PyData.canLayAll0 ps = true ∧ PyData.depthAll ps ≤ n
section
variable {h : M} {n : Nat}
theorem pl_int (i : Int) : Pl h n (.int i) (.int i) := ⟨by cases n <;> rfl, rfl, Nat.zero_le _⟩
theorem pl_bl (i : Bool) : Pl h n (.bl i) (.bool i) := ⟨by cases n <;> rfl, rfl, Nat.zero_le _⟩
theorem pl_non : Pl h n .non .none := ⟨by cases n <;> rfl, rfl, Nat.zero_le _⟩
theorem pl_str {x : Str} (hx : PyData.strOk x = true) : Pl h n (.str x) (.str x) := ⟨by cases n <;> rfl, by simpa [PyData.canLay0] using hx, Nat.zero_le _⟩
theorem pla_nil : PlA h n [] [] := ⟨rfl, rfl, Nat.zero_le _⟩
theorem pla_cons {x : D} {p : PyData} {xs : List D} {ps : List PyData} (a : Pl h n x p) (b : PlA h n xs ps) : PlA h n (x :: xs) (p :: ps) :=
  ⟨by simp [List.mapM_cons, a.1, b.1], by simp [PyData.canLayAll0, a.2.1, b.2.1], by simp only [PyData.depthAll]; exact Nat.max_le.mpr ⟨a.2.2, b.2.2⟩⟩
theorem pla_map {α : Type} {f : α → D} {g : α → PyData} {xs : List α} (e : ∀ a ∈ xs, Pl h n (f a) (g a)) : PlA h n (xs.map f) (xs.map g) := by
  induction xs with
  | nil => exact pla_nil
  | cons x xs ih => exact pla_cons (e x (by simp)) (ih fun a m => e a (by simp [m]))
theorem pl_tup {xs : List D} {ps : List PyData} (a : PlA h n xs ps) : Pl h (n + 1) (.tup xs) (.tuple ps) :=
  ⟨by simp [toPy, a.1], by simpa [PyData.canLay0] using a.2.1, by simp only [PyData.depth]; have := a.2.2; omega⟩
theorem pl_ct {xs : List D} {ps : List PyData} (a : PlA h n xs ps) : Pl h (n + 1) (.ct xs) (.tuple ps) :=
  ⟨by simp [toPy, a.1], by simpa [PyData.canLay0] using a.2.1, by simp only [PyData.depth]; have := a.2.2; omega⟩
theorem pl_cl {xs : List D} {ps : List PyData} (a : PlA h n xs ps) : Pl h (n + 1) (.cl xs) (.list ps) :=
  ⟨by simp [toPy, a.1], by simpa [PyData.canLay0] using a.2.1, by simp only [PyData.depth]; have := a.2.2; omega⟩
theorem pl_loc {l : Nat} {xs : List D} {ps : List PyData} (e : h[l]? = some (.lst xs)) (a : PlA h n xs ps) : Pl h (n + 1) (.loc l) (.list ps) :=
  ⟨by simp [toPy, e, a.1], by simpa [PyData.canLay0] using a.2.1, by simp only [PyData.depth]; have := a.2.2; omega⟩
theorem pla_ints {xs : List Int} : PlA h n (xs.map .int) (xs.map .int) := pla_map fun a _ => pl_int a
theorem pl_shaped {d : D} {p : PyData} (hn : n ≤ 64) (a : Pl h n d p) : SeqAt.shaped p = true := by
  unfold SeqAt.shaped; rw [a.2.1]; simpa using Nat.le_trans a.2.2 hn
theorem eqD_pl {x y : D} {p q : PyData} (a : Pl h 50 x p) (b : Pl h 50 y q) (s : scalD x y = none) : eqD x y h = some (PyData.eqv p q) := by
  unfold eqD; rw [s]; simp only [a.1, b.1, pl_shaped (by decide) a, pl_shaped (by decide) b, and_self, if_true]
theorem eqD_same {x y : D} {p : PyData} (a : Pl h 50 x p) (b : Pl h 50 y p) : eqD x y h = some true := by
  cases e : scalD x y with
  | none => rw [eqD_pl a b e, SeqAt.eqv_refl p a.2.1]
  | some c =>
    have h1 := a.1
    have h2 := b.1
    unfold eqD; rw [e]
    cases x <;> cases y <;> simp only [scalD, reduceCtorEq, Option.some.injEq] at e <;> simp only [toPy, Option.some.injEq, reduceCtorEq] at h1 h2 <;> (try subst h1) <;> simp_all
theorem fEq_same {x y : D} {p : PyData} (a : Pl h 50 x p) (b : Pl h 50 y p) : fEq x y h = .ok (.bl true) h := by simp only [fEq, eqD_same a b]
theorem fNe_same {x y : D} {p : PyData} (a : Pl h 50 x p) (b : Pl h 50 y p) : fNe x y h = .ok (.bl false) h := by simp only [fNe, eqD_same a b]; rfl
theorem fEq_ints {a b : Nat} {xs : List Int} (e1 : h[a]? = some (.lst (xs.map .int))) (e2 : h[b]? = some (.lst (xs.map .int))) : fEq (.loc a) (.loc b) h = .ok (.bl true) h := fEq_same (pl_loc e1 pla_ints) (pl_loc e2 pla_ints)
theorem fNe_ints {a b : Nat} {xs : List Int} (e1 : h[a]? = some (.lst (xs.map .int))) (e2 : h[b]? = some (.lst (xs.map .int))) : fNe (.loc a) (.loc b) h = .ok (.bl false) h := fNe_same (pl_loc e1 pla_ints) (pl_loc e2 pla_ints)
end
/-! ### built-ins on lists -/
section
variable {h : M} {l k : Nat} {xs ys : List D}
@[simp] theorem v_Lst {ds : List D} : fLst ds h = if ds.length ≤ sizeLine then .ok (.loc h.length) (h ++ [.lst ds]) else .stuck := (rfl)
@[simp] theorem v_Tup {ds : List D} : fTup ds h = if ds.length ≤ sizeLine then .ok (.tup ds) h else .stuck := (rfl)
/-- the list at a place -/
def lsA (h : M) (l : Nat) : Option (List D) := match h[l]? with | some (.lst xs) => some xs | _ => none
theorem lsA_of (e : h[l]? = some (.lst xs)) : lsA h l = some xs := by simp [lsA, e]
theorem of_lsA (e : lsA h l = some xs) : h[l]? = some (.lst xs) := by
  simp only [lsA] at e
  split at e
  · rename_i e2; cases e; exact e2
  · cases e
@[simp] theorem v_list : fList [.loc l] h = match h[l]? with | some (.lst xs) => .ok (.loc h.length) (h ++ [.lst xs]) | _ => .stuck := by
  simp only [fList, seqOf, tupOf, lstOf]; split <;> rename_i e <;> (split at e <;> simp_all)
@[simp] theorem v_tuple : fTuple [.loc l] h = match h[l]? with | some (.lst xs) => .ok (.tup xs) h | _ => .stuck := by
  simp only [fTuple, lstOf]; split <;> rename_i e <;> (split at e <;> simp_all)
@[simp] theorem v_len : fLen [.loc l] h = match h[l]? with | some (.lst xs) => .ok (.int xs.length) h | some (.dK kvs) => .ok (.int kvs.length) h | _ => .stuck := by
  simp only [fLen, lenD]; cases h[l]? with
  | none => rfl
  | some o => cases o <;> rfl
@[simp] theorem v_slL {lo hi : Option Int} : fSl (.loc l) lo hi h = match h[l]? with | some (.lst xs) => .ok (.loc h.length) (h ++ [.lst (cutD xs lo hi)]) | _ => .stuck := by
  simp only [fSl, lstOf]; cases h[l]? with
  | none => rfl
  | some o => cases o <;> rfl
@[simp] theorem v_slC {lo hi : Option Int} : fSl (.cl xs) lo hi h = .ok (.loc h.length) (h ++ [.lst (cutD xs lo hi)]) := by simp [fSl, lstOf]
@[simp] theorem v_lenC : fLen [.cl xs] h = .ok (.int xs.length) h := by simp [fLen, lenD]
@[simp] theorem v_lenT : fLen [.tup xs] h = .ok (.int xs.length) h := by simp [fLen, lenD]
@[simp] theorem v_isTypL : isTyp h "list" (.loc l) = match h[l]? with | some (.lst xs) => true | _ => false := by
  simp only [isTyp]; cases h[l]? with
  | none => rfl
  | some o => cases o <;> rfl
@[simp] theorem v_truI {i : Int} : fTru (.int i) h = .ok (i != 0) h := (rfl)
@[simp] theorem v_truL : fTru (.loc l) h = match h[l]? with | some (.lst xs) => .ok (!xs.isEmpty) h | some (.dK xs) => .ok (!xs.isEmpty) h | _ => .stuck := by
  simp only [fTru, truD]; cases h[l]? with
  | none => rfl
  | some o => cases o <;> rfl
@[simp] theorem v_isLL : fIsI [.loc l, .ty "list"] h = match h[l]? with | some (.lst xs) => .ok (.bl true) h | some (.dK _) => .ok (.bl false) h | some (.dT _) => .ok (.bl false) h | _ => .stuck := by
  simp only [fIsI, tyD]; cases h[l]? with
  | none => rfl
  | some o => cases o <;> simp [kinds, isTy]
@[simp] theorem v_isII {i : Int} : fIsI [.int i, .ty "int"] h = .ok (.bl true) h := by simp [fIsI, tyD, kinds, isTy]
@[simp] theorem v_isIB {i : Int} : fIsI [.int i, .ty "bool"] h = .ok (.bl false) h := by simp [fIsI, tyD, kinds, isTy]
@[simp] theorem v_appL {d : D} : fAppend (.loc l) [d] h = match h[l]? with | some (.lst xs) => if xs.length < sizeLine then .ok .non (h.set l (.lst (xs ++ [d]))) else .stuck | _ => .stuck := (rfl)
@[simp] theorem v_extL : fExtend (.loc l) [.loc k] h = match h[l]?, h[k]? with | some (.lst xs), some (.lst ys) => if xs.length + ys.length ≤ sizeLine then .ok .non (h.set l (.lst (xs ++ ys))) else .stuck | _, _ => .stuck := by
  simp only [fExtend, tupOf]; cases h[l]? with
  | none => rfl
  | some o => cases o <;> (try rfl); cases h[k]? with
    | none => rfl
    | some o => cases o <;> rfl
@[simp] theorem v_extT : fExtend (.loc l) [.tup ys] h = match h[l]? with | some (.lst xs) => if xs.length + ys.length ≤ sizeLine then .ok .non (h.set l (.lst (xs ++ ys))) else .stuck | _ => .stuck := (rfl)
@[simp] theorem v_addL : fAdd (.loc l) (.loc k) h = match h[l]?, h[k]? with | some (.lst xs), some (.lst ys) => if xs.length + ys.length ≤ sizeLine then .ok (.loc h.length) (h ++ [.lst (xs ++ ys)]) else .stuck | _, _ => .stuck := (rfl)
@[simp] theorem v_mulL {i : Int} : fMul (.loc l) (.int i) h = match h[l]? with | some (.lst xs) => if -(2 ^ 63) ≤ i ∧ i < 2 ^ 63 ∧ xs.length * i.toNat ≤ sizeLine then .ok (.loc h.length) (h ++ [.lst (List.replicate i.toNat xs).flatten]) else .stuck | _ => .stuck := (rfl)
@[simp] theorem v_itL : itOf (.loc l) h = match h[l]? with | some (.lst xs) => .ok ⟨xs, fun h' => lstOf h' (.loc l) = some xs⟩ h | _ => .stuck := by
  simp only [itOf, tupOf, lstOf]; cases h[l]? with
  | none => rfl
  | some o => cases o <;> rfl
@[simp] theorem v_itT : itOf (.tup xs) h = .ok ⟨xs, fun _ => True⟩ h := (rfl)
theorem lstOf_at (e : h[l]? = some (.lst xs)) : lstOf h (.loc l) = some xs := by simp [lstOf, e]
theorem at_lstOf (e : lstOf h (.loc l) = some xs) : h[l]? = some (.lst xs) := by
  simp only [lstOf] at e
  split at e
  · rename_i e2; cases e; exact e2
  · cases e
@[simp] theorem v_rng1 {i : Int} : fRng [.int i] h = if -(2 ^ 62) ≤ i ∧ i < 2 ^ 62 then .ok ⟨rgItems 0 i.toNat, fun _ => True⟩ h else .stuck := (rfl)
@[simp] theorem v_rng2 {i j : Int} : fRng [.int i, .int j] h = if -(2 ^ 62) ≤ i ∧ i < 2 ^ 62 ∧ -(2 ^ 62) ≤ j ∧ j < 2 ^ 62 then .ok ⟨rgItems i (j - i).toNat, fun _ => True⟩ h else .stuck := (rfl)
@[simp] theorem rg_len {lo : Int} {n : Nat} : (rgItems lo n).length = n := by simp [rgItems]
theorem rg_at {lo : Int} {n i : Nat} {d : D} (e : (rgItems lo n)[i]? = some d) : i < n ∧ d = .int (lo + i) := by
  simp only [rgItems, List.getElem?_map, Option.map_eq_some_iff] at e
  obtain ⟨j, ej, rfl⟩ := e
  have hi : i < n := by have := (List.getElem?_eq_some_iff.mp ej).1; simpa using this
  rw [List.getElem?_range hi] at ej
  exact ⟨hi, by rw [Option.some.inj ej]⟩
theorem sIx_of {n d : Nat} {v : Int} (h0 : 0 ≤ v) : HT.sIx n d (some v) = min v.toNat n := by
  show (if v < 0 then (v + (n : Int)).toNat else min v.toNat n) = min v.toNat n
  rw [if_neg (by omega)]
theorem cutD_le {i j : Int} (h0 : 0 ≤ i) (h1 : 0 ≤ j) (h2 : i ≤ xs.length) (h3 : j ≤ xs.length) : cutD xs (some i) (some j) = (xs.drop i.toNat).take (j.toNat - i.toNat) := by
  unfold cutD; rw [sIx_of h0, sIx_of h1, Nat.min_eq_left (by omega), Nat.min_eq_left (by omega)]
theorem rep1 {α : Type} (n : Nat) (a : α) : (List.replicate n [a]).flatten = List.replicate n a := by
  induction n with
  | zero => rfl
  | succ n ih => rw [List.replicate_succ, List.flatten_cons, ih]; rfl
end
/-! ### targets -/
section
variable {QE : En → M → Prop} {X : XP} {env : En} {h : M} {g : MG} {gs : MGs} {d : D} {ds xs : List D} {n : Nat}
@[simp] theorem wp_noX {α : Type} {r : Res α} {Q : α → M → Prop} : @Wc α (noX r) ⟨Q, X⟩ = @Wc α r ⟨Q, noEx⟩ := by cases r <;> rfl
@[simp] theorem wp_gTp : @Wc En (gTp n gs (.tup xs) env h) ⟨QE, X⟩ = (xs.length = n ∧ @Wc En (gs xs env h) ⟨QE, X⟩) := by
  simp only [gTp, tupOf_tup, wp_guard]
@[simp] theorem wp_gTpC : @Wc En (gTp n gs (.ct xs) env h) ⟨QE, X⟩ = (xs.length = n ∧ @Wc En (gs xs env h) ⟨QE, X⟩) := by
  simp only [gTp, tupOf_ct, wp_guard]
@[simp] theorem wp_gCons : @Wc En (gCons' g gs (d :: ds) env h) ⟨QE, X⟩ = @Wc En (g d env h) ⟨fun env h => @Wc En (gs ds env h) ⟨QE, noEx⟩, X⟩ := by
  simp only [gCons', wp_bind]; exact wc_eq fun _ _ => by rw [wp_noX]
@[simp] theorem wp_gNil : @Wc En (gNil' [] env h) ⟨QE, X⟩ = QE env h := (rfl)
@[simp] theorem wipeE_nil : wipeE env [] = env := (rfl)
@[simp] theorem wipeE_cons {v : Nat} {vs : List Nat} : wipeE env (v :: vs) = (wipeE env vs).set v .no := (rfl)
end
theorem cutD_mid {pre mid post : List D} {i j : Int} (hi : i = pre.length) (hj : j = pre.length + mid.length) : cutD (pre ++ mid ++ post) (some i) (some j) = mid := by
  rw [cutD_le (by omega) (by omega) (by simp; omega) (by simp; omega)]
  have h1 : i.toNat = pre.length := by omega
  have h2 : j.toNat - i.toNat = mid.length := by omega
  rw [h2, h1]
  simp
/-! ### loops over what a list stands for -/
section
variable {α : Type} {f : α → D} {chk : M → Prop} {g : MG} {mb : MS} {nx : En → M → Prop} {rt : D → M → Prop} {bk ct : En → M → Prop} {ex : Str → List Str → List D → En → M → Prop}
theorem floop_map {xs : List α} {env : En} {h : M} (I : List α → En → M → Prop) (h0 : I [] env h) (ck : ∀ p env h, p <+: xs → I p env h → chk h)
    (step : ∀ p x q env h, xs = p ++ x :: q → I p env h → @Wc En (g (f x) env h) ⟨fun env h => @Ws (mb env h) ⟨I (p ++ [x]), rt, nx, I (p ++ [x]), ex⟩, fun x ns vs h => ex x ns vs env h⟩) (fin : ∀ env h, I xs env h → nx env h) :
    @Ws (floop chk g mb (xs.map f) env h) ⟨nx, rt, bk, ct, ex⟩ := by
  refine floop_inv (fun i => I (xs.take i)) (by simpa using h0) (fun i env h _ p => ck _ _ _ (List.take_prefix _ _) p) (fun i d env h e p => ?_) (fun env h p => fin _ _ (by simpa using p))
  rw [List.getElem?_map, Option.map_eq_some_iff] at e
  obtain ⟨x, ex, rfl⟩ := e
  have hlt : i < xs.length := (List.getElem?_eq_some_iff.mp ex).1
  have hx : xs[i] = x := (List.getElem?_eq_some_iff.mp ex).2
  have e1 : xs = xs.take i ++ x :: xs.drop (i + 1) := by
    conv => lhs; rw [← List.take_append_drop i xs, List.drop_eq_getElem_cons hlt, hx]
  have e2 : xs.take (i + 1) = xs.take i ++ [x] := by rw [List.take_succ, ex]; rfl
  have := step (xs.take i) x (xs.drop (i + 1)) env h e1 p
  rw [← e2] at this
  exact this
theorem lcloop_map {Q : D → M → Prop} {X : XP} {xs : List α} {env : En} {tt : MT} {me : ME} {l : Nat} {h : M} (I : List α → List D → M → Prop) (h0 : I [] [] h) (ck : ∀ p acc h, p <+: xs → I p acc h → chk h)
    (step : ∀ p x q acc h, xs = p ++ x :: q → I p acc h → @Wc En (g (f x) env h) ⟨fun env2 h => @Wc Bool (tt env2 h) ⟨fun b h => if b = true then @Wc D (me env2 h) ⟨fun y h => h[l]? = some (.lst acc) ∧ acc.length < sizeLine ∧ I (p ++ [x]) (acc ++ [y]) (h.set l (.lst (acc ++ [y]))), noEx⟩ else I (p ++ [x]) acc h, noEx⟩, noEx⟩)
    (fin : ∀ acc h, I xs acc h → Q (.loc l) h) : @Wc D (lcloopN chk env g tt me l (xs.map f) h) ⟨Q, X⟩ := by
  refine lcloop_inv (fun i => I (xs.take i)) (by simpa using h0) (fun i acc h _ p => ck _ _ _ (List.take_prefix _ _) p) (fun i d acc h e p => ?_) (fun acc h p => fin _ _ (by simpa using p))
  rw [List.getElem?_map, Option.map_eq_some_iff] at e
  obtain ⟨x, ex, rfl⟩ := e
  have hlt : i < xs.length := (List.getElem?_eq_some_iff.mp ex).1
  have hx : xs[i] = x := (List.getElem?_eq_some_iff.mp ex).2
  have e1 : xs = xs.take i ++ x :: xs.drop (i + 1) := by
    conv => lhs; rw [← List.take_append_drop i xs, List.drop_eq_getElem_cons hlt, hx]
  have e2 : xs.take (i + 1) = xs.take i ++ [x] := by rw [List.take_succ, ex]; rfl
  have := step (xs.take i) x (xs.drop (i + 1)) acc h e1 p
  rw [← e2] at this
  exact this
end
end LF
set_option Elab.async false
set_option linter.all false
set_option maxRecDepth 100000
set_option maxHeartbeats 4000000
/-! LFS: the logic of texts, of raise and try. -/
namespace LF
open PySem PySem.Spec L2
open PyProof.Rows hiding St
/-- a text by its signs -/
def T (l : List Nat) : Str := ⟨l.toArray⟩
theorem T_S (l : List Nat) : T l = SX.S l := rfl
@[simp] theorem T_inj {a b : List Nat} : (T a = T b) = (a = b) := propext ⟨fun h => congrArg (fun x : Str => x.cps.toList) h, fun h => by rw [h]⟩
@[simp] theorem T_len (a : List Nat) : (T a).length = a.length := SX.S_len a
@[simp] theorem T_cat (a b : List Nat) : T a ++ T b = T (a ++ b) := SX.S_cat a b
@[simp] theorem T_cps (a : List Nat) : (T a).cps.toList = a := by simp [T]
theorem T_of (x : Str) : T x.cps.toList = x := SX.S_tl x
section
variable {Q : D → M → Prop} {QE : En → M → Prop} {X : XP} {env : En} {h : M} {nx : En → M → Prop} {rt : D → M → Prop} {bk ct : En → M → Prop} {ex : Str → List Str → List D → En → M → Prop} {a b l : List Nat} {i j : Int} {c : Nat}
@[simp] theorem v_ixTx : fIx (.str (T l)) (.int i) h = if l.length ≤ sizeLine then match atI l i with | some c => .ok (.str (T [c])) h | none => .stuck else .stuck := by
  simp only [fIx, T_len, T_cps]; rfl
@[simp] theorem v_lenTx : fLen [.str (T l)] h = if l.length ≤ sizeLine then .ok (.int l.length) h else .stuck := by
  simp only [fLen, lenD, T_len]; split <;> rename_i e <;> split at e <;> simp_all
@[simp] theorem v_addTx : fAdd (.str (T a)) (.str (T b)) h = if a.length + b.length ≤ sizeLine then .ok (.str (T (a ++ b))) h else .stuck := by
  simp only [fAdd, T_len, T_cat]
def cutN (l : List Nat) (lo hi : Option Int) : List Nat := (l.drop (HT.sIx l.length 0 lo)).take (HT.sIx l.length l.length hi - HT.sIx l.length 0 lo)
@[simp] theorem v_slTx {lo hi : Option Int} : fSl (.str (T l)) lo hi h = if l.length ≤ sizeLine then .ok (.str (T (cutN l lo hi))) h else .stuck := by
  simp only [fSl, T_len, cutS, T_cps]; rfl
theorem cutN_to (h0 : 0 ≤ i) : cutN l none (some i) = l.take i.toNat := by
  unfold cutN
  rw [show HT.sIx l.length 0 none = 0 from rfl, sIx_of h0, Nat.sub_zero, List.drop_zero]
  by_cases hl : i.toNat ≤ l.length
  · rw [Nat.min_eq_left hl]
  · rw [Nat.min_eq_right (by omega), List.take_of_length_le (Nat.le_refl _), List.take_of_length_le (by omega)]
theorem cutN_from (h0 : 0 ≤ i) : cutN l (some i) none = l.drop i.toNat := by
  unfold cutN
  rw [show HT.sIx l.length l.length none = l.length from rfl, sIx_of h0]
  by_cases hl : i.toNat ≤ l.length
  · rw [Nat.min_eq_left hl, List.take_of_length_le (by simp)]
  · rw [Nat.min_eq_right (by omega)]
    rw [List.drop_eq_nil_of_le (Nat.le_refl _), List.drop_eq_nil_of_le (by omega)]; simp
@[simp] theorem v_itTx : itOf (.str (T l)) h = .ok ⟨l.map fun c => .str (T [c]), fun _ => True⟩ h := by
  show Res.ok (Itr'.mk _ _) h = _
  rw [T_cps]; rfl
@[simp] theorem v_sltI : fSLt (.int i) (.int j) h = .ok (.bl (decide (i < j))) h := (rfl)
@[simp] theorem v_sltT : fSLt (.str (T a)) (.str (T b)) h = .ok (.bl (decide (a < b))) h := by
  show Res.ok (D.bl (decide ((T a).cps.toList < (T b).cps.toList))) h = _
  rw [T_cps, T_cps]
@[simp] theorem v_eqTx : fEq (.str (T a)) (.str (T b)) h = .ok (.bl (decide (a = b))) h := by
  rw [v_eqS]; simp only [T_inj]
@[simp] theorem v_neTx : fNe (.str (T a)) (.str (T b)) h = .ok (.bl (!decide (a = b))) h := by
  rw [v_neS]; simp only [T_inj]
@[simp] theorem v_eqB {x y : Bool} : fEq (.bl x) (.bl y) h = .ok (.bl (decide (x = y))) h := (rfl)
@[simp] theorem v_neB {x y : Bool} : fNe (.bl x) (.bl y) h = .ok (.bl (!decide (x = y))) h := (rfl)
theorem inD_one : inD h (.str (T [c])) (.str (T l)) = some (decide (c ∈ l)) := by
  show some (!(Builtin.Str.occurrences (T l) (T [c]) 0 (T l).length 1).isEmpty) = _
  rw [show (!(Builtin.Str.occurrences (T l) (T [c]) 0 (T l).length 1).isEmpty) = decide (c ∈ l) from SX.in_one l c]
@[simp] theorem v_inTx : fIn (.str (T [c])) (.str (T l)) h = .ok (.bl (decide (c ∈ l))) h := by
  show (match inD h (.str (T [c])) (.str (T l)) with | some b => Res.ok (D.bl (if false = true then !b else b)) h | none => .stuck) = _
  rw [inD_one]; rfl
@[simp] theorem v_ninTx : fNotIn (.str (T [c])) (.str (T l)) h = .ok (.bl (!decide (c ∈ l))) h := by
  show (match inD h (.str (T [c])) (.str (T l)) with | some b => Res.ok (D.bl (if true = true then !b else b)) h | none => .stuck) = _
  rw [inD_one]; rfl
@[simp] theorem v_mulXI {y : D} : fMulX (.int i) y h = fMul (.int i) y h := (rfl)
@[simp] theorem v_mulXL {k : Nat} {y : D} : fMulX (.loc k) y h = fMul (.loc k) y h := (rfl)
theorem foldl_app (n : Nat) (l : List Nat) (acc : Array Nat) : ((List.replicate n l.toArray).foldl (· ++ ·) acc).toList = acc.toList ++ (List.replicate n l).flatten := by
  induction n generalizing acc with
  | zero => simp
  | succ n ih => rw [List.replicate_succ, List.foldl_cons, ih, List.replicate_succ, List.flatten_cons]; simp
theorem mul_T (h0 : 0 ≤ i) : Txt.mul (T l) i = T (List.replicate i.toNat l).flatten := by
  unfold Txt.mul
  split
  · have : i = 0 := by omega
    subst this; rfl
  · split
    · rename_i h1 h2
      simp only [Bool.or_eq_true, beq_iff_eq, T_len] at h2
      rcases h2 with h2 | h2
      · subst h2; simp
      · have : l = [] := List.eq_nil_of_length_eq_zero h2
        subst this; simp
    · apply congrArg Str.mk
      apply Array.ext'
      have := foldl_app i.toNat l #[]
      simpa [T] using this
theorem mulOk {x : Str} (h0 : x.length ≤ 4096) (h1 : -4096 ≤ i) (h2 : i ≤ 4096) : MulOk x i := by
  refine ⟨by simp; omega, fun h3 _ => ?_, fun h3 _ => ?_⟩
  · have h4 : (2 ^ 63 - 1) / 4096 ≤ (2 ^ 63 - 1 : Int) / i := Int.le_ediv_of_mul_le (by omega) (by
      have : ((2 ^ 63 - 1) / 4096 : Int) * i ≤ ((2 ^ 63 - 1) / 4096) * 4096 := Int.mul_le_mul_of_nonneg_left h2 (by decide)
      exact Int.le_trans this (by decide))
    have h5 : ((2 ^ 63 - 1) / 4096 : Int) = 2251799813685247 := by decide
    omega
  · have : x.length * i.toNat ≤ 4096 * 4096 := Nat.mul_le_mul h0 (by omega)
    show decide (_ > _) = false
    exact decide_eq_false (by have h6 : x.length * i.toNat ≤ 16777216 := this; rw [show sizeLine = 16777216 from rfl]; omega)
@[simp] theorem v_mulXT : fMulX (.str (T l)) (.int i) h = if MulOk (T l) i then .ok (.str (Txt.mul (T l) i)) h else .stuck := (rfl)
theorem strsD_map {α : Type} {f : α → List Nat} : ∀ xs : List α, strsD (xs.map fun x => .str (T (f x))) = some (xs.map fun x => T (f x))
  | [] => rfl
  | x :: xs => by simp only [List.map_cons, strsD, strsD_map xs]; rfl
theorem join_T (a : List Nat) (ys : List (List Nat)) : Txt.join (T a) (ys.map T) = T (TL.joinL a ys) := SX.join_S a ys
@[simp] theorem v_rev {k : Nat} : fReverse (.loc k) [] h = match h[k]? with | some (.lst ys) => .ok .non (h.set k (.lst ys.reverse)) | _ => .stuck := (rfl)
@[simp] theorem v_ins {k : Nat} {y : D} : fInsert (.loc k) [.int i, y] h = match h[k]? with | some (.lst ys) => if ys.length < sizeLine ∧ 0 ≤ i ∧ i < 2 ^ 63 then .ok .non (h.set k (.lst (ys.take i.toNat ++ [y] ++ ys.drop i.toNat))) else .stuck | _ => .stuck := (rfl)
/-! ### raise, try -/
@[simp] theorem ws_raise {x : Str} {fs : List Str} {mas : MA} : @Ws (mRaise x fs mas env h) ⟨nx, rt, bk, ct, ex⟩ = @Wc (List D) (mas env h) ⟨fun ds h => ds.length = fs.length ∧ ex x fs.reverse ds.reverse env h, fun x ns vs h => ex x ns vs env h⟩ := by
  unfold mRaise; rw [ws_of]
  exact wc_eq fun ds h => by
    split
    · rename_i e; rw [ws_exc]; simp [e]
    · rename_i e; rw [ws_stuck]; simp [e]
theorem ws_after {r : SR} {i : Nat} : @Ws (afterX i r) ⟨nx, rt, bk, ct, ex⟩ = @Ws r ⟨fun e h => calmE (e.set i .no) = true ∧ nx (e.set i .no) h, rt, fun e h => calmE (e.set i .no) = true ∧ bk (e.set i .no) h, fun e h => calmE (e.set i .no) = true ∧ ct (e.set i .no) h, fun _ _ _ _ _ => False⟩ := by
  cases r with
  | nx e h => simp only [afterX, ws_nx]; split <;> rename_i c <;> simp [c]
  | bk e h => simp only [afterX, ws_bk]; split <;> rename_i c <;> simp [c]
  | ct e h => simp only [afterX, ws_ct]; split <;> rename_i c <;> simp [c]
  | rt d h => rfl
  | exc => rfl
  | stuck => rfl
@[simp] theorem ws_tryAs {tk : List ((Str × Str) × Bool)} {c : Str} {i : Nat} {mb : MS} {ms : Str → List Str → List D → MS} : @Ws (mTryAs tk c i mb ms env h) ⟨nx, rt, bk, ct, ex⟩ =
    @Ws (mb env h) ⟨nx, rt, bk, ct, fun x ns xs e h => match lookT tk (x, c) with
      | some true => @Ws (ms x ns xs (e.set i .ex) h) ⟨fun e h => calmE (e.set i .no) = true ∧ nx (e.set i .no) h, rt, fun e h => calmE (e.set i .no) = true ∧ bk (e.set i .no) h, fun e h => calmE (e.set i .no) = true ∧ ct (e.set i .no) h, fun _ _ _ _ _ => False⟩
      | some false => ex x ns xs e h
      | none => False⟩ := by
  unfold mTryAs
  cases e : mb env h with
  | exc x ns xs e1 h1 =>
    simp only [ws_exc]
    cases lookT tk (x, c) with
    | none => rfl
    | some b => cases b with
      | false => rfl
      | true => exact ws_after
  | _ => rfl
@[simp] theorem wp_isX {nm : List Str} {tk : List ((Str × Str) × Bool)} {tt : List ((Str × String) × Bool)} {x : Str} {i : Nat} {mc : ME} : @Wc D (mIsX nm tk tt x i mc env h) ⟨Q, X⟩ =
    match env[i]? with
    | some .ex => x ∈ nm ∧ @Wc D (mc env h) ⟨fun d h => @Wc D (fIsX tk tt x d h) ⟨Q, X⟩, X⟩
    | _ => False := by
  unfold mIsX
  cases e : env[i]? with
  | none => rfl
  | some s => cases s with
    | ex => show @Wc D (if x ∈ nm then _ else _) ⟨Q, X⟩ = _; rw [wp_guard, wp_bind]
    | _ => rfl
@[simp] theorem v_xf {ft : List (Str × Str)} {x : Str} {ns : List Str} {xs : List D} {i : Nat} {f : Str} : mXf ft x ns xs i f env h = match env[i]? with
  | some .ex => if (x, f) ∈ ft then match lookT (ns.zip xs) f with | some d => .ok d h | none => .stuck else .stuck
  | _ => .stuck := (rfl)
@[simp] theorem wp_chain {f f' : D → D → M → Res D} {ma mb mc : ME} : @Wc D (mChain f f' ma mb mc env h) ⟨Q, X⟩ = @Wc D (ma env h) ⟨fun x h1 => @Wc D (mb env h1) ⟨fun y h2 => @Wc D (f x y h2) ⟨fun z h3 => @Wc Bool (asB z h3) ⟨fun t h3 => if t = true then @Wc D (mc env h3) ⟨fun u h4 => @Wc D (f' y u h4) ⟨Q, X⟩, X⟩ else Q (.bl false) h3, X⟩, X⟩, X⟩, X⟩ := by
  unfold mChain
  rw [wp_bind]; exact wc_eq fun _ _ => by
    rw [wp_bind]; exact wc_eq fun _ _ => by
      rw [wp_bind]; exact wc_eq fun _ _ => by
        rw [wp_bind]; exact wc_eq fun t _ => by cases t <;> simp
/-- what is between two statements -/
theorem Ws.cut {r : SR} (Mid : En → M → Prop) (h1 : @Ws r ⟨Mid, rt, bk, ct, ex⟩) (h2 : ∀ e m, Mid e m → nx e m) : @Ws r ⟨nx, rt, bk, ct, ex⟩ := Ws.mono h1 h2 (fun _ _ z => z) (fun _ _ z => z) (fun _ _ z => z) fun _ _ _ _ _ z => z
end
end LF
set_option Elab.async false
set_option linter.all false
set_option maxRecDepth 100000
set_option maxHeartbeats 4000000
/-! LFD: tables of the written part, zip, enumerate, index. -/
namespace LF
open PySem PySem.Spec L2
open PyProof.Rows hiding St
/-! ### values of the written part -/
mutual
def ckV (K : PySem.W.Frag) : D → Value → Bool
  | .non, .none => true
  | .bl b, .bool c => b == c
  | .int i, .int j _ => decide (i = j)
  | .str x, .str y _ => decide (x = y)
  | .ct xs, .ref a => match K.lookup a with
    | some ⟨.type "tuple", none, .seq its _, _⟩ => decide (its.size ≤ sizeLine) && ckVs K xs its.toList
    | _ => false
  | _, _ => false
def ckVs (K : PySem.W.Frag) : List D → List Value → Bool
  | [], [] => true
  | d :: ds, v :: vs => ckV K d v && ckVs K ds vs
  | _, _ => false
end
section
variable {K : PySem.W.Frag} {mg : Str → Option Value}
mutual
theorem ckV_ok : ∀ (d : D) (u : Value), ckV K d u = true → ∃ v, RelV v u ∧ ∀ ι H, RV ⟨K, mg⟩ ι H d v
  | .non, u, h => by
    cases u <;> simp only [ckV, Bool.false_eq_true] at h
    exact ⟨.non, rfl, fun _ _ => by simp [RV]⟩
  | .bl b, u, h => by
    cases u <;> simp only [ckV, Bool.false_eq_true] at h
    simp only [beq_iff_eq] at h; subst h
    exact ⟨.bl b, rfl, fun _ _ => by simp [RV]⟩
  | .int i, u, h => by
    cases u <;> simp only [ckV, Bool.false_eq_true] at h
    simp only [decide_eq_true_eq] at h; subst h
    exact ⟨.int i, ⟨_, rfl⟩, fun _ _ => by simp [RV]⟩
  | .str x, u, h => by
    cases u <;> simp only [ckV, Bool.false_eq_true] at h
    simp only [decide_eq_true_eq] at h; subst h
    exact ⟨.str x, ⟨_, rfl⟩, fun _ _ => by simp [RV]⟩
  | .ct xs, u, h => by
    cases u <;> simp only [ckV, Bool.false_eq_true] at h
    rename_i a
    split at h
    · rename_i its n sl e
      simp only [Bool.and_eq_true, decide_eq_true_eq] at h
      obtain ⟨vs, r, k⟩ := ckVs_ok xs its.toList h.2
      refine ⟨.ref a, rfl, fun ι H => ?_⟩
      simp only [RV]
      exact ⟨a, vs, rfl, ⟨_, its, n, e, rfl, rfl, h.1, r⟩, k ι H⟩
    · cases h
  | .tup _, u, h => by cases u <;> simp only [ckV, Bool.false_eq_true] at h
  | .cl _, u, h => by cases u <;> simp only [ckV, Bool.false_eq_true] at h
  | .loc _, u, h => by cases u <;> simp only [ckV, Bool.false_eq_true] at h
  | .ty _, u, h => by cases u <;> simp only [ckV, Bool.false_eq_true] at h
  | .cls _, u, h => by cases u <;> simp only [ckV, Bool.false_eq_true] at h
theorem ckVs_ok : ∀ (ds : List D) (us : List Value), ckVs K ds us = true → ∃ vs, Vals vs us ∧ ∀ ι H, RVs ⟨K, mg⟩ ι H ds vs
  | [], [], _ => ⟨[], .nil, fun _ _ => by simp [RVs]⟩
  | d :: ds, u :: us, h => by
    simp only [ckVs, Bool.and_eq_true] at h
    obtain ⟨v, r, k⟩ := ckV_ok d u h.1
    obtain ⟨vs, rs, ks⟩ := ckVs_ok ds us h.2
    exact ⟨v :: vs, .cons r rs, fun ι H => RVs.cons (k ι H) (ks ι H)⟩
  | [], _ :: _, h => by simp [ckVs] at h
  | _ :: _, [], h => by simp [ckVs] at h
end
/-- a tuple of the written part under a name -/
structure GCT (K : PySem.W.Frag) (mg : Str → Option Value) (x : Str) (xs : List D) : Prop where
  ex : ∃ p, mg x = some (.ref p) ∧ (∃ o, K.lookup p = some o ∧ o.cls = .type "tuple" ∧ o.dict = none) ∧ ∀ ι H, RV ⟨K, mg⟩ ι H (.ct xs) (.ref p)
theorem gct {x : Str} {p : Addr} {xs : List D} (hm : mg x = some (.ref p)) (h : ckV K (.ct xs) (.ref p) = true) : GCT K mg x xs := by
  obtain ⟨v, r, k⟩ := ckV_ok (mg := mg) _ _ h
  have z := k [] (fun _ => none)
  simp only [RV] at z
  obtain ⟨a, vs, rfl, _⟩ := z
  have r' : Value.ref p = Value.ref a := r
  cases r'
  refine ⟨p, hm, ?_, k⟩
  simp only [ckV] at h
  split at h
  · rename_i e
    exact ⟨_, e, rfl, rfl⟩
  · cases h
/-! ### dicts of the written part -/
def ckE (K : PySem.W.Frag) : List DictEntry → List (Str × D) → Bool
  | [], [] => true
  | e :: es, (k, d) :: kvs => e.key.isStr k && ckV K d e.val && ckE K es kvs
  | _, _ => false
def KLk (K : PySem.W.Frag) (w : World) (a : Addr) (z : Str) (r : Option Value) : Prop :=
  ∃ es n, K.lookup a = some ⟨.type "dict", none, .dict es n, #[]⟩ ∧ PySem.W.KeysLit w.params es.toList ∧ findBy Value.isStrOf es z = r
structure CDT (K : PySem.W.Frag) (mg : Str → Option Value) (w : World) (x : Str) (kvs : List (Str × D)) : Prop where
  ex : ∃ p, mg x = some (.ref p) ∧ (p == sysModules) = false ∧ ∀ z, (∀ d, valD kvs z = some d → ∃ u v, KLk K w p z (some u) ∧ L2.RelV v u ∧ ∀ ι H, RV ⟨K, mg⟩ ι H d v) ∧ (valD kvs z = none → KLk K w p z none)
theorem isStr_key {v : Value} {k : Str} (h : v.isStr k = true) : ∃ t, v = .str k t := by
  cases v <;> simp [Value.isStr] at h
  subst h; exact ⟨_, rfl⟩
theorem ckE_ok (z : Str) : ∀ (es : List DictEntry) (kvs : List (Str × D)), ckE K es kvs = true →
    (∀ d, valD kvs z = some d → ∃ e, es.find? (fun e => Value.isStrOf z e.key) = some e ∧ ckV K d e.val = true) ∧ (valD kvs z = none → es.find? (fun e => Value.isStrOf z e.key) = none)
  | [], [], _ => ⟨fun d e => by simp [valD] at e, fun _ => rfl⟩
  | e :: es, (k, d) :: kvs, h => by
    simp only [ckE, Bool.and_eq_true] at h
    have ih := ckE_ok z es kvs h.2
    by_cases hk : k = z
    · subst hk
      have e1 : valD ((k, d) :: kvs) k = some d := by simp [valD, List.find?_cons]
      have e2 : Value.isStrOf k e.key = true := by rw [← PySem.W.isStr_of]; exact h.1.1
      rw [e1]
      refine ⟨fun d' q => ?_, fun q => by cases q⟩
      cases q
      exact ⟨e, by rw [List.find?_cons, e2], h.1.2⟩
    · have e1 : valD ((k, d) :: kvs) z = valD kvs z := by simp [valD, List.find?_cons, hk]
      have e2 : Value.isStrOf z e.key = false := by
        obtain ⟨t, et⟩ := isStr_key h.1.1
        rw [← PySem.W.isStr_of, et]
        simp [Value.isStr, hk]
      rw [e1, List.find?_cons, e2]
      exact ih
  | [], _ :: _, h => by simp [ckE] at h
  | _ :: _, [], h => by simp [ckE] at h
theorem cdt_mk {w : World} {x : Str} {p : Addr} {es : Array DictEntry} {n : Nat} {kvs : List (Str × D)} (hm : mg x = some (.ref p)) (hs : (p == sysModules) = false) (hl : K.lookup p = some ⟨.type "dict", none, .dict es n, #[]⟩) (hk : PySem.W.KeysLit w.params es.toList) (h : ckE K es.toList kvs = true) : CDT K mg w x kvs := by
  refine ⟨p, hm, hs, fun z => ?_⟩
  have c := ckE_ok z es.toList kvs h
  have hf : ∀ r, es.toList.find? (fun e => Value.isStrOf z e.key) = r → findBy Value.isStrOf es z = r.map (·.val) := fun r e => by
    unfold findBy
    rw [← e, ← Array.find?_toList]
  refine ⟨fun d e => ?_, fun e => ⟨es, n, hl, hk, by rw [hf none (c.2 e)]; rfl⟩⟩
  obtain ⟨en, e1, e2⟩ := c.1 d e
  obtain ⟨v, r, k⟩ := ckV_ok (mg := mg) d en.val e2
  exact ⟨en.val, v, ⟨es, n, hl, hk, by rw [hf _ e1]; rfl⟩, r, k⟩
end
section
variable {X : Cx} {W : WX} {ex : Ex} {e a b i o : Expr} {es : List Expr} {ma mb mc : ME} {mas : MA} {pos p : Pos} {x : Str} {kvs : List (Str × D)}
def fKd (kvs : List (Str × D)) (d : D) (h : M) : Res D := match d with
  | .str z => match valD kvs z with | some r => .ok r h | none => .stuck
  | _ => .stuck
theorem ix_klk : IxR X (fun x y H Q => ∃ p z u r, x = .ref p ∧ y = .str z ∧ KLk X.K X.w p z (some u) ∧ L2.RelV r u ∧ Q r H) := by
  intro value slice pins s σ H x y v u Q I rx ry h hs
  obtain ⟨p, z, u0, r, rfl, rfl, ⟨es, n, hl, hk, e⟩, ru, q⟩ := h
  obtain rfl : v = Value.ref p := rx
  obtain ⟨t, rfl⟩ := ry
  have hm := PySem.W.mapOf_K (prog := X.prog) (w := X.w) I.kIn hl hk
  exact tail_any hm.typeIs slot_dict_getitem.lookup (wpAny_getItem_of (strKind_is X.prog X.w z t) hm e ⟨r, H, I.tok _, ru, q⟩) hs
theorem fe_kix (T : CDT X.K X.mg X.w x kvs) (hb : FE X W ex b mb) (hg : Gl X x := by rfl) (hd : (x == ("__debug__" : Str)) = false := by decide) (hs : PlainIx b := by exact fun _ _ => rfl) : FE X W ex (.Subscript (.Name x p) b pos) (m1 (fKd kvs) mb) := by
  obtain ⟨pa, hm, hsys, hz⟩ := T.ex
  refine PE.imp (pe_ix ix_klk (pe_glob hg hm (v := .ref pa) rfl hd) hb hs) fun σ H Q q => ?_
  obtain ⟨ι, h, env, rel, re, po⟩ := q
  refine ⟨ι, h, env, rel, re, post_bind po fun d h1 ι1 H1 v eq p k rel1 rv po1 => ?_⟩
  unfold fKd at po1
  split at po1
  case h_2 => exact po1.elim
  rename_i z
  split at po1
  case h_2 => exact po1.elim
  rename_i r er
  obtain ⟨u, w, lk, ru, rw'⟩ := (hz z).1 r er
  simp only [RV] at rv
  subst rv
  exact ⟨pa, z, u, w, rfl, rfl, lk, ru, po_ok rel1 (rw' _ _) po1⟩
def fKin (neg : Bool) (kvs : List (Str × D)) (d : D) (h : M) : Res D := match d with
  | .str z => .ok (.bl (if neg then !(valD kvs z).isSome else (valD kvs z).isSome)) h
  | _ => .stuck
def rKin (K : PySem.W.Frag) (w : World) (neg : Bool) : R2 := fun x y H Q => ∃ p z r, y = .ref p ∧ x = .str z ∧ (p == sysModules) = false ∧ KLk K w p z r ∧ Q (.bl (if neg then !r.isSome else r.isSome)) H
theorem op_kin : OpR X (compareOp .In) (rKin X.K X.w false) := by
  intro pins s σ H x y v u Q I rx ry h
  obtain ⟨p, z, r, rfl, rfl, hsys, ⟨es, n, hl, hk, e⟩, q⟩ := h
  obtain rfl : u = Value.ref p := ry
  obtain ⟨t, rfl⟩ := rx
  have hm := PySem.W.mapOf_K (prog := X.prog) (w := X.w) I.kIn hl hk
  exact wpAny_in_of (strKind_is X.prog X.w z t) hsys hm ⟨.bl _, H, I.tok _, by rw [e]; rfl, q⟩
theorem op_knin : OpR X (compareOp .NotIn) (rKin X.K X.w true) := by
  intro pins s σ H x y v u Q I rx ry h
  obtain ⟨p, z, r, rfl, rfl, hsys, ⟨es, n, hl, hk, e⟩, q⟩ := h
  obtain rfl : u = Value.ref p := ry
  obtain ⟨t, rfl⟩ := rx
  have hm := PySem.W.mapOf_K (prog := X.prog) (w := X.w) I.kIn hl hk
  exact wpAny_notIn_of (strKind_is X.prog X.w z t) hsys hm ⟨.bl _, H, I.tok _, by rw [e]; rfl, q⟩
theorem fc_kinN {op : CmpOp} {neg : Bool} (ho : OpR X (compareOp op) (rKin X.K X.w neg)) (T : CDT X.K X.mg X.w x kvs) (ha : FE X W ex a ma) (hg : Gl X x := by rfl) (hd : (x == ("__debug__" : Str)) = false := by decide) : FC X W ex op a (.Name x p) (m1 (fKin neg kvs) ma) := by
  obtain ⟨pa, hm, hsys, hz⟩ := T.ex
  refine PC.imp (pc_of ho ha (pe_glob hg hm (v := .ref pa) rfl hd)) fun σ H Q q => ?_
  obtain ⟨ι, h, env, rel, re, po⟩ := q
  refine ⟨ι, h, env, rel, re, post_bind po fun d h1 ι1 H1 v eq p k rel1 rv po1 => ?_⟩
  unfold fKin at po1
  split at po1
  case h_2 => exact po1.elim
  rename_i z
  simp only [RV] at rv
  subst rv
  have fin := po_ok (v := V.bl (if neg then !(valD kvs z).isSome else (valD kvs z).isSome)) rel1 (by simp [RV]) po1
  cases er : valD kvs z with
  | none =>
    rw [er] at fin
    exact ⟨pa, z, none, rfl, rfl, hsys, (hz z).2 er, fin⟩
  | some r =>
    rw [er] at fin
    obtain ⟨u, w, lk, ru, rw'⟩ := (hz z).1 r er
    exact ⟨pa, z, some u, rfl, rfl, hsys, lk, fin⟩
theorem fc_kin (T : CDT X.K X.mg X.w x kvs) (ha : FE X W ex a ma) (hg : Gl X x := by rfl) (hd : (x == ("__debug__" : Str)) = false := by decide) : FC X W ex .In a (.Name x p) (m1 (fKin false kvs) ma) := fc_kinN op_kin T ha hg hd
theorem fc_knin (T : CDT X.K X.mg X.w x kvs) (ha : FE X W ex a ma) (hg : Gl X x := by rfl) (hd : (x == ("__debug__" : Str)) = false := by decide) : FC X W ex .NotIn a (.Name x p) (m1 (fKin true kvs) ma) := fc_kinN op_knin T ha hg hd
/-- a tuple of the written part -/
theorem fe_gct {xs : List D} (T : GCT X.K X.mg x xs) (hg : Gl X x := by rfl) (hd : (x == ("__debug__" : Str)) = false := by decide) : FE X W ex (.Name x pos) (mC (.ct xs)) :=
  let ⟨_, hm, _, r⟩ := T.ex; fe_gref hm r hg hd
/-! ### zip, enumerate -/
def prs (xs ys : List D) : List D := (xs.zip ys).map fun p => .tup [p.1, p.2]
def fZip (ds : List D) (h : M) : Res Itr' := match ds with
  | [x, y] => match tupOf x, tupOf y with
    | some xs, some ys => .ok ⟨prs xs ys, fun _ => True⟩ h
    | _, _ => match lstOf h x, lstOf h y with
      | some xs, some ys => .ok ⟨prs xs ys, fun h' => lstOf h' x = some xs ∧ lstOf h' y = some ys⟩ h
      | _, _ => .stuck
  | _ => .stuck
def mZip (mas : MA) : MI := fun env h => (mas env h).bind fZip
theorem pair_rv {G : Wo} {ι : List Addr} {H : Hp} {T : Addr} {x y : V} {c d : D} (hT : H T = none) (r1 : RV G ι H c x) (r2 : RV G ι H d y) : RV G ι (upd H T (.tup [x, y])) (.tup [c, d]) (.ref T) := by
  have k : Keep H (upd H T (.tup [x, y])) := Keep.of_same (same_upd hT)
  simp only [RV]
  exact ⟨T, _, rfl, upd_same, RVs.mono (List.prefix_refl _) k _ _ (RVs.cons r1 (RVs.cons r2 RVs.nil))⟩
theorem prs_at {xs ys : List D} {i : Nat} {d : D} (h : (prs xs ys)[i]? = some d) : ∃ a b, xs[i]? = some a ∧ ys[i]? = some b ∧ d = .tup [a, b] := by
  simp only [prs, List.getElem?_map, Option.map_eq_some_iff] at h
  obtain ⟨⟨a, b⟩, e, rfl⟩ := h
  rw [List.getElem?_zip_eq_some] at e
  exact ⟨a, b, e.1, e.2, rfl⟩
theorem fi_zip {elts : List Expr} {kk : Nat} {tpos : Pos} {p : Pos} (hm : X.mg "zip" = none) (hs : FA X W ex [a, b] mas) (hg : Gl X "zip" := by rfl) (hst : starEach [a, b] X.env = (false, eval a X.env) :: starEach [b] X.env := by rfl) (hpl : (backTo pos (starEach [b] X.env)).any (·.1) = false := by rfl) :
    FI X W ex (.Tuple elts kk tpos) (.Call (.Name "zip" p) [a, b] [] pos) (mZip mas) := by
  refine PI.imp (RZ.pi_zipA hg hm hs hst hpl) fun σ H R q => ?_
  obtain ⟨ι, h, env, rel, re, po⟩ := q
  refine ⟨ι, h, env, rel, re, post_bind po fun ds h1 ι1 H1 vs eq1 p1 k1 rel1 rv1 po1 => ?_⟩
  unfold fZip at po1
  split at po1
  case h_2 => exact po1.elim
  rename_i x y
  obtain ⟨v, u, rfl, r1, r2⟩ := rv1.eq2
  split at po1
  · rename_i xs ys e1 e2
    obtain ⟨pa, ws, rfl, s1, q1⟩ := tupOf_sq r1 e1
    obtain ⟨pb, zs, rfl, s2, q2⟩ := tupOf_sq r2 e2
    refine ⟨pa, pb, ws, zs, rfl, .inr ⟨s1, s2, po_ok rel1 ?_ po1⟩⟩
    intro i ι H h p k rel _
    have t1 := k.tup s1
    have t2 := k.tup s2
    have g1 := RVs.mono p k _ _ q1
    have g2 := RVs.mono p k _ _ q2
    refine ⟨fun d ed => ?_, fun hi => ⟨ws, zs, t1, t2, ?_⟩⟩
    · obtain ⟨c, d', ec, ed', rfl⟩ := prs_at ed
      obtain ⟨v, ev, rv⟩ := g1.get ec
      obtain ⟨u, eu, ru⟩ := g2.get ed'
      refine ⟨⟨ws, zs, v, u, t1, t2, ev, eu⟩, fun xx H' hy => ?_⟩
      obtain ⟨T, x', y', rfl, hT, rfl, h1, h2⟩ := hy
      have z1 := h1 ws t1
      have z2 := h2 zs t2
      rw [ev] at z1; cases z1
      rw [eu] at z2; cases z2
      exact ⟨same_upd hT, pair_rv hT rv ru⟩
    · have l1 := RVs.length g1
      have l2 := RVs.length g2
      simp [prs] at hi
      omega
  · split at po1
    case h_2 => exact po1.elim
    rename_i xs ys e1 e2
    obtain ⟨pa, ws, rfl, s1, q1⟩ := lstOf_sq rel1 r1 e1
    obtain ⟨pb, zs, rfl, s2, q2⟩ := lstOf_sq rel1 r2 e2
    refine ⟨pa, pb, ws, zs, rfl, .inl ⟨s1, s2, po_ok rel1 ?_ po1⟩⟩
    intro i ι H h p k rel ck
    obtain ⟨pa', ws', ea', t1, g1⟩ := lstOf_sq rel (RV.mono p k _ _ r1) ck.1
    obtain ⟨pb', zs', eb', t2, g2⟩ := lstOf_sq rel (RV.mono p k _ _ r2) ck.2
    cases ea'; cases eb'
    refine ⟨fun d ed => ?_, fun hi => ⟨ws', zs', t1, t2, ?_⟩⟩
    · obtain ⟨c, d', ec, ed', rfl⟩ := prs_at ed
      obtain ⟨v, ev, rv⟩ := g1.get ec
      obtain ⟨u, eu, ru⟩ := g2.get ed'
      refine ⟨⟨ws', zs', v, u, t1, t2, ev, eu⟩, fun xx H' hy => ?_⟩
      obtain ⟨T, x', y', rfl, hT, rfl, h1, h2⟩ := hy
      have z1 := h1 ws' t1
      have z2 := h2 zs' t2
      rw [ev] at z1; cases z1
      rw [eu] at z2; cases z2
      exact ⟨same_upd hT, pair_rv hT rv ru⟩
    · have l1 := RVs.length g1
      have l2 := RVs.length g2
      simp [prs] at hi
      omega
def ens (xs : List D) : List D := xs.zipIdx.map fun p => .tup [.int (p.2 : Nat), p.1]
def fEnum (ds : List D) (h : M) : Res Itr' := match ds with
  | [x] => match lstOf h x with
    | some xs => .ok ⟨ens xs, fun h' => lstOf h' x = some xs⟩ h
    | none => .stuck
  | _ => .stuck
def mEnum (mas : MA) : MI := fun env h => (mas env h).bind fEnum
theorem ens_at {xs : List D} {i : Nat} {d : D} (h : (ens xs)[i]? = some d) : ∃ a, xs[i]? = some a ∧ d = .tup [.int (i : Nat), a] := by
  simp only [ens, List.getElem?_map, Option.map_eq_some_iff, List.getElem?_zipIdx] at h
  obtain ⟨⟨a, j⟩, ⟨c, e, e2⟩, rfl⟩ := h
  simp at e2
  obtain ⟨rfl, rfl⟩ := e2
  exact ⟨c, e, rfl⟩
theorem fi_enum {elts : List Expr} {kk : Nat} {tpos : Pos} {p : Pos} (hm : X.mg "enumerate" = none) (hs : FA X W ex [a] mas) (hg : Gl X "enumerate" := by rfl) (hst : starEach [a] X.env = [(false, eval a X.env)] := by rfl) :
    FI X W ex (.Tuple elts kk tpos) (.Call (.Name "enumerate" p) [a] [] pos) (mEnum mas) := by
  refine PI.imp (pi_enum hg hm hs hst) fun σ H R q => ?_
  obtain ⟨ι, h, env, rel, re, po⟩ := q
  refine ⟨ι, h, env, rel, re, post_bind po fun ds h1 ι1 H1 vs eq1 p1 k1 rel1 rv1 po1 => ?_⟩
  unfold fEnum at po1
  split at po1
  case h_2 => exact po1.elim
  rename_i x
  obtain ⟨v, rfl, r1⟩ := rv1.eq1
  split at po1
  case h_2 => exact po1.elim
  rename_i xs e1
  obtain ⟨pa, ws, rfl, s1, q1⟩ := lstOf_sq rel1 r1 e1
  refine ⟨pa, ws, rfl, s1, po_ok rel1 ?_ po1⟩
  intro i ι H h p k rel ck
  obtain ⟨pa', ws', ea', t1, g1⟩ := lstOf_sq rel (RV.mono p k _ _ r1) ck
  cases ea'
  refine ⟨fun d ed => ?_, fun hi => ⟨ws', t1, ?_⟩⟩
  · obtain ⟨c, ec, rfl⟩ := ens_at ed
    obtain ⟨v, ev, rv⟩ := g1.get ec
    refine ⟨⟨ws', v, t1, ev⟩, fun xx H' hy => ?_⟩
    obtain ⟨T, x', rfl, hT, rfl, h1⟩ := hy
    have z1 := h1 ws' t1
    rw [ev] at z1; cases z1
    exact ⟨same_upd hT, pair_rv hT (by simp [RV]) rv⟩
  · have l1 := RVs.length g1
    simp [ens] at hi
    omega
end
/-! ### index -/
section
variable {G : Wo}
def ixS (ys : List Str) (z : Str) : Option Nat := ys.findIdx? fun y => decide (y = z)
theorem ixS_ok {ys : List Str} {z : Str} {j : Nat} (h : ixS ys z = some j) : ys[j]? = some z ∧ ∀ m, m < j → ys[m]? ≠ some z := by
  unfold ixS at h
  rw [List.findIdx?_eq_some_iff_getElem] at h
  obtain ⟨hl, h1, h2⟩ := h
  simp only [decide_eq_true_eq] at h1 h2
  refine ⟨by rw [List.getElem?_eq_getElem hl, h1], fun m hm e => ?_⟩
  rw [List.getElem?_eq_getElem (by omega)] at e
  exact h2 m hm (Option.some.inj e)
def fTIx (x : D) (xs : List D) (h : M) : Res D := match xs with
  | [.str z] => match tupOf x with
    | some ds => match strsD ds with
      | some ys => match ixS ys z with | some j => .ok (.int (j : Nat)) h | none => .stuck
      | none => .stuck
    | none => .stuck
  | _ => .stuck
theorem ab_tix : AbM G (fun x xs H Q => ∃ p, ∃ ys : List Str, ∃ z j, x = .ref p ∧ xs = [.str z] ∧ SqT G.K H p (ys.map V.str) ∧ ys[j]? = some z ∧ (∀ m, m < j → ys[m]? ≠ some z) ∧ Q (.int (j : Nat)) H) fTIx := by
  intro E ι H h x xs v vs Q rel rx rxs po
  unfold fTIx at po
  split at po
  case h_2 => exact po.elim
  rename_i z
  obtain ⟨w, rfl, rw'⟩ := rxs.eq1
  simp only [RV] at rw'
  subst rw'
  split at po
  case h_2 => exact po.elim
  rename_i ds e1
  split at po
  case h_2 => exact po.elim
  rename_i ys e2
  split at po
  case h_2 => exact po.elim
  rename_i j e3
  obtain ⟨pa, ws, rfl, s, r⟩ := tupOf_sq rx e1
  have := strsD_ok e2 r
  subst this
  obtain ⟨h1, h2⟩ := ixS_ok e3
  exact ⟨pa, ys, z, j, rfl, rfl, s, h1, h2, po_ok rel (by simp [RV]) po⟩
def fLIx (x : D) (xs : List D) (h : M) : Res D := match xs with
  | [.str z] => match lstOf h x with
    | some ds => match strsD ds with
      | some ys => match ixS ys z with | some j => .ok (.int (j : Nat)) h | none => .stuck
      | none => .stuck
    | none => .stuck
  | _ => .stuck
theorem ab_lix : AbM G (rIndex G.K) fLIx := by
  intro E ι H h x xs v vs Q rel rx rxs po
  unfold fLIx at po
  split at po
  case h_2 => exact po.elim
  rename_i z
  obtain ⟨w, rfl, rw'⟩ := rxs.eq1
  simp only [RV] at rw'
  subst rw'
  split at po
  case h_2 => exact po.elim
  rename_i ds e1
  split at po
  case h_2 => exact po.elim
  rename_i ys e2
  split at po
  case h_2 => exact po.elim
  rename_i j e3
  obtain ⟨pa, ws, rfl, s, r⟩ := lstOf_sq rel rx e1
  have := strsD_ok e2 r
  subst this
  obtain ⟨h1, h2⟩ := ixS_ok e3
  refine ⟨pa, ys.map V.str, .str z, j, .str z, rfl, rfl, s, rfl, flat_strs ys, by rw [List.getElem?_map, h1]; rfl, by simp [eqV], fun m z' hm e => ?_, po_ok rel (by simp [RV]) po⟩
  rw [List.getElem?_map, Option.map_eq_some_iff] at e
  obtain ⟨y, ey, rfl⟩ := e
  have hne : y ≠ z := fun q => h2 m hm (by rw [ey, q])
  simp [eqV, hne]
end
section
variable {X : Cx} {W : WX} {ex : Ex} {e : Expr} {mas : MA} {pos p apos cpos : Pos} {x : Str}
theorem fe_kindex {xs : List D} (T : GCT X.K X.mg x xs) (ha : FA X W ex [e] mas) (hg : Gl X x := by rfl) (hd : (x == ("__debug__" : Str)) = false := by decide)
    (hbase : attributeBase (.Name x p) "index" X.env (eval (.Name x p) X.env) = eval (.Name x p) X.env := by rfl)
    (hfew : ((backTo cpos (starEach [e] X.env)).all (fun x => !x.1) && (backToKw cpos (keywordEach [] X.env)).all (fun x => x.1.isSome)
      && decide ([e].length + ([] : List Keyword).length + (if ([] : List Keyword).isEmpty then 0 else 1) < 30)) = true := by rfl)
    (hline : (apos.endLine == cpos.line) = true := by rfl) (hs : starEach [e] X.env = (false, eval e X.env) :: starEach [] X.env := by rfl) (hplain : (backTo cpos (starEach [] X.env)).any (·.1) = false := by rfl) :
    FE X W ex (.Call (.Attribute (.Name x p) "index" apos) [e] [] cpos) (mL (fTIx (.ct xs)) mas) := by
  obtain ⟨pa, hm, ⟨o, ho, hc, hdn⟩, r⟩ := T.ex
  refine PE.imp (pe_bm PySem.F.plainAttrs_tuple PySem.F.slot_tuple_index PySem.F.type_tuple_index mt_tup_index (pe_glob hg hm (v := .ref pa) rfl hd) ha hbase hfew hline hs hplain) fun σ H Q q => ?_
  obtain ⟨ι, h, env, rel, re, po⟩ := q
  refine ⟨.inr (.inl ⟨rfl, o, ho, hc, hdn⟩), ι, h, env, rel, re, post_bind po fun ds h1 ι1 H1 vs eq p k rel1 rv po1 => ?_⟩
  exact ab_tix _ _ _ _ (.ct xs) _ _ _ _ rel1 (r _ _) rv po1
end
end LF
set_option Elab.async false
set_option linter.all false
set_option maxRecDepth 100000
set_option maxHeartbeats 4000000
/-! LFI: own classes. -/
namespace LF
open PySem PySem.Spec L2
open PyProof.Rows hiding St
/-- the fields that a class's instances may have -/
def FTb (K : PySem.W.Frag) (mg : Str → Option Value) (tb : List (Str × List Str)) : Prop := ∀ x fs, (x, fs) ∈ tb → ∃ C, mg x = some (.ref C) ∧ Cls K C ∧ ∀ f ∈ fs, NoAttr K C f
def okF (tb : List (Str × List Str)) (x f : Str) : Bool := tb.any fun p => decide (p.1 = x) && p.2.any fun g => decide (g = f)
theorem okF_ok {K : PySem.W.Frag} {mg : Str → Option Value} {tb : List (Str × List Str)} {x f : Str} (T : FTb K mg tb) (h : okF tb x f = true) : ∃ C, mg x = some (.ref C) ∧ Cls K C ∧ NoAttr K C f := by
  unfold okF at h
  rw [List.any_eq_true] at h
  obtain ⟨⟨y, fs⟩, m, h⟩ := h
  simp only [Bool.and_eq_true, decide_eq_true_eq, List.any_eq_true] at h
  obtain ⟨rfl, g, mg', rfl⟩ := h
  obtain ⟨C, e, c, n⟩ := T y fs m
  exact ⟨C, e, c, n g mg'⟩
def putFD (f : Str) (v : D) : List (Str × D) → List (Str × D)
  | [] => [(f, v)]
  | (g, x) :: r => if g = f then (g, v) :: r else (g, x) :: putFD f v r
theorem RKs.fld {G : Wo} {ι : List Addr} {H : Hp} {f : Str} : ∀ {fs : List (Str × D)} {ws : List (Str × V)}, RKs G ι H fs ws → (∀ d, fs.lookup f = some d → ∃ v, ws.lookup f = some v ∧ RV G ι H d v) ∧ (fs.lookup f = none → ws.lookup f = none)
  | [], ws, h => by rw [h.nil_iff]; exact ⟨fun d e => by simp at e, fun _ => rfl⟩
  | (k, d) :: fs, ws, h => by
    obtain ⟨v, r, rfl, h1, h2⟩ := h.cons_iff
    have ih := RKs.fld (f := f) h2
    by_cases hk : (f == k) = true
    · simp only [List.lookup, hk]
      exact ⟨fun d' e => by cases e; exact ⟨v, rfl, h1⟩, fun e => by cases e⟩
    · have hk' : (f == k) = false := by simpa using hk
      simp only [List.lookup, hk']
      exact ih
theorem RKs.putF {G : Wo} {ι : List Addr} {H : Hp} {f : Str} {d : D} {v : V} (r : RV G ι H d v) : ∀ {fs : List (Str × D)} {ws : List (Str × V)}, RKs G ι H fs ws → RKs G ι H (putFD f d fs) (L2.putF f v ws)
  | [], ws, h => by rw [h.nil_iff]; exact RKs.cons r RKs.nil
  | (k, d') :: fs, ws, h => by
    obtain ⟨v', q, rfl, h1, h2⟩ := h.cons_iff
    unfold putFD L2.putF
    by_cases hk : k = f
    · rw [if_pos hk, if_pos hk]; exact RKs.cons r h2
    · rw [if_neg hk, if_neg hk]; exact RKs.cons h1 (RKs.putF r h2)
/-- an instance under a place -/
theorem at_inst {G : Wo} {ι : List Addr} {H : Hp} {h : M} {l : Nat} {v : V} {x : Str} {fs : List (Str × D)} (rel : Rel G ι H h) (r : RV G ι H (.loc l) v) (e : h[l]? = some (.ins x fs)) :
    ∃ a C dx ws, v = .ref a ∧ ι[l]? = some a ∧ G.mg x = some (.ref C) ∧ H a = some (.ins C dx ws) ∧ RKs G ι H fs ws := by
  simp only [RV] at r
  obtain ⟨a, rfl, ea⟩ := r
  obtain ⟨C, dx, ws, g, q, k⟩ := rel.at e ea
  exact ⟨a, C, dx, ws, rfl, ea, g, q, k⟩
section
variable {X : Cx} {W : WX} {ex : Ex} {e a b i o value : Expr} {es : List Expr} {ma mb mc me mo : ME} {mas : MA} {pos pos' tpos p apos cpos : Pos} {x f m : Str} {tb : List (Str × List Str)}
/-! ### o.f -/
def fFld (tb : List (Str × List Str)) (f : Str) (d : D) (h : M) : Res D := match d with
  | .loc l => match h[l]? with
    | some (.ins x fs) => if okF tb x f = true then match fs.lookup f with | some d => .ok d h | none => .stuck else .stuck
    | _ => .stuck
  | _ => .stuck
theorem fe_fld (T : FTb X.K X.mg tb) (he : FE X W ex e me) (hb : attributeBase e f X.env (eval e X.env) = eval e X.env := by rfl) : FE X W ex (.Attribute e f pos) (m1 (fFld tb f) me) := by
  refine PE.imp (pe_fld he hb) fun σ H Q q => ?_
  obtain ⟨ι, h, env, rel, re, po⟩ := q
  refine ⟨ι, h, env, rel, re, post_bind po fun d h1 ι1 H1 v eq p k rel1 rv po1 => ?_⟩
  unfold fFld at po1
  split at po1
  case h_2 => exact po1.elim
  rename_i l
  split at po1
  case h_2 => exact po1.elim
  rename_i y fs el
  split at po1
  case isFalse => exact po1.elim
  rename_i hok
  split at po1
  case h_2 => exact po1.elim
  rename_i d' ed
  obtain ⟨a, C, dx, ws, rfl, ea, g, q, kk⟩ := at_inst rel1 rv el
  obtain ⟨C', g', c, n⟩ := okF_ok T hok
  have g2 : X.mg y = some (.ref C) := g
  rw [g2] at g'; cases g'
  obtain ⟨w, ew, rw'⟩ := kk.fld.1 d' ed
  exact ⟨a, C, dx, ws, w, rfl, q, c, n, ew, po_ok rel1 rw' po1⟩
/-! ### o.f = e -/
def fFldS (tb : List (Str × List Str)) (f : Str) (o y : D) (h : M) : Res Unit := match o with
  | .loc l => match h[l]? with
    | some (.ins x fs) => if okF tb x f = true ∧ fs.length < 1000 then .ok () (h.set l (.ins x (putFD f y fs))) else .stuck
    | _ => .stuck
  | _ => .stuck
def mFldS (tb : List (Str × List Str)) (f : Str) (mo mv : ME) : MS := fun env h => SR.of (mv env h) env fun y h1 => SR.of (mo env h1) env fun o h2 => SR.of (fFldS tb f o y h2) env fun _ h3 => .nx env h3
theorem ins_wr {G : Wo} {ι : List Addr} {H : Hp} {h : M} {l : Nat} {a C dx : Addr} {x : Str} {fs : List (Str × D)} {ws : List (Str × V)} (rel : Rel G ι H h) (ea : ι[l]? = some a) (g : G.mg x = some (.ref C)) (r : RKs G ι H fs ws) :
    Rel G ι (upd H a (.ins C dx ws)) (h.set l (.ins x fs)) ∧ Keep H (upd H a (.ins C dx ws)) := by
  have k : Keep H (upd H a (.ins C dx ws)) := by
    obtain ⟨u0, e0, nf, mu⟩ := rel.tracked ea
    exact fun b o' eb f => by
      have : b ≠ a := fun z => by rw [z, e0] at eb; cases eb; exact nf f
      rw [upd_ne this]; exact eb
  exact rel.write ea ⟨C, dx, ws, g, upd_same, r.mono (List.prefix_refl _) k⟩
theorem fs_fld (T : FTb X.K X.mg tb) (ho : FE X W ex o mo) (hv : FE X W ex value me) (hs : swapsWith value (some (.Attribute o f pos')) pos.line X.env = pure false := by rfl) : FS X W ex (.Assign [.Attribute o f pos'] value pos) (mFldS tb f mo me) := by
  refine PS.imp (ps_fld ho hv hs) fun D σ H q => ?_
  obtain ⟨ι, h, env, rel, re, po⟩ := q
  refine ⟨ι, h, env, rel, re, post_of re po fun y h1 ι1 H1 v eq1 p1 k1 rel1 rv1 po1 => ?_⟩
  refine ⟨ι1, h1, env, rel1, re.mono p1 k1, post_of (re.mono p1 k1) po1 fun d h2 ι2 H2 u eq2 p2 k2 rel2 rv2 po2 => ?_⟩
  unfold fFldS at po2
  split at po2
  case h_2 => exact po2.elim
  rename_i l
  split at po2
  case h_2 => exact po2.elim
  rename_i x fs el
  split at po2
  case isFalse => exact po2.elim
  rename_i hok
  obtain ⟨a, C, dx, ws, rfl, ea, g, q, kk⟩ := at_inst rel2 rv2 el
  obtain ⟨C', g', c, n⟩ := okF_ok T hok.1
  have g2 : X.mg x = some (.ref C) := g
  rw [g2] at g'; cases g'
  have hl : ws.length = fs.length := kk.len.symm
  obtain ⟨rel3, k3⟩ := ins_wr (dx := dx) rel2 ea g (kk.putF (f := f) (RV.mono p2 k2 _ _ rv1))
  exact ⟨a, C, dx, ws, rfl, q, c, n, by rw [hl]; exact hok.2, ps_nx rel3 (((re.mono p1 k1).mono p2 k2).mono (List.prefix_refl _) k3) (PostS.mono (List.prefix_refl _) k3 po2)⟩
/-! ### o.f += e -/
def clsAt (h : M) (o : D) : Option Str := match o with
  | .loc l => match h[l]? with | some (.ins x _) => some x | _ => none
  | _ => none
def fFldA (f : Str) (g : Int → Int → Int) (o : D) (cx : Option Str) (x0 y : D) (h : M) : Res Unit := match x0 with
  | .int i => match y with
    | .int j => match o with
      | .loc l => match h[l]? with
        | some (.ins x fs) => if cx = some x ∧ fs.length < 1000 then .ok () (h.set l (.ins x (putFD f (.int (g i j)) fs))) else .stuck
        | _ => .stuck
      | _ => .stuck
    | _ => .stuck
  | _ => .stuck
def mFldA (tb : List (Str × List Str)) (f : Str) (g : Int → Int → Int) (mo mv : ME) : MS := fun env h => SR.of (mo env h) env fun o h1 => SR.of (fFld tb f o h1) env fun x0 h2 => SR.of (mv env h2) env fun y h3 => SR.of (fFldA f g o (clsAt h1 o) x0 y h3) env fun _ h4 => .nx env h4
theorem fs_fldaug {op : Operator} {rd : V → V → Hp → VK → Prop} {g : Int → Int → Int} (T : FTb X.K X.mg tb) (hop : InOp X op rd) (hrd : ∀ i j H Q, Q (.int (g i j)) H → rd (.int i) (.int j) H Q) (ho : FE X W ex o mo) (hv : FE X W ex value me) : FS X W ex (.AugAssign (.Attribute o f tpos) op value pos) (mFldA tb f g mo me) := by
  refine PS.imp (ps_fldaug ho hv hop) fun D σ H q => ?_
  obtain ⟨ι, h, env, rel, re, po⟩ := q
  refine ⟨ι, h, env, rel, re, post_of re po fun d h1 ι1 H1 v eq1 p1 k1 rel1 rv1 po1 => ?_⟩
  have re1 := re.mono p1 k1
  cases d with
  | loc l =>
    cases el : h1[l]? with
    | none => simp only [fFld, el] at po1; exact po1.elim
    | some ob =>
      cases ob with
      | ins x fs =>
        simp only [fFld, el, clsAt] at po1
        by_cases hok : okF tb x f = true
        case neg => rw [if_neg hok] at po1; exact po1.elim
        rw [if_pos hok] at po1
        cases ed : fs.lookup f with
        | none => rw [ed] at po1; exact po1.elim
        | some x0 =>
          rw [ed] at po1
          obtain ⟨a, C, dx, ws, rfl, ea, gm, q, kk⟩ := at_inst rel1 rv1 el
          obtain ⟨C', g', c, n⟩ := okF_ok T hok
          have g2 : X.mg x = some (.ref C) := gm
          rw [g2] at g'; cases g'
          obtain ⟨w, ew, rw'⟩ := kk.fld.1 x0 ed
          refine ⟨a, C, dx, ws, w, rfl, q, c, n, ew, ι1, h1, env, rel1, re1, post_of re1 po1 fun y h2 ι2 H2 u eq2 p2 k2 rel2 rv2 po2 => ?_⟩
          cases x0 with
          | int i =>
            cases y with
            | int j =>
              simp only [fFldA] at po2
              cases el2 : h2[l]? with
              | none => rw [el2] at po2; exact po2.elim
              | some ob2 =>
                rw [el2] at po2
                cases ob2 with
                | ins x2 fs2 =>
                  by_cases hc : some x = some x2 ∧ fs2.length < 1000
                  case neg => simp only [if_neg hc] at po2; exact po2.elim
                  simp only [if_pos hc] at po2
                  obtain ⟨hx, hlen⟩ := hc
                  cases hx
                  simp only [RV] at rw' rv2
                  subst rw'; subst rv2
                  have ea2 : ι2[l]? = some a := pre_get p2 ea
                  obtain ⟨C2, dx2, ws2, gm2, q2, kk2⟩ := rel2.at el2 ea2
                  have g3 : X.mg x = some (.ref C2) := gm2
                  rw [g2] at g3; cases g3
                  have hl : ws2.length = fs2.length := kk2.len.symm
                  obtain ⟨rel3, k3⟩ := ins_wr (dx := dx2) rel2 ea2 gm2 (kk2.putF (f := f) (d := .int (g i j)) (v := .int (g i j)) (by simp [RV]))
                  exact hrd _ _ _ _ ⟨dx2, ws2, q2, by rw [hl]; exact hlen, ps_nx rel3 ((re1.mono p2 k2).mono (List.prefix_refl _) k3) (PostS.mono (List.prefix_refl _) k3 po2)⟩
                | _ => exact po2.elim
            | _ => exact po2.elim
          | _ => exact po2.elim
      | _ => simp only [fFld, el] at po1; exact po1.elim
  | _ => exact po1.elim
theorem fs_fldadd (T : FTb X.K X.mg tb) (ho : FE X W ex o mo) (hv : FE X W ex value me) : FS X W ex (.AugAssign (.Attribute o f tpos) .Add value pos) (mFldA tb f (fun i j => i + j) mo me) :=
  fs_fldaug T in_add (fun i j H Q q => ⟨i, j, rfl, rfl, q⟩) ho hv
theorem fs_fldsub (T : FTb X.K X.mg tb) (ho : FE X W ex o mo) (hv : FE X W ex value me) : FS X W ex (.AugAssign (.Attribute o f tpos) .Sub value pos) (mFldA tb f (fun i j => i - j) mo me) :=
  fs_fldaug T in_sub (fun i j H Q q => ⟨i, j, rfl, rfl, q⟩) ho hv
end
/-! ### methods -/
structure MDef (P : Program) (w : World) (K : PySem.W.Frag) (mg : Str → Option Value) (base : Heap) (x m : Str) (k n : Nat) (mm : List D → M → Res D) : Prop where
  ex : ∃ C f fd ps, ps.length = n ∧ mg x = some (.ref C) ∧ Cls K C ∧ Meth K C m f ∧ Binds K fd ps [] ∧ FnOk P w K mg base (L2N.CX P w) k f fd ps (spF ⟨K, mg⟩ n mm)
structure PDef (P : Program) (w : World) (K : PySem.W.Frag) (mg : Str → Option Value) (base : Heap) (x m : Str) (k : Nat) (mm : List D → M → Res D) : Prop where
  ex : ∃ C p f fd ps, ps.length = 1 ∧ mg x = some (.ref C) ∧ Cls K C ∧ PropOf K C m p f ∧ Binds K fd ps [] ∧ FnOk P w K mg base (L2N.CX P w) k f fd ps (spF ⟨K, mg⟩ 1 mm)
structure KDef (P : Program) (w : World) (K : PySem.W.Frag) (mg : Str → Option Value) (base : Heap) (x : Str) (k n : Nat) (mm : List D → M → Res D) : Prop where
  ex : ∃ C f fd ps, ps.length = n ∧ mg x = some (.ref C) ∧ Mk K C f ∧ Binds K fd ps [] ∧ FnOk P w K mg base (L2N.CX P w) k f fd ps (spF ⟨K, mg⟩ n mm)
section
variable {X : Cx} {W : WX} {ex : Ex} {e a b i o value : Expr} {es : List Expr} {ma mb mc me mo : ME} {mas : MA} {pos pos' tpos p apos cpos : Pos} {x f m : Str} {tb : List (Str × List Str)} {k n : Nat} {mm : List D → M → Res D}
def hasM (h : M) (x m : Str) (o : D) : Bool := match o with
  | .loc l => match h[l]? with
    | some (.ins y fs) => decide (y = x) && (fs.lookup m).isNone
    | _ => false
  | _ => false
def mMeth (x m : Str) (n : Nat) (mm : List D → M → Res D) (mo : ME) (mas : MA) : ME := fun env h => (mo env h).bind fun o h1 => if hasM h1 x m o = true then (mas env h1).bind fun ds h2 => mFix n mm (o :: ds) h2 else .stuck
theorem hasM_ok {G : Wo} {ι : List Addr} {H : Hp} {h : M} {o : D} {v : V} (rel : Rel G ι H h) (r : RV G ι H o v) (e : hasM h x m o = true) : ∃ a C dx ws, v = .ref a ∧ G.mg x = some (.ref C) ∧ H a = some (.ins C dx ws) ∧ ws.lookup m = none := by
  unfold hasM at e
  split at e
  case h_2 => cases e
  rename_i l
  split at e
  case h_2 => cases e
  rename_i y fs el
  simp only [Bool.and_eq_true, decide_eq_true_eq] at e
  obtain ⟨rfl, e2⟩ := e
  obtain ⟨a, C, dx, ws, rfl, ea, g, q, kk⟩ := at_inst rel r el
  exact ⟨a, C, dx, ws, rfl, g, q, kk.fld.2 (by simpa using e2)⟩
theorem fe_meth {pl : Sem Bool} (F : MDef X.prog X.w X.K X.mg X.base x m k n mm) (tk : L2N.Takes X W) (hr : Room k X.A) (ho : FE X W ex o mo) (hs : FA X W ex (e :: es) mas)
    (hst : starEach (e :: es) X.env = (false, eval e X.env) :: starEach es X.env := by rfl) (hpl : (backTo pos (starEach es X.env)).any (·.1) = false := by rfl)
    (ht : eval (.Call (.Attribute o m apos) (e :: es) [] pos) X.env = (do
      let ov ← eval o X.env
      standAt apos.atName
      let (f, first) ← holding [ov] (getMethod ov m pl)
      callWith pos f first (backTo pos (starEach (e :: es) X.env)) (backToKw pos (keywordEach [] X.env))) := by rfl) :
    FE X W ex (.Call (.Attribute o m apos) (e :: es) [] pos) (mMeth x m n mm mo mas) := by
  obtain ⟨C, f, fd, ps, h1, h2, c, hm, hb, F⟩ := F.ex
  have P0 : PE X (.Call (.Attribute o m apos) (e :: es) [] pos) (fun σ H Q => rdE (wo X) ex W mo σ H fun v H1 => ∃ a dx ws, v = .ref a ∧ H1 a = some (.ins C dx ws) ∧ ws.lookup m = none ∧ rdA (wo X) ex W mas σ H1 fun vs H2 => spF ⟨X.K, X.mg⟩ n mm (.ref a :: vs) H2 Q (WE W σ)) := by
    refine ⟨fun pins s σ H Q I h => ?_⟩
    refine PySem.W.methodCall_KW (pl := pl) (thn (ho.run pins s σ H _ I h) fun u s1 ⟨x, H1, I1, rx, a, dx, fs, ex, ea, l, q⟩ => ?_) ht
    subst ex
    obtain rfl : u = Value.ref a := rx
    refine getmeth_ok I1 ea c hm l ?_
    refine PySem.W.callWith_K (first := [.ref a]) (h₀ := X.base) I.ok.mod.kin hm.kp (thn (hs.run pos pins s1 σ H1 _ I1 q) fun us s2 ⟨vs, H2, I2, r, q2⟩ => ⟨I2.kIn, ?_⟩) hst hpl
    exact run_fnS (E := WE W) (us := .ref a :: us) (vs := .ref a :: vs) F hr hb (L2N.passAt tk σ) I2 (.cons rfl r) q2
  refine PE.imp P0 fun σ H Q q => ?_
  obtain ⟨ι, h, env, rel, re, po⟩ := q
  refine ⟨ι, h, env, rel, re, post_bind po fun d g1 ι1 H1 v eq p1 k1 rel1 rv po1 => ?_⟩
  split at po1
  case isFalse => exact po1.elim
  rename_i hh
  obtain ⟨a, C', dx, ws, rfl, gm, q, hl⟩ := hasM_ok rel1 rv hh
  have g2 : X.mg x = some (.ref C') := gm
  rw [h2] at g2; cases g2
  refine ⟨a, dx, ws, rfl, q, hl, ι1, g1, env, rel1, re.mono p1 k1, post_bind po1 fun ds g2 ι2 H2 vs eq2 p2 k2 rel2 rv2 po2 => ?_⟩
  unfold mFix at po2
  split at po2
  case isFalse => exact po2.elim
  rename_i hlen
  exact ⟨by rw [← hlen]; simp [RVs.length rv2], ι2, g2, d :: ds, rel2, RVs.cons (RV.mono p2 k2 _ _ rv) rv2, po2⟩
theorem fe_meth0 {pl : Sem Bool} (F : MDef X.prog X.w X.K X.mg X.base x m k n mm) (tk : L2N.Takes X W) (hr : Room k X.A) (ho : FE X W ex o mo)
    (ht : eval (.Call (.Attribute o m apos) [] [] pos) X.env = (do
      let ov ← eval o X.env
      standAt apos.atName
      let (f, first) ← holding [ov] (getMethod ov m pl)
      callWith pos f first (backTo pos (starEach [] X.env)) (backToKw pos (keywordEach [] X.env))) := by rfl) :
    FE X W ex (.Call (.Attribute o m apos) [] [] pos) (mMeth x m n mm mo mNil) := by
  obtain ⟨C, f, fd, ps, h1, h2, c, hm, hb, F⟩ := F.ex
  have P0 : PE X (.Call (.Attribute o m apos) [] [] pos) (fun σ H Q => rdE (wo X) ex W mo σ H fun v H1 => ∃ a dx ws, v = .ref a ∧ H1 a = some (.ins C dx ws) ∧ ws.lookup m = none ∧ spF ⟨X.K, X.mg⟩ n mm [.ref a] H1 Q (WE W σ)) := by
    refine ⟨fun pins s σ H Q I h => ?_⟩
    refine PySem.W.methodCall_KW (pl := pl) (thn (ho.run pins s σ H _ I h) fun u s1 ⟨x, H1, I1, rx, a, dx, fs, ex, ea, l, q⟩ => ?_) ht
    subst ex
    obtain rfl : u = Value.ref a := rx
    refine getmeth_ok I1 ea c hm l ?_
    exact PySem.W.callWith_K0 (first := [.ref a]) I1.kIn hm.kp (run_fnS (E := WE W) (us := [.ref a]) (vs := [.ref a]) F hr hb (L2N.passAt tk σ) I1 (.cons rfl .nil) q)
  refine PE.imp P0 fun σ H Q q => ?_
  obtain ⟨ι, h, env, rel, re, po⟩ := q
  refine ⟨ι, h, env, rel, re, post_bind po fun d g1 ι1 H1 v eq p1 k1 rel1 rv po1 => ?_⟩
  split at po1
  case isFalse => exact po1.elim
  rename_i hh
  obtain ⟨a, C', dx, ws, rfl, gm, q, hl⟩ := hasM_ok rel1 rv hh
  have g2 : X.mg x = some (.ref C') := gm
  rw [h2] at g2; cases g2
  have po2 : Post (wo X) (fun ι H d v => RV (wo X) ι H d v) (fun c d H' => W c d σ H') ι1 H1 (mFix n mm [d] g1) Q := po1
  unfold mFix at po2
  split at po2
  case isFalse => exact po2.elim
  rename_i hlen
  exact ⟨a, dx, ws, rfl, q, hl, by rw [← hlen]; rfl, ι1, g1, [d], rel1, RVs.one rv, po2⟩
/-! ### properties -/
def isInsB (h : M) (x : Str) (o : D) : Bool := match o with
  | .loc l => match h[l]? with
    | some (.ins y _) => decide (y = x)
    | _ => false
  | _ => false
def mProp (x : Str) (mm : List D → M → Res D) (mo : ME) : ME := fun env h => (mo env h).bind fun o h1 => if isInsB h1 x o = true then noX (mm [o] h1) else .stuck
theorem passN (X : Cx) : Passes (L2N.CX X.prog X.w) X (fun _ _ _ => False) := fun pins σ H s e s' I c => L2N.passAt (W := WN) tkN σ pins H s e s' I c
theorem fe_prop (F : PDef X.prog X.w X.K X.mg X.base x m k mm) (hr : Room (k + 1) X.A) (ho : FE X W ex o mo) (hab : attributeBase o m X.env (eval o X.env) = eval o X.env := by rfl) : FE X W ex (.Attribute o m pos) (mProp x mm mo) := by
  obtain ⟨C, p, f, fd, ps, h1, h2, c, hp, hb, F⟩ := F.ex
  refine PE.imp (pe_prop ho c hp F hr hb (dvs := []) .nil (E := fun _ _ _ => False) (passN X.nox) hab) fun σ H Q q => ?_
  obtain ⟨ι, h, env, rel, re, po⟩ := q
  refine ⟨ι, h, env, rel, re, post_bind po fun d g1 ι1 H1 v eq p1 k1 rel1 rv po1 => ?_⟩
  split at po1
  case isFalse => exact po1.elim
  rename_i hh
  unfold isInsB at hh
  split at hh
  case h_2 => cases hh
  rename_i l
  split at hh
  case h_2 => cases hh
  rename_i y fs el
  simp only [decide_eq_true_eq] at hh
  subst hh
  obtain ⟨a, C', dx, ws, rfl, ea, gm, q, kk⟩ := at_inst rel1 rv el
  have g2 : X.mg y = some (.ref C') := gm
  rw [h2] at g2; cases g2
  exact ⟨a, dx, ws, rfl, q, rfl, ι1, g1, [.loc l], rel1, RVs.one rv, post_noX po1⟩
/-! ### C(..) -/
def fNon (l : Nat) (v : D) (h : M) : Res D := match v with
  | .non => .ok (.loc l) h
  | _ => .stuck
def mMake (x : Str) (n : Nat) (mm : List D → M → Res D) (mas : MA) : ME := fun env h => (mas env h).bind fun ds h1 => (noX (mFix n mm (.loc h1.length :: ds) (h1 ++ [.ins x []]))).bind fun v h2 => fNon h1.length v h2
theorem fe_make {q : Pos} (F : KDef X.prog X.w X.K X.mg X.base x k n mm) (hr : Room (k + 1) X.A) (hs : FA X W ex (e :: es) mas) (hg : Gl X x := by rfl) (hdb : (x == ("__debug__" : Str)) = false := by decide)
    (he : starEach (e :: es) X.env = (false, eval e X.env) :: starEach es X.env := by rfl) (hpl : (backTo pos (starEach es X.env)).any (·.1) = false := by rfl) : FE X W ex (.Call (.Name x q) (e :: es) [] pos) (mMake x n mm mas) := by
  obtain ⟨C, f, fd, ps, h1, h2, mk, hb, F⟩ := F.ex
  refine PE.imp (pe_make mk F hr hg h2 hb (dvs := []) .nil (E := fun _ _ _ => False) (passN X) hs hdb he hpl) fun σ H Q q => ?_
  obtain ⟨ι, h, env, rel, re, po⟩ := q
  refine ⟨ι, h, env, rel, re, post_bind po fun ds g1 ι1 H1 vs eq p1 k1 rel1 rv po1 => ?_⟩
  intro y dx hy hdx hne
  have s1 : Same H1 (upd H1 dx (.own y)) := same_upd hdx
  have hy2 : upd H1 dx (.own y) y = none := by rw [upd_ne (Ne.symm hne)]; exact hy
  have s2 : Same (upd H1 dx (.own y)) (upd (upd H1 dx (.own y)) y (.ins C dx [])) := same_upd hy2
  have kp : Keep H1 (upd (upd H1 dx (.own y)) y (.ins C dx [])) := (Keep.of_same s1).trans (Keep.of_same s2)
  have pre : ι1 <+: ι1 ++ [y] := List.prefix_append ..
  have rel2 : Rel (wo X) (ι1 ++ [y]) (upd (upd H1 dx (.own y)) y (.ins C dx [])) (g1 ++ [.ins x []]) := (rel1.same s1).push hy2 ⟨C, dx, [], h2, upd_same, RKs.nil⟩
  have ry : RV (wo X) (ι1 ++ [y]) (upd (upd H1 dx (.own y)) y (.ins C dx [])) (.loc g1.length) (.ref y) := by
    simp only [RV]
    exact ⟨y, rfl, by rw [← rel1.len]; simp⟩
  have po2 := Post.mono pre kp po1
  have po3 := post_noX (E' := fun _ _ _ => False) (post_bind (Q := fun v H2 => v = .non ∧ Q (.ref y) H2) (B := fun ι H d v => RV (wo X) ι H d v) po2 fun v g2 ι2 H2 u eq2 p2 k2 rel3 rv3 po4 => ?_)
  · unfold mFix at po3
    split at po3
    case isFalse => exact po3.elim
    rename_i hlen
    refine ⟨by rw [← hlen]; simp [RVs.length rv], ι1 ++ [y], _, _, rel2, RVs.cons ry (by simpa using RVs.mono pre kp _ _ rv), po3⟩
  · unfold fNon at po4
    split at po4
    case h_2 => exact po4.elim
    simp only [RV] at rv3
    exact ⟨rv3, po_ok rel3 (RV.mono p2 k2 _ _ ry) po4⟩
end
/-! ### where they stand -/
structure MAt (K : PySem.W.Frag) (mg : Str → Option Value) (x m qual : Str) (st : Stmt) (ps : List Str) : Prop where
  ex : ∃ C f fd, Fun K m qual st f fd ∧ mg x = some (.ref C) ∧ Cls K C ∧ Meth K C m f ∧ ∀ us : List Value, us.length = ps.length → bindArgs fd ⟨us, []⟩ = pure (ps.zip us)
structure PAt (K : PySem.W.Frag) (mg : Str → Option Value) (x m qual : Str) (st : Stmt) (ps : List Str) : Prop where
  ex : ∃ C p f fd, Fun K m qual st f fd ∧ mg x = some (.ref C) ∧ Cls K C ∧ PropOf K C m p f ∧ ∀ us : List Value, us.length = ps.length → bindArgs fd ⟨us, []⟩ = pure (ps.zip us)
structure KAt (K : PySem.W.Frag) (mg : Str → Option Value) (x qual : Str) (st : Stmt) (ps : List Str) : Prop where
  ex : ∃ C f fd, Fun K "__init__" qual st f fd ∧ mg x = some (.ref C) ∧ Mk K C f ∧ ∀ us : List Value, us.length = ps.length → bindArgs fd ⟨us, []⟩ = pure (ps.zip us)
section
variable {P : Program} {w : World} {K : PySem.W.Frag} {mg : Str → Option Value} {base : Heap} {x m qual : Str} {st : Stmt} {N ps : List Str} {k : Nat} {mb : MS}
theorem mdefOf (T : MAt K mg x m qual st ps) (S : FnScope N ps (defScope st))
    (body : ∀ (f : Addr) (cdv : Value) (A : Around) (outer : List Env) (s : Shared) (H : Hp) (E : XK), Room k (A.deeper (envOfC qual (defScope st) s.heap.objs.size f cdv)) →
      FSs (cxOf (L2N.CX P w) P w K mg base N qual (defScope st) f cdv A outer s H E) (fun c d _ H => E c d H) none (defBody st) mb) : MDef P w K mg base x m (k + 1) ps.length (mFn N.length ps.length mb) := by
  obtain ⟨C, f, fd, F, gx, c, me, hb⟩ := T.ex
  exact ⟨C, f, fd, ps, rfl, gx, c, me, .all hb, okN F S (fun vs H Q E h => h.1) fun cdv A outer s H vs Q E hr hsp => ⟨_, body f cdv A outer s H E hr, body_end hsp⟩⟩
theorem pdefOf (T : PAt K mg x m qual st ps) (hp : ps.length = 1) (S : FnScope N ps (defScope st))
    (body : ∀ (f : Addr) (cdv : Value) (A : Around) (outer : List Env) (s : Shared) (H : Hp) (E : XK), Room k (A.deeper (envOfC qual (defScope st) s.heap.objs.size f cdv)) →
      FSs (cxOf (L2N.CX P w) P w K mg base N qual (defScope st) f cdv A outer s H E) (fun c d _ H => E c d H) none (defBody st) mb) : PDef P w K mg base x m (k + 1) (mFn N.length 1 mb) := by
  obtain ⟨C, p, f, fd, F, gx, c, me, hb⟩ := T.ex
  have F' : FnOk P w K mg base (L2N.CX P w) (k + 1) f fd ps (spF ⟨K, mg⟩ ps.length (mFn N.length ps.length mb)) := okN F S (fun vs H Q E h => h.1) fun cdv A outer s H vs Q E hr hsp => ⟨_, body f cdv A outer s H E hr, body_end hsp⟩
  rw [hp] at F'
  exact ⟨C, p, f, fd, ps, hp, gx, c, me, .all hb, F'⟩
theorem kdefOf (T : KAt K mg x qual st ps) (S : FnScope N ps (defScope st))
    (body : ∀ (f : Addr) (cdv : Value) (A : Around) (outer : List Env) (s : Shared) (H : Hp) (E : XK), Room k (A.deeper (envOfC qual (defScope st) s.heap.objs.size f cdv)) →
      FSs (cxOf (L2N.CX P w) P w K mg base N qual (defScope st) f cdv A outer s H E) (fun c d _ H => E c d H) none (defBody st) mb) : KDef P w K mg base x (k + 1) ps.length (mFn N.length ps.length mb) := by
  obtain ⟨C, f, fd, F, gx, me, hb⟩ := T.ex
  exact ⟨C, f, fd, ps, rfl, gx, me, .all hb, okN F S (fun vs H Q E h => h.1) fun cdv A outer s H vs Q E hr hsp => ⟨_, body f cdv A outer s H E hr, body_end hsp⟩⟩
end
end LF
set_option Elab.async false
set_option linter.all false
set_option maxRecDepth 100000
set_option maxHeartbeats 4000000
/-! LFH: wide products, clear, pop(i); where methods stand. -/
namespace LF
open PySem PySem.Spec L2
open PyProof.Rows hiding St
/-! ### wide products -/
def CMulB (i j : Int) : Prop := Builtin.Int.intBits i + Builtin.Int.intBits j ≤ 134217728
instance (i j : Int) : Decidable (CMulB i j) := by unfold CMulB; infer_instance
theorem op_mulB {X : Cx} : OpR X (binaryOp .Mult) (rI CMulB fun i j => .int (i * j)) := opI fun _ _ _ _ _ _ _ hc q => mul_int q (PySem.IntMulOk.of_le (Nat.le_refl _) (Nat.le_refl _) hc)
def fMulB := fI CMulB fun i j => .int (i * j)
theorem fe_mulB {X : Cx} {W : WX} {ex : Ex} {a b : Expr} {ma mb : ME} {pos : Pos} (ha : FE X W ex a ma) (hb : FE X W ex b mb) : FE X W ex (.BinOp a .Mult b pos) (m2 fMulB ma mb) := fe_op op_mulB (ab_I fun _ _ _ _ => by simp [RV]) ha hb
/-! ### clear, pop(i) -/
section
variable {G : Wo}
def fClear (x : D) (xs : List D) (h : M) : Res D := match x, xs with
  | .loc l, [] => match h[l]? with
    | some (.lst ys) => .ok .non (h.set l (.lst []))
    | _ => .stuck
  | _, _ => .stuck
theorem ab_clear : AbM G rClear fClear := by
  intro E ι H h x xs v vs Q rel rx rxs po
  unfold fClear at po
  split at po
  case h_2 => exact po.elim
  split at po
  case h_2 => exact po.elim
  rename_i ys e1
  simp only [RVs] at rxs
  subst rxs
  obtain ⟨a, ws, rfl, ea, q, r⟩ := at_lst rel rx e1
  exact ⟨a, ws, rfl, rfl, q, po_wr rel ea RVs.nil (fun _ _ => by simp [RV]) po⟩
def fPopAt (x : D) (xs : List D) (h : M) : Res D := match x, xs with
  | .loc l, [.int i] => match h[l]? with
    | some (.lst ys) => if 0 ≤ i ∧ i < ys.length ∧ i < 2 ^ 63 then match ys[i.toNat]? with
      | some y => .ok y (h.set l (.lst (ys.eraseIdx i.toNat)))
      | none => .stuck
      else .stuck
    | _ => .stuck
  | _, _ => .stuck
theorem RVs.erase {ι : List Addr} {H : Hp} : ∀ {xs : List D} {vs : List V} (k : Nat), RVs G ι H xs vs → RVs G ι H (xs.eraseIdx k) (vs.eraseIdx k)
  | [], vs, k, r => by simp only [RVs] at r; subst r; exact RVs.nil
  | x :: xs, vs, k, r => by
    simp only [RVs] at r
    obtain ⟨v, q, rfl, r1, r2⟩ := r
    cases k with
    | zero => exact r2
    | succ k => exact RVs.cons r1 (RVs.erase k r2)
theorem ab_popAt : AbM G rPopAt fPopAt := by
  intro E ι H h x xs v vs Q rel rx rxs po
  unfold fPopAt at po
  split at po
  case h_2 => exact po.elim
  split at po
  case h_2 => exact po.elim
  rename_i ys e1
  split at po
  case isFalse => exact po.elim
  rename_i hc
  split at po
  case h_2 => exact po.elim
  rename_i y ey
  obtain ⟨w, rfl, rw'⟩ := rxs.eq1
  simp only [RV] at rw'
  subst rw'
  obtain ⟨a, ws, rfl, ea, q, r⟩ := at_lst rel rx e1
  have hl := RVs.length r
  obtain ⟨u, eu, ru⟩ := r.get ey
  refine ⟨a, ws, _, _, u, rfl, rfl, q, by omega, hc.2.2, ?_, eu, po_wr rel ea (r.erase _) (fun _ p => RV.mono (List.prefix_refl _) p _ _ ru) po⟩
  have e1 : ∀ (i : Int) (n : Nat), 0 ≤ i → i < n → seqIndex? i n = some i.toNat := fun i n h1 h2 => by
    unfold seqIndex?
    have h3 : ¬ i < 0 := Int.not_lt.mpr h1
    simp [h3, h1, h2]
  exact e1 _ _ hc.1 (by rw [← hl]; exact hc.2.1)
end
/-! ### where methods stand -/
theorem mAt_mk {K : PySem.W.Frag} {h : Heap} {mg : Str → Option Value} (XK : K.In h) (G : h.Ns mainGlobals mg) {x m qual : Str} {st : Stmt} {ps : List Str} {f C : Addr} {oc : Value} {od an : Option Addr} {osl : Array (Option Value)} {kV doc pm cdv ct : Value}
    (hb : ∀ (kV doc pm : Value) (an : Option Addr) (cdv ct : Value) (us : List Value), us.length = ps.length → bindArgs (PySem.W.fnOf m qual (defArgs st) (defBody st) (defScope st) .none kV doc pm an cdv ct) ⟨us, []⟩ = pure (ps.zip us))
    (g : PySem.W.nsIn K mainGlobals x = some (some (.ref C))) (c1 : PySem.W.plainGet K C Str.empty = true) (c2 : PySem.W.hasDictIn K C = true) (c3 : PySem.W.plainOver K C = true) (c4 : PySem.W.findIn K (.ref C) "__setattr__" = some (some (.builtin "object.__setattr__")))
    (a : PySem.W.findIn K (.ref C) m = some (some (.ref f))) (i : PySem.W.isFn K (.ref f) = true)
    (l : K.lookup f = some ⟨oc, od, .func (PySem.W.fnOf m qual (defArgs st) (defBody st) (defScope st) .none kV doc pm an cdv ct), osl⟩) (c : PySem.W.codeIn K cdv qual = true) (k : PySem.W.keepIn K (.ref f) = true) : MAt K mg x m qual st ps :=
  ⟨C, f, _, fun_mk (st := st) l c k, PySem.W.mg_of XK G g, ⟨c1, c2, c3, c4⟩, ⟨a, i, k⟩, hb kV doc pm an cdv ct⟩
theorem pAt_mk {K : PySem.W.Frag} {h : Heap} {mg : Str → Option Value} (XK : K.In h) (G : h.Ns mainGlobals mg) {x m qual : Str} {st : Stmt} {ps : List Str} {f C p : Addr} {oc : Value} {od an : Option Addr} {osl : Array (Option Value)} {kV doc pm cdv ct : Value} {rest : List Value}
    (hb : ∀ (kV doc pm : Value) (an : Option Addr) (cdv ct : Value) (us : List Value), us.length = ps.length → bindArgs (PySem.W.fnOf m qual (defArgs st) (defBody st) (defScope st) .none kV doc pm an cdv ct) ⟨us, []⟩ = pure (ps.zip us))
    (g : PySem.W.nsIn K mainGlobals x = some (some (.ref C))) (c1 : PySem.W.plainGet K C Str.empty = true) (c2 : PySem.W.hasDictIn K C = true) (c3 : PySem.W.plainOver K C = true) (c4 : PySem.W.findIn K (.ref C) "__setattr__" = some (some (.builtin "object.__setattr__")))
    (a : PySem.W.findIn K (.ref C) m = some (some (.ref p))) (p1 : PySem.W.specialIn K (.ref p) "__get__" = some (some (.builtin "property.__get__"))) (p2 : PySem.W.takesIn K (.ref p) = some true) (p3 : PySem.W.recIn K p "property" = some (.ref f :: rest))
    (l : K.lookup f = some ⟨oc, od, .func (PySem.W.fnOf m qual (defArgs st) (defBody st) (defScope st) .none kV doc pm an cdv ct), osl⟩) (c : PySem.W.codeIn K cdv qual = true) (k : PySem.W.keepIn K (.ref f) = true) : PAt K mg x m qual st ps :=
  ⟨C, p, f, _, fun_mk (st := st) l c k, PySem.W.mg_of XK G g, ⟨c1, c2, c3, c4⟩, ⟨a, p1, p2, ⟨rest, p3⟩⟩, hb kV doc pm an cdv ct⟩
theorem kAt_mk {K : PySem.W.Frag} {h : Heap} {mg : Str → Option Value} (XK : K.In h) (G : h.Ns mainGlobals mg) {x qual : Str} {st : Stmt} {ps : List Str} {f C : Addr} {oc : Value} {od an : Option Addr} {osl : Array (Option Value)} {kV doc pm cdv ct : Value}
    (hb : ∀ (kV doc pm : Value) (an : Option Addr) (cdv ct : Value) (us : List Value), us.length = ps.length → bindArgs (PySem.W.fnOf "__init__" qual (defArgs st) (defBody st) (defScope st) .none kV doc pm an cdv ct) ⟨us, []⟩ = pure (ps.zip us))
    (g : PySem.W.nsIn K mainGlobals x = some (some (.ref C))) (m1 : PySem.W.makesIn K C = true) (a : PySem.W.findIn K (.ref C) "__init__" = some (some (.ref f))) (i : PySem.W.isFn K (.ref f) = true) (kc : PySem.W.keepIn K (.ref C) = true)
    (l : K.lookup f = some ⟨oc, od, .func (PySem.W.fnOf "__init__" qual (defArgs st) (defBody st) (defScope st) .none kV doc pm an cdv ct), osl⟩) (c : PySem.W.codeIn K cdv qual = true) (k : PySem.W.keepIn K (.ref f) = true) : KAt K mg x qual st ps :=
  ⟨C, f, _, fun_mk (st := st) l c k, PySem.W.mg_of XK G g, ⟨m1, a, i, kc⟩, hb kV doc pm an cdv ct⟩
end LF
set_option Elab.async false
set_option linter.all false
set_option maxRecDepth 100000
set_option maxHeartbeats 4000000
/-! LFJ: the logic of own classes, tables, wide products. -/
namespace LF
open PySem PySem.Spec L2
open PyProof.Rows hiding St
section
variable {Q : D → M → Prop} {X : XP} {env : En} {h : M} {nx : En → M → Prop} {rt : D → M → Prop} {bk ct : En → M → Prop} {ex : Str → List Str → List D → En → M → Prop} {ma mb mo mv : ME} {mas : MA} {x m f : Str} {n : Nat} {mm : List D → M → Res D} {tb : List (Str × List Str)} {l : Nat} {i j : Int}
@[simp] theorem wp_meth : @Wc D (mMeth x m n mm mo mas env h) ⟨Q, X⟩ = @Wc D (mo env h) ⟨fun o h1 => hasM h1 x m o = true ∧ @Wc (List D) (mas env h1) ⟨fun ds h2 => ds.length + 1 = n ∧ @Wc D (mm (o :: ds) h2) ⟨Q, X⟩, X⟩, X⟩ := by
  unfold mMeth; rw [wp_bind]; exact wc_eq fun _ _ => by rw [wp_guard, wp_bind]; congr 1; exact wc_eq fun _ _ => by rw [wp_fix]; simp
@[simp] theorem wp_prop : @Wc D (mProp x mm mo env h) ⟨Q, X⟩ = @Wc D (mo env h) ⟨fun o h1 => isInsB h1 x o = true ∧ @Wc D (mm [o] h1) ⟨Q, noEx⟩, X⟩ := by
  unfold mProp; rw [wp_bind]; exact wc_eq fun _ _ => by rw [wp_guard, wp_noX]
@[simp] theorem wp_make : @Wc D (mMake x n mm mas env h) ⟨Q, X⟩ = @Wc (List D) (mas env h) ⟨fun ds h1 => ds.length + 1 = n ∧ @Wc D (mm (.loc h1.length :: ds) (h1 ++ [.ins x []])) ⟨fun v h2 => @Wc D (fNon h1.length v h2) ⟨Q, X⟩, noEx⟩, X⟩ := by
  unfold mMake; rw [wp_bind]; exact wc_eq fun ds h1 => by
    rw [wp_bind, wp_noX]
    rw [show (@Wc D (mFix n mm (.loc h1.length :: ds) (h1 ++ [.ins x []])) ⟨fun a h => @Wc D (fNon h1.length a h) ⟨Q, X⟩, noEx⟩) = _ from wp_fix]
    simp
@[simp] theorem v_fnon : fNon l .non h = .ok (.loc l) h := (rfl)
@[simp] theorem v_fld : fFld tb f (.loc l) h = match h[l]? with | some (.ins x fs) => if okF tb x f = true then match fs.lookup f with | some d => .ok d h | none => .stuck else .stuck | _ => .stuck := (rfl)
@[simp] theorem v_hasM : hasM h x m (.loc l) = match h[l]? with | some (.ins y fs) => decide (y = x) && (fs.lookup m).isNone | _ => false := (rfl)
@[simp] theorem v_isIns : isInsB h x (.loc l) = match h[l]? with | some (.ins y _) => decide (y = x) | _ => false := (rfl)
@[simp] theorem ws_fldS : @Ws (mFldS tb f mo mv env h) ⟨nx, rt, bk, ct, ex⟩ = @Wc D (mv env h) ⟨fun y h1 => @Wc D (mo env h1) ⟨fun o h2 => @Wc _ (fFldS tb f o y h2) ⟨fun _ h3 => nx env h3, fun x ns vs h => ex x ns vs env h⟩, fun x ns vs h => ex x ns vs env h⟩, fun x ns vs h => ex x ns vs env h⟩ := by
  unfold mFldS; rw [ws_of]; exact wc_eq fun _ _ => by rw [ws_of]; exact wc_eq fun _ _ => by rw [ws_of]; rfl
@[simp] theorem ws_aug {i : Nat} {f : D → D → M → Res D} {me : ME} : @Ws (mAug i f me env h) ⟨nx, rt, bk, ct, ex⟩ = match env[i]? with
    | some (.va d) => @Wc D (me env h) ⟨fun y h1 => @Wc D (f d y h1) ⟨fun z h2 => nx (env.set i (.va z)) h2, fun x ns vs h => ex x ns vs env h⟩, fun x ns vs h => ex x ns vs env h⟩
    | _ => False := by
  unfold mAug
  cases e : env[i]? with
  | none => rfl
  | some s => cases s with
    | va d => dsimp only; rw [ws_of, wp_bind]; rfl
    | _ => rfl
@[simp] theorem v_fldS {y : D} : fFldS tb f (.loc l) y h = match h[l]? with | some (.ins x fs) => if okF tb x f = true ∧ fs.length < 1000 then .ok () (h.set l (.ins x (putFD f y fs))) else .stuck | _ => .stuck := (rfl)
@[simp] theorem ws_fldA {g : Int → Int → Int} : @Ws (mFldA tb f g mo mv env h) ⟨nx, rt, bk, ct, ex⟩ = @Wc D (mo env h) ⟨fun o h1 => @Wc D (fFld tb f o h1) ⟨fun x0 h2 => @Wc D (mv env h2) ⟨fun y h3 => @Wc _ (fFldA f g o (clsAt h1 o) x0 y h3) ⟨fun _ h4 => nx env h4, fun x ns vs h => ex x ns vs env h⟩, fun x ns vs h => ex x ns vs env h⟩, fun x ns vs h => ex x ns vs env h⟩, fun x ns vs h => ex x ns vs env h⟩ := by
  unfold mFldA; rw [ws_of]; exact wc_eq fun _ _ => by rw [ws_of]; exact wc_eq fun _ _ => by rw [ws_of]; exact wc_eq fun _ _ => by rw [ws_of]; rfl
@[simp] theorem v_fldA {g : Int → Int → Int} {c : Option Str} : fFldA f g (.loc l) c (.int i) (.int j) h = match h[l]? with | some (.ins x fs) => if c = some x ∧ fs.length < 1000 then .ok () (h.set l (.ins x (putFD f (.int (g i j)) fs))) else .stuck | _ => .stuck := (rfl)
@[simp] theorem v_clsAt : clsAt h (.loc l) = match h[l]? with | some (.ins x _) => some x | _ => none := (rfl)
@[simp] theorem v_mulB : fMulB (.int i) (.int j) h = if CMulB i j then .ok (.int (i * j)) h else .stuck := by simp [fMulB, fI]
@[simp] theorem v_fIT {g : Int → Int → D} : fI (fun _ _ => True) g (.int i) (.int j) h = .ok (g i j) h := by simp [fI]
@[simp] theorem v_isNN : fIsNN .non h = .ok (.bl false) h := (rfl)
theorem cmulB {i j : Int} {a b : Nat} (ha : i.natAbs < 2 ^ a) (hb : j.natAbs < 2 ^ b) (h : a + b ≤ 134217728) : CMulB i j := by
  have h1 := PySem.intBits_le_iff.mpr ha
  have h2 := PySem.intBits_le_iff.mpr hb
  unfold CMulB; omega
end
end LF
set_option Elab.async false
set_option linter.all false
set_option maxRecDepth 100000
set_option maxHeartbeats 4000000
/-! LFK: loops and properties in a def that is called while an exception is handled. -/
namespace LF
open PySem PySem.Spec L2
open PyProof.Rows hiding St
theorem roomH_in1 {k : Nat} {A : Around} (r : L2H.RoomH (k + 1) A) : L2H.RoomH k A.in1 :=
  ⟨by have := r.dp; show A.depth + 3 * k + 5 < _; omega, by have := r.un; show A.units + 1 + 16 * k + 200 < _; omega⟩
theorem getpropH {X : Cx} {CX : CXT} {k : Nat} {C p g a dx : Addr} {fs : List (Str × V)} {f : Str} {fd : FuncData} {ps : List Str} {sp : Sp} {E : XK} {pins : List (Addr × Obj)} {σ : St} {H : Hp} {s : Shared} {Q : VK} {b : Bool} {E' : Value → Shared → Prop} (I : Inv X pins σ H s) (ea : H a = some (.ins C dx fs)) (c : Cls X.K C) (hp : PropOf X.K C f p g)
    (F : L2H.FnH X.prog X.w X.K X.mg X.base CX k g fd ps sp) (hr : L2H.RoomH (k + 1) X.A) (hc : L2H.HotC X) (hb : Binds X.K fd ps []) (hx : Passes CX X.nox E) (h : sp [.ref a] H Q E) :
    wpAny (model X.prog X.w) X.A (getAttr (.ref a) f b) (EP X pins σ Q) E' s := by
  obtain ⟨q, hot, hq⟩ := hc
  obtain ⟨mA, O, _, _, _, _⟩ := ins_get I.hok ea
  obtain ⟨od, J, _⟩ := O.look
  obtain ⟨rest, hrec⟩ := hp.rec_
  have I1 := I.tok (s.toks + 1)
  have hl : ([Value.ref a] ++ []).length = ps.length := F.len _ _ _ _ h
  have hcl : (PySem.W.clsIn X.K C).isSome = true := by
    obtain ⟨cd, z, _⟩ := PySem.W.any_some c.hd
    rw [z]; rfl
  have P1 := I1.pin q (List.mem_append_left _ hq)
  have hpin : L2H.PinOk X.stack H { s with toks := s.toks + 1 } q := ⟨P1.1, P1.2.1, fun hm => (List.mem_cons.mp (I1.stkSub q.1 hm)).elim P1.2.2.1 P1.2.2.2.1, P1.2.2.2.2⟩
  refine PySem.W.get_bind I.kIn J (PySem.W.plainGet_of (c.get f)).1 (PySem.W.findObj_data hcl hp.at_ hp.get hp.tak) (PySem.W.plainGet_of (c.get f)).2 (wpAny_call (PySem.W.prop_get (s := { s with toks := s.toks + 1 }) I.kIn hrec ?_))
  refine codeAny_mono (F.run X.A.in1 X.stack { s with toks := s.toks + 1 } H ⟨[.ref a], []⟩ [.ref a] [.ref a] Q E q (roomH_in1 hr) ⟨hot.1, hot.2⟩ hpin I1.env0.in1 (hb _ [.ref a] I1.kIn hl) (.cons rfl .nil) h) fun r s' hq => ?_
  cases r with
  | error er => exact False.elim (hx pins σ H { s with toks := s.toks + 1 } er s' (I1.wish _) hq)
  | ok fl =>
    cases fl with
    | ret u =>
      obtain ⟨v, H', I3, rv, q3⟩ := I1.after hq
      show wpAny _ _ (handedOut u) _ _ _
      rw [PySem.W.handedOut_of (handed_of rv)]
      exact wpAny_pure ⟨v, H', I3, rv, q3⟩
    | next => exact False.elim hq
    | brk => exact False.elim hq
    | cont => exact False.elim hq
structure PDefH (P : Program) (w : World) (K : PySem.W.Frag) (mg : Str → Option Value) (base : Heap) (x m : Str) (k : Nat) (mm : List D → M → Res D) : Prop where
  ex : ∃ C p f fd ps, ps.length = 1 ∧ mg x = some (.ref C) ∧ Cls K C ∧ PropOf K C m p f ∧ Binds K fd ps [] ∧ L2H.FnH P w K mg base (L2N.CX P w) k f fd ps (spF ⟨K, mg⟩ 1 mm)
section
variable {X : Cx} {W : WX} {ex : Ex} {tg e a o iter : Expr} {ma mo : ME} {mas : MA} {pos p : Pos} {x m : Str} {k : Nat} {mm : List D → M → Res D} {mi : MI} {g : MG} {sl : List Nat} {msb : MS} {body : List Stmt}
theorem fe_propH (F : PDefH X.prog X.w X.K X.mg X.base x m k mm) (hr : L2H.RoomH (k + 1) X.A) (hc : L2H.HotC X) (ho : FE X W ex o mo) (hab : attributeBase o m X.env (eval o X.env) = eval o X.env := by rfl) : FE X W ex (.Attribute o m pos) (mProp x mm mo) := by
  obtain ⟨C, p, f, fd, ps, h1, h2, c, hp, hb, F⟩ := F.ex
  have P0 : PE X (.Attribute o m pos) (fun σ H Q => rdE (wo X) ex W mo σ H fun v H1 => ∃ a dx ws, v = .ref a ∧ H1 a = some (.ins C dx ws) ∧ spF ⟨X.K, X.mg⟩ 1 mm [.ref a] H1 Q (fun _ _ _ => False)) := by
    refine ⟨fun pins s σ H Q I h => ?_⟩
    refine attr_of hab (thn (ho.run pins s σ H _ I h) fun u s1 ⟨x, H1, I1, rx, a, dx, fs, ex, ea, q⟩ => ?_)
    subst ex
    obtain rfl : u = Value.ref a := rx
    exact getpropH I1 ea c hp F hr hc hb (passN X.nox) q
  refine PE.imp P0 fun σ H Q q => ?_
  obtain ⟨ι, h, env, rel, re, po⟩ := q
  refine ⟨ι, h, env, rel, re, post_bind po fun d g1 ι1 H1 v eq p1 k1 rel1 rv po1 => ?_⟩
  split at po1
  case isFalse => exact po1.elim
  rename_i hh
  unfold isInsB at hh
  split at hh
  case h_2 => cases hh
  rename_i l
  split at hh
  case h_2 => cases hh
  rename_i y fs el
  simp only [decide_eq_true_eq] at hh
  subst hh
  obtain ⟨a, C', dx, ws, rfl, ea, gm, q, kk⟩ := at_inst rel1 rv el
  have g2 : X.mg y = some (.ref C') := gm
  rw [h2] at g2; cases g2
  exact ⟨a, dx, ws, rfl, q, rfl, ι1, g1, [.loc l], rel1, RVs.one rv, post_noX po1⟩
def FIH (X : Cx) (W : WX) (ex : Ex) (tg iter : Expr) (m : MI) : Prop := L2H.PIH X tg iter (rdI (wo X) ex W m)
theorem PIH.imp {t t' : TI} (p : L2H.PIH X tg iter t) (h : ∀ σ H Q, t' σ H Q → t σ H Q) : L2H.PIH X tg iter t' := ⟨fun pins s σ H R I q => p.run pins s σ H R I (h σ H R q)⟩
theorem fi_range1H (hm : X.mg "range" = none) (hs : FA X W ex [a] mas) (hone : ∀ env h ds h', mas env h = .ok ds h' → ds.length = 1) (hg : Gl X "range" := by rfl) (hst : starEach [a] X.env = [(false, eval a X.env)] := by rfl) : FIH X W ex tg (.Call (.Name "range" p) [a] [] pos) (mRng mas) := by
  refine PIH.imp (L2H.pi_range1H hg hm hs hst) fun σ H R q => ?_
  obtain ⟨ι, h, env, rel, re, po⟩ := q
  refine ⟨ι, h, env, rel, re, post_bind po fun ds h1 ι1 H1 vs eq1 p1 k1 rel1 rv1 po1 => ?_⟩
  have hl := hone _ _ _ _ eq1
  unfold fRng at po1
  split at po1
  · split at po1
    case isFalse => exact po1.elim
    rename_i hz
    obtain ⟨v, rfl, r⟩ := rv1.eq1
    simp only [RV] at r; subst r
    exact ⟨_, rfl, hz.1, hz.2, po_ok rel1 (rg_ok _ _) po1⟩
  · simp at hl
  · exact po1.elim
theorem fs_forH (hp : PassesOwn (model X.prog X.w) X.A X.env X.xe) (hc : L2H.HotC X) (hi : FIH X W ex tg iter mi) (hg : FG X W ex tg sl g) (hb : FSs X W ex body msb) (hs : ∀ x, foldedSetIterable iter X.env x = pure x := by intro _; rfl) :
    FS X W ex (.For tg iter body [] pos) (mFor mi g msb) := PS.imp (L2H.ps_forH hp hc hi hg hb hs) fun D σ H q => for_imp (sl := sl) q
end
section
variable {P : Program} {w : World} {K : PySem.W.Frag} {mg : Str → Option Value} {base : Heap} {N : List Str} {qual : Str} {sc : Scope} {f : Addr} {cd : Value} {A : Around} {outer : List Env} {s : Shared} {H : Hp} {E : XK} {x m : Str} {st : Stmt} {ps : List Str} {k : Nat} {mb : MS}
theorem poH {p : Addr × Obj} : PassesOwn (model P w) (L2H.cxH (L2N.CX P w) P w K mg base N qual sc f cd A outer s H E p).A (L2H.cxH (L2N.CX P w) P w K mg base N qual sc f cd A outer s H E p).env (L2H.cxH (L2N.CX P w) P w K mg base N qual sc f cd A outer s H E p).xe := passes_of rfl
theorem pdefHOf (T : PAt K mg x m qual st ps) (hp : ps.length = 1) (S : FnScope N ps (defScope st))
    (body : ∀ (f : Addr) (cdv : Value) (A : Around) (outer : List Env) (s : Shared) (H : Hp) (E : XK) (p : Addr × Obj), L2H.Hot1 A p → L2H.RoomH k (A.deeper (envOfC qual (defScope st) s.heap.objs.size f cdv)) →
      FSs (L2H.cxH (L2N.CX P w) P w K mg base N qual (defScope st) f cdv A outer s H E p) (fun c d _ H => E c d H) none (defBody st) mb) : PDefH P w K mg base x m (k + 1) (mFn N.length 1 mb) := by
  obtain ⟨C, p, f, fd, F, gx, c, me, hb⟩ := T.ex
  have F' : L2H.FnH P w K mg base (L2N.CX P w) (k + 1) f fd ps (spF ⟨K, mg⟩ ps.length (mFn N.length ps.length mb)) := okH F S (fun vs H Q E h => h.1) fun cdv A outer s H vs Q E p hot hr hsp => ⟨_, body f cdv A outer s H E p hot hr, body_end hsp⟩
  rw [hp] at F'
  exact ⟨C, p, f, fd, ps, hp, gx, c, me, .all hb, F'⟩
end
end LF
set_option Elab.async false
set_option linter.all false
set_option maxRecDepth 100000
set_option maxHeartbeats 4000000
/-! LFL: sum of a list of ints. -/
namespace LF
open PySem PySem.Spec L2
open PyProof.Rows hiding St
theorem vals_ints : ∀ {ns : List Int} {its : List Value}, Vals (ns.map V.int) its → ∃ ts : List (Int × Tok), its = ts.map (fun p => Value.int p.1 p.2) ∧ ts.map (·.1) = ns
  | [], its, r => by cases r; exact ⟨[], rfl, rfl⟩
  | n :: ns, its, r => by
    cases r with
    | cons r rr =>
      obtain ⟨t, rfl⟩ := r
      obtain ⟨ts, rfl, h2⟩ := vals_ints rr
      exact ⟨(n, t) :: ts, rfl, by simp [h2]⟩
theorem preSum_ints (ts : List (Int × Tok)) : PySem.preSum (PySem.numAt ts.toArray) ts.toArray.size = (ts.map (·.1)).sum := by
  rw [PySem.preSum_eq, List.take_of_length_le (by simp)]
theorem call_sumL {X : Cx} (hc : X.calm = true) : CallR X (.builtin "sum") (fun vs H Q => ∃ (q : Addr) (ns : List Int), vs = [.ref q] ∧ SqL X.K H q (ns.map V.int) ∧ Q (.int ns.sum) H) := by
  intro pins s σ H xs us Q I rv h
  obtain ⟨q, ns, rfl, hq, po⟩ := h
  obtain ⟨u, rfl, ru⟩ := rv.one
  cases ru
  obtain ⟨its, r, pl, hsz⟩ := I.list hq
  obtain ⟨ts, rfl, h2⟩ := vals_ints r
  have hl : s.heap.IsList q (PySem.intItems ts.toArray) := by
    have := pl.isList
    simpa [PySem.intItems] using this
  refine PySem.sum_intListG (I.ok.hd hc) hl fun h' tk t' hk => ?_
  rw [preSum_ints, h2]
  exact ⟨.int _, H, I.kept (t' := tk) hk, ⟨t', rfl⟩, po⟩
def intsD : List D → Option (List Int)
  | [] => some []
  | .int i :: ds => match intsD ds with | some ns => some (i :: ns) | none => none
  | _ => none
theorem intsD_ok {G : Wo} {ι : List Addr} {H : Hp} : ∀ {ds : List D} {vs : List V} {ns : List Int}, intsD ds = some ns → RVs G ι H ds vs → vs = ns.map V.int
  | [], vs, ns, e, r => by cases e; simp only [RVs] at r; subst r; rfl
  | .int i :: ds, vs, ns, e, r => by
    simp only [intsD] at e
    split at e
    · rename_i ms e1
      cases e
      simp only [RVs] at r
      obtain ⟨v, w, rfl, r1, r2⟩ := r
      simp only [RV] at r1
      subst r1
      rw [intsD_ok e1 r2]; rfl
    · cases e
@[simp] theorem intsD_map : ∀ ns : List Int, intsD (ns.map D.int) = some ns
  | [] => rfl
  | n :: ns => by simp [intsD, intsD_map ns]
def fSum (ds : List D) (h : M) : Res D := match ds with
  | [.loc l] => match h[l]? with
    | some (.lst xs) => match intsD xs with | some ns => .ok (.int ns.sum) h | none => .stuck
    | _ => .stuck
  | _ => .stuck
theorem fe_sum {X : Cx} {W : WX} {ex : Ex} {e : Expr} {es : List Expr} {mas : MA} {pos p : Pos} (hm : X.mg "sum" = none) (hs : FA X W ex (e :: es) mas) (hc : X.calm = true := by rfl) (hg : Gl X "sum" := by rfl) (he : starEach (e :: es) X.env = (false, eval e X.env) :: starEach es X.env := by rfl) (hpl : (backTo pos (starEach es X.env)).any (·.1) = false := by rfl) :
    FE X W ex (.Call (.Name "sum" p) (e :: es) [] pos) (mL fSum mas) := by
  refine fe_callB (call_sumL hc) (fun E ι H h xs vs Q rel rx po => ?_) hm (by decide +kernel) hs hg (by decide) (by decide) he hpl
  unfold fSum at po
  split at po
  case h_2 => exact po.elim
  split at po
  case h_2 => exact po.elim
  rename_i ys e1
  split at po
  case h_2 => exact po.elim
  rename_i ns e2
  obtain ⟨v, rfl, r⟩ := rx.eq1
  obtain ⟨a, ws, rfl, ea, q, r2⟩ := at_lst rel r e1
  have := intsD_ok e2 r2
  subst this
  exact ⟨a, ns, rfl, SqL.of q, po_ok rel (by simp [RV]) po⟩
end LF
set_option Elab.async false
set_option linter.all false
set_option maxRecDepth 100000
set_option maxHeartbeats 4000000
/-! LFE: dicts that are written, read with a default, copied, shortened; `is` of truths; isinstance of an own class; what is never reached. -/
namespace LF
open PySem PySem.Spec L2
open PyProof.Rows hiding St
section
variable {X : Cx} {W : WX} {ex : Ex} {e a b o i k f : Expr} {es : List Expr} {ma mb me mo mi mk mf : ME} {mas : MA} {pos pos' apos cpos tpos : Pos} {st : Stmt} {sts : List Stmt}
/-! ### what is never reached -/
def mStuckS : MS := fun _ _ => .stuck
theorem fs_stuck : FS X W ex st mStuckS := ⟨fun pins s σ H D I q => by
  obtain ⟨ι, h, env, rel, re, po⟩ := q
  exact po.elim⟩
/-! ### {} -/
def mNewK : ME := fun _ h => .ok (.loc h.length) (h ++ [.dK []])
theorem new_dK {G : Wo} {ι : List Addr} {H : Hp} {h : M} {kvs : List (Key × D)} {kws : List (Key × V)} (rel : Rel G ι H h) (r : RKs G ι H kvs kws) {p : Addr} (hp : H p = none) :
    ι <+: ι ++ [p] ∧ Keep H (upd H p (.dK kws)) ∧ Rel G (ι ++ [p]) (upd H p (.dK kws)) (h ++ [.dK kvs]) ∧ RV G (ι ++ [p]) (upd H p (.dK kws)) (.loc h.length) (.ref p) := by
  have pre : ι <+: ι ++ [p] := List.prefix_append ..
  have k : Keep H (upd H p (.dK kws)) := Keep.of_same (same_upd hp)
  refine ⟨pre, k, rel.push hp ⟨kws, upd_same, r.mono pre k⟩, ?_⟩
  simp only [RV]
  exact ⟨p, rfl, by rw [← rel.len]; simp⟩
theorem fe_dnew : FE X W ex (.Dict [] [] pos) mNewK := by
  refine PE.imp pe_dnewK fun σ H Q q p hp => ?_
  obtain ⟨ι, h, env, rel, re, po⟩ := q
  obtain ⟨a1, a2, a3, a4⟩ := new_dK rel RKs.nil hp
  exact po _ _ _ a1 a2 a3 a4
/-! ### {k: v, ..} -/
def mergeD (kvs more : List (Key × D)) : List (Key × D) := more.foldl (fun acc kv => putD acc kv.1 kv.2) kvs
theorem RKs.merge {G : Wo} {ι : List Addr} {H : Hp} : ∀ {more : List (Key × D)} {mw : List (Key × V)} {kvs : List (Key × D)} {kws : List (Key × V)}, RKs G ι H more mw → RKs G ι H kvs kws → RKs G ι H (mergeD kvs more) (mergeK kws mw)
  | [], mw, kvs, kws, r, r2 => by rw [r.nil_iff]; exact r2
  | (k, d) :: more, mw, kvs, kws, r, r2 => by
    obtain ⟨v, q, rfl, h1, h2⟩ := r.cons_iff
    exact RKs.merge (kvs := putD kvs k d) (kws := putK kws k v) h2 (r2.put h1)
/-- the pairs of a display run the row of their values -/
def FP (X : Cx) (W : WX) (ex : Ex) (pos : Pos) (keys : List (Option Expr)) (values : List Expr) (ks : List Key) (mas : MA) : Prop :=
  ∃ trs, PPs X pos keys values trs ∧ ∀ σ H (Q : List (V × V) → Hp → Prop), rdA (wo X) ex W mas σ H (fun vs H' => vs.length = ks.length → Q ((ks.map kV).zip vs) H') → tPairs trs σ H Q
theorem fp_nil : FP X W ex pos [] [] [] mNil := by
  refine ⟨[], pps_nil, fun σ H Q q => ?_⟩
  obtain ⟨ι, h, env, rel, re, po⟩ := q
  exact po_ok rel RVs.nil po rfl
theorem fp_cons {keys : List (Option Expr)} {values : List Expr} {ks : List Key} {x : Str} {j} (hv : FE X W ex e me) (hr : FP X W ex pos keys values ks mas) :
    FP X W ex pos (some (.Constant (.str x) j pos') :: keys) (e :: values) (.inr x :: ks) (mCons me mas) := by
  obtain ⟨trs, p, hq⟩ := hr
  refine ⟨_, pps_cons (fe_str (X := X) (W := W) (ex := ex) (i := x)) hv p, fun σ H Q q => ?_⟩
  obtain ⟨ι, h, env, rel, re, po⟩ := q
  refine ⟨ι, h, env, rel, re, fun ι0 H0 u p0 k0 rel0 ru => ?_⟩
  simp only [RV] at ru
  subst ru
  refine ⟨ι0, h, env, rel0, re.mono p0 k0, post_bind (Post.mono p0 k0 po) fun y h1 ι1 H1 v eq1 p1 k1 rel1 rv1 po1 => ?_⟩
  refine hq σ H1 _ ⟨ι1, h1, env, rel1, (re.mono p0 k0).mono p1 k1, post_bind po1 fun ys h2 ι2 H2 vs eq2 p2 k2 rel2 rv2 po2 hl => ?_⟩
  exact po_ok (v := v :: vs) rel2 (RVs.cons (RV.mono p2 k2 _ _ rv1) rv2) po2 (by simp [hl])
def mDisp (ks : List Key) (mas : MA) : ME := fun env h => (mas env (h ++ [.dK []])).bind fun ds h2 => match h2[h.length]? with
  | some (.dK []) => if ds.length = ks.length ∧ ks.length ≤ 15 then .ok (.loc h.length) (h2.set h.length (.dK (mergeD [] (ks.zip ds)))) else .stuck
  | _ => .stuck
theorem RKs.zip {G : Wo} {ι : List Addr} {H : Hp} : ∀ {ks : List Key} {ds : List D} {vs : List V}, RVs G ι H ds vs → ds.length = ks.length → RKs G ι H (ks.zip ds) (ks.zip vs)
  | [], [], vs, r, _ => by simp only [RVs] at r; subst r; exact RKs.nil
  | [], d :: ds, vs, r, e => by simp at e
  | k :: ks, [], vs, r, e => by simp at e
  | k :: ks, d :: ds, vs, r, e => by
    simp only [RVs] at r
    obtain ⟨v, q, rfl, h1, h2⟩ := r
    exact RKs.cons h1 (RKs.zip h2 (by simpa using e))
theorem zip_kV : ∀ (ks : List Key) (vs : List V), (ks.map kV).zip vs = (ks.zip vs).map fun kv => (kV kv.1, kv.2)
  | [], vs => by simp
  | k :: ks, [] => by simp
  | k :: ks, v :: vs => by simp [zip_kV ks vs]
theorem fe_disp {keys : List (Option Expr)} {values : List Expr} {ks : List Key} (hp : FP X W ex pos keys values ks mas) (hall : keys.all (·.isSome) = true := by rfl) (hl : keys.length = values.length := by rfl) (h0 : keys ≠ [] := by exact fun z => by cases z)
    (h15 : keys.length ≤ 15 := by decide) : FE X W ex (.Dict keys values pos) (mDisp ks mas) := by
  obtain ⟨trs, p, hq⟩ := hp
  refine PE.imp (pe_disp p hall hl h0 h15) fun σ H Q q a ha => ?_
  obtain ⟨ι, h, env, rel, re, po⟩ := q
  obtain ⟨a1, a2, a3, a4⟩ := new_dK rel RKs.nil ha
  refine hq σ _ _ ⟨_, _, env, a3, re.mono a1 a2, post_bind (Post.mono a1 a2 po) fun ds h2 ι2 H2 vs eq2 p2 k2 rel2 rv2 po2 hlen => ?_⟩
  split at po2
  case h_2 => exact po2.elim
  rename_i e2
  split at po2
  case isFalse => exact po2.elim
  rename_i hc
  obtain ⟨a', ws, ea, eb, q, r⟩ := at_dK rel2 (RV.mono p2 k2 _ _ a4) e2
  cases ea
  rw [r.nil_iff] at q
  refine ⟨q, (ks.zip vs), ?_, ?_, ?_⟩
  · exact zip_kV ks vs
  · rw [List.length_zip]; omega
  · have kp : Keep H2 (upd H2 a (.dK (mergeK [] (ks.zip vs)))) := by
      obtain ⟨u0, e0, nf, mu⟩ := rel2.tracked eb
      exact fun b o' eb f => by
        have : b ≠ a := fun z => by rw [z, e0] at eb; cases eb; exact nf f
        rw [upd_ne this]; exact eb
    have w := rel2.write (o := .dK (mergeD [] (ks.zip ds))) (u := .dK (mergeK [] (ks.zip vs))) eb ⟨_, upd_same, (RKs.merge (RKs.zip rv2 hc.1) RKs.nil).mono (List.prefix_refl _) kp⟩
    exact po2 _ _ _ (List.prefix_refl _) kp w.1 (RV.mono p2 (k2.trans kp) _ _ a4)
/-! ### d.get(k, x) -/
def isDictB (h : M) (x : D) : Bool := match x with
  | .loc l => match h[l]? with
    | some (.dK _) => true
    | some (.dT _) => true
    | _ => false
  | _ => false
def mGet2 (mo mi mk : ME) : ME := fun env h => (mo env h).bind fun x h1 => if isDictB h1 x = true then (mi env h1).bind fun y h2 => (mk env h2).bind fun z h3 => match dGet h3 x y with | some r => .ok (r.getD z) h3 | none => .stuck else .stuck
theorem isDictB_ok {G : Wo} {ι : List Addr} {H : Hp} {h : M} {x : D} {v : V} (rel : Rel G ι H h) (rv : RV G ι H x v) (e : isDictB h x = true) : ∃ a, v = .ref a ∧ IsD H a := by
  cases x with
  | loc l =>
    simp only [isDictB] at e
    split at e
    · rename_i kvs e1
      obtain ⟨a, ws, rfl, ea, q, r⟩ := at_dK rel rv e1
      exact ⟨a, rfl, .inl ⟨ws, .inl q⟩⟩
    · rename_i kvs e1
      obtain ⟨a, ws, rfl, ea, q, r⟩ := at_dT rel rv e1
      exact ⟨a, rfl, .inr ⟨ws, .inl q⟩⟩
    · cases e
  | _ => simp [isDictB] at e
theorem fe_get2 {n : Nat} (hr : L2H.RoomH n X.A) (ho : FE X W ex o mo) (he : FE X W ex e mi) (hf : FE X W ex f mk)
    (h1 : attributeBase o "get" X.env (eval o X.env) = eval o X.env := by rfl)
    (h2 : ((backTo cpos (starEach [e, f] X.env)).all (fun x => !x.1) && (backToKw cpos (keywordEach [] X.env)).all (fun x => x.1.isSome)
      && decide (([e, f] : List Expr).length + ([] : List Keyword).length + (if ([] : List Keyword).isEmpty then 0 else 1) < 30)) = true := by rfl)
    (h3 : (apos.endLine == cpos.line) = true := by rfl) (h4 : backTo cpos (starEach [e, f] X.env) = [(false, eval e X.env), (false, eval f X.env)] := by rfl) :
    FE X W ex (.Call (.Attribute o "get" apos) [e, f] [] cpos) (mGet2 mo mi mk) := by
  refine PE.imp (pe_dget2 (hu1 hr) ho he hf ⟨h1, h2, h3, h4⟩) fun σ H Q q => ?_
  obtain ⟨ι, h, env, rel, re, po⟩ := q
  refine ⟨ι, h, env, rel, re, post_bind po fun x g1 ι1 H1 v eq1 p1 k1 rel1 rv1 po1 => ?_⟩
  split at po1
  case isFalse => exact po1.elim
  rename_i hd
  obtain ⟨a, rfl, hd⟩ := isDictB_ok rel1 rv1 hd
  refine ⟨a, rfl, hd, ι1, g1, env, rel1, re.mono p1 k1, post_bind po1 fun y g2 ι2 H2 u eq2 p2 k2 rel2 rv2 po2 => ?_⟩
  refine ⟨ι2, g2, env, rel2, (re.mono p1 k1).mono p2 k2, post_bind po2 fun z g3 ι3 H3 t eq3 p3 k3 rel3 rv3 po3 => ?_⟩
  split at po3
  case h_2 => exact po3.elim
  rename_i r er
  obtain ⟨a', rv, ea, _, g, q1, q2⟩ := dGet_ok rel3 (RV.mono (p2.trans p3) (k2.trans k3) _ _ rv1) (RV.mono p3 k3 _ _ rv2) er
  cases ea
  refine ⟨rv, g, ?_⟩
  cases r with
  | none => rw [q2 rfl]; exact po_ok rel3 rv3 po3
  | some d =>
    obtain ⟨w, rfl, rw'⟩ := q1 d rfl
    exact po_ok rel3 rw' po3
/-! ### dict(d) -/
def fDictC (xs : List D) (h : M) : Res D := match xs with
  | [.loc l] => match h[l]? with
    | some (.dK kvs) => .ok (.loc h.length) (h ++ [.dK kvs])
    | _ => .stuck
  | _ => .stuck
theorem fe_dictC {p : Pos} (hm : X.mg "dict" = none) (hs : FA X W ex (e :: es) mas) (hg : Gl X "dict" := by rfl) (he : starEach (e :: es) X.env = (false, eval e X.env) :: starEach es X.env := by rfl) (hpl : (backTo pos (starEach es X.env)).any (·.1) = false := by rfl) :
    FE X W ex (.Call (.Name "dict" p) (e :: es) [] pos) (mL fDictC mas) := by
  refine fe_callTy call_dictD (fun E ι H h xs vs Q rel rx po => ?_) hm (by decide +kernel) hs hg (by decide) (by decide) he hpl
  unfold fDictC at po
  split at po
  case h_2 => exact po.elim
  split at po
  case h_2 => exact po.elim
  rename_i kvs e1
  obtain ⟨v, rfl, r⟩ := rx.eq1
  obtain ⟨a, ws, rfl, ea, q, r2⟩ := at_dK rel r e1
  refine ⟨a, ws, rfl, .inl q, fun p hp => ?_⟩
  obtain ⟨a1, a2, a3, a4⟩ := new_dK rel r2 hp
  exact po _ _ _ a1 a2 a3 a4
/-! ### del d[k] -/
def fDel (o i : D) (h : M) : Res Unit := match o with
  | .loc l => match h[l]? with
    | some (.dK kvs) => match keyD i with
      | some k => if (valD kvs k).isSome = true then .ok () (h.set l (.dK (dropD kvs k))) else .stuck
      | none => .stuck
    | _ => .stuck
  | _ => .stuck
def mDel (mo mi : ME) : MS := fun env h => SR.of (mo env h) env fun o h1 => SR.of (mi env h1) env fun i h2 => SR.of (fDel o i h2) env fun _ h3 => .nx env h3
theorem fs_ddel (ho : FE X W ex o mo) (hi : FE X W ex i mi) : FS X W ex (.Delete [.Subscript o i tpos] pos) (mDel mo mi) := by
  refine PS.imp (ps_ddel ho hi) fun D σ H q => ?_
  obtain ⟨ι, h, env, rel, re, po⟩ := q
  refine ⟨ι, h, env, rel, re, post_of re po fun y h1 ι1 H1 v eq1 p1 k1 rel1 rv1 po1 => ?_⟩
  refine ⟨ι1, h1, env, rel1, re.mono p1 k1, post_of (re.mono p1 k1) po1 fun d h2 ι2 H2 u eq2 p2 k2 rel2 rv2 po2 => ?_⟩
  unfold fDel at po2
  split at po2
  case h_2 => exact po2.elim
  rename_i l
  split at po2
  case h_2 => exact po2.elim
  rename_i kvs el
  split at po2
  case h_2 => exact po2.elim
  rename_i kk ek
  split at po2
  case isFalse => exact po2.elim
  rename_i hs
  obtain ⟨a, ws, rfl, ea, q, r⟩ := at_dK rel2 (RV.mono p2 k2 _ _ rv1) el
  refine ⟨a, ws, kk, rfl, q, keyD_ok rv2 ek, ?_, ?_⟩
  · obtain ⟨dd, ed⟩ := Option.isSome_iff_exists.mp hs
    obtain ⟨w, ew, _⟩ := r.val.1 dd ed
    rw [ew]; rfl
  · have kp : Keep H2 (upd H2 a (.dK (dropK ws kk))) := by
      obtain ⟨u0, e0, nf, mu⟩ := rel2.tracked ea
      exact fun b o' eb f => by
        have : b ≠ a := fun z => by rw [z, e0] at eb; cases eb; exact nf f
        rw [upd_ne this]; exact eb
    have w := rel2.write (o := .dK (dropD kvs kk)) (u := .dK (dropK ws kk)) ea ⟨_, upd_same, r.drop.mono (List.prefix_refl _) kp⟩
    exact ps_nx w.1 (((re.mono p1 k1).mono p2 k2).mono (List.prefix_refl _) kp) (PostS.mono (List.prefix_refl _) kp po2)
/-! ### a is True -/
def fIsB (x y : D) (h : M) : Res D := match x, y with
  | .bl a, .bl b => .ok (.bl (decide (a = b))) h
  | _, _ => .stuck
theorem fc_isB (ha : FE X W ex a ma) (hb : FE X W ex b mb) : FC X W ex .Is a b (m2 fIsB ma mb) := by
  refine fc_op op_isBl (fun E ι H h x y v u Q rel rx ry po => ?_) ha hb
  unfold fIsB at po
  split at po
  case h_2 => exact po.elim
  simp only [RV] at rx ry
  subst rx; subst ry
  exact ⟨_, _, rfl, rfl, po_ok rel (by simp [RV]) po⟩
/-! ### isinstance(x, C), C an own class, x of just this class -/
def fIsC (c : Str) (xs : List D) (h : M) : Res D := match xs with
  | [.loc l, .cls c'] => match h[l]? with
    | some (.ins x _) => if x = c ∧ c' = c then .ok (.bl true) h else .stuck
    | _ => .stuck
  | _ => .stuck
def ICs (K : PySem.W.Frag) (mg : Str → Option Value) (c : Str) : Prop := ∃ C, mg c = some (.ref C) ∧ C8.InsC K C
theorem fe_isC {p p2 : Pos} {c : Str} (ic : ICs X.K X.mg c) (hm : X.mg "isinstance" = none) (ho : FE X W ex o mo) (hdc : (c == ("__debug__" : Str)) = false := by decide) (hgc : Gl X c := by rfl) (hg : Gl X "isinstance" := by rfl)
    (h1 : starEach [o, .Name c p2] X.env = (false, eval o X.env) :: starEach [.Name c p2] X.env := by rfl) (h2 : starEach [.Name c p2] X.env = (false, eval (.Name c p2) X.env) :: starEach [] X.env := by rfl)
    (hpl : (backTo pos (starEach [.Name c p2] X.env)).any (·.1) = false := by rfl) :
    FE X W ex (.Call (.Name "isinstance" p) [o, .Name c p2] [] pos) (mL (fIsC c) (mCons mo (mCons (mC (.cls c)) mNil))) := by
  obtain ⟨C, hC, ic⟩ := ic
  refine fe_callB (C8.call_isC ic) (fun E ι H h xs vs Q rel rx po => ?_) hm (by decide +kernel) (fa_cons ho (fa_cons (fe_cls hC hgc hdc) fa_nil h2) h1) hg (by decide) (by decide) h1 hpl
  unfold fIsC at po
  split at po
  case h_2 => exact po.elim
  rename_i l c'
  split at po
  case h_2 => exact po.elim
  rename_i x fs el
  split at po
  case isFalse => exact po.elim
  rename_i hx
  obtain ⟨rfl, rfl⟩ := hx
  obtain ⟨v, u, rfl, r, r2⟩ := rx.eq2
  obtain ⟨a, C1, dx, ws, rfl, ea, g, q, kk⟩ := at_inst rel r el
  simp only [RV] at r2
  obtain ⟨C2, rfl, g2⟩ := r2
  have g3 : X.mg _ = some (.ref C1) := g
  have g4 : X.mg _ = some (.ref C2) := g2
  rw [hC] at g3 g4
  cases g3
  cases g4
  exact ⟨a, dx, ws, rfl, q, po_ok rel (by simp [RV]) po⟩
end
end LF
set_option Elab.async false
set_option linter.all false
set_option maxRecDepth 100000
set_option maxHeartbeats 4000000
/-! LFQ: the logic of dicts. -/
namespace LF
open PySem PySem.Spec L2
open PyProof.Rows hiding St
section
variable {Q : D → M → Prop} {X : XP} {env : En} {h : M} {nx : En → M → Prop} {rt : D → M → Prop} {bk ct : En → M → Prop} {ex : Str → List Str → List D → En → M → Prop} {ma mb mo mi mk mv : ME} {mas : MA} {l : Nat}
@[simp] theorem wp_newK : @Wc D (mNewK env h) ⟨Q, X⟩ = Q (.loc h.length) (h ++ [.dK []]) := (rfl)
@[simp] theorem wp_disp {ks : List Key} : @Wc D (mDisp ks mas env h) ⟨Q, X⟩ = @Wc (List D) (mas env (h ++ [.dK []])) ⟨fun ds h2 => h2[h.length]? = some (.dK []) ∧ (ds.length = ks.length ∧ ks.length ≤ 15) ∧ Q (.loc h.length) (h2.set h.length (.dK (mergeD [] (ks.zip ds)))), X⟩ := by
  unfold mDisp; rw [wp_bind]
  exact wc_eq fun ds h2 => by
    split
    · rename_i e
      rw [wp_guard]; simp only [e, true_and]; rfl
    · rename_i e
      exact propext ⟨fun z => z.elim, fun z => e z.1⟩
@[simp] theorem wp_get2 : @Wc D (mGet2 mo mi mk env h) ⟨Q, X⟩ = @Wc D (mo env h) ⟨fun x h1 => isDictB h1 x = true ∧ @Wc D (mi env h1) ⟨fun y h2 => @Wc D (mk env h2) ⟨fun z h3 => match dGet h3 x y with | some r => Q (r.getD z) h3 | none => False, X⟩, X⟩, X⟩ := by
  unfold mGet2; rw [wp_bind]
  exact wc_eq fun x h1 => by
    rw [wp_guard, wp_bind]
    congr 1
    exact wc_eq fun y h2 => by
      rw [wp_bind]
      exact wc_eq fun z h3 => by split <;> rename_i e <;> simp [e]
@[simp] theorem v_dictC : fDictC [.loc l] h = match h[l]? with | some (.dK kvs) => .ok (.loc h.length) (h ++ [.dK kvs]) | _ => .stuck := (rfl)
@[simp] theorem ws_del : @Ws (mDel mo mi env h) ⟨nx, rt, bk, ct, ex⟩ = @Wc D (mo env h) ⟨fun o h1 => @Wc D (mi env h1) ⟨fun i h2 => @Wc _ (fDel o i h2) ⟨fun _ h3 => nx env h3, fun x ns vs h => ex x ns vs env h⟩, fun x ns vs h => ex x ns vs env h⟩, fun x ns vs h => ex x ns vs env h⟩ := by
  unfold mDel; rw [ws_of]; exact wc_eq fun _ _ => by rw [ws_of]; exact wc_eq fun _ _ => by rw [ws_of]; rfl
@[simp] theorem v_isB {a b : Bool} : fIsB (.bl a) (.bl b) h = .ok (.bl (decide (a = b))) h := (rfl)
@[simp] theorem ws_stuckS : @Ws (mStuckS env h) ⟨nx, rt, bk, ct, ex⟩ = False := (rfl)
/-! ### dicts as rows of pairs -/
theorem valD_put {κ : Type} [DecidableEq κ] {kvs : List (κ × D)} {k k' : κ} {d : D} : valD (putD kvs k d) k' = if k' = k then some d else valD kvs k' := by
  unfold putD
  split
  · rename_i ha
    induction kvs with
    | nil => simp at ha
    | cons p kvs ih =>
      obtain ⟨a, b⟩ := p
      simp only [List.any_cons, Bool.or_eq_true, decide_eq_true_eq] at ha
      by_cases hk : a = k
      · subst hk
        simp only [List.map_cons, if_true]
        by_cases hk' : a = k'
        · subst hk'; simp [valD]
        · simp only [valD, List.find?_cons, hk', decide_false, Bool.false_eq_true, if_false, ne_eq, if_neg (Ne.symm hk')]
          clear ih ha
          induction kvs with
          | nil => rfl
          | cons q kvs ih =>
            obtain ⟨x, y⟩ := q
            simp only [List.map_cons, List.find?_cons]
            by_cases hx : x = a
            · subst hx; simp only [if_true, hk', decide_false]; exact ih
            · simp only [if_neg hx]
              by_cases hx' : x = k'
              · simp [hx']
              · simp only [hx', decide_false]; exact ih
      · simp only [List.map_cons, if_neg hk]
        have ih := ih (by simpa [hk] using ha)
        by_cases hk' : a = k'
        · subst hk'; simp [valD, hk]
        · simp only [valD, List.find?_cons, hk', decide_false] at ih ⊢; exact ih
  · rename_i ha
    unfold valD
    rw [List.find?_append]
    by_cases hk : k' = k
    · subst hk
      have : kvs.find? (fun kv => decide (kv.1 = k')) = none := by
        rw [List.find?_eq_none]
        intro x hx hc
        exact ha (List.any_eq_true.mpr ⟨x, hx, hc⟩)
      simp [this]
    · rw [if_neg hk]
      cases kvs.find? (fun kv => decide (kv.1 = k')) with
      | some z => rfl
      | none => simp [Ne.symm hk]
theorem putD_len {κ : Type} [DecidableEq κ] {kvs : List (κ × D)} {k : κ} {d : D} : (putD kvs k d).length ≤ kvs.length + 1 := by
  unfold putD; split <;> simp
theorem valD_drop {κ : Type} [DecidableEq κ] {kvs : List (κ × D)} {k k' : κ} : valD (dropD kvs k) k' = if k' = k then none else valD kvs k' := by
  induction kvs with
  | nil => simp [dropD, valD]
  | cons p kvs ih =>
    obtain ⟨a, b⟩ := p
    unfold dropD at ih ⊢
    unfold valD at ih ⊢
    by_cases hk : a = k
    · subst hk
      rw [List.filter_cons_of_neg (by simp), ih]
      by_cases hk' : k' = a
      · rw [if_pos hk', if_pos hk']
      · rw [if_neg hk', if_neg hk', List.find?_cons]
        simp [Ne.symm hk']
    · rw [List.filter_cons_of_pos (by simpa using hk), List.find?_cons, List.find?_cons]
      by_cases hk' : a = k'
      · subst hk'; simp [hk]
      · simp only [hk', decide_false]; exact ih
theorem dropD_len {κ : Type} [DecidableEq κ] {kvs : List (κ × D)} {k : κ} : (dropD kvs k).length ≤ kvs.length := List.length_filter_le _ _
section
variable {kvs : List (Key × D)} {i : Int} {s : Str} {v : D}
theorem d_get (e : h[l]? = some (.dK kvs)) : dGet h (.loc l) (.int i) = some (valD kvs (.inl i)) := by simp only [dGet, e, keyD, Option.map_some]
theorem d_isB (e : h[l]? = some (.dK kvs)) : isDictB h (.loc l) = true := by simp only [isDictB, e]
theorem d_ix (e : h[l]? = some (.dK kvs)) (hv : valD kvs (.inl i) = some v) : fIx (.loc l) (.int i) h = .ok v h := by simp [e, hv]
theorem d_ixS (e : h[l]? = some (.dK kvs)) (hv : valD kvs (.inr s) = some v) : fIx (.loc l) (.str s) h = .ok v h := by
  unfold fIx seqOf; simp only [tupOf, lstOf, dGet, keyD, e, Option.map_some, hv]
theorem d_put (e : h[l]? = some (.dK kvs)) (hz : kvs.length < sizeLine) : fPut (.loc l) (.int i) v h = .ok () (h.set l (.dK (putD kvs (.inl i) v))) := by simp only [fPut, e, keyD, hz, if_true]
theorem d_putS (e : h[l]? = some (.dK kvs)) (hz : kvs.length < sizeLine) : fPut (.loc l) (.str s) v h = .ok () (h.set l (.dK (putD kvs (.inr s) v))) := by simp only [fPut, e, keyD, hz, if_true]
theorem d_in (e : h[l]? = some (.dK kvs)) : fIn (.int i) (.loc l) h = .ok (.bl (valD kvs (.inl i)).isSome) h := by
  simp only [fIn, fInN, inD, seqOf, tupOf, lstOf, e, d_get e, Option.map_some]; rfl
theorem d_del (e : h[l]? = some (.dK kvs)) (hv : (valD kvs (.inl i)).isSome = true) : fDel (.loc l) (.int i) h = .ok () (h.set l (.dK (dropD kvs (.inl i)))) := by simp only [fDel, e, keyD, hv, if_true]
end
end
end LF
set_option Elab.async false
set_option linter.all false
set_option maxRecDepth 100000
set_option maxHeartbeats 4000000
/-! LFR: raise X() of an own exception without fields. -/
namespace LF
open PySem PySem.Spec L2
open PyProof.Rows hiding St
/-- what is asked of an own exception that has no __init__ of its own -/
def Exc0 (K : PySem.W.Frag) (mg : Str → Option Value) (x : Str) : Prop := ∃ (C : Addr) (bmB : List Value) (B newId initId : String), ExcBaseFacts B newId initId bmB ∧ PySem.W.excIn K C bmB newId = true ∧ mg x = some (.ref C) ∧ PySem.W.keepIn K (.ref C) = true ∧
  PySem.W.subIn K (.ref C) (.type "BaseException") = some true ∧ PySem.W.typeIn K (.ref C) = some (.type "type")
theorem pmk_own0 {X : Cx} {C : Addr} {bmB : List Value} {B newId initId : String} {x : Str} {p pos : Pos} (F : ExcBaseFacts B newId initId bmB) (q : PySem.W.excIn X.K C bmB newId = true) (gC : X.mg x = some (.ref C)) (kC : PySem.W.keepIn X.K (.ref C) = true) (r : Raises X (.ref C)) (hg : Gl X x)
    (hdb : (x == ("__debug__" : Str)) = false := by decide) : L2N.PMk X (.Call (.Name x p) [] [] pos) (fun _ H Q => Q (.ref C) none H) := by
  intro pins s σ H Q I h
  refine wpAny_Call_Name_kw (ld_glob I hg gC ?_ hdb)
  refine PySem.W.callWith_K0 I.kIn kC ?_
  obtain ⟨bm, N, nm, qn, bs, hdct, sn, sub, ab, col, dd, k0, k1, k2, k3, k5, mN, hC, hN, hni, T⟩ := exc_obj I.kIn q
  refine wpAny_call_exc_subT F T hC hN hni (fun h' e hm => ?_) (by show 0 ≤ sizeLine; omega)
  exact L2N.mk_of I hm r h (I.hok.gone hm.new)
def mRaise0 (x : Str) : MS := fun env h => .exc x [] [] env h
section
variable {X : Cx} {W : WX} {ex : Ex} {x : Str} {p pos pos' : Pos} {k : Nat}
theorem fs_raise0 (T : Exc0 X.K X.mg x) (tk : L2N.Takes X W) (hc : X.calm = true := by rfl) (hg : Gl X x := by rfl) (hdb : (x == ("__debug__" : Str)) = false := by decide) :
    FS X W ex (.Raise (some (.Call (.Name x p) [] [] pos)) none pos') (mRaise0 x) := by
  obtain ⟨C, bmB, B, newId, initId, F, q, gx, kC, h1, h2⟩ := T
  refine PS.imp (L2N.ps_raise hc tk (pmk_own0 F q gx kC (raises_own h1 h2) hg hdb)) fun D σ H q => ?_
  obtain ⟨ι, h, env, rel, re, po⟩ := q
  exact po ι H σ C none (List.prefix_refl _) (Keep.refl _) rel re gx ⟨rfl, [], .inl ⟨rfl, rfl⟩, RVs.nil⟩
end
section
variable {env : En} {h : M} {nx : En → M → Prop} {rt : D → M → Prop} {bk ct : En → M → Prop} {ex : Str → List Str → List D → En → M → Prop} {x : Str}
@[simp] theorem ws_raise0 : @Ws (mRaise0 x env h) ⟨nx, rt, bk, ct, ex⟩ = ex x [] [] env h := (rfl)
end
end LF
set_option Elab.async false
set_option linter.all false
set_option maxRecDepth 100000
set_option maxHeartbeats 4000000
/-! MA00: names as numbers to the base of 38. -/
namespace NW
open PySem L2 LF
def SGL : List Nat := [48, 49, 50, 51, 52, 53, 54, 55, 56, 57, 95, 97, 98, 99, 100, 101, 102, 103, 104, 105, 106, 107, 108, 109, 110, 111, 112, 113, 114, 115, 116, 117, 118, 119, 120, 121, 122]
theorem sg_lit : ("0123456789_abcdefghijklmnopqrstuvwxyz" : Str) = T SGL := by decide +kernel
theorem nil_lit : ("" : Str) = T [] := by decide +kernel
def sg (c : Nat) : Nat := SGL.getD c 0
theorem sg_at {c : Nat} (h : c < 37) : SGL[c]? = some (sg c) := by
  have hl : c < SGL.length := h
  unfold sg
  rw [List.getElem?_eq_getElem hl, List.getD_eq_getElem?_getD, List.getElem?_eq_getElem hl]; rfl
theorem sg_mem {c : Nat} (h : c < 37) : sg c ∈ SGL := List.mem_of_getElem? (sg_at h)
theorem sg_of {x : Nat} (h : x ∈ SGL) : ∃ c, c < 37 ∧ sg c = x := by
  obtain ⟨c, hc⟩ := List.mem_iff_getElem?.mp h
  have hl : c < 37 := (List.getElem?_eq_some_iff.mp hc).1
  exact ⟨c, hl, by rw [sg_at hl] at hc; exact Option.some.inj hc⟩
theorem sg_occ : ∀ c, c < 37 → Builtin.Str.occurrences (T SGL) (T [sg c]) 0 (T SGL).length 1 = [c] := by decide +kernel
theorem sg_lt : ∀ c, c < 37 → ∀ d, d < 37 → (sg c < sg d ↔ c < d) := by decide +kernel
theorem sg_inj {c d : Nat} (hc : c < 37) (hd : d < 37) (e : sg c = sg d) : c = d := by
  have h1 := sg_lt c hc d hd
  have h2 := sg_lt d hd c hc
  omega
theorem sg_find {c : Nat} (h : c < 37) : Txt.find (T SGL) (T [sg c]) = (c : Int) := by
  unfold Txt.find; rw [sg_occ c h]
/-- a name: 1 to 11 codes -/
structure IsN (cs : List Nat) : Prop where
  lo : 1 ≤ cs.length
  hi : cs.length ≤ 11
  all : ∀ c ∈ cs, c < 37
def nm (cs : List Nat) : List Nat := cs.map sg
@[simp] theorem nm_len {cs : List Nat} : (nm cs).length = cs.length := by simp [nm]
theorem nm_inj {a b : List Nat} (ha : ∀ c ∈ a, c < 37) (hb : ∀ c ∈ b, c < 37) (e : nm a = nm b) : a = b := by
  induction a generalizing b with
  | nil => cases b with
    | nil => rfl
    | cons d b => cases e
  | cons c a ih => cases b with
    | nil => cases e
    | cons d b =>
      simp only [nm, List.map_cons, List.cons.injEq] at e
      rw [sg_inj (ha c (by simp)) (hb d (by simp)) e.1, ih (fun x m => ha x (by simp [m])) (fun x m => hb x (by simp [m])) e.2]
/-! ### digits -/
def VL (ds : List Nat) : Int := ds.foldl (fun (w : Int) (d : Nat) => w * 38 + d) 0
theorem VL_snoc {ds : List Nat} {d : Nat} : VL (ds ++ [d]) = VL ds * 38 + d := by simp [VL]
theorem VL_app (a b : List Nat) : VL (a ++ b) = VL a * 38 ^ b.length + VL b := by
  have key : ∀ (b : List Nat) (w : Int), b.foldl (fun (w : Int) (d : Nat) => w * 38 + d) w = w * 38 ^ b.length + VL b := by
    intro b
    induction b with
    | nil => intro w; simp [VL]
    | cons d b ih =>
      intro w
      unfold VL
      rw [List.foldl_cons, List.foldl_cons, ih, ih, List.length_cons, Int.pow_succ]
      have : (0 * 38 + (d : Int)) = d := by omega
      rw [this, Int.add_mul, Int.mul_assoc, Int.mul_comm 38, Int.add_assoc]
  unfold VL
  rw [List.foldl_append, key]; rfl
theorem VL_bound {ds : List Nat} (h : ∀ d ∈ ds, d < 38) : 0 ≤ VL ds ∧ VL ds < 38 ^ ds.length := by
  induction ds with
  | nil => simp [VL]
  | cons d ds ih =>
    have ih := ih fun x m => h x (by simp [m])
    have e : VL (d :: ds) = (d : Int) * 38 ^ ds.length + VL ds := by
      have := VL_app [d] ds
      simpa [VL] using this
    have hd := h d (by simp)
    have hp : (0 : Int) < 38 ^ ds.length := Int.pow_pos (by decide)
    have h1 : (d : Int) * 38 ^ ds.length ≤ 37 * 38 ^ ds.length := Int.mul_le_mul_of_nonneg_right (by omega) (by omega)
    have h0 : 0 ≤ (d : Int) * 38 ^ ds.length := Int.mul_nonneg (by omega) (by omega)
    rw [e, List.length_cons, Int.pow_succ]
    omega
theorem VL_mod {ds : List Nat} {d : Nat} (hd : d < 38) : VL (ds ++ [d]) % 38 = d ∧ VL (ds ++ [d]) / 38 = VL ds := by
  rw [VL_snoc]; omega
theorem VL_zeros (n : Nat) : VL (List.replicate n 0) = 0 := by
  induction n with
  | zero => rfl
  | succ n ih => rw [List.replicate_succ', VL_snoc, ih]; rfl
/-- the digits of a number -/
def dgs : Nat → Int → List Nat
  | 0, _ => []
  | n + 1, w => dgs n (w / 38) ++ [(w % 38).toNat]
theorem dgs_len : ∀ (n : Nat) (w : Int), (dgs n w).length = n
  | 0, _ => rfl
  | n + 1, w => by simp [dgs, dgs_len n]
theorem dgs_lt : ∀ (n : Nat) (w : Int), ∀ d ∈ dgs n w, d < 38
  | 0, _, d, h => by simp [dgs] at h
  | n + 1, w, d, h => by
    simp only [dgs, List.mem_append, List.mem_singleton] at h
    rcases h with h | rfl
    · exact dgs_lt n _ d h
    · omega
theorem dgs_val : ∀ (n : Nat) (w : Int), 0 ≤ w → w < 38 ^ n → VL (dgs n w) = w
  | 0, w, h0, h1 => by simp at h1; simp [dgs, VL]; omega
  | n + 1, w, h0, h1 => by
    rw [Int.pow_succ] at h1
    have h2 : w / 38 < 38 ^ n := Int.ediv_lt_of_lt_mul (by decide) h1
    rw [dgs, VL_snoc, dgs_val n _ (by omega) h2]
    omega
/-- read from the right: the codes, if no digit is missing among them -/
def fs : List Nat → Option (List Nat)
  | [] => some []
  | d :: s => match fs s with
    | none => none
    | some cs => if 0 < d then some ((d - 1) :: cs) else if cs = [] then some [] else none
theorem fs_app_none {a b : List Nat} (h : fs b = none) : fs (a ++ b) = none := by
  induction a with
  | nil => exact h
  | cons d a ih => simp [fs, ih]
theorem fs_zeros (k : Nat) : fs (List.replicate k 0) = some [] := by
  induction k with
  | zero => rfl
  | succ k ih => simp [List.replicate_succ, fs, ih]
theorem fs_gap {k d : Nat} {q : List Nat} (hk : 0 < k) (hd : 0 < d) : fs (List.replicate k 0 ++ d :: q) = none := by
  induction k with
  | zero => omega
  | succ k ih =>
    rw [List.replicate_succ, List.cons_append]
    cases k with
    | zero =>
      simp only [List.replicate_zero, List.nil_append, fs]
      cases fs q with
      | none => rfl
      | some cs => simp [hd]
    | succ k =>
      have := ih (by omega)
      simp only [fs, this]
theorem fs_codes {cs : List Nat} {k : Nat} : fs (cs.map (· + 1) ++ List.replicate k 0) = some cs := by
  induction cs with
  | nil => simpa using fs_zeros k
  | cons c cs ih => simp [fs, ih]
theorem fs_len {ds cs : List Nat} (h : fs ds = some cs) : cs.length ≤ ds.length := by
  induction ds generalizing cs with
  | nil => cases h; simp
  | cons d ds ih =>
    simp only [fs] at h
    split at h
    · cases h
    · rename_i c e
      have := ih e
      split at h
      · cases h; simp; omega
      · split at h
        · cases h; simp
        · cases h
theorem fs_lt {ds cs : List Nat} (hd : ∀ d ∈ ds, d < 38) (h : fs ds = some cs) : ∀ c ∈ cs, c < 37 := by
  induction ds generalizing cs with
  | nil => cases h; simp
  | cons d ds ih =>
    simp only [fs] at h
    split at h
    · cases h
    · rename_i c e
      have := ih (fun x m => hd x (by simp [m])) e
      have h1 := hd d (by simp)
      split at h
      · cases h
        intro x hx
        simp only [List.mem_cons] at hx
        rcases hx with rfl | hx
        · omega
        · exact this x hx
      · split at h
        · cases h; simp
        · cases h
/-- the digits of a name -/
def pad (cs : List Nat) : List Nat := cs.map (· + 1) ++ List.replicate (11 - cs.length) 0
def W (cs : List Nat) : Int := VL (pad cs)
theorem pad_len {cs : List Nat} (h : cs.length ≤ 11) : (pad cs).length = 11 := by simp [pad]; omega
theorem pad_lt {cs : List Nat} (h : ∀ c ∈ cs, c < 37) : ∀ d ∈ pad cs, d < 38 := by
  intro d hd
  simp only [pad, List.mem_append, List.mem_map, List.mem_replicate] at hd
  rcases hd with ⟨c, hc, rfl⟩ | ⟨_, rfl⟩
  · have := h c hc; omega
  · decide
theorem pad_fs {cs : List Nat} : fs (pad cs) = some cs := fs_codes
theorem fs_pad {ds cs : List Nat} (h : fs ds = some cs) : ds = cs.map (· + 1) ++ List.replicate (ds.length - cs.length) 0 := by
  induction ds generalizing cs with
  | nil => cases h; rfl
  | cons d ds ih =>
    simp only [fs] at h
    split at h
    · cases h
    · rename_i c e
      have i := ih e
      have l := fs_len e
      split at h
      · rename_i hd
        cases h
        simp only [List.map_cons, List.length_cons, List.cons_append]
        rw [show ds.length + 1 - (c.length + 1) = ds.length - c.length from by omega, ← i]
        congr 1; omega
      · rename_i hd
        split at h
        · rename_i hc
          cases h
          subst hc
          have : d = 0 := by omega
          subst this
          simp only [List.map_nil, List.nil_append, List.length_nil, Nat.sub_zero, List.length_cons] at i ⊢
          rw [List.replicate_succ, ← i]
        · cases h
theorem W_bound {cs : List Nat} (h : IsN cs) : 0 < W cs ∧ W cs < 238572050223552512 := by
  have h1 := VL_bound (pad_lt h.all)
  rw [pad_len h.hi] at h1
  refine ⟨?_, ?_⟩
  · unfold W
    obtain ⟨c, cs', e⟩ : ∃ c cs', cs = c :: cs' := by
      cases cs with
      | nil => have := h.lo; simp at this
      | cons c cs' => exact ⟨c, cs', rfl⟩
    have e2 : pad cs = [c + 1] ++ (cs'.map (· + 1) ++ List.replicate (11 - cs.length) 0) := by unfold pad; rw [e]; rfl
    rw [e2, VL_app]
    have h2 : 0 ≤ VL (cs'.map (· + 1) ++ List.replicate (11 - cs.length) 0) := (VL_bound fun d hd => by
      refine pad_lt h.all d ?_
      rw [e2]; exact List.mem_append_right _ hd).1
    have hp : (0 : Int) < 38 ^ (cs'.map (· + 1) ++ List.replicate (11 - cs.length) 0).length := Int.pow_pos (by decide)
    have h3 : VL [c + 1] = (c + 1 : Nat) := by simp [VL]
    rw [h3]
    have h4 : 0 < ((c + 1 : Nat) : Int) * 38 ^ (cs'.map (· + 1) ++ List.replicate (11 - cs.length) 0).length := Int.mul_pos (by omega) hp
    omega
  · have : (38 : Int) ^ 11 = 238572050223552512 := by decide
    unfold W; omega
/-! ### order -/
def VP : Nat → List Nat → Int
  | 0, _ => 0
  | _ + 1, [] => 0
  | n + 1, c :: cs => (c + 1 : Nat) * 38 ^ n + VP n cs
theorem VP_bound : ∀ (n : Nat) (cs : List Nat), (∀ c ∈ cs, c < 37) → 0 ≤ VP n cs ∧ VP n cs < 38 ^ n
  | 0, _, _ => by simp [VP]
  | n + 1, [], _ => by
    have hp : (0 : Int) < 38 ^ (n + 1) := Int.pow_pos (by decide)
    simp only [VP]; omega
  | n + 1, c :: cs, h => by
    have ih := VP_bound n cs fun x m => h x (by simp [m])
    have hc := h c (by simp)
    have hp : (0 : Int) < 38 ^ n := Int.pow_pos (by decide)
    have h1 : ((c + 1 : Nat) : Int) * 38 ^ n ≤ 37 * 38 ^ n := Int.mul_le_mul_of_nonneg_right (by omega) (by omega)
    have h0 : 0 ≤ ((c + 1 : Nat) : Int) * 38 ^ n := Int.mul_nonneg (by omega) (by omega)
    simp only [VP, Int.pow_succ]
    omega
theorem VP_val : ∀ (n : Nat) (cs : List Nat), cs.length ≤ n → VL (cs.map (· + 1) ++ List.replicate (n - cs.length) 0) = VP n cs
  | 0, [], _ => rfl
  | n + 1, [], _ => by simpa [VP] using VL_zeros (n + 1)
  | n + 1, c :: cs, h => by
    have h' : cs.length ≤ n := by simpa using h
    have e : (c :: cs).map (· + 1) ++ List.replicate (n + 1 - (c :: cs).length) 0 = [c + 1] ++ (cs.map (· + 1) ++ List.replicate (n - cs.length) 0) := by
      simp
    rw [e, VL_app, VP_val n cs h']
    have hl : (cs.map (· + 1) ++ List.replicate (n - cs.length) 0).length = n := by simp; omega
    rw [hl]
    simp [VP, VL]
theorem W_VP {cs : List Nat} (h : cs.length ≤ 11) : W cs = VP 11 cs := VP_val 11 cs h
theorem VP_cmp : ∀ (n : Nat) (a b : List Nat), a.length ≤ n → b.length ≤ n → (∀ c ∈ a, c < 37) → (∀ c ∈ b, c < 37) → (nm a < nm b ↔ VP n a < VP n b) ∧ (a = b ↔ VP n a = VP n b)
  | 0, a, b, ha, hb, _, _ => by
    have : a = [] := List.eq_nil_of_length_eq_zero (by omega)
    subst this
    have : b = [] := List.eq_nil_of_length_eq_zero (by omega)
    subst this
    simp [VP, nm]
  | n + 1, [], [], _, _, _, _ => by simp [VP, nm]
  | n + 1, [], d :: b, _, _, _, hb => by
    have h1 := VP_bound n b fun x m => hb x (by simp [m])
    have hp : (0 : Int) < 38 ^ n := Int.pow_pos (by decide)
    have h4 : 0 < ((d + 1 : Nat) : Int) * 38 ^ n := Int.mul_pos (by omega) hp
    simp only [VP, nm, List.map_nil, List.map_cons]
    refine ⟨⟨fun _ => by omega, fun _ => List.nil_lt_cons _ _⟩, ⟨fun e => (by cases e), fun e => (by omega)⟩⟩
  | n + 1, c :: a, [], _, _, ha, _ => by
    have h1 := VP_bound n a fun x m => ha x (by simp [m])
    have hp : (0 : Int) < 38 ^ n := Int.pow_pos (by decide)
    have h4 : 0 < ((c + 1 : Nat) : Int) * 38 ^ n := Int.mul_pos (by omega) hp
    simp only [VP, nm, List.map_nil, List.map_cons]
    refine ⟨⟨fun h => absurd h (List.not_lt_nil _), fun _ => by omega⟩, ⟨fun e => (by cases e), fun e => (by omega)⟩⟩
  | n + 1, c :: a, d :: b, hla, hlb, ha, hb => by
    have ih := VP_cmp n a b (by simpa using hla) (by simpa using hlb) (fun x m => ha x (by simp [m])) (fun x m => hb x (by simp [m]))
    have b1 := VP_bound n a fun x m => ha x (by simp [m])
    have b2 := VP_bound n b fun x m => hb x (by simp [m])
    have hc := ha c (by simp)
    have hd := hb d (by simp)
    have hp : (0 : Int) < 38 ^ n := Int.pow_pos (by decide)
    have e1 : nm (c :: a) < nm (d :: b) ↔ c < d ∨ (c = d ∧ nm a < nm b) := by
      simp only [nm, List.map_cons, List.cons_lt_cons_iff, sg_lt c hc d hd]
      constructor
      · rintro (h | ⟨h1, h2⟩)
        · exact .inl h
        · exact .inr ⟨sg_inj hc hd h1, h2⟩
      · rintro (h | ⟨rfl, h2⟩)
        · exact .inl h
        · exact .inr ⟨rfl, h2⟩
    have k1 : c < d → VP (n + 1) (c :: a) < VP (n + 1) (d :: b) := fun h => by
      have : ((c + 1 : Nat) : Int) * 38 ^ n + 38 ^ n ≤ ((d + 1 : Nat) : Int) * 38 ^ n := by
        have h5 : ((c + 1 : Nat) : Int) * 38 ^ n + 38 ^ n = ((c + 2 : Nat) : Int) * 38 ^ n := by
          rw [show ((c + 2 : Nat) : Int) = ((c + 1 : Nat) : Int) + 1 from by omega, Int.add_mul, Int.one_mul]
        rw [h5]; exact Int.mul_le_mul_of_nonneg_right (by omega) (by omega)
      simp only [VP]; omega
    have k2 : d < c → VP (n + 1) (d :: b) < VP (n + 1) (c :: a) := fun h => by
      have : ((d + 1 : Nat) : Int) * 38 ^ n + 38 ^ n ≤ ((c + 1 : Nat) : Int) * 38 ^ n := by
        have h5 : ((d + 1 : Nat) : Int) * 38 ^ n + 38 ^ n = ((d + 2 : Nat) : Int) * 38 ^ n := by
          rw [show ((d + 2 : Nat) : Int) = ((d + 1 : Nat) : Int) + 1 from by omega, Int.add_mul, Int.one_mul]
        rw [h5]; exact Int.mul_le_mul_of_nonneg_right (by omega) (by omega)
      simp only [VP]; omega
    rcases Nat.lt_trichotomy c d with h | rfl | h
    · have := k1 h
      refine ⟨e1.trans ⟨fun _ => this, fun _ => .inl h⟩, ⟨fun e => (by cases e; omega), fun e => (by omega)⟩⟩
    · refine ⟨e1.trans ⟨fun z => ?_, fun z => .inr ⟨rfl, ih.1.mpr ?_⟩⟩, ⟨fun e => (by cases e; rfl), fun e => ?_⟩⟩
      · rcases z with z | ⟨_, z⟩
        · omega
        · have := ih.1.mp z; simp only [VP]; omega
      · simp only [VP] at z; omega
      · simp only [VP] at e
        rw [ih.2.mpr (by omega)]
    · have := k2 h
      refine ⟨e1.trans ⟨fun z => ?_, fun z => ?_⟩, ⟨fun e => (by cases e; omega), fun e => (by omega)⟩⟩
      · rcases z with z | ⟨z, _⟩ <;> omega
      · omega
theorem W_lt {a b : List Nat} (ha : IsN a) (hb : IsN b) : (nm a < nm b ↔ W a < W b) := by
  rw [W_VP ha.hi, W_VP hb.hi]; exact (VP_cmp 11 a b ha.hi hb.hi ha.all hb.all).1
theorem W_eq {a b : List Nat} (ha : IsN a) (hb : IsN b) : (a = b ↔ W a = W b) := by
  rw [W_VP ha.hi, W_VP hb.hi]; exact (VP_cmp 11 a b ha.hi hb.hi ha.all hb.all).2
end NW
set_option Elab.async false
set_option linter.all false
set_option maxRecDepth 100000
set_option maxHeartbeats 4000000
namespace K06
open PySem PySem.Spec L2 LF
open PyProof.Rows hiding St
/-! ### the text by places -/
def top (i : Nat) : Stmt := PySem.Challenge.pw_landfall_k06_power_limit.main.body.getD i (.Pass ⟨0, 0, 0, 0⟩)
abbrev s_Disk___init__ : Stmt := stAt (clsBody (top 14)) 0
abbrev s_law_bag_u : Stmt := top 17
abbrev s_Disk_arm : Stmt := stAt (clsBody (top 14)) 11
abbrev s_law_mixed_u : Stmt := top 16
abbrev s_law_draw_u : Stmt := top 18
abbrev s_law_armed_u : Stmt := top 27
abbrev s_Disk__empty_queue : Stmt := stAt (clsBody (top 14)) 25
abbrev s_Disk__words_at : Stmt := stAt (clsBody (top 14)) 23
abbrev s_Disk__land : Stmt := stAt (clsBody (top 14)) 24
abbrev s_Disk__take_step : Stmt := stAt (clsBody (top 14)) 22
abbrev s_Disk_flush : Stmt := stAt (clsBody (top 14)) 10
abbrev s_Disk__check_address : Stmt := stAt (clsBody (top 14)) 20
abbrev s_Disk_write : Stmt := stAt (clsBody (top 14)) 8
abbrev s_law_land_u : Stmt := top 25
abbrev s_law_latest_u : Stmt := top 22
abbrev s_Disk_platter_block : Stmt := stAt (clsBody (top 14)) 17
abbrev s_Disk_read : Stmt := stAt (clsBody (top 14)) 9
abbrev s_Disk__check_rest : Stmt := stAt (clsBody (top 14)) 21
abbrev s_Disk_rot : Stmt := stAt (clsBody (top 14)) 13
abbrev s_law_number_u : Stmt := top 20
abbrev s_law_refusal_u : Stmt := top 23
abbrev s_law_words_u : Stmt := top 19
abbrev s_law_counted_u : Stmt := top 24
abbrev s_Disk_pending : Stmt := stAt (clsBody (top 14)) 18
abbrev s_Disk_flush_count : Stmt := stAt (clsBody (top 14)) 6
abbrev s_Disk_is_on : Stmt := stAt (clsBody (top 14)) 3
abbrev s_Disk_queued : Stmt := stAt (clsBody (top 14)) 2
abbrev s_Disk_read_count : Stmt := stAt (clsBody (top 14)) 5
abbrev s_Disk_restart_count : Stmt := stAt (clsBody (top 14)) 7
abbrev s_Disk_size : Stmt := stAt (clsBody (top 14)) 1
abbrev s_Disk_write_count : Stmt := stAt (clsBody (top 14)) 4
abbrev s_law_counts_u : Stmt := top 34
abbrev s_law_same_u : Stmt := top 21
abbrev s_law_queue_u : Stmt := top 33
abbrev s_law_look_u : Stmt := top 35
abbrev s_law_order_u : Stmt := top 30
abbrev s_law_outside_u : Stmt := top 28
abbrev s_law_read_u : Stmt := top 26
abbrev s_Disk_restart : Stmt := stAt (clsBody (top 14)) 12
abbrev s_law_restarted_u : Stmt := top 29
abbrev s_law_rotted_u : Stmt := top 31
abbrev s_Disk_twin : Stmt := stAt (clsBody (top 14)) 19
abbrev s_law_split_u : Stmt := top 32
abbrev s_law_deed_u : Stmt := top 36
abbrev s_law_dark_u : Stmt := top 37
abbrev s_law_ended_u : Stmt := top 38
abbrev s_law : Stmt := top 39
theorem sc_Disk___init__ : FnScope ["self", "size"] ["self", "size"] (defScope s_Disk___init__) := ⟨rfl, rfl, rfl, by decide +kernel, rfl, by decide +kernel, by decide +kernel⟩
theorem sc_law_bag_u : FnScope ["script", "cells", "cell"] ["script"] (defScope s_law_bag_u) := ⟨rfl, rfl, rfl, by decide +kernel, rfl, by decide +kernel, by decide +kernel⟩
theorem sc_Disk_arm : FnScope ["self", "steps"] ["self", "steps"] (defScope s_Disk_arm) := ⟨rfl, rfl, rfl, by decide +kernel, rfl, by decide +kernel, by decide +kernel⟩
theorem sc_law_mixed_u : FnScope ["seed", "turn", "first", "second", "third"] ["seed", "turn"] (defScope s_law_mixed_u) := ⟨rfl, rfl, rfl, by decide +kernel, rfl, by decide +kernel, by decide +kernel⟩
theorem sc_law_draw_u : FnScope ["bag", "many", "cell", "digit"] ["bag", "many"] (defScope s_law_draw_u) := ⟨rfl, rfl, rfl, by decide +kernel, rfl, by decide +kernel, by decide +kernel⟩
theorem sc_law_armed_u : FnScope ["state", "bag", "way", "steps"] ["state", "bag"] (defScope s_law_armed_u) := ⟨rfl, rfl, rfl, by decide +kernel, rfl, by decide +kernel, by decide +kernel⟩
theorem sc_Disk__empty_queue : FnScope ["self"] ["self"] (defScope s_Disk__empty_queue) := ⟨rfl, rfl, rfl, by decide +kernel, rfl, by decide +kernel, by decide +kernel⟩
theorem sc_Disk__words_at : FnScope ["self", "address"] ["self", "address"] (defScope s_Disk__words_at) := ⟨rfl, rfl, rfl, by decide +kernel, rfl, by decide +kernel, by decide +kernel⟩
theorem sc_Disk__land : FnScope ["self", "address", "words", "mask", "before"] ["self", "address", "words", "mask"] (defScope s_Disk__land) := ⟨rfl, rfl, rfl, by decide +kernel, rfl, by decide +kernel, by decide +kernel⟩
theorem sc_Disk__take_step : FnScope ["self"] ["self"] (defScope s_Disk__take_step) := ⟨rfl, rfl, rfl, by decide +kernel, rfl, by decide +kernel, by decide +kernel⟩
theorem sc_Disk_flush : FnScope ["self", "address", "words"] ["self"] (defScope s_Disk_flush) := ⟨rfl, rfl, rfl, by decide +kernel, rfl, by decide +kernel, by decide +kernel⟩
theorem sc_Disk__check_address : FnScope ["self", "address"] ["self", "address"] (defScope s_Disk__check_address) := ⟨rfl, rfl, rfl, by decide +kernel, rfl, by decide +kernel, by decide +kernel⟩
theorem sc_Disk_write : FnScope ["self", "address", "words", "kept"] ["self", "address", "words"] (defScope s_Disk_write) := ⟨rfl, rfl, rfl, by decide +kernel, rfl, by decide +kernel, by decide +kernel⟩
theorem sc_law_land_u : FnScope ["state", "order", "k", "deed"] ["state", "order"] (defScope s_law_land_u) := ⟨rfl, rfl, rfl, by decide +kernel, rfl, by decide +kernel, by decide +kernel⟩
theorem sc_law_latest_u : FnScope ["state", "address", "found", "deed"] ["state", "address"] (defScope s_law_latest_u) := ⟨rfl, rfl, rfl, by decide +kernel, rfl, by decide +kernel, by decide +kernel⟩
theorem sc_Disk_platter_block : FnScope ["self", "address"] ["self", "address"] (defScope s_Disk_platter_block) := ⟨rfl, rfl, rfl, by decide +kernel, rfl, by decide +kernel, by decide +kernel⟩
theorem sc_Disk_read : FnScope ["self", "address", "words"] ["self", "address"] (defScope s_Disk_read) := ⟨rfl, rfl, rfl, by decide +kernel, rfl, by decide +kernel, by decide +kernel⟩
theorem sc_Disk__check_rest : FnScope ["self"] ["self"] (defScope s_Disk__check_rest) := ⟨rfl, rfl, rfl, by decide +kernel, rfl, by decide +kernel, by decide +kernel⟩
theorem sc_Disk_rot : FnScope ["self", "address", "index", "word", "changed"] ["self", "address", "index", "word"] (defScope s_Disk_rot) := ⟨rfl, rfl, rfl, by decide +kernel, rfl, by decide +kernel, by decide +kernel⟩
theorem sc_law_number_u : FnScope ["told", "due"] ["told", "due"] (defScope s_law_number_u) := ⟨rfl, rfl, rfl, by decide +kernel, rfl, by decide +kernel, by decide +kernel⟩
theorem sc_law_refusal_u : FnScope ["disk", "which", "address", "due", "raised"] ["disk", "which", "address", "due"] (defScope s_law_refusal_u) := ⟨rfl, rfl, rfl, by decide +kernel, rfl, by decide +kernel, by decide +kernel⟩
theorem sc_law_words_u : FnScope ["bag", "old", "way", "base", "spot", "fresh", "k"] ["bag", "old"] (defScope s_law_words_u) := ⟨rfl, rfl, rfl, by decide +kernel, rfl, by decide +kernel, by decide +kernel⟩
theorem sc_law_counted_u : FnScope ["state", "which", "bag", "disk", "address", "fresh", "k"] ["state", "which", "bag"] (defScope s_law_counted_u) := ⟨rfl, rfl, rfl, by decide +kernel, rfl, by decide +kernel, by decide +kernel⟩
theorem sc_Disk_pending : FnScope ["self", "address", "words"] ["self"] (defScope s_Disk_pending) := ⟨rfl, rfl, rfl, by decide +kernel, rfl, by decide +kernel, by decide +kernel⟩
theorem sc_Disk_flush_count : FnScope ["self"] ["self"] (defScope s_Disk_flush_count) := ⟨rfl, rfl, rfl, by decide +kernel, rfl, by decide +kernel, by decide +kernel⟩
theorem sc_Disk_is_on : FnScope ["self"] ["self"] (defScope s_Disk_is_on) := ⟨rfl, rfl, rfl, by decide +kernel, rfl, by decide +kernel, by decide +kernel⟩
theorem sc_Disk_queued : FnScope ["self"] ["self"] (defScope s_Disk_queued) := ⟨rfl, rfl, rfl, by decide +kernel, rfl, by decide +kernel, by decide +kernel⟩
theorem sc_Disk_read_count : FnScope ["self"] ["self"] (defScope s_Disk_read_count) := ⟨rfl, rfl, rfl, by decide +kernel, rfl, by decide +kernel, by decide +kernel⟩
theorem sc_Disk_restart_count : FnScope ["self"] ["self"] (defScope s_Disk_restart_count) := ⟨rfl, rfl, rfl, by decide +kernel, rfl, by decide +kernel, by decide +kernel⟩
theorem sc_Disk_size : FnScope ["self"] ["self"] (defScope s_Disk_size) := ⟨rfl, rfl, rfl, by decide +kernel, rfl, by decide +kernel, by decide +kernel⟩
theorem sc_Disk_write_count : FnScope ["self"] ["self"] (defScope s_Disk_write_count) := ⟨rfl, rfl, rfl, by decide +kernel, rfl, by decide +kernel, by decide +kernel⟩
theorem sc_law_counts_u : FnScope ["state", "disk"] ["state"] (defScope s_law_counts_u) := ⟨rfl, rfl, rfl, by decide +kernel, rfl, by decide +kernel, by decide +kernel⟩
theorem sc_law_same_u : FnScope ["told", "due", "one"] ["told", "due"] (defScope s_law_same_u) := ⟨rfl, rfl, rfl, by decide +kernel, rfl, by decide +kernel, by decide +kernel⟩
theorem sc_law_queue_u : FnScope ["told", "due", "k", "pair"] ["told", "due"] (defScope s_law_queue_u) := ⟨rfl, rfl, rfl, by decide +kernel, rfl, by decide +kernel, by decide +kernel⟩
theorem sc_law_look_u : FnScope ["state", "disk", "address"] ["state"] (defScope s_law_look_u) := ⟨rfl, rfl, rfl, by decide +kernel, rfl, by decide +kernel, by decide +kernel⟩
theorem sc_law_order_u : FnScope ["bag", "many", "free", "order", "k"] ["bag", "many"] (defScope s_law_order_u) := ⟨rfl, rfl, rfl, by decide +kernel, rfl, by decide +kernel, by decide +kernel⟩
theorem sc_law_outside_u : FnScope ["state", "bag", "far", "address"] ["state", "bag"] (defScope s_law_outside_u) := ⟨rfl, rfl, rfl, by decide +kernel, rfl, by decide +kernel, by decide +kernel⟩
theorem sc_law_read_u : FnScope ["state", "bag", "address"] ["state", "bag"] (defScope s_law_read_u) := ⟨rfl, rfl, rfl, by decide +kernel, rfl, by decide +kernel, by decide +kernel⟩
theorem sc_Disk_restart : FnScope ["self", "landed", "seen", "index", "mask", "address", "words"] ["self", "landed"] (defScope s_Disk_restart) := ⟨rfl, rfl, rfl, by decide +kernel, rfl, by decide +kernel, by decide +kernel⟩
theorem sc_law_restarted_u : FnScope ["state", "order", "landed", "k"] ["state", "order"] (defScope s_law_restarted_u) := ⟨rfl, rfl, rfl, by decide +kernel, rfl, by decide +kernel, by decide +kernel⟩
theorem sc_law_rotted_u : FnScope ["state", "bag", "address", "spot", "word", "block"] ["state", "bag"] (defScope s_law_rotted_u) := ⟨rfl, rfl, rfl, by decide +kernel, rfl, by decide +kernel, by decide +kernel⟩
theorem sc_Disk_twin : FnScope ["self", "other"] ["self"] (defScope s_Disk_twin) := ⟨rfl, rfl, rfl, by decide +kernel, rfl, by decide +kernel, by decide +kernel⟩
theorem sc_law_split_u : FnScope ["states", "state", "other", "fresh"] ["states", "state"] (defScope s_law_split_u) := ⟨rfl, rfl, rfl, by decide +kernel, rfl, by decide +kernel, by decide +kernel⟩
theorem sc_law_deed_u : FnScope ["states", "kind", "bag", "state"] ["states", "kind", "bag"] (defScope s_law_deed_u) := ⟨rfl, rfl, rfl, by decide +kernel, rfl, by decide +kernel, by decide +kernel⟩
theorem sc_law_dark_u : FnScope ["state", "bag", "turn", "kind"] ["state", "bag"] (defScope s_law_dark_u) := ⟨rfl, rfl, rfl, by decide +kernel, rfl, by decide +kernel, by decide +kernel⟩
theorem sc_law_ended_u : FnScope ["state", "bag", "steps", "turn", "k"] ["state", "bag"] (defScope s_law_ended_u) := ⟨rfl, rfl, rfl, by decide +kernel, rfl, by decide +kernel, by decide +kernel⟩
theorem sc_law : FnScope ["script", "bag", "blocks", "state", "word", "states", "turn", "kind", "other", "k"] ["script"] (defScope s_law) := ⟨rfl, rfl, rfl, by decide +kernel, rfl, by decide +kernel, by decide +kernel⟩
/-! ### what the top has written -/
abbrev i_BadAddress : Stmt := stAt (clsBody (top 5)) 0
abbrev i_BadLanding : Stmt := stAt (clsBody (top 6)) 0
abbrev i_Unreadable : Stmt := stAt (clsBody (top 4)) 0
def xTk : List ((Str × Str) × Bool) := [(("BadAddress", "BadAddress"), true), (("BadAddress", "BadLanding"), false), (("BadAddress", "LandfallError"), true), (("BadAddress", "NotAtRest"), false), (("BadAddress", "PowerLost"), false), (("BadAddress", "Unreadable"), false), (("BadLanding", "BadAddress"), false), (("BadLanding", "BadLanding"), true), (("BadLanding", "LandfallError"), true), (("BadLanding", "NotAtRest"), false), (("BadLanding", "PowerLost"), false), (("BadLanding", "Unreadable"), false), (("NotAtRest", "BadAddress"), false), (("NotAtRest", "BadLanding"), false), (("NotAtRest", "LandfallError"), true), (("NotAtRest", "NotAtRest"), true), (("NotAtRest", "PowerLost"), false), (("NotAtRest", "Unreadable"), false), (("PowerLost", "BadAddress"), false), (("PowerLost", "BadLanding"), false), (("PowerLost", "LandfallError"), true), (("PowerLost", "NotAtRest"), false), (("PowerLost", "PowerLost"), true), (("PowerLost", "Unreadable"), false), (("Unreadable", "BadAddress"), false), (("Unreadable", "BadLanding"), false), (("Unreadable", "LandfallError"), true), (("Unreadable", "NotAtRest"), false), (("Unreadable", "PowerLost"), false), (("Unreadable", "Unreadable"), true)]
def xTt : List ((Str × String) × Bool) := [(("BadAddress", "ValueError"), true), (("BadLanding", "ValueError"), true), (("NotAtRest", "ValueError"), true), (("PowerLost", "ValueError"), true), (("Unreadable", "ValueError"), true)]
def xFt : List (Str × Str) := [("BadAddress", "address"), ("BadLanding", "address"), ("Unreadable", "address")]
def xNm : List Str := ["BadAddress", "BadLanding", "NotAtRest", "PowerLost", "Unreadable"]
def xCt : List (Str × List Str) := [("Disk", ["_size", "_platter", "_former", "_lost", "_queue", "_latest", "_has_power", "_limit", "_writes", "_reads", "_flushes", "_restarts"])]
structure Top (P : Program) (w : World) (K : PySem.W.Frag) (mg : Str → Option Value) : Prop where
  f_Disk___init__ : KAt K mg "Disk" "Disk.__init__" s_Disk___init__ ["self", "size"]
  f_law_bag_u : FnAt K mg "_law_bag" "_law_bag" s_law_bag_u ["script"]
  f_Disk_arm : MAt K mg "Disk" "arm" "Disk.arm" s_Disk_arm ["self", "steps"]
  f_law_mixed_u : FnAt K mg "_law_mixed" "_law_mixed" s_law_mixed_u ["seed", "turn"]
  f_law_draw_u : FnAt K mg "_law_draw" "_law_draw" s_law_draw_u ["bag", "many"]
  f_law_armed_u : FnAt K mg "_law_armed" "_law_armed" s_law_armed_u ["state", "bag"]
  f_Disk__empty_queue : MAt K mg "Disk" "_empty_queue" "Disk._empty_queue" s_Disk__empty_queue ["self"]
  f_Disk__words_at : MAt K mg "Disk" "_words_at" "Disk._words_at" s_Disk__words_at ["self", "address"]
  f_Disk__land : MAt K mg "Disk" "_land" "Disk._land" s_Disk__land ["self", "address", "words", "mask"]
  f_Disk__take_step : MAt K mg "Disk" "_take_step" "Disk._take_step" s_Disk__take_step ["self"]
  f_Disk_flush : MAt K mg "Disk" "flush" "Disk.flush" s_Disk_flush ["self"]
  f_Disk__check_address : MAt K mg "Disk" "_check_address" "Disk._check_address" s_Disk__check_address ["self", "address"]
  f_Disk_write : MAt K mg "Disk" "write" "Disk.write" s_Disk_write ["self", "address", "words"]
  f_law_land_u : FnAt K mg "_law_land" "_law_land" s_law_land_u ["state", "order"]
  f_law_latest_u : FnAt K mg "_law_latest" "_law_latest" s_law_latest_u ["state", "address"]
  f_Disk_platter_block : MAt K mg "Disk" "platter_block" "Disk.platter_block" s_Disk_platter_block ["self", "address"]
  f_Disk_read : MAt K mg "Disk" "read" "Disk.read" s_Disk_read ["self", "address"]
  f_Disk__check_rest : MAt K mg "Disk" "_check_rest" "Disk._check_rest" s_Disk__check_rest ["self"]
  f_Disk_rot : MAt K mg "Disk" "rot" "Disk.rot" s_Disk_rot ["self", "address", "index", "word"]
  f_law_number_u : FnAt K mg "_law_number" "_law_number" s_law_number_u ["told", "due"]
  f_law_refusal_u : FnAt K mg "_law_refusal" "_law_refusal" s_law_refusal_u ["disk", "which", "address", "due"]
  f_law_words_u : FnAt K mg "_law_words" "_law_words" s_law_words_u ["bag", "old"]
  f_law_counted_u : FnAt K mg "_law_counted" "_law_counted" s_law_counted_u ["state", "which", "bag"]
  f_Disk_pending : MAt K mg "Disk" "pending" "Disk.pending" s_Disk_pending ["self"]
  f_Disk_flush_count : PAt K mg "Disk" "flush_count" "Disk.flush_count" s_Disk_flush_count ["self"]
  f_Disk_is_on : PAt K mg "Disk" "is_on" "Disk.is_on" s_Disk_is_on ["self"]
  f_Disk_queued : PAt K mg "Disk" "queued" "Disk.queued" s_Disk_queued ["self"]
  f_Disk_read_count : PAt K mg "Disk" "read_count" "Disk.read_count" s_Disk_read_count ["self"]
  f_Disk_restart_count : PAt K mg "Disk" "restart_count" "Disk.restart_count" s_Disk_restart_count ["self"]
  f_Disk_size : PAt K mg "Disk" "size" "Disk.size" s_Disk_size ["self"]
  f_Disk_write_count : PAt K mg "Disk" "write_count" "Disk.write_count" s_Disk_write_count ["self"]
  f_law_counts_u : FnAt K mg "_law_counts" "_law_counts" s_law_counts_u ["state"]
  f_law_same_u : FnAt K mg "_law_same" "_law_same" s_law_same_u ["told", "due"]
  f_law_queue_u : FnAt K mg "_law_queue" "_law_queue" s_law_queue_u ["told", "due"]
  f_law_look_u : FnAt K mg "_law_look" "_law_look" s_law_look_u ["state"]
  f_law_order_u : FnAt K mg "_law_order" "_law_order" s_law_order_u ["bag", "many"]
  f_law_outside_u : FnAt K mg "_law_outside" "_law_outside" s_law_outside_u ["state", "bag"]
  f_law_read_u : FnAt K mg "_law_read" "_law_read" s_law_read_u ["state", "bag"]
  f_Disk_restart : MAt K mg "Disk" "restart" "Disk.restart" s_Disk_restart ["self", "landed"]
  f_law_restarted_u : FnAt K mg "_law_restarted" "_law_restarted" s_law_restarted_u ["state", "order"]
  f_law_rotted_u : FnAt K mg "_law_rotted" "_law_rotted" s_law_rotted_u ["state", "bag"]
  f_Disk_twin : MAt K mg "Disk" "twin" "Disk.twin" s_Disk_twin ["self"]
  f_law_split_u : FnAt K mg "_law_split" "_law_split" s_law_split_u ["states", "state"]
  f_law_deed_u : FnAt K mg "_law_deed" "_law_deed" s_law_deed_u ["states", "kind", "bag"]
  f_law_dark_u : FnAt K mg "_law_dark" "_law_dark" s_law_dark_u ["state", "bag"]
  f_law_ended_u : FnAt K mg "_law_ended" "_law_ended" s_law_ended_u ["state", "bag"]
  f_law : FnAt K mg "law" "law" s_law ["script"]
  x_ct : FTb K mg xCt
  z_range : mg "range" = none
  z_len : mg "len" = none
  z_min : mg "min" = none
  z_int : mg "int" = none
  z_list : mg "list" = none
  z_tuple : mg "tuple" = none
  z_isinstance : mg "isinstance" = none
  z_ValueError : mg "ValueError" = none
  z_bool : mg "bool" = none
  z_dict : mg "dict" = none
  c_WHOLE : ∃ t, mg "WHOLE" = some (.int 255 t)
  k_Disk : ∃ C : Addr, mg "Disk" = some (.ref C)
  k_LandfallError : ∃ C : Addr, mg "LandfallError" = some (.ref C)
  k_BadLanding : ∃ C : Addr, mg "BadLanding" = some (.ref C)
  k_Unreadable : ∃ C : Addr, mg "Unreadable" = some (.ref C)
  k_PowerLost : ∃ C : Addr, mg "PowerLost" = some (.ref C)
  k_NotAtRest : ∃ C : Addr, mg "NotAtRest" = some (.ref C)
  k_BadAddress : ∃ C : Addr, mg "BadAddress" = some (.ref C)
  ic_Disk : ICs K mg "Disk"
  g_ZERO_WORDS : GCT K mg "ZERO_WORDS" [(.int 0), (.int 0), (.int 0), (.int 0), (.int 0), (.int 0), (.int 0), (.int 0), (.int 0), (.int 0), (.int 0), (.int 0), (.int 0), (.int 0), (.int 0), (.int 0), (.int 0), (.int 0), (.int 0), (.int 0), (.int 0), (.int 0), (.int 0), (.int 0), (.int 0), (.int 0), (.int 0), (.int 0), (.int 0), (.int 0), (.int 0), (.int 0), (.int 0), (.int 0), (.int 0), (.int 0), (.int 0), (.int 0), (.int 0), (.int 0), (.int 0), (.int 0), (.int 0), (.int 0), (.int 0), (.int 0), (.int 0), (.int 0)]
  x_BadAddress : ∀ (w : World) (base : Heap), ExcOk P w K mg base "BadAddress" 1 ["address"]
  x_BadLanding : ∀ (w : World) (base : Heap), ExcOk P w K mg base "BadLanding" 1 ["index"]
  x_Unreadable : ∀ (w : World) (base : Heap), ExcOk P w K mg base "Unreadable" 1 ["address"]
  y_NotAtRest : Exc0 K mg "NotAtRest"
  y_PowerLost : Exc0 K mg "PowerLost"
  x_nm : ETab K mg xNm
  x_tk : XTab K mg xTk
  x_tt : TTab K mg xTt
  x_ft : FTab K mg xFt
/-! ### the plain functions -/
noncomputable def b_Disk___init__ : MS := (mSeq (mFldS xCt "_size" (mVar 0) (mVar 1))
  (mSeq (mFldS xCt "_platter" (mVar 0) mNewK)
  (mSeq (mFldS xCt "_former" (mVar 0) mNewK)
  (mSeq (mFldS xCt "_lost" (mVar 0) mNewK)
  (mSeq (mFldS xCt "_queue" (mVar 0) (mL fLst mNil))
  (mSeq (mFldS xCt "_latest" (mVar 0) mNewK)
  (mSeq (mFldS xCt "_has_power" (mVar 0) (mC (.bl true)))
  (mSeq (mFldS xCt "_limit" (mVar 0) (mC .non))
  (mSeq (mFldS xCt "_writes" (mVar 0) (mC (.int 0)))
  (mSeq (mFldS xCt "_reads" (mVar 0) (mC (.int 0)))
  (mSeq (mFldS xCt "_flushes" (mVar 0) (mC (.int 0)))
  (mFldS xCt "_restarts" (mVar 0) (mC (.int 0))))))))))))))
@[irreducible] noncomputable def m_Disk___init__ : List D → M → Res D := mFn 2 2 b_Disk___init__
noncomputable def b_law_bag_u : MS := (mSeq (mSet 1 (mLcN [2] (mIter (mSl (mVar 0) mNoPart (mPart (mC (.int 63))))) (gN 2) mYes (m2 fMod (mL fInt (mCons (mVar 2) mNil)) (mC (.int (18446744073709551616 ^ 32))))))
  (mRet (mDisp [.inr "cells", .inr "place", .inr "rest", .inr "left", .inr "seed", .inr "turn"] (mCons (mVar 1) (mCons (mC (.int 0)) (mCons (mC (.int 0)) (mCons (mC (.int 0)) (mCons (mL fLen (mCons (mVar 1) mNil)) (mCons (mC (.int 0)) mNil)))))))))
@[irreducible] noncomputable def m_law_bag_u : List D → M → Res D := mFn 3 1 b_law_bag_u
noncomputable def b_Disk_arm : MS := (mFldS xCt "_limit" (mVar 0) (mVar 1))
@[irreducible] noncomputable def m_Disk_arm : List D → M → Res D := mFn 2 2 b_Disk_arm
noncomputable def b_law_mixed_u : MS := (mSeq (mSet 2 (m2 fMod (mL fInt (mCons (m2 fAdd (m2 fAdd (mVar 0) (m2 fMulX (mVar 1) (mC (.int 104729)))) (mC (.int 71))) mNil)) (mC (.int 1000003))))
  (mSeq (mSet 3 (m2 fMod (mL fInt (mCons (m2 fAdd (m2 fAdd (m2 fMulX (mVar 2) (mVar 2)) (m2 fMulX (mVar 0) (mC (.int 31)))) (m2 fMulX (mVar 1) (mC (.int 7)))) mNil)) (mC (.int 2147483647))))
  (mSeq (mSet 4 (m2 fMod (mL fInt (mCons (m2 fAdd (m2 fMulX (mVar 3) (mC (.int 48271))) (mVar 1)) mNil)) (mC (.int 2147483629))))
  (mRet (m2 fMod (mL fInt (mCons (m2 fAdd (m2 fMulX (mVar 4) (mVar 4)) (mVar 3)) mNil)) (mC (.int 2305843009213693951)))))))
@[irreducible] noncomputable def m_law_mixed_u : List D → M → Res D := mFn 5 2 b_law_mixed_u
noncomputable def b_law_draw_u : MS := (mSeq (m3 fPut (mVar 0) (mC (.str "turn")) (m2 fAdd (m2 fIx (mVar 0) (mC (.str "turn"))) (mC (.int 1))))
  (mSeq (mIfS (mOrT (mTest (m2 fEq (m2 fIx (mVar 0) (mC (.str "rest"))) (mC (.int 0)))) (mTest (m2 fEq (m2 fIx (mVar 0) (mC (.str "left"))) (mC (.int 0)))))
  (mSeq (m3 fPut (mVar 0) (mC (.str "rest")) (mC (.int 0)))
  (mIfS (mTest (m2 fSLt (m2 fIx (mVar 0) (mC (.str "place"))) (mL fLen (mCons (m2 fIx (mVar 0) (mC (.str "cells"))) mNil))))
  (mSeq (mSet 2 (m2 fIx (m2 fIx (mVar 0) (mC (.str "cells"))) (m2 fIx (mVar 0) (mC (.str "place")))))
  (mSeq (m3 fPut (mVar 0) (mC (.str "place")) (m2 fAdd (m2 fIx (mVar 0) (mC (.str "place"))) (mC (.int 1))))
  (mSeq (m3 fPut (mVar 0) (mC (.str "seed")) (m2 fMod (mL fInt (mCons (m2 fAdd (m2 fAdd (m2 fMulX (m2 fIx (mVar 0) (mC (.str "seed"))) (mC (.int 16807))) (mVar 2)) (mC (.int 1))) mNil)) (mC (.int 2305843009213693951))))
  (mIfS (mTest (m2 fGe (mVar 2) (mC (.int 1000000000000000000))))
  (mSeq (m3 fPut (mVar 0) (mC (.str "rest")) (mVar 2))
  (m3 fPut (mVar 0) (mC (.str "left")) (mC (.int 60))))
  mSkip))))
  mSkip))
  mSkip)
  (mSeq (mIfS (mTest (m2 fGt (m2 fIx (mVar 0) (mC (.str "rest"))) (mC (.int 0))))
  (mSeq (m3 fPut (mVar 0) (mC (.str "left")) (m2 fSub (m2 fIx (mVar 0) (mC (.str "left"))) (mC (.int 1))))
  (mSeq (mSet 3 (m2 fMod (mL fInt (mCons (m2 fIx (mVar 0) (mC (.str "rest"))) mNil)) (mVar 1)))
  (mSeq (m3 fPut (mVar 0) (mC (.str "rest")) (m2 fDiv (m2 fIx (mVar 0) (mC (.str "rest"))) (mVar 1)))
  (mRet (mVar 3)))))
  mSkip)
  (mRet (m2 fMod (mL fInt (mCons (mL (mFix 2 m_law_mixed_u) (mCons (m2 fIx (mVar 0) (mC (.str "seed"))) (mCons (m2 fIx (mVar 0) (mC (.str "turn"))) mNil))) mNil)) (mVar 1))))))
@[irreducible] noncomputable def m_law_draw_u : List D → M → Res D := mFn 4 2 b_law_draw_u
noncomputable def b_law_armed_u : MS := (mSeq (mSet 2 (mL (mFix 2 m_law_draw_u) (mCons (mVar 1) (mCons (mC (.int 6)) mNil))))
  (mSeq (mSet 3 (mL (mFix 2 m_law_draw_u) (mCons (mVar 1) (mCons (mC (.int 5)) mNil))))
  (mSeq (mIfS (mTest (m2 fEq (mVar 2) (mC (.int 0))))
  (mSeq (m3 fPut (mVar 0) (mC (.str "left")) (mC (.int (-1))))
  (mRet (m1 fIsN (mMeth "Disk" "arm" 2 m_Disk_arm (m2 fIx (mVar 0) (mC (.str "disk"))) (mCons (mC .non) mNil)))))
  mSkip)
  (mSeq (mIfS (mTest (m2 fEq (mVar 2) (mC (.int 1))))
  (mSet 3 (m2 fAdd (mC (.int 20)) (mL (mFix 2 m_law_draw_u) (mCons (mVar 1) (mCons (mC (.int 40)) mNil)))))
  mSkip)
  (mSeq (m3 fPut (mVar 0) (mC (.str "left")) (mVar 3))
  (mRet (m1 fIsN (mMeth "Disk" "arm" 2 m_Disk_arm (m2 fIx (mVar 0) (mC (.str "disk"))) (mCons (mVar 3) mNil)))))))))
@[irreducible] noncomputable def m_law_armed_u : List D → M → Res D := mFn 4 2 b_law_armed_u
noncomputable def b_Disk__empty_queue : MS := (mSeq (mFldS xCt "_queue" (mVar 0) (mL fLst mNil))
  (mFldS xCt "_latest" (mVar 0) mNewK))
@[irreducible] noncomputable def m_Disk__empty_queue : List D → M → Res D := mFn 1 1 b_Disk__empty_queue
noncomputable def b_Disk__words_at : MS := (mRet (mGet2 (m1 (fFld xCt "_platter") (mVar 0)) (mVar 1) (mC (.ct [(.int 0), (.int 0), (.int 0), (.int 0), (.int 0), (.int 0), (.int 0), (.int 0), (.int 0), (.int 0), (.int 0), (.int 0), (.int 0), (.int 0), (.int 0), (.int 0), (.int 0), (.int 0), (.int 0), (.int 0), (.int 0), (.int 0), (.int 0), (.int 0), (.int 0), (.int 0), (.int 0), (.int 0), (.int 0), (.int 0), (.int 0), (.int 0), (.int 0), (.int 0), (.int 0), (.int 0), (.int 0), (.int 0), (.int 0), (.int 0), (.int 0), (.int 0), (.int 0), (.int 0), (.int 0), (.int 0), (.int 0), (.int 0)]))))
@[irreducible] noncomputable def m_Disk__words_at : List D → M → Res D := mFn 2 2 b_Disk__words_at
noncomputable def b_Disk__land : MS := (mSeq (mSet 4 (mMeth "Disk" "_words_at" 2 m_Disk__words_at (mVar 0) (mCons (mVar 1) mNil)))
  (mSeq (mIfS (mTest (m2 fEq (mVar 3) (mC (.int 255))))
  (mSeq (m3 fPut (m1 (fFld xCt "_platter") (mVar 0)) (mVar 1) (mVar 2))
  (mIfS (mTest (m2 fIn (mVar 1) (m1 (fFld xCt "_lost") (mVar 0))))
  (mDel (m1 (fFld xCt "_lost") (mVar 0)) (mVar 1))
  mSkip))
  mStuckS)
  (m3 fPut (m1 (fFld xCt "_former") (mVar 0)) (mVar 1) (mVar 4))))
@[irreducible] noncomputable def m_Disk__land : List D → M → Res D := mFn 5 4 b_Disk__land
noncomputable def b_Disk__take_step : MS := (mSeq (mIfS (mNotT (mTru (m1 (fFld xCt "_has_power") (mVar 0))))
  (mRaise0 "PowerLost")
  mSkip)
  (mIfS (mTest (m1 fIsNN (m1 (fFld xCt "_limit") (mVar 0))))
  (mSeq (mIfS (mTest (m2 fLe (m1 (fFld xCt "_limit") (mVar 0)) (mC (.int 0))))
  (mSeq (mFldS xCt "_has_power" (mVar 0) (mC (.bl false)))
  (mRaise0 "PowerLost"))
  mSkip)
  (mFldA xCt "_limit" (fun i j => i - j) (mVar 0) (mC (.int 1))))
  mSkip))
@[irreducible] noncomputable def m_Disk__take_step : List D → M → Res D := mFn 1 1 b_Disk__take_step
noncomputable def b_Disk_flush : MS := (mSeq (mDo (mMeth "Disk" "_take_step" 1 m_Disk__take_step (mVar 0) mNil))
  (mSeq (mFor (mIter (m1 (fFld xCt "_queue") (mVar 0))) (gTp 2 (gCons' (gN 1) (gCons' (gN 2) gNil')))
  (mDo (mMeth "Disk" "_land" 4 m_Disk__land (mVar 0) (mCons (mVar 1) (mCons (mVar 2) (mCons (mC (.int 255)) mNil))))))
  (mSeq (mDo (mMeth "Disk" "_empty_queue" 1 m_Disk__empty_queue (mVar 0) mNil))
  (mFldA xCt "_flushes" (fun i j => i + j) (mVar 0) (mC (.int 1))))))
@[irreducible] noncomputable def m_Disk_flush : List D → M → Res D := mFn 3 1 b_Disk_flush
noncomputable def b_Disk__check_address : MS := (mIfS (mOrT (mTest (m2 fSLt (mVar 1) (mC (.int 0)))) (mTest (m2 fGe (mVar 1) (m1 (fFld xCt "_size") (mVar 0)))))
  (mRaise "BadAddress" ["address"] (mCons (mVar 1) mNil))
  mSkip)
@[irreducible] noncomputable def m_Disk__check_address : List D → M → Res D := mFn 2 2 b_Disk__check_address
noncomputable def b_Disk_write : MS := (mSeq (mDo (mMeth "Disk" "_check_address" 2 m_Disk__check_address (mVar 0) (mCons (mVar 1) mNil)))
  (mSeq (mDo (mMeth "Disk" "_take_step" 1 m_Disk__take_step (mVar 0) mNil))
  (mSeq (mSet 3 (mL fTuple (mCons (mVar 2) mNil)))
  (mSeq (mDo (mBM "list" fAppend (m1 (fFld xCt "_queue") (mVar 0)) (mCons (mL fTup (mCons (mVar 1) (mCons (mVar 3) mNil))) mNil)))
  (mSeq (m3 fPut (m1 (fFld xCt "_latest") (mVar 0)) (mVar 1) (mVar 3))
  (mFldA xCt "_writes" (fun i j => i + j) (mVar 0) (mC (.int 1))))))))
@[irreducible] noncomputable def m_Disk_write : List D → M → Res D := mFn 4 3 b_Disk_write
noncomputable def b_law_land_u : MS := (mSeq (mFor (mIter (mVar 1)) (gN 2)
  (mSeq (mSet 3 (m2 fIx (m2 fIx (mVar 0) (mC (.str "queue"))) (mVar 2)))
  (m3 fPut (m2 fIx (mVar 0) (mC (.str "shown"))) (m2 fIx (mVar 3) (mC (.int 0))) (m2 fIx (mVar 3) (mC (.int 1))))))
  (m3 fPut (mVar 0) (mC (.str "queue")) (mL fLst mNil)))
@[irreducible] noncomputable def m_law_land_u : List D → M → Res D := mFn 4 2 b_law_land_u
noncomputable def b_law_latest_u : MS := (mSeq (mSet 2 (m2 fIx (m2 fIx (mVar 0) (mC (.str "shown"))) (mVar 1)))
  (mSeq (mFor (mIter (m2 fIx (mVar 0) (mC (.str "queue")))) (gN 3)
  (mIfS (mTest (m2 fEq (m2 fIx (mVar 3) (mC (.int 0))) (mVar 1)))
  (mSet 2 (m2 fIx (mVar 3) (mC (.int 1))))
  mSkip))
  (mRet (mVar 2))))
@[irreducible] noncomputable def m_law_latest_u : List D → M → Res D := mFn 4 2 b_law_latest_u
noncomputable def b_Disk_platter_block : MS := (mSeq (mDo (mMeth "Disk" "_check_address" 2 m_Disk__check_address (mVar 0) (mCons (mVar 1) mNil)))
  (mSeq (mIfS (mTest (m2 fIn (mVar 1) (m1 (fFld xCt "_lost") (mVar 0))))
  (mRaise "Unreadable" ["address"] (mCons (mVar 1) mNil))
  mSkip)
  (mRet (mL fList (mCons (mMeth "Disk" "_words_at" 2 m_Disk__words_at (mVar 0) (mCons (mVar 1) mNil)) mNil)))))
@[irreducible] noncomputable def m_Disk_platter_block : List D → M → Res D := mFn 2 2 b_Disk_platter_block
noncomputable def b_Disk_read : MS := (mSeq (mDo (mMeth "Disk" "_check_address" 2 m_Disk__check_address (mVar 0) (mCons (mVar 1) mNil)))
  (mSeq (mIfS (mNotT (mTru (m1 (fFld xCt "_has_power") (mVar 0))))
  (mRaise0 "PowerLost")
  mSkip)
  (mSeq (mIfS (mTest (m2 fIn (mVar 1) (m1 (fFld xCt "_latest") (mVar 0))))
  (mSet 2 (m2 fIx (m1 (fFld xCt "_latest") (mVar 0)) (mVar 1)))
  (mIfS (mTest (m2 fIn (mVar 1) (m1 (fFld xCt "_lost") (mVar 0))))
  (mRaise "Unreadable" ["address"] (mCons (mVar 1) mNil))
  (mSet 2 (mMeth "Disk" "_words_at" 2 m_Disk__words_at (mVar 0) (mCons (mVar 1) mNil)))))
  (mSeq (mFldA xCt "_reads" (fun i j => i + j) (mVar 0) (mC (.int 1)))
  (mRet (mL fList (mCons (mVar 2) mNil)))))))
@[irreducible] noncomputable def m_Disk_read : List D → M → Res D := mFn 3 2 b_Disk_read
noncomputable def b_Disk__check_rest : MS := (mIfS (mTest (m2 fGt (mL fLen (mCons (m1 (fFld xCt "_queue") (mVar 0)) mNil)) (mC (.int 0))))
  (mRaise0 "NotAtRest")
  mSkip)
@[irreducible] noncomputable def m_Disk__check_rest : List D → M → Res D := mFn 1 1 b_Disk__check_rest
noncomputable def b_Disk_rot : MS := (mSeq (mDo (mMeth "Disk" "_check_address" 2 m_Disk__check_address (mVar 0) (mCons (mVar 1) mNil)))
  (mSeq (mDo (mMeth "Disk" "_check_rest" 1 m_Disk__check_rest (mVar 0) mNil))
  (mSeq (mSet 4 (mL fList (mCons (mMeth "Disk" "_words_at" 2 m_Disk__words_at (mVar 0) (mCons (mVar 1) mNil)) mNil)))
  (mSeq (m3 fPut (mVar 4) (mVar 2) (mVar 3))
  (m3 fPut (m1 (fFld xCt "_platter") (mVar 0)) (mVar 1) (mL fTuple (mCons (mVar 4) mNil)))))))
@[irreducible] noncomputable def m_Disk_rot : List D → M → Res D := mFn 5 4 b_Disk_rot
noncomputable def b_law_number_u : MS := (mRet (mAndV (mL fIsI (mCons (mVar 0) (mCons (mC (.ty "int")) mNil))) (mAndV (mNotV (mL fIsI (mCons (mVar 0) (mCons (mC (.ty "bool")) mNil)))) (m2 fEq (mVar 0) (mVar 1)))))
@[irreducible] noncomputable def m_law_number_u : List D → M → Res D := mFn 2 2 b_law_number_u
noncomputable def b_law_refusal_u : MS := (mSeq (mTryAs xTk "LandfallError" 4
  (mIfS (mTest (m2 fEq (mVar 1) (mC (.int 0))))
  (mDo (mMeth "Disk" "write" 3 m_Disk_write (mVar 0) (mCons (mVar 2) (mCons (m2 fMulX (mL fLst (mCons (mC (.int 3)) mNil)) (mC (.int 48))) mNil))))
  (mIfS (mTest (m2 fEq (mVar 1) (mC (.int 1))))
  (mDo (mMeth "Disk" "flush" 1 m_Disk_flush (mVar 0) mNil))
  (mIfS (mTest (m2 fEq (mVar 1) (mC (.int 2))))
  (mDo (mMeth "Disk" "read" 2 m_Disk_read (mVar 0) (mCons (mVar 2) mNil)))
  (mIfS (mTest (m2 fEq (mVar 1) (mC (.int 3))))
  (mDo (mMeth "Disk" "platter_block" 2 m_Disk_platter_block (mVar 0) (mCons (mVar 2) mNil)))
  (mDo (mMeth "Disk" "rot" 4 m_Disk_rot (mVar 0) (mCons (mVar 2) (mCons (mC (.int 0)) (mCons (mC (.int 3)) mNil)))))))))
  (fun x ns xs => (mSeq (mIfS (mOrT (mTru (mIsX xNm xTk xTt x 4 (mL fTup (mCons (mC (.cls "Unreadable")) (mCons (mC (.cls "BadLanding")) mNil))))) (mNotT (mTru (mIsX xNm xTk xTt x 4 (mC (.ty "ValueError"))))))
  (mRet (mC (.bl false)))
  mSkip)
  (mSeq (mIfS (mTest (m2 fNe (mIsX xNm xTk xTt x 4 (mC (.cls "PowerLost"))) (m2 fEq (mVar 3) (mC (.str "power")))))
  (mRet (mC (.bl false)))
  mSkip)
  (mSeq (mIfS (mTest (m2 fNe (mIsX xNm xTk xTt x 4 (mC (.cls "NotAtRest"))) (m2 fEq (mVar 3) (mC (.str "rest")))))
  (mRet (mC (.bl false)))
  mSkip)
  (mSeq (mIfS (mTest (m2 fNe (mIsX xNm xTk xTt x 4 (mC (.cls "BadAddress"))) (m2 fEq (mVar 3) (mC (.str "address")))))
  (mRet (mC (.bl false)))
  mSkip)
  (mSeq (mIfS (mTest (m2 fEq (mVar 3) (mC (.str "address"))))
  (mRet (mL (mFix 2 m_law_number_u) (mCons (mXf xFt x ns xs 4 "address") (mCons (mVar 2) mNil))))
  mSkip)
  (mRet (mC (.bl true))))))))))
  (mRet (mC (.bl false))))
@[irreducible] noncomputable def m_law_refusal_u : List D → M → Res D := mFn 5 4 b_law_refusal_u
noncomputable def b_law_words_u : MS := (mSeq (mSet 2 (mL (mFix 2 m_law_draw_u) (mCons (mVar 0) (mCons (mC (.int 6)) mNil))))
  (mSeq (mSet 3 (mL (mFix 2 m_law_draw_u) (mCons (mVar 0) (mCons (mC (.int 2305843009213693951)) mNil))))
  (mSeq (mSet 4 (mL (mFix 2 m_law_draw_u) (mCons (mVar 0) (mCons (mC (.int 48)) mNil))))
  (mSeq (mIfS (mTest (m2 fEq (mVar 2) (mC (.int 0))))
  (mRet (m2 fMulX (mL fLst (mCons (m2 fIx (mL fLst (mCons (mC (.int 0)) (mCons (mC (.int 1)) (mCons (mC (.int 2305843009213693950)) mNil)))) (m2 fMod (mL fInt (mCons (mVar 3) mNil)) (mC (.int 3)))) mNil)) (mC (.int 48))))
  mSkip)
  (mSeq (mIfS (mTest (m2 fEq (mVar 2) (mC (.int 1))))
  (mRet (mL fList (mCons (mVar 1) mNil)))
  mSkip)
  (mSeq (mIfS (mTest (m2 fSLt (mVar 2) (mC (.int 4))))
  (mSeq (mSet 5 (mL fList (mCons (mVar 1) mNil)))
  (mSeq (m3 fPut (mVar 5) (mVar 4) (m2 fMod (mL fInt (mCons (m2 fAdd (m2 fAdd (m2 fIx (mVar 5) (mVar 4)) (mC (.int 1))) (mVar 3)) mNil)) (mC (.int 2305843009213693951))))
  (mRet (mVar 5))))
  mSkip)
  (mRet (mLcN [6] (mRng (mCons (mC (.int 48)) mNil)) (gN 6) mYes (m2 fMod (mL fInt (mCons (m2 fAdd (mVar 3) (m2 fMulX (mVar 6) (m2 fAdd (m2 fAdd (m2 fDiv (mVar 3) (mC (.int 48))) (mVar 4)) (mC (.int 1))))) mNil)) (mC (.int 2305843009213693951)))))))))))
@[irreducible] noncomputable def m_law_words_u : List D → M → Res D := mFn 7 2 b_law_words_u
noncomputable def b_law_counted_u : MS := (mSeq (mSet 3 (m2 fIx (mVar 0) (mC (.str "disk"))))
  (mSeq (mSet 4 (mL (mFix 2 m_law_draw_u) (mCons (mVar 2) (mCons (m2 fIx (mVar 0) (mC (.str "blocks"))) mNil))))
  (mSeq (mIfS (mOrT (mNotT (mTru (m2 fIx (mVar 0) (mC (.str "on"))))) (mTest (m2 fEq (m2 fIx (mVar 0) (mC (.str "left"))) (mC (.int 0)))))
  (mSeq (m3 fPut (mVar 0) (mC (.str "on")) (mC (.bl false)))
  (mRet (mL (mFix 4 m_law_refusal_u) (mCons (mVar 3) (mCons (mVar 1) (mCons (mVar 4) (mCons (mC (.str "power")) mNil)))))))
  mSkip)
  (mSeq (mIfS (mTest (m2 fGt (m2 fIx (mVar 0) (mC (.str "left"))) (mC (.int 0))))
  (m3 fPut (mVar 0) (mC (.str "left")) (m2 fSub (m2 fIx (mVar 0) (mC (.str "left"))) (mC (.int 1))))
  mSkip)
  (mSeq (mIfS (mTest (m2 fEq (mVar 1) (mC (.int 0))))
  (mSeq (mSet 5 (mL (mFix 2 m_law_words_u) (mCons (mVar 2) (mCons (mL (mFix 2 m_law_latest_u) (mCons (mVar 0) (mCons (mVar 4) mNil))) mNil))))
  (mSeq (mDo (mBM "list" fAppend (m2 fIx (mVar 0) (mC (.str "queue"))) (mCons (mL fTup (mCons (mVar 4) (mCons (mVar 5) mNil))) mNil)))
  (mSeq (m3 fPut (mVar 0) (mC (.str "writes")) (m2 fAdd (m2 fIx (mVar 0) (mC (.str "writes"))) (mC (.int 1))))
  (mRet (m1 fIsN (mMeth "Disk" "write" 3 m_Disk_write (mVar 3) (mCons (mVar 4) (mCons (mL fList (mCons (mVar 5) mNil)) mNil))))))))
  mSkip)
  (mSeq (mDo (mL (mFix 2 m_law_land_u) (mCons (mVar 0) (mCons (mLcN [6] (mRng (mCons (mL fLen (mCons (m2 fIx (mVar 0) (mC (.str "queue"))) mNil)) mNil)) (gN 6) mYes (mVar 6)) mNil))))
  (mSeq (m3 fPut (mVar 0) (mC (.str "flushes")) (m2 fAdd (m2 fIx (mVar 0) (mC (.str "flushes"))) (mC (.int 1))))
  (mRet (m1 fIsN (mMeth "Disk" "flush" 1 m_Disk_flush (mVar 3) mNil))))))))))
@[irreducible] noncomputable def m_law_counted_u : List D → M → Res D := mFn 7 3 b_law_counted_u
noncomputable def b_Disk_pending : MS := (mRet (mLcN [1, 2] (mIter (m1 (fFld xCt "_queue") (mVar 0))) (gTp 2 (gCons' (gN 1) (gCons' (gN 2) gNil'))) mYes (mL fTup (mCons (mVar 1) (mCons (mL fList (mCons (mVar 2) mNil)) mNil)))))
@[irreducible] noncomputable def m_Disk_pending : List D → M → Res D := mFn 3 1 b_Disk_pending
noncomputable def b_Disk_flush_count : MS := (mRet (m1 (fFld xCt "_flushes") (mVar 0)))
@[irreducible] noncomputable def m_Disk_flush_count : List D → M → Res D := mFn 1 1 b_Disk_flush_count
noncomputable def b_Disk_is_on : MS := (mRet (m1 (fFld xCt "_has_power") (mVar 0)))
@[irreducible] noncomputable def m_Disk_is_on : List D → M → Res D := mFn 1 1 b_Disk_is_on
noncomputable def b_Disk_queued : MS := (mRet (mL fLen (mCons (m1 (fFld xCt "_queue") (mVar 0)) mNil)))
@[irreducible] noncomputable def m_Disk_queued : List D → M → Res D := mFn 1 1 b_Disk_queued
noncomputable def b_Disk_read_count : MS := (mRet (m1 (fFld xCt "_reads") (mVar 0)))
@[irreducible] noncomputable def m_Disk_read_count : List D → M → Res D := mFn 1 1 b_Disk_read_count
noncomputable def b_Disk_restart_count : MS := (mRet (m1 (fFld xCt "_restarts") (mVar 0)))
@[irreducible] noncomputable def m_Disk_restart_count : List D → M → Res D := mFn 1 1 b_Disk_restart_count
noncomputable def b_Disk_size : MS := (mRet (m1 (fFld xCt "_size") (mVar 0)))
@[irreducible] noncomputable def m_Disk_size : List D → M → Res D := mFn 1 1 b_Disk_size
noncomputable def b_Disk_write_count : MS := (mRet (m1 (fFld xCt "_writes") (mVar 0)))
@[irreducible] noncomputable def m_Disk_write_count : List D → M → Res D := mFn 1 1 b_Disk_write_count
noncomputable def b_law_counts_u : MS := (mSeq (mSet 1 (m2 fIx (mVar 0) (mC (.str "disk"))))
  (mSeq (mIfS (mOrT (mNotT (mTru (mL (mFix 2 m_law_number_u) (mCons (mProp "Disk" m_Disk_size (mVar 1)) (mCons (m2 fIx (mVar 0) (mC (.str "blocks"))) mNil))))) (mNotT (mTru (mL (mFix 2 m_law_number_u) (mCons (mProp "Disk" m_Disk_queued (mVar 1)) (mCons (mL fLen (mCons (m2 fIx (mVar 0) (mC (.str "queue"))) mNil)) mNil))))))
  (mRet (mC (.bl false)))
  mSkip)
  (mSeq (mIfS (mNotT (mTru (mL (mFix 2 m_law_number_u) (mCons (mProp "Disk" m_Disk_write_count (mVar 1)) (mCons (m2 fIx (mVar 0) (mC (.str "writes"))) mNil)))))
  (mRet (mC (.bl false)))
  mSkip)
  (mSeq (mIfS (mNotT (mTru (mL (mFix 2 m_law_number_u) (mCons (mProp "Disk" m_Disk_flush_count (mVar 1)) (mCons (m2 fIx (mVar 0) (mC (.str "flushes"))) mNil)))))
  (mRet (mC (.bl false)))
  mSkip)
  (mSeq (mIfS (mNotT (mTru (mL (mFix 2 m_law_number_u) (mCons (mProp "Disk" m_Disk_read_count (mVar 1)) (mCons (m2 fIx (mVar 0) (mC (.str "reads"))) mNil)))))
  (mRet (mC (.bl false)))
  mSkip)
  (mSeq (mIfS (mNotT (mTru (mL (mFix 2 m_law_number_u) (mCons (mProp "Disk" m_Disk_restart_count (mVar 1)) (mCons (m2 fIx (mVar 0) (mC (.str "restarts"))) mNil)))))
  (mRet (mC (.bl false)))
  mSkip)
  (mSeq (mIfS (mTru (m2 fIx (mVar 0) (mC (.str "on"))))
  (mRet (m2 fIsB (mProp "Disk" m_Disk_is_on (mVar 1)) (mC (.bl true))))
  mSkip)
  (mRet (m2 fIsB (mProp "Disk" m_Disk_is_on (mVar 1)) (mC (.bl false)))))))))))
@[irreducible] noncomputable def m_law_counts_u : List D → M → Res D := mFn 2 1 b_law_counts_u
noncomputable def b_law_same_u : MS := (mSeq (mIfS (mOrT (mNotT (mTru (mL fIsI (mCons (mVar 0) (mCons (mC (.ty "list")) mNil))))) (mTest (m2 fNe (mL fLen (mCons (mVar 0) mNil)) (mC (.int 48)))))
  (mRet (mC (.bl false)))
  mSkip)
  (mSeq (mIfS (mTest (m2 fNe (mLcN [2] (mIter (mVar 0)) (gN 2) (mOrT (mTru (mL fIsI (mCons (mVar 2) (mCons (mC (.ty "bool")) mNil)))) (mNotT (mTru (mL fIsI (mCons (mVar 2) (mCons (mC (.ty "int")) mNil)))))) (mVar 2)) (mL fLst mNil)))
  (mRet (mC (.bl false)))
  mSkip)
  (mRet (m2 fEq (mVar 0) (mVar 1)))))
@[irreducible] noncomputable def m_law_same_u : List D → M → Res D := mFn 3 2 b_law_same_u
noncomputable def b_law_queue_u : MS := (mSeq (mIfS (mOrT (mNotT (mTru (mL fIsI (mCons (mVar 0) (mCons (mC (.ty "list")) mNil))))) (mTest (m2 fNe (mL fLen (mCons (mVar 0) mNil)) (mL fLen (mCons (mVar 1) mNil)))))
  (mRet (mC (.bl false)))
  mSkip)
  (mSeq (mFor (mRng (mCons (mL fLen (mCons (mVar 1) mNil)) mNil)) (gN 2)
  (mSeq (mSet 3 (m2 fIx (mVar 0) (mVar 2)))
  (mSeq (mIfS (mOrT (mNotT (mTru (mL fIsI (mCons (mVar 3) (mCons (mC (.ty "tuple")) mNil))))) (mTest (m2 fNe (mL fLen (mCons (mVar 3) mNil)) (mC (.int 2)))))
  (mRet (mC (.bl false)))
  mSkip)
  (mIfS (mOrT (mNotT (mTru (mL (mFix 2 m_law_number_u) (mCons (m2 fIx (mVar 3) (mC (.int 0))) (mCons (m2 fIx (m2 fIx (mVar 1) (mVar 2)) (mC (.int 0))) mNil))))) (mNotT (mTru (mL (mFix 2 m_law_same_u) (mCons (m2 fIx (mVar 3) (mC (.int 1))) (mCons (m2 fIx (m2 fIx (mVar 1) (mVar 2)) (mC (.int 1))) mNil))))))
  (mRet (mC (.bl false)))
  mSkip))))
  (mRet (mC (.bl true)))))
@[irreducible] noncomputable def m_law_queue_u : List D → M → Res D := mFn 4 2 b_law_queue_u
noncomputable def b_law_look_u : MS := (mSeq (mSet 1 (m2 fIx (mVar 0) (mC (.str "disk"))))
  (mSeq (mFor (mRng (mCons (m2 fIx (mVar 0) (mC (.str "blocks"))) mNil)) (gN 2)
  (mSeq (mIfS (mNotT (mTru (mL (mFix 2 m_law_same_u) (mCons (mMeth "Disk" "platter_block" 2 m_Disk_platter_block (mVar 1) (mCons (mVar 2) mNil)) (mCons (m2 fIx (m2 fIx (mVar 0) (mC (.str "shown"))) (mVar 2)) mNil)))))
  (mRet (mC (.bl false)))
  mSkip)
  (mIfS (mTru (m2 fIx (mVar 0) (mC (.str "on"))))
  (mSeq (mIfS (mNotT (mTru (mL (mFix 2 m_law_same_u) (mCons (mMeth "Disk" "read" 2 m_Disk_read (mVar 1) (mCons (mVar 2) mNil)) (mCons (mL (mFix 2 m_law_latest_u) (mCons (mVar 0) (mCons (mVar 2) mNil))) mNil)))))
  (mRet (mC (.bl false)))
  mSkip)
  (m3 fPut (mVar 0) (mC (.str "reads")) (m2 fAdd (m2 fIx (mVar 0) (mC (.str "reads"))) (mC (.int 1)))))
  mSkip)))
  (mRet (mAndV (mL (mFix 2 m_law_queue_u) (mCons (mMeth "Disk" "pending" 1 m_Disk_pending (mVar 1) mNil) (mCons (m2 fIx (mVar 0) (mC (.str "queue"))) mNil))) (mL (mFix 1 m_law_counts_u) (mCons (mVar 0) mNil))))))
@[irreducible] noncomputable def m_law_look_u : List D → M → Res D := mFn 3 1 b_law_look_u
noncomputable def b_law_order_u : MS := (mSeq (mSet 2 (mLcN [4] (mRng (mCons (mVar 1) mNil)) (gN 4) mYes (mVar 4)))
  (mSeq (mSet 3 (mL fLst mNil))
  (mSeq (mFor (mRng (mCons (mL (mFix 2 m_law_draw_u) (mCons (mVar 0) (mCons (m2 fAdd (mVar 1) (mC (.int 1))) mNil))) mNil)) (gN 4)
  (mDo (mBM "list" fAppend (mVar 3) (mCons (mBM "list" fPopAt (mVar 2) (mCons (mL (mFix 2 m_law_draw_u) (mCons (mVar 0) (mCons (mL fLen (mCons (mVar 2) mNil)) mNil))) mNil)) mNil))))
  (mRet (mVar 3)))))
@[irreducible] noncomputable def m_law_order_u : List D → M → Res D := mFn 5 2 b_law_order_u
noncomputable def b_law_outside_u : MS := (mSeq (mSet 2 (mL (mFix 2 m_law_draw_u) (mCons (mVar 1) (mCons (mC (.int 1000)) mNil))))
  (mSeq (mSet 3 (m2 fIx (mL fLst (mCons (mC (.int (-1))) (mCons (m2 fIx (mVar 0) (mC (.str "blocks"))) (mCons (m1 fNeg (m2 fIx (mVar 0) (mC (.str "blocks")))) (mCons (m2 fAdd (m2 fIx (mVar 0) (mC (.str "blocks"))) (mVar 2)) (mCons (m2 fSub (mC (.int (-1))) (mVar 2)) mNil)))))) (mL (mFix 2 m_law_draw_u) (mCons (mVar 1) (mCons (mC (.int 5)) mNil)))))
  (mRet (mL (mFix 4 m_law_refusal_u) (mCons (m2 fIx (mVar 0) (mC (.str "disk"))) (mCons (m2 fIx (mL fLst (mCons (mC (.int 0)) (mCons (mC (.int 2)) (mCons (mC (.int 3)) (mCons (mC (.int 4)) mNil))))) (mL (mFix 2 m_law_draw_u) (mCons (mVar 1) (mCons (mC (.int 4)) mNil)))) (mCons (mVar 3) (mCons (mC (.str "address")) mNil))))))))
@[irreducible] noncomputable def m_law_outside_u : List D → M → Res D := mFn 4 2 b_law_outside_u
noncomputable def b_law_read_u : MS := (mSeq (mSet 2 (mL (mFix 2 m_law_draw_u) (mCons (mVar 1) (mCons (m2 fIx (mVar 0) (mC (.str "blocks"))) mNil))))
  (mSeq (mIfS (mNotT (mTru (m2 fIx (mVar 0) (mC (.str "on")))))
  (mRet (mL (mFix 4 m_law_refusal_u) (mCons (m2 fIx (mVar 0) (mC (.str "disk"))) (mCons (mC (.int 2)) (mCons (mVar 2) (mCons (mC (.str "power")) mNil))))))
  mSkip)
  (mSeq (m3 fPut (mVar 0) (mC (.str "reads")) (m2 fAdd (m2 fIx (mVar 0) (mC (.str "reads"))) (mC (.int 1))))
  (mRet (mL (mFix 2 m_law_same_u) (mCons (mMeth "Disk" "read" 2 m_Disk_read (m2 fIx (mVar 0) (mC (.str "disk"))) (mCons (mVar 2) mNil)) (mCons (mL (mFix 2 m_law_latest_u) (mCons (mVar 0) (mCons (mVar 2) mNil))) mNil)))))))
@[irreducible] noncomputable def m_law_read_u : List D → M → Res D := mFn 3 2 b_law_read_u
noncomputable def b_Disk_restart : MS := (mSeq (mSet 2 mNewK)
  (mSeq (mFor (mIter (mVar 1)) (gTp 2 (gCons' (gN 3) (gCons' (gN 4) gNil')))
  (mSeq (mIfS (mOrT (mTest (m2 fIn (mVar 3) (mVar 2))) (mOrT (mTest (m2 fSLt (mVar 3) (mC (.int 0)))) (mTest (m2 fGe (mVar 3) (mL fLen (mCons (m1 (fFld xCt "_queue") (mVar 0)) mNil))))))
  (mRaise "BadLanding" ["index"] (mCons (mVar 3) mNil))
  mSkip)
  (mSeq (mIfS (mOrT (mTest (m2 fSLt (mVar 4) (mC (.int 0)))) (mTest (m2 fGt (mVar 4) (mC (.int 255)))))
  (mRaise "BadLanding" ["index"] (mCons (mVar 3) mNil))
  mSkip)
  (m3 fPut (mVar 2) (mVar 3) (mC (.bl true))))))
  (mSeq (mFor (mIter (mVar 1)) (gTp 2 (gCons' (gN 3) (gCons' (gN 4) gNil')))
  (mIfS (mTest (m2 fNe (mVar 4) (mC (.int 0))))
  (mSeq (mAsg (m2 fIx (m1 (fFld xCt "_queue") (mVar 0)) (mVar 3)) (gTp 2 (gCons' (gN 5) (gCons' (gN 6) gNil'))))
  (mDo (mMeth "Disk" "_land" 4 m_Disk__land (mVar 0) (mCons (mVar 5) (mCons (mVar 6) (mCons (mVar 4) mNil))))))
  mSkip))
  (mSeq (mDo (mMeth "Disk" "_empty_queue" 1 m_Disk__empty_queue (mVar 0) mNil))
  (mSeq (mFldS xCt "_has_power" (mVar 0) (mC (.bl true)))
  (mSeq (mFldS xCt "_limit" (mVar 0) (mC .non))
  (mFldA xCt "_restarts" (fun i j => i + j) (mVar 0) (mC (.int 1)))))))))
@[irreducible] noncomputable def m_Disk_restart : List D → M → Res D := mFn 7 2 b_Disk_restart
noncomputable def b_law_restarted_u : MS := (mSeq (mSet 2 (mLcN [3] (mIter (mVar 1)) (gN 3) mYes (mL fTup (mCons (mVar 3) (mCons (mC (.int 255)) mNil)))))
  (mSeq (mIfS (mTest (m1 fIsNN (mMeth "Disk" "restart" 2 m_Disk_restart (m2 fIx (mVar 0) (mC (.str "disk"))) (mCons (mVar 2) mNil))))
  (mRet (mC (.bl false)))
  mSkip)
  (mSeq (mDo (mL (mFix 2 m_law_land_u) (mCons (mVar 0) (mCons (mVar 1) mNil))))
  (mSeq (m3 fPut (mVar 0) (mC (.str "on")) (mC (.bl true)))
  (mSeq (m3 fPut (mVar 0) (mC (.str "left")) (mC (.int (-1))))
  (mSeq (m3 fPut (mVar 0) (mC (.str "restarts")) (m2 fAdd (m2 fIx (mVar 0) (mC (.str "restarts"))) (mC (.int 1))))
  (mRet (mC (.bl true)))))))))
@[irreducible] noncomputable def m_law_restarted_u : List D → M → Res D := mFn 4 2 b_law_restarted_u
noncomputable def b_law_rotted_u : MS := (mSeq (mSet 2 (mL (mFix 2 m_law_draw_u) (mCons (mVar 1) (mCons (m2 fIx (mVar 0) (mC (.str "blocks"))) mNil))))
  (mSeq (mSet 3 (mL (mFix 2 m_law_draw_u) (mCons (mVar 1) (mCons (mC (.int 48)) mNil))))
  (mSeq (mSet 4 (mL (mFix 2 m_law_draw_u) (mCons (mVar 1) (mCons (mC (.int 2305843009213693951)) mNil))))
  (mSeq (mIfS (mTest (m2 fNe (m2 fIx (mVar 0) (mC (.str "queue"))) (mL fLst mNil)))
  (mRet (mL (mFix 4 m_law_refusal_u) (mCons (m2 fIx (mVar 0) (mC (.str "disk"))) (mCons (mC (.int 4)) (mCons (mVar 2) (mCons (mC (.str "rest")) mNil))))))
  mSkip)
  (mSeq (mSet 5 (mL fList (mCons (m2 fIx (m2 fIx (mVar 0) (mC (.str "shown"))) (mVar 2)) mNil)))
  (mSeq (m3 fPut (mVar 5) (mVar 3) (mVar 4))
  (mSeq (m3 fPut (m2 fIx (mVar 0) (mC (.str "shown"))) (mVar 2) (mVar 5))
  (mRet (m1 fIsN (mMeth "Disk" "rot" 4 m_Disk_rot (m2 fIx (mVar 0) (mC (.str "disk"))) (mCons (mVar 2) (mCons (mVar 3) (mCons (mVar 4) mNil)))))))))))))
@[irreducible] noncomputable def m_law_rotted_u : List D → M → Res D := mFn 6 2 b_law_rotted_u
noncomputable def b_Disk_twin : MS := (mSeq (mSet 1 (mMake "Disk" 2 m_Disk___init__ (mCons (m1 (fFld xCt "_size") (mVar 0)) mNil)))
  (mSeq (mFldS xCt "_platter" (mVar 1) (mL fDictC (mCons (m1 (fFld xCt "_platter") (mVar 0)) mNil)))
  (mSeq (mFldS xCt "_former" (mVar 1) (mL fDictC (mCons (m1 (fFld xCt "_former") (mVar 0)) mNil)))
  (mSeq (mFldS xCt "_lost" (mVar 1) (mL fDictC (mCons (m1 (fFld xCt "_lost") (mVar 0)) mNil)))
  (mSeq (mFldS xCt "_queue" (mVar 1) (mL fList (mCons (m1 (fFld xCt "_queue") (mVar 0)) mNil)))
  (mSeq (mFldS xCt "_latest" (mVar 1) (mL fDictC (mCons (m1 (fFld xCt "_latest") (mVar 0)) mNil)))
  (mSeq (mFldS xCt "_has_power" (mVar 1) (m1 (fFld xCt "_has_power") (mVar 0)))
  (mSeq (mFldS xCt "_limit" (mVar 1) (m1 (fFld xCt "_limit") (mVar 0)))
  (mSeq (mFldS xCt "_writes" (mVar 1) (m1 (fFld xCt "_writes") (mVar 0)))
  (mSeq (mFldS xCt "_reads" (mVar 1) (m1 (fFld xCt "_reads") (mVar 0)))
  (mSeq (mFldS xCt "_flushes" (mVar 1) (m1 (fFld xCt "_flushes") (mVar 0)))
  (mSeq (mFldS xCt "_restarts" (mVar 1) (m1 (fFld xCt "_restarts") (mVar 0)))
  (mRet (mVar 1))))))))))))))
@[irreducible] noncomputable def m_Disk_twin : List D → M → Res D := mFn 2 1 b_Disk_twin
noncomputable def b_law_split_u : MS := (mSeq (mIfS (mTest (m2 fGt (mL fLen (mCons (mVar 0) mNil)) (mC (.int 2))))
  (mRet (mC (.bl true)))
  mSkip)
  (mSeq (mSet 2 (mMeth "Disk" "twin" 1 m_Disk_twin (m2 fIx (mVar 1) (mC (.str "disk"))) mNil))
  (mSeq (mSet 3 (mL fDictC (mCons (mVar 1) mNil)))
  (mSeq (m3 fPut (mVar 3) (mC (.str "disk")) (mVar 2))
  (mSeq (m3 fPut (mVar 3) (mC (.str "shown")) (mL fList (mCons (m2 fIx (mVar 1) (mC (.str "shown"))) mNil)))
  (mSeq (m3 fPut (mVar 3) (mC (.str "queue")) (mL fList (mCons (m2 fIx (mVar 1) (mC (.str "queue"))) mNil)))
  (mSeq (mDo (mBM "list" fAppend (mVar 0) (mCons (mVar 3) mNil)))
  (mRet (mL (fIsC "Disk") (mCons (mVar 2) (mCons (mC (.cls "Disk")) mNil)))))))))))
@[irreducible] noncomputable def m_law_split_u : List D → M → Res D := mFn 4 2 b_law_split_u
noncomputable def b_law_deed_u : MS := (mSeq (mSet 3 (m2 fIx (mVar 0) (mL (mFix 2 m_law_draw_u) (mCons (mVar 2) (mCons (mL fLen (mCons (mVar 0) mNil)) mNil)))))
  (mSeq (mIfS (mTest (m2 fSLt (mVar 1) (mC (.int 4))))
  (mRet (mL (mFix 3 m_law_counted_u) (mCons (mVar 3) (mCons (mC (.int 0)) (mCons (mVar 2) mNil)))))
  mSkip)
  (mSeq (mIfS (mTest (m2 fSLt (mVar 1) (mC (.int 6))))
  (mRet (mL (mFix 3 m_law_counted_u) (mCons (mVar 3) (mCons (mC (.int 1)) (mCons (mVar 2) mNil)))))
  mSkip)
  (mSeq (mIfS (mTest (m2 fEq (mVar 1) (mC (.int 6))))
  (mRet (mL (mFix 2 m_law_read_u) (mCons (mVar 3) (mCons (mVar 2) mNil))))
  mSkip)
  (mSeq (mIfS (mTest (m2 fEq (mVar 1) (mC (.int 7))))
  (mRet (mL (mFix 2 m_law_armed_u) (mCons (mVar 3) (mCons (mVar 2) mNil))))
  mSkip)
  (mSeq (mIfS (mTest (m2 fEq (mVar 1) (mC (.int 8))))
  (mRet (mL (mFix 2 m_law_outside_u) (mCons (mVar 3) (mCons (mVar 2) mNil))))
  mSkip)
  (mSeq (mIfS (mTest (m2 fEq (mVar 1) (mC (.int 11))))
  (mRet (mL (mFix 2 m_law_split_u) (mCons (mVar 0) (mCons (mVar 3) mNil))))
  mSkip)
  (mSeq (mIfS (mOrT (mTest (m2 fEq (mVar 1) (mC (.int 9)))) (mAndT (mTest (m2 fGt (mVar 1) (mC (.int 9)))) (mNotT (mTru (m2 fIx (mVar 3) (mC (.str "on")))))))
  (mRet (mL (mFix 2 m_law_restarted_u) (mCons (mVar 3) (mCons (mL (mFix 2 m_law_order_u) (mCons (mVar 2) (mCons (mL fLen (mCons (m2 fIx (mVar 3) (mC (.str "queue"))) mNil)) mNil))) mNil))))
  mSkip)
  (mSeq (mIfS (mTest (m2 fEq (mVar 1) (mC (.int 12))))
  (mRet (mL (mFix 2 m_law_rotted_u) (mCons (mVar 3) (mCons (mVar 2) mNil))))
  mSkip)
  (mRet (mL (mFix 1 m_law_look_u) (mCons (mVar 3) mNil))))))))))))
@[irreducible] noncomputable def m_law_deed_u : List D → M → Res D := mFn 4 3 b_law_deed_u
noncomputable def b_law_dark_u : MS := (mSeq (mFor (mRng (mCons (m2 fAdd (mC (.int 2)) (mL (mFix 2 m_law_draw_u) (mCons (mVar 1) (mCons (mC (.int 4)) mNil)))) mNil)) (gN 2)
  (mSeq (mSet 3 (mL (mFix 2 m_law_draw_u) (mCons (mVar 1) (mCons (mC (.int 6)) mNil))))
  (mSeq (mIfS (mAndT (mTest (m2 fSLt (mVar 3) (mC (.int 2)))) (mNotT (mTru (mL (mFix 3 m_law_counted_u) (mCons (mVar 0) (mCons (mVar 3) (mCons (mVar 1) mNil)))))))
  (mRet (mC (.bl false)))
  mSkip)
  (mSeq (mIfS (mAndT (mTest (m2 fEq (mVar 3) (mC (.int 2)))) (mNotT (mTru (mL (mFix 2 m_law_read_u) (mCons (mVar 0) (mCons (mVar 1) mNil))))))
  (mRet (mC (.bl false)))
  mSkip)
  (mSeq (mIfS (mAndT (mTest (m2 fEq (mVar 3) (mC (.int 3)))) (mNotT (mTru (mL (mFix 2 m_law_armed_u) (mCons (mVar 0) (mCons (mVar 1) mNil))))))
  (mRet (mC (.bl false)))
  mSkip)
  (mSeq (mIfS (mAndT (mTest (m2 fEq (mVar 3) (mC (.int 4)))) (mNotT (mTru (mL (mFix 2 m_law_outside_u) (mCons (mVar 0) (mCons (mVar 1) mNil))))))
  (mRet (mC (.bl false)))
  mSkip)
  (mIfS (mAndT (mTest (m2 fEq (mVar 3) (mC (.int 5)))) (mNotT (mTru (mL (mFix 2 m_law_rotted_u) (mCons (mVar 0) (mCons (mVar 1) mNil))))))
  (mRet (mC (.bl false)))
  mSkip)))))))
  (mSeq (mIfS (mOrT (mNotT (mTru (mL (mFix 2 m_law_armed_u) (mCons (mVar 0) (mCons (mVar 1) mNil))))) (mNotT (mTru (mL (mFix 3 m_law_counted_u) (mCons (mVar 0) (mCons (mL (mFix 2 m_law_draw_u) (mCons (mVar 1) (mCons (mC (.int 2)) mNil))) (mCons (mVar 1) mNil)))))))
  (mRet (mC (.bl false)))
  mSkip)
  (mRet (mL (mFix 1 m_law_look_u) (mCons (mVar 0) mNil)))))
@[irreducible] noncomputable def m_law_dark_u : List D → M → Res D := mFn 4 2 b_law_dark_u
noncomputable def b_law_ended_u : MS := (mSeq (mIfS (mNotT (mTru (mL (mFix 2 m_law_restarted_u) (mCons (mVar 0) (mCons (mL fLst mNil) mNil)))))
  (mRet (mC (.bl false)))
  mSkip)
  (mSeq (mSet 2 (mL (mFix 2 m_law_draw_u) (mCons (mVar 1) (mCons (mC (.int 4)) mNil))))
  (mSeq (m3 fPut (mVar 0) (mC (.str "left")) (mVar 2))
  (mSeq (mDo (mMeth "Disk" "arm" 2 m_Disk_arm (m2 fIx (mVar 0) (mC (.str "disk"))) (mCons (mC (.int 9)) mNil)))
  (mSeq (mDo (mMeth "Disk" "arm" 2 m_Disk_arm (m2 fIx (mVar 0) (mC (.str "disk"))) (mCons (mC (.int 1)) mNil)))
  (mSeq (mIfS (mTest (m1 fIsNN (mMeth "Disk" "arm" 2 m_Disk_arm (m2 fIx (mVar 0) (mC (.str "disk"))) (mCons (mVar 2) mNil))))
  (mRet (mC (.bl false)))
  mSkip)
  (mSeq (mFor (mRng (mCons (mVar 2) mNil)) (gN 3)
  (mIfS (mOrT (mNotT (mTru (mL (mFix 2 m_law_outside_u) (mCons (mVar 0) (mCons (mVar 1) mNil))))) (mNotT (mTru (mL (mFix 3 m_law_counted_u) (mCons (mVar 0) (mCons (mL (mFix 2 m_law_draw_u) (mCons (mVar 1) (mCons (mC (.int 2)) mNil))) (mCons (mVar 1) mNil)))))))
  (mRet (mC (.bl false)))
  mSkip))
  (mSeq (mIfS (mOrT (mNotT (mTru (mL (mFix 2 m_law_outside_u) (mCons (mVar 0) (mCons (mVar 1) mNil))))) (mNotT (mTru (mL (mFix 1 m_law_look_u) (mCons (mVar 0) mNil)))))
  (mRet (mC (.bl false)))
  mSkip)
  (mSeq (mIfS (mNotT (mTru (mL (mFix 3 m_law_counted_u) (mCons (mVar 0) (mCons (mL (mFix 2 m_law_draw_u) (mCons (mVar 1) (mCons (mC (.int 2)) mNil))) (mCons (mVar 1) mNil))))))
  (mRet (mC (.bl false)))
  mSkip)
  (mSeq (mIfS (mOrT (mNotT (mTru (mL (mFix 1 m_law_look_u) (mCons (mVar 0) mNil)))) (mNotT (mTru (mL (mFix 2 m_law_dark_u) (mCons (mVar 0) (mCons (mVar 1) mNil))))))
  (mRet (mC (.bl false)))
  mSkip)
  (mSeq (mIfS (mNotT (mTru (mL (mFix 2 m_law_restarted_u) (mCons (mVar 0) (mCons (mLcN [4] (mRng (mCons (mL fLen (mCons (m2 fIx (mVar 0) (mC (.str "queue"))) mNil)) mNil)) (gN 4) mYes (mVar 4)) mNil)))))
  (mRet (mC (.bl false)))
  mSkip)
  (mSeq (mFor (mRng (mCons (m2 fAdd (mC (.int 6)) (mL (mFix 2 m_law_draw_u) (mCons (mVar 1) (mCons (mC (.int 4)) mNil)))) mNil)) (gN 3)
  (mIfS (mNotT (mTru (mL (mFix 3 m_law_counted_u) (mCons (mVar 0) (mCons (mL (mFix 2 m_law_draw_u) (mCons (mVar 1) (mCons (mC (.int 2)) mNil))) (mCons (mVar 1) mNil))))))
  (mRet (mC (.bl false)))
  mSkip))
  (mRet (mL (mFix 1 m_law_look_u) (mCons (mVar 0) mNil)))))))))))))))
@[irreducible] noncomputable def m_law_ended_u : List D → M → Res D := mFn 5 2 b_law_ended_u
noncomputable def b_law : MS := (mSeq (mSet 1 (mL (mFix 1 m_law_bag_u) (mCons (mVar 0) mNil)))
  (mSeq (mSet 2 (m2 fAdd (mC (.int 8)) (mL (mFix 2 m_law_draw_u) (mCons (mVar 1) (mCons (mC (.int 5)) mNil)))))
  (mSeq (mSet 3 (mDisp [.inr "disk", .inr "blocks", .inr "queue", .inr "on", .inr "left"] (mCons (mMake "Disk" 2 m_Disk___init__ (mCons (mVar 2) mNil)) (mCons (mVar 2) (mCons (mL fLst mNil) (mCons (mC (.bl true)) (mCons (mC (.int (-1))) mNil)))))))
  (mSeq (m3 fPut (mVar 3) (mC (.str "shown")) (mLcN [9] (mRng (mCons (mVar 2) mNil)) (gN 9) mYes (m2 fMulX (mL fLst (mCons (mC (.int 0)) mNil)) (mC (.int 48)))))
  (mSeq (mFor (mIter (mL fLst (mCons (mC (.str "writes")) (mCons (mC (.str "flushes")) (mCons (mC (.str "reads")) (mCons (mC (.str "restarts")) mNil)))))) (gN 4)
  (m3 fPut (mVar 3) (mVar 4) (mC (.int 0))))
  (mSeq (mSet 5 (mL fLst (mCons (mVar 3) mNil)))
  (mSeq (mFor (mRng (mCons (m2 fAdd (mC (.int 10)) (mL (mFix 2 m_law_draw_u) (mCons (mVar 1) (mCons (m2 fAdd (mC (.int 5)) (mL fMin (mCons (mC (.int 35)) (mCons (m2 fMulX (mC (.int 2)) (mL fLen (mCons (mVar 0) mNil))) mNil)))) mNil)))) mNil)) (gN 6)
  (mSeq (mSet 7 (mL (mFix 2 m_law_draw_u) (mCons (mVar 1) (mCons (mC (.int 14)) mNil))))
  (mSeq (mIfS (mTest (m2 fEq (mVar 6) (mC (.int 0))))
  (mSet 7 (mC (.int 7)))
  mSkip)
  (mIfS (mNotT (mTru (mL (mFix 3 m_law_deed_u) (mCons (mVar 5) (mCons (mVar 7) (mCons (mVar 1) mNil))))))
  (mRet (mC (.bl false)))
  mSkip))))
  (mSeq (mFor (mIter (mVar 5)) (gN 8)
  (mIfS (mNotT (mTru (mL (mFix 2 m_law_ended_u) (mCons (mVar 8) (mCons (mVar 1) mNil)))))
  (mRet (mC (.bl false)))
  mSkip))
  (mSeq (mFor (mIter (mVar 5)) (gN 8)
  (mIfS (mNotT (mTru (mL (mFix 1 m_law_look_u) (mCons (mVar 8) mNil))))
  (mRet (mC (.bl false)))
  mSkip))
  (mRet (mC (.bl true))))))))))))
@[irreducible] noncomputable def m_law : List D → M → Res D := mFn 10 1 b_law
/-! ### the derivations -/
section
variable {P : Program} {w : World} {K : PySem.W.Frag} {mg : Str → Option Value} {base : Heap}
theorem bd_Disk___init__ (T : Top P w K mg) (f : Addr) (cdv : Value) (A : Around) (outer : List Env) (s : Shared) (H : Hp) (E : XK) (hr : Room 0 (A.deeper (envOfC "Disk.__init__" (defScope s_Disk___init__) s.heap.objs.size f cdv))) :
    FSs (cxOf (L2N.CX P w) P w K mg base ["self", "size"] "Disk.__init__" (defScope s_Disk___init__) f cdv A outer s H E) (fun c d _ H => E c d H) none (defBody s_Disk___init__) b_Disk___init__ :=
  have hu := L2H.roomH_of hr
  (fs_cons (fs_fld T.x_ct (fv 0) (fv 1))
  (fs_cons (fs_fld T.x_ct (fv 0) fe_dnew)
  (fs_cons (fs_fld T.x_ct (fv 0) fe_dnew)
  (fs_cons (fs_fld T.x_ct (fv 0) fe_dnew)
  (fs_cons (fs_fld T.x_ct (fv 0) (fe_lst fa_nil))
  (fs_cons (fs_fld T.x_ct (fv 0) fe_dnew)
  (fs_cons (fs_fld T.x_ct (fv 0) fe_bl)
  (fs_cons (fs_fld T.x_ct (fv 0) fe_non)
  (fs_cons (fs_fld T.x_ct (fv 0) fe_int)
  (fs_cons (fs_fld T.x_ct (fv 0) fe_int)
  (fs_cons (fs_fld T.x_ct (fv 0) fe_int)
  (fs_one (fs_fld T.x_ct (fv 0) fe_int)))))))))))))
theorem ok_Disk___init__ (T : Top P w K mg) : KDef P w K mg base "Disk" 1 2 m_Disk___init__ := by unfold m_Disk___init__; exact kdefOf T.f_Disk___init__ sc_Disk___init__ (bd_Disk___init__ T)
theorem bd_law_bag_u (T : Top P w K mg) (f : Addr) (cdv : Value) (A : Around) (outer : List Env) (s : Shared) (H : Hp) (E : XK) (hr : Room 0 (A.deeper (envOfC "_law_bag" (defScope s_law_bag_u) s.heap.objs.size f cdv))) :
    FSs (cxOf (L2N.CX P w) P w K mg base ["script", "cells", "cell"] "_law_bag" (defScope s_law_bag_u) f cdv A outer s H E) (fun c d _ H => E c d H) none (defBody s_law_bag_u) b_law_bag_u :=
  have hu := L2H.roomH_of hr
  (fs_cons (fs_setLc (i := 1) [("cell", 2)] sc_law_bag_u.nd (fi_any (fe_slice (fv 0) fo_none (fo_some fe_int))) (blkOk_by (N := ["script", "cells", "cell"]) (sc := defScope s_law_bag_u) (own := [("cell", 2)]) (by decide +kernel)) (fun _ _ _ _ _ => (fg_name (i := 2) sc_law_bag_u.nd)) (fun _ _ _ _ _ => fts_nil) (fun _ _ _ _ _ => (fe_mod (fe_intc T.z_int (fa_cons (fv 2) fa_nil)) (fk_pow (v := (18446744073709551616 ^ 32)) (fk_pow (v := 18446744073709551616) fe_int fe_int (by decide +kernel) (by decide +kernel)) fe_int (by decide +kernel) (by decide +kernel)))) (sw_true rfl rfl rfl (by decide +kernel)))
  (fs_one (fs_ret (fe_disp (fp_cons (fv 1) (fp_cons fe_int (fp_cons fe_int (fp_cons fe_int (fp_cons (fe_len (by decide +kernel) T.z_len (fa_cons (fv 1) fa_nil)) (fp_cons fe_int fp_nil))))))))))
theorem ok_law_bag_u (T : Top P w K mg) : Def P w K mg base "_law_bag" 1 1 m_law_bag_u := by unfold m_law_bag_u; exact defOf T.f_law_bag_u sc_law_bag_u (bd_law_bag_u T)
theorem bd_Disk_arm (T : Top P w K mg) (f : Addr) (cdv : Value) (A : Around) (outer : List Env) (s : Shared) (H : Hp) (E : XK) (hr : Room 0 (A.deeper (envOfC "Disk.arm" (defScope s_Disk_arm) s.heap.objs.size f cdv))) :
    FSs (cxOf (L2N.CX P w) P w K mg base ["self", "steps"] "Disk.arm" (defScope s_Disk_arm) f cdv A outer s H E) (fun c d _ H => E c d H) none (defBody s_Disk_arm) b_Disk_arm :=
  have hu := L2H.roomH_of hr
  (fs_one (fs_fld T.x_ct (fv 0) (fv 1)))
theorem ok_Disk_arm (T : Top P w K mg) : MDef P w K mg base "Disk" "arm" 1 2 m_Disk_arm := by unfold m_Disk_arm; exact mdefOf T.f_Disk_arm sc_Disk_arm (bd_Disk_arm T)
theorem bd_law_mixed_u (T : Top P w K mg) (f : Addr) (cdv : Value) (A : Around) (outer : List Env) (s : Shared) (H : Hp) (E : XK) (hr : Room 0 (A.deeper (envOfC "_law_mixed" (defScope s_law_mixed_u) s.heap.objs.size f cdv))) :
    FSs (cxOf (L2N.CX P w) P w K mg base ["seed", "turn", "first", "second", "third"] "_law_mixed" (defScope s_law_mixed_u) f cdv A outer s H E) (fun c d _ H => E c d H) none (defBody s_law_mixed_u) b_law_mixed_u :=
  have hu := L2H.roomH_of hr
  (fs_cons (fs_set (i := 2) sc_law_mixed_u.nd (fe_mod (fe_intc T.z_int (fa_cons (fe_add (fe_add (fv 0) (fe_mulX (fv 1) fe_int)) fe_int) fa_nil)) fe_int))
  (fs_cons (fs_set (i := 3) sc_law_mixed_u.nd (fe_mod (fe_intc T.z_int (fa_cons (fe_add (fe_add (fe_mulX (fv 2) (fv 2)) (fe_mulX (fv 0) fe_int)) (fe_mulX (fv 1) fe_int)) fa_nil)) fe_int))
  (fs_cons (fs_set (i := 4) sc_law_mixed_u.nd (fe_mod (fe_intc T.z_int (fa_cons (fe_add (fe_mulX (fv 3) fe_int) (fv 1)) fa_nil)) fe_int))
  (fs_one (fs_ret (fe_mod (fe_intc T.z_int (fa_cons (fe_add (fe_mulX (fv 4) (fv 4)) (fv 3)) fa_nil)) fe_int))))))
theorem ok_law_mixed_u (T : Top P w K mg) : Def P w K mg base "_law_mixed" 1 2 m_law_mixed_u := by unfold m_law_mixed_u; exact defOf T.f_law_mixed_u sc_law_mixed_u (bd_law_mixed_u T)
theorem bd_law_draw_u (T : Top P w K mg) (f : Addr) (cdv : Value) (A : Around) (outer : List Env) (s : Shared) (H : Hp) (E : XK) (hr : Room 1 (A.deeper (envOfC "_law_draw" (defScope s_law_draw_u) s.heap.objs.size f cdv))) :
    FSs (cxOf (L2N.CX P w) P w K mg base ["bag", "many", "cell", "digit"] "_law_draw" (defScope s_law_draw_u) f cdv A outer s H E) (fun c d _ H => E c d H) none (defBody s_law_draw_u) b_law_draw_u :=
  have hu := L2H.roomH_of hr
  (fs_cons (fs_put hu (fv 0) fe_str (fe_add (fe_ix hu (fv 0) fe_str) fe_int))
  (fs_cons (fs_if (FW.ft (fw_or (ft_c1 (fc_eq hu (fe_ix hu (fv 0) fe_str) fe_int)) (fw_or1 (ft_c1 (fc_eq hu (fe_ix hu (fv 0) fe_str) fe_int)))))
  (fs_cons (fs_put hu (fv 0) fe_str fe_int)
  (fs_one (fs_if (ft_c1 (fc_slt (fe_ix hu (fv 0) fe_str) (fe_len (by decide +kernel) T.z_len (fa_cons (fe_ix hu (fv 0) fe_str) fa_nil))))
  (fs_cons (fs_set (i := 2) sc_law_draw_u.nd (fe_ix hu (fe_ix hu (fv 0) fe_str) (fe_ix hu (fv 0) fe_str)))
  (fs_cons (fs_put hu (fv 0) fe_str (fe_add (fe_ix hu (fv 0) fe_str) fe_int))
  (fs_cons (fs_put hu (fv 0) fe_str (fe_mod (fe_intc T.z_int (fa_cons (fe_add (fe_add (fe_mulX (fe_ix hu (fv 0) fe_str) fe_int) (fv 2)) fe_int) fa_nil)) fe_int))
  (fs_one (fs_if (ft_c1 (fc_ge (fv 2) (fk_pow (v := 1000000000000000000) fe_int fe_int (by decide +kernel) (by decide +kernel))))
  (fs_cons (fs_put hu (fv 0) fe_str (fv 2))
  (fs_one (fs_put hu (fv 0) fe_str fe_int)))
  fs_nil)))))
  fs_nil)))
  fs_nil)
  (fs_cons (fs_if (ft_c1 (fc_gt (fe_ix hu (fv 0) fe_str) fe_int))
  (fs_cons (fs_put hu (fv 0) fe_str (fe_sub (fe_ix hu (fv 0) fe_str) fe_int))
  (fs_cons (fs_set (i := 3) sc_law_draw_u.nd (fe_mod (fe_intc T.z_int (fa_cons (fe_ix hu (fv 0) fe_str) fa_nil)) (fv 1)))
  (fs_cons (fs_put hu (fv 0) fe_str (fe_div (fe_ix hu (fv 0) fe_str) (fv 1)))
  (fs_one (fs_ret (fv 3))))))
  fs_nil)
  (fs_one (fs_ret (fe_mod (fe_intc T.z_int (fa_cons (fe_call (ok_law_mixed_u T) tkD (hr.mono (by decide)) (fa_cons (fe_ix hu (fv 0) fe_str) (fa_cons (fe_ix hu (fv 0) fe_str) fa_nil))) fa_nil)) (fv 1)))))))
theorem ok_law_draw_u (T : Top P w K mg) : Def P w K mg base "_law_draw" 2 2 m_law_draw_u := by unfold m_law_draw_u; exact defOf T.f_law_draw_u sc_law_draw_u (bd_law_draw_u T)
theorem bd_law_armed_u (T : Top P w K mg) (f : Addr) (cdv : Value) (A : Around) (outer : List Env) (s : Shared) (H : Hp) (E : XK) (hr : Room 2 (A.deeper (envOfC "_law_armed" (defScope s_law_armed_u) s.heap.objs.size f cdv))) :
    FSs (cxOf (L2N.CX P w) P w K mg base ["state", "bag", "way", "steps"] "_law_armed" (defScope s_law_armed_u) f cdv A outer s H E) (fun c d _ H => E c d H) none (defBody s_law_armed_u) b_law_armed_u :=
  have hu := L2H.roomH_of hr
  (fs_cons (fs_set (i := 2) sc_law_armed_u.nd (fe_call (ok_law_draw_u T) tkD (hr.mono (by decide)) (fa_cons (fv 1) (fa_cons fe_int fa_nil))))
  (fs_cons (fs_set (i := 3) sc_law_armed_u.nd (fe_call (ok_law_draw_u T) tkD (hr.mono (by decide)) (fa_cons (fv 1) (fa_cons fe_int fa_nil))))
  (fs_cons (fs_if (ft_c1 (fc_eq hu (fv 2) fe_int))
  (fs_cons (fs_put hu (fv 0) fe_str (fk_neg (v := (-1)) fe_int (by decide +kernel)))
  (fs_one (fs_ret (fe_c1 (fc_isN (fe_meth (ok_Disk_arm T) tkD (hr.mono (by decide)) (fe_ix hu (fv 0) fe_str) (fa_cons fe_non fa_nil)))))))
  fs_nil)
  (fs_cons (fs_if (ft_c1 (fc_eq hu (fv 2) fe_int))
  (fs_one (fs_set (i := 3) sc_law_armed_u.nd (fe_add fe_int (fe_call (ok_law_draw_u T) tkD (hr.mono (by decide)) (fa_cons (fv 1) (fa_cons fe_int fa_nil))))))
  fs_nil)
  (fs_cons (fs_put hu (fv 0) fe_str (fv 3))
  (fs_one (fs_ret (fe_c1 (fc_isN (fe_meth (ok_Disk_arm T) tkD (hr.mono (by decide)) (fe_ix hu (fv 0) fe_str) (fa_cons (fv 3) fa_nil)))))))))))
theorem ok_law_armed_u (T : Top P w K mg) : Def P w K mg base "_law_armed" 3 2 m_law_armed_u := by unfold m_law_armed_u; exact defOf T.f_law_armed_u sc_law_armed_u (bd_law_armed_u T)
theorem bd_Disk__empty_queue (T : Top P w K mg) (f : Addr) (cdv : Value) (A : Around) (outer : List Env) (s : Shared) (H : Hp) (E : XK) (hr : Room 0 (A.deeper (envOfC "Disk._empty_queue" (defScope s_Disk__empty_queue) s.heap.objs.size f cdv))) :
    FSs (cxOf (L2N.CX P w) P w K mg base ["self"] "Disk._empty_queue" (defScope s_Disk__empty_queue) f cdv A outer s H E) (fun c d _ H => E c d H) none (defBody s_Disk__empty_queue) b_Disk__empty_queue :=
  have hu := L2H.roomH_of hr
  (fs_cons (fs_fld T.x_ct (fv 0) (fe_lst fa_nil))
  (fs_one (fs_fld T.x_ct (fv 0) fe_dnew)))
theorem ok_Disk__empty_queue (T : Top P w K mg) : MDef P w K mg base "Disk" "_empty_queue" 1 1 m_Disk__empty_queue := by unfold m_Disk__empty_queue; exact mdefOf T.f_Disk__empty_queue sc_Disk__empty_queue (bd_Disk__empty_queue T)
theorem bd_Disk__words_at (T : Top P w K mg) (f : Addr) (cdv : Value) (A : Around) (outer : List Env) (s : Shared) (H : Hp) (E : XK) (hr : Room 0 (A.deeper (envOfC "Disk._words_at" (defScope s_Disk__words_at) s.heap.objs.size f cdv))) :
    FSs (cxOf (L2N.CX P w) P w K mg base ["self", "address"] "Disk._words_at" (defScope s_Disk__words_at) f cdv A outer s H E) (fun c d _ H => E c d H) none (defBody s_Disk__words_at) b_Disk__words_at :=
  have hu := L2H.roomH_of hr
  (fs_one (fs_ret (fe_get2 hu (fe_fld T.x_ct (fv 0)) (fv 1) (fe_gct T.g_ZERO_WORDS))))
theorem ok_Disk__words_at (T : Top P w K mg) : MDef P w K mg base "Disk" "_words_at" 1 2 m_Disk__words_at := by unfold m_Disk__words_at; exact mdefOf T.f_Disk__words_at sc_Disk__words_at (bd_Disk__words_at T)
theorem bd_Disk__land (T : Top P w K mg) (f : Addr) (cdv : Value) (A : Around) (outer : List Env) (s : Shared) (H : Hp) (E : XK) (hr : Room 1 (A.deeper (envOfC "Disk._land" (defScope s_Disk__land) s.heap.objs.size f cdv))) :
    FSs (cxOf (L2N.CX P w) P w K mg base ["self", "address", "words", "mask", "before"] "Disk._land" (defScope s_Disk__land) f cdv A outer s H E) (fun c d _ H => E c d H) none (defBody s_Disk__land) b_Disk__land :=
  have hu := L2H.roomH_of hr
  (fs_cons (fs_set (i := 4) sc_Disk__land.nd (fe_meth (ok_Disk__words_at T) tkD (hr.mono (by decide)) (fv 0) (fa_cons (fv 1) fa_nil)))
  (fs_cons (fs_if (ft_c1 (fc_eq hu (fv 3) (T.c_WHOLE.elim fun _ e => fe_gint e)))
  (fs_cons (fs_put hu (fe_fld T.x_ct (fv 0)) (fv 1) (fv 2))
  (fs_one (fs_if (ft_c1 (fc_in hu (fv 1) (fe_fld T.x_ct (fv 0))))
  (fs_one (fs_ddel (fe_fld T.x_ct (fv 0)) (fv 1)))
  fs_nil)))
  (fs_one fs_stuck))
  (fs_one (fs_put hu (fe_fld T.x_ct (fv 0)) (fv 1) (fv 4)))))
theorem ok_Disk__land (T : Top P w K mg) : MDef P w K mg base "Disk" "_land" 2 4 m_Disk__land := by unfold m_Disk__land; exact mdefOf T.f_Disk__land sc_Disk__land (bd_Disk__land T)
theorem bd_Disk__take_step (T : Top P w K mg) (f : Addr) (cdv : Value) (A : Around) (outer : List Env) (s : Shared) (H : Hp) (E : XK) (hr : Room 0 (A.deeper (envOfC "Disk._take_step" (defScope s_Disk__take_step) s.heap.objs.size f cdv))) :
    FSs (cxOf (L2N.CX P w) P w K mg base ["self"] "Disk._take_step" (defScope s_Disk__take_step) f cdv A outer s H E) (fun c d _ H => E c d H) none (defBody s_Disk__take_step) b_Disk__take_step :=
  have hu := L2H.roomH_of hr
  (fs_cons (fs_if (ft_not (ft_tru (fe_fld T.x_ct (fv 0))))
  (fs_one (fs_raise0 T.y_PowerLost tkD))
  fs_nil)
  (fs_one (fs_if (ft_c1 (fc_isNN (fe_fld T.x_ct (fv 0))))
  (fs_cons (fs_if (ft_c1 (fc_le (fe_fld T.x_ct (fv 0)) fe_int))
  (fs_cons (fs_fld T.x_ct (fv 0) fe_bl)
  (fs_one (fs_raise0 T.y_PowerLost tkD)))
  fs_nil)
  (fs_one (fs_fldsub T.x_ct (fv 0) fe_int)))
  fs_nil)))
theorem ok_Disk__take_step (T : Top P w K mg) : MDef P w K mg base "Disk" "_take_step" 1 1 m_Disk__take_step := by unfold m_Disk__take_step; exact mdefOf T.f_Disk__take_step sc_Disk__take_step (bd_Disk__take_step T)
theorem bd_Disk_flush (T : Top P w K mg) (f : Addr) (cdv : Value) (A : Around) (outer : List Env) (s : Shared) (H : Hp) (E : XK) (hr : Room 2 (A.deeper (envOfC "Disk.flush" (defScope s_Disk_flush) s.heap.objs.size f cdv))) :
    FSs (cxOf (L2N.CX P w) P w K mg base ["self", "address", "words"] "Disk.flush" (defScope s_Disk_flush) f cdv A outer s H E) (fun c d _ H => E c d H) none (defBody s_Disk_flush) b_Disk_flush :=
  have hu := L2H.roomH_of hr
  (fs_cons (fs_expr (fe_meth0 (ok_Disk__take_step T) tkD (hr.mono (by decide)) (fv 0)))
  (fs_cons (fs_for poD (fi_any (fe_fld T.x_ct (fv 0))) (fg_tup (fgs_cons (fg_name (i := 1) sc_Disk_flush.nd) (fgs_cons (fg_name (i := 2) sc_Disk_flush.nd) fgs_nil)))
  (fs_one (fs_expr (fe_meth (ok_Disk__land T) tkD (hr.mono (by decide)) (fv 0) (fa_cons (fv 1) (fa_cons (fv 2) (fa_cons (T.c_WHOLE.elim fun _ e => fe_gint e) fa_nil)))))))
  (fs_cons (fs_expr (fe_meth0 (ok_Disk__empty_queue T) tkD (hr.mono (by decide)) (fv 0)))
  (fs_one (fs_fldadd T.x_ct (fv 0) fe_int)))))
theorem ok_Disk_flush (T : Top P w K mg) : MDef P w K mg base "Disk" "flush" 3 1 m_Disk_flush := by unfold m_Disk_flush; exact mdefOf T.f_Disk_flush sc_Disk_flush (bd_Disk_flush T)
theorem bd_Disk__check_address (T : Top P w K mg) (f : Addr) (cdv : Value) (A : Around) (outer : List Env) (s : Shared) (H : Hp) (E : XK) (hr : Room 2 (A.deeper (envOfC "Disk._check_address" (defScope s_Disk__check_address) s.heap.objs.size f cdv))) :
    FSs (cxOf (L2N.CX P w) P w K mg base ["self", "address"] "Disk._check_address" (defScope s_Disk__check_address) f cdv A outer s H E) (fun c d _ H => E c d H) none (defBody s_Disk__check_address) b_Disk__check_address :=
  have hu := L2H.roomH_of hr
  (fs_one (fs_if (FW.ft (fw_or (ft_c1 (fc_slt (fv 1) fe_int)) (fw_or1 (ft_c1 (fc_ge (fv 1) (fe_fld T.x_ct (fv 0)))))))
  (fs_one (fs_raise (T.x_BadAddress _ _) tkD (hr.mono (by decide)) (fa_cons (fv 1) fa_nil)))
  fs_nil))
theorem ok_Disk__check_address (T : Top P w K mg) : MDef P w K mg base "Disk" "_check_address" 3 2 m_Disk__check_address := by unfold m_Disk__check_address; exact mdefOf T.f_Disk__check_address sc_Disk__check_address (bd_Disk__check_address T)
theorem bd_Disk_write (T : Top P w K mg) (f : Addr) (cdv : Value) (A : Around) (outer : List Env) (s : Shared) (H : Hp) (E : XK) (hr : Room 3 (A.deeper (envOfC "Disk.write" (defScope s_Disk_write) s.heap.objs.size f cdv))) :
    FSs (cxOf (L2N.CX P w) P w K mg base ["self", "address", "words", "kept"] "Disk.write" (defScope s_Disk_write) f cdv A outer s H E) (fun c d _ H => E c d H) none (defBody s_Disk_write) b_Disk_write :=
  have hu := L2H.roomH_of hr
  (fs_cons (fs_expr (fe_meth (ok_Disk__check_address T) tkD (hr.mono (by decide)) (fv 0) (fa_cons (fv 1) fa_nil)))
  (fs_cons (fs_expr (fe_meth0 (ok_Disk__take_step T) tkD (hr.mono (by decide)) (fv 0)))
  (fs_cons (fs_set (i := 3) sc_Disk_write.nd (fe_tuple T.z_tuple (fa_cons (fv 2) fa_nil)))
  (fs_cons (fs_expr (fe_append (fe_fld T.x_ct (fv 0)) (fa_cons (fe_tup (fa_cons (fv 1) (fa_cons (fv 3) fa_nil))) fa_nil)))
  (fs_cons (fs_put hu (fe_fld T.x_ct (fv 0)) (fv 1) (fv 3))
  (fs_one (fs_fldadd T.x_ct (fv 0) fe_int)))))))
theorem ok_Disk_write (T : Top P w K mg) : MDef P w K mg base "Disk" "write" 4 3 m_Disk_write := by unfold m_Disk_write; exact mdefOf T.f_Disk_write sc_Disk_write (bd_Disk_write T)
theorem bd_law_land_u (T : Top P w K mg) (f : Addr) (cdv : Value) (A : Around) (outer : List Env) (s : Shared) (H : Hp) (E : XK) (hr : Room 0 (A.deeper (envOfC "_law_land" (defScope s_law_land_u) s.heap.objs.size f cdv))) :
    FSs (cxOf (L2N.CX P w) P w K mg base ["state", "order", "k", "deed"] "_law_land" (defScope s_law_land_u) f cdv A outer s H E) (fun c d _ H => E c d H) none (defBody s_law_land_u) b_law_land_u :=
  have hu := L2H.roomH_of hr
  (fs_cons (fs_for poD (fi_any (fv 1)) (fg_name (i := 2) sc_law_land_u.nd)
  (fs_cons (fs_set (i := 3) sc_law_land_u.nd (fe_ix hu (fe_ix hu (fv 0) fe_str) (fv 2)))
  (fs_one (fs_put hu (fe_ix hu (fv 0) fe_str) (fe_ix hu (fv 3) fe_int) (fe_ix hu (fv 3) fe_int)))))
  (fs_one (fs_put hu (fv 0) fe_str (fe_lst fa_nil))))
theorem ok_law_land_u (T : Top P w K mg) : Def P w K mg base "_law_land" 1 2 m_law_land_u := by unfold m_law_land_u; exact defOf T.f_law_land_u sc_law_land_u (bd_law_land_u T)
theorem bd_law_latest_u (T : Top P w K mg) (f : Addr) (cdv : Value) (A : Around) (outer : List Env) (s : Shared) (H : Hp) (E : XK) (hr : Room 0 (A.deeper (envOfC "_law_latest" (defScope s_law_latest_u) s.heap.objs.size f cdv))) :
    FSs (cxOf (L2N.CX P w) P w K mg base ["state", "address", "found", "deed"] "_law_latest" (defScope s_law_latest_u) f cdv A outer s H E) (fun c d _ H => E c d H) none (defBody s_law_latest_u) b_law_latest_u :=
  have hu := L2H.roomH_of hr
  (fs_cons (fs_set (i := 2) sc_law_latest_u.nd (fe_ix hu (fe_ix hu (fv 0) fe_str) (fv 1)))
  (fs_cons (fs_for poD (fi_any (fe_ix hu (fv 0) fe_str)) (fg_name (i := 3) sc_law_latest_u.nd)
  (fs_one (fs_if (ft_c1 (fc_eq hu (fe_ix hu (fv 3) fe_int) (fv 1)))
  (fs_one (fs_set (i := 2) sc_law_latest_u.nd (fe_ix hu (fv 3) fe_int)))
  fs_nil)))
  (fs_one (fs_ret (fv 2)))))
theorem ok_law_latest_u (T : Top P w K mg) : Def P w K mg base "_law_latest" 1 2 m_law_latest_u := by unfold m_law_latest_u; exact defOf T.f_law_latest_u sc_law_latest_u (bd_law_latest_u T)
theorem bd_Disk_platter_block (T : Top P w K mg) (f : Addr) (cdv : Value) (A : Around) (outer : List Env) (s : Shared) (H : Hp) (E : XK) (hr : Room 3 (A.deeper (envOfC "Disk.platter_block" (defScope s_Disk_platter_block) s.heap.objs.size f cdv))) :
    FSs (cxOf (L2N.CX P w) P w K mg base ["self", "address"] "Disk.platter_block" (defScope s_Disk_platter_block) f cdv A outer s H E) (fun c d _ H => E c d H) none (defBody s_Disk_platter_block) b_Disk_platter_block :=
  have hu := L2H.roomH_of hr
  (fs_cons (fs_expr (fe_meth (ok_Disk__check_address T) tkD (hr.mono (by decide)) (fv 0) (fa_cons (fv 1) fa_nil)))
  (fs_cons (fs_if (ft_c1 (fc_in hu (fv 1) (fe_fld T.x_ct (fv 0))))
  (fs_one (fs_raise (T.x_Unreadable _ _) tkD (hr.mono (by decide)) (fa_cons (fv 1) fa_nil)))
  fs_nil)
  (fs_one (fs_ret (fe_list T.z_list (fa_cons (fe_meth (ok_Disk__words_at T) tkD (hr.mono (by decide)) (fv 0) (fa_cons (fv 1) fa_nil)) fa_nil))))))
theorem ok_Disk_platter_block (T : Top P w K mg) : MDef P w K mg base "Disk" "platter_block" 4 2 m_Disk_platter_block := by unfold m_Disk_platter_block; exact mdefOf T.f_Disk_platter_block sc_Disk_platter_block (bd_Disk_platter_block T)
theorem bd_Disk_read (T : Top P w K mg) (f : Addr) (cdv : Value) (A : Around) (outer : List Env) (s : Shared) (H : Hp) (E : XK) (hr : Room 3 (A.deeper (envOfC "Disk.read" (defScope s_Disk_read) s.heap.objs.size f cdv))) :
    FSs (cxOf (L2N.CX P w) P w K mg base ["self", "address", "words"] "Disk.read" (defScope s_Disk_read) f cdv A outer s H E) (fun c d _ H => E c d H) none (defBody s_Disk_read) b_Disk_read :=
  have hu := L2H.roomH_of hr
  (fs_cons (fs_expr (fe_meth (ok_Disk__check_address T) tkD (hr.mono (by decide)) (fv 0) (fa_cons (fv 1) fa_nil)))
  (fs_cons (fs_if (ft_not (ft_tru (fe_fld T.x_ct (fv 0))))
  (fs_one (fs_raise0 T.y_PowerLost tkD))
  fs_nil)
  (fs_cons (fs_if (ft_c1 (fc_in hu (fv 1) (fe_fld T.x_ct (fv 0))))
  (fs_one (fs_set (i := 2) sc_Disk_read.nd (fe_ix hu (fe_fld T.x_ct (fv 0)) (fv 1))))
  (fs_one (fs_if (ft_c1 (fc_in hu (fv 1) (fe_fld T.x_ct (fv 0))))
  (fs_one (fs_raise (T.x_Unreadable _ _) tkD (hr.mono (by decide)) (fa_cons (fv 1) fa_nil)))
  (fs_one (fs_set (i := 2) sc_Disk_read.nd (fe_meth (ok_Disk__words_at T) tkD (hr.mono (by decide)) (fv 0) (fa_cons (fv 1) fa_nil)))))))
  (fs_cons (fs_fldadd T.x_ct (fv 0) fe_int)
  (fs_one (fs_ret (fe_list T.z_list (fa_cons (fv 2) fa_nil))))))))
theorem ok_Disk_read (T : Top P w K mg) : MDef P w K mg base "Disk" "read" 4 2 m_Disk_read := by unfold m_Disk_read; exact mdefOf T.f_Disk_read sc_Disk_read (bd_Disk_read T)
theorem bd_Disk__check_rest (T : Top P w K mg) (f : Addr) (cdv : Value) (A : Around) (outer : List Env) (s : Shared) (H : Hp) (E : XK) (hr : Room 0 (A.deeper (envOfC "Disk._check_rest" (defScope s_Disk__check_rest) s.heap.objs.size f cdv))) :
    FSs (cxOf (L2N.CX P w) P w K mg base ["self"] "Disk._check_rest" (defScope s_Disk__check_rest) f cdv A outer s H E) (fun c d _ H => E c d H) none (defBody s_Disk__check_rest) b_Disk__check_rest :=
  have hu := L2H.roomH_of hr
  (fs_one (fs_if (ft_c1 (fc_gt (fe_len (by decide +kernel) T.z_len (fa_cons (fe_fld T.x_ct (fv 0)) fa_nil)) fe_int))
  (fs_one (fs_raise0 T.y_NotAtRest tkD))
  fs_nil))
theorem ok_Disk__check_rest (T : Top P w K mg) : MDef P w K mg base "Disk" "_check_rest" 1 1 m_Disk__check_rest := by unfold m_Disk__check_rest; exact mdefOf T.f_Disk__check_rest sc_Disk__check_rest (bd_Disk__check_rest T)
theorem bd_Disk_rot (T : Top P w K mg) (f : Addr) (cdv : Value) (A : Around) (outer : List Env) (s : Shared) (H : Hp) (E : XK) (hr : Room 3 (A.deeper (envOfC "Disk.rot" (defScope s_Disk_rot) s.heap.objs.size f cdv))) :
    FSs (cxOf (L2N.CX P w) P w K mg base ["self", "address", "index", "word", "changed"] "Disk.rot" (defScope s_Disk_rot) f cdv A outer s H E) (fun c d _ H => E c d H) none (defBody s_Disk_rot) b_Disk_rot :=
  have hu := L2H.roomH_of hr
  (fs_cons (fs_expr (fe_meth (ok_Disk__check_address T) tkD (hr.mono (by decide)) (fv 0) (fa_cons (fv 1) fa_nil)))
  (fs_cons (fs_expr (fe_meth0 (ok_Disk__check_rest T) tkD (hr.mono (by decide)) (fv 0)))
  (fs_cons (fs_set (i := 4) sc_Disk_rot.nd (fe_list T.z_list (fa_cons (fe_meth (ok_Disk__words_at T) tkD (hr.mono (by decide)) (fv 0) (fa_cons (fv 1) fa_nil)) fa_nil)))
  (fs_cons (fs_put hu (fv 4) (fv 2) (fv 3))
  (fs_one (fs_put hu (fe_fld T.x_ct (fv 0)) (fv 1) (fe_tuple T.z_tuple (fa_cons (fv 4) fa_nil))))))))
theorem ok_Disk_rot (T : Top P w K mg) : MDef P w K mg base "Disk" "rot" 4 4 m_Disk_rot := by unfold m_Disk_rot; exact mdefOf T.f_Disk_rot sc_Disk_rot (bd_Disk_rot T)
theorem bd_law_number_u (T : Top P w K mg) (f : Addr) (cdv : Value) (A : Around) (outer : List Env) (s : Shared) (H : Hp) (E : XK) (hr : Room 0 (A.deeper (envOfC "_law_number" (defScope s_law_number_u) s.heap.objs.size f cdv))) :
    FSs (cxOf (L2N.CX P w) P w K mg base ["told", "due"] "_law_number" (defScope s_law_number_u) f cdv A outer s H E) (fun c d _ H => E c d H) none (defBody s_law_number_u) b_law_number_u :=
  have hu := L2H.roomH_of hr
  (fs_one (fs_ret (fe_and (fe_isI T.z_isinstance (fa_cons (fv 0) (fa_cons (fe_ty T.z_int (by decide +kernel)) fa_nil))) (fe_and (fe_not (fe_isI T.z_isinstance (fa_cons (fv 0) (fa_cons (fe_ty T.z_bool (by decide +kernel)) fa_nil)))) (fe_one (fe_c1 (fc_eq hu (fv 0) (fv 1))))))))
theorem bdh_law_number_u (T : Top P w K mg) (f : Addr) (cdv : Value) (A : Around) (outer : List Env) (s : Shared) (H : Hp) (E : XK) (p : Addr × Obj) (hot : L2H.Hot1 A p) (hu : L2H.RoomH 0 (A.deeper (envOfC "_law_number" (defScope s_law_number_u) s.heap.objs.size f cdv))) :
    FSs (L2H.cxH (L2N.CX P w) P w K mg base ["told", "due"] "_law_number" (defScope s_law_number_u) f cdv A outer s H E p) (fun c d _ H => E c d H) none (defBody s_law_number_u) b_law_number_u :=
  (fs_one (fs_ret (fe_and (fe_isI T.z_isinstance (fa_cons (fv 0) (fa_cons (fe_ty T.z_int (by decide +kernel)) fa_nil))) (fe_and (fe_not (fe_isI T.z_isinstance (fa_cons (fv 0) (fa_cons (fe_ty T.z_bool (by decide +kernel)) fa_nil)))) (fe_one (fe_c1 (fc_eq hu (fv 0) (fv 1))))))))
theorem okh_law_number_u (T : Top P w K mg) : DefH P w K mg base "_law_number" 1 2 m_law_number_u := by unfold m_law_number_u; exact defHOf T.f_law_number_u sc_law_number_u (bdh_law_number_u T)
theorem ok_law_number_u (T : Top P w K mg) : Def P w K mg base "_law_number" 1 2 m_law_number_u := by unfold m_law_number_u; exact defOf T.f_law_number_u sc_law_number_u (bd_law_number_u T)
theorem bd_law_refusal_u (T : Top P w K mg) (f : Addr) (cdv : Value) (A : Around) (outer : List Env) (s : Shared) (H : Hp) (E : XK) (hr : Room 4 (A.deeper (envOfC "_law_refusal" (defScope s_law_refusal_u) s.heap.objs.size f cdv))) :
    FSs (cxOf (L2N.CX P w) P w K mg base ["disk", "which", "address", "due", "raised"] "_law_refusal" (defScope s_law_refusal_u) f cdv A outer s H E) (fun c d _ H => E c d H) none (defBody s_law_refusal_u) b_law_refusal_u :=
  have hu := L2H.roomH_of hr
  (fs_cons (fs_try_as (n := "raised") (i := 4) hr T.x_tk tkD sc_law_refusal_u.nd rfl rfl T.k_LandfallError
  (fun _ _ _ tk1 po1 => (fs_one (fs_if (ft_c1 (fc_eq hu (fv 1) fe_int))
  (fs_one (fs_expr (fe_meth (ok_Disk_write T) tk1 (hr.mono (by decide)) (fv 0) (fa_cons (fv 2) (fa_cons (fe_mulX (fe_lst (fa_cons fe_int fa_nil)) fe_int) fa_nil)))))
  (fs_one (fs_if (ft_c1 (fc_eq hu (fv 1) fe_int))
  (fs_one (fs_expr (fe_meth0 (ok_Disk_flush T) tk1 (hr.mono (by decide)) (fv 0))))
  (fs_one (fs_if (ft_c1 (fc_eq hu (fv 1) fe_int))
  (fs_one (fs_expr (fe_meth (ok_Disk_read T) tk1 (hr.mono (by decide)) (fv 0) (fa_cons (fv 2) fa_nil))))
  (fs_one (fs_if (ft_c1 (fc_eq hu (fv 1) fe_int))
  (fs_one (fs_expr (fe_meth (ok_Disk_platter_block T) tk1 (hr.mono (by decide)) (fv 0) (fa_cons (fv 2) fa_nil))))
  (fs_one (fs_expr (fe_meth (ok_Disk_rot T) tk1 (hr.mono (by decide)) (fv 0) (fa_cons (fv 2) (fa_cons fe_int (fa_cons fe_int fa_nil)))))))))))))))
  (fun _ _ _ _ _ x ns xs hz hf hu hc => (fs_cons (fs_if (FW.ft (fw_or (ft_tru (fe_isX (n := "raised") (i := 4) hz hf T.x_nm T.x_tk T.x_tt T.z_isinstance rfl (.inl rfl) (fe_tup (fa_cons (T.k_Unreadable.elim fun _ e => fe_cls e) (fa_cons (T.k_BadLanding.elim fun _ e => fe_cls e) fa_nil))))) (fw_or1 (ft_not (ft_tru (fe_isX (n := "raised") (i := 4) hz hf T.x_nm T.x_tk T.x_tt T.z_isinstance rfl (.inl rfl) (fe_ty T.z_ValueError (by decide +kernel))))))))
  (fs_one (fs_ret fe_bl))
  fs_nil)
  (fs_cons (fs_if (ft_c1 (fc_ne hu (fe_isX (n := "raised") (i := 4) hz hf T.x_nm T.x_tk T.x_tt T.z_isinstance rfl (.inl rfl) (T.k_PowerLost.elim fun _ e => fe_cls e)) (fe_c1 (fc_eq hu (fv 3) fe_str))))
  (fs_one (fs_ret fe_bl))
  fs_nil)
  (fs_cons (fs_if (ft_c1 (fc_ne hu (fe_isX (n := "raised") (i := 4) hz hf T.x_nm T.x_tk T.x_tt T.z_isinstance rfl (.inl rfl) (T.k_NotAtRest.elim fun _ e => fe_cls e)) (fe_c1 (fc_eq hu (fv 3) fe_str))))
  (fs_one (fs_ret fe_bl))
  fs_nil)
  (fs_cons (fs_if (ft_c1 (fc_ne hu (fe_isX (n := "raised") (i := 4) hz hf T.x_nm T.x_tk T.x_tt T.z_isinstance rfl (.inl rfl) (T.k_BadAddress.elim fun _ e => fe_cls e)) (fe_c1 (fc_eq hu (fv 3) fe_str))))
  (fs_one (fs_ret fe_bl))
  fs_nil)
  (fs_cons (fs_if (ft_c1 (fc_eq hu (fv 3) fe_str))
  (fs_one (fs_ret (fe_callH (okh_law_number_u T) tkN (hu.mono (by decide)) hc (fa_cons (fe_xf (n := "raised") (i := 4) hz hf T.x_ft rfl (.inl rfl)) (fa_cons (fv 2) fa_nil)))))
  fs_nil)
  (fs_one (fs_ret fe_bl)))))))))
  (fs_one (fs_ret fe_bl)))
theorem ok_law_refusal_u (T : Top P w K mg) : Def P w K mg base "_law_refusal" 5 4 m_law_refusal_u := by unfold m_law_refusal_u; exact defOf T.f_law_refusal_u sc_law_refusal_u (bd_law_refusal_u T)
theorem bd_law_words_u (T : Top P w K mg) (f : Addr) (cdv : Value) (A : Around) (outer : List Env) (s : Shared) (H : Hp) (E : XK) (hr : Room 2 (A.deeper (envOfC "_law_words" (defScope s_law_words_u) s.heap.objs.size f cdv))) :
    FSs (cxOf (L2N.CX P w) P w K mg base ["bag", "old", "way", "base", "spot", "fresh", "k"] "_law_words" (defScope s_law_words_u) f cdv A outer s H E) (fun c d _ H => E c d H) none (defBody s_law_words_u) b_law_words_u :=
  have hu := L2H.roomH_of hr
  (fs_cons (fs_set (i := 2) sc_law_words_u.nd (fe_call (ok_law_draw_u T) tkD (hr.mono (by decide)) (fa_cons (fv 0) (fa_cons fe_int fa_nil))))
  (fs_cons (fs_set (i := 3) sc_law_words_u.nd (fe_call (ok_law_draw_u T) tkD (hr.mono (by decide)) (fa_cons (fv 0) (fa_cons fe_int fa_nil))))
  (fs_cons (fs_set (i := 4) sc_law_words_u.nd (fe_call (ok_law_draw_u T) tkD (hr.mono (by decide)) (fa_cons (fv 0) (fa_cons fe_int fa_nil))))
  (fs_cons (fs_if (ft_c1 (fc_eq hu (fv 2) fe_int))
  (fs_one (fs_ret (fe_mulX (fe_lst (fa_cons (fe_ix hu (fe_lst (fa_cons fe_int (fa_cons fe_int (fa_cons fe_int fa_nil)))) (fe_mod (fe_intc T.z_int (fa_cons (fv 3) fa_nil)) fe_int)) fa_nil)) fe_int)))
  fs_nil)
  (fs_cons (fs_if (ft_c1 (fc_eq hu (fv 2) fe_int))
  (fs_one (fs_ret (fe_list T.z_list (fa_cons (fv 1) fa_nil))))
  fs_nil)
  (fs_cons (fs_if (ft_c1 (fc_slt (fv 2) fe_int))
  (fs_cons (fs_set (i := 5) sc_law_words_u.nd (fe_list T.z_list (fa_cons (fv 1) fa_nil)))
  (fs_cons (fs_put hu (fv 5) (fv 4) (fe_mod (fe_intc T.z_int (fa_cons (fe_add (fe_add (fe_ix hu (fv 5) (fv 4)) fe_int) (fv 3)) fa_nil)) fe_int))
  (fs_one (fs_ret (fv 5)))))
  fs_nil)
  (fs_one (fs_ret (fe_lc [("k", 6)] sc_law_words_u.nd (fi_range1 T.z_range (fa_cons fe_int fa_nil) (mCons_len mNil_len)) (blkOk_by (N := ["bag", "old", "way", "base", "spot", "fresh", "k"]) (sc := defScope s_law_words_u) (own := [("k", 6)]) (by decide +kernel)) (fun _ _ _ _ _ => (fg_name (i := 6) sc_law_words_u.nd)) (fun _ _ _ _ _ => fts_nil) (fun _ _ _ _ _ => (fe_mod (fe_intc T.z_int (fa_cons (fe_add (fv 3) (fe_mulX (fv 6) (fe_add (fe_add (fe_div (fv 3) fe_int) (fv 4)) fe_int))) fa_nil)) fe_int)))))))))))
theorem ok_law_words_u (T : Top P w K mg) : Def P w K mg base "_law_words" 3 2 m_law_words_u := by unfold m_law_words_u; exact defOf T.f_law_words_u sc_law_words_u (bd_law_words_u T)
theorem bd_law_counted_u (T : Top P w K mg) (f : Addr) (cdv : Value) (A : Around) (outer : List Env) (s : Shared) (H : Hp) (E : XK) (hr : Room 5 (A.deeper (envOfC "_law_counted" (defScope s_law_counted_u) s.heap.objs.size f cdv))) :
    FSs (cxOf (L2N.CX P w) P w K mg base ["state", "which", "bag", "disk", "address", "fresh", "k"] "_law_counted" (defScope s_law_counted_u) f cdv A outer s H E) (fun c d _ H => E c d H) none (defBody s_law_counted_u) b_law_counted_u :=
  have hu := L2H.roomH_of hr
  (fs_cons (fs_set (i := 3) sc_law_counted_u.nd (fe_ix hu (fv 0) fe_str))
  (fs_cons (fs_set (i := 4) sc_law_counted_u.nd (fe_call (ok_law_draw_u T) tkD (hr.mono (by decide)) (fa_cons (fv 2) (fa_cons (fe_ix hu (fv 0) fe_str) fa_nil))))
  (fs_cons (fs_if (FW.ft (fw_or (ft_not (ft_tru (fe_ix hu (fv 0) fe_str))) (fw_or1 (ft_c1 (fc_eq hu (fe_ix hu (fv 0) fe_str) fe_int)))))
  (fs_cons (fs_put hu (fv 0) fe_str fe_bl)
  (fs_one (fs_ret (fe_call (ok_law_refusal_u T) tkD (hr.mono (by decide)) (fa_cons (fv 3) (fa_cons (fv 1) (fa_cons (fv 4) (fa_cons fe_str fa_nil))))))))
  fs_nil)
  (fs_cons (fs_if (ft_c1 (fc_gt (fe_ix hu (fv 0) fe_str) fe_int))
  (fs_one (fs_put hu (fv 0) fe_str (fe_sub (fe_ix hu (fv 0) fe_str) fe_int)))
  fs_nil)
  (fs_cons (fs_if (ft_c1 (fc_eq hu (fv 1) fe_int))
  (fs_cons (fs_set (i := 5) sc_law_counted_u.nd (fe_call (ok_law_words_u T) tkD (hr.mono (by decide)) (fa_cons (fv 2) (fa_cons (fe_call (ok_law_latest_u T) tkD (hr.mono (by decide)) (fa_cons (fv 0) (fa_cons (fv 4) fa_nil))) fa_nil))))
  (fs_cons (fs_expr (fe_append (fe_ix hu (fv 0) fe_str) (fa_cons (fe_tup (fa_cons (fv 4) (fa_cons (fv 5) fa_nil))) fa_nil)))
  (fs_cons (fs_put hu (fv 0) fe_str (fe_add (fe_ix hu (fv 0) fe_str) fe_int))
  (fs_one (fs_ret (fe_c1 (fc_isN (fe_meth (ok_Disk_write T) tkD (hr.mono (by decide)) (fv 3) (fa_cons (fv 4) (fa_cons (fe_list T.z_list (fa_cons (fv 5) fa_nil)) fa_nil))))))))))
  fs_nil)
  (fs_cons (fs_expr (fe_call (ok_law_land_u T) tkD (hr.mono (by decide)) (fa_cons (fv 0) (fa_cons (fe_lc [("k", 6)] sc_law_counted_u.nd (fi_range1 T.z_range (fa_cons (fe_len (by decide +kernel) T.z_len (fa_cons (fe_ix hu (fv 0) fe_str) fa_nil)) fa_nil) (mCons_len mNil_len)) (blkOk_by (N := ["state", "which", "bag", "disk", "address", "fresh", "k"]) (sc := defScope s_law_counted_u) (own := [("k", 6)]) (by decide +kernel)) (fun _ _ _ _ _ => (fg_name (i := 6) sc_law_counted_u.nd)) (fun _ _ _ _ _ => fts_nil) (fun _ _ _ _ _ => (fv 6))) fa_nil))))
  (fs_cons (fs_put hu (fv 0) fe_str (fe_add (fe_ix hu (fv 0) fe_str) fe_int))
  (fs_one (fs_ret (fe_c1 (fc_isN (fe_meth0 (ok_Disk_flush T) tkD (hr.mono (by decide)) (fv 3)))))))))))))
theorem ok_law_counted_u (T : Top P w K mg) : Def P w K mg base "_law_counted" 6 3 m_law_counted_u := by unfold m_law_counted_u; exact defOf T.f_law_counted_u sc_law_counted_u (bd_law_counted_u T)
theorem bd_Disk_pending (T : Top P w K mg) (f : Addr) (cdv : Value) (A : Around) (outer : List Env) (s : Shared) (H : Hp) (E : XK) (hr : Room 0 (A.deeper (envOfC "Disk.pending" (defScope s_Disk_pending) s.heap.objs.size f cdv))) :
    FSs (cxOf (L2N.CX P w) P w K mg base ["self", "address", "words"] "Disk.pending" (defScope s_Disk_pending) f cdv A outer s H E) (fun c d _ H => E c d H) none (defBody s_Disk_pending) b_Disk_pending :=
  have hu := L2H.roomH_of hr
  (fs_one (fs_ret (fe_lc [("address", 1), ("words", 2)] sc_Disk_pending.nd (fi_any (fe_fld T.x_ct (fv 0))) (blkOk_by (N := ["self", "address", "words"]) (sc := defScope s_Disk_pending) (own := [("address", 1), ("words", 2)]) (by decide +kernel)) (fun _ _ _ _ _ => (fg_tup (fgs_cons (fg_name (i := 1) sc_Disk_pending.nd) (fgs_cons (fg_name (i := 2) sc_Disk_pending.nd) fgs_nil)))) (fun _ _ _ _ _ => fts_nil) (fun _ _ _ _ _ => (fe_tup (fa_cons (fv 1) (fa_cons (fe_list T.z_list (fa_cons (fv 2) fa_nil)) fa_nil)))))))
theorem ok_Disk_pending (T : Top P w K mg) : MDef P w K mg base "Disk" "pending" 1 1 m_Disk_pending := by unfold m_Disk_pending; exact mdefOf T.f_Disk_pending sc_Disk_pending (bd_Disk_pending T)
theorem bd_Disk_flush_count (T : Top P w K mg) (f : Addr) (cdv : Value) (A : Around) (outer : List Env) (s : Shared) (H : Hp) (E : XK) (hr : Room 0 (A.deeper (envOfC "Disk.flush_count" (defScope s_Disk_flush_count) s.heap.objs.size f cdv))) :
    FSs (cxOf (L2N.CX P w) P w K mg base ["self"] "Disk.flush_count" (defScope s_Disk_flush_count) f cdv A outer s H E) (fun c d _ H => E c d H) none (defBody s_Disk_flush_count) b_Disk_flush_count :=
  have hu := L2H.roomH_of hr
  (fs_one (fs_ret (fe_fld T.x_ct (fv 0))))
theorem ok_Disk_flush_count (T : Top P w K mg) : PDef P w K mg base "Disk" "flush_count" 1 m_Disk_flush_count := by unfold m_Disk_flush_count; exact pdefOf T.f_Disk_flush_count rfl sc_Disk_flush_count (bd_Disk_flush_count T)
theorem bd_Disk_is_on (T : Top P w K mg) (f : Addr) (cdv : Value) (A : Around) (outer : List Env) (s : Shared) (H : Hp) (E : XK) (hr : Room 0 (A.deeper (envOfC "Disk.is_on" (defScope s_Disk_is_on) s.heap.objs.size f cdv))) :
    FSs (cxOf (L2N.CX P w) P w K mg base ["self"] "Disk.is_on" (defScope s_Disk_is_on) f cdv A outer s H E) (fun c d _ H => E c d H) none (defBody s_Disk_is_on) b_Disk_is_on :=
  have hu := L2H.roomH_of hr
  (fs_one (fs_ret (fe_fld T.x_ct (fv 0))))
theorem ok_Disk_is_on (T : Top P w K mg) : PDef P w K mg base "Disk" "is_on" 1 m_Disk_is_on := by unfold m_Disk_is_on; exact pdefOf T.f_Disk_is_on rfl sc_Disk_is_on (bd_Disk_is_on T)
theorem bd_Disk_queued (T : Top P w K mg) (f : Addr) (cdv : Value) (A : Around) (outer : List Env) (s : Shared) (H : Hp) (E : XK) (hr : Room 0 (A.deeper (envOfC "Disk.queued" (defScope s_Disk_queued) s.heap.objs.size f cdv))) :
    FSs (cxOf (L2N.CX P w) P w K mg base ["self"] "Disk.queued" (defScope s_Disk_queued) f cdv A outer s H E) (fun c d _ H => E c d H) none (defBody s_Disk_queued) b_Disk_queued :=
  have hu := L2H.roomH_of hr
  (fs_one (fs_ret (fe_len (by decide +kernel) T.z_len (fa_cons (fe_fld T.x_ct (fv 0)) fa_nil))))
theorem ok_Disk_queued (T : Top P w K mg) : PDef P w K mg base "Disk" "queued" 1 m_Disk_queued := by unfold m_Disk_queued; exact pdefOf T.f_Disk_queued rfl sc_Disk_queued (bd_Disk_queued T)
theorem bd_Disk_read_count (T : Top P w K mg) (f : Addr) (cdv : Value) (A : Around) (outer : List Env) (s : Shared) (H : Hp) (E : XK) (hr : Room 0 (A.deeper (envOfC "Disk.read_count" (defScope s_Disk_read_count) s.heap.objs.size f cdv))) :
    FSs (cxOf (L2N.CX P w) P w K mg base ["self"] "Disk.read_count" (defScope s_Disk_read_count) f cdv A outer s H E) (fun c d _ H => E c d H) none (defBody s_Disk_read_count) b_Disk_read_count :=
  have hu := L2H.roomH_of hr
  (fs_one (fs_ret (fe_fld T.x_ct (fv 0))))
theorem ok_Disk_read_count (T : Top P w K mg) : PDef P w K mg base "Disk" "read_count" 1 m_Disk_read_count := by unfold m_Disk_read_count; exact pdefOf T.f_Disk_read_count rfl sc_Disk_read_count (bd_Disk_read_count T)
theorem bd_Disk_restart_count (T : Top P w K mg) (f : Addr) (cdv : Value) (A : Around) (outer : List Env) (s : Shared) (H : Hp) (E : XK) (hr : Room 0 (A.deeper (envOfC "Disk.restart_count" (defScope s_Disk_restart_count) s.heap.objs.size f cdv))) :
    FSs (cxOf (L2N.CX P w) P w K mg base ["self"] "Disk.restart_count" (defScope s_Disk_restart_count) f cdv A outer s H E) (fun c d _ H => E c d H) none (defBody s_Disk_restart_count) b_Disk_restart_count :=
  have hu := L2H.roomH_of hr
  (fs_one (fs_ret (fe_fld T.x_ct (fv 0))))
theorem ok_Disk_restart_count (T : Top P w K mg) : PDef P w K mg base "Disk" "restart_count" 1 m_Disk_restart_count := by unfold m_Disk_restart_count; exact pdefOf T.f_Disk_restart_count rfl sc_Disk_restart_count (bd_Disk_restart_count T)
theorem bd_Disk_size (T : Top P w K mg) (f : Addr) (cdv : Value) (A : Around) (outer : List Env) (s : Shared) (H : Hp) (E : XK) (hr : Room 0 (A.deeper (envOfC "Disk.size" (defScope s_Disk_size) s.heap.objs.size f cdv))) :
    FSs (cxOf (L2N.CX P w) P w K mg base ["self"] "Disk.size" (defScope s_Disk_size) f cdv A outer s H E) (fun c d _ H => E c d H) none (defBody s_Disk_size) b_Disk_size :=
  have hu := L2H.roomH_of hr
  (fs_one (fs_ret (fe_fld T.x_ct (fv 0))))
theorem ok_Disk_size (T : Top P w K mg) : PDef P w K mg base "Disk" "size" 1 m_Disk_size := by unfold m_Disk_size; exact pdefOf T.f_Disk_size rfl sc_Disk_size (bd_Disk_size T)
theorem bd_Disk_write_count (T : Top P w K mg) (f : Addr) (cdv : Value) (A : Around) (outer : List Env) (s : Shared) (H : Hp) (E : XK) (hr : Room 0 (A.deeper (envOfC "Disk.write_count" (defScope s_Disk_write_count) s.heap.objs.size f cdv))) :
    FSs (cxOf (L2N.CX P w) P w K mg base ["self"] "Disk.write_count" (defScope s_Disk_write_count) f cdv A outer s H E) (fun c d _ H => E c d H) none (defBody s_Disk_write_count) b_Disk_write_count :=
  have hu := L2H.roomH_of hr
  (fs_one (fs_ret (fe_fld T.x_ct (fv 0))))
theorem ok_Disk_write_count (T : Top P w K mg) : PDef P w K mg base "Disk" "write_count" 1 m_Disk_write_count := by unfold m_Disk_write_count; exact pdefOf T.f_Disk_write_count rfl sc_Disk_write_count (bd_Disk_write_count T)
theorem bd_law_counts_u (T : Top P w K mg) (f : Addr) (cdv : Value) (A : Around) (outer : List Env) (s : Shared) (H : Hp) (E : XK) (hr : Room 2 (A.deeper (envOfC "_law_counts" (defScope s_law_counts_u) s.heap.objs.size f cdv))) :
    FSs (cxOf (L2N.CX P w) P w K mg base ["state", "disk"] "_law_counts" (defScope s_law_counts_u) f cdv A outer s H E) (fun c d _ H => E c d H) none (defBody s_law_counts_u) b_law_counts_u :=
  have hu := L2H.roomH_of hr
  (fs_cons (fs_set (i := 1) sc_law_counts_u.nd (fe_ix hu (fv 0) fe_str))
  (fs_cons (fs_if (FW.ft (fw_or (ft_not (ft_tru (fe_call (ok_law_number_u T) tkD (hr.mono (by decide)) (fa_cons (fe_prop (ok_Disk_size T) (hr.mono (by decide)) (fv 1)) (fa_cons (fe_ix hu (fv 0) fe_str) fa_nil))))) (fw_or1 (ft_not (ft_tru (fe_call (ok_law_number_u T) tkD (hr.mono (by decide)) (fa_cons (fe_prop (ok_Disk_queued T) (hr.mono (by decide)) (fv 1)) (fa_cons (fe_len (by decide +kernel) T.z_len (fa_cons (fe_ix hu (fv 0) fe_str) fa_nil)) fa_nil))))))))
  (fs_one (fs_ret fe_bl))
  fs_nil)
  (fs_cons (fs_if (ft_not (ft_tru (fe_call (ok_law_number_u T) tkD (hr.mono (by decide)) (fa_cons (fe_prop (ok_Disk_write_count T) (hr.mono (by decide)) (fv 1)) (fa_cons (fe_ix hu (fv 0) fe_str) fa_nil)))))
  (fs_one (fs_ret fe_bl))
  fs_nil)
  (fs_cons (fs_if (ft_not (ft_tru (fe_call (ok_law_number_u T) tkD (hr.mono (by decide)) (fa_cons (fe_prop (ok_Disk_flush_count T) (hr.mono (by decide)) (fv 1)) (fa_cons (fe_ix hu (fv 0) fe_str) fa_nil)))))
  (fs_one (fs_ret fe_bl))
  fs_nil)
  (fs_cons (fs_if (ft_not (ft_tru (fe_call (ok_law_number_u T) tkD (hr.mono (by decide)) (fa_cons (fe_prop (ok_Disk_read_count T) (hr.mono (by decide)) (fv 1)) (fa_cons (fe_ix hu (fv 0) fe_str) fa_nil)))))
  (fs_one (fs_ret fe_bl))
  fs_nil)
  (fs_cons (fs_if (ft_not (ft_tru (fe_call (ok_law_number_u T) tkD (hr.mono (by decide)) (fa_cons (fe_prop (ok_Disk_restart_count T) (hr.mono (by decide)) (fv 1)) (fa_cons (fe_ix hu (fv 0) fe_str) fa_nil)))))
  (fs_one (fs_ret fe_bl))
  fs_nil)
  (fs_cons (fs_if (ft_tru (fe_ix hu (fv 0) fe_str))
  (fs_one (fs_ret (fe_c1 (fc_isB (fe_prop (ok_Disk_is_on T) (hr.mono (by decide)) (fv 1)) fe_bl))))
  fs_nil)
  (fs_one (fs_ret (fe_c1 (fc_isB (fe_prop (ok_Disk_is_on T) (hr.mono (by decide)) (fv 1)) fe_bl)))))))))))
theorem ok_law_counts_u (T : Top P w K mg) : Def P w K mg base "_law_counts" 3 1 m_law_counts_u := by unfold m_law_counts_u; exact defOf T.f_law_counts_u sc_law_counts_u (bd_law_counts_u T)
theorem bd_law_same_u (T : Top P w K mg) (f : Addr) (cdv : Value) (A : Around) (outer : List Env) (s : Shared) (H : Hp) (E : XK) (hr : Room 0 (A.deeper (envOfC "_law_same" (defScope s_law_same_u) s.heap.objs.size f cdv))) :
    FSs (cxOf (L2N.CX P w) P w K mg base ["told", "due", "one"] "_law_same" (defScope s_law_same_u) f cdv A outer s H E) (fun c d _ H => E c d H) none (defBody s_law_same_u) b_law_same_u :=
  have hu := L2H.roomH_of hr
  (fs_cons (fs_if (FW.ft (fw_or (ft_not (ft_tru (fe_isI T.z_isinstance (fa_cons (fv 0) (fa_cons (fe_ty T.z_list (by decide +kernel)) fa_nil))))) (fw_or1 (ft_c1 (fc_ne hu (fe_len (by decide +kernel) T.z_len (fa_cons (fv 0) fa_nil)) fe_int)))))
  (fs_one (fs_ret fe_bl))
  fs_nil)
  (fs_cons (fs_if (ft_c1 (fc_ne hu (fe_lc [("one", 2)] sc_law_same_u.nd (fi_any (fv 0)) (blkOk_by (N := ["told", "due", "one"]) (sc := defScope s_law_same_u) (own := [("one", 2)]) (by decide +kernel)) (fun _ _ _ _ _ => (fg_name (i := 2) sc_law_same_u.nd)) (fun _ _ _ _ _ => (fts_one (FW.ft (fw_or (ft_tru (fe_isI T.z_isinstance (fa_cons (fv 2) (fa_cons (fe_ty T.z_bool (by decide +kernel)) fa_nil)))) (fw_or1 (ft_not (ft_tru (fe_isI T.z_isinstance (fa_cons (fv 2) (fa_cons (fe_ty T.z_int (by decide +kernel)) fa_nil)))))))))) (fun _ _ _ _ _ => (fv 2))) (fe_lst fa_nil)))
  (fs_one (fs_ret fe_bl))
  fs_nil)
  (fs_one (fs_ret (fe_c1 (fc_eq hu (fv 0) (fv 1)))))))
theorem ok_law_same_u (T : Top P w K mg) : Def P w K mg base "_law_same" 1 2 m_law_same_u := by unfold m_law_same_u; exact defOf T.f_law_same_u sc_law_same_u (bd_law_same_u T)
theorem bd_law_queue_u (T : Top P w K mg) (f : Addr) (cdv : Value) (A : Around) (outer : List Env) (s : Shared) (H : Hp) (E : XK) (hr : Room 1 (A.deeper (envOfC "_law_queue" (defScope s_law_queue_u) s.heap.objs.size f cdv))) :
    FSs (cxOf (L2N.CX P w) P w K mg base ["told", "due", "k", "pair"] "_law_queue" (defScope s_law_queue_u) f cdv A outer s H E) (fun c d _ H => E c d H) none (defBody s_law_queue_u) b_law_queue_u :=
  have hu := L2H.roomH_of hr
  (fs_cons (fs_if (FW.ft (fw_or (ft_not (ft_tru (fe_isI T.z_isinstance (fa_cons (fv 0) (fa_cons (fe_ty T.z_list (by decide +kernel)) fa_nil))))) (fw_or1 (ft_c1 (fc_ne hu (fe_len (by decide +kernel) T.z_len (fa_cons (fv 0) fa_nil)) (fe_len (by decide +kernel) T.z_len (fa_cons (fv 1) fa_nil)))))))
  (fs_one (fs_ret fe_bl))
  fs_nil)
  (fs_cons (fs_for poD (fi_range1 T.z_range (fa_cons (fe_len (by decide +kernel) T.z_len (fa_cons (fv 1) fa_nil)) fa_nil) (mCons_len mNil_len)) (fg_name (i := 2) sc_law_queue_u.nd)
  (fs_cons (fs_set (i := 3) sc_law_queue_u.nd (fe_ix hu (fv 0) (fv 2)))
  (fs_cons (fs_if (FW.ft (fw_or (ft_not (ft_tru (fe_isI T.z_isinstance (fa_cons (fv 3) (fa_cons (fe_ty T.z_tuple (by decide +kernel)) fa_nil))))) (fw_or1 (ft_c1 (fc_ne hu (fe_len (by decide +kernel) T.z_len (fa_cons (fv 3) fa_nil)) fe_int)))))
  (fs_one (fs_ret fe_bl))
  fs_nil)
  (fs_one (fs_if (FW.ft (fw_or (ft_not (ft_tru (fe_call (ok_law_number_u T) tkD (hr.mono (by decide)) (fa_cons (fe_ix hu (fv 3) fe_int) (fa_cons (fe_ix hu (fe_ix hu (fv 1) (fv 2)) fe_int) fa_nil))))) (fw_or1 (ft_not (ft_tru (fe_call (ok_law_same_u T) tkD (hr.mono (by decide)) (fa_cons (fe_ix hu (fv 3) fe_int) (fa_cons (fe_ix hu (fe_ix hu (fv 1) (fv 2)) fe_int) fa_nil))))))))
  (fs_one (fs_ret fe_bl))
  fs_nil)))))
  (fs_one (fs_ret fe_bl))))
theorem ok_law_queue_u (T : Top P w K mg) : Def P w K mg base "_law_queue" 2 2 m_law_queue_u := by unfold m_law_queue_u; exact defOf T.f_law_queue_u sc_law_queue_u (bd_law_queue_u T)
theorem bd_law_look_u (T : Top P w K mg) (f : Addr) (cdv : Value) (A : Around) (outer : List Env) (s : Shared) (H : Hp) (E : XK) (hr : Room 4 (A.deeper (envOfC "_law_look" (defScope s_law_look_u) s.heap.objs.size f cdv))) :
    FSs (cxOf (L2N.CX P w) P w K mg base ["state", "disk", "address"] "_law_look" (defScope s_law_look_u) f cdv A outer s H E) (fun c d _ H => E c d H) none (defBody s_law_look_u) b_law_look_u :=
  have hu := L2H.roomH_of hr
  (fs_cons (fs_set (i := 1) sc_law_look_u.nd (fe_ix hu (fv 0) fe_str))
  (fs_cons (fs_for poD (fi_range1 T.z_range (fa_cons (fe_ix hu (fv 0) fe_str) fa_nil) (mCons_len mNil_len)) (fg_name (i := 2) sc_law_look_u.nd)
  (fs_cons (fs_if (ft_not (ft_tru (fe_call (ok_law_same_u T) tkD (hr.mono (by decide)) (fa_cons (fe_meth (ok_Disk_platter_block T) tkD (hr.mono (by decide)) (fv 1) (fa_cons (fv 2) fa_nil)) (fa_cons (fe_ix hu (fe_ix hu (fv 0) fe_str) (fv 2)) fa_nil)))))
  (fs_one (fs_ret fe_bl))
  fs_nil)
  (fs_one (fs_if (ft_tru (fe_ix hu (fv 0) fe_str))
  (fs_cons (fs_if (ft_not (ft_tru (fe_call (ok_law_same_u T) tkD (hr.mono (by decide)) (fa_cons (fe_meth (ok_Disk_read T) tkD (hr.mono (by decide)) (fv 1) (fa_cons (fv 2) fa_nil)) (fa_cons (fe_call (ok_law_latest_u T) tkD (hr.mono (by decide)) (fa_cons (fv 0) (fa_cons (fv 2) fa_nil))) fa_nil)))))
  (fs_one (fs_ret fe_bl))
  fs_nil)
  (fs_one (fs_put hu (fv 0) fe_str (fe_add (fe_ix hu (fv 0) fe_str) fe_int))))
  fs_nil))))
  (fs_one (fs_ret (fe_and (fe_call (ok_law_queue_u T) tkD (hr.mono (by decide)) (fa_cons (fe_meth0 (ok_Disk_pending T) tkD (hr.mono (by decide)) (fv 1)) (fa_cons (fe_ix hu (fv 0) fe_str) fa_nil))) (fe_one (fe_call (ok_law_counts_u T) tkD (hr.mono (by decide)) (fa_cons (fv 0) fa_nil))))))))
theorem ok_law_look_u (T : Top P w K mg) : Def P w K mg base "_law_look" 5 1 m_law_look_u := by unfold m_law_look_u; exact defOf T.f_law_look_u sc_law_look_u (bd_law_look_u T)
theorem bd_law_order_u (T : Top P w K mg) (f : Addr) (cdv : Value) (A : Around) (outer : List Env) (s : Shared) (H : Hp) (E : XK) (hr : Room 2 (A.deeper (envOfC "_law_order" (defScope s_law_order_u) s.heap.objs.size f cdv))) :
    FSs (cxOf (L2N.CX P w) P w K mg base ["bag", "many", "free", "order", "k"] "_law_order" (defScope s_law_order_u) f cdv A outer s H E) (fun c d _ H => E c d H) none (defBody s_law_order_u) b_law_order_u :=
  have hu := L2H.roomH_of hr
  (fs_cons (fs_setLc (i := 2) [("k", 4)] sc_law_order_u.nd (fi_range1 T.z_range (fa_cons (fv 1) fa_nil) (mCons_len mNil_len)) (blkOk_by (N := ["bag", "many", "free", "order", "k"]) (sc := defScope s_law_order_u) (own := [("k", 4)]) (by decide +kernel)) (fun _ _ _ _ _ => (fg_name (i := 4) sc_law_order_u.nd)) (fun _ _ _ _ _ => fts_nil) (fun _ _ _ _ _ => (fv 4)) (sw_true rfl rfl rfl (by decide +kernel)))
  (fs_cons (fs_set (i := 3) sc_law_order_u.nd (fe_lst fa_nil))
  (fs_cons (fs_for poD (fi_range1 T.z_range (fa_cons (fe_call (ok_law_draw_u T) tkD (hr.mono (by decide)) (fa_cons (fv 0) (fa_cons (fe_add (fv 1) fe_int) fa_nil))) fa_nil) (mCons_len mNil_len)) (fg_name (i := 4) sc_law_order_u.nd)
  (fs_one (fs_expr (fe_append (fv 3) (fa_cons (fe_bm PySem.F.plainAttrs_list PySem.F.slot_list_pop PySem.F.type_list_pop mt_popAt ab_popAt (fv 2) (fa_cons (fe_call (ok_law_draw_u T) tkD (hr.mono (by decide)) (fa_cons (fv 0) (fa_cons (fe_len (by decide +kernel) T.z_len (fa_cons (fv 2) fa_nil)) fa_nil))) fa_nil)) fa_nil)))))
  (fs_one (fs_ret (fv 3))))))
theorem ok_law_order_u (T : Top P w K mg) : Def P w K mg base "_law_order" 3 2 m_law_order_u := by unfold m_law_order_u; exact defOf T.f_law_order_u sc_law_order_u (bd_law_order_u T)
theorem bd_law_outside_u (T : Top P w K mg) (f : Addr) (cdv : Value) (A : Around) (outer : List Env) (s : Shared) (H : Hp) (E : XK) (hr : Room 5 (A.deeper (envOfC "_law_outside" (defScope s_law_outside_u) s.heap.objs.size f cdv))) :
    FSs (cxOf (L2N.CX P w) P w K mg base ["state", "bag", "far", "address"] "_law_outside" (defScope s_law_outside_u) f cdv A outer s H E) (fun c d _ H => E c d H) none (defBody s_law_outside_u) b_law_outside_u :=
  have hu := L2H.roomH_of hr
  (fs_cons (fs_set (i := 2) sc_law_outside_u.nd (fe_call (ok_law_draw_u T) tkD (hr.mono (by decide)) (fa_cons (fv 1) (fa_cons fe_int fa_nil))))
  (fs_cons (fs_set (i := 3) sc_law_outside_u.nd (fe_ix hu (fe_lst (fa_cons (fk_neg (v := (-1)) fe_int (by decide +kernel)) (fa_cons (fe_ix hu (fv 0) fe_str) (fa_cons (fe_neg (fe_ix hu (fv 0) fe_str)) (fa_cons (fe_add (fe_ix hu (fv 0) fe_str) (fv 2)) (fa_cons (fe_sub (fk_neg (v := (-1)) fe_int (by decide +kernel)) (fv 2)) fa_nil)))))) (fe_call (ok_law_draw_u T) tkD (hr.mono (by decide)) (fa_cons (fv 1) (fa_cons fe_int fa_nil)))))
  (fs_one (fs_ret (fe_call (ok_law_refusal_u T) tkD (hr.mono (by decide)) (fa_cons (fe_ix hu (fv 0) fe_str) (fa_cons (fe_ix hu (fe_lst (fa_cons fe_int (fa_cons fe_int (fa_cons fe_int (fa_cons fe_int fa_nil))))) (fe_call (ok_law_draw_u T) tkD (hr.mono (by decide)) (fa_cons (fv 1) (fa_cons fe_int fa_nil)))) (fa_cons (fv 3) (fa_cons fe_str fa_nil)))))))))
theorem ok_law_outside_u (T : Top P w K mg) : Def P w K mg base "_law_outside" 6 2 m_law_outside_u := by unfold m_law_outside_u; exact defOf T.f_law_outside_u sc_law_outside_u (bd_law_outside_u T)
theorem bd_law_read_u (T : Top P w K mg) (f : Addr) (cdv : Value) (A : Around) (outer : List Env) (s : Shared) (H : Hp) (E : XK) (hr : Room 5 (A.deeper (envOfC "_law_read" (defScope s_law_read_u) s.heap.objs.size f cdv))) :
    FSs (cxOf (L2N.CX P w) P w K mg base ["state", "bag", "address"] "_law_read" (defScope s_law_read_u) f cdv A outer s H E) (fun c d _ H => E c d H) none (defBody s_law_read_u) b_law_read_u :=
  have hu := L2H.roomH_of hr
  (fs_cons (fs_set (i := 2) sc_law_read_u.nd (fe_call (ok_law_draw_u T) tkD (hr.mono (by decide)) (fa_cons (fv 1) (fa_cons (fe_ix hu (fv 0) fe_str) fa_nil))))
  (fs_cons (fs_if (ft_not (ft_tru (fe_ix hu (fv 0) fe_str)))
  (fs_one (fs_ret (fe_call (ok_law_refusal_u T) tkD (hr.mono (by decide)) (fa_cons (fe_ix hu (fv 0) fe_str) (fa_cons fe_int (fa_cons (fv 2) (fa_cons fe_str fa_nil)))))))
  fs_nil)
  (fs_cons (fs_put hu (fv 0) fe_str (fe_add (fe_ix hu (fv 0) fe_str) fe_int))
  (fs_one (fs_ret (fe_call (ok_law_same_u T) tkD (hr.mono (by decide)) (fa_cons (fe_meth (ok_Disk_read T) tkD (hr.mono (by decide)) (fe_ix hu (fv 0) fe_str) (fa_cons (fv 2) fa_nil)) (fa_cons (fe_call (ok_law_latest_u T) tkD (hr.mono (by decide)) (fa_cons (fv 0) (fa_cons (fv 2) fa_nil))) fa_nil))))))))
theorem ok_law_read_u (T : Top P w K mg) : Def P w K mg base "_law_read" 6 2 m_law_read_u := by unfold m_law_read_u; exact defOf T.f_law_read_u sc_law_read_u (bd_law_read_u T)
theorem bd_Disk_restart (T : Top P w K mg) (f : Addr) (cdv : Value) (A : Around) (outer : List Env) (s : Shared) (H : Hp) (E : XK) (hr : Room 2 (A.deeper (envOfC "Disk.restart" (defScope s_Disk_restart) s.heap.objs.size f cdv))) :
    FSs (cxOf (L2N.CX P w) P w K mg base ["self", "landed", "seen", "index", "mask", "address", "words"] "Disk.restart" (defScope s_Disk_restart) f cdv A outer s H E) (fun c d _ H => E c d H) none (defBody s_Disk_restart) b_Disk_restart :=
  have hu := L2H.roomH_of hr
  (fs_cons (fs_set (i := 2) sc_Disk_restart.nd fe_dnew)
  (fs_cons (fs_for poD (fi_any (fv 1)) (fg_tup (fgs_cons (fg_name (i := 3) sc_Disk_restart.nd) (fgs_cons (fg_name (i := 4) sc_Disk_restart.nd) fgs_nil)))
  (fs_cons (fs_if (FW.ft (fw_or (ft_c1 (fc_in hu (fv 3) (fv 2))) (fw_or (ft_c1 (fc_slt (fv 3) fe_int)) (fw_or1 (ft_c1 (fc_ge (fv 3) (fe_len (by decide +kernel) T.z_len (fa_cons (fe_fld T.x_ct (fv 0)) fa_nil))))))))
  (fs_one (fs_raise (T.x_BadLanding _ _) tkD (hr.mono (by decide)) (fa_cons (fv 3) fa_nil)))
  fs_nil)
  (fs_cons (fs_if (FW.ft (fw_or (ft_c1 (fc_slt (fv 4) fe_int)) (fw_or1 (ft_c1 (fc_gt (fv 4) (T.c_WHOLE.elim fun _ e => fe_gint e))))))
  (fs_one (fs_raise (T.x_BadLanding _ _) tkD (hr.mono (by decide)) (fa_cons (fv 3) fa_nil)))
  fs_nil)
  (fs_one (fs_put hu (fv 2) (fv 3) fe_bl)))))
  (fs_cons (fs_for poD (fi_any (fv 1)) (fg_tup (fgs_cons (fg_name (i := 3) sc_Disk_restart.nd) (fgs_cons (fg_name (i := 4) sc_Disk_restart.nd) fgs_nil)))
  (fs_one (fs_if (ft_c1 (fc_ne hu (fv 4) fe_int))
  (fs_cons (fs_asg (fe_ix hu (fe_fld T.x_ct (fv 0)) (fv 3)) (fg_tup (fgs_cons (fg_name (i := 5) sc_Disk_restart.nd) (fgs_cons (fg_name (i := 6) sc_Disk_restart.nd) fgs_nil))))
  (fs_one (fs_expr (fe_meth (ok_Disk__land T) tkD (hr.mono (by decide)) (fv 0) (fa_cons (fv 5) (fa_cons (fv 6) (fa_cons (fv 4) fa_nil)))))))
  fs_nil)))
  (fs_cons (fs_expr (fe_meth0 (ok_Disk__empty_queue T) tkD (hr.mono (by decide)) (fv 0)))
  (fs_cons (fs_fld T.x_ct (fv 0) fe_bl)
  (fs_cons (fs_fld T.x_ct (fv 0) fe_non)
  (fs_one (fs_fldadd T.x_ct (fv 0) fe_int))))))))
theorem ok_Disk_restart (T : Top P w K mg) : MDef P w K mg base "Disk" "restart" 3 2 m_Disk_restart := by unfold m_Disk_restart; exact mdefOf T.f_Disk_restart sc_Disk_restart (bd_Disk_restart T)
theorem bd_law_restarted_u (T : Top P w K mg) (f : Addr) (cdv : Value) (A : Around) (outer : List Env) (s : Shared) (H : Hp) (E : XK) (hr : Room 3 (A.deeper (envOfC "_law_restarted" (defScope s_law_restarted_u) s.heap.objs.size f cdv))) :
    FSs (cxOf (L2N.CX P w) P w K mg base ["state", "order", "landed", "k"] "_law_restarted" (defScope s_law_restarted_u) f cdv A outer s H E) (fun c d _ H => E c d H) none (defBody s_law_restarted_u) b_law_restarted_u :=
  have hu := L2H.roomH_of hr
  (fs_cons (fs_setLc (i := 2) [("k", 3)] sc_law_restarted_u.nd (fi_any (fv 1)) (blkOk_by (N := ["state", "order", "landed", "k"]) (sc := defScope s_law_restarted_u) (own := [("k", 3)]) (by decide +kernel)) (fun _ _ _ _ _ => (fg_name (i := 3) sc_law_restarted_u.nd)) (fun _ _ _ _ _ => fts_nil) (fun _ _ _ _ _ => (fe_tup (fa_cons (fv 3) (fa_cons fe_int fa_nil)))) (sw_true rfl rfl rfl (by decide +kernel)))
  (fs_cons (fs_if (ft_c1 (fc_isNN (fe_meth (ok_Disk_restart T) tkD (hr.mono (by decide)) (fe_ix hu (fv 0) fe_str) (fa_cons (fv 2) fa_nil))))
  (fs_one (fs_ret fe_bl))
  fs_nil)
  (fs_cons (fs_expr (fe_call (ok_law_land_u T) tkD (hr.mono (by decide)) (fa_cons (fv 0) (fa_cons (fv 1) fa_nil))))
  (fs_cons (fs_put hu (fv 0) fe_str fe_bl)
  (fs_cons (fs_put hu (fv 0) fe_str (fk_neg (v := (-1)) fe_int (by decide +kernel)))
  (fs_cons (fs_put hu (fv 0) fe_str (fe_add (fe_ix hu (fv 0) fe_str) fe_int))
  (fs_one (fs_ret fe_bl))))))))
theorem ok_law_restarted_u (T : Top P w K mg) : Def P w K mg base "_law_restarted" 4 2 m_law_restarted_u := by unfold m_law_restarted_u; exact defOf T.f_law_restarted_u sc_law_restarted_u (bd_law_restarted_u T)
theorem bd_law_rotted_u (T : Top P w K mg) (f : Addr) (cdv : Value) (A : Around) (outer : List Env) (s : Shared) (H : Hp) (E : XK) (hr : Room 5 (A.deeper (envOfC "_law_rotted" (defScope s_law_rotted_u) s.heap.objs.size f cdv))) :
    FSs (cxOf (L2N.CX P w) P w K mg base ["state", "bag", "address", "spot", "word", "block"] "_law_rotted" (defScope s_law_rotted_u) f cdv A outer s H E) (fun c d _ H => E c d H) none (defBody s_law_rotted_u) b_law_rotted_u :=
  have hu := L2H.roomH_of hr
  (fs_cons (fs_set (i := 2) sc_law_rotted_u.nd (fe_call (ok_law_draw_u T) tkD (hr.mono (by decide)) (fa_cons (fv 1) (fa_cons (fe_ix hu (fv 0) fe_str) fa_nil))))
  (fs_cons (fs_set (i := 3) sc_law_rotted_u.nd (fe_call (ok_law_draw_u T) tkD (hr.mono (by decide)) (fa_cons (fv 1) (fa_cons fe_int fa_nil))))
  (fs_cons (fs_set (i := 4) sc_law_rotted_u.nd (fe_call (ok_law_draw_u T) tkD (hr.mono (by decide)) (fa_cons (fv 1) (fa_cons fe_int fa_nil))))
  (fs_cons (fs_if (ft_c1 (fc_ne hu (fe_ix hu (fv 0) fe_str) (fe_lst fa_nil)))
  (fs_one (fs_ret (fe_call (ok_law_refusal_u T) tkD (hr.mono (by decide)) (fa_cons (fe_ix hu (fv 0) fe_str) (fa_cons fe_int (fa_cons (fv 2) (fa_cons fe_str fa_nil)))))))
  fs_nil)
  (fs_cons (fs_set (i := 5) sc_law_rotted_u.nd (fe_list T.z_list (fa_cons (fe_ix hu (fe_ix hu (fv 0) fe_str) (fv 2)) fa_nil)))
  (fs_cons (fs_put hu (fv 5) (fv 3) (fv 4))
  (fs_cons (fs_put hu (fe_ix hu (fv 0) fe_str) (fv 2) (fv 5))
  (fs_one (fs_ret (fe_c1 (fc_isN (fe_meth (ok_Disk_rot T) tkD (hr.mono (by decide)) (fe_ix hu (fv 0) fe_str) (fa_cons (fv 2) (fa_cons (fv 3) (fa_cons (fv 4) fa_nil)))))))))))))))
theorem ok_law_rotted_u (T : Top P w K mg) : Def P w K mg base "_law_rotted" 6 2 m_law_rotted_u := by unfold m_law_rotted_u; exact defOf T.f_law_rotted_u sc_law_rotted_u (bd_law_rotted_u T)
theorem bd_Disk_twin (T : Top P w K mg) (f : Addr) (cdv : Value) (A : Around) (outer : List Env) (s : Shared) (H : Hp) (E : XK) (hr : Room 2 (A.deeper (envOfC "Disk.twin" (defScope s_Disk_twin) s.heap.objs.size f cdv))) :
    FSs (cxOf (L2N.CX P w) P w K mg base ["self", "other"] "Disk.twin" (defScope s_Disk_twin) f cdv A outer s H E) (fun c d _ H => E c d H) none (defBody s_Disk_twin) b_Disk_twin :=
  have hu := L2H.roomH_of hr
  (fs_cons (fs_set (i := 1) sc_Disk_twin.nd (fe_make (ok_Disk___init__ T) (hr.mono (by decide)) (fa_cons (fe_fld T.x_ct (fv 0)) fa_nil)))
  (fs_cons (fs_fld T.x_ct (fv 1) (fe_dictC T.z_dict (fa_cons (fe_fld T.x_ct (fv 0)) fa_nil)))
  (fs_cons (fs_fld T.x_ct (fv 1) (fe_dictC T.z_dict (fa_cons (fe_fld T.x_ct (fv 0)) fa_nil)))
  (fs_cons (fs_fld T.x_ct (fv 1) (fe_dictC T.z_dict (fa_cons (fe_fld T.x_ct (fv 0)) fa_nil)))
  (fs_cons (fs_fld T.x_ct (fv 1) (fe_list T.z_list (fa_cons (fe_fld T.x_ct (fv 0)) fa_nil)))
  (fs_cons (fs_fld T.x_ct (fv 1) (fe_dictC T.z_dict (fa_cons (fe_fld T.x_ct (fv 0)) fa_nil)))
  (fs_cons (fs_fld T.x_ct (fv 1) (fe_fld T.x_ct (fv 0)))
  (fs_cons (fs_fld T.x_ct (fv 1) (fe_fld T.x_ct (fv 0)))
  (fs_cons (fs_fld T.x_ct (fv 1) (fe_fld T.x_ct (fv 0)))
  (fs_cons (fs_fld T.x_ct (fv 1) (fe_fld T.x_ct (fv 0)))
  (fs_cons (fs_fld T.x_ct (fv 1) (fe_fld T.x_ct (fv 0)))
  (fs_cons (fs_fld T.x_ct (fv 1) (fe_fld T.x_ct (fv 0)))
  (fs_one (fs_ret (fv 1)))))))))))))))
theorem ok_Disk_twin (T : Top P w K mg) : MDef P w K mg base "Disk" "twin" 3 1 m_Disk_twin := by unfold m_Disk_twin; exact mdefOf T.f_Disk_twin sc_Disk_twin (bd_Disk_twin T)
theorem bd_law_split_u (T : Top P w K mg) (f : Addr) (cdv : Value) (A : Around) (outer : List Env) (s : Shared) (H : Hp) (E : XK) (hr : Room 3 (A.deeper (envOfC "_law_split" (defScope s_law_split_u) s.heap.objs.size f cdv))) :
    FSs (cxOf (L2N.CX P w) P w K mg base ["states", "state", "other", "fresh"] "_law_split" (defScope s_law_split_u) f cdv A outer s H E) (fun c d _ H => E c d H) none (defBody s_law_split_u) b_law_split_u :=
  have hu := L2H.roomH_of hr
  (fs_cons (fs_if (ft_c1 (fc_gt (fe_len (by decide +kernel) T.z_len (fa_cons (fv 0) fa_nil)) fe_int))
  (fs_one (fs_ret fe_bl))
  fs_nil)
  (fs_cons (fs_set (i := 2) sc_law_split_u.nd (fe_meth0 (ok_Disk_twin T) tkD (hr.mono (by decide)) (fe_ix hu (fv 1) fe_str)))
  (fs_cons (fs_set (i := 3) sc_law_split_u.nd (fe_dictC T.z_dict (fa_cons (fv 1) fa_nil)))
  (fs_cons (fs_put hu (fv 3) fe_str (fv 2))
  (fs_cons (fs_put hu (fv 3) fe_str (fe_list T.z_list (fa_cons (fe_ix hu (fv 1) fe_str) fa_nil)))
  (fs_cons (fs_put hu (fv 3) fe_str (fe_list T.z_list (fa_cons (fe_ix hu (fv 1) fe_str) fa_nil)))
  (fs_cons (fs_expr (fe_append (fv 0) (fa_cons (fv 3) fa_nil)))
  (fs_one (fs_ret (fe_isC T.ic_Disk T.z_isinstance (fv 2)))))))))))
theorem ok_law_split_u (T : Top P w K mg) : Def P w K mg base "_law_split" 4 2 m_law_split_u := by unfold m_law_split_u; exact defOf T.f_law_split_u sc_law_split_u (bd_law_split_u T)
theorem bd_law_deed_u (T : Top P w K mg) (f : Addr) (cdv : Value) (A : Around) (outer : List Env) (s : Shared) (H : Hp) (E : XK) (hr : Room 6 (A.deeper (envOfC "_law_deed" (defScope s_law_deed_u) s.heap.objs.size f cdv))) :
    FSs (cxOf (L2N.CX P w) P w K mg base ["states", "kind", "bag", "state"] "_law_deed" (defScope s_law_deed_u) f cdv A outer s H E) (fun c d _ H => E c d H) none (defBody s_law_deed_u) b_law_deed_u :=
  have hu := L2H.roomH_of hr
  (fs_cons (fs_set (i := 3) sc_law_deed_u.nd (fe_ix hu (fv 0) (fe_call (ok_law_draw_u T) tkD (hr.mono (by decide)) (fa_cons (fv 2) (fa_cons (fe_len (by decide +kernel) T.z_len (fa_cons (fv 0) fa_nil)) fa_nil)))))
  (fs_cons (fs_if (ft_c1 (fc_slt (fv 1) fe_int))
  (fs_one (fs_ret (fe_call (ok_law_counted_u T) tkD (hr.mono (by decide)) (fa_cons (fv 3) (fa_cons fe_int (fa_cons (fv 2) fa_nil))))))
  fs_nil)
  (fs_cons (fs_if (ft_c1 (fc_slt (fv 1) fe_int))
  (fs_one (fs_ret (fe_call (ok_law_counted_u T) tkD (hr.mono (by decide)) (fa_cons (fv 3) (fa_cons fe_int (fa_cons (fv 2) fa_nil))))))
  fs_nil)
  (fs_cons (fs_if (ft_c1 (fc_eq hu (fv 1) fe_int))
  (fs_one (fs_ret (fe_call (ok_law_read_u T) tkD (hr.mono (by decide)) (fa_cons (fv 3) (fa_cons (fv 2) fa_nil)))))
  fs_nil)
  (fs_cons (fs_if (ft_c1 (fc_eq hu (fv 1) fe_int))
  (fs_one (fs_ret (fe_call (ok_law_armed_u T) tkD (hr.mono (by decide)) (fa_cons (fv 3) (fa_cons (fv 2) fa_nil)))))
  fs_nil)
  (fs_cons (fs_if (ft_c1 (fc_eq hu (fv 1) fe_int))
  (fs_one (fs_ret (fe_call (ok_law_outside_u T) tkD (hr.mono (by decide)) (fa_cons (fv 3) (fa_cons (fv 2) fa_nil)))))
  fs_nil)
  (fs_cons (fs_if (ft_c1 (fc_eq hu (fv 1) fe_int))
  (fs_one (fs_ret (fe_call (ok_law_split_u T) tkD (hr.mono (by decide)) (fa_cons (fv 0) (fa_cons (fv 3) fa_nil)))))
  fs_nil)
  (fs_cons (fs_if (FW.ft (fw_or (ft_c1 (fc_eq hu (fv 1) fe_int)) (fw_or1 (FW.ft (fw_and (ft_c1 (fc_gt (fv 1) fe_int)) (fw_and1 (ft_not (ft_tru (fe_ix hu (fv 3) fe_str)))))))))
  (fs_one (fs_ret (fe_call (ok_law_restarted_u T) tkD (hr.mono (by decide)) (fa_cons (fv 3) (fa_cons (fe_call (ok_law_order_u T) tkD (hr.mono (by decide)) (fa_cons (fv 2) (fa_cons (fe_len (by decide +kernel) T.z_len (fa_cons (fe_ix hu (fv 3) fe_str) fa_nil)) fa_nil))) fa_nil)))))
  fs_nil)
  (fs_cons (fs_if (ft_c1 (fc_eq hu (fv 1) fe_int))
  (fs_one (fs_ret (fe_call (ok_law_rotted_u T) tkD (hr.mono (by decide)) (fa_cons (fv 3) (fa_cons (fv 2) fa_nil)))))
  fs_nil)
  (fs_one (fs_ret (fe_call (ok_law_look_u T) tkD (hr.mono (by decide)) (fa_cons (fv 3) fa_nil)))))))))))))
theorem ok_law_deed_u (T : Top P w K mg) : Def P w K mg base "_law_deed" 7 3 m_law_deed_u := by unfold m_law_deed_u; exact defOf T.f_law_deed_u sc_law_deed_u (bd_law_deed_u T)
theorem bd_law_dark_u (T : Top P w K mg) (f : Addr) (cdv : Value) (A : Around) (outer : List Env) (s : Shared) (H : Hp) (E : XK) (hr : Room 6 (A.deeper (envOfC "_law_dark" (defScope s_law_dark_u) s.heap.objs.size f cdv))) :
    FSs (cxOf (L2N.CX P w) P w K mg base ["state", "bag", "turn", "kind"] "_law_dark" (defScope s_law_dark_u) f cdv A outer s H E) (fun c d _ H => E c d H) none (defBody s_law_dark_u) b_law_dark_u :=
  have hu := L2H.roomH_of hr
  (fs_cons (fs_for poD (fi_range1 T.z_range (fa_cons (fe_add fe_int (fe_call (ok_law_draw_u T) tkD (hr.mono (by decide)) (fa_cons (fv 1) (fa_cons fe_int fa_nil)))) fa_nil) (mCons_len mNil_len)) (fg_name (i := 2) sc_law_dark_u.nd)
  (fs_cons (fs_set (i := 3) sc_law_dark_u.nd (fe_call (ok_law_draw_u T) tkD (hr.mono (by decide)) (fa_cons (fv 1) (fa_cons fe_int fa_nil))))
  (fs_cons (fs_if (FW.ft (fw_and (ft_c1 (fc_slt (fv 3) fe_int)) (fw_and1 (ft_not (ft_tru (fe_call (ok_law_counted_u T) tkD (hr.mono (by decide)) (fa_cons (fv 0) (fa_cons (fv 3) (fa_cons (fv 1) fa_nil)))))))))
  (fs_one (fs_ret fe_bl))
  fs_nil)
  (fs_cons (fs_if (FW.ft (fw_and (ft_c1 (fc_eq hu (fv 3) fe_int)) (fw_and1 (ft_not (ft_tru (fe_call (ok_law_read_u T) tkD (hr.mono (by decide)) (fa_cons (fv 0) (fa_cons (fv 1) fa_nil))))))))
  (fs_one (fs_ret fe_bl))
  fs_nil)
  (fs_cons (fs_if (FW.ft (fw_and (ft_c1 (fc_eq hu (fv 3) fe_int)) (fw_and1 (ft_not (ft_tru (fe_call (ok_law_armed_u T) tkD (hr.mono (by decide)) (fa_cons (fv 0) (fa_cons (fv 1) fa_nil))))))))
  (fs_one (fs_ret fe_bl))
  fs_nil)
  (fs_cons (fs_if (FW.ft (fw_and (ft_c1 (fc_eq hu (fv 3) fe_int)) (fw_and1 (ft_not (ft_tru (fe_call (ok_law_outside_u T) tkD (hr.mono (by decide)) (fa_cons (fv 0) (fa_cons (fv 1) fa_nil))))))))
  (fs_one (fs_ret fe_bl))
  fs_nil)
  (fs_one (fs_if (FW.ft (fw_and (ft_c1 (fc_eq hu (fv 3) fe_int)) (fw_and1 (ft_not (ft_tru (fe_call (ok_law_rotted_u T) tkD (hr.mono (by decide)) (fa_cons (fv 0) (fa_cons (fv 1) fa_nil))))))))
  (fs_one (fs_ret fe_bl))
  fs_nil))))))))
  (fs_cons (fs_if (FW.ft (fw_or (ft_not (ft_tru (fe_call (ok_law_armed_u T) tkD (hr.mono (by decide)) (fa_cons (fv 0) (fa_cons (fv 1) fa_nil))))) (fw_or1 (ft_not (ft_tru (fe_call (ok_law_counted_u T) tkD (hr.mono (by decide)) (fa_cons (fv 0) (fa_cons (fe_call (ok_law_draw_u T) tkD (hr.mono (by decide)) (fa_cons (fv 1) (fa_cons fe_int fa_nil))) (fa_cons (fv 1) fa_nil)))))))))
  (fs_one (fs_ret fe_bl))
  fs_nil)
  (fs_one (fs_ret (fe_call (ok_law_look_u T) tkD (hr.mono (by decide)) (fa_cons (fv 0) fa_nil))))))
theorem ok_law_dark_u (T : Top P w K mg) : Def P w K mg base "_law_dark" 7 2 m_law_dark_u := by unfold m_law_dark_u; exact defOf T.f_law_dark_u sc_law_dark_u (bd_law_dark_u T)
theorem bd_law_ended_u (T : Top P w K mg) (f : Addr) (cdv : Value) (A : Around) (outer : List Env) (s : Shared) (H : Hp) (E : XK) (hr : Room 7 (A.deeper (envOfC "_law_ended" (defScope s_law_ended_u) s.heap.objs.size f cdv))) :
    FSs (cxOf (L2N.CX P w) P w K mg base ["state", "bag", "steps", "turn", "k"] "_law_ended" (defScope s_law_ended_u) f cdv A outer s H E) (fun c d _ H => E c d H) none (defBody s_law_ended_u) b_law_ended_u :=
  have hu := L2H.roomH_of hr
  (fs_cons (fs_if (ft_not (ft_tru (fe_call (ok_law_restarted_u T) tkD (hr.mono (by decide)) (fa_cons (fv 0) (fa_cons (fe_lst fa_nil) fa_nil)))))
  (fs_one (fs_ret fe_bl))
  fs_nil)
  (fs_cons (fs_set (i := 2) sc_law_ended_u.nd (fe_call (ok_law_draw_u T) tkD (hr.mono (by decide)) (fa_cons (fv 1) (fa_cons fe_int fa_nil))))
  (fs_cons (fs_put hu (fv 0) fe_str (fv 2))
  (fs_cons (fs_expr (fe_meth (ok_Disk_arm T) tkD (hr.mono (by decide)) (fe_ix hu (fv 0) fe_str) (fa_cons fe_int fa_nil)))
  (fs_cons (fs_expr (fe_meth (ok_Disk_arm T) tkD (hr.mono (by decide)) (fe_ix hu (fv 0) fe_str) (fa_cons fe_int fa_nil)))
  (fs_cons (fs_if (ft_c1 (fc_isNN (fe_meth (ok_Disk_arm T) tkD (hr.mono (by decide)) (fe_ix hu (fv 0) fe_str) (fa_cons (fv 2) fa_nil))))
  (fs_one (fs_ret fe_bl))
  fs_nil)
  (fs_cons (fs_for poD (fi_range1 T.z_range (fa_cons (fv 2) fa_nil) (mCons_len mNil_len)) (fg_name (i := 3) sc_law_ended_u.nd)
  (fs_one (fs_if (FW.ft (fw_or (ft_not (ft_tru (fe_call (ok_law_outside_u T) tkD (hr.mono (by decide)) (fa_cons (fv 0) (fa_cons (fv 1) fa_nil))))) (fw_or1 (ft_not (ft_tru (fe_call (ok_law_counted_u T) tkD (hr.mono (by decide)) (fa_cons (fv 0) (fa_cons (fe_call (ok_law_draw_u T) tkD (hr.mono (by decide)) (fa_cons (fv 1) (fa_cons fe_int fa_nil))) (fa_cons (fv 1) fa_nil)))))))))
  (fs_one (fs_ret fe_bl))
  fs_nil)))
  (fs_cons (fs_if (FW.ft (fw_or (ft_not (ft_tru (fe_call (ok_law_outside_u T) tkD (hr.mono (by decide)) (fa_cons (fv 0) (fa_cons (fv 1) fa_nil))))) (fw_or1 (ft_not (ft_tru (fe_call (ok_law_look_u T) tkD (hr.mono (by decide)) (fa_cons (fv 0) fa_nil)))))))
  (fs_one (fs_ret fe_bl))
  fs_nil)
  (fs_cons (fs_if (ft_not (ft_tru (fe_call (ok_law_counted_u T) tkD (hr.mono (by decide)) (fa_cons (fv 0) (fa_cons (fe_call (ok_law_draw_u T) tkD (hr.mono (by decide)) (fa_cons (fv 1) (fa_cons fe_int fa_nil))) (fa_cons (fv 1) fa_nil))))))
  (fs_one (fs_ret fe_bl))
  fs_nil)
  (fs_cons (fs_if (FW.ft (fw_or (ft_not (ft_tru (fe_call (ok_law_look_u T) tkD (hr.mono (by decide)) (fa_cons (fv 0) fa_nil)))) (fw_or1 (ft_not (ft_tru (fe_call (ok_law_dark_u T) tkD (hr.mono (by decide)) (fa_cons (fv 0) (fa_cons (fv 1) fa_nil))))))))
  (fs_one (fs_ret fe_bl))
  fs_nil)
  (fs_cons (fs_if (ft_not (ft_tru (fe_call (ok_law_restarted_u T) tkD (hr.mono (by decide)) (fa_cons (fv 0) (fa_cons (fe_lc [("k", 4)] sc_law_ended_u.nd (fi_range1 T.z_range (fa_cons (fe_len (by decide +kernel) T.z_len (fa_cons (fe_ix hu (fv 0) fe_str) fa_nil)) fa_nil) (mCons_len mNil_len)) (blkOk_by (N := ["state", "bag", "steps", "turn", "k"]) (sc := defScope s_law_ended_u) (own := [("k", 4)]) (by decide +kernel)) (fun _ _ _ _ _ => (fg_name (i := 4) sc_law_ended_u.nd)) (fun _ _ _ _ _ => fts_nil) (fun _ _ _ _ _ => (fv 4))) fa_nil)))))
  (fs_one (fs_ret fe_bl))
  fs_nil)
  (fs_cons (fs_for poD (fi_range1 T.z_range (fa_cons (fe_add fe_int (fe_call (ok_law_draw_u T) tkD (hr.mono (by decide)) (fa_cons (fv 1) (fa_cons fe_int fa_nil)))) fa_nil) (mCons_len mNil_len)) (fg_name (i := 3) sc_law_ended_u.nd)
  (fs_one (fs_if (ft_not (ft_tru (fe_call (ok_law_counted_u T) tkD (hr.mono (by decide)) (fa_cons (fv 0) (fa_cons (fe_call (ok_law_draw_u T) tkD (hr.mono (by decide)) (fa_cons (fv 1) (fa_cons fe_int fa_nil))) (fa_cons (fv 1) fa_nil))))))
  (fs_one (fs_ret fe_bl))
  fs_nil)))
  (fs_one (fs_ret (fe_call (ok_law_look_u T) tkD (hr.mono (by decide)) (fa_cons (fv 0) fa_nil))))))))))))))))
theorem ok_law_ended_u (T : Top P w K mg) : Def P w K mg base "_law_ended" 8 2 m_law_ended_u := by unfold m_law_ended_u; exact defOf T.f_law_ended_u sc_law_ended_u (bd_law_ended_u T)
theorem bd_law (T : Top P w K mg) (f : Addr) (cdv : Value) (A : Around) (outer : List Env) (s : Shared) (H : Hp) (E : XK) (hr : Room 8 (A.deeper (envOfC "law" (defScope s_law) s.heap.objs.size f cdv))) :
    FSs (cxOf (L2N.CX P w) P w K mg base ["script", "bag", "blocks", "state", "word", "states", "turn", "kind", "other", "k"] "law" (defScope s_law) f cdv A outer s H E) (fun c d _ H => E c d H) none (defBody s_law) b_law :=
  have hu := L2H.roomH_of hr
  (fs_cons (fs_set (i := 1) sc_law.nd (fe_call (ok_law_bag_u T) tkD (hr.mono (by decide)) (fa_cons (fv 0) fa_nil)))
  (fs_cons (fs_set (i := 2) sc_law.nd (fe_add fe_int (fe_call (ok_law_draw_u T) tkD (hr.mono (by decide)) (fa_cons (fv 1) (fa_cons fe_int fa_nil)))))
  (fs_cons (fs_set (i := 3) sc_law.nd (fe_disp (fp_cons (fe_make (ok_Disk___init__ T) (hr.mono (by decide)) (fa_cons (fv 2) fa_nil)) (fp_cons (fv 2) (fp_cons (fe_lst fa_nil) (fp_cons fe_bl (fp_cons (fk_neg (v := (-1)) fe_int (by decide +kernel)) fp_nil)))))))
  (fs_cons (fs_put hu (fv 3) fe_str (fe_lc [("k", 9)] sc_law.nd (fi_range1 T.z_range (fa_cons (fv 2) fa_nil) (mCons_len mNil_len)) (blkOk_by (N := ["script", "bag", "blocks", "state", "word", "states", "turn", "kind", "other", "k"]) (sc := defScope s_law) (own := [("k", 9)]) (by decide +kernel)) (fun _ _ _ _ _ => (fg_name (i := 9) sc_law.nd)) (fun _ _ _ _ _ => fts_nil) (fun _ _ _ _ _ => (fe_mulX (fe_lst (fa_cons fe_int fa_nil)) fe_int))))
  (fs_cons (fs_for poD (fi_any (fe_lst (fa_cons fe_str (fa_cons fe_str (fa_cons fe_str (fa_cons fe_str fa_nil)))))) (fg_name (i := 4) sc_law.nd)
  (fs_one (fs_put hu (fv 3) (fv 4) fe_int)))
  (fs_cons (fs_set (i := 5) sc_law.nd (fe_lst (fa_cons (fv 3) fa_nil)))
  (fs_cons (fs_for poD (fi_range1 T.z_range (fa_cons (fe_add fe_int (fe_call (ok_law_draw_u T) tkD (hr.mono (by decide)) (fa_cons (fv 1) (fa_cons (fe_add fe_int (fe_min2 T.z_min (fa_cons fe_int (fa_cons (fe_mulX fe_int (fe_len (by decide +kernel) T.z_len (fa_cons (fv 0) fa_nil))) fa_nil)))) fa_nil)))) fa_nil) (mCons_len mNil_len)) (fg_name (i := 6) sc_law.nd)
  (fs_cons (fs_set (i := 7) sc_law.nd (fe_call (ok_law_draw_u T) tkD (hr.mono (by decide)) (fa_cons (fv 1) (fa_cons fe_int fa_nil))))
  (fs_cons (fs_if (ft_c1 (fc_eq hu (fv 6) fe_int))
  (fs_one (fs_set (i := 7) sc_law.nd fe_int))
  fs_nil)
  (fs_one (fs_if (ft_not (ft_tru (fe_call (ok_law_deed_u T) tkD (hr.mono (by decide)) (fa_cons (fv 5) (fa_cons (fv 7) (fa_cons (fv 1) fa_nil))))))
  (fs_one (fs_ret fe_bl))
  fs_nil)))))
  (fs_cons (fs_for poD (fi_any (fv 5)) (fg_name (i := 8) sc_law.nd)
  (fs_one (fs_if (ft_not (ft_tru (fe_call (ok_law_ended_u T) tkD (hr.mono (by decide)) (fa_cons (fv 8) (fa_cons (fv 1) fa_nil)))))
  (fs_one (fs_ret fe_bl))
  fs_nil)))
  (fs_cons (fs_for poD (fi_any (fv 5)) (fg_name (i := 8) sc_law.nd)
  (fs_one (fs_if (ft_not (ft_tru (fe_call (ok_law_look_u T) tkD (hr.mono (by decide)) (fa_cons (fv 8) fa_nil))))
  (fs_one (fs_ret fe_bl))
  fs_nil)))
  (fs_one (fs_ret fe_bl)))))))))))
theorem ok_law (T : Top P w K mg) : Def P w K mg base "law" 9 1 m_law := by unfold m_law; exact defOf T.f_law sc_law (bd_law T)
end
end K06
set_option Elab.async false
set_option linter.all false
set_option maxRecDepth 100000
set_option maxHeartbeats 1000000
namespace K06
open PySem L2 LF NW
theorem size24 : sizeLine = 16777216 := rfl
theorem cm {i j : Int} (h1 : -1000000000000000000000000000000000000000000000000000000000000 < i) (h2 : i < 1000000000000000000000000000000000000000000000000000000000000) (h3 : -1000000000000000000000000000000000000000000000000000000000000 < j) (h4 : j < 1000000000000000000000000000000000000000000000000000000000000) : CMulW i j := cmulW (by omega) (by omega) (by omega) (by omega)
def Bo (c : Nat) (p r l s t : Int) : O := .dK [(.inr "cells", .loc c), (.inr "place", .int p), (.inr "rest", .int r), (.inr "left", .int l), (.inr "seed", .int s), (.inr "turn", .int t)]
section
variable {h : M} {b c : Nat} {p r l s t x : Int}
theorem b_cells (e : h[b]? = some (Bo c p r l s t)) : fIx (.loc b) (.str "cells") h = .ok (.loc c) h := d_ixS e rfl
theorem b_place (e : h[b]? = some (Bo c p r l s t)) : fIx (.loc b) (.str "place") h = .ok (.int p) h := d_ixS e rfl
theorem b_rest (e : h[b]? = some (Bo c p r l s t)) : fIx (.loc b) (.str "rest") h = .ok (.int r) h := d_ixS e rfl
theorem b_left (e : h[b]? = some (Bo c p r l s t)) : fIx (.loc b) (.str "left") h = .ok (.int l) h := d_ixS e rfl
theorem b_seed (e : h[b]? = some (Bo c p r l s t)) : fIx (.loc b) (.str "seed") h = .ok (.int s) h := d_ixS e rfl
theorem b_turn (e : h[b]? = some (Bo c p r l s t)) : fIx (.loc b) (.str "turn") h = .ok (.int t) h := d_ixS e rfl
theorem p_place (e : h[b]? = some (Bo c p r l s t)) : fPut (.loc b) (.str "place") (.int x) h = .ok () (h.set b (Bo c x r l s t)) := d_putS e (show 6 < sizeLine by decide)
theorem p_rest (e : h[b]? = some (Bo c p r l s t)) : fPut (.loc b) (.str "rest") (.int x) h = .ok () (h.set b (Bo c p x l s t)) := d_putS e (show 6 < sizeLine by decide)
theorem p_left (e : h[b]? = some (Bo c p r l s t)) : fPut (.loc b) (.str "left") (.int x) h = .ok () (h.set b (Bo c p r x s t)) := d_putS e (show 6 < sizeLine by decide)
theorem p_seed (e : h[b]? = some (Bo c p r l s t)) : fPut (.loc b) (.str "seed") (.int x) h = .ok () (h.set b (Bo c p r l x t)) := d_putS e (show 6 < sizeLine by decide)
theorem p_turn (e : h[b]? = some (Bo c p r l s t)) : fPut (.loc b) (.str "turn") (.int x) h = .ok () (h.set b (Bo c p r l s x)) := d_putS e (show 6 < sizeLine by decide)
end
/-- the bag: its cells, a count of at most m -/
def Pot (h : M) (b c : Nat) (m : Int) : Prop := ∃ (p r l s t : Int) (cs : List Int), h[b]? = some (Bo c p r l s t) ∧ h[c]? = some (.lst (cs.map .int)) ∧ c ≠ b ∧ 0 ≤ p ∧ 0 ≤ s ∧ s < 2305843009213693951 ∧ 0 ≤ t ∧ t ≤ m
theorem Pot.fr {S : List Nat} {h h' : M} {b c : Nat} {m : Int} (B : Pot h b c m) (F : Fr S h h') (hb : b ∉ S) (hc : c ∉ S) : Pot h' b c m := by
  obtain ⟨p, r, l, s, t, cs, e1, e2, e3⟩ := B
  exact ⟨p, r, l, s, t, cs, F.at_ _ _ hb e1, F.at_ _ _ hc e2, e3⟩
theorem Pot.le {h : M} {b c : Nat} {m m' : Int} (B : Pot h b c m) (hm : m ≤ m') : Pot h b c m' := by
  obtain ⟨p, r, l, s, t, cs, e1, e2, e3, e4, e5, e6, e7, e8⟩ := B
  exact ⟨p, r, l, s, t, cs, e1, e2, e3, e4, e5, e6, e7, by omega⟩
section
variable {h : M} {b c : Nat} {m : Int} {Q : D → M → Prop} {X : XP}
theorem mixed {s t : Int} (s0 : 0 ≤ s) (s1 : s < 2305843009213693951) (t0 : 0 ≤ t) (t1 : t ≤ 1000001) (K : ∀ z, Q (.int z) h) : @Wc D (m_law_mixed_u [.int s, .int t] h) ⟨Q, X⟩ := by
  unfold m_law_mixed_u; rw [wp_fn]; unfold b_law_mixed_u
  have g1 : ∀ z : Int, 0 ≤ z % 1000003 ∧ z % 1000003 < 1000003 := fun z => by omega
  have g2 : ∀ z : Int, 0 ≤ z % 2147483647 ∧ z % 2147483647 < 2147483647 := fun z => by omega
  have g3 : ∀ z : Int, 0 ≤ z % 2147483629 ∧ z % 2147483629 < 2147483629 := fun z => by omega
  rw [ws_seq]
  refine Ws.cut (fun e h' => h = h' ∧ ∃ a : Int, e = [.va (.int s), .va (.int t), .va (.int a), .no, .no] ∧ 0 ≤ a ∧ a < 1000003) ?_ ?_
  · simp
    exact ⟨cm (by omega) (by omega) (by omega) (by omega), g1 _⟩
  rintro _ _ ⟨rfl, a, rfl, a0, a1⟩
  rw [ws_seq]
  refine Ws.cut (fun e h' => h = h' ∧ ∃ a u : Int, e = [.va (.int s), .va (.int t), .va (.int a), .va (.int u), .no] ∧ 0 ≤ u ∧ u < 2147483647) ?_ ?_
  · simp
    exact ⟨cm (by omega) (by omega) (by omega) (by omega), cm (by omega) (by omega) (by omega) (by omega), cm (by omega) (by omega) (by omega) (by omega), _, _, ⟨rfl, rfl⟩, g2 _⟩
  rintro _ _ ⟨rfl, a, u, rfl, u0, u1⟩
  rw [ws_seq]
  refine Ws.cut (fun e h' => h = h' ∧ ∃ a u v : Int, e = [.va (.int s), .va (.int t), .va (.int a), .va (.int u), .va (.int v)] ∧ 0 ≤ v ∧ v < 2147483629) ?_ ?_
  · simp
    exact ⟨cm (by omega) (by omega) (by omega) (by omega), _, _, _, ⟨rfl, rfl, rfl⟩, g3 _⟩
  rintro _ _ ⟨rfl, a, u, v, rfl, v0, v1⟩
  simp
  exact ⟨cm (by omega) (by omega) (by omega) (by omega), K _⟩
theorem atI_in {xs : List D} {i : Int} (h0 : 0 ≤ i) (h1 : i < xs.length) : ∃ d, xs[i.toNat]? = some d ∧ atI xs i = some d := by
  have hl : i.toNat < xs.length := by omega
  refine ⟨xs[i.toNat], List.getElem?_eq_getElem hl, ?_⟩
  have := atI_n (xs := xs) (n := i.toNat)
  rw [Int.toNat_of_nonneg h0] at this
  rw [this]; exact List.getElem?_eq_getElem hl
theorem draw {many : Int} (B : Pot h b c m) (hm : m ≤ 1000000) (h0 : 0 < many) (h1 : many < 2 ^ 100) (K : ∀ z h', 0 ≤ z → z < many → Pot h' b c (m + 1) → Fr [b] h h' → Q (.int z) h') : @Wc D (m_law_draw_u [.loc b, .int many] h) ⟨Q, X⟩ := by
  obtain ⟨p, r, l, s, t, cs, e, ec, hcb, p0, s0, s1, t0, t1⟩ := B
  unfold m_law_draw_u; rw [wp_fn]; unfold b_law_draw_u
  rw [ws_seq]
  refine Ws.cut (fun e h' => h' = h.set b (Bo c p r l s (t + 1)) ∧ e = [.va (.loc b), .va (.int many), .no, .no]) ?_ ?_
  · simp [b_turn e, p_turn e]
  rintro _ _ ⟨rfl, rfl⟩
  rw [ws_seq]
  refine Ws.cut (fun e h' => ∃ p r l s z3, h' = h.set b (Bo c p r l s (t + 1)) ∧ e = [.va (.loc b), .va (.int many), z3, .no] ∧ 0 ≤ p ∧ 0 ≤ s ∧ s < 2305843009213693951) ?_ ?_
  · have e1 := at_set (u := Bo c p r l s (t + 1)) e
    have e2 := at_set (u := Bo c p 0 l s (t + 1)) e
    have ec2 : (h.set b (Bo c p 0 l s (t + 1)))[c]? = some (.lst (cs.map .int)) := at_setN ec (Ne.symm hcb)
    by_cases hp : p < cs.length
    · obtain ⟨d, e3, e4⟩ := atI_in (xs := cs.map D.int) (i := p) p0 (by simpa using hp)
      rw [List.getElem?_map, Option.map_eq_some_iff] at e3
      obtain ⟨z, e3, rfl⟩ := e3
      have ec3 : (h.set b (Bo c (p + 1) 0 l s (t + 1)))[c]? = some (.lst (cs.map .int)) := at_setN ec (Ne.symm hcb)
      have e5 := at_set (u := Bo c (p + 1) 0 l s (t + 1)) e
      have e6 := fun v => at_set (u := Bo c (p + 1) 0 l v (t + 1)) e
      have e7 := fun v w => at_set (u := Bo c (p + 1) w l v (t + 1)) e
      have gp : ∀ z : Int, 0 ≤ z % 2305843009213693951 ∧ z % 2305843009213693951 < 2305843009213693951 := fun z => by omega
      by_cases hz : 1000000000000000000 ≤ z
      · simp [b_rest e1, b_left e1, p_rest e1, b_place e2, b_cells e2, ec2, hp, e4, p_place e2, b_seed e5, p_seed e5, p_rest (e6 _), p_left (e7 _ _), hz]
        by_cases hr : r = 0
        · simp [hr]
          exact ⟨cm (by omega) (by omega) (by omega) (by omega), _, _, _, _, rfl, by omega, gp _⟩
        · by_cases hl : l = 0
          · simp [hr, hl]
            exact ⟨cm (by omega) (by omega) (by omega) (by omega), _, _, _, _, rfl, by omega, gp _⟩
          · simp [hr, hl]
            exact ⟨_, _, _, _, rfl, p0, s0, s1⟩
      · simp [b_rest e1, b_left e1, p_rest e1, b_place e2, b_cells e2, ec2, hp, e4, p_place e2, b_seed e5, p_seed e5, p_rest (e6 _), p_left (e7 _ _), hz]
        by_cases hr : r = 0
        · simp [hr]
          exact ⟨cm (by omega) (by omega) (by omega) (by omega), _, _, _, _, rfl, by omega, gp _⟩
        · by_cases hl : l = 0
          · simp [hr, hl]
            exact ⟨cm (by omega) (by omega) (by omega) (by omega), _, _, _, _, rfl, by omega, gp _⟩
          · simp [hr, hl]
            exact ⟨_, _, _, _, rfl, p0, s0, s1⟩
    · simp [b_rest e1, b_left e1, p_rest e1, b_place e2, b_cells e2, ec2, hp]
      by_cases hr : r = 0
      · simp [hr]
        exact ⟨_, _, _, _, rfl, p0, s0, s1⟩
      · by_cases hl : l = 0
        · simp [hr, hl]
          exact ⟨_, _, _, _, rfl, p0, s0, s1⟩
        · simp [hr, hl]
          exact ⟨_, _, _, _, rfl, p0, s0, s1⟩
  rintro _ _ ⟨p, r, l, s, z3, rfl, rfl, p0, s0, s1⟩
  have fin : ∀ (r' l' z : Int), 0 ≤ z → z < many → Q (.int z) (h.set b (Bo c p r' l' s (t + 1))) := fun r' l' z z0 z1 =>
    K z _ z0 z1 ⟨p, r', l', s, t + 1, cs, at_set e, at_setN ec (Ne.symm hcb), hcb, p0, s0, s1, by omega, by omega⟩ (Fr.set _ (by simp))
  have e1 := at_set (u := Bo c p r l s (t + 1)) e
  have e2 := at_set (u := Bo c p r (l - 1) s (t + 1)) e
  rw [ws_seq]
  by_cases hr : 0 < r
  · simp [b_rest e1, b_left e1, b_rest e2, p_left e1, p_rest e2, hr, h0]
    exact ⟨cdivW h0 (by omega), fin _ _ _ (Int.emod_nonneg _ (by omega)) (Int.emod_lt_of_pos _ h0)⟩
  · simp [b_rest e1, hr, b_seed e1, b_turn e1]
    refine mixed s0 s1 (by omega) (by omega) fun z => ?_
    simp [h0]
    exact fin _ _ _ (Int.emod_nonneg _ (by omega)) (Int.emod_lt_of_pos _ h0)
end
end K06
set_option Elab.async false
set_option linter.all false
set_option maxRecDepth 100000
set_option maxHeartbeats 1000000
namespace K06
open PySem L2 LF NW
theorem snoc_ind {α : Type} {P : List α → Prop} (h0 : P []) (h1 : ∀ l x, P l → P (l ++ [x])) (l : List α) : P l := by
  have go : ∀ l : List α, P l.reverse := by
    intro l
    induction l with
    | nil => exact h0
    | cons x l ih => rw [List.reverse_cons]; exact h1 _ _ ih
  have := go l.reverse
  rwa [List.reverse_reverse] at this
/-- an entry of a log: an address, words, the place of the words -/
structure Ent where
  a : Int
  ws : List Int
  k : Nat
def dE (e : Ent) : D := .tup [.int e.a, .loc e.k]
def lastE (lg : List Ent) (a : Int) : Option Ent := lg.foldl (fun acc e => if e.a = a then some e else acc) none
theorem lastE_snoc {lg : List Ent} {e : Ent} {a : Int} : lastE (lg ++ [e]) a = if e.a = a then some e else lastE lg a := by simp [lastE]
theorem lastE_app {a : Int} : ∀ (y x : List Ent), lastE (x ++ y) a = (lastE y a).or (lastE x a) := by
  intro y
  induction y using snoc_ind with
  | h0 => intro x; simp [lastE]
  | h1 y e ih =>
    intro x
    rw [← List.append_assoc, lastE_snoc, lastE_snoc, ih]
    split <;> simp
theorem lastE_mem {a : Int} {e : Ent} : ∀ (lg : List Ent), lastE lg a = some e → e ∈ lg ∧ e.a = a := by
  intro lg
  induction lg using snoc_ind with
  | h0 => intro h; simp [lastE] at h
  | h1 lg x ih =>
    intro h
    rw [lastE_snoc] at h
    split at h
    · cases h; rename_i hx; exact ⟨by simp, hx⟩
    · obtain ⟨h1, h2⟩ := ih h; exact ⟨by simp [h1], h2⟩
def Z48 : List Int := List.replicate 48 0
def wsOf (o : Option Ent) : List Int := match o with | some e => e.ws | none => Z48
section
variable {h : M} {b c : Nat} {m : Int} {Q : D → M → Prop} {X : XP}
theorem number {a b : Int} (K : Q (.bl (decide (a = b))) h) : @Wc D (m_law_number_u [.int a, .int b] h) ⟨Q, X⟩ := by
  unfold m_law_number_u; rw [wp_fn]; unfold b_law_number_u
  have tb : ∀ b, fTru (.bl b) h = .ok b h := fun _ => rfl
  simp [tb]
  exact K
theorem same {t u : Nat} {xs : List Int} (e1 : h[t]? = some (.lst (xs.map .int))) (e2 : h[u]? = some (.lst (xs.map .int))) (hl : xs.length = 48) (K : ∀ h', Fr [] h h' → Q (.bl true) h') : @Wc D (m_law_same_u [.loc t, .loc u] h) ⟨Q, X⟩ := by
  unfold m_law_same_u; rw [wp_fn]; unfold b_law_same_u
  have tb : ∀ b h, fTru (.bl b) h = .ok b h := fun _ _ => rfl
  rw [ws_seq]
  refine Ws.cut (fun e h' => h = h' ∧ e = [.va (.loc t), .va (.loc u), .no]) ?_ ?_
  · simp [e1, tb, hl]
  rintro _ _ ⟨rfl, rfl⟩
  rw [ws_seq]
  refine Ws.cut (fun e h' => Fr [] h h' ∧ e = [.va (.loc t), .va (.loc u), .no]) ?_ ?_
  · simp [e1]
    refine lcloop_map (f := D.int) (fun p acc h' => h' = h ++ [.lst []] ∧ acc = []) ⟨rfl, rfl⟩ ?_ ?_ ?_
    · rintro p acc _ hp ⟨rfl, rfl⟩
      exact lstOf_at (by rw [cat_old (at_lt e1)]; exact e1)
    · rintro p x q acc _ hx ⟨rfl, rfl⟩
      simp [tb]
    · rintro acc _ ⟨rfl, rfl⟩
      simp
      have q1 : (h ++ [O.lst [], O.lst []])[h.length]? = some (.lst (([] : List Int).map .int)) := by simp
      have q2 : (h ++ [O.lst [], O.lst []])[h.length + 1]? = some (.lst (([] : List Int).map .int)) := by simp
      rw [fNe_ints q1 q2]
      simp
      exact Fr.cat _
  rintro _ h' ⟨F, rfl⟩
  simp
  rw [fEq_ints (F.at e1) (F.at e2)]
  exact K _ F
theorem words {o : Nat} {ws : List Int} (B : Pot h b c m) (hm : m ≤ 999000) (eo : h[o]? = some (.lst (ws.map .int))) (ho : o ≠ b) (hl : ws.length = 48)
    (K : ∀ (k : Nat) (h' : M) (ws' : List Int), ws'.length = 48 → h.length ≤ k → h'[k]? = some (.lst (ws'.map .int)) → Pot h' b c (m + 3) → Fr [b] h h' → Q (.loc k) h') : @Wc D (m_law_words_u [.loc b, .loc o] h) ⟨Q, X⟩ := by
  unfold m_law_words_u; rw [wp_fn]; unfold b_law_words_u
  simp
  refine draw B (by omega) (by omega) (by decide) fun way h1 w0 w1 B1 F1 => ?_
  simp
  refine draw B1 (by omega) (by omega) (by decide) fun base h2 b0 b1 B2 F2 => ?_
  simp
  refine draw B2 (by omega) (by omega) (by decide) fun spot h3 s0 s1 B3 F3 => ?_
  have F := (F1.trans F2).trans F3
  have hb : b < h.length := by obtain ⟨_, _, _, _, _, _, e, _⟩ := B; exact at_lt e
  have hbl : b < h3.length := Nat.lt_of_lt_of_le hb F.len
  have eo3 := F.at_ _ _ (by simpa using ho) eo
  have B3 := B3.le (show m + 1 + 1 + 1 ≤ m + 3 by omega)
  have pot : ∀ os : M, Pot (h3 ++ os) b c (m + 3) := fun os => B3.fr (.cat os (S := [])) (by simp) (by simp)
  by_cases h0 : way = 0
  · have hb3 : base % 3 = 0 ∨ base % 3 = 1 ∨ base % 3 = 2 := by omega
    have fin : ∀ z : Int, Q (.loc (h3.length + 1 + 1)) (h3 ++ [.lst [.int 0, .int 1, .int 2305843009213693950], .lst [.int z], .lst (List.replicate 48 (.int z))]) := fun z =>
      K _ _ (List.replicate 48 z) (by simp) (by have := F.len; omega) (by rw [show h3.length + 1 + 1 = h3.length + 2 from rfl, cat_at]; simp) (pot _) (F.trans (.cat _))
    rcases hb3 with e | e | e
    all_goals
      simp [h0, e, size24]
      exact fin _
  by_cases h1' : way = 1
  · simp [h1', eo3]
    exact K _ _ ws hl F.len (by simp) (pot _) (F.trans (.cat _))
  by_cases h4 : way < 4
  · obtain ⟨d, e1, e2⟩ := atI_in (xs := ws.map D.int) (i := spot) s0 (by simp [hl]; omega)
    rw [List.getElem?_map, Option.map_eq_some_iff] at e1
    obtain ⟨z, e1, rfl⟩ := e1
    have e3 : (h3 ++ [O.lst (ws.map .int)])[h3.length]? = some (.lst (ws.map .int)) := by simp
    have e4 : ixN ws.length spot = some spot.toNat := by
      have := ixN_nat (len := ws.length) (n := spot.toNat)
      rw [Int.toNat_of_nonneg s0, if_pos (by rw [hl]; omega)] at this
      exact this
    simp [h0, h1', h4, eo3, e2, v_putL e3, e4]
    exact K h3.length (h3 ++ [.lst ((ws.map D.int).set spot.toNat (.int ((z + 1 + base) % 2305843009213693951)))]) (ws.set spot.toNat ((z + 1 + base) % 2305843009213693951)) (by simp [hl]) F.len (by simp [List.map_set]) (pot _) (F.trans (.cat _))
  · simp [h0, h1', h4]
    refine lcloop_inv (fun i acc h' => ∃ ws : List Int, ws.length = i ∧ acc = ws.map .int ∧ h' = h3 ++ [.lst acc]) ⟨[], rfl, rfl, by simp⟩ (fun _ _ _ _ _ => trivial) ?_ ?_
    · rintro i d acc _ hd ⟨xs, hx, rfl, rfl⟩
      obtain ⟨hi, rfl⟩ := rg_at hd
      simp
      refine ⟨cdivW (by omega) (by omega), cm (by omega) (by omega) (by omega) (by omega), by simp [hx, size24]; omega, xs ++ [_], by simp [hx], by simp; rfl⟩
    · rintro acc _ ⟨xs, hx, rfl, rfl⟩
      exact K _ _ xs (by simpa using hx) F.len (by simp) (pot _) (F.trans (.cat _))
theorem bag {ns : List Int} (K : ∀ b c h', Pot h' b c 0 → h.length ≤ b → h.length ≤ c → Fr [] h h' → Q (.loc b) h') : @Wc D (m_law_bag_u [.cl (ns.map .int)] h) ⟨Q, X⟩ := by
  unfold m_law_bag_u; rw [wp_fn]; unfold b_law_bag_u
  have hm : (0 : Int) < 18446744073709551616 ^ 32 := by decide +kernel
  generalize hbig : (18446744073709551616 : Int) ^ 32 = big at hm ⊢
  have hc : ∃ ms : List Int, cutD (ns.map D.int) none (some 63) = ms.map .int ∧ ms.length ≤ 63 := by
    refine ⟨ns.take (min 63 ns.length), ?_, by simp; omega⟩
    unfold cutD; rw [sIx_of (by decide)]
    show ((ns.map D.int).drop 0).take (min (63 : Int).toNat (ns.map D.int).length - 0) = _
    rw [List.drop_zero, Nat.sub_zero, List.length_map, List.map_take]; rfl
  obtain ⟨ms, hc, hl⟩ := hc
  rw [ws_seq]
  refine Ws.cut (fun e h' => ∃ cs : List Int, cs.length ≤ 63 ∧ h' = h ++ [.lst (ms.map .int), .lst (cs.map .int)] ∧ e = [.va (.cl (ns.map .int)), .va (.loc (h.length + 1)), .no]) ?_ ?_
  · simp [hc]
    refine lcloop_map (f := D.int) (fun p acc h' => ∃ cs : List Int, cs.length = p.length ∧ acc = cs.map .int ∧ h' = h ++ [.lst (ms.map .int), .lst acc]) ⟨[], rfl, rfl, by simp⟩ ?_ ?_ ?_
    · rintro p acc _ hp ⟨cs, hcl, rfl, rfl⟩
      exact lstOf_at (by simp)
    · rintro p x q acc _ hx ⟨cs, hcl, rfl, rfl⟩
      have : p.length ≤ 63 := by have := congrArg List.length hx; simp at this; omega
      simp [hm, size24]
      exact ⟨by omega, cs ++ [_], by simp [hcl], by simp; rfl⟩
    · rintro acc _ ⟨cs, hcl, rfl, rfl⟩
      simp
      exact ⟨cs, by omega, rfl⟩
  rintro _ _ ⟨cs, hcl, rfl, rfl⟩
  simp
  refine K _ (h.length + 1) _ ⟨0, 0, 0, cs.length, 0, cs, ?_, by simp, by omega, by omega, by omega, by omega, by omega, by omega⟩ (by omega) (by omega) (.cat _)
  rw [show h.length + 1 + 1 = h.length + 2 from rfl, cat_at]
  rfl
end
end K06
set_option Elab.async false
set_option linter.all false
set_option maxRecDepth 100000
set_option maxHeartbeats 1000000
namespace K06
open PySem L2 LF NW
def Do (z : Int) (p f l q t : Nat) (on : Bool) (lim : D) (w r fl rs : Int) : O := .ins "Disk" [("_size", .int z), ("_platter", .loc p), ("_former", .loc f), ("_lost", .loc l), ("_queue", .loc q), ("_latest", .loc t), ("_has_power", .bl on), ("_limit", lim), ("_writes", .int w), ("_reads", .int r), ("_flushes", .int fl), ("_restarts", .int rs)]
section
variable {h g : M} {os : List O} {o : Nat} {z w r fl rs i j : Int} {p f l q t x : Nat} {on b : Bool} {lim y : D} {k : Int → Int → Int}
theorem g_z (e : h[o]? = some (Do z p f l q t on lim w r fl rs)) : fFld xCt "_size" (.loc o) h = .ok (.int z) h := by unfold fFld; dsimp only; rw [e]; rfl
theorem g_p (e : h[o]? = some (Do z p f l q t on lim w r fl rs)) : fFld xCt "_platter" (.loc o) h = .ok (.loc p) h := by unfold fFld; dsimp only; rw [e]; rfl
theorem g_f (e : h[o]? = some (Do z p f l q t on lim w r fl rs)) : fFld xCt "_former" (.loc o) h = .ok (.loc f) h := by unfold fFld; dsimp only; rw [e]; rfl
theorem g_l (e : h[o]? = some (Do z p f l q t on lim w r fl rs)) : fFld xCt "_lost" (.loc o) h = .ok (.loc l) h := by unfold fFld; dsimp only; rw [e]; rfl
theorem g_q (e : h[o]? = some (Do z p f l q t on lim w r fl rs)) : fFld xCt "_queue" (.loc o) h = .ok (.loc q) h := by unfold fFld; dsimp only; rw [e]; rfl
theorem g_t (e : h[o]? = some (Do z p f l q t on lim w r fl rs)) : fFld xCt "_latest" (.loc o) h = .ok (.loc t) h := by unfold fFld; dsimp only; rw [e]; rfl
theorem g_on (e : h[o]? = some (Do z p f l q t on lim w r fl rs)) : fFld xCt "_has_power" (.loc o) h = .ok (.bl on) h := by unfold fFld; dsimp only; rw [e]; rfl
theorem g_lim (e : h[o]? = some (Do z p f l q t on lim w r fl rs)) : fFld xCt "_limit" (.loc o) h = .ok (lim) h := by unfold fFld; dsimp only; rw [e]; rfl
theorem g_w (e : h[o]? = some (Do z p f l q t on lim w r fl rs)) : fFld xCt "_writes" (.loc o) h = .ok (.int w) h := by unfold fFld; dsimp only; rw [e]; rfl
theorem g_r (e : h[o]? = some (Do z p f l q t on lim w r fl rs)) : fFld xCt "_reads" (.loc o) h = .ok (.int r) h := by unfold fFld; dsimp only; rw [e]; rfl
theorem g_fl (e : h[o]? = some (Do z p f l q t on lim w r fl rs)) : fFld xCt "_flushes" (.loc o) h = .ok (.int fl) h := by unfold fFld; dsimp only; rw [e]; rfl
theorem g_rs (e : h[o]? = some (Do z p f l q t on lim w r fl rs)) : fFld xCt "_restarts" (.loc o) h = .ok (.int rs) h := by unfold fFld; dsimp only; rw [e]; rfl
theorem c_at (e : h[o]? = some (Do z p f l q t on lim w r fl rs)) : clsAt h (.loc o) = some "Disk" := by unfold clsAt; dsimp only; rw [e]; rfl
theorem i_at (e : h[o]? = some (Do z p f l q t on lim w r fl rs)) : isInsB h "Disk" (.loc o) = true := by unfold isInsB; dsimp only; rw [e]; rfl
theorem ic_at (e : h[o]? = some (Do z p f l q t on lim w r fl rs)) : fIsC "Disk" [.loc o, .cls "Disk"] h = .ok (.bl true) h := by unfold fIsC; dsimp only; rw [e]; rfl
theorem m_write (e : h[o]? = some (Do z p f l q t on lim w r fl rs)) : hasM h "Disk" "write" (.loc o) = true := by unfold hasM; dsimp only; rw [e]; rfl
theorem m_read (e : h[o]? = some (Do z p f l q t on lim w r fl rs)) : hasM h "Disk" "read" (.loc o) = true := by unfold hasM; dsimp only; rw [e]; rfl
theorem m_flush (e : h[o]? = some (Do z p f l q t on lim w r fl rs)) : hasM h "Disk" "flush" (.loc o) = true := by unfold hasM; dsimp only; rw [e]; rfl
theorem m_arm (e : h[o]? = some (Do z p f l q t on lim w r fl rs)) : hasM h "Disk" "arm" (.loc o) = true := by unfold hasM; dsimp only; rw [e]; rfl
theorem m_restart (e : h[o]? = some (Do z p f l q t on lim w r fl rs)) : hasM h "Disk" "restart" (.loc o) = true := by unfold hasM; dsimp only; rw [e]; rfl
theorem m_rot (e : h[o]? = some (Do z p f l q t on lim w r fl rs)) : hasM h "Disk" "rot" (.loc o) = true := by unfold hasM; dsimp only; rw [e]; rfl
theorem m_exchange (e : h[o]? = some (Do z p f l q t on lim w r fl rs)) : hasM h "Disk" "exchange" (.loc o) = true := by unfold hasM; dsimp only; rw [e]; rfl
theorem m_revert (e : h[o]? = some (Do z p f l q t on lim w r fl rs)) : hasM h "Disk" "revert" (.loc o) = true := by unfold hasM; dsimp only; rw [e]; rfl
theorem m_lose (e : h[o]? = some (Do z p f l q t on lim w r fl rs)) : hasM h "Disk" "lose" (.loc o) = true := by unfold hasM; dsimp only; rw [e]; rfl
theorem m_platter_block (e : h[o]? = some (Do z p f l q t on lim w r fl rs)) : hasM h "Disk" "platter_block" (.loc o) = true := by unfold hasM; dsimp only; rw [e]; rfl
theorem m_pending (e : h[o]? = some (Do z p f l q t on lim w r fl rs)) : hasM h "Disk" "pending" (.loc o) = true := by unfold hasM; dsimp only; rw [e]; rfl
theorem m_twin (e : h[o]? = some (Do z p f l q t on lim w r fl rs)) : hasM h "Disk" "twin" (.loc o) = true := by unfold hasM; dsimp only; rw [e]; rfl
theorem m__check_address (e : h[o]? = some (Do z p f l q t on lim w r fl rs)) : hasM h "Disk" "_check_address" (.loc o) = true := by unfold hasM; dsimp only; rw [e]; rfl
theorem m__check_rest (e : h[o]? = some (Do z p f l q t on lim w r fl rs)) : hasM h "Disk" "_check_rest" (.loc o) = true := by unfold hasM; dsimp only; rw [e]; rfl
theorem m__take_step (e : h[o]? = some (Do z p f l q t on lim w r fl rs)) : hasM h "Disk" "_take_step" (.loc o) = true := by unfold hasM; dsimp only; rw [e]; rfl
theorem m__words_at (e : h[o]? = some (Do z p f l q t on lim w r fl rs)) : hasM h "Disk" "_words_at" (.loc o) = true := by unfold hasM; dsimp only; rw [e]; rfl
theorem m__land (e : h[o]? = some (Do z p f l q t on lim w r fl rs)) : hasM h "Disk" "_land" (.loc o) = true := by unfold hasM; dsimp only; rw [e]; rfl
theorem m__empty_queue (e : h[o]? = some (Do z p f l q t on lim w r fl rs)) : hasM h "Disk" "_empty_queue" (.loc o) = true := by unfold hasM; dsimp only; rw [e]; rfl
theorem s_z (e : h[o]? = some (Do z p f l q t on lim w r fl rs)) : fFldS xCt "_size" (.loc o) (.int i) h = .ok () (h.set o (Do i p f l q t on lim w r fl rs)) := by unfold fFldS; dsimp only; rw [e]; rfl
theorem sc_z : fFldS xCt "_size" (.loc g.length) (.int i) (g ++ Do z p f l q t on lim w r fl rs :: os) = .ok () (g ++ Do i p f l q t on lim w r fl rs :: os) := by unfold fFldS; dsimp only; rw [cat_at0]; show Res.ok () ((g ++ Do z p f l q t on lim w r fl rs :: os).set g.length (Do i p f l q t on lim w r fl rs)) = _; rw [cat_set0]; rfl
theorem a_z (e : h[o]? = some (Do z p f l q t on lim w r fl rs)) : fFldA "_size" k (.loc o) (some "Disk") (.int i) (.int j) h = .ok () (h.set o (Do (k i j) p f l q t on lim w r fl rs)) := by unfold fFldA; dsimp only; rw [e]; rfl
theorem s_p (e : h[o]? = some (Do z p f l q t on lim w r fl rs)) : fFldS xCt "_platter" (.loc o) (.loc x) h = .ok () (h.set o (Do z x f l q t on lim w r fl rs)) := by unfold fFldS; dsimp only; rw [e]; rfl
theorem sc_p : fFldS xCt "_platter" (.loc g.length) (.loc x) (g ++ Do z p f l q t on lim w r fl rs :: os) = .ok () (g ++ Do z x f l q t on lim w r fl rs :: os) := by unfold fFldS; dsimp only; rw [cat_at0]; show Res.ok () ((g ++ Do z p f l q t on lim w r fl rs :: os).set g.length (Do z x f l q t on lim w r fl rs)) = _; rw [cat_set0]; rfl
theorem s_f (e : h[o]? = some (Do z p f l q t on lim w r fl rs)) : fFldS xCt "_former" (.loc o) (.loc x) h = .ok () (h.set o (Do z p x l q t on lim w r fl rs)) := by unfold fFldS; dsimp only; rw [e]; rfl
theorem sc_f : fFldS xCt "_former" (.loc g.length) (.loc x) (g ++ Do z p f l q t on lim w r fl rs :: os) = .ok () (g ++ Do z p x l q t on lim w r fl rs :: os) := by unfold fFldS; dsimp only; rw [cat_at0]; show Res.ok () ((g ++ Do z p f l q t on lim w r fl rs :: os).set g.length (Do z p x l q t on lim w r fl rs)) = _; rw [cat_set0]; rfl
theorem s_l (e : h[o]? = some (Do z p f l q t on lim w r fl rs)) : fFldS xCt "_lost" (.loc o) (.loc x) h = .ok () (h.set o (Do z p f x q t on lim w r fl rs)) := by unfold fFldS; dsimp only; rw [e]; rfl
theorem sc_l : fFldS xCt "_lost" (.loc g.length) (.loc x) (g ++ Do z p f l q t on lim w r fl rs :: os) = .ok () (g ++ Do z p f x q t on lim w r fl rs :: os) := by unfold fFldS; dsimp only; rw [cat_at0]; show Res.ok () ((g ++ Do z p f l q t on lim w r fl rs :: os).set g.length (Do z p f x q t on lim w r fl rs)) = _; rw [cat_set0]; rfl
theorem s_q (e : h[o]? = some (Do z p f l q t on lim w r fl rs)) : fFldS xCt "_queue" (.loc o) (.loc x) h = .ok () (h.set o (Do z p f l x t on lim w r fl rs)) := by unfold fFldS; dsimp only; rw [e]; rfl
theorem sc_q : fFldS xCt "_queue" (.loc g.length) (.loc x) (g ++ Do z p f l q t on lim w r fl rs :: os) = .ok () (g ++ Do z p f l x t on lim w r fl rs :: os) := by unfold fFldS; dsimp only; rw [cat_at0]; show Res.ok () ((g ++ Do z p f l q t on lim w r fl rs :: os).set g.length (Do z p f l x t on lim w r fl rs)) = _; rw [cat_set0]; rfl
theorem s_t (e : h[o]? = some (Do z p f l q t on lim w r fl rs)) : fFldS xCt "_latest" (.loc o) (.loc x) h = .ok () (h.set o (Do z p f l q x on lim w r fl rs)) := by unfold fFldS; dsimp only; rw [e]; rfl
theorem sc_t : fFldS xCt "_latest" (.loc g.length) (.loc x) (g ++ Do z p f l q t on lim w r fl rs :: os) = .ok () (g ++ Do z p f l q x on lim w r fl rs :: os) := by unfold fFldS; dsimp only; rw [cat_at0]; show Res.ok () ((g ++ Do z p f l q t on lim w r fl rs :: os).set g.length (Do z p f l q x on lim w r fl rs)) = _; rw [cat_set0]; rfl
theorem s_on (e : h[o]? = some (Do z p f l q t on lim w r fl rs)) : fFldS xCt "_has_power" (.loc o) (.bl b) h = .ok () (h.set o (Do z p f l q t b lim w r fl rs)) := by unfold fFldS; dsimp only; rw [e]; rfl
theorem sc_on : fFldS xCt "_has_power" (.loc g.length) (.bl b) (g ++ Do z p f l q t on lim w r fl rs :: os) = .ok () (g ++ Do z p f l q t b lim w r fl rs :: os) := by unfold fFldS; dsimp only; rw [cat_at0]; show Res.ok () ((g ++ Do z p f l q t on lim w r fl rs :: os).set g.length (Do z p f l q t b lim w r fl rs)) = _; rw [cat_set0]; rfl
theorem s_lim (e : h[o]? = some (Do z p f l q t on lim w r fl rs)) : fFldS xCt "_limit" (.loc o) y h = .ok () (h.set o (Do z p f l q t on y w r fl rs)) := by unfold fFldS; dsimp only; rw [e]; rfl
theorem sc_lim : fFldS xCt "_limit" (.loc g.length) y (g ++ Do z p f l q t on lim w r fl rs :: os) = .ok () (g ++ Do z p f l q t on y w r fl rs :: os) := by unfold fFldS; dsimp only; rw [cat_at0]; show Res.ok () ((g ++ Do z p f l q t on lim w r fl rs :: os).set g.length (Do z p f l q t on y w r fl rs)) = _; rw [cat_set0]; rfl
theorem a_lim (e : h[o]? = some (Do z p f l q t on lim w r fl rs)) : fFldA "_limit" k (.loc o) (some "Disk") (.int i) (.int j) h = .ok () (h.set o (Do z p f l q t on (.int (k i j)) w r fl rs)) := by unfold fFldA; dsimp only; rw [e]; rfl
theorem s_w (e : h[o]? = some (Do z p f l q t on lim w r fl rs)) : fFldS xCt "_writes" (.loc o) (.int i) h = .ok () (h.set o (Do z p f l q t on lim i r fl rs)) := by unfold fFldS; dsimp only; rw [e]; rfl
theorem sc_w : fFldS xCt "_writes" (.loc g.length) (.int i) (g ++ Do z p f l q t on lim w r fl rs :: os) = .ok () (g ++ Do z p f l q t on lim i r fl rs :: os) := by unfold fFldS; dsimp only; rw [cat_at0]; show Res.ok () ((g ++ Do z p f l q t on lim w r fl rs :: os).set g.length (Do z p f l q t on lim i r fl rs)) = _; rw [cat_set0]; rfl
theorem a_w (e : h[o]? = some (Do z p f l q t on lim w r fl rs)) : fFldA "_writes" k (.loc o) (some "Disk") (.int i) (.int j) h = .ok () (h.set o (Do z p f l q t on lim (k i j) r fl rs)) := by unfold fFldA; dsimp only; rw [e]; rfl
theorem s_r (e : h[o]? = some (Do z p f l q t on lim w r fl rs)) : fFldS xCt "_reads" (.loc o) (.int i) h = .ok () (h.set o (Do z p f l q t on lim w i fl rs)) := by unfold fFldS; dsimp only; rw [e]; rfl
theorem sc_r : fFldS xCt "_reads" (.loc g.length) (.int i) (g ++ Do z p f l q t on lim w r fl rs :: os) = .ok () (g ++ Do z p f l q t on lim w i fl rs :: os) := by unfold fFldS; dsimp only; rw [cat_at0]; show Res.ok () ((g ++ Do z p f l q t on lim w r fl rs :: os).set g.length (Do z p f l q t on lim w i fl rs)) = _; rw [cat_set0]; rfl
theorem a_r (e : h[o]? = some (Do z p f l q t on lim w r fl rs)) : fFldA "_reads" k (.loc o) (some "Disk") (.int i) (.int j) h = .ok () (h.set o (Do z p f l q t on lim w (k i j) fl rs)) := by unfold fFldA; dsimp only; rw [e]; rfl
theorem s_fl (e : h[o]? = some (Do z p f l q t on lim w r fl rs)) : fFldS xCt "_flushes" (.loc o) (.int i) h = .ok () (h.set o (Do z p f l q t on lim w r i rs)) := by unfold fFldS; dsimp only; rw [e]; rfl
theorem sc_fl : fFldS xCt "_flushes" (.loc g.length) (.int i) (g ++ Do z p f l q t on lim w r fl rs :: os) = .ok () (g ++ Do z p f l q t on lim w r i rs :: os) := by unfold fFldS; dsimp only; rw [cat_at0]; show Res.ok () ((g ++ Do z p f l q t on lim w r fl rs :: os).set g.length (Do z p f l q t on lim w r i rs)) = _; rw [cat_set0]; rfl
theorem a_fl (e : h[o]? = some (Do z p f l q t on lim w r fl rs)) : fFldA "_flushes" k (.loc o) (some "Disk") (.int i) (.int j) h = .ok () (h.set o (Do z p f l q t on lim w r (k i j) rs)) := by unfold fFldA; dsimp only; rw [e]; rfl
theorem s_rs (e : h[o]? = some (Do z p f l q t on lim w r fl rs)) : fFldS xCt "_restarts" (.loc o) (.int i) h = .ok () (h.set o (Do z p f l q t on lim w r fl i)) := by unfold fFldS; dsimp only; rw [e]; rfl
theorem sc_rs : fFldS xCt "_restarts" (.loc g.length) (.int i) (g ++ Do z p f l q t on lim w r fl rs :: os) = .ok () (g ++ Do z p f l q t on lim w r fl i :: os) := by unfold fFldS; dsimp only; rw [cat_at0]; show Res.ok () ((g ++ Do z p f l q t on lim w r fl rs :: os).set g.length (Do z p f l q t on lim w r fl i)) = _; rw [cat_set0]; rfl
theorem a_rs (e : h[o]? = some (Do z p f l q t on lim w r fl rs)) : fFldA "_restarts" k (.loc o) (some "Disk") (.int i) (.int j) h = .ok () (h.set o (Do z p f l q t on lim w r fl (k i j))) := by unfold fFldA; dsimp only; rw [e]; rfl
theorem n_z : fFldS xCt "_size" (.loc g.length) (.int z) (g ++ .ins "Disk" [] :: os) = .ok () (g ++ .ins "Disk" [("_size", .int z)] :: os) := by unfold fFldS; dsimp only; rw [cat_at0]; show Res.ok () ((g ++ .ins "Disk" [] :: os).set g.length (.ins "Disk" [("_size", .int z)])) = _; rw [cat_set0]; rfl
theorem n_p : fFldS xCt "_platter" (.loc g.length) (.loc p) (g ++ .ins "Disk" [("_size", .int z)] :: os) = .ok () (g ++ .ins "Disk" [("_size", .int z), ("_platter", .loc p)] :: os) := by unfold fFldS; dsimp only; rw [cat_at0]; show Res.ok () ((g ++ .ins "Disk" [("_size", .int z)] :: os).set g.length (.ins "Disk" [("_size", .int z), ("_platter", .loc p)])) = _; rw [cat_set0]; rfl
theorem n_f : fFldS xCt "_former" (.loc g.length) (.loc f) (g ++ .ins "Disk" [("_size", .int z), ("_platter", .loc p)] :: os) = .ok () (g ++ .ins "Disk" [("_size", .int z), ("_platter", .loc p), ("_former", .loc f)] :: os) := by unfold fFldS; dsimp only; rw [cat_at0]; show Res.ok () ((g ++ .ins "Disk" [("_size", .int z), ("_platter", .loc p)] :: os).set g.length (.ins "Disk" [("_size", .int z), ("_platter", .loc p), ("_former", .loc f)])) = _; rw [cat_set0]; rfl
theorem n_l : fFldS xCt "_lost" (.loc g.length) (.loc l) (g ++ .ins "Disk" [("_size", .int z), ("_platter", .loc p), ("_former", .loc f)] :: os) = .ok () (g ++ .ins "Disk" [("_size", .int z), ("_platter", .loc p), ("_former", .loc f), ("_lost", .loc l)] :: os) := by unfold fFldS; dsimp only; rw [cat_at0]; show Res.ok () ((g ++ .ins "Disk" [("_size", .int z), ("_platter", .loc p), ("_former", .loc f)] :: os).set g.length (.ins "Disk" [("_size", .int z), ("_platter", .loc p), ("_former", .loc f), ("_lost", .loc l)])) = _; rw [cat_set0]; rfl
theorem n_q : fFldS xCt "_queue" (.loc g.length) (.loc q) (g ++ .ins "Disk" [("_size", .int z), ("_platter", .loc p), ("_former", .loc f), ("_lost", .loc l)] :: os) = .ok () (g ++ .ins "Disk" [("_size", .int z), ("_platter", .loc p), ("_former", .loc f), ("_lost", .loc l), ("_queue", .loc q)] :: os) := by unfold fFldS; dsimp only; rw [cat_at0]; show Res.ok () ((g ++ .ins "Disk" [("_size", .int z), ("_platter", .loc p), ("_former", .loc f), ("_lost", .loc l)] :: os).set g.length (.ins "Disk" [("_size", .int z), ("_platter", .loc p), ("_former", .loc f), ("_lost", .loc l), ("_queue", .loc q)])) = _; rw [cat_set0]; rfl
theorem n_t : fFldS xCt "_latest" (.loc g.length) (.loc t) (g ++ .ins "Disk" [("_size", .int z), ("_platter", .loc p), ("_former", .loc f), ("_lost", .loc l), ("_queue", .loc q)] :: os) = .ok () (g ++ .ins "Disk" [("_size", .int z), ("_platter", .loc p), ("_former", .loc f), ("_lost", .loc l), ("_queue", .loc q), ("_latest", .loc t)] :: os) := by unfold fFldS; dsimp only; rw [cat_at0]; show Res.ok () ((g ++ .ins "Disk" [("_size", .int z), ("_platter", .loc p), ("_former", .loc f), ("_lost", .loc l), ("_queue", .loc q)] :: os).set g.length (.ins "Disk" [("_size", .int z), ("_platter", .loc p), ("_former", .loc f), ("_lost", .loc l), ("_queue", .loc q), ("_latest", .loc t)])) = _; rw [cat_set0]; rfl
theorem n_on : fFldS xCt "_has_power" (.loc g.length) (.bl on) (g ++ .ins "Disk" [("_size", .int z), ("_platter", .loc p), ("_former", .loc f), ("_lost", .loc l), ("_queue", .loc q), ("_latest", .loc t)] :: os) = .ok () (g ++ .ins "Disk" [("_size", .int z), ("_platter", .loc p), ("_former", .loc f), ("_lost", .loc l), ("_queue", .loc q), ("_latest", .loc t), ("_has_power", .bl on)] :: os) := by unfold fFldS; dsimp only; rw [cat_at0]; show Res.ok () ((g ++ .ins "Disk" [("_size", .int z), ("_platter", .loc p), ("_former", .loc f), ("_lost", .loc l), ("_queue", .loc q), ("_latest", .loc t)] :: os).set g.length (.ins "Disk" [("_size", .int z), ("_platter", .loc p), ("_former", .loc f), ("_lost", .loc l), ("_queue", .loc q), ("_latest", .loc t), ("_has_power", .bl on)])) = _; rw [cat_set0]; rfl
theorem n_lim : fFldS xCt "_limit" (.loc g.length) (lim) (g ++ .ins "Disk" [("_size", .int z), ("_platter", .loc p), ("_former", .loc f), ("_lost", .loc l), ("_queue", .loc q), ("_latest", .loc t), ("_has_power", .bl on)] :: os) = .ok () (g ++ .ins "Disk" [("_size", .int z), ("_platter", .loc p), ("_former", .loc f), ("_lost", .loc l), ("_queue", .loc q), ("_latest", .loc t), ("_has_power", .bl on), ("_limit", lim)] :: os) := by unfold fFldS; dsimp only; rw [cat_at0]; show Res.ok () ((g ++ .ins "Disk" [("_size", .int z), ("_platter", .loc p), ("_former", .loc f), ("_lost", .loc l), ("_queue", .loc q), ("_latest", .loc t), ("_has_power", .bl on)] :: os).set g.length (.ins "Disk" [("_size", .int z), ("_platter", .loc p), ("_former", .loc f), ("_lost", .loc l), ("_queue", .loc q), ("_latest", .loc t), ("_has_power", .bl on), ("_limit", lim)])) = _; rw [cat_set0]; rfl
theorem n_w : fFldS xCt "_writes" (.loc g.length) (.int w) (g ++ .ins "Disk" [("_size", .int z), ("_platter", .loc p), ("_former", .loc f), ("_lost", .loc l), ("_queue", .loc q), ("_latest", .loc t), ("_has_power", .bl on), ("_limit", lim)] :: os) = .ok () (g ++ .ins "Disk" [("_size", .int z), ("_platter", .loc p), ("_former", .loc f), ("_lost", .loc l), ("_queue", .loc q), ("_latest", .loc t), ("_has_power", .bl on), ("_limit", lim), ("_writes", .int w)] :: os) := by unfold fFldS; dsimp only; rw [cat_at0]; show Res.ok () ((g ++ .ins "Disk" [("_size", .int z), ("_platter", .loc p), ("_former", .loc f), ("_lost", .loc l), ("_queue", .loc q), ("_latest", .loc t), ("_has_power", .bl on), ("_limit", lim)] :: os).set g.length (.ins "Disk" [("_size", .int z), ("_platter", .loc p), ("_former", .loc f), ("_lost", .loc l), ("_queue", .loc q), ("_latest", .loc t), ("_has_power", .bl on), ("_limit", lim), ("_writes", .int w)])) = _; rw [cat_set0]; rfl
theorem n_r : fFldS xCt "_reads" (.loc g.length) (.int r) (g ++ .ins "Disk" [("_size", .int z), ("_platter", .loc p), ("_former", .loc f), ("_lost", .loc l), ("_queue", .loc q), ("_latest", .loc t), ("_has_power", .bl on), ("_limit", lim), ("_writes", .int w)] :: os) = .ok () (g ++ .ins "Disk" [("_size", .int z), ("_platter", .loc p), ("_former", .loc f), ("_lost", .loc l), ("_queue", .loc q), ("_latest", .loc t), ("_has_power", .bl on), ("_limit", lim), ("_writes", .int w), ("_reads", .int r)] :: os) := by unfold fFldS; dsimp only; rw [cat_at0]; show Res.ok () ((g ++ .ins "Disk" [("_size", .int z), ("_platter", .loc p), ("_former", .loc f), ("_lost", .loc l), ("_queue", .loc q), ("_latest", .loc t), ("_has_power", .bl on), ("_limit", lim), ("_writes", .int w)] :: os).set g.length (.ins "Disk" [("_size", .int z), ("_platter", .loc p), ("_former", .loc f), ("_lost", .loc l), ("_queue", .loc q), ("_latest", .loc t), ("_has_power", .bl on), ("_limit", lim), ("_writes", .int w), ("_reads", .int r)])) = _; rw [cat_set0]; rfl
theorem n_fl : fFldS xCt "_flushes" (.loc g.length) (.int fl) (g ++ .ins "Disk" [("_size", .int z), ("_platter", .loc p), ("_former", .loc f), ("_lost", .loc l), ("_queue", .loc q), ("_latest", .loc t), ("_has_power", .bl on), ("_limit", lim), ("_writes", .int w), ("_reads", .int r)] :: os) = .ok () (g ++ .ins "Disk" [("_size", .int z), ("_platter", .loc p), ("_former", .loc f), ("_lost", .loc l), ("_queue", .loc q), ("_latest", .loc t), ("_has_power", .bl on), ("_limit", lim), ("_writes", .int w), ("_reads", .int r), ("_flushes", .int fl)] :: os) := by unfold fFldS; dsimp only; rw [cat_at0]; show Res.ok () ((g ++ .ins "Disk" [("_size", .int z), ("_platter", .loc p), ("_former", .loc f), ("_lost", .loc l), ("_queue", .loc q), ("_latest", .loc t), ("_has_power", .bl on), ("_limit", lim), ("_writes", .int w), ("_reads", .int r)] :: os).set g.length (.ins "Disk" [("_size", .int z), ("_platter", .loc p), ("_former", .loc f), ("_lost", .loc l), ("_queue", .loc q), ("_latest", .loc t), ("_has_power", .bl on), ("_limit", lim), ("_writes", .int w), ("_reads", .int r), ("_flushes", .int fl)])) = _; rw [cat_set0]; rfl
theorem n_rs : fFldS xCt "_restarts" (.loc g.length) (.int rs) (g ++ .ins "Disk" [("_size", .int z), ("_platter", .loc p), ("_former", .loc f), ("_lost", .loc l), ("_queue", .loc q), ("_latest", .loc t), ("_has_power", .bl on), ("_limit", lim), ("_writes", .int w), ("_reads", .int r), ("_flushes", .int fl)] :: os) = .ok () (g ++ .ins "Disk" [("_size", .int z), ("_platter", .loc p), ("_former", .loc f), ("_lost", .loc l), ("_queue", .loc q), ("_latest", .loc t), ("_has_power", .bl on), ("_limit", lim), ("_writes", .int w), ("_reads", .int r), ("_flushes", .int fl), ("_restarts", .int rs)] :: os) := by unfold fFldS; dsimp only; rw [cat_at0]; show Res.ok () ((g ++ .ins "Disk" [("_size", .int z), ("_platter", .loc p), ("_former", .loc f), ("_lost", .loc l), ("_queue", .loc q), ("_latest", .loc t), ("_has_power", .bl on), ("_limit", lim), ("_writes", .int w), ("_reads", .int r), ("_flushes", .int fl)] :: os).set g.length (.ins "Disk" [("_size", .int z), ("_platter", .loc p), ("_former", .loc f), ("_lost", .loc l), ("_queue", .loc q), ("_latest", .loc t), ("_has_power", .bl on), ("_limit", lim), ("_writes", .int w), ("_reads", .int r), ("_flushes", .int fl), ("_restarts", .int rs)])) = _; rw [cat_set0]; rfl
end
end K06
set_option Elab.async false
set_option linter.all false
set_option maxRecDepth 100000
set_option maxHeartbeats 1000000
namespace K06
open PySem L2 LF NW
def qD (e : Ent) : D := .tup [.int e.a, .tup (e.ws.map .int)]
def ZW : D := .ct (Z48.map .int)
def W1 (d : D) (ws : List Int) : Prop := d = .tup (ws.map .int) ∨ d = .ct (ws.map .int)
/-- a limit as a number: -1 is none -/
def limD (k : Int) : D := if k = -1 then .non else .int k
structure Dk where
  o : Nat
  p : Nat
  f : Nat
  l : Nat
  q : Nat
  t : Nat
  z : Int
  pl : List (Key × D)
  fo : List (Key × D)
  lo : List (Key × D)
  qu : List Ent
  la : List (Key × D)
  on : Bool
  lim : D
  w : Int
  r : Int
  fl : Int
  rs : Int
def Dk.pls (d : Dk) : List Nat := [d.o, d.p, d.f, d.l, d.q, d.t]
def Dk.ob (d : Dk) : O := Do d.z d.p d.f d.l d.q d.t d.on d.lim d.w d.r d.fl d.rs
structure DkAt (h : M) (d : Dk) : Prop where
  eo : h[d.o]? = some (Do d.z d.p d.f d.l d.q d.t d.on d.lim d.w d.r d.fl d.rs)
  ep : h[d.p]? = some (.dK d.pl)
  ef : h[d.f]? = some (.dK d.fo)
  el : h[d.l]? = some (.dK d.lo)
  eq : h[d.q]? = some (.lst (d.qu.map qD))
  et : h[d.t]? = some (.dK d.la)
  nd : d.pls.Nodup
theorem DkAt.fr {S : List Nat} {h h' : M} {d : Dk} (A : DkAt h d) (F : Fr S h h') (n : ∀ x ∈ d.pls, x ∉ S) : DkAt h' d :=
  ⟨F.at_ _ _ (n _ (by simp [Dk.pls])) A.eo, F.at_ _ _ (n _ (by simp [Dk.pls])) A.ep, F.at_ _ _ (n _ (by simp [Dk.pls])) A.ef, F.at_ _ _ (n _ (by simp [Dk.pls])) A.el, F.at_ _ _ (n _ (by simp [Dk.pls])) A.eq, F.at_ _ _ (n _ (by simp [Dk.pls])) A.et, A.nd⟩
theorem DkAt.fr0 {h h' : M} {d : Dk} (A : DkAt h d) (F : Fr [] h h') : DkAt h' d := A.fr F (by simp)
/-- a write at a place: what stands there after -/
theorem at_setE {h : M} {l k : Nat} {o u v : O} (e : h[l]? = some o) (hn : l ≠ k) : (h.set k u)[l]? = some o := at_setN e (Ne.symm hn)
theorem fl1 {h : M} {d : D} {ws : List Int} (w : W1 d ws) : fList [d] h = .ok (.loc h.length) (h ++ [.lst (ws.map .int)]) := by
  rcases w with rfl | rfl <;> rfl
section
variable {h : M} {d : Dk} {a : Int} {Q : D → M → Prop} {X : XP}
theorem check (A : DkAt h d) (K1 : 0 ≤ a ∧ a < d.z → Q .non h) (K2 : ¬ (0 ≤ a ∧ a < d.z) → X "BadAddress" ["address"] [.int a] h) : @Wc D (m_Disk__check_address [.loc d.o, .int a] h) ⟨Q, X⟩ := by
  unfold m_Disk__check_address; rw [wp_fn]; unfold b_Disk__check_address
  by_cases h0 : a < 0
  · simp [-v_fld, h0]
    exact K2 (by omega)
  · by_cases h1 : d.z ≤ a
    · simp [-v_fld, h0, g_z A.eo, h1]
      exact K2 (by omega)
    · simp [-v_fld, h0, g_z A.eo, h1]
      exact K1 (by omega)
theorem step_ok {k : Int} (A : DkAt h d) (hon : d.on = true) (hl : d.lim = limD k) (hk : k = -1 ∨ 0 < k) (K : ∀ h', DkAt h' { d with lim := limD (if k = -1 then -1 else k - 1) } → Fr [d.o] h h' → Q .non h') : @Wc D (m_Disk__take_step [.loc d.o] h) ⟨Q, X⟩ := by
  unfold m_Disk__take_step; rw [wp_fn]; unfold b_Disk__take_step
  have tb : ∀ b h, fTru (.bl b) h = .ok b h := fun _ _ => rfl
  have nd := A.nd
  simp only [Dk.pls, List.nodup_cons, List.mem_cons, List.not_mem_nil, or_false, not_or, List.nodup_nil, and_true] at nd
  obtain ⟨⟨n1, n2, n3, n4, n5⟩, _⟩ := nd
  rcases hk with rfl | hk
  · have e : d.lim = .non := hl
    simp [-v_fld, g_on A.eo, g_lim A.eo, hon, e, tb]
    refine K _ ?_ (.refl _ _)
    have : ({ d with lim := limD (if (-1 : Int) = -1 then -1 else -1 - 1) } : Dk) = d := by cases d; simp only at e ⊢; rw [e]; rfl
    rw [this]; exact A
  · have e : d.lim = .int k := by rw [hl]; unfold limD; rw [if_neg (by omega)]
    have k0 : ¬ k ≤ 0 := by omega
    have k1 : ¬ k = -1 := by omega
    have eo := A.eo
    rw [e, hon] at eo
    have nn : ∀ (h : M), fIsNN (.int k) h = .ok (.bl true) h := fun _ => rfl
    simp [-v_fld, -v_fldA, -v_clsAt, g_on eo, g_lim eo, tb, nn, k0, c_at eo, a_lim eo]
    simp only [k1, if_false] at K
    refine K _ ⟨?_, at_setN A.ep n1, at_setN A.ef n2, at_setN A.el n3, at_setN A.eq n4, at_setN A.et n5, A.nd⟩ (Fr.set _ (by simp))
    rw [at_set A.eo]
    simp only [hon, limD, if_neg (show ¬ k - 1 = -1 by omega)]
theorem step_no {k : Int} (A : DkAt h d) (hl : d.lim = limD k) (hk : d.on = false ∨ k = 0) (K : ∀ h', DkAt h' { d with on := false } → Fr [d.o] h h' → X "PowerLost" [] [] h') : @Wc D (m_Disk__take_step [.loc d.o] h) ⟨Q, X⟩ := by
  unfold m_Disk__take_step; rw [wp_fn]; unfold b_Disk__take_step
  have tb : ∀ b h, fTru (.bl b) h = .ok b h := fun _ _ => rfl
  have nd := A.nd
  simp only [Dk.pls, List.nodup_cons, List.mem_cons, List.not_mem_nil, or_false, not_or, List.nodup_nil, and_true] at nd
  obtain ⟨⟨n1, n2, n3, n4, n5⟩, _⟩ := nd
  cases hon : d.on with
  | false =>
    simp [-v_fld, g_on A.eo, hon, tb]
    refine K _ ?_ (.refl _ _)
    have : ({ d with on := false } : Dk) = d := by cases d; simp only at hon ⊢; rw [hon]
    rw [this]; exact A
  | true =>
    have k0 : k = 0 := by rcases hk with z | z; (rw [hon] at z; cases z); exact z
    subst k0
    have e : d.lim = .int 0 := hl
    have eo := A.eo
    rw [e, hon] at eo
    have nn : ∀ (h : M), fIsNN (.int 0) h = .ok (.bl true) h := fun _ => rfl
    simp [-v_fld, -v_fldS, g_on eo, g_lim eo, tb, nn, s_on eo]
    refine K _ ⟨?_, at_setN A.ep n1, at_setN A.ef n2, at_setN A.el n3, at_setN A.eq n4, at_setN A.et n5, A.nd⟩ (Fr.set _ (by simp))
    rw [at_set A.eo]
    simp only [e]
theorem rest_ok (A : DkAt h d) (hq : d.qu = []) (K : Q .non h) : @Wc D (m_Disk__check_rest [.loc d.o] h) ⟨Q, X⟩ := by
  unfold m_Disk__check_rest; rw [wp_fn]; unfold b_Disk__check_rest
  have e := A.eq
  rw [hq] at e
  simp [-v_fld, g_q A.eo, e]
  exact K
theorem rest_no (A : DkAt h d) (hq : d.qu ≠ []) (K : X "NotAtRest" [] [] h) : @Wc D (m_Disk__check_rest [.loc d.o] h) ⟨Q, X⟩ := by
  unfold m_Disk__check_rest; rw [wp_fn]; unfold b_Disk__check_rest
  have hl : 0 < d.qu.length := List.length_pos_iff.mpr hq
  simp [-v_fld, g_q A.eo, A.eq, hl]
  exact K
theorem arm {k : Int} (A : DkAt h d) (K : ∀ h', DkAt h' { d with lim := limD k } → Fr [d.o] h h' → Q .non h') : @Wc D (m_Disk_arm [.loc d.o, limD k] h) ⟨Q, X⟩ := by
  unfold m_Disk_arm; rw [wp_fn]; unfold b_Disk_arm
  have nd := A.nd
  simp only [Dk.pls, List.nodup_cons, List.mem_cons, List.not_mem_nil, or_false, not_or, List.nodup_nil, and_true] at nd
  obtain ⟨⟨n1, n2, n3, n4, n5⟩, _⟩ := nd
  simp [-v_fldS, s_lim A.eo]
  exact K _ ⟨at_set A.eo, at_setN A.ep n1, at_setN A.ef n2, at_setN A.el n3, at_setN A.eq n4, at_setN A.et n5, A.nd⟩ (Fr.set _ (by simp))
theorem words_at (A : DkAt h d) (K : Q ((valD d.pl (.inl a)).getD ZW) h) : @Wc D (m_Disk__words_at [.loc d.o, .int a] h) ⟨Q, X⟩ := by
  unfold m_Disk__words_at; rw [wp_fn]; unfold b_Disk__words_at
  simp [-v_fld, g_p A.eo, d_isB A.ep, d_get A.ep]
  exact K
theorem read {ws : List Int} (A : DkAt h d) (hon : d.on = true) (a0 : 0 ≤ a) (a1 : a < d.z) (hlo : valD d.lo (.inl a) = none) (hw : W1 ((valD d.la (.inl a)).getD ((valD d.pl (.inl a)).getD ZW)) ws)
    (K : ∀ h', h'[h.length]? = some (.lst (ws.map .int)) → DkAt h' { d with r := d.r + 1 } → Fr [d.o] h h' → Q (.loc h.length) h') : @Wc D (m_Disk_read [.loc d.o, .int a] h) ⟨Q, X⟩ := by
  unfold m_Disk_read; rw [wp_fn]; unfold b_Disk_read
  have tb : ∀ b h, fTru (.bl b) h = .ok b h := fun _ _ => rfl
  have nd := A.nd
  simp only [Dk.pls, List.nodup_cons, List.mem_cons, List.not_mem_nil, or_false, not_or, List.nodup_nil, and_true] at nd
  obtain ⟨⟨n1, n2, n3, n4, n5⟩, ⟨n6, n7, n8, n9⟩, ⟨n10, n11, n12⟩, ⟨n13, n14⟩, n15⟩ := nd
  have fin : ∀ os, DkAt (h.set d.o (Do d.z d.p d.f d.l d.q d.t d.on d.lim d.w (d.r + 1) d.fl d.rs) ++ os) { d with r := d.r + 1 } := fun os =>
    DkAt.fr0 ⟨at_set A.eo, at_setN A.ep n1, at_setN A.ef n2, at_setN A.el n3, at_setN A.eq n4, at_setN A.et n5, A.nd⟩ (.cat _)
  simp [-v_fld, -v_hasM, m__check_address A.eo]
  refine check A (fun _ => ?_) fun z => absurd ⟨a0, a1⟩ z
  rw [ws_seq]
  refine Ws.cut (fun e h' => h = h' ∧ e = [.va (.loc d.o), .va (.int a), .no]) ?_ ?_
  · simp [-v_fld, g_on A.eo, hon, tb]
  rintro _ _ ⟨rfl, rfl⟩
  rw [ws_seq]
  refine Ws.cut (fun e h' => h = h' ∧ ∃ v, W1 v ws ∧ e = [.va (.loc d.o), .va (.int a), .va v]) ?_ ?_
  · cases hv : valD d.la (.inl a) with
    | some v =>
      rw [hv] at hw
      simp [-v_fld, g_t A.eo, d_in A.et, hv, d_ix A.et hv]
      exact hw
    | none =>
      rw [hv] at hw
      simp [-v_fld, -v_hasM, g_t A.eo, d_in A.et, hv, g_l A.eo, d_in A.el, hlo, m__words_at A.eo]
      refine words_at A ?_
      simp
      exact hw
  rintro _ _ ⟨rfl, v, hv, rfl⟩
  simp [-v_fld, -v_fldA, -v_clsAt, g_r A.eo, c_at A.eo, a_r A.eo, fl1 hv]
  exact K _ (by have : (h.set d.o (Do d.z d.p d.f d.l d.q d.t d.on d.lim d.w (d.r + 1) d.fl d.rs)).length = h.length := by simp
                conv => lhs; rw [← this]
                simp) (fin _) ((Fr.set _ (by simp)).trans (.cat _))
theorem read_out (A : DkAt h d) (ha : ¬ (0 ≤ a ∧ a < d.z)) (K : X "BadAddress" ["address"] [.int a] h) : @Wc D (m_Disk_read [.loc d.o, .int a] h) ⟨Q, X⟩ := by
  unfold m_Disk_read; rw [wp_fn]; unfold b_Disk_read
  simp [-v_fld, -v_hasM, m__check_address A.eo]
  exact check A (fun z => absurd z ha) fun _ => K
theorem platter {ws : List Int} (A : DkAt h d) (a0 : 0 ≤ a) (a1 : a < d.z) (hlo : valD d.lo (.inl a) = none) (hw : W1 ((valD d.pl (.inl a)).getD ZW) ws)
    (K : Q (.loc h.length) (h ++ [.lst (ws.map .int)])) : @Wc D (m_Disk_platter_block [.loc d.o, .int a] h) ⟨Q, X⟩ := by
  unfold m_Disk_platter_block; rw [wp_fn]; unfold b_Disk_platter_block
  simp [-v_fld, -v_hasM, m__check_address A.eo]
  refine check A (fun _ => ?_) fun z => absurd ⟨a0, a1⟩ z
  simp [-v_fld, -v_hasM, g_l A.eo, d_in A.el, hlo, m__words_at A.eo]
  refine words_at A ?_
  simp [fl1 hw]
  exact K
theorem platter_out (A : DkAt h d) (ha : ¬ (0 ≤ a ∧ a < d.z)) (K : X "BadAddress" ["address"] [.int a] h) : @Wc D (m_Disk_platter_block [.loc d.o, .int a] h) ⟨Q, X⟩ := by
  unfold m_Disk_platter_block; rw [wp_fn]; unfold b_Disk_platter_block
  simp [-v_fld, -v_hasM, m__check_address A.eo]
  exact check A (fun z => absurd z ha) fun _ => K
/-- a write behind the step -/
def bW : MS := (mSeq (mSet 3 (mL fTuple (mCons (mVar 2) mNil)))
  (mSeq (mDo (mBM "list" fAppend (m1 (fFld xCt "_queue") (mVar 0)) (mCons (mL fTup (mCons (mVar 1) (mCons (mVar 3) mNil))) mNil)))
  (mSeq (m3 fPut (m1 (fFld xCt "_latest") (mVar 0)) (mVar 1) (mVar 3))
  (mFldA xCt "_writes" (fun i j => i + j) (mVar 0) (mC (.int 1))))))
theorem write_b {k j : Nat} {ws : List Int} {nx : En → M → Prop} {rt : D → M → Prop} {bk ct : En → M → Prop} {ex : Str → List Str → List D → En → M → Prop} (A : DkAt h d) (ek : h[k]? = some (.lst (ws.map .int))) (r1 : d.qu.length < 16777216) (r2 : d.la.length < 16777216)
    (K : ∀ e h', DkAt h' { d with qu := d.qu ++ [⟨a, ws, j⟩], la := putD d.la (.inl a) (.tup (ws.map .int)), w := d.w + 1 } → Fr [d.o, d.q, d.t] h h' → nx e h') : @Ws (bW [.va (.loc d.o), .va (.int a), .va (.loc k), .no] h) ⟨nx, rt, bk, ct, ex⟩ := by
  unfold bW
  have nd := A.nd
  simp only [Dk.pls, List.nodup_cons, List.mem_cons, List.not_mem_nil, or_false, not_or, List.nodup_nil, and_true] at nd
  obtain ⟨⟨n1, n2, n3, n4, n5⟩, ⟨n6, n7, n8, n9⟩, ⟨n10, n11, n12⟩, ⟨n13, n14⟩, n15⟩ := nd
  have e1 := at_setN (k := d.q) (u := .lst (d.qu.map qD ++ [qD ⟨a, ws, j⟩])) A.eo (Ne.symm n4)
  have e2 := at_setN (k := d.q) (u := .lst (d.qu.map qD ++ [qD ⟨a, ws, j⟩])) A.et n15.1
  have e3 := at_setN (k := d.t) (u := .dK (putD d.la (.inl a) (.tup (ws.map .int)))) e1 (Ne.symm n5)
  have q1 : qD ⟨a, ws, j⟩ = .tup [.int a, .tup (ws.map .int)] := rfl
  rw [q1] at e1 e2 e3
  simp [-v_fld, -v_fldA, -v_clsAt, ek, g_q A.eo, A.eq, size24, r1, g_t e1, d_put e2 (show d.la.length < sizeLine by rw [size24]; exact r2), g_w e3, c_at e3, a_w e3]
  refine K _ _ ⟨at_set e3, ?_, ?_, ?_, ?_, ?_, A.nd⟩ (((Fr.set _ (by simp)).trans (Fr.set _ (by simp))).trans (Fr.set _ (by simp)))
  · exact at_setN (at_setN (at_setN A.ep (Ne.symm n8)) (Ne.symm n9)) n1
  · exact at_setN (at_setN (at_setN A.ef (Ne.symm n11)) (Ne.symm n12)) n2
  · exact at_setN (at_setN (at_setN A.el (Ne.symm n13)) (Ne.symm n14)) n3
  · exact at_setN (at_setN (by rw [at_set A.eq]; simp [qD]) (Ne.symm n15.1)) n4
  · exact at_setN (at_set e2) n5
theorem write {k j : Nat} {L : Int} {ws : List Int} (A : DkAt h d) (hon : d.on = true) (hl : d.lim = limD L) (hk : L = -1 ∨ 0 < L) (a0 : 0 ≤ a) (a1 : a < d.z) (ek : h[k]? = some (.lst (ws.map .int))) (hkn : k ∉ d.pls) (r1 : d.qu.length < 16777216) (r2 : d.la.length < 16777216)
    (K : ∀ h', DkAt h' { d with lim := limD (if L = -1 then -1 else L - 1), qu := d.qu ++ [⟨a, ws, j⟩], la := putD d.la (.inl a) (.tup (ws.map .int)), w := d.w + 1 } → Fr [d.o, d.q, d.t] h h' → Q .non h') : @Wc D (m_Disk_write [.loc d.o, .int a, .loc k] h) ⟨Q, X⟩ := by
  unfold m_Disk_write; rw [wp_fn]; unfold b_Disk_write
  rw [ws_seq]
  refine Ws.cut (fun e h' => h = h' ∧ e = [.va (.loc d.o), .va (.int a), .va (.loc k), .no]) ?_ ?_
  · simp [-v_fld, -v_hasM, m__check_address A.eo]
    refine check A (fun _ => ?_) fun z => absurd ⟨a0, a1⟩ z
    simp
  rintro _ _ ⟨rfl, rfl⟩
  rw [ws_seq]
  refine Ws.cut (fun e h' => DkAt h' { d with lim := limD (if L = -1 then -1 else L - 1) } ∧ Fr [d.o] h h' ∧ e = [.va (.loc d.o), .va (.int a), .va (.loc k), .no]) ?_ ?_
  · simp [-v_fld, -v_hasM, m__take_step A.eo]
    refine step_ok A hon hl hk fun h1 A1 F1 => ?_
    simp
    exact ⟨A1, F1⟩
  rintro _ h1 ⟨A1, F1, rfl⟩
  have ko : k ≠ d.o := fun z => hkn (by simp [Dk.pls, z])
  exact write_b (d := { d with lim := limD (if L = -1 then -1 else L - 1) }) (j := j) A1 (F1.at_ _ _ (by simpa using ko) ek) r1 r2 fun e h2 A2 F2 => K _ A2 ((F1.mono (by simp)).trans F2)
theorem write_no {k : Nat} {L : Int} (A : DkAt h d) (hl : d.lim = limD L) (hk : d.on = false ∨ L = 0) (a0 : 0 ≤ a) (a1 : a < d.z) (K : ∀ h', DkAt h' { d with on := false } → Fr [d.o] h h' → X "PowerLost" [] [] h') : @Wc D (m_Disk_write [.loc d.o, .int a, .loc k] h) ⟨Q, X⟩ := by
  unfold m_Disk_write; rw [wp_fn]; unfold b_Disk_write
  simp [-v_fld, -v_hasM, m__check_address A.eo]
  refine check A (fun _ => ?_) fun z => absurd ⟨a0, a1⟩ z
  simp [-v_fld, -v_hasM, m__take_step A.eo]
  exact step_no A hl hk K
theorem read_no (A : DkAt h d) (hon : d.on = false) (a0 : 0 ≤ a) (a1 : a < d.z) (K : X "PowerLost" [] [] h) : @Wc D (m_Disk_read [.loc d.o, .int a] h) ⟨Q, X⟩ := by
  unfold m_Disk_read; rw [wp_fn]; unfold b_Disk_read
  have tb : ∀ b h, fTru (.bl b) h = .ok b h := fun _ _ => rfl
  simp [-v_fld, -v_hasM, m__check_address A.eo]
  refine check A (fun _ => ?_) fun z => absurd ⟨a0, a1⟩ z
  simp [-v_fld, g_on A.eo, hon, tb]
  exact K
theorem rot {ws : List Int} {sp v : Int} (A : DkAt h d) (hq : d.qu = []) (a0 : 0 ≤ a) (a1 : a < d.z) (hw : W1 ((valD d.pl (.inl a)).getD ZW) ws) (s0 : 0 ≤ sp) (s1 : sp < ws.length) (r1 : d.pl.length < 16777216)
    (K : ∀ h', DkAt h' { d with pl := putD d.pl (.inl a) (.tup ((ws.set sp.toNat v).map .int)) } → Fr [d.p] h h' → Q .non h') : @Wc D (m_Disk_rot [.loc d.o, .int a, .int sp, .int v] h) ⟨Q, X⟩ := by
  unfold m_Disk_rot; rw [wp_fn]; unfold b_Disk_rot
  have nd := A.nd
  simp only [Dk.pls, List.nodup_cons, List.mem_cons, List.not_mem_nil, or_false, not_or, List.nodup_nil, and_true] at nd
  obtain ⟨⟨n1, n2, n3, n4, n5⟩, ⟨n6, n7, n8, n9⟩, ⟨n10, n11, n12⟩, ⟨n13, n14⟩, n15, _⟩ := nd
  simp [-v_fld, -v_hasM, m__check_address A.eo]
  refine check A (fun _ => ?_) fun z => absurd ⟨a0, a1⟩ z
  simp [-v_fld, -v_hasM, m__check_rest A.eo]
  refine rest_ok A hq ?_
  simp [-v_fld, -v_hasM, m__words_at A.eo]
  refine words_at A ?_
  have e4 : ixN ws.length sp = some sp.toNat := by
    have := ixN_nat (len := ws.length) (n := sp.toNat)
    rw [Int.toNat_of_nonneg s0, if_pos (by omega)] at this
    exact this
  have e3 : (h ++ [O.lst (ws.map .int)])[h.length]? = some (.lst (ws.map .int)) := by simp
  have B := fun os : M => A.fr (S := []) (.cat os) (by simp)
  have hz : d.pl.length < sizeLine := by rw [size24]; exact r1
  simp [-v_fld, fl1 hw, v_putL e3, e4, g_p (B _).eo, d_put (B _).ep hz]
  have hm : (ws.map D.int).set sp.toNat (.int v) = (ws.set sp.toNat v).map .int := by rw [List.map_set]
  rw [hm]
  have C := B [O.lst ((ws.set sp.toNat v).map .int)]
  exact K _ ⟨at_setN C.eo (Ne.symm n1), at_set C.ep, at_setN C.ef n6, at_setN C.el n7, at_setN C.eq n8, at_setN C.et n9, A.nd⟩ ((Fr.cat _).trans (Fr.set _ (by simp)))
theorem rot_no {sp v : Int} (A : DkAt h d) (hq : d.qu ≠ []) (a0 : 0 ≤ a) (a1 : a < d.z) (K : X "NotAtRest" [] [] h) : @Wc D (m_Disk_rot [.loc d.o, .int a, .int sp, .int v] h) ⟨Q, X⟩ := by
  unfold m_Disk_rot; rw [wp_fn]; unfold b_Disk_rot
  simp [-v_fld, -v_hasM, m__check_address A.eo]
  refine check A (fun _ => ?_) fun z => absurd ⟨a0, a1⟩ z
  simp [-v_fld, -v_hasM, m__check_rest A.eo]
  exact rest_no A hq K
theorem rot_out {sp v : Int} (A : DkAt h d) (ha : ¬ (0 ≤ a ∧ a < d.z)) (K : X "BadAddress" ["address"] [.int a] h) : @Wc D (m_Disk_rot [.loc d.o, .int a, .int sp, .int v] h) ⟨Q, X⟩ := by
  unfold m_Disk_rot; rw [wp_fn]; unfold b_Disk_rot
  simp [-v_fld, -v_hasM, m__check_address A.eo]
  exact check A (fun z => absurd z ha) fun _ => K
theorem write_out {k : Nat} (A : DkAt h d) (ha : ¬ (0 ≤ a ∧ a < d.z)) (K : X "BadAddress" ["address"] [.int a] h) : @Wc D (m_Disk_write [.loc d.o, .int a, .loc k] h) ⟨Q, X⟩ := by
  unfold m_Disk_write; rw [wp_fn]; unfold b_Disk_write
  simp [-v_fld, -v_hasM, m__check_address A.eo]
  exact check A (fun z => absurd z ha) fun _ => K
end
end K06
set_option Elab.async false
set_option linter.all false
set_option maxRecDepth 100000
set_option maxHeartbeats 1000000
namespace K06
open PySem L2 LF NW
theorem dropD_none {κ : Type} [DecidableEq κ] {kvs : List (κ × D)} {k : κ} (e : valD kvs k = none) : dropD kvs k = kvs := by
  unfold dropD
  rw [List.filter_eq_self]
  intro x hx
  simp only [ne_eq, decide_not, Bool.not_eq_true', decide_eq_false_iff_not]
  intro hk
  unfold valD at e
  rw [Option.map_eq_none_iff, List.find?_eq_none] at e
  exact e x hx (by simpa using hk)
theorem set_same {H : M} {n : Nat} {u : O} (hu : H[n]? = some u) : H.set n u = H := by
  apply List.ext_getElem?
  intro i
  rw [List.getElem?_set]
  split
  · subst_vars; split
    · exact hu.symm
    · rename_i hh; rw [List.getElem?_eq_none (by omega)]
  · rfl
def landE (d : Dk) (e : Ent) : Dk := { d with pl := putD d.pl (.inl e.a) (.tup (e.ws.map .int)), fo := putD d.fo (.inl e.a) ((valD d.pl (.inl e.a)).getD ZW), lo := dropD d.lo (.inl e.a) }
theorem landE_pls {d : Dk} {e : Ent} : (landE d e).pls = d.pls ∧ (landE d e).qu = d.qu ∧ (landE d e).o = d.o ∧ (landE d e).p = d.p ∧ (landE d e).f = d.f ∧ (landE d e).l = d.l ∧ (landE d e).q = d.q := ⟨rfl, rfl, rfl, rfl, rfl, rfl, rfl⟩
def landed (d : Dk) (es : List Ent) : Dk := es.foldl landE d
theorem landed_snoc {d : Dk} {es : List Ent} {e : Ent} : landed d (es ++ [e]) = landE (landed d es) e := by simp [landed]
/-- what a landing leaves as it was -/
def Kept (d d' : Dk) : Prop := d'.o = d.o ∧ d'.p = d.p ∧ d'.f = d.f ∧ d'.l = d.l ∧ d'.q = d.q ∧ d'.t = d.t ∧ d'.z = d.z ∧ d'.qu = d.qu ∧ d'.la = d.la ∧ d'.on = d.on ∧ d'.lim = d.lim ∧ d'.w = d.w ∧ d'.r = d.r ∧ d'.fl = d.fl ∧ d'.rs = d.rs
theorem landed_kept (d : Dk) (es : List Ent) : Kept d (landed d es) := by
  induction es using snoc_ind with
  | h0 => exact ⟨rfl, rfl, rfl, rfl, rfl, rfl, rfl, rfl, rfl, rfl, rfl, rfl, rfl, rfl, rfl⟩
  | h1 es e ih => rw [landed_snoc]; exact ih
theorem landed_len (d : Dk) (es : List Ent) : (landed d es).pl.length ≤ d.pl.length + es.length ∧ (landed d es).fo.length ≤ d.fo.length + es.length := by
  induction es using snoc_ind with
  | h0 => exact ⟨Nat.le_refl _, Nat.le_refl _⟩
  | h1 es e ih =>
    rw [landed_snoc]
    have h1 := putD_len (kvs := (landed d es).pl) (k := (.inl e.a : Key)) (d := .tup (e.ws.map .int))
    have h2 := putD_len (kvs := (landed d es).fo) (k := (.inl e.a : Key)) (d := (valD (landed d es).pl (.inl e.a)).getD ZW)
    simp only [landE, List.length_append, List.length_cons, List.length_nil]
    omega
theorem landed_pl (d : Dk) (a : Int) (es : List Ent) : valD (landed d es).pl (.inl a) = match lastE es a with | some e => some (.tup (e.ws.map .int)) | none => valD d.pl (.inl a) := by
  induction es using snoc_ind with
  | h0 => rfl
  | h1 es e ih =>
    rw [landed_snoc, lastE_snoc]
    simp only [landE]
    rw [valD_put]
    by_cases ha : e.a = a
    · subst ha; simp
    · rw [if_neg ha, if_neg (by simpa using Ne.symm ha), ih]
theorem landed_lo (d : Dk) (es : List Ent) (h : d.lo = []) : (landed d es).lo = [] := by
  induction es using snoc_ind with
  | h0 => exact h
  | h1 es e ih => rw [landed_snoc]; simp only [landE, ih]; rfl
section
variable {h : M} {d : Dk} {a : Int} {Q : D → M → Prop} {X : XP}
theorem land (A : DkAt h d) (r1 : d.pl.length < 16777216) (r2 : d.fo.length < 16777216) (e : Ent)
    (K : ∀ h', DkAt h' (landE d e) → Fr [d.p, d.f, d.l] h h' → Q .non h') : @Wc D (m_Disk__land [.loc d.o, .int e.a, .tup (e.ws.map .int), .int 255] h) ⟨Q, X⟩ := by
  unfold m_Disk__land; rw [wp_fn]; unfold b_Disk__land
  have nd := A.nd
  simp only [Dk.pls, List.nodup_cons, List.mem_cons, List.not_mem_nil, or_false, not_or, List.nodup_nil, and_true] at nd
  obtain ⟨⟨n1, n2, n3, n4, n5⟩, ⟨n6, n7, n8, n9⟩, ⟨n10, n11, n12⟩, ⟨n13, n14⟩, n15, _⟩ := nd
  rw [ws_seq]
  refine Ws.cut (fun e' h' => h = h' ∧ e' = [.va (.loc d.o), .va (.int e.a), .va (.tup (e.ws.map .int)), .va (.int 255), .va ((valD d.pl (.inl e.a)).getD ZW)]) ?_ ?_
  · simp [-v_hasM, m__words_at A.eo]
    refine words_at A ?_
    simp
  rintro _ _ ⟨rfl, rfl⟩
  have o1 := at_setN (k := d.p) (u := .dK (putD d.pl (.inl e.a) (.tup (e.ws.map .int)))) A.eo (Ne.symm n1)
  have l1 := at_setN (k := d.p) (u := .dK (putD d.pl (.inl e.a) (.tup (e.ws.map .int)))) A.el n7
  have o2 := at_setN (k := d.l) (u := .dK (dropD d.lo (.inl e.a))) o1 (Ne.symm n3)
  have f2 := at_setN (k := d.l) (u := .dK (dropD d.lo (.inl e.a))) (at_setN (k := d.p) (u := .dK (putD d.pl (.inl e.a) (.tup (e.ws.map .int)))) A.ef n6) (Ne.symm n10)
  rw [ws_seq]
  refine Ws.cut (fun e' h' => h' = (h.set d.p (.dK (putD d.pl (.inl e.a) (.tup (e.ws.map .int))))).set d.l (.dK (dropD d.lo (.inl e.a))) ∧ e' = [.va (.loc d.o), .va (.int e.a), .va (.tup (e.ws.map .int)), .va (.int 255), .va ((valD d.pl (.inl e.a)).getD ZW)]) ?_ ?_
  · have hz : d.pl.length < sizeLine := by rw [size24]; exact r1
    cases hv : (valD d.lo (.inl e.a)).isSome with
    | true => simp [-v_fld, g_p A.eo, d_put A.ep hz, g_l o1, d_in l1, hv, d_del l1 hv]
    | false =>
      have hn : valD d.lo (.inl e.a) = none := by simpa using hv
      simp [-v_fld, g_p A.eo, d_put A.ep hz, g_l o1, d_in l1, hv, dropD_none hn]
      rw [set_same l1]
  rintro _ _ ⟨rfl, rfl⟩
  simp [-v_fld, g_f o2, d_put f2 (show d.fo.length < sizeLine by rw [size24]; exact r2)]
  refine K _ ⟨at_setN o2 (Ne.symm n2), ?_, at_set f2, ?_, ?_, ?_, A.nd⟩ (((Fr.set _ (by simp)).trans (Fr.set _ (by simp))).trans (Fr.set _ (by simp)))
  · exact at_setN (at_setN (at_set A.ep) (Ne.symm n7)) (Ne.symm n6)
  · exact at_setN (at_set l1) n10
  · exact at_setN (at_setN (at_setN A.eq n8) n13) n11
  · exact at_setN (at_setN (at_setN A.et n9) n14) n12
end
end K06
set_option Elab.async false
set_option linter.all false
set_option maxRecDepth 100000
set_option maxHeartbeats 1000000
namespace K06
open PySem L2 LF NW
/-- a flushed disk: its queue and its new words in new places -/
def flushed (d : Dk) (q t : Nat) : Dk := { landed d d.qu with qu := [], la := [], q := q, t := t, fl := d.fl + 1 }
def pend : Nat → List Ent → List D
  | _, [] => []
  | n, e :: es => .tup [.int e.a, .loc n] :: pend (n + 1) es
theorem pend_snoc {e : Ent} : ∀ (n : Nat) (es : List Ent), pend n (es ++ [e]) = pend n es ++ [.tup [.int e.a, .loc (n + es.length)]]
  | n, [] => rfl
  | n, x :: es => by
    simp only [List.cons_append, pend, pend_snoc (n + 1) es, List.length_cons]
    rw [show n + 1 + es.length = n + (es.length + 1) by omega]
theorem pend_len : ∀ (n : Nat) (es : List Ent), (pend n es).length = es.length
  | n, [] => rfl
  | n, x :: es => by simp [pend, pend_len (n + 1) es]
theorem pend_at : ∀ (n i : Nat) (es : List Ent) (e : Ent), es[i]? = some e → (pend n es)[i]? = some (.tup [.int e.a, .loc (n + i)])
  | n, i, [], e, h => by simp at h
  | n, 0, x :: es, e, h => by simp at h; subst h; rfl
  | n, i + 1, x :: es, e, h => by
    simp only [List.getElem?_cons_succ] at h
    simp only [pend, List.getElem?_cons_succ]
    rw [pend_at (n + 1) i es e h, show n + 1 + i = n + (i + 1) by omega]
section
variable {h : M} {d : Dk} {a : Int} {Q : D → M → Prop} {X : XP}
theorem empty_queue (A : DkAt h d) (K : ∀ h' q t, h.length ≤ q → h.length ≤ t → DkAt h' { d with q := q, t := t, qu := [], la := [] } → Fr [d.o] h h' → Q .non h') : @Wc D (m_Disk__empty_queue [.loc d.o] h) ⟨Q, X⟩ := by
  unfold m_Disk__empty_queue; rw [wp_fn]; unfold b_Disk__empty_queue
  have nd := A.nd
  simp only [Dk.pls, List.nodup_cons, List.mem_cons, List.not_mem_nil, or_false, not_or, List.nodup_nil, and_true] at nd
  obtain ⟨⟨n1, n2, n3, n4, n5⟩, ⟨n6, n7, n8, n9⟩, ⟨n10, n11, n12⟩, ⟨n13, n14⟩, n15, _⟩ := nd
  rw [ws_seq]
  refine Ws.cut (fun e h' => h' = (h ++ [O.lst []]).set d.o (Do d.z d.p d.f d.l h.length d.t d.on d.lim d.w d.r d.fl d.rs) ∧ e = [.va (.loc d.o)]) ?_ ?_
  · simp [-v_fldS, size24, s_q (at_app (u := .lst []) A.eo)]
  rintro _ _ ⟨rfl, rfl⟩
  have e1 : ((h ++ [O.lst []]).set d.o (Do d.z d.p d.f d.l h.length d.t d.on d.lim d.w d.r d.fl d.rs))[d.o]? = some (Do d.z d.p d.f d.l h.length d.t d.on d.lim d.w d.r d.fl d.rs) := at_set (at_app A.eo)
  have hl : ((h ++ [O.lst []]).set d.o (Do d.z d.p d.f d.l h.length d.t d.on d.lim d.w d.r d.fl d.rs)).length = h.length + 1 := by simp
  generalize hg : (h ++ [O.lst []]).set d.o (Do d.z d.p d.f d.l h.length d.t d.on d.lim d.w d.r d.fl d.rs) = g at e1 hl
  have Fg : Fr [d.o] h g := by rw [← hg]; exact (Fr.cat _).trans (Fr.set _ (by simp))
  have eq : g[h.length]? = some (.lst []) := by
    rw [← hg]; exact at_setN (by simp) (by have := at_lt A.eo; omega)
  have B : DkAt g { d with q := h.length, qu := [] } := by
    have lo := at_lt A.eo
    have lp := at_lt A.ep
    have lf := at_lt A.ef
    have ll := at_lt A.el
    have lt := at_lt A.et
    refine ⟨e1, Fg.at_ _ _ (by simpa using Ne.symm n1) A.ep, Fg.at_ _ _ (by simpa using Ne.symm n2) A.ef, Fg.at_ _ _ (by simpa using Ne.symm n3) A.el, eq, Fg.at_ _ _ (by simpa using Ne.symm n5) A.et, ?_⟩
    simp only [Dk.pls, List.nodup_cons, List.mem_cons, List.not_mem_nil, or_false, not_or, List.nodup_nil, and_true]
    refine ⟨⟨n1, n2, n3, by omega, n5⟩, ⟨n6, n7, by omega, n9⟩, ⟨n10, by omega, n12⟩, ⟨by omega, n14⟩, by omega, by simp⟩
  clear hg
  have nb := B.nd
  simp only [Dk.pls, List.nodup_cons, List.mem_cons, List.not_mem_nil, or_false, not_or, List.nodup_nil, and_true] at nb
  obtain ⟨⟨m1, m2, m3, m4, m5⟩, ⟨m6, m7, m8, m9⟩, ⟨m10, m11, m12⟩, ⟨m13, m14⟩, m15, _⟩ := nb
  simp [-v_fldS, s_t (at_app (u := .dK []) e1)]
  have F2 : Fr [d.o] g ((g ++ [O.dK []]).set d.o (Do d.z d.p d.f d.l h.length g.length d.on d.lim d.w d.r d.fl d.rs)) := (Fr.cat _).trans (Fr.set _ (by simp))
  have lo := at_lt B.eo
  have lp := at_lt B.ep
  have lf := at_lt B.ef
  have ll := at_lt B.el
  have lq := at_lt B.eq
  refine K _ h.length g.length (by omega) (by omega) ⟨at_set (at_app e1), F2.at_ _ _ (by simpa using Ne.symm m1) B.ep, F2.at_ _ _ (by simpa using Ne.symm m2) B.ef, F2.at_ _ _ (by simpa using Ne.symm m3) B.el, F2.at_ _ _ (by simpa using Ne.symm m4) B.eq, ?_, ?_⟩ (Fg.trans F2)
  · exact at_setN (by simp) (by show d.o ≠ g.length; have : d.o < g.length := lo; omega)
  · simp only [Dk.pls, List.nodup_cons, List.mem_cons, List.not_mem_nil, or_false, not_or, List.nodup_nil, and_true]
    have lo : d.o < g.length := lo
    have lp : d.p < g.length := lp
    have lf : d.f < g.length := lf
    have ll : d.l < g.length := ll
    refine ⟨⟨m1, m2, m3, m4, by omega⟩, ⟨m6, m7, m8, by omega⟩, ⟨m10, m11, by omega⟩, ⟨m13, by omega⟩, by omega, by simp⟩
noncomputable def bF : MS := (mSeq (mFor (mIter (m1 (fFld xCt "_queue") (mVar 0))) (gTp 2 (gCons' (gN 1) (gCons' (gN 2) gNil')))
  (mDo (mMeth "Disk" "_land" 4 m_Disk__land (mVar 0) (mCons (mVar 1) (mCons (mVar 2) (mCons (mC (.int 255)) mNil))))))
  (mSeq (mDo (mMeth "Disk" "_empty_queue" 1 m_Disk__empty_queue (mVar 0) mNil))
  (mFldA xCt "_flushes" (fun i j => i + j) (mVar 0) (mC (.int 1)))))
theorem flush_b {nx : En → M → Prop} {rt : D → M → Prop} {bk ct : En → M → Prop} {ex : Str → List Str → List D → En → M → Prop} (A : DkAt h d) (r1 : d.pl.length + d.qu.length < 16777216) (r2 : d.fo.length + d.qu.length < 16777216)
    (K : ∀ e h' q t, h.length ≤ q → h.length ≤ t → DkAt h' (flushed d q t) → Fr d.pls h h' → nx e h') : @Ws (bF [.va (.loc d.o), .no, .no] h) ⟨nx, rt, bk, ct, ex⟩ := by
  unfold bF
  rw [ws_seq]
  refine Ws.cut (fun e h' => Fr [d.p, d.f, d.l] h h' ∧ DkAt h' (landed d d.qu) ∧ ∃ s1 s2, e = [.va (.loc d.o), s1, s2]) ?_ ?_
  · simp [-v_fld, g_q A.eo, A.eq]
    refine floop_map (f := qD) (fun p e h' => Fr [d.p, d.f, d.l] h h' ∧ DkAt h' (landed d p) ∧ ∃ s1 s2, e = [.va (.loc d.o), s1, s2]) ⟨.refl _ _, A, .no, .no, rfl⟩ ?_ ?_ ?_
    · rintro p e h' _ ⟨F, B, _⟩
      have := B.eq
      rw [(landed_kept d p).2.2.2.2.1, (landed_kept d p).2.2.2.2.2.2.2.1] at this
      exact lstOf_at this
    · rintro p x q e h' hx ⟨F, B, s1, s2, rfl⟩
      have kp := landed_kept d p
      have ll := landed_len d p
      have hlen : p.length < d.qu.length := by have := congrArg List.length hx; simp at this; omega
      have eo := B.eo
      rw [kp.1] at eo
      simp [-v_hasM, qD, m__land eo]
      have LL := land (X := fun x ns vs h => False) (Q := fun v h'' => Fr [d.p, d.f, d.l] h h'' ∧ DkAt h'' (landed d (p ++ [x])) ∧ ∃ s1 s2, [.va (.loc d.o), Sl.va (.int x.a), Sl.va (.tup (x.ws.map .int))] = [.va (.loc d.o), s1, s2]) B (by omega) (by omega) x (fun h'' B2 F2 => by
        rw [kp.2.1, kp.2.2.1, kp.2.2.2.1] at F2
        exact ⟨F.trans F2, by rw [landed_snoc]; exact B2, _, _, rfl⟩)
      rw [kp.1] at LL
      exact Wc.mono LL (fun v h z => by simpa using z) fun _ _ _ _ z => z.elim
    · rintro e h' ⟨F, B, hs⟩
      exact ⟨F, B, hs⟩
  rintro _ h1 ⟨F, B, s1, s2, rfl⟩
  obtain ⟨k1, k2, k3, k4, k5, k6, k7, k8, k9, k10, k11, k12, k13, k14, k15⟩ := landed_kept d d.qu
  have eo := B.eo
  rw [k1] at eo
  simp [-v_hasM, -v_fldA, -v_clsAt, -v_fld, m__empty_queue eo]
  have LL := empty_queue (X := fun x ns vs h => False) (Q := fun v h'' => ∃ q t, h1.length ≤ q ∧ h1.length ≤ t ∧ DkAt h'' { landed d d.qu with q := q, t := t, qu := [], la := [] } ∧ Fr [d.o] h1 h'') B (fun h'' q t b1 b2 B2 F2 => ⟨q, t, b1, b2, B2, by rw [k1] at F2; exact F2⟩)
  rw [k1] at LL
  refine Wc.mono LL (fun v h2 z => ?_) fun _ _ _ _ z => z.elim
  obtain ⟨q, t, b1, b2, B2, F2⟩ := z
  have eo2 := B2.eo
  have e1 : (landed d d.qu).o = d.o := k1
  have eo2 : h2[d.o]? = some (Do (landed d d.qu).z (landed d d.qu).p (landed d d.qu).f (landed d d.qu).l q t (landed d d.qu).on (landed d d.qu).lim (landed d d.qu).w (landed d d.qu).r (landed d d.qu).fl (landed d d.qu).rs) := by rw [← e1]; exact eo2
  have nd := B2.nd
  simp only [Dk.pls, List.nodup_cons, List.mem_cons, List.not_mem_nil, or_false, not_or, List.nodup_nil, and_true] at nd
  obtain ⟨⟨n1, n2, n3, n4, n5⟩, _⟩ := nd
  rw [k1] at n1 n2 n3 n4 n5
  simp [-v_hasM, -v_fldA, -v_clsAt, -v_fld, g_fl eo2, c_at eo2, a_fl eo2]
  have hlen := F.len
  have hlen2 := F2.len
  have F3 : Fr [d.o] h2 (h2.set d.o (Do (landed d d.qu).z (landed d d.qu).p (landed d d.qu).f (landed d d.qu).l q t (landed d d.qu).on (landed d d.qu).lim (landed d d.qu).w (landed d d.qu).r ((landed d d.qu).fl + 1) (landed d d.qu).rs)) := Fr.set _ (by simp)
  refine K _ _ q t (by omega) (by omega) ⟨?_, F3.at_ _ _ (by rw [List.mem_singleton]; exact Ne.symm n1) B2.ep, F3.at_ _ _ (by rw [List.mem_singleton]; exact Ne.symm n2) B2.ef, F3.at_ _ _ (by rw [List.mem_singleton]; exact Ne.symm n3) B2.el, F3.at_ _ _ (by rw [List.mem_singleton]; exact Ne.symm n4) B2.eq, F3.at_ _ _ (by rw [List.mem_singleton]; exact Ne.symm n5) B2.et, B2.nd⟩ ?_
  · show _[(landed d d.qu).o]? = _
    rw [k1]
    have := at_set (u := (Do (landed d d.qu).z (landed d d.qu).p (landed d d.qu).f (landed d d.qu).l q t (landed d d.qu).on (landed d d.qu).lim (landed d d.qu).w (landed d d.qu).r ((landed d d.qu).fl + 1) (landed d d.qu).rs)) eo2
    rw [this]
    simp only [flushed, k14]
  · have c1 : Fr [d.p, d.f, d.l] h h1 := F
    exact ((F.mono (by simp [Dk.pls])).trans (F2.mono (by simp [Dk.pls]))).trans (F3.mono (by simp [Dk.pls]))
theorem flush {L : Int} (A : DkAt h d) (hon : d.on = true) (hl : d.lim = limD L) (hk : L = -1 ∨ 0 < L) (r1 : d.pl.length + d.qu.length < 16777216) (r2 : d.fo.length + d.qu.length < 16777216)
    (K : ∀ h' q t, h.length ≤ q → h.length ≤ t → DkAt h' (flushed { d with lim := limD (if L = -1 then -1 else L - 1) } q t) → Fr d.pls h h' → Q .non h') : @Wc D (m_Disk_flush [.loc d.o] h) ⟨Q, X⟩ := by
  unfold m_Disk_flush; rw [wp_fn]; unfold b_Disk_flush
  rw [ws_seq]
  refine Ws.cut (fun e h' => DkAt h' { d with lim := limD (if L = -1 then -1 else L - 1) } ∧ Fr [d.o] h h' ∧ e = [.va (.loc d.o), .no, .no]) ?_ ?_
  · simp [-v_hasM, m__take_step A.eo]
    refine step_ok A hon hl hk fun h1 A1 F1 => ?_
    simp
    exact ⟨A1, F1⟩
  rintro _ h0 ⟨A0, F0, rfl⟩
  exact flush_b (d := { d with lim := limD (if L = -1 then -1 else L - 1) }) A0 r1 r2 fun e h' q t l1 l2 A' F' => K h' q t (Nat.le_trans F0.len l1) (Nat.le_trans F0.len l2) A' ((F0.mono (by simp [Dk.pls])).trans F')
theorem flush_no {L : Int} (A : DkAt h d) (hl : d.lim = limD L) (hk : d.on = false ∨ L = 0) (K : ∀ h', DkAt h' { d with on := false } → Fr [d.o] h h' → X "PowerLost" [] [] h') : @Wc D (m_Disk_flush [.loc d.o] h) ⟨Q, X⟩ := by
  unfold m_Disk_flush; rw [wp_fn]; unfold b_Disk_flush
  simp [-v_fld, -v_hasM, m__take_step A.eo]
  exact step_no A hl hk K
end
end K06
set_option Elab.async false
set_option linter.all false
set_option maxRecDepth 100000
set_option maxHeartbeats 1000000
namespace K06
open PySem L2 LF NW
/-- a disk in new places behind the first n -/
def fresh (n : Nat) (z : Int) : Dk := ⟨n, n + 1, n + 2, n + 3, n + 4, n + 5, z, [], [], [], [], [], true, .non, 0, 0, 0, 0⟩
def twinD (n : Nat) (d : Dk) : Dk := { d with o := n, p := n + 6, f := n + 7, l := n + 8, q := n + 9, t := n + 10 }
section
variable {h : M} {d : Dk} {a z : Int} {Q : D → M → Prop} {X : XP}
theorem init (K : Q .non (h ++ [Do z (h.length + 1) (h.length + 2) (h.length + 3) (h.length + 4) (h.length + 5) true .non 0 0 0 0, .dK [], .dK [], .dK [], .lst [], .dK []])) : @Wc D (m_Disk___init__ [.loc h.length, .int z] (h ++ [.ins "Disk" []])) ⟨Q, X⟩ := by
  unfold m_Disk___init__; rw [wp_fn]; unfold b_Disk___init__
  simp [-v_fldS, size24, n_z, n_p, n_f, n_l, n_q, n_t, n_on, n_lim, n_w, n_r, n_fl, n_rs]
  exact K
theorem fresh_at (os : M) : DkAt (h ++ (Do z (h.length + 1) (h.length + 2) (h.length + 3) (h.length + 4) (h.length + 5) true .non 0 0 0 0 :: .dK [] :: .dK [] :: .dK [] :: .lst [] :: .dK [] :: os)) (fresh h.length z) := by
  refine ⟨by simp [fresh], by simp [fresh], by simp [fresh], by simp [fresh], by simp [fresh], by simp [fresh], ?_⟩
  simp [fresh, Dk.pls]
theorem twin (A : DkAt h d) (K : Q (.loc h.length) (h ++ [Do d.z (h.length + 6) (h.length + 7) (h.length + 8) (h.length + 9) (h.length + 10) d.on d.lim d.w d.r d.fl d.rs, .dK [], .dK [], .dK [], .lst [], .dK [], .dK d.pl, .dK d.fo, .dK d.lo, .lst (d.qu.map qD), .dK d.la])) : @Wc D (m_Disk_twin [.loc d.o] h) ⟨Q, X⟩ := by
  unfold m_Disk_twin; rw [wp_fn]; unfold b_Disk_twin
  have B := fun os : M => A.fr0 (.cat os)
  rw [ws_seq]
  refine Ws.cut (fun e h' => h' = h ++ [Do d.z (h.length + 1) (h.length + 2) (h.length + 3) (h.length + 4) (h.length + 5) true .non 0 0 0 0, .dK [], .dK [], .dK [], .lst [], .dK []] ∧ e = [.va (.loc d.o), .va (.loc h.length)]) ?_ ?_
  · simp [-v_fld, g_z A.eo]
    refine init ?_
    simp
  rintro _ _ ⟨rfl, rfl⟩
  simp [-v_fld, -v_fldS, g_p (B _).eo, (B _).ep, sc_p, g_f (B _).eo, (B _).ef, sc_f, g_l (B _).eo, (B _).el, sc_l, g_q (B _).eo, (B _).eq, sc_q, g_t (B _).eo, (B _).et, sc_t, g_on (B _).eo, sc_on, g_lim (B _).eo, sc_lim, g_w (B _).eo, sc_w, g_r (B _).eo, sc_r, g_fl (B _).eo, sc_fl, g_rs (B _).eo, sc_rs]
  exact K
theorem twin_at {d : Dk} (os : M) : DkAt (h ++ (Do d.z (h.length + 6) (h.length + 7) (h.length + 8) (h.length + 9) (h.length + 10) d.on d.lim d.w d.r d.fl d.rs :: .dK [] :: .dK [] :: .dK [] :: .lst [] :: .dK [] :: .dK d.pl :: .dK d.fo :: .dK d.lo :: .lst (d.qu.map qD) :: .dK d.la :: os)) (twinD h.length d) := by
  refine ⟨by simp [twinD], by simp [twinD], by simp [twinD], by simp [twinD], by simp [twinD], by simp [twinD], ?_⟩
  simp [twinD, Dk.pls]
theorem pending (A : DkAt h d) (hz : d.qu.length < 1000000) (K : Q (.loc h.length) (h ++ .lst (pend (h.length + 1) d.qu) :: d.qu.map fun e => .lst (e.ws.map .int))) : @Wc D (m_Disk_pending [.loc d.o] h) ⟨Q, X⟩ := by
  unfold m_Disk_pending; rw [wp_fn]; unfold b_Disk_pending
  simp [-v_fld, g_q A.eo, A.eq]
  refine lcloop_map (f := qD) (fun p acc h' => h' = h ++ .lst acc :: (p.map fun e => O.lst (e.ws.map D.int)) ∧ acc = pend (h.length + 1) p) ⟨rfl, rfl⟩ ?_ ?_ ?_
  · rintro p acc h' _ ⟨rfl, rfl⟩
    exact lstOf_at (by rw [cat_old (at_lt A.eq)]; exact A.eq)
  · rintro p x q acc h' hx ⟨rfl, rfl⟩
    have hlen : p.length < d.qu.length := by have := congrArg List.length hx; simp at this; omega
    have e1 : (fList [.tup (x.ws.map D.int)] (h ++ .lst (pend (h.length + 1) p) :: (p.map fun e => O.lst (e.ws.map D.int)))) = _ := fl1 (.inl rfl)
    simp [qD, e1, size24, pend_len, pend_snoc]
    omega
  · rintro acc h' ⟨rfl, rfl⟩
    exact K
theorem p_size (A : DkAt h d) (K : Q (.int d.z) h) : @Wc D (m_Disk_size [.loc d.o] h) ⟨Q, X⟩ := by
  unfold m_Disk_size; rw [wp_fn]; unfold b_Disk_size
  simp [-v_fld, g_z A.eo]; exact K
theorem p_queued (A : DkAt h d) (K : Q (.int d.qu.length) h) : @Wc D (m_Disk_queued [.loc d.o] h) ⟨Q, X⟩ := by
  unfold m_Disk_queued; rw [wp_fn]; unfold b_Disk_queued
  simp [-v_fld, g_q A.eo, A.eq]; exact K
theorem p_on (A : DkAt h d) (K : Q (.bl d.on) h) : @Wc D (m_Disk_is_on [.loc d.o] h) ⟨Q, X⟩ := by
  unfold m_Disk_is_on; rw [wp_fn]; unfold b_Disk_is_on
  simp [-v_fld, g_on A.eo]; exact K
theorem p_w (A : DkAt h d) (K : Q (.int d.w) h) : @Wc D (m_Disk_write_count [.loc d.o] h) ⟨Q, X⟩ := by
  unfold m_Disk_write_count; rw [wp_fn]; unfold b_Disk_write_count
  simp [-v_fld, g_w A.eo]; exact K
theorem p_r (A : DkAt h d) (K : Q (.int d.r) h) : @Wc D (m_Disk_read_count [.loc d.o] h) ⟨Q, X⟩ := by
  unfold m_Disk_read_count; rw [wp_fn]; unfold b_Disk_read_count
  simp [-v_fld, g_r A.eo]; exact K
theorem p_fl (A : DkAt h d) (K : Q (.int d.fl) h) : @Wc D (m_Disk_flush_count [.loc d.o] h) ⟨Q, X⟩ := by
  unfold m_Disk_flush_count; rw [wp_fn]; unfold b_Disk_flush_count
  simp [-v_fld, g_fl A.eo]; exact K
theorem p_rs (A : DkAt h d) (K : Q (.int d.rs) h) : @Wc D (m_Disk_restart_count [.loc d.o] h) ⟨Q, X⟩ := by
  unfold m_Disk_restart_count; rw [wp_fn]; unfold b_Disk_restart_count
  simp [-v_fld, g_rs A.eo]; exact K
end
end K06
set_option Elab.async false
set_option linter.all false
set_option maxRecDepth 100000
set_option maxHeartbeats 1000000
namespace K06
open PySem L2 LF NW
def lD (p : Nat × Ent) : D := .tup [.int p.1, .int 255]
/-- a disk behind a restart -/
def again (d : Dk) (es : List Ent) (q t : Nat) : Dk := { landed d es with qu := [], la := [], q := q, t := t, on := true, lim := .non, rs := d.rs + 1 }
section
variable {h : M} {d : Dk} {a : Int} {Q : D → M → Prop} {X : XP}
theorem restart {x : Nat} {ps : List (Nat × Ent)} (A : DkAt h d) (ex : h[x]? = some (.lst (ps.map lD))) (hx : x ∉ d.pls) (hq : ∀ p ∈ ps, d.qu[p.1]? = some p.2) (nd : (ps.map (·.1)).Nodup) (hl : ps.length < 1000000)
    (r1 : d.pl.length + ps.length < 16777216) (r2 : d.fo.length + ps.length < 16777216) (K : ∀ h' q t, h.length ≤ q → h.length ≤ t → DkAt h' (again d (ps.map (·.2)) q t) → Fr d.pls h h' → Q .non h') : @Wc D (m_Disk_restart [.loc d.o, .loc x] h) ⟨Q, X⟩ := by
  unfold m_Disk_restart; rw [wp_fn]; unfold b_Disk_restart
  rw [ws_seq]
  refine Ws.cut (fun e h' => h' = h ++ [.dK []] ∧ e = [.va (.loc d.o), .va (.loc x), .va (.loc h.length), .no, .no, .no, .no]) ?_ ?_
  · simp
  rintro _ _ ⟨rfl, rfl⟩
  have lx := at_lt ex
  rw [ws_seq]
  refine Ws.cut (fun e h' => Fr [] h h' ∧ ∃ s3 s4, e = [.va (.loc d.o), .va (.loc x), .va (.loc h.length), s3, s4, .no, .no]) ?_ ?_
  · have e1 : (h ++ [O.dK []])[x]? = some (.lst (ps.map lD)) := at_app ex
    simp [e1]
    refine floop_map (f := lD) (fun p e h' => Fr [] h h' ∧ (∃ kvs, h'[h.length]? = some (.dK kvs) ∧ kvs.length ≤ p.length ∧ ∀ k : Nat, k ∉ p.map (·.1) → valD kvs (.inl (k : Int)) = none) ∧ ∃ s3 s4, e = [.va (.loc d.o), .va (.loc x), .va (.loc h.length), s3, s4, .no, .no]) ⟨.cat _, ⟨[], by simp, by simp, fun _ _ => rfl⟩, .no, .no, rfl⟩ ?_ ?_ ?_
    · rintro p e h' _ ⟨F, _⟩
      exact lstOf_at (F.at ex)
    · rintro p y q e h' hx ⟨F, ⟨kvs, ek, hkl, hk⟩, s3, s4, rfl⟩
      have hlen : p.length < ps.length := by have := congrArg List.length hx; simp at this; omega
      have hn : y.1 ∉ p.map (·.1) := by
        rw [hx, List.map_append, List.map_cons] at nd
        intro m
        exact (List.nodup_append.mp nd).2.2 _ m _ (by simp) rfl
      have hy : d.qu[y.1]? = some y.2 := hq y (by rw [hx]; simp)
      have hyl : y.1 < d.qu.length := (List.getElem?_eq_some_iff.mp hy).1
      have eo := F.at A.eo
      have eq := F.at A.eq
      have n1 : ¬ d.qu.length ≤ y.1 := by omega
      simp [-v_fld, lD, d_in ek, hk _ hn, g_q eo, eq, n1, d_put ek (show kvs.length < sizeLine by rw [size24]; omega)]
      refine ⟨((F.mono (S' := [h.length]) (by simp)).trans (Fr.set _ (by simp))).cut (by simp), ⟨_, at_set ek, ?_, ?_⟩⟩
      · have := putD_len (kvs := kvs) (k := (.inl (y.1 : Int) : Key)) (d := .bl true); omega
      · intro k hk1 hk2
        rw [valD_put, if_neg (by simp; omega)]
        exact hk k (by simpa using hk1)
    · rintro e h' ⟨F, _, s3, s4, rfl⟩
      exact ⟨F, s3, s4, rfl⟩
  rintro _ h1 ⟨F1, s3, s4, rfl⟩
  have A1 := A.fr0 F1
  have ex1 := F1.at ex
  rw [ws_seq]
  refine Ws.cut (fun e h' => Fr [d.p, d.f, d.l] h1 h' ∧ DkAt h' (landed d (ps.map (·.2))) ∧ ∃ s3 s4 s5 s6, e = [.va (.loc d.o), .va (.loc x), .va (.loc h.length), s3, s4, s5, s6]) ?_ ?_
  · simp [ex1]
    refine floop_map (f := lD) (fun p e h' => Fr [d.p, d.f, d.l] h1 h' ∧ DkAt h' (landed d (p.map (·.2))) ∧ ∃ s3 s4 s5 s6, e = [.va (.loc d.o), .va (.loc x), .va (.loc h.length), s3, s4, s5, s6]) ⟨.refl _ _, A1, s3, s4, .no, .no, rfl⟩ ?_ ?_ ?_
    · rintro p e h' _ ⟨F, B, _⟩
      simp only [Dk.pls, List.mem_cons, List.not_mem_nil, or_false, not_or] at hx
      exact lstOf_at (F.at_ _ _ (by simp; exact ⟨hx.2.1, hx.2.2.1, hx.2.2.2.1⟩) ex1)
    · rintro p y q e h' hxx ⟨F, B, s3, s4, s5, s6, rfl⟩
      have kp := landed_kept d (p.map (·.2))
      have ll := landed_len d (p.map (·.2))
      rw [List.length_map] at ll
      have hlen : p.length < ps.length := by have := congrArg List.length hxx; simp at this; omega
      have hy : d.qu[y.1]? = some y.2 := hq y (by rw [hxx]; simp)
      have eo := B.eo
      rw [kp.1] at eo
      have eq := B.eq
      rw [kp.2.2.2.2.2.2.2.1] at eq
      have iq : atI (d.qu.map qD) (y.1 : Int) = some (qD y.2) := by rw [atI_n, List.getElem?_map, hy]; rfl
      simp [-v_hasM, -v_fld, lD, g_q eo, eq, iq, qD, m__land eo]
      have LL := land (X := fun x ns vs h => False) (Q := fun v h'' => Fr [d.p, d.f, d.l] h1 h'' ∧ DkAt h'' (landed d ((p ++ [y]).map (·.2)))) B (by omega) (by omega) y.2 (fun h'' B2 F2 => by
        rw [kp.2.1, kp.2.2.1, kp.2.2.2.1] at F2
        refine ⟨F.trans F2, ?_⟩
        rw [List.map_append, List.map_cons, List.map_nil, landed_snoc]; exact B2)
      rw [kp.1] at LL
      exact Wc.mono LL (fun v h z => by simpa using z) fun _ _ _ _ z => z.elim
    · rintro e h' ⟨F, B, hs⟩
      exact ⟨F, B, hs⟩
  rintro _ h2 ⟨F2, B, s3, s4, s5, s6, rfl⟩
  obtain ⟨k1, k2, k3, k4, k5, k6, k7, k8, k9, k10, k11, k12, k13, k14, k15⟩ := landed_kept d (ps.map (·.2))
  have lp := landed_len d (ps.map (·.2))
  unfold again at K
  generalize hD : landed d (ps.map (·.2)) = D1 at *
  have eo := B.eo
  rw [k1] at eo
  rw [ws_seq]
  refine Ws.cut (fun e h' => ∃ q t, h2.length ≤ q ∧ h2.length ≤ t ∧ DkAt h' { D1 with q := q, t := t, qu := [], la := [] } ∧ Fr [d.o] h2 h' ∧ e = [.va (.loc d.o), .va (.loc x), .va (.loc h.length), s3, s4, s5, s6]) ?_ ?_
  · simp [-v_hasM, m__empty_queue eo]
    have LL := empty_queue (X := fun _ _ _ _ => False) (Q := fun v h'' => ∃ q t, h2.length ≤ q ∧ h2.length ≤ t ∧ DkAt h'' { D1 with q := q, t := t, qu := [], la := [] } ∧ Fr [d.o] h2 h'') B (fun h'' q t b1 b2 B2 F2 => ⟨q, t, b1, b2, B2, by rw [k1] at F2; exact F2⟩)
    rw [k1] at LL
    exact Wc.mono LL (fun v h z => by simpa [k1] using z) fun _ _ _ _ z => z.elim
  rintro _ h3 ⟨q, t, b1, b2, A3, F3, rfl⟩
  have nd3 := A3.nd
  simp only [Dk.pls, List.nodup_cons, List.mem_cons, List.not_mem_nil, or_false, not_or, List.nodup_nil, and_true] at nd3
  obtain ⟨⟨n1, n2, n3, n4, n5⟩, _⟩ := nd3
  rw [k1] at n1 n2 n3 n4 n5
  have e3 : h3[d.o]? = some (Do D1.z D1.p D1.f D1.l q t D1.on D1.lim D1.w D1.r D1.fl D1.rs) := by have := A3.eo; rw [← k1]; exact this
  have e4 := at_set (u := Do D1.z D1.p D1.f D1.l q t true D1.lim D1.w D1.r D1.fl D1.rs) e3
  have e5 := at_set (u := Do D1.z D1.p D1.f D1.l q t true .non D1.w D1.r D1.fl D1.rs) e3
  simp [-v_fldS, -v_fldA, -v_clsAt, -v_fld, s_on e3, s_lim e4, g_rs e5, c_at e5, a_rs e5]
  have F4 : Fr [d.o] h3 (h3.set d.o (Do D1.z D1.p D1.f D1.l q t true .non D1.w D1.r D1.fl (D1.rs + 1))) := Fr.set _ (by simp)
  refine K _ q t (Nat.le_trans F1.len (Nat.le_trans F2.len b1)) (Nat.le_trans F1.len (Nat.le_trans F2.len b2)) ⟨?_, F4.at_ _ _ (by rw [List.mem_singleton]; exact Ne.symm n1) A3.ep, F4.at_ _ _ (by rw [List.mem_singleton]; exact Ne.symm n2) A3.ef, F4.at_ _ _ (by rw [List.mem_singleton]; exact Ne.symm n3) A3.el, F4.at_ _ _ (by rw [List.mem_singleton]; exact Ne.symm n4) A3.eq, F4.at_ _ _ (by rw [List.mem_singleton]; exact Ne.symm n5) A3.et, A3.nd⟩ ?_
  · show _[D1.o]? = _
    rw [k1, at_set e3, k15]
  · exact (((F1.nil).trans (F2.mono (by simp [Dk.pls]))).trans (F3.mono (by simp [Dk.pls]))).trans (F4.mono (by simp [Dk.pls]))
end
end K06
set_option Elab.async false
set_option linter.all false
set_option maxRecDepth 100000
set_option maxHeartbeats 1000000
namespace K06
open PySem L2 LF NW
def StO (v0 : Nat) (v1 : Int) (v2 : Nat) (v3 : Bool) (v4 : Int) (v5 : Nat) (v6 : Int) (v7 : Int) (v8 : Int) (v9 : Int) : O := .dK [(.inr "disk", .loc v0), (.inr "blocks", .int v1), (.inr "queue", .loc v2), (.inr "on", .bl v3), (.inr "left", .int v4), (.inr "shown", .loc v5), (.inr "writes", .int v6), (.inr "flushes", .int v7), (.inr "reads", .int v8), (.inr "restarts", .int v9)]
section
variable {h : M} {l : Nat} {v0 : Nat} {v1 : Int} {v2 : Nat} {v3 : Bool} {v4 : Int} {v5 : Nat} {v6 : Int} {v7 : Int} {v8 : Int} {v9 : Int}
theorem o_disk (e : h[l]? = some (StO v0 v1 v2 v3 v4 v5 v6 v7 v8 v9)) : fIx (.loc l) (.str "disk") h = .ok (.loc v0) h := d_ixS e rfl
theorem u_disk {y : Nat} (e : h[l]? = some (StO v0 v1 v2 v3 v4 v5 v6 v7 v8 v9)) : fPut (.loc l) (.str "disk") (.loc y) h = .ok () (h.set l (StO y v1 v2 v3 v4 v5 v6 v7 v8 v9)) := d_putS e (show 10 < sizeLine by decide)
theorem o_blocks (e : h[l]? = some (StO v0 v1 v2 v3 v4 v5 v6 v7 v8 v9)) : fIx (.loc l) (.str "blocks") h = .ok (.int v1) h := d_ixS e rfl
theorem u_blocks {y : Int} (e : h[l]? = some (StO v0 v1 v2 v3 v4 v5 v6 v7 v8 v9)) : fPut (.loc l) (.str "blocks") (.int y) h = .ok () (h.set l (StO v0 y v2 v3 v4 v5 v6 v7 v8 v9)) := d_putS e (show 10 < sizeLine by decide)
theorem o_queue (e : h[l]? = some (StO v0 v1 v2 v3 v4 v5 v6 v7 v8 v9)) : fIx (.loc l) (.str "queue") h = .ok (.loc v2) h := d_ixS e rfl
theorem u_queue {y : Nat} (e : h[l]? = some (StO v0 v1 v2 v3 v4 v5 v6 v7 v8 v9)) : fPut (.loc l) (.str "queue") (.loc y) h = .ok () (h.set l (StO v0 v1 y v3 v4 v5 v6 v7 v8 v9)) := d_putS e (show 10 < sizeLine by decide)
theorem o_on (e : h[l]? = some (StO v0 v1 v2 v3 v4 v5 v6 v7 v8 v9)) : fIx (.loc l) (.str "on") h = .ok (.bl v3) h := d_ixS e rfl
theorem u_on {y : Bool} (e : h[l]? = some (StO v0 v1 v2 v3 v4 v5 v6 v7 v8 v9)) : fPut (.loc l) (.str "on") (.bl y) h = .ok () (h.set l (StO v0 v1 v2 y v4 v5 v6 v7 v8 v9)) := d_putS e (show 10 < sizeLine by decide)
theorem o_left (e : h[l]? = some (StO v0 v1 v2 v3 v4 v5 v6 v7 v8 v9)) : fIx (.loc l) (.str "left") h = .ok (.int v4) h := d_ixS e rfl
theorem u_left {y : Int} (e : h[l]? = some (StO v0 v1 v2 v3 v4 v5 v6 v7 v8 v9)) : fPut (.loc l) (.str "left") (.int y) h = .ok () (h.set l (StO v0 v1 v2 v3 y v5 v6 v7 v8 v9)) := d_putS e (show 10 < sizeLine by decide)
theorem o_shown (e : h[l]? = some (StO v0 v1 v2 v3 v4 v5 v6 v7 v8 v9)) : fIx (.loc l) (.str "shown") h = .ok (.loc v5) h := d_ixS e rfl
theorem u_shown {y : Nat} (e : h[l]? = some (StO v0 v1 v2 v3 v4 v5 v6 v7 v8 v9)) : fPut (.loc l) (.str "shown") (.loc y) h = .ok () (h.set l (StO v0 v1 v2 v3 v4 y v6 v7 v8 v9)) := d_putS e (show 10 < sizeLine by decide)
theorem o_writes (e : h[l]? = some (StO v0 v1 v2 v3 v4 v5 v6 v7 v8 v9)) : fIx (.loc l) (.str "writes") h = .ok (.int v6) h := d_ixS e rfl
theorem u_writes {y : Int} (e : h[l]? = some (StO v0 v1 v2 v3 v4 v5 v6 v7 v8 v9)) : fPut (.loc l) (.str "writes") (.int y) h = .ok () (h.set l (StO v0 v1 v2 v3 v4 v5 y v7 v8 v9)) := d_putS e (show 10 < sizeLine by decide)
theorem o_flushes (e : h[l]? = some (StO v0 v1 v2 v3 v4 v5 v6 v7 v8 v9)) : fIx (.loc l) (.str "flushes") h = .ok (.int v7) h := d_ixS e rfl
theorem u_flushes {y : Int} (e : h[l]? = some (StO v0 v1 v2 v3 v4 v5 v6 v7 v8 v9)) : fPut (.loc l) (.str "flushes") (.int y) h = .ok () (h.set l (StO v0 v1 v2 v3 v4 v5 v6 y v8 v9)) := d_putS e (show 10 < sizeLine by decide)
theorem o_reads (e : h[l]? = some (StO v0 v1 v2 v3 v4 v5 v6 v7 v8 v9)) : fIx (.loc l) (.str "reads") h = .ok (.int v8) h := d_ixS e rfl
theorem u_reads {y : Int} (e : h[l]? = some (StO v0 v1 v2 v3 v4 v5 v6 v7 v8 v9)) : fPut (.loc l) (.str "reads") (.int y) h = .ok () (h.set l (StO v0 v1 v2 v3 v4 v5 v6 v7 y v9)) := d_putS e (show 10 < sizeLine by decide)
theorem o_restarts (e : h[l]? = some (StO v0 v1 v2 v3 v4 v5 v6 v7 v8 v9)) : fIx (.loc l) (.str "restarts") h = .ok (.int v9) h := d_ixS e rfl
theorem u_restarts {y : Int} (e : h[l]? = some (StO v0 v1 v2 v3 v4 v5 v6 v7 v8 v9)) : fPut (.loc l) (.str "restarts") (.int y) h = .ok () (h.set l (StO v0 v1 v2 v3 v4 v5 v6 v7 v8 y)) := d_putS e (show 10 < sizeLine by decide)
end
structure Seat where
  d : Dk
  p : Nat
  q : Nat
  v : Nat
  qu : List Ent
  sh : List Ent
  on : Bool
  left : Int
  w : Int
  f : Int
  r : Int
  rs : Int
def Seat.pls (s : Seat) : List Nat := s.p :: s.q :: s.v :: s.d.pls
def Seat.ob (s : Seat) : O := StO s.d.o s.d.z s.q s.on s.left s.v s.w s.f s.r s.rs
def tupW (e : Ent) : D := .tup (e.ws.map .int)
def kD (e : Ent) : D := .loc e.k
structure Sem (n : Nat) (s : Seat) : Prop where
  z0 : 8 ≤ s.d.z
  z1 : s.d.z ≤ 13
  on : s.d.on = s.on
  lim : s.d.lim = limD s.left
  l0 : -1 ≤ s.left
  lo : s.d.lo = []
  qu : s.d.qu = s.qu
  ent : ∀ e ∈ s.qu, 0 ≤ e.a ∧ e.a < s.d.z ∧ e.ws.length = 48
  sl : (s.sh.length : Int) = s.d.z
  sw : ∀ e ∈ s.sh, e.ws.length = 48
  la : ∀ a : Int, 0 ≤ a → valD s.d.la (.inl a) = (lastE s.qu a).map tupW
  pl : ∀ (a : Nat) (e : Ent), s.sh[a]? = some e → W1 ((valD s.d.pl (.inl (a : Int))).getD ZW) e.ws
  w : s.d.w = s.w
  r : s.d.r = s.r
  f : s.d.fl = s.f
  rs : s.d.rs = s.rs
  b1 : s.d.pl.length + s.qu.length ≤ n
  b2 : s.d.fo.length + s.qu.length ≤ n
  b3 : s.d.la.length ≤ s.qu.length
theorem Sem.mono {n n' : Nat} {s : Seat} (S : Sem n s) (h : n ≤ n') : Sem n' s :=
  ⟨S.z0, S.z1, S.on, S.lim, S.l0, S.lo, S.qu, S.ent, S.sl, S.sw, S.la, S.pl, S.w, S.r, S.f, S.rs, Nat.le_trans S.b1 h, Nat.le_trans S.b2 h, S.b3⟩
structure SeatAt (τ : Nat → Nat) (h : M) (n i : Nat) (s : Seat) : Prop where
  A : DkAt h s.d
  ep : h[s.p]? = some (StO s.d.o s.d.z s.q s.on s.left s.v s.w s.f s.r s.rs)
  eq : h[s.q]? = some (.lst (s.qu.map dE))
  ev : h[s.v]? = some (.lst (s.sh.map kD))
  tg : ∀ x ∈ s.pls, τ x = i + 3
  nd : s.pls.Nodup
  im : ∀ e, e ∈ s.qu ∨ e ∈ s.sh → τ e.k = 0 ∧ h[e.k]? = some (.lst (e.ws.map .int))
  sm : Sem n s
theorem DkAt.lt {h : M} {d : Dk} (A : DkAt h d) : ∀ x ∈ d.pls, x < h.length := by
  intro x hx
  simp only [Dk.pls, List.mem_cons, List.not_mem_nil, or_false] at hx
  rcases hx with rfl | rfl | rfl | rfl | rfl | rfl
  · exact at_lt A.eo
  · exact at_lt A.ep
  · exact at_lt A.ef
  · exact at_lt A.el
  · exact at_lt A.eq
  · exact at_lt A.et
section
variable {h h' : M} {τ τ' : Nat → Nat} {B b c : Nat} {m m' : Int} {n n' : Nat} {ss : List Seat} {i : Nat} {s s' : Seat} {S : List Nat}
theorem SeatAt.lt (A : SeatAt τ h n i s) : ∀ x ∈ s.pls, x < h.length := by
  intro x hx
  simp only [Seat.pls, List.mem_cons] at hx
  rcases hx with rfl | rfl | rfl | hx
  · exact at_lt A.ep
  · exact at_lt A.eq
  · exact at_lt A.ev
  · exact A.A.lt x hx
theorem SeatAt.fr (A : SeatAt τ h n i s) (F : Fr S h h') (hS : ∀ x ∈ S, x < h.length → τ x ≠ i + 3 ∧ τ x ≠ 0) (ag : ∀ x, x < h.length → τ' x = τ x) (hn : n ≤ n') : SeatAt τ' h' n' i s := by
  have k : ∀ {x : Nat} {o : O}, h[x]? = some o → (τ x = i + 3 ∨ τ x = 0) → h'[x]? = some o := fun {x o} e t => F.at_ _ _ (fun m => by
    have := hS x m (at_lt e); rcases t with t | t
    · exact this.1 t
    · exact this.2 t) e
  have hd : ∀ x ∈ s.d.pls, x ∈ s.pls := fun x hx => by simp [Seat.pls, hx]
  refine ⟨A.A.fr F fun x hx m => (hS x m (A.A.lt x hx)).1 (A.tg x (hd x hx)), k A.ep (.inl (A.tg _ (by simp [Seat.pls]))), k A.eq (.inl (A.tg _ (by simp [Seat.pls]))), k A.ev (.inl (A.tg _ (by simp [Seat.pls]))), fun x hx => by rw [ag x (A.lt x hx)]; exact A.tg x hx, A.nd, fun e he => ?_, A.sm.mono hn⟩
  obtain ⟨h1, h2⟩ := A.im e he
  exact ⟨by rw [ag _ (at_lt h2)]; exact h1, k h2 (.inr h1)⟩
structure Wld (h : M) (τ : Nat → Nat) (B b c : Nat) (m : Int) (n : Nat) (ss : List Seat) : Prop where
  pot : Pot h b c m
  tb : τ b = 2
  tc : τ c = 0
  e1 : h[B]? = some (.lst (ss.map fun s => .loc s.p))
  t1 : τ B = 1
  ea : ∀ (i : Nat) (s : Seat), ss[i]? = some s → SeatAt τ h n i s
  hs : ss.length ≤ 3
theorem Wld.lts (W : Wld h τ B b c m n ss) : b < h.length ∧ c < h.length := by
  obtain ⟨_, _, _, _, _, _, e1, e2, _⟩ := W.pot
  exact ⟨at_lt e1, at_lt e2⟩
theorem Wld.bag (W : Wld h τ B b c m n ss) (F : Fr S h h') (hS : ∀ x ∈ S, x < h.length → τ x = 2) (P : Pot h' b c m') (ag : ∀ x, x < h.length → τ' x = τ x) (hn : n ≤ n') : Wld h' τ' B b c m' n' ss :=
  ⟨P, by rw [ag _ W.lts.1]; exact W.tb, by rw [ag _ W.lts.2]; exact W.tc, F.at_ _ _ (fun m => by have := hS _ m (at_lt W.e1); have := W.t1; omega) W.e1, by rw [ag _ (at_lt W.e1)]; exact W.t1, fun i s e => (W.ea i s e).fr F (fun x hx hl => by rw [hS x hx hl]; omega) ag hn, W.hs⟩
theorem Wld.fr0 (W : Wld h τ B b c m n ss) (F : Fr [] h h') : Wld h' τ B b c m n ss := W.bag F (by simp) (W.pot.fr F (by simp) (by simp)) (fun _ _ => rfl) (Nat.le_refl _)
theorem Wld.tag (W : Wld h τ B b c m n ss) (ag : ∀ x, x < h.length → τ' x = τ x) : Wld h τ' B b c m n ss := W.bag (.refl [] _) (by simp) W.pot ag (Nat.le_refl _)
theorem Wld.more (W : Wld h τ B b c m n ss) (hm : m ≤ m') (hn : n ≤ n') : Wld h τ B b c m' n' ss := W.bag (.refl [] _) (by simp) (W.pot.le hm) (fun _ _ => rfl) hn
theorem Wld.junk (W : Wld h τ B b c m n ss) (F : Fr S h h') (hS : ∀ x ∈ S, τ x = 2 ∧ x ≠ b) : Wld h' τ B b c m n ss :=
  W.bag F (fun x hx _ => (hS x hx).1) (W.pot.fr F (fun z => (hS b z).2 rfl) (fun z => by have := (hS c z).1; rw [W.tc] at this; omega)) (fun _ _ => rfl) (Nat.le_refl _)
theorem map_set_same {α β : Type} {f : α → β} {xs : List α} {i : Nat} {x y : α} (e : xs[i]? = some x) (hf : f y = f x) : (xs.set i y).map f = xs.map f := by
  apply List.ext_getElem?
  intro j
  simp only [List.getElem?_map, List.getElem?_set]
  split
  · subst_vars
    split
    · rw [e]; simp [hf]
    · rename_i hh; rw [List.getElem?_eq_none (by omega)]
  · rfl
/-- one seat's turn: S what was changed, N new places that stay -/
theorem Wld.turn (W : Wld h τ B b c m n ss) (hi : ss[i]? = some s) (F : Fr S h h') (hS : ∀ x ∈ S, x < h.length → x ∈ s.pls ∨ x = b) (P : Pot h' b c m') (N : List Nat)
    (A : DkAt h' s'.d) (ep : h'[s'.p]? = some (StO s'.d.o s'.d.z s'.q s'.on s'.left s'.v s'.w s'.f s'.r s'.rs)) (eq : h'[s'.q]? = some (.lst (s'.qu.map dE))) (ev : h'[s'.v]? = some (.lst (s'.sh.map kD)))
    (hpl : ∀ x ∈ s'.pls, x ∈ s.pls ∨ (h.length ≤ x ∧ x ∉ N)) (nd : s'.pls.Nodup) (im : ∀ e, e ∈ s'.qu ∨ e ∈ s'.sh → (e ∈ s.qu ∨ e ∈ s.sh) ∨ (e.k ∈ N ∧ h.length ≤ e.k ∧ h'[e.k]? = some (.lst (e.ws.map .int)))) (sm : Sem n' s') (hp : s'.p = s.p) (hn : n ≤ n') :
    Wld h' (fun x => if x < h.length then τ x else if x ∈ N then 0 else i + 3) B b c m' n' (ss.set i s') := by
  have SA := W.ea i s hi
  have ag : ∀ x, x < h.length → (fun x => if x < h.length then τ x else if x ∈ N then 0 else i + 3) x = τ x := fun x hx => by show (if x < h.length then _ else _) = _; rw [if_pos hx]
  have tb := W.tb
  have tS : ∀ x ∈ S, x < h.length → τ x = i + 3 ∨ τ x = 2 := fun x hx hl => by
    rcases hS x hx hl with z | z
    · exact .inl (SA.tg x z)
    · subst z; exact .inr tb
  refine ⟨P, (ag _ W.lts.1).trans W.tb, (ag _ W.lts.2).trans W.tc, ?_, (ag _ (at_lt W.e1)).trans W.t1, ?_, by simpa using W.hs⟩
  · rw [map_set_same hi (by rw [hp])]
    exact F.at_ _ _ (fun mm => by have := tS _ mm (at_lt W.e1); have := W.t1; omega) W.e1
  · intro j u hj
    rw [List.getElem?_set] at hj
    split at hj
    · rename_i hij
      subst hij
      split at hj
      · cases hj
        refine ⟨A, ep, eq, ev, fun x hx => ?_, nd, fun e he => ?_, sm⟩
        · rcases hpl x hx with z | ⟨z, z2⟩
          · exact (ag x (SA.lt x z)).trans (SA.tg x z)
          · show (if x < h.length then τ x else if x ∈ N then 0 else i + 3) = _
            rw [if_neg (by omega), if_neg z2]
        · rcases im e he with z | ⟨z, z2, z3⟩
          · obtain ⟨q1, q2⟩ := SA.im e z
            exact ⟨(ag _ (at_lt q2)).trans q1, F.at_ _ _ (fun mm => by have := tS _ mm (at_lt q2); omega) q2⟩
          · refine ⟨?_, z3⟩
            show (if e.k < h.length then τ e.k else if e.k ∈ N then 0 else i + 3) = 0
            rw [if_neg (by omega), if_pos z]
      · cases hj
    · rename_i hij
      refine (W.ea j u hj).fr F (fun x hx hl => ?_) ag hn
      rcases tS x hx hl with z | z <;> omega
theorem set_get (hi : ss[i]? = some s) : (ss.set i s')[i]? = some s' := List.getElem?_set_self (List.getElem?_eq_some_iff.mp hi).1
theorem drawW {many : Int} {Q : D → M → Prop} {X : XP} (W : Wld h τ B b c m n ss) (hm : m ≤ 1000000) (h0 : 0 < many) (h1 : many < 2 ^ 100) (K : ∀ z h', 0 ≤ z → z < many → Wld h' τ B b c (m + 1) n ss → Fr [b] h h' → Q (.int z) h') : @Wc D (m_law_draw_u [.loc b, .int many] h) ⟨Q, X⟩ :=
  draw W.pot hm h0 h1 fun z h' z0 z1 P F => K z h' z0 z1 (W.bag F (fun x hx _ => by rw [List.mem_singleton.mp hx]; exact W.tb) P (fun _ _ => rfl) (Nat.le_refl _)) F
end
end K06
set_option Elab.async false
set_option linter.all false
set_option maxRecDepth 100000
set_option maxHeartbeats 1000000
namespace K06
open PySem L2 LF NW
section
variable {h : M}
theorem pl_t : lookT xTk ("PowerLost", "LandfallError") = some true := by decide +kernel
theorem pl_n : ("PowerLost" : Str) ∈ xNm := by decide +kernel
theorem pl_1 : fIsX xTk xTt "PowerLost" (.tup [.cls "Unreadable", .cls "BadLanding"]) h = .ok (.bl false) h := by
  have e : isX xTk xTt "PowerLost" (.tup [.cls "Unreadable", .cls "BadLanding"]) = some false := by decide +kernel
  have e2 : allX xTk xTt "PowerLost" (.tup [.cls "Unreadable", .cls "BadLanding"]) = true := by decide +kernel
  unfold fIsX; rw [e, e2]; rfl
theorem pl_2 : fIsX xTk xTt "PowerLost" (.ty "ValueError") h = .ok (.bl true) h := by
  have e : isX xTk xTt "PowerLost" (.ty "ValueError") = some true := by decide +kernel
  unfold fIsX; rw [e]; rfl
theorem pl_3 : fIsX xTk xTt "PowerLost" (.cls "PowerLost") h = .ok (.bl true) h := by
  have e : isX xTk xTt "PowerLost" (.cls "PowerLost") = some true := by decide +kernel
  unfold fIsX; rw [e]; rfl
theorem pl_4 : fIsX xTk xTt "PowerLost" (.cls "NotAtRest") h = .ok (.bl false) h := by
  have e : isX xTk xTt "PowerLost" (.cls "NotAtRest") = some false := by decide +kernel
  unfold fIsX; rw [e]; rfl
theorem pl_5 : fIsX xTk xTt "PowerLost" (.cls "BadAddress") h = .ok (.bl false) h := by
  have e : isX xTk xTt "PowerLost" (.cls "BadAddress") = some false := by decide +kernel
  unfold fIsX; rw [e]; rfl
theorem nr_t : lookT xTk ("NotAtRest", "LandfallError") = some true := by decide +kernel
theorem nr_n : ("NotAtRest" : Str) ∈ xNm := by decide +kernel
theorem nr_1 : fIsX xTk xTt "NotAtRest" (.tup [.cls "Unreadable", .cls "BadLanding"]) h = .ok (.bl false) h := by
  have e : isX xTk xTt "NotAtRest" (.tup [.cls "Unreadable", .cls "BadLanding"]) = some false := by decide +kernel
  have e2 : allX xTk xTt "NotAtRest" (.tup [.cls "Unreadable", .cls "BadLanding"]) = true := by decide +kernel
  unfold fIsX; rw [e, e2]; rfl
theorem nr_2 : fIsX xTk xTt "NotAtRest" (.ty "ValueError") h = .ok (.bl true) h := by
  have e : isX xTk xTt "NotAtRest" (.ty "ValueError") = some true := by decide +kernel
  unfold fIsX; rw [e]; rfl
theorem nr_3 : fIsX xTk xTt "NotAtRest" (.cls "PowerLost") h = .ok (.bl false) h := by
  have e : isX xTk xTt "NotAtRest" (.cls "PowerLost") = some false := by decide +kernel
  unfold fIsX; rw [e]; rfl
theorem nr_4 : fIsX xTk xTt "NotAtRest" (.cls "NotAtRest") h = .ok (.bl true) h := by
  have e : isX xTk xTt "NotAtRest" (.cls "NotAtRest") = some true := by decide +kernel
  unfold fIsX; rw [e]; rfl
theorem nr_5 : fIsX xTk xTt "NotAtRest" (.cls "BadAddress") h = .ok (.bl false) h := by
  have e : isX xTk xTt "NotAtRest" (.cls "BadAddress") = some false := by decide +kernel
  unfold fIsX; rw [e]; rfl
theorem ba_t : lookT xTk ("BadAddress", "LandfallError") = some true := by decide +kernel
theorem ba_n : ("BadAddress" : Str) ∈ xNm := by decide +kernel
theorem ba_1 : fIsX xTk xTt "BadAddress" (.tup [.cls "Unreadable", .cls "BadLanding"]) h = .ok (.bl false) h := by
  have e : isX xTk xTt "BadAddress" (.tup [.cls "Unreadable", .cls "BadLanding"]) = some false := by decide +kernel
  have e2 : allX xTk xTt "BadAddress" (.tup [.cls "Unreadable", .cls "BadLanding"]) = true := by decide +kernel
  unfold fIsX; rw [e, e2]; rfl
theorem ba_2 : fIsX xTk xTt "BadAddress" (.ty "ValueError") h = .ok (.bl true) h := by
  have e : isX xTk xTt "BadAddress" (.ty "ValueError") = some true := by decide +kernel
  unfold fIsX; rw [e]; rfl
theorem ba_3 : fIsX xTk xTt "BadAddress" (.cls "PowerLost") h = .ok (.bl false) h := by
  have e : isX xTk xTt "BadAddress" (.cls "PowerLost") = some false := by decide +kernel
  unfold fIsX; rw [e]; rfl
theorem ba_4 : fIsX xTk xTt "BadAddress" (.cls "NotAtRest") h = .ok (.bl false) h := by
  have e : isX xTk xTt "BadAddress" (.cls "NotAtRest") = some false := by decide +kernel
  unfold fIsX; rw [e]; rfl
theorem ba_5 : fIsX xTk xTt "BadAddress" (.cls "BadAddress") h = .ok (.bl true) h := by
  have e : isX xTk xTt "BadAddress" (.cls "BadAddress") = some true := by decide +kernel
  unfold fIsX; rw [e]; rfl
theorem ba_f : (("BadAddress", "address") : Str × Str) ∈ xFt := by decide +kernel
theorem neB {a b : Bool} : fNe (.bl a) (.bl b) h = .ok (.bl (!decide (a = b))) h := by cases a <;> cases b <;> rfl
theorem tbt (b : Bool) (h : M) : fTru (.bl b) h = .ok b h := rfl
theorem sPP : (Str.ofString "power" = Str.ofString "rest") = False := eq_false (by decide)
theorem sPA : (Str.ofString "power" = Str.ofString "address") = False := eq_false (by decide)
theorem sRP : (Str.ofString "rest" = Str.ofString "power") = False := eq_false (by decide)
theorem sRA : (Str.ofString "rest" = Str.ofString "address") = False := eq_false (by decide)
theorem sAP : (Str.ofString "address" = Str.ofString "power") = False := eq_false (by decide)
theorem sAR : (Str.ofString "address" = Str.ofString "rest") = False := eq_false (by decide)
end
section
variable {h : M} {d : Dk} {a L : Int} {Q : D → M → Prop} {X : XP}
theorem refuse01 {w : Int} (A : DkAt h d) (hl : d.lim = limD L) (hk : d.on = false ∨ L = 0) (a0 : 0 ≤ a) (a1 : a < d.z) (hw : w = 0 ∨ w = 1) (K : ∀ h', DkAt h' { d with on := false } → Fr [d.o] h h' → Q (.bl true) h') : @Wc D (m_law_refusal_u [.loc d.o, .int w, .int a, .str "power"] h) ⟨Q, X⟩ := by
  unfold m_law_refusal_u; rw [wp_fn]; unfold b_law_refusal_u
  rw [ws_seq]
  rcases hw with rfl | rfl
  · have A' := fun os => A.fr0 (.cat os)
    simp [-v_hasM, size24, m_write A.eo]
    refine write_no (A' _) hl hk a0 a1 fun h' A2 F2 => ?_
    simp [pl_t, pl_n, pl_1, pl_2, pl_3, pl_4, pl_5, neB, tbt, size24, sPP, sPA]
    exact K _ A2 ((Fr.cat _).trans F2)
  · simp [-v_hasM, size24, m_flush A.eo]
    refine flush_no A hl hk fun h' A2 F2 => ?_
    simp [pl_t, pl_n, pl_1, pl_2, pl_3, pl_4, pl_5, neB, tbt, size24, sPP, sPA]
    exact K _ A2 F2
theorem refuse2 (A : DkAt h d) (hk : d.on = false) (a0 : 0 ≤ a) (a1 : a < d.z) (K : Q (.bl true) h) : @Wc D (m_law_refusal_u [.loc d.o, .int 2, .int a, .str "power"] h) ⟨Q, X⟩ := by
  unfold m_law_refusal_u; rw [wp_fn]; unfold b_law_refusal_u
  rw [ws_seq]
  simp [-v_hasM, size24, m_read A.eo]
  refine read_no A hk a0 a1 ?_
  simp [pl_t, pl_n, pl_1, pl_2, pl_3, pl_4, pl_5, neB, tbt, size24, sPP, sPA]
  exact K
theorem refuse4 (A : DkAt h d) (hq : d.qu ≠ []) (a0 : 0 ≤ a) (a1 : a < d.z) (K : Q (.bl true) h) : @Wc D (m_law_refusal_u [.loc d.o, .int 4, .int a, .str "rest"] h) ⟨Q, X⟩ := by
  unfold m_law_refusal_u; rw [wp_fn]; unfold b_law_refusal_u
  rw [ws_seq]
  simp [-v_hasM, size24, m_rot A.eo]
  refine rot_no A hq a0 a1 ?_
  simp [nr_t, nr_n, nr_1, nr_2, nr_3, nr_4, nr_5, neB, tbt, size24, sRP, sRA]
  exact K
theorem refuse_out {w : Int} (A : DkAt h d) (ha : ¬ (0 ≤ a ∧ a < d.z)) (hw : w = 0 ∨ w = 2 ∨ w = 3 ∨ w = 4) (K : ∀ h', Fr [] h h' → Q (.bl true) h') : @Wc D (m_law_refusal_u [.loc d.o, .int w, .int a, .str "address"] h) ⟨Q, X⟩ := by
  unfold m_law_refusal_u; rw [wp_fn]; unfold b_law_refusal_u
  have lk : lookT [(Str.ofString "address", D.int a)] (Str.ofString "address") = some (.int a) := rfl
  rw [ws_seq]
  rcases hw with rfl | rfl | rfl | rfl
  · have A' := fun os => A.fr0 (.cat os)
    simp [-v_hasM, size24, m_write A.eo]
    refine write_out (A' _) ha ?_
    simp [ba_t, ba_n, ba_1, ba_2, ba_3, ba_4, ba_5, ba_f, neB, tbt, size24, sAP, sAR, lk]
    refine number ?_
    simp
    exact K _ (.cat _)
  · simp [-v_hasM, size24, m_read A.eo]
    refine read_out A ha ?_
    simp [ba_t, ba_n, ba_1, ba_2, ba_3, ba_4, ba_5, ba_f, neB, tbt, size24, sAP, sAR, lk]
    refine number ?_
    simp
    exact K _ (.refl _ _)
  · simp [-v_hasM, size24, m_platter_block A.eo]
    refine platter_out A ha ?_
    simp [ba_t, ba_n, ba_1, ba_2, ba_3, ba_4, ba_5, ba_f, neB, tbt, size24, sAP, sAR, lk]
    refine number ?_
    simp
    exact K _ (.refl _ _)
  · simp [-v_hasM, size24, m_rot A.eo]
    refine rot_out A ha ?_
    simp [ba_t, ba_n, ba_1, ba_2, ba_3, ba_4, ba_5, ba_f, neB, tbt, size24, sAP, sAR, lk]
    refine number ?_
    simp
    exact K _ (.refl _ _)
end
end K06
set_option Elab.async false
set_option linter.all false
set_option maxRecDepth 100000
set_option maxHeartbeats 1000000
namespace K06
open PySem L2 LF NW
theorem at_map {α : Type} {ss : List α} {i : Nat} {s : α} {f : α → D} (hi : ss[i]? = some s) : atI (ss.map f) (i : Int) = some (f s) := by rw [atI_n, List.getElem?_map, hi]; rfl
def lookE (s : Seat) (a : Int) : Option Ent := (lastE s.qu a).or s.sh[a.toNat]?
def landS (sh : List Ent) (es : List Ent) : List Ent := es.foldl (fun sh e => sh.set e.a.toNat e) sh
theorem landS_snoc {sh es : List Ent} {e : Ent} : landS sh (es ++ [e]) = (landS sh es).set e.a.toNat e := by simp [landS]
theorem landS_len (sh es : List Ent) : (landS sh es).length = sh.length := by
  induction es using snoc_ind with
  | h0 => rfl
  | h1 es e ih => rw [landS_snoc, List.length_set, ih]
theorem landS_at (sh : List Ent) (a : Nat) (ha : a < sh.length) (es : List Ent) : (∀ e ∈ es, 0 ≤ e.a) → (landS sh es)[a]? = (lastE es (a : Int)).or sh[a]? := by
  induction es using snoc_ind with
  | h0 => intro _; simp [landS, lastE]
  | h1 es e ih =>
    intro h
    have he := h e (by simp)
    rw [landS_snoc, lastE_snoc, List.getElem?_set, ih fun x m => h x (by simp [m])]
    by_cases hc : e.a = (a : Int)
    · rw [if_pos (by omega), if_pos hc, if_pos (by rw [landS_len]; omega)]; rfl
    · rw [if_neg (by omega), if_neg hc]
theorem landS_mem {sh es : List Ent} {e : Ent} (h : e ∈ landS sh es) : e ∈ es ∨ e ∈ sh := by
  induction es using snoc_ind with
  | h0 => exact .inr h
  | h1 es x ih =>
    rw [landS_snoc] at h
    rcases List.mem_or_eq_of_mem_set h with z | z
    · rcases ih z with q | q
      · exact .inl (by simp [q])
      · exact .inr q
    · exact .inl (by simp [z])
section
variable {n : Nat} {s : Seat} {a : Int}
theorem Sem.at_ (S : Sem n s) (a0 : 0 ≤ a) (a1 : a < s.d.z) : ∃ e, s.sh[a.toNat]? = some e ∧ e.ws.length = 48 := by
  have hl : a.toNat < s.sh.length := by have := S.sl; omega
  exact ⟨_, List.getElem?_eq_getElem hl, S.sw _ (List.getElem_mem hl)⟩
theorem Sem.look (S : Sem n s) (a0 : 0 ≤ a) (a1 : a < s.d.z) : ∃ e, lookE s a = some e ∧ (e ∈ s.qu ∨ e ∈ s.sh) ∧ e.ws.length = 48 ∧ W1 ((valD s.d.la (.inl a)).getD ((valD s.d.pl (.inl a)).getD ZW)) e.ws := by
  obtain ⟨e, e1, e2⟩ := S.at_ a0 a1
  unfold lookE
  rw [S.la a a0]
  cases hq : lastE s.qu a with
  | some x =>
    obtain ⟨m1, m2⟩ := lastE_mem _ hq
    exact ⟨x, rfl, .inl m1, (S.ent x m1).2.2, .inl rfl⟩
  | none =>
    have := S.pl a.toNat e e1
    rw [Int.toNat_of_nonneg a0] at this
    exact ⟨e, by simpa using e1, .inr (List.mem_of_getElem? e1), e2, this⟩
theorem Sem.shown (S : Sem n s) {e : Ent} (a0 : 0 ≤ a) (h : s.sh[a.toNat]? = some e) : W1 ((valD s.d.pl (.inl a)).getD ZW) e.ws := by
  have := S.pl a.toNat e h
  rwa [Int.toNat_of_nonneg a0] at this
end
section
variable {h h' : M} {τ τ' : Nat → Nat} {B b c : Nat} {m m' : Int} {n n' : Nat} {ss : List Seat} {i : Nat} {s s' : Seat} {S : List Nat} {Q : D → M → Prop} {X : XP} {a : Int}
theorem atN {xs : List Ent} {a : Int} {e : Ent} {f : Ent → D} (a0 : 0 ≤ a) (h : xs[a.toNat]? = some e) : atI (xs.map f) a = some (f e) := by
  have := at_map (f := f) h
  rwa [Int.toNat_of_nonneg a0] at this
theorem latest (SA : SeatAt τ h n i s) (a0 : 0 ≤ a) (a1 : a < s.d.z) (K : ∀ e, lookE s a = some e → Q (.loc e.k) h) : @Wc D (m_law_latest_u [.loc s.p, .int a] h) ⟨Q, X⟩ := by
  unfold m_law_latest_u; rw [wp_fn]; unfold b_law_latest_u
  obtain ⟨e, e1, e2⟩ := SA.sm.at_ a0 a1
  rw [ws_seq]
  refine Ws.cut (fun e' h' => h = h' ∧ e' = [.va (.loc s.p), .va (.int a), .va (.loc e.k), .no]) ?_ ?_
  · simp [o_shown SA.ep, SA.ev, atN (f := kD) a0 e1, kD]
  rintro _ _ ⟨rfl, rfl⟩
  rw [ws_seq]
  refine Ws.cut (fun e' h' => h = h' ∧ ∃ x s3, lookE s a = some x ∧ e' = [.va (.loc s.p), .va (.int a), .va (.loc x.k), s3]) ?_ ?_
  · simp [o_queue SA.ep, SA.eq]
    refine floop_map (f := dE) (fun p e' h' => h = h' ∧ ∃ x s3, (lastE p a).or s.sh[a.toNat]? = some x ∧ e' = [.va (.loc s.p), .va (.int a), .va (.loc x.k), s3]) ⟨rfl, e, .no, by simpa [lastE] using e1, rfl⟩ ?_ ?_ ?_
    · rintro p _ _ _ ⟨rfl, _⟩
      exact lstOf_at SA.eq
    · rintro p y q _ _ hx ⟨rfl, x, s3, hx2, rfl⟩
      rw [lastE_snoc]
      by_cases ha : y.a = a
      · simp [dE, ha]
      · simp [dE, ha]
        exact ⟨x, by simpa using hx2, rfl⟩
    · rintro _ _ ⟨rfl, x, s3, hx, rfl⟩
      exact ⟨rfl, x, s3, hx, rfl⟩
  rintro _ _ ⟨rfl, x, s3, hx, rfl⟩
  simp
  exact K x hx
theorem lawLand {p q v x o : Nat} {z left w f r rs : Int} {on : Bool} {qu sh : List Ent} {ps : List (Nat × Ent)} (ep : h[p]? = some (StO o z q on left v w f r rs)) (eq : h[q]? = some (.lst (qu.map dE))) (ev : h[v]? = some (.lst (sh.map kD))) (ex : h[x]? = some (.lst (ps.map fun y => D.int y.1)))
    (hn : [p, q, v, x].Nodup) (hq : ∀ y ∈ ps, qu[y.1]? = some y.2) (hr : ∀ y ∈ ps, 0 ≤ y.2.a ∧ y.2.a < sh.length)
    (K : ∀ (h' : M) (q' : Nat), h.length ≤ q' → h'[v]? = some (.lst ((landS sh (ps.map (·.2))).map kD)) → h'[p]? = some (StO o z q' on left v w f r rs) → h'[q']? = some (.lst []) → Fr [v, p] h h' → Q .non h') : @Wc D (m_law_land_u [.loc p, .loc x] h) ⟨Q, X⟩ := by
  unfold m_law_land_u; rw [wp_fn]; unfold b_law_land_u
  simp only [List.nodup_cons, List.mem_cons, List.not_mem_nil, or_false, not_or, List.nodup_nil, and_true] at hn
  obtain ⟨⟨n1, n2, n3⟩, ⟨n4, n5⟩, n6, _⟩ := hn
  rw [ws_seq]
  refine Ws.cut (fun e' h' => Fr [v] h h' ∧ h'[v]? = some (.lst ((landS sh (ps.map (·.2))).map kD)) ∧ ∃ s2 s3, e' = [.va (.loc p), .va (.loc x), s2, s3]) ?_ ?_
  · simp [ex]
    refine floop_map (f := fun y : Nat × Ent => D.int y.1) (fun l e' h' => Fr [v] h h' ∧ h'[v]? = some (.lst ((landS sh (l.map (·.2))).map kD)) ∧ ∃ s2 s3, e' = [.va (.loc p), .va (.loc x), s2, s3]) ⟨.refl _ _, ev, .no, .no, rfl⟩ ?_ ?_ ?_
    · rintro l e' h' _ ⟨F, _⟩
      exact lstOf_at (F.at_ _ _ (by simp; exact Ne.symm n6) ex)
    · rintro l y k e' h1 hx ⟨F, ev1, s2, s3, rfl⟩
      have hy := hq y (by rw [hx]; simp)
      obtain ⟨r0, r1⟩ := hr y (by rw [hx]; simp)
      have ep1 := F.at_ _ _ (by simp; exact n2) ep
      have eq1 := F.at_ _ _ (by simp; exact n4) eq
      have iq := at_map (f := dE) hy
      have ix : ixN (landS sh (l.map (·.2))).length y.2.a = some y.2.a.toNat := by
        have := ixN_nat (len := (landS sh (l.map (·.2))).length) (n := y.2.a.toNat)
        rw [Int.toNat_of_nonneg r0, if_pos (by rw [landS_len]; omega)] at this
        exact this
      simp [o_queue ep1, eq1, iq, dE, o_shown ep1, v_putL ev1, ix]
      refine ⟨F.trans (Fr.set _ (by simp)), ?_⟩
      rw [at_set ev1, landS_snoc, List.map_set]; rfl
    · rintro e' h1 ⟨F, ev1, s2, s3, rfl⟩
      exact ⟨F, ev1, s2, s3, rfl⟩
  rintro _ h1 ⟨F, ev1, s2, s3, rfl⟩
  have ep1 := F.at_ _ _ (by simp; exact n2) ep
  have lp := at_lt ep1
  have lv := at_lt ev1
  simp [size24, u_queue (at_app (u := .lst []) ep1)]
  have F2 : Fr [p] h1 ((h1 ++ [O.lst []]).set p (StO o z h1.length on left v w f r rs)) := (Fr.cat _).trans (Fr.set _ (by simp))
  exact K _ h1.length F.len (F2.at_ _ _ (by simp; exact Ne.symm n2) ev1) (at_set (at_app ep1)) (at_setN (by simp) (by omega)) ((F.mono (by simp)).trans (F2.mono (by simp)))
end
end K06
set_option Elab.async false
set_option linter.all false
set_option maxRecDepth 100000
set_option maxHeartbeats 1000000
namespace K06
open PySem L2 LF NW
def KT (B b c : Nat) (m : Int) (n : Nat) (ss : List Seat) (i : Nat) (s : Seat) (Q : D → M → Prop) : Prop := ∀ (h' : M) (τ' : Nat → Nat) (s' : Seat), s'.p = s.p → Wld h' τ' B b c m n (ss.set i s') → Q (.bl true) h'
section
variable {h h' : M} {τ τ' : Nat → Nat} {B b c : Nat} {m m' : Int} {n n' : Nat} {ss : List Seat} {i : Nat} {s s' : Seat} {S : List Nat} {Q : D → M → Prop} {X : XP} {a : Int}
theorem SeatAt.dn (A : SeatAt τ h n i s) : ∀ x ∈ s.d.pls, x ≠ s.p ∧ x ≠ s.q ∧ x ≠ s.v := by
  intro x hx
  have nd := A.nd
  simp only [Seat.pls, List.nodup_cons, List.mem_cons, not_or] at nd
  exact ⟨fun z => nd.1.2.2 (z ▸ hx), fun z => nd.2.1.2 (z ▸ hx), fun z => nd.2.2.1 (z ▸ hx)⟩
theorem SeatAt.ne (A : SeatAt τ h n i s) : s.p ≠ s.q ∧ s.p ≠ s.v ∧ s.q ≠ s.v := by
  have nd := A.nd
  simp only [Seat.pls, List.nodup_cons, List.mem_cons, not_or] at nd
  exact ⟨nd.1.1, nd.1.2.1, nd.2.1.1⟩
theorem Dk.mo (d : Dk) : d.o ∈ d.pls := by simp [Dk.pls]
theorem SeatAt.p1 (A : SeatAt τ h n i s) : ∀ x ∈ s.d.pls, x ∉ [s.p] := fun x hx m => (A.dn x hx).1 (List.mem_singleton.mp m)
theorem SeatAt.qn (A : SeatAt τ h n i s) : s.q ∉ [s.p, s.d.o] := by
  have d := A.dn s.d.o s.d.mo
  have e := A.ne
  simp only [List.mem_cons, List.not_mem_nil, or_false, not_or]
  exact ⟨Ne.symm e.1, Ne.symm d.2.1⟩
theorem SeatAt.vn (A : SeatAt τ h n i s) : s.v ∉ [s.p, s.d.o] := by
  have d := A.dn s.d.o s.d.mo
  have e := A.ne
  simp only [List.mem_cons, List.not_mem_nil, or_false, not_or]
  exact ⟨Ne.symm e.2.1, Ne.symm d.2.2⟩
theorem SeatAt.po (A : SeatAt τ h n i s) : s.p ∉ [s.d.o] := fun m => (A.dn s.d.o s.d.mo).1 (List.mem_singleton.mp m).symm
theorem set_self (hi : ss[i]? = some s) : ss.set i s = ss := by
  apply List.ext_getElem?
  intro j
  rw [List.getElem?_set]
  split
  · subst_vars; split
    · exact hi.symm
    · rename_i hh; rw [List.getElem?_eq_none (by omega)]
  · rfl
theorem KT.same (K : KT B b c m n ss i s Q) (hi : ss[i]? = some s) (W : Wld h τ B b c m n ss) : Q (.bl true) h := K h τ s rfl (by rw [set_self hi]; exact W)
theorem bS (W : Wld h τ B b c m n ss) (hi : ss[i]? = some s) : b ∉ s.pls ∧ c ∉ s.pls := by
  have SA := W.ea i s hi
  have tb := W.tb
  have tc := W.tc
  exact ⟨fun z => by have := SA.tg b z; omega, fun z => by have := SA.tg c z; omega⟩
/-- what a turn leaves of the disk and the state, places as they were -/
theorem Wld.stay (W : Wld h τ B b c m n ss) (hi : ss[i]? = some s) (F : Fr S h h') (hS : ∀ x ∈ S, x < h.length → x ∈ s.pls) (A : DkAt h' s'.d) (hd : s'.d.pls = s.d.pls) (hp : s'.p = s.p) (hq : s'.q = s.q) (hv : s'.v = s.v) (hqu : s'.qu = s.qu) (hsh : s'.sh = s.sh)
    (ep : h'[s.p]? = some (StO s'.d.o s'.d.z s'.q s'.on s'.left s'.v s'.w s'.f s'.r s'.rs)) (hnq : s.q ∉ S) (hnv : s.v ∉ S) (sm : Sem n s') : ∃ τ', Wld h' τ' B b c m n (ss.set i s') := by
  have SA := W.ea i s hi
  obtain ⟨b1, b2⟩ := bS W hi
  have hpl : s'.pls = s.pls := by simp only [Seat.pls, hd, hp, hq, hv]
  exact ⟨_, W.turn hi F (fun x hx hl => .inl (hS x hx hl)) (W.pot.fr F (fun z => b1 (hS b z W.lts.1)) (fun z => b2 (hS c z W.lts.2))) [] A (by rw [hp]; exact ep) (by rw [hq, hqu]; exact F.at_ _ _ hnq SA.eq) (by rw [hv, hsh]; exact F.at_ _ _ hnv SA.ev)
    (fun x hx => .inl (by rw [← hpl]; exact hx)) (by rw [hpl]; exact SA.nd) (fun e he => .inl (by rw [hqu, hsh] at he; exact he)) sm hp (Nat.le_refl _)⟩
theorem readLaw (W : Wld h τ B b c m n ss) (hm : m ≤ 900000) (hi : ss[i]? = some s) (K : KT B b c (m + 1) n ss i s Q) : @Wc D (m_law_read_u [.loc s.p, .loc b] h) ⟨Q, X⟩ := by
  unfold m_law_read_u; rw [wp_fn]; unfold b_law_read_u
  have z0 := (W.ea i s hi).sm.z0
  have z1 := (W.ea i s hi).sm.z1
  rw [ws_seq]
  refine Ws.cut (fun e h' => Wld h' τ B b c (m + 1) n ss ∧ ∃ a : Int, 0 ≤ a ∧ a < s.d.z ∧ e = [.va (.loc s.p), .va (.loc b), .va (.int a)]) ?_ ?_
  · simp [o_blocks (W.ea i s hi).ep]
    refine drawW W (by omega) (by omega) (by omega) fun z h1 z0 z1 W1 F1 => ?_
    simp
    exact ⟨W1, z0, z1⟩
  rintro _ h1 ⟨W1, a, a0, a1, rfl⟩
  have SA := W1.ea i s hi
  rw [ws_seq]
  cases hon : s.on with
  | false =>
    simp [o_on SA.ep, hon, tbt, o_disk SA.ep]
    refine refuse2 SA.A (by rw [SA.sm.on]; exact hon) a0 a1 ?_
    exact K.same hi W1
  | true =>
    refine Ws.cut (fun e h' => h1 = h' ∧ e = [.va (.loc s.p), .va (.loc b), .va (.int a)]) ?_ ?_
    · simp [o_on SA.ep, hon, tbt]
    rintro _ _ ⟨rfl, rfl⟩
    have Fp : Fr [s.p] h1 (h1.set s.p (StO s.d.o s.d.z s.q s.on s.left s.v s.w s.f (s.r + 1) s.rs)) := Fr.set _ (by simp)
    have A2 : DkAt (h1.set s.p (StO s.d.o s.d.z s.q s.on s.left s.v s.w s.f (s.r + 1) s.rs)) s.d := SA.A.fr Fp SA.p1
    have ep2 := at_set (u := StO s.d.o s.d.z s.q s.on s.left s.v s.w s.f (s.r + 1) s.rs) SA.ep
    have len2 : (h1.set s.p (StO s.d.o s.d.z s.q s.on s.left s.v s.w s.f (s.r + 1) s.rs)).length = h1.length := by simp
    rw [ws_seq]
    refine Ws.cut (fun e h' => h' = h1.set s.p (StO s.d.o s.d.z s.q s.on s.left s.v s.w s.f (s.r + 1) s.rs) ∧ e = [.va (.loc s.p), .va (.loc b), .va (.int a)]) ?_ ?_
    · simp [o_reads SA.ep, u_reads SA.ep]
    rintro _ h2 ⟨e2, rfl⟩
    rw [← e2] at Fp A2 ep2 len2
    obtain ⟨e, l1, l2, l3, l4⟩ := SA.sm.look a0 a1
    simp [-v_hasM, o_disk ep2, m_read A2.eo]
    refine read A2 (by rw [SA.sm.on]; exact hon) a0 a1 (by rw [SA.sm.lo]; rfl) l4 fun h3 e3 A3 F3 => ?_
    have ep3 := F3.at_ _ _ SA.po ep2
    have F : Fr [s.p, s.d.o] h1 h3 := (Fp.mono (by simp)).trans (F3.mono (by simp))
    obtain ⟨τ3, W3⟩ := W1.stay (s' := { s with d := { s.d with r := s.d.r + 1 }, r := s.r + 1 }) hi F (by simp [Seat.pls, Dk.pls]) A3 rfl rfl rfl rfl rfl rfl ep3 SA.qn SA.vn
      ⟨SA.sm.z0, SA.sm.z1, SA.sm.on, SA.sm.lim, SA.sm.l0, SA.sm.lo, SA.sm.qu, SA.sm.ent, SA.sm.sl, SA.sm.sw, SA.sm.la, SA.sm.pl, SA.sm.w, by show s.d.r + 1 = s.r + 1; rw [SA.sm.r], SA.sm.f, SA.sm.rs, SA.sm.b1, SA.sm.b2, SA.sm.b3⟩
    have SA3 := W3.ea i _ (set_get hi)
    simp
    refine latest (s := { s with d := { s.d with r := s.d.r + 1 }, r := s.r + 1 }) SA3 a0 a1 fun x hx => ?_
    have : x = e := by
      have hx' : lookE s a = some x := hx
      rw [l1] at hx'; exact (Option.some.inj hx').symm
    subst this
    simp
    refine same e3 (SA3.im x l2).2 l3 fun h4 F4 => ?_
    exact K _ _ { s with d := { s.d with r := s.d.r + 1 }, r := s.r + 1 } rfl (W3.fr0 F4)
theorem armLaw {L : Int} (W : Wld h τ B b c m n ss) (hi : ss[i]? = some s) (hL : -1 ≤ L) {h1 : M} (eh : h1 = h.set s.p (StO s.d.o s.d.z s.q s.on L s.v s.w s.f s.r s.rs)) (K : KT B b c m n ss i s (fun v h' => Q .non h')) : @Wc D (m_Disk_arm [.loc s.d.o, limD L] h1) ⟨Q, X⟩ := by
  have SA := W.ea i s hi
  have Fp : Fr [s.p] h h1 := by rw [eh]; exact Fr.set _ (by simp)
  have A1 : DkAt h1 s.d := SA.A.fr Fp SA.p1
  have ep1 : h1[s.p]? = some (StO s.d.o s.d.z s.q s.on L s.v s.w s.f s.r s.rs) := by rw [eh]; exact at_set SA.ep
  refine arm A1 fun h2 A2 F2 => ?_
  have ep2 := F2.at_ _ _ SA.po ep1
  have F : Fr [s.p, s.d.o] h h2 := (Fp.mono (by simp)).trans (F2.mono (by simp))
  obtain ⟨τ3, W3⟩ := W.stay (s' := { s with d := { s.d with lim := limD L }, left := L }) hi F (by simp [Seat.pls, Dk.pls]) A2 rfl rfl rfl rfl rfl rfl ep2 SA.qn SA.vn
    ⟨SA.sm.z0, SA.sm.z1, SA.sm.on, rfl, hL, SA.sm.lo, SA.sm.qu, SA.sm.ent, SA.sm.sl, SA.sm.sw, SA.sm.la, SA.sm.pl, SA.sm.w, SA.sm.r, SA.sm.f, SA.sm.rs, SA.sm.b1, SA.sm.b2, SA.sm.b3⟩
  exact K _ _ { s with d := { s.d with lim := limD L }, left := L } rfl W3
theorem armed (W : Wld h τ B b c m n ss) (hm : m ≤ 900000) (hi : ss[i]? = some s) (K : KT B b c (m + 3) n ss i s Q) : @Wc D (m_law_armed_u [.loc s.p, .loc b] h) ⟨Q, X⟩ := by
  unfold m_law_armed_u; rw [wp_fn]; unfold b_law_armed_u
  rw [ws_seq]
  refine Ws.cut (fun e h' => Wld h' τ B b c (m + 1) n ss ∧ ∃ w : Int, e = [.va (.loc s.p), .va (.loc b), .va (.int w), .no]) ?_ ?_
  · simp
    refine drawW W (by omega) (by omega) (by decide) fun z h1 z0 z1 W1 F1 => ?_
    simp
    exact W1
  rintro _ h1 ⟨W1, w, rfl⟩
  rw [ws_seq]
  refine Ws.cut (fun e h' => Wld h' τ B b c (m + 2) n ss ∧ ∃ k : Int, 0 ≤ k ∧ e = [.va (.loc s.p), .va (.loc b), .va (.int w), .va (.int k)]) ?_ ?_
  · simp
    refine drawW W1 (by omega) (by omega) (by decide) fun z h2 z0 z1 W2 F2 => ?_
    simp
    exact ⟨W2.more (by omega) (Nat.le_refl _), z0⟩
  rintro _ h2 ⟨W2, k, k0, rfl⟩
  have W0 := W2
  have W2 := W2.more (m' := m + 3) (by omega) (Nat.le_refl n)
  have SA := W2.ea i s hi
  rw [ws_seq]
  by_cases h0 : w = 0
  · have no : ∀ L : Int, (h2.set s.p (StO s.d.o s.d.z s.q s.on L s.v s.w s.f s.r s.rs))[s.p]? = _ := fun L => at_set SA.ep
    have eo : ∀ L : Int, (h2.set s.p (StO s.d.o s.d.z s.q s.on L s.v s.w s.f s.r s.rs))[s.d.o]? = _ := fun L => at_setN SA.A.eo (Ne.symm (SA.dn _ s.d.mo).1)
    simp [-v_hasM, h0, u_left SA.ep, o_disk (no _), m_arm (eo _)]
    refine armLaw (L := -1) W2 hi (by omega) rfl fun h3 τ3 s3 hp W3 => ?_
    simp
    exact K _ _ _ hp W3
  · refine Ws.cut (fun e h' => h2 = h' ∧ e = [.va (.loc s.p), .va (.loc b), .va (.int w), .va (.int k)]) ?_ ?_
    · simp [h0]
    rintro _ _ ⟨rfl, rfl⟩
    rw [ws_seq]
    refine Ws.cut (fun e h' => Wld h' τ B b c (m + 3) n ss ∧ ∃ k : Int, 0 ≤ k ∧ e = [.va (.loc s.p), .va (.loc b), .va (.int w), .va (.int k)]) ?_ ?_
    · by_cases h1 : w = 1
      · simp [h1]
        refine drawW W0 (by omega) (by omega) (by decide) fun z h3 z0 z1 W3 F3 => ?_
        simp
        exact ⟨W3.more (by omega) (Nat.le_refl _), by omega⟩
      · simp [h1]
        exact ⟨W2, k0⟩
    clear k0 W2 SA W0
    rintro _ h3 ⟨W3, k, k0, rfl⟩
    have SA := W3.ea i s hi
    have no : ∀ L : Int, (h3.set s.p (StO s.d.o s.d.z s.q s.on L s.v s.w s.f s.r s.rs))[s.p]? = _ := fun L => at_set SA.ep
    have eo : ∀ L : Int, (h3.set s.p (StO s.d.o s.d.z s.q s.on L s.v s.w s.f s.r s.rs))[s.d.o]? = _ := fun L => at_setN SA.A.eo (Ne.symm (SA.dn _ s.d.mo).1)
    simp [-v_hasM, u_left SA.ep, o_disk (no _), m_arm (eo _)]
    have hk : limD k = .int k := by unfold limD; rw [if_neg (by omega)]
    have AL := armLaw (Q := fun v h' => v = .non ∧ ∃ τ' s', s'.p = s.p ∧ Wld h' τ' B b c (m + 3) n (ss.set i s')) (X := X) (L := k) W3 hi (by omega) rfl fun h4 τ4 s4 hp W4 => ⟨rfl, τ4, s4, hp, W4⟩
    rw [hk] at AL
    refine Wc.mono AL (fun v h4 z => ?_) fun _ _ _ _ z => z
    obtain ⟨rfl, τ4, s4, hp, W4⟩ := z
    simp
    exact K _ _ _ hp W4
end
end K06
set_option Elab.async false
set_option linter.all false
set_option maxRecDepth 100000
set_option maxHeartbeats 1000000
namespace K06
open PySem L2 LF NW
section
variable {h h' : M} {τ τ' : Nat → Nat} {B b c : Nat} {m m' : Int} {n n' : Nat} {ss : List Seat} {i : Nat} {s s' : Seat} {S : List Nat} {Q : D → M → Prop} {X : XP} {a : Int}
theorem v_ng {z : Int} {h : M} : fNeg (.int z) h = .ok (.int (-z)) h := rfl
theorem outside (W : Wld h τ B b c m n ss) (hm : m ≤ 900000) (hi : ss[i]? = some s) (K : KT B b c (m + 3) n ss i s Q) : @Wc D (m_law_outside_u [.loc s.p, .loc b] h) ⟨Q, X⟩ := by
  unfold m_law_outside_u; rw [wp_fn]; unfold b_law_outside_u
  have z8 := (W.ea i s hi).sm.z0
  rw [ws_seq]
  refine Ws.cut (fun e h' => Wld h' τ B b c (m + 1) n ss ∧ ∃ f : Int, 0 ≤ f ∧ e = [.va (.loc s.p), .va (.loc b), .va (.int f), .no]) ?_ ?_
  · simp
    refine drawW W (by omega) (by omega) (by decide) fun f h1 f0 f1 W1 F1 => ?_
    simp
    exact ⟨W1, f0⟩
  rintro _ h1 ⟨W1, f, f0, rfl⟩
  rw [ws_seq]
  refine Ws.cut (fun e h' => Wld h' τ B b c (m + 2) n ss ∧ ∃ a : Int, ¬ (0 ≤ a ∧ a < s.d.z) ∧ e = [.va (.loc s.p), .va (.loc b), .va (.int f), .va (.int a)]) ?_ ?_
  · simp [size24, o_blocks (W1.ea i s hi).ep, v_ng]
    refine drawW (W1.fr0 (.cat _)) (by omega) (by omega) (by decide) fun z h2 z0 z1 W2 F2 => ?_
    have e2 : h2[h1.length]? = some (.lst [.int (-1), .int s.d.z, .int (-s.d.z), .int (s.d.z + f), .int (-1 - f)]) := F2.at_ _ _ (by have := W1.lts.1; simp; omega) (by simp)
    have hz : z = 0 ∨ z = 1 ∨ z = 2 ∨ z = 3 ∨ z = 4 := by omega
    have W2' := W2.more (m' := m + 2) (by omega) (Nat.le_refl _)
    rcases hz with rfl | rfl | rfl | rfl | rfl
    all_goals
      simp [e2]
      first | exact ⟨W2', by omega⟩ | exact W2'
  rintro _ h2 ⟨W2, a, ha, rfl⟩
  have SA := W2.ea i s hi
  simp [o_disk SA.ep, size24]
  refine drawW (W2.fr0 (.cat _)) (by omega) (by omega) (by decide) fun z h3 z0 z1 W3 F3 => ?_
  have e3 : h3[h2.length]? = some (.lst [.int 0, .int 2, .int 3, .int 4]) := F3.at_ _ _ (by have := W2.lts.1; simp; omega) (by simp)
  have SA3 := W3.ea i s hi
  have fin : ∀ h4, Fr [] h3 h4 → Q (.bl true) h4 := fun h4 F4 => K.same hi ((W3.fr0 F4).more (by omega) (Nat.le_refl _))
  have hz : z = 0 ∨ z = 1 ∨ z = 2 ∨ z = 3 := by omega
  rcases hz with rfl | rfl | rfl | rfl
  all_goals
    simp [e3]
    exact refuse_out SA3.A ha (by simp) fun h4 F4 => fin h4 F4
theorem rotted (W : Wld h τ B b c m n ss) (hm : m ≤ 900000) (hn : n ≤ 100000) (hi : ss[i]? = some s) (K : KT B b c (m + 3) (n + 1) ss i s Q) : @Wc D (m_law_rotted_u [.loc s.p, .loc b] h) ⟨Q, X⟩ := by
  unfold m_law_rotted_u; rw [wp_fn]; unfold b_law_rotted_u
  have z8 := (W.ea i s hi).sm.z0
  have z9 := (W.ea i s hi).sm.z1
  rw [ws_seq]
  refine Ws.cut (fun e h' => Wld h' τ B b c (m + 1) n ss ∧ ∃ a : Int, 0 ≤ a ∧ a < s.d.z ∧ e = [.va (.loc s.p), .va (.loc b), .va (.int a), .no, .no, .no]) ?_ ?_
  · simp [o_blocks (W.ea i s hi).ep]
    refine drawW W (by omega) (by omega) (by omega) fun z h1 z0 z1 W1 F1 => ?_
    simp
    exact ⟨W1, z0, z1⟩
  rintro _ h1 ⟨W1, a, a0, a1, rfl⟩
  rw [ws_seq]
  refine Ws.cut (fun e h' => Wld h' τ B b c (m + 2) n ss ∧ ∃ sp : Int, 0 ≤ sp ∧ sp < 48 ∧ e = [.va (.loc s.p), .va (.loc b), .va (.int a), .va (.int sp), .no, .no]) ?_ ?_
  · simp
    refine drawW W1 (by omega) (by omega) (by decide) fun z h2 z0 z1 W2 F2 => ?_
    simp
    exact ⟨W2.more (by omega) (Nat.le_refl _), z0, z1⟩
  rintro _ h2 ⟨W2, sp, s0, s1, rfl⟩
  rw [ws_seq]
  refine Ws.cut (fun e h' => Wld h' τ B b c (m + 3) n ss ∧ ∃ v : Int, e = [.va (.loc s.p), .va (.loc b), .va (.int a), .va (.int sp), .va (.int v), .no]) ?_ ?_
  · simp
    refine drawW W2 (by omega) (by omega) (by decide) fun z h2 z0 z1 W3 F2 => ?_
    simp
    exact W3.more (by omega) (Nat.le_refl _)
  rintro _ h3 ⟨W3, v, rfl⟩
  have SA := W3.ea i s hi
  rw [ws_seq]
  cases hq : s.qu with
  | cons y ys =>
    have e1 : (h3 ++ [O.lst []])[s.q]? = some (.lst (s.qu.map dE)) := at_app SA.eq
    have e2 : (h3 ++ [O.lst []])[h3.length]? = some (.lst []) := by simp
    have W4 := W3.fr0 (Fr.cat (S := []) [O.lst []])
    have SA4 := W4.ea i s hi
    have hne : fNe (.loc s.q) (.loc h3.length) (h3 ++ [O.lst []]) = .ok (.bl true) (h3 ++ [O.lst []]) := by
      have p1 : Pl (h3 ++ [O.lst []]) 50 (.loc s.q) (.list (s.qu.map fun e => .tuple [.int e.a, .list (e.ws.map .int)])) := by
        refine pl_loc (n := 49) e1 (pla_map fun e he => ?_)
        exact pl_tup (n := 48) (pla_cons (pl_int _) (pla_cons (pl_loc (n := 47) (SA4.im e (.inl he)).2 pla_ints) pla_nil))
      have p2 : Pl (h3 ++ [O.lst []]) 50 (.loc h3.length) (.list []) := pl_loc (n := 49) e2 pla_nil
      have := eqD_pl p1 p2 rfl
      unfold fNe
      rw [this, hq]
      rfl
    simp [o_queue SA.ep, size24, hne, o_disk (SA4.ep)]
    refine refuse4 SA4.A (by rw [SA.sm.qu, hq]; simp) a0 a1 ?_
    exact K.same hi (W4.more (Int.le_refl _) (by omega))
  | nil =>
    refine Ws.cut (fun e h' => Wld h' τ B b c (m + 3) n ss ∧ e = [.va (.loc s.p), .va (.loc b), .va (.int a), .va (.int sp), .va (.int v), .no]) ?_ ?_
    · have e1 : (h3 ++ [O.lst []])[s.q]? = some (.lst (([] : List Int).map .int)) := by rw [at_app SA.eq, hq]; rfl
      have e2 : (h3 ++ [O.lst []])[h3.length]? = some (.lst (([] : List Int).map .int)) := by simp
      simp [o_queue SA.ep, size24]
      rw [fNe_ints e1 e2]
      simp
      exact W3.fr0 (.cat _)
    clear W3 SA
    rintro _ h3 ⟨W3, rfl⟩
    have SA := W3.ea i s hi
    obtain ⟨e, l1, l2⟩ := SA.sm.at_ a0 a1
    have hw := SA.sm.shown a0 l1
    have ee := (SA.im e (.inr (List.mem_of_getElem? l1))).2
    have lv := at_lt SA.ev
    have e4 : ixN e.ws.length sp = some sp.toNat := by
      have := ixN_nat (len := e.ws.length) (n := sp.toNat)
      rw [Int.toNat_of_nonneg s0, if_pos (by omega)] at this
      exact this
    rw [ws_seq]
    refine Ws.cut (fun e' h' => h' = h3 ++ [.lst (e.ws.map .int)] ∧ e' = [.va (.loc s.p), .va (.loc b), .va (.int a), .va (.int sp), .va (.int v), .va (.loc h3.length)]) ?_ ?_
    · simp [o_shown SA.ep, SA.ev, atN (f := kD) a0 l1, kD, ee]
    rintro _ _ ⟨rfl, rfl⟩
    have e3 : (h3 ++ [O.lst (e.ws.map .int)])[h3.length]? = some (.lst (e.ws.map .int)) := by simp
    rw [ws_seq]
    refine Ws.cut (fun e' h' => h' = h3 ++ [.lst ((e.ws.set sp.toNat v).map .int)] ∧ e' = [.va (.loc s.p), .va (.loc b), .va (.int a), .va (.int sp), .va (.int v), .va (.loc h3.length)]) ?_ ?_
    · simp [v_putL e3, e4, List.map_set]
    rintro _ h4 ⟨h4e, rfl⟩
    have F4 : Fr [] h3 h4 := by rw [h4e]; exact .cat _
    have en : h4[h3.length]? = some (.lst ((e.ws.set sp.toNat v).map .int)) := by rw [h4e]; simp
    clear h4e
    have ep4 := F4.at SA.ep
    have ev4 := F4.at SA.ev
    have slen : a.toNat < s.sh.length := (List.getElem?_eq_some_iff.mp l1).1
    have ix : ixN s.sh.length a = some a.toNat := by
      have := ixN_nat (len := s.sh.length) (n := a.toNat)
      rw [Int.toNat_of_nonneg a0, if_pos slen] at this
      exact this
    rw [ws_seq]
    refine Ws.cut (fun e' h' => h' = h4.set s.v (.lst ((s.sh.set a.toNat ⟨0, e.ws.set sp.toNat v, h3.length⟩).map kD)) ∧ e' = [.va (.loc s.p), .va (.loc b), .va (.int a), .va (.int sp), .va (.int v), .va (.loc h3.length)]) ?_ ?_
    · simp [o_shown ep4, v_putL ev4, ix, List.map_set, kD]
    rintro _ h5 ⟨h5e, rfl⟩
    have F5 : Fr [s.v] h4 h5 := by rw [h5e]; exact Fr.set _ (by simp)
    have ev5 : h5[s.v]? = some (.lst ((s.sh.set a.toNat ⟨0, e.ws.set sp.toNat v, h3.length⟩).map kD)) := by rw [h5e]; exact at_set ev4
    clear h5e
    have ne := SA.ne
    have A5 : DkAt h5 s.d := (SA.A.fr0 F4).fr F5 fun x hx mm => (SA.dn x hx).2.2 (List.mem_singleton.mp mm)
    have ep5 := F5.at_ _ _ (by simp; exact ne.2.1) ep4
    have eq5 := F5.at_ _ _ (by simp; exact ne.2.2) (F4.at SA.eq)
    have en5 := F5.at_ _ _ (by simp; omega) en
    simp [-v_hasM, o_disk ep5, m_rot A5.eo]
    have b1 := SA.sm.b1
    have b2 := SA.sm.b2
    refine rot A5 (by rw [SA.sm.qu, hq]) a0 a1 hw s0 (by omega) (by omega) fun h6 A6 F6 => ?_
    simp
    have dp : s.d.p ∈ s.d.pls := by simp [Dk.pls]
    have FT : Fr [s.v, s.d.p] h3 h6 := (F4.nil.trans (F5.mono (by simp))).trans (F6.mono (by simp))
    obtain ⟨nb, nc⟩ := bS W3 hi
    have hdp := SA.dn _ dp
    have pm : s.d.p ∈ s.pls := by simp [Seat.pls, dp]
    have vm : s.v ∈ s.pls := by simp [Seat.pls]
    refine K h6 _ { s with d := { s.d with pl := putD s.d.pl (.inl a) (.tup ((e.ws.set sp.toNat v).map .int)) }, sh := s.sh.set a.toNat ⟨0, e.ws.set sp.toNat v, h3.length⟩ } rfl
      (W3.turn (n' := n + 1) hi FT ?_ (W3.pot.fr FT ?_ ?_) [h3.length] A6 (F6.at_ _ _ (by simp; exact Ne.symm hdp.1) ep5) (F6.at_ _ _ (by simp; exact Ne.symm hdp.2.1) eq5) (F6.at_ _ _ (by simp; exact Ne.symm hdp.2.2) ev5) (fun x hx => .inl hx) SA.nd ?_ ?_ rfl (by omega))
    · intro x hx _
      simp only [List.mem_cons, List.not_mem_nil, or_false] at hx
      rcases hx with rfl | rfl
      · exact .inl vm
      · exact .inl pm
    · simp only [List.mem_cons, List.not_mem_nil, or_false, not_or]
      exact ⟨fun z => nb (z ▸ vm), fun z => nb (z ▸ pm)⟩
    · simp only [List.mem_cons, List.not_mem_nil, or_false, not_or]
      exact ⟨fun z => nc (z ▸ vm), fun z => nc (z ▸ pm)⟩
    · intro x hx
      rcases hx with z | z
      · exact .inl (.inl z)
      · rcases List.mem_or_eq_of_mem_set z with z | z
        · exact .inl (.inr z)
        · subst z
          refine .inr ⟨by simp, Nat.le_refl _, F6.at_ _ _ ?_ en5⟩
          have := SA.lt _ pm
          simp; omega
    · have hl := putD_len (kvs := s.d.pl) (k := (.inl a : Key)) (d := .tup ((e.ws.set sp.toNat v).map .int))
      refine ⟨SA.sm.z0, SA.sm.z1, SA.sm.on, SA.sm.lim, SA.sm.l0, SA.sm.lo, SA.sm.qu, SA.sm.ent, by simp; exact SA.sm.sl, ?_, SA.sm.la, ?_, SA.sm.w, SA.sm.r, SA.sm.f, SA.sm.rs, ?_, ?_, SA.sm.b3⟩
      · intro x hx
        rcases List.mem_or_eq_of_mem_set hx with z | z
        · exact SA.sm.sw x z
        · subst z; simp [l2]
      · intro a' x hx
        show K06.W1 ((valD (putD _ _ _) _).getD ZW) _
        rw [valD_put]
        have hx : (s.sh.set a.toNat ⟨0, e.ws.set sp.toNat v, h3.length⟩)[a']? = some x := hx
        rw [List.getElem?_set] at hx
        by_cases ha : a.toNat = a'
        · rw [if_pos ha, if_pos slen] at hx
          cases hx
          rw [if_pos (by congr 1; omega)]
          exact .inl rfl
        · rw [if_neg ha] at hx
          rw [if_neg (by intro z; injection z with z; omega)]
          exact SA.sm.pl a' x hx
      · show (putD _ _ _).length + s.qu.length ≤ n + 1
        omega
      · show s.d.fo.length + s.qu.length ≤ n + 1
        omega
end
end K06
set_option Elab.async false
set_option linter.all false
set_option maxRecDepth 100000
set_option maxHeartbeats 1000000
namespace K06
open PySem L2 LF NW
theorem Sem.ld {n : Nat} {s s' : Seat} (S : Sem n s) {es : List Ent} (hes : ∀ e ∈ es, e ∈ s.qu) (hl : es.length ≤ s.qu.length) (z : s'.d.z = s.d.z) (pl : s'.d.pl = (landed s.d es).pl) (fo : s'.d.fo = (landed s.d es).fo) (lo : s'.d.lo = []) (la : s'.d.la = []) (dq : s'.d.qu = []) (qu : s'.qu = []) (sh : s'.sh = landS s.sh es)
    (on : s'.d.on = s'.on) (lim : s'.d.lim = limD s'.left) (l0 : -1 ≤ s'.left) (w : s'.d.w = s'.w) (r : s'.d.r = s'.r) (f : s'.d.fl = s'.f) (rs : s'.d.rs = s'.rs) : Sem n s' := by
  have ll := landed_len s.d es
  have b1 := S.b1
  have b2 := S.b2
  refine ⟨by rw [z]; exact S.z0, by rw [z]; exact S.z1, on, lim, l0, lo, by rw [dq, qu], by rw [qu]; simp, by rw [sh, landS_len, z]; exact S.sl, ?_, ?_, ?_, w, r, f, rs, by rw [pl, qu]; simp; omega, by rw [fo, qu]; simp; omega, by rw [la, qu]; simp⟩
  · rw [sh]
    intro e he
    rcases landS_mem he with h | h
    · exact (S.ent e (hes e h)).2.2
    · exact S.sw e h
  · intro a a0
    rw [la, qu]; rfl
  · intro a e he
    rw [sh] at he
    have ha : a < s.sh.length := by have := (List.getElem?_eq_some_iff.mp he).1; rwa [landS_len] at this
    rw [landS_at _ _ ha _ fun e m => (S.ent e (hes e m)).1] at he
    rw [pl, landed_pl]
    cases h : lastE es (a : Int) with
    | some x => rw [h] at he; cases he; exact .inl rfl
    | none =>
      rw [h] at he
      exact S.pl a e (by simpa using he)
section
variable {h h' : M} {τ τ' : Nat → Nat} {B b c : Nat} {m m' : Int} {n n' : Nat} {ss : List Seat} {i : Nat} {s s' : Seat} {S : List Nat} {Q : D → M → Prop} {X : XP} {a : Int}
theorem restarted {x : Nat} {ps : List (Nat × Ent)} (W : Wld h τ B b c m n ss) (hn : n ≤ 100000) (hi : ss[i]? = some s) (ex : h[x]? = some (.lst (ps.map fun y => D.int y.1))) (hx : x ∉ s.pls) (hq : ∀ y ∈ ps, s.qu[y.1]? = some y.2) (nd : (ps.map (·.1)).Nodup) (hl : ps.length ≤ s.qu.length)
    (K : KT B b c m n ss i s Q) : @Wc D (m_law_restarted_u [.loc s.p, .loc x] h) ⟨Q, X⟩ := by
  unfold m_law_restarted_u; rw [wp_fn]; unfold b_law_restarted_u
  have SA := W.ea i s hi
  have b1 := SA.sm.b1
  have b2 := SA.sm.b2
  have ne := SA.ne
  have lx := at_lt ex
  have sld := SA.lt
  have dmem : ∀ y ∈ s.d.pls, y ∈ s.pls := fun y hy => by simp [Seat.pls, hy]
  have pm : s.p ∈ s.pls := by simp [Seat.pls]
  have qm : s.q ∈ s.pls := by simp [Seat.pls]
  have vm : s.v ∈ s.pls := by simp [Seat.pls]
  rw [ws_seq]
  refine Ws.cut (fun e h' => h' = h ++ [.lst (ps.map lD)] ∧ e = [.va (.loc s.p), .va (.loc x), .va (.loc h.length), .no]) ?_ ?_
  · simp [ex]
    refine lcloop_map (f := fun y : Nat × Ent => D.int y.1) (fun p acc h' => h' = h ++ [.lst acc] ∧ acc = p.map lD) ⟨rfl, rfl⟩ ?_ ?_ ?_
    · rintro p acc _ _ ⟨rfl, _⟩
      exact lstOf_at (at_app ex)
    · rintro p y q acc _ hxx ⟨rfl, rfl⟩
      have hlen : p.length < ps.length := by have := congrArg List.length hxx; simp at this; omega
      simp [lD, size24]; omega
    · rintro acc _ ⟨rfl, rfl⟩
      simp
  rintro _ h1 ⟨e1, rfl⟩
  have F1 : Fr [] h h1 := by rw [e1]; exact .cat _
  have ey : h1[h.length]? = some (.lst (ps.map lD)) := by rw [e1]; simp
  clear e1
  have A1 := SA.A.fr0 F1
  have ep1 := F1.at SA.ep
  have len1 := F1.len
  rw [ws_seq]
  refine Ws.cut (fun e h' => ∃ q t, h1.length ≤ q ∧ h1.length ≤ t ∧ DkAt h' (again s.d (ps.map (·.2)) q t) ∧ Fr s.d.pls h1 h' ∧ e = [.va (.loc s.p), .va (.loc x), .va (.loc h.length), .no]) ?_ ?_
  · simp [-v_hasM, o_disk ep1, m_restart A1.eo]
    refine restart A1 ey (fun z => by have := sld _ (dmem _ z); omega) (fun y hy => by rw [SA.sm.qu]; exact hq y hy) nd (by omega) (by omega) (by omega) fun h2 q t l1 l2 A2 F2 => ?_
    simp
    exact ⟨q, l1, t, l2, A2, F2⟩
  rintro _ h2 ⟨q, t, lq, lt, A2, F2, rfl⟩
  have np : s.p ∉ s.d.pls := fun z => (SA.dn _ z).1 rfl
  have nq : s.q ∉ s.d.pls := fun z => (SA.dn _ z).2.1 rfl
  have nv : s.v ∉ s.d.pls := fun z => (SA.dn _ z).2.2 rfl
  have ep2 := F2.at_ _ _ np ep1
  have eq2 := F2.at_ _ _ nq (F1.at SA.eq)
  have ev2 := F2.at_ _ _ nv (F1.at SA.ev)
  have ex2 := F2.at_ _ _ (fun z => hx (dmem _ z)) (F1.at ex)
  have len2 := F2.len
  rw [ws_seq]
  refine Ws.cut (fun e h' => ∃ q', h2.length ≤ q' ∧ h'[s.v]? = some (.lst ((landS s.sh (ps.map (·.2))).map kD)) ∧ h'[s.p]? = some (StO s.d.o s.d.z q' s.on s.left s.v s.w s.f s.r s.rs) ∧ h'[q']? = some (.lst []) ∧ Fr [s.v, s.p] h2 h' ∧ e = [.va (.loc s.p), .va (.loc x), .va (.loc h.length), .no]) ?_ ?_
  · simp
    refine lawLand ep2 eq2 ev2 ex2 ?_ hq ?_ fun h3 q' l3 ev3 ep3 eq3 F3 => ?_
    · simp only [List.nodup_cons, List.mem_cons, List.not_mem_nil, or_false, not_or, List.nodup_nil, and_true, not_false_eq_true]
      exact ⟨⟨ne.1, ne.2.1, fun z => hx (z ▸ pm)⟩, ⟨ne.2.2, fun z => hx (z ▸ qm)⟩, fun z => hx (z ▸ vm)⟩
    · intro y hy
      have := SA.sm.ent y.2 (List.mem_of_getElem? (hq y hy))
      have hsl := SA.sm.sl
      exact ⟨this.1, by omega⟩
    simp
    exact ⟨q', l3, ev3, ep3, eq3, F3⟩
  rintro _ h3 ⟨q', l3, ev3, ep3, eq3, F3, rfl⟩
  have p4 := at_set (u := StO s.d.o s.d.z q' true s.left s.v s.w s.f s.r s.rs) ep3
  have p5 := at_set (u := StO s.d.o s.d.z q' true (-1) s.v s.w s.f s.r s.rs) ep3
  simp [u_on ep3, u_left p4, o_restarts p5, u_restarts p5]
  have F4 : Fr [s.p] h3 (h3.set s.p (StO s.d.o s.d.z q' true (-1) s.v s.w s.f s.r (s.rs + 1))) := Fr.set _ (by simp)
  have kp := landed_kept s.d (ps.map (·.2))
  obtain ⟨k1, k2, k3, k4, k5, k6, k7, k8, k9, k10, k11, k12, k13, k14, k15⟩ := kp
  have plA : ∀ y ∈ (again s.d (ps.map (·.2)) q t).pls, y ∈ s.d.pls ∨ y = q ∨ y = t := by
    intro y hy
    simp only [Dk.pls, again, k1, k2, k3, k4, List.mem_cons, List.not_mem_nil, or_false] at hy ⊢
    rcases hy with h | h | h | h | h | h
    · exact .inl (.inl h)
    · exact .inl (.inr (.inl h))
    · exact .inl (.inr (.inr (.inl h)))
    · exact .inl (.inr (.inr (.inr (.inl h))))
    · exact .inr (.inl h)
    · exact .inr (.inr h)
  have A3 : DkAt h3 (again s.d (ps.map (·.2)) q t) := A2.fr F3 fun y hy mm => by
    simp only [List.mem_cons, List.not_mem_nil, or_false] at mm
    have lp := sld _ pm
    have lv := sld _ vm
    rcases plA y hy with z | z | z
    · rcases mm with rfl | rfl
      · exact nv z
      · exact np z
    · rcases mm with rfl | rfl <;> omega
    · rcases mm with rfl | rfl <;> omega
  have A4 : DkAt (h3.set s.p (StO s.d.o s.d.z q' true (-1) s.v s.w s.f s.r (s.rs + 1))) (again s.d (ps.map (·.2)) q t) := A3.fr F4 fun y hy mm => by
    have lp := sld _ pm
    rw [List.mem_singleton.mp mm] at hy
    rcases plA _ hy with z | z | z
    · exact np z
    · omega
    · omega
  have hqA : q < h2.length := A2.lt q (by simp [Dk.pls, again])
  have htA : t < h2.length := A2.lt t (by simp [Dk.pls, again])
  have FT : Fr (s.v :: s.p :: s.d.pls) h (h3.set s.p (StO s.d.o s.d.z q' true (-1) s.v s.w s.f s.r (s.rs + 1))) :=
    ((F1.nil.trans (F2.mono (by simp; intro y hy; exact .inr (.inr hy)))).trans (F3.mono (by simp))).trans (F4.mono (by simp))
  have hSm : ∀ y ∈ s.v :: s.p :: s.d.pls, y ∈ s.pls := by
    intro y hy
    simp only [List.mem_cons] at hy
    rcases hy with rfl | rfl | hy
    · exact vm
    · exact pm
    · exact dmem y hy
  obtain ⟨nb, nc⟩ := bS W hi
  have lp := sld _ pm
  have lv := sld _ vm
  refine K _ _ { s with d := again s.d (ps.map (·.2)) q t, q := q', qu := [], sh := landS s.sh (ps.map (·.2)), on := true, left := -1, rs := s.rs + 1 } rfl
    (W.turn (n' := n) hi FT (fun y hy _ => .inl (hSm y hy)) (W.pot.fr FT (fun z => nb (hSm b z)) (fun z => nc (hSm c z))) [] A4 ?_ ?_ ?_ ?_ ?_ ?_ ?_ rfl (Nat.le_refl _))
  · show (h3.set s.p (StO s.d.o s.d.z q' true (-1) s.v s.w s.f s.r (s.rs + 1)))[s.p]? = some (StO (landed s.d (ps.map (·.2))).o (landed s.d (ps.map (·.2))).z q' true (-1) s.v s.w s.f s.r (s.rs + 1))
    rw [at_set ep3, k1, k7]
  · exact F4.at_ _ _ (by simp; omega) eq3
  · exact F4.at_ _ _ (by simp; exact Ne.symm ne.2.1) ev3
  · intro y hy
    simp only [Seat.pls, List.mem_cons] at hy
    rcases hy with rfl | rfl | rfl | hy
    · exact .inl pm
    · exact .inr ⟨by omega, by simp⟩
    · exact .inl vm
    · rcases plA y hy with z | z | z
      · exact .inl (dmem y z)
      · exact .inr ⟨by omega, by simp⟩
      · exact .inr ⟨by omega, by simp⟩
  · simp only [Seat.pls, List.nodup_cons, List.mem_cons, not_or]
    have nA : ∀ y, y ∉ s.d.pls → y ≠ q → y ≠ t → y ∉ (again s.d (ps.map (·.2)) q t).pls := fun y h1 h2 h3 hy => by
      rcases plA y hy with z | z | z
      · exact h1 z
      · exact h2 z
      · exact h3 z
    exact ⟨⟨by omega, ne.2.1, nA _ np (by omega) (by omega)⟩, ⟨by omega, nA _ (fun z => by have := sld _ (dmem _ z); omega) (by omega) (by omega)⟩, nA _ nv (by omega) (by omega), A2.nd⟩
  · intro e he
    rcases he with z | z
    · cases z
    · rcases landS_mem z with y | y
      · obtain ⟨p, hp1, rfl⟩ := List.mem_map.mp y
        exact .inl (.inl (List.mem_of_getElem? (hq p hp1)))
      · exact .inl (.inr y)
  · refine SA.sm.ld (es := ps.map (·.2)) (fun e he => ?_) (by simpa using hl) k7 rfl rfl (landed_lo _ _ SA.sm.lo) rfl rfl rfl rfl rfl rfl (by show (-1 : Int) ≤ -1; decide) ?_ ?_ ?_ ?_
    · obtain ⟨p, hp1, rfl⟩ := List.mem_map.mp he
      exact List.mem_of_getElem? (hq p hp1)
    · show (landed s.d (ps.map (·.2))).w = s.w
      rw [k12, SA.sm.w]
    · show (landed s.d (ps.map (·.2))).r = s.r
      rw [k13, SA.sm.r]
    · show (landed s.d (ps.map (·.2))).fl = s.f
      rw [k14, SA.sm.f]
    · show s.d.rs + 1 = s.rs + 1
      rw [SA.sm.rs]
end
end K06
set_option Elab.async false
set_option linter.all false
set_option maxRecDepth 100000
set_option maxHeartbeats 1000000
namespace K06
open PySem L2 LF NW
/-- the queue in order, numbered from j -/
def enumE : Nat → List Ent → List (Nat × Ent)
  | _, [] => []
  | j, e :: es => (j, e) :: enumE (j + 1) es
theorem enumE_snd : ∀ (j : Nat) (es : List Ent), (enumE j es).map (·.2) = es
  | j, [] => rfl
  | j, e :: es => by simp [enumE, enumE_snd (j + 1) es]
theorem enumE_fst : ∀ (j : Nat) (es : List Ent), (enumE j es).map (fun y => D.int y.1) = rgItems j es.length
  | j, [] => rfl
  | j, e :: es => by
    simp only [enumE, List.map_cons, enumE_fst (j + 1) es, rgItems, List.length_cons, List.range_succ_eq_map, List.map_map]
    congr 1
    simp
    intro x _; omega
theorem enumE_mem : ∀ (j : Nat) (es : List Ent), ∀ y ∈ enumE j es, j ≤ y.1 ∧ es[y.1 - j]? = some y.2
  | j, [], y, h => by simp [enumE] at h
  | j, e :: es, y, h => by
    simp only [enumE, List.mem_cons] at h
    rcases h with rfl | h
    · simp
    · obtain ⟨h1, h2⟩ := enumE_mem (j + 1) es y h
      refine ⟨by omega, ?_⟩
      rw [show y.1 - j = (y.1 - (j + 1)) + 1 by omega, List.getElem?_cons_succ]; exact h2
theorem enumE_len : ∀ (j : Nat) (es : List Ent), (enumE j es).length = es.length
  | j, [] => rfl
  | j, e :: es => by simp [enumE, enumE_len (j + 1) es]
theorem enumE_nd : ∀ (j : Nat) (es : List Ent), ((enumE j es).map (·.1)).Nodup
  | j, [] => by simp [enumE]
  | j, e :: es => by
    simp only [enumE, List.map_cons, List.nodup_cons]
    refine ⟨fun h => ?_, enumE_nd (j + 1) es⟩
    obtain ⟨y, h1, h2⟩ := List.mem_map.mp h
    have := (enumE_mem _ _ y h1).1
    omega
def dec (L : Int) : Int := if L = -1 then -1 else L - 1
section
variable {h h' : M} {τ τ' : Nat → Nat} {B b c : Nat} {m m' : Int} {n n' : Nat} {ss : List Seat} {i : Nat} {s s' : Seat} {S : List Nat} {Q : D → M → Prop} {X : XP} {a : Int}
theorem latestR {p q v o : Nat} {z left w f r rs : Int} {on : Bool} {qu sh : List Ent} {e : Ent} (ep : h[p]? = some (StO o z q on left v w f r rs)) (eq : h[q]? = some (.lst (qu.map dE))) (ev : h[v]? = some (.lst (sh.map kD))) (a0 : 0 ≤ a) (e1 : sh[a.toNat]? = some e) (K : ∀ e, (lastE qu a).or sh[a.toNat]? = some e → Q (.loc e.k) h) : @Wc D (m_law_latest_u [.loc p, .int a] h) ⟨Q, X⟩ := by
  unfold m_law_latest_u; rw [wp_fn]; unfold b_law_latest_u
  rw [ws_seq]
  refine Ws.cut (fun e' h' => h = h' ∧ e' = [.va (.loc p), .va (.int a), .va (.loc e.k), .no]) ?_ ?_
  · simp [o_shown ep, ev, atN (f := kD) a0 e1, kD]
  rintro _ _ ⟨rfl, rfl⟩
  rw [ws_seq]
  refine Ws.cut (fun e' h' => h = h' ∧ ∃ x s3, (lastE qu a).or sh[a.toNat]? = some x ∧ e' = [.va (.loc p), .va (.int a), .va (.loc x.k), s3]) ?_ ?_
  · simp [o_queue ep, eq]
    refine floop_map (f := dE) (fun l e' h' => h = h' ∧ ∃ x s3, (lastE l a).or sh[a.toNat]? = some x ∧ e' = [.va (.loc p), .va (.int a), .va (.loc x.k), s3]) ⟨rfl, e, .no, by simpa [lastE] using e1, rfl⟩ ?_ ?_ ?_
    · rintro l _ _ _ ⟨rfl, _⟩
      exact lstOf_at eq
    · rintro l y k _ _ hx ⟨rfl, x, s3, hx2, rfl⟩
      rw [lastE_snoc]
      by_cases ha : y.a = a
      · simp [dE, ha]
      · simp [dE, ha]
        exact ⟨x, by simpa using hx2, rfl⟩
    · rintro _ _ ⟨rfl, x, s3, hx, rfl⟩
      exact ⟨rfl, x, s3, hx, rfl⟩
  rintro _ _ ⟨rfl, x, s3, hx, rfl⟩
  simp
  exact K x hx
theorem landed_lim (d : Dk) (L : D) (es : List Ent) : landed { d with lim := L } es = { landed d es with lim := L } := by
  induction es using snoc_ind with
  | h0 => rfl
  | h1 es e ih => rw [landed_snoc, landed_snoc, ih]; rfl
theorem counted {w : Int} (W : Wld h τ B b c m n ss) (hm : m ≤ 900000) (hn : n ≤ 100000) (hw : w = 0 ∨ w = 1) (hi : ss[i]? = some s) (K : KT B b c (m + 4) (n + 1) ss i s Q) : @Wc D (m_law_counted_u [.loc s.p, .int w, .loc b] h) ⟨Q, X⟩ := by
  unfold m_law_counted_u; rw [wp_fn]; unfold b_law_counted_u
  have z8 := (W.ea i s hi).sm.z0
  have z9 := (W.ea i s hi).sm.z1
  rw [ws_seq]
  refine Ws.cut (fun e h' => h = h' ∧ e = [.va (.loc s.p), .va (.int w), .va (.loc b), .va (.loc s.d.o), .no, .no, .no]) ?_ ?_
  · simp [o_disk (W.ea i s hi).ep]
  rintro _ _ ⟨rfl, rfl⟩
  rw [ws_seq]
  refine Ws.cut (fun e h' => Wld h' τ B b c (m + 1) n ss ∧ ∃ a : Int, 0 ≤ a ∧ a < s.d.z ∧ e = [.va (.loc s.p), .va (.int w), .va (.loc b), .va (.loc s.d.o), .va (.int a), .no, .no]) ?_ ?_
  · simp [o_blocks (W.ea i s hi).ep]
    refine drawW W (by omega) (by omega) (by omega) fun z h1 z0 z1 W1 F1 => ?_
    simp
    exact ⟨W1, z0, z1⟩
  rintro _ h1 ⟨W1, a, a0, a1, rfl⟩
  have SA := W1.ea i s hi
  have b1 := SA.sm.b1
  have b2 := SA.sm.b2
  have b3 := SA.sm.b3
  have ne := SA.ne
  have sld := SA.lt
  have dmem : ∀ y ∈ s.d.pls, y ∈ s.pls := fun y hy => by simp [Seat.pls, hy]
  have pm : s.p ∈ s.pls := by simp [Seat.pls]
  have qm : s.q ∈ s.pls := by simp [Seat.pls]
  have vm : s.v ∈ s.pls := by simp [Seat.pls]
  have om : s.d.o ∈ s.d.pls := by simp [Dk.pls]
  have np : s.p ∉ s.d.pls := fun z => (SA.dn _ z).1 rfl
  have nq : s.q ∉ s.d.pls := fun z => (SA.dn _ z).2.1 rfl
  have nv : s.v ∉ s.d.pls := fun z => (SA.dn _ z).2.2 rfl
  obtain ⟨nb, nc⟩ := bS W1 hi
  have lp := sld _ pm
  have lv := sld _ vm
  have lqq := sld _ qm
  have hPO : ∀ y ∈ [s.p, s.d.o], y < h1.length → y ∈ s.pls := by
    intro y hy _
    simp only [List.mem_cons, List.not_mem_nil, or_false] at hy
    rcases hy with rfl | rfl
    · exact pm
    · exact dmem _ om
  rw [ws_seq]
  by_cases hdark : s.on = false ∨ s.left = 0
  · -- no power
    have Fp : Fr [s.p] h1 (h1.set s.p (StO s.d.o s.d.z s.q false s.left s.v s.w s.f s.r s.rs)) := Fr.set _ (by simp)
    have A2 : DkAt (h1.set s.p (StO s.d.o s.d.z s.q false s.left s.v s.w s.f s.r s.rs)) s.d := SA.A.fr Fp SA.p1
    have ep2 := at_set (u := StO s.d.o s.d.z s.q false s.left s.v s.w s.f s.r s.rs) SA.ep
    have R : @Wc D (m_law_refusal_u [.loc s.d.o, .int w, .int a, .str "power"] (h1.set s.p (StO s.d.o s.d.z s.q false s.left s.v s.w s.f s.r s.rs))) ⟨Q, X⟩ := by
      refine refuse01 A2 SA.sm.lim (by rw [SA.sm.on]; exact hdark) a0 a1 hw fun h3 A3 F3 => ?_
      have ep3 := F3.at_ _ _ SA.po ep2
      have F : Fr [s.p, s.d.o] h1 h3 := (Fp.mono (by simp)).trans (F3.mono (by simp))
      obtain ⟨τ3, W3⟩ := W1.stay (s' := { s with d := { s.d with on := false }, on := false }) hi F hPO A3 rfl rfl rfl rfl rfl rfl ep3 SA.qn SA.vn
        ⟨SA.sm.z0, SA.sm.z1, rfl, SA.sm.lim, SA.sm.l0, SA.sm.lo, SA.sm.qu, SA.sm.ent, SA.sm.sl, SA.sm.sw, SA.sm.la, SA.sm.pl, SA.sm.w, SA.sm.r, SA.sm.f, SA.sm.rs, SA.sm.b1, SA.sm.b2, SA.sm.b3⟩
      exact K _ _ { s with d := { s.d with on := false }, on := false } rfl (W3.more (by omega) (by omega))
    cases hon : s.on with
    | false =>
      simp [o_on SA.ep, hon, tbt, u_on SA.ep]
      exact R
    | true =>
      have hl0 : s.left = 0 := by rcases hdark with z | z; (rw [hon] at z; cases z); exact z
      simp [o_on SA.ep, hon, tbt, u_on SA.ep, o_left SA.ep, hl0]
      rw [hl0] at R
      exact R
  have hon : s.on = true := by cases h : s.on with
    | true => rfl
    | false => exact absurd (.inl h) hdark
  have hl0 : s.left ≠ 0 := fun z => hdark (.inr z)
  have lm := SA.sm.l0
  have hlk : s.left = -1 ∨ 0 < s.left := by omega
  refine Ws.cut (fun e h' => h1 = h' ∧ e = [.va (.loc s.p), .va (.int w), .va (.loc b), .va (.loc s.d.o), .va (.int a), .no, .no]) ?_ ?_
  · simp [o_on SA.ep, hon, tbt, o_left SA.ep, hl0]
  rintro _ _ ⟨rfl, rfl⟩
  rw [ws_seq]
  refine Ws.cut (fun e h' => h'[s.p]? = some (StO s.d.o s.d.z s.q true (dec s.left) s.v s.w s.f s.r s.rs) ∧ Fr [s.p] h1 h' ∧ e = [.va (.loc s.p), .va (.int w), .va (.loc b), .va (.loc s.d.o), .va (.int a), .no, .no]) ?_ ?_
  · have ep := SA.ep
    rw [hon] at ep
    by_cases hl : 0 < s.left
    · simp [o_left ep, hl, u_left ep]
      refine ⟨?_, Fr.set _ (by simp)⟩
      rw [at_set ep]; unfold dec; rw [if_neg (by omega)]
    · have e1 : s.left = -1 := by omega
      simp [o_left ep, hl]
      refine ⟨?_, .refl _ _⟩
      rw [ep, e1]; rfl
  rintro _ h2 ⟨ep2, F2, rfl⟩
  have A2 : DkAt h2 s.d := SA.A.fr F2 SA.p1
  have eq2 := F2.at_ _ _ (by simp; exact Ne.symm ne.1) SA.eq
  have ev2 := F2.at_ _ _ (by simp; exact Ne.symm ne.2.1) SA.ev
  have P2 : Pot h2 b c (m + 1) := W1.pot.fr F2 (by simp; exact fun z => nb (z ▸ pm)) (by simp; exact fun z => nc (z ▸ pm))
  have len2 := F2.len
  have im2 : ∀ e, e ∈ s.qu ∨ e ∈ s.sh → h2[e.k]? = some (.lst (e.ws.map .int)) := fun e he => by
    obtain ⟨q1, q2⟩ := SA.im e he
    exact F2.at_ _ _ (by simp; intro z; have := SA.tg _ pm; rw [z] at q1; omega) q2
  rw [ws_seq]
  rcases hw with rfl | rfl
  · -- a write
    obtain ⟨e0, l1, l2⟩ := SA.sm.at_ a0 a1
    simp
    refine latestR ep2 eq2 ev2 a0 l1 fun e he => ?_
    have hl : lookE s a = some e := he
    obtain ⟨e', g1, g2, g3, g4⟩ := SA.sm.look a0 a1
    rw [hl] at g1
    cases g1
    have ekb : e.k ≠ b := fun z => by
      have := (SA.im e g2).1
      rw [z, W1.tb] at this
      omega
    simp
    refine words P2 (by omega) (im2 e g2) ekb g3 fun k h3 ws hw lk ek P3 F3 => ?_
    have pb : s.p ≠ b := fun z => nb (z ▸ pm)
    have qb : s.q ≠ b := fun z => nb (z ▸ qm)
    have vb : s.v ≠ b := fun z => nb (z ▸ vm)
    have ep3 := F3.at_ _ _ (by simpa using pb) ep2
    have eq3 := F3.at_ _ _ (by simpa using qb) eq2
    have ev3 := F3.at_ _ _ (by simpa using vb) ev2
    have len3 := F3.len
    have A3 : DkAt h3 s.d := A2.fr F3 fun y hy mm => nb (List.mem_singleton.mp mm ▸ dmem y hy)
    have F4 : Fr [s.q] h3 (h3.set s.q (.lst (s.qu.map dE ++ [.tup [.int a, .loc k]]))) := Fr.set _ (by simp)
    have ep4 := F4.at_ _ _ (by simp; exact ne.1) ep3
    have F5 : Fr [s.p] (h3.set s.q (.lst (s.qu.map dE ++ [.tup [.int a, .loc k]]))) ((h3.set s.q (.lst (s.qu.map dE ++ [.tup [.int a, .loc k]]))).set s.p (StO s.d.o s.d.z s.q true (dec s.left) s.v (s.w + 1) s.f s.r s.rs)) := Fr.set _ (by simp)
    have ep5 := at_set (u := StO s.d.o s.d.z s.q true (dec s.left) s.v (s.w + 1) s.f s.r s.rs) ep4
    have eq5 := F5.at_ _ _ (by simp; exact Ne.symm ne.1) (at_set (u := .lst (s.qu.map dE ++ [.tup [.int a, .loc k]])) eq3)
    have ek5 := F5.at_ _ _ (by simp; omega) (F4.at_ _ _ (by simp; omega) ek)
    have ev5 := F5.at_ _ _ (by simp; exact Ne.symm ne.2.1) (F4.at_ _ _ (by simp; exact Ne.symm ne.2.2) ev3)
    have A5 : DkAt ((h3.set s.q (.lst (s.qu.map dE ++ [.tup [.int a, .loc k]]))).set s.p (StO s.d.o s.d.z s.q true (dec s.left) s.v (s.w + 1) s.f s.r s.rs)) s.d :=
      (A3.fr F4 fun y hy mm => nq (List.mem_singleton.mp mm ▸ hy)).fr F5 fun y hy mm => np (List.mem_singleton.mp mm ▸ hy)
    have lenh : ((h3.set s.q (.lst (s.qu.map dE ++ [.tup [.int a, .loc k]]))).set s.p (StO s.d.o s.d.z s.q true (dec s.left) s.v (s.w + 1) s.f s.r s.rs)).length = h3.length := by simp
    have F45 := (F4.mono (S' := [s.q, s.p]) (by simp)).trans (F5.mono (by simp))
    simp [-v_hasM, o_queue ep3, eq3, size24, o_writes ep4, u_writes ep4, ek5, m_write A5.eo]
    refine ⟨by omega, ?_⟩
    generalize (h3.set s.q (.lst (s.qu.map dE ++ [.tup [.int a, .loc k]]))).set s.p (StO s.d.o s.d.z s.q true (dec s.left) s.v (s.w + 1) s.f s.r s.rs) = h5 at ep5 eq5 ek5 ev5 A5 lenh F45 ⊢
    have A6 := A5.fr0 (.cat [O.lst (ws.map .int)])
    have eh6 : (h5 ++ [O.lst (ws.map .int)])[h3.length]? = some (.lst (ws.map .int)) := by rw [← lenh]; simp
    refine write (j := k) (L := s.left) A6 (by rw [SA.sm.on]; exact hon) SA.sm.lim hlk a0 a1 eh6 (fun z => by have := sld _ (dmem _ z); omega) (by rw [SA.sm.qu]; omega) (by omega) fun h7 A7 F7 => ?_
    simp
    have hdec : (if s.left = -1 then -1 else s.left - 1) = dec s.left := rfl
    rw [hdec] at A7
    have q1m : s.d.q ∈ s.d.pls := by simp [Dk.pls]
    have t1m : s.d.t ∈ s.d.pls := by simp [Dk.pls]
    have F6 : Fr [] h5 (h5 ++ [O.lst (ws.map .int)]) := .cat _
    have FT : Fr [b, s.q, s.p, s.d.o, s.d.q, s.d.t] h1 h7 := ((((F2.mono (by simp)).trans (F3.mono (by simp))).trans (F45.mono (by simp))).trans F6.nil).trans (F7.mono (by simp))
    have n7 : ∀ y, y ∉ s.d.pls → y ∉ [s.d.o, s.d.q, s.d.t] := fun y hy mm => by
      simp only [List.mem_cons, List.not_mem_nil, or_false] at mm
      rcases mm with rfl | rfl | rfl
      · exact hy om
      · exact hy q1m
      · exact hy t1m
    have kn : k ∉ s.d.pls := fun z => by have := sld _ (dmem _ z); omega
    have bn : b ∉ s.d.pls := fun z => nb (dmem _ z)
    have cn : c ∉ s.d.pls := fun z => nc (dmem _ z)
    have P7 : Pot h7 b c (m + 4) := (((P3.fr F45 (by simp; exact ⟨Ne.symm qb, Ne.symm pb⟩) (by simp; exact ⟨fun z => nc (z ▸ qm), fun z => nc (z ▸ pm)⟩)).fr F6 (by simp) (by simp)).fr F7 (n7 b bn) (n7 c cn)).le (by omega)
    have hS7 : ∀ y ∈ [b, s.q, s.p, s.d.o, s.d.q, s.d.t], y < h1.length → y ∈ s.pls ∨ y = b := by
      intro y hy _
      simp only [List.mem_cons, List.not_mem_nil, or_false] at hy
      rcases hy with rfl | rfl | rfl | rfl | rfl | rfl
      · exact .inr rfl
      · exact .inl qm
      · exact .inl pm
      · exact .inl (dmem _ om)
      · exact .inl (dmem _ q1m)
      · exact .inl (dmem _ t1m)
    refine K _ _ { s with d := { s.d with lim := limD (dec s.left), qu := s.d.qu ++ [⟨a, ws, k⟩], la := putD s.d.la (.inl a) (.tup (ws.map .int)), w := s.d.w + 1 }, qu := s.qu ++ [⟨a, ws, k⟩], left := dec s.left, w := s.w + 1 } rfl
      (W1.turn (n' := n + 1) hi FT hS7 P7 [k] A7 ?_ ?_ ?_ (fun y hy => .inl hy) SA.nd ?_ ?_ rfl (by omega))
    · show h7[s.p]? = some (StO s.d.o s.d.z s.q s.on (dec s.left) s.v (s.w + 1) s.f s.r s.rs)
      rw [hon]
      exact F7.at_ _ _ (n7 _ np) (F6.at ep5)
    · show h7[s.q]? = some (.lst ((s.qu ++ [_]).map dE))
      have := F7.at_ _ _ (n7 _ nq) (F6.at eq5)
      rw [this]; simp [dE]
    · exact F7.at_ _ _ (n7 _ nv) (F6.at ev5)
    · intro x hx
      rcases hx with z | z
      · rcases List.mem_append.mp z with y | y
        · exact .inl (.inl y)
        · cases List.mem_singleton.mp y
          exact .inr ⟨by simp, by show h1.length ≤ k; omega, F7.at_ _ _ (n7 _ kn) (F6.at ek5)⟩
      · exact .inl (.inr z)
    · have hpl := putD_len (kvs := s.d.la) (k := (.inl a : Key)) (d := .tup (ws.map .int))
      refine ⟨SA.sm.z0, SA.sm.z1, SA.sm.on, rfl, by show -1 ≤ dec s.left; unfold dec; split <;> omega, SA.sm.lo, by show s.d.qu ++ _ = s.qu ++ _; rw [SA.sm.qu], ?_, SA.sm.sl, SA.sm.sw, ?_, SA.sm.pl, by show s.d.w + 1 = s.w + 1; rw [SA.sm.w], SA.sm.r, SA.sm.f, SA.sm.rs, ?_, ?_, ?_⟩
      · intro x hx
        rcases List.mem_append.mp hx with y | y
        · exact SA.sm.ent x y
        · cases List.mem_singleton.mp y; exact ⟨a0, a1, hw⟩
      · intro a' h'
        show valD (putD _ _ _) _ = (lastE (s.qu ++ [_]) a').map tupW
        rw [valD_put, lastE_snoc]
        by_cases hh : a = a'
        · subst hh; simp [tupW]
        · rw [if_neg (by simpa using Ne.symm hh)]; simp only [hh, if_false]; exact SA.sm.la a' h'
      · show s.d.pl.length + (s.qu ++ [_]).length ≤ n + 1
        simp; omega
      · show s.d.fo.length + (s.qu ++ [_]).length ≤ n + 1
        simp; omega
      · show (putD _ _ _).length ≤ (s.qu ++ [_]).length
        simp; omega
  · -- a flush
    refine Ws.cut (fun e h' => h2 = h' ∧ e = [.va (.loc s.p), .va (.int 1), .va (.loc b), .va (.loc s.d.o), .va (.int a), .no, .no]) ?_ ?_
    · simp
    rintro _ _ ⟨rfl, rfl⟩
    rw [ws_seq]
    refine Ws.cut (fun e h' => ∃ q', h2.length ≤ q' ∧ h'[s.v]? = some (.lst ((landS s.sh s.qu).map kD)) ∧ h'[s.p]? = some (StO s.d.o s.d.z q' true (dec s.left) s.v s.w s.f s.r s.rs) ∧ h'[q']? = some (.lst []) ∧ Fr [s.v, s.p] h2 h' ∧ e = [.va (.loc s.p), .va (.int 1), .va (.loc b), .va (.loc s.d.o), .va (.int a), .no, .no]) ?_ ?_
    · simp [o_queue ep2, eq2]
      refine ⟨by omega, ?_⟩
      refine lcloop_inv (fun j acc h' => h' = h2 ++ [.lst acc] ∧ acc = (rgItems 0 s.qu.length).take j) ⟨rfl, rfl⟩ (fun _ _ _ _ _ => trivial) ?_ ?_
      · rintro j d acc _ hd ⟨rfl, rfl⟩
        have e2 : (rgItems 0 s.qu.length).take (j + 1) = (rgItems 0 s.qu.length).take j ++ [d] := by rw [List.take_succ, hd]; rfl
        rw [e2]
        obtain ⟨hj, rfl⟩ := rg_at hd
        simp [size24]; omega
      · rintro acc _ ⟨rfl, rfl⟩
        rw [List.take_length]
        simp
        have F3 : Fr [] h2 (h2 ++ [O.lst (rgItems 0 s.qu.length)]) := .cat _
        have ex : (h2 ++ [O.lst (rgItems 0 s.qu.length)])[h2.length]? = some (.lst ((enumE 0 s.qu).map fun y => D.int y.1)) := by rw [enumE_fst]; simp
        refine lawLand (F3.at ep2) (F3.at eq2) (F3.at ev2) ex ?_ (fun y hy => by have := (enumE_mem _ _ y hy).2; simpa using this) (fun y hy => ?_) fun h3 q' l3 ev3 ep3 eq3 F4 => ?_
        · simp only [List.nodup_cons, List.mem_cons, List.not_mem_nil, or_false, not_or, List.nodup_nil, and_true, not_false_eq_true]
          exact ⟨⟨ne.1, ne.2.1, by omega⟩, ⟨ne.2.2, by omega⟩, by omega⟩
        · have h1 := (enumE_mem _ _ y hy).2
          have := SA.sm.ent y.2 (List.mem_of_getElem? h1)
          have hsl := SA.sm.sl
          exact ⟨this.1, by omega⟩
        rw [enumE_snd] at ev3
        simp
        exact ⟨q', by have := F3.len; omega, ev3, ep3, eq3, F3.nil.trans F4⟩
    rintro _ h3 ⟨q', l3, ev3, ep3, eq3, F3, rfl⟩
    have A3 : DkAt h3 s.d := A2.fr F3 fun y hy mm => by
      simp only [List.mem_cons, List.not_mem_nil, or_false] at mm
      rcases mm with rfl | rfl
      · exact nv hy
      · exact np hy
    have F4 : Fr [s.p] h3 (h3.set s.p (StO s.d.o s.d.z q' true (dec s.left) s.v s.w (s.f + 1) s.r s.rs)) := Fr.set _ (by simp)
    have ep4 := at_set (u := StO s.d.o s.d.z q' true (dec s.left) s.v s.w (s.f + 1) s.r s.rs) ep3
    have A4 := A3.fr F4 SA.p1
    have len3 := F3.len
    have len4 := F4.len
    have lq3 := at_lt eq3
    simp [-v_hasM, o_flushes ep3, u_flushes ep3, m_flush A4.eo]
    refine flush A4 (by rw [SA.sm.on]; exact hon) SA.sm.lim hlk (by rw [SA.sm.qu]; omega) (by rw [SA.sm.qu]; omega) fun h5 q t lq lt A5 F5 => ?_
    simp
    have hdec : (if s.left = -1 then -1 else s.left - 1) = dec s.left := rfl
    rw [hdec] at A5
    have kp := landed_kept s.d s.qu
    obtain ⟨k1, k2, k3, k4, k5, k6, k7, k8, k9, k10, k11, k12, k13, k14, k15⟩ := kp
    have hfl : flushed { s.d with lim := limD (dec s.left) } q t = { landed s.d s.qu with lim := limD (dec s.left), qu := [], la := [], q := q, t := t, fl := s.d.fl + 1 } := by
      unfold flushed
      rw [landed_lim]
      show _ = _
      simp only [SA.sm.qu]
    rw [hfl] at A5
    have plA : ∀ y ∈ ({ landed s.d s.qu with lim := limD (dec s.left), qu := [], la := [], q := q, t := t, fl := s.d.fl + 1 } : Dk).pls, y ∈ s.d.pls ∨ y = q ∨ y = t := by
      intro y hy
      simp only [Dk.pls, k1, k2, k3, k4, List.mem_cons, List.not_mem_nil, or_false] at hy ⊢
      rcases hy with h | h | h | h | h | h
      · exact .inl (.inl h)
      · exact .inl (.inr (.inl h))
      · exact .inl (.inr (.inr (.inl h)))
      · exact .inl (.inr (.inr (.inr (.inl h))))
      · exact .inr (.inl h)
      · exact .inr (.inr h)
    have FT : Fr (s.v :: s.p :: s.d.pls) h1 h5 :=
      (((F2.mono (by simp)).trans (F3.mono (by simp))).trans (F4.mono (by simp))).trans (F5.mono (by simp; intro y hy; exact .inr (.inr hy)))
    have hSm : ∀ y ∈ s.v :: s.p :: s.d.pls, y ∈ s.pls := by
      intro y hy
      simp only [List.mem_cons] at hy
      rcases hy with rfl | rfl | hy
      · exact vm
      · exact pm
      · exact dmem y hy
    have lenh : (h3.set s.p (StO s.d.o s.d.z q' true (dec s.left) s.v s.w (s.f + 1) s.r s.rs)).length = h3.length := by simp
    rw [lenh] at lq lt
    have P5 : Pot h5 b c (m + 4) := (W1.pot.fr FT (fun z => nb (hSm b z)) (fun z => nc (hSm c z))).le (by omega)
    have q'n : q' ∉ s.d.pls := fun z => by have := sld _ (dmem _ z); omega
    refine K _ _ { s with d := { landed s.d s.qu with lim := limD (dec s.left), qu := [], la := [], q := q, t := t, fl := s.d.fl + 1 }, q := q', qu := [], sh := landS s.sh s.qu, left := dec s.left, f := s.f + 1 } rfl
      (W1.turn (n' := n + 1) hi FT (fun y hy _ => .inl (hSm y hy)) P5 [] A5 ?_ ?_ ?_ ?_ ?_ ?_ ?_ rfl (by omega))
    · show h5[s.p]? = some (StO (landed s.d s.qu).o (landed s.d s.qu).z q' s.on (dec s.left) s.v s.w (s.f + 1) s.r s.rs)
      rw [k1, k7, hon]
      exact F5.at_ _ _ np ep4
    · exact F5.at_ _ _ q'n (F4.at_ _ _ (by simp; omega) eq3)
    · exact F5.at_ _ _ nv (F4.at_ _ _ (by simp; exact Ne.symm ne.2.1) ev3)
    · intro y hy
      simp only [Seat.pls, List.mem_cons] at hy
      rcases hy with rfl | rfl | rfl | hy
      · exact .inl pm
      · exact .inr ⟨by omega, by simp⟩
      · exact .inl vm
      · rcases plA y hy with z | z | z
        · exact .inl (dmem y z)
        · exact .inr ⟨by omega, by simp⟩
        · exact .inr ⟨by omega, by simp⟩
    · simp only [Seat.pls, List.nodup_cons, List.mem_cons, not_or]
      have nA : ∀ y, y ∉ s.d.pls → y ≠ q → y ≠ t → y ∉ ({ landed s.d s.qu with lim := limD (dec s.left), qu := [], la := [], q := q, t := t, fl := s.d.fl + 1 } : Dk).pls := fun y h1 h2 h3 hy => by
        rcases plA y hy with z | z | z
        · exact h1 z
        · exact h2 z
        · exact h3 z
      exact ⟨⟨by omega, ne.2.1, nA _ np (by omega) (by omega)⟩, ⟨by omega, nA _ q'n (by omega) (by omega)⟩, nA _ nv (by omega) (by omega), A5.nd⟩
    · intro e he
      rcases he with z | z
      · cases z
      · rcases landS_mem z with y | y
        · exact .inl (.inl y)
        · exact .inl (.inr y)
    · refine (SA.sm.ld (es := s.qu) (fun e he => he) (Nat.le_refl _) k7 rfl rfl (landed_lo _ _ SA.sm.lo) rfl rfl rfl rfl ?_ rfl ?_ ?_ ?_ ?_ ?_).mono (by omega)
      · show (landed s.d s.qu).on = s.on
        rw [k10, SA.sm.on]
      · show -1 ≤ dec s.left
        unfold dec; split <;> omega
      · show (landed s.d s.qu).w = s.w
        rw [k12, SA.sm.w]
      · show (landed s.d s.qu).r = s.r
        rw [k13, SA.sm.r]
      · show s.d.fl + 1 = s.f + 1
        rw [SA.sm.f]
      · show (landed s.d s.qu).rs = s.rs
        rw [k15, SA.sm.rs]
end
end K06
set_option Elab.async false
set_option linter.all false
set_option maxRecDepth 100000
set_option maxHeartbeats 1000000
namespace K06
open PySem L2 LF NW
def iD (k : Nat) : D := .int k
def FreeAt (h : M) (l N : Nat) : Prop := h[l]? = some (.lst ((List.range N).map iD))
section
variable {h h' : M} {τ τ' : Nat → Nat} {B b c : Nat} {m m' : Int} {n n' : Nat} {ss : List Seat} {i : Nat} {s s' : Seat} {S : List Nat} {Q : D → M → Prop} {X : XP} {a : Int}
theorem erase_map {α β : Type} {f : α → β} : ∀ (xs : List α) (i : Nat), (xs.map f).eraseIdx i = (xs.eraseIdx i).map f
  | [], i => by simp
  | x :: xs, 0 => by simp
  | x :: xs, i + 1 => by simp [erase_map xs i]
theorem perm_erase : ∀ (xs : List Nat) (i : Nat) (h : i < xs.length), (xs[i] :: xs.eraseIdx i).Perm xs
  | [], i, h => by simp at h
  | x :: xs, 0, h => by simp
  | x :: xs, i + 1, h => by
    have ih := perm_erase xs i (by simpa using h)
    simp only [List.getElem_cons_succ, List.eraseIdx_cons_succ]
    exact (List.Perm.swap _ _ _).trans (ih.cons x)
/-- an order as far as it is drawn: the places of the free and of the drawn ones -/
def OrdI (h' : M) (l l1 N j : Nat) : Prop := ∃ fr ks : List Nat, h'[l]? = some (.lst (fr.map iD)) ∧ h'[l1]? = some (.lst (ks.map iD)) ∧ (fr ++ ks).Nodup ∧ (∀ k ∈ fr ++ ks, k < N) ∧ fr.length + j = N ∧ ks.length = j
theorem order {N : Nat} {NI : Int} (hNI : NI = N) (W : Wld h τ B b c m n ss) (hm : m ≤ 900000) (hN : N ≤ 1000) (K : ∀ (x : Nat) (h' : M) (τ' : Nat → Nat) (ks : List Nat), h'[x]? = some (.lst (ks.map iD)) → ks.Nodup → (∀ k ∈ ks, k < N) → ks.length ≤ N → h.length ≤ x → Wld h' τ' B b c (m + 1 + N) n ss → Q (.loc x) h') : @Wc D (m_law_order_u [.loc b, .int NI] h) ⟨Q, X⟩ := by
  unfold m_law_order_u; rw [wp_fn]; unfold b_law_order_u
  have W0 : Wld h (fun x => if x < h.length then τ x else 2) B b c m n ss := W.tag fun x hx => by simp [hx]
  have ht : ∀ x, h.length ≤ x → (fun x => if x < h.length then τ x else 2) x = 2 := fun x hx => by show (if x < h.length then τ x else 2) = 2; rw [if_neg (by omega)]
  generalize (fun x => if x < h.length then τ x else 2) = τ0 at W0 ht
  clear W
  have lb := W0.lts.1
  rw [ws_seq]
  refine Ws.cut (fun e h' => Wld h' τ0 B b c m n ss ∧ FreeAt h' h.length N ∧ h.length < h'.length ∧ e = [.va (.loc b), .va (.int NI), .va (.loc h.length), .no, .no]) ?_ ?_
  · simp
    refine ⟨by omega, ?_⟩
    refine lcloop_inv (fun j acc h' => h' = h ++ [.lst acc] ∧ acc = (List.range j).map iD) ⟨rfl, rfl⟩ (fun _ _ _ _ _ => trivial) ?_ ?_
    · rintro j d acc _ hd ⟨rfl, rfl⟩
      obtain ⟨hj, rfl⟩ := rg_at hd
      simp [size24, List.range_succ, iD]; omega
    · rintro acc _ ⟨rfl, rfl⟩
      simp
      exact ⟨W0.fr0 (.cat _), by unfold FreeAt; simp [show NI.toNat = N by omega]⟩
  rintro _ h1 ⟨W1, ef, l1, rfl⟩
  unfold FreeAt at ef
  rw [ws_seq]
  refine Ws.cut (fun e h' => Wld h' τ0 B b c m n ss ∧ h'[h.length]? = some (.lst ((List.range N).map iD)) ∧ h'[h1.length]? = some (.lst []) ∧ e = [.va (.loc b), .va (.int NI), .va (.loc h.length), .va (.loc h1.length), .no]) ?_ ?_
  · simp [size24]
    exact ⟨W1.fr0 (.cat _), by rw [List.getElem?_append_left l1]; exact ef⟩
  rintro _ h2 ⟨W2, ef2, eo2, rfl⟩
  rw [ws_seq]
  refine Ws.cut (fun e h' => ∃ (s4 : Sl) (ks : List Nat), h'[h1.length]? = some (.lst (ks.map iD)) ∧ ks.Nodup ∧ (∀ k ∈ ks, k < N) ∧ ks.length ≤ N ∧ Wld h' τ0 B b c (m + 1 + N) n ss ∧ e = [.va (.loc b), .va (.int NI), .va (.loc h.length), .va (.loc h1.length), s4]) ?_ ?_
  · simp
    refine drawW W2 (by omega) (by omega) (by omega) fun z h3 z0 z1 W3 F3 => ?_
    have ef3 := F3.at_ _ _ (by simp; omega) ef2
    have eo3 := F3.at_ _ _ (by simp; omega) eo2
    simp
    refine ⟨by omega, ?_⟩
    refine floop_inv (fun j e h' => ∃ (s4 : Sl), OrdI h' h.length h1.length N j ∧ Wld h' τ0 B b c (m + 1 + j) n ss ∧ e = [.va (.loc b), .va (.int NI), .va (.loc h.length), .va (.loc h1.length), s4])
      ⟨.no, ⟨List.range N, [], ef3, eo3, by simpa using List.nodup_range, by simp, by simp, rfl⟩, W3.more (by omega) (Nat.le_refl _), rfl⟩ (fun _ _ _ _ _ => trivial) ?_ ?_
    · rintro j d _ h4 hd ⟨s4, ⟨fr, ks, ef4, eo4, nd, hlt, hfl, hkl⟩, W4, rfl⟩
      obtain ⟨hj, rfl⟩ := rg_at hd
      have e1 : isTyp h4 "list" (.loc h1.length) = true := by rw [v_isTypL, eo4]
      have e2 : isTyp h4 "list" (.loc h.length) = true := by rw [v_isTypL, ef4]
      simp [eo4, ef4]
      refine drawW W4 (by omega) (by omega) (by omega) fun y h5 y0 y1 W5 F5 => ?_
      have ef5 := F5.at_ _ _ (by simp; omega) ef4
      have eo5 := F5.at_ _ _ (by simp; omega) eo4
      have hy : y.toNat < fr.length := by omega
      have e3 : fr[y.toNat]? = some fr[y.toNat] := List.getElem?_eq_getElem hy
      have hp : fPopAt (.loc h.length) [.int y] h5 = .ok (.int fr[y.toNat]) (h5.set h.length (.lst ((fr.eraseIdx y.toNat).map iD))) := by
        unfold fPopAt
        simp only [ef5]
        rw [if_pos ⟨y0, by simp; omega, by omega⟩, List.getElem?_map, e3]
        simp only [Option.map_some, erase_map]
        rfl
      have eo6 := at_setN (u := .lst ((fr.eraseIdx y.toNat).map iD)) eo5 (show h.length ≠ h1.length by omega)
      simp [hp, eo6, size24]
      refine ⟨by omega, ?_⟩
      have F6 : Fr [h.length] h5 (h5.set h.length (.lst ((fr.eraseIdx y.toNat).map iD))) := Fr.set _ (by simp)
      have F7 : Fr [h1.length] (h5.set h.length (.lst ((fr.eraseIdx y.toNat).map iD))) ((h5.set h.length (.lst ((fr.eraseIdx y.toNat).map iD))).set h1.length (.lst (ks.map (iD) ++ [.int fr[y.toNat]]))) := Fr.set _ (by simp)
      have pr : (fr.eraseIdx y.toNat ++ (ks ++ [fr[y.toNat]])).Perm (fr ++ ks) := by
        have p1 := perm_erase fr y.toNat hy
        have p2 : (fr.eraseIdx y.toNat ++ (ks ++ [fr[y.toNat]])).Perm (fr[y.toNat] :: (fr.eraseIdx y.toNat ++ ks)) := by
          rw [← List.append_assoc]
          exact List.perm_append_singleton _ _
        exact p2.trans ((p1.append_right ks))
      refine ⟨⟨fr.eraseIdx y.toNat, ks ++ [fr[y.toNat]], ?_, ?_, pr.nodup_iff.mpr nd, ?_, ?_, by simp [hkl]⟩, ?_⟩
      · exact F7.at_ _ _ (by simp; omega) (at_set ef5)
      · rw [at_set eo6]; simp [iD]
      · intro k hk
        exact hlt k (pr.mem_iff.mp hk)
      · rw [List.length_eraseIdx_of_lt hy]; omega
      · exact ((W5.junk F6 (by simp; exact ⟨ht _ (Nat.le_refl _), by omega⟩)).junk F7 (by simp; exact ⟨ht _ (by omega), by omega⟩)).more (by omega) (Nat.le_refl _)
    · rintro _ h4 ⟨s4, ⟨fr, ks, ef4, eo4, nd, hlt, hfl, hkl⟩, W4, rfl⟩
      refine ⟨s4, ks, eo4, (List.nodup_append.mp nd).2.1, fun k hk => hlt k (by simp [hk]), by omega, W4.more ?_ (Nat.le_refl _), rfl⟩
      simp; omega
  rintro _ h3 ⟨s4, ks, eo3, nd, hlt, hlen, W3, rfl⟩
  simp
  exact K _ _ τ0 ks eo3 nd hlt hlen (by omega) W3
theorem queue {t u : Nat} {qu : List Ent} (et : h[t]? = some (.lst (pend (t + 1) qu))) (eu : h[u]? = some (.lst (qu.map dE))) (ei : ∀ j e, qu[j]? = some e → h[t + 1 + j]? = some (.lst (e.ws.map .int)) ∧ h[e.k]? = some (.lst (e.ws.map .int)) ∧ e.ws.length = 48)
    (hz : qu.length ≤ 1000000) (K : ∀ h', Fr [] h h' → Q (.bl true) h') : @Wc D (m_law_queue_u [.loc t, .loc u] h) ⟨Q, X⟩ := by
  unfold m_law_queue_u; rw [wp_fn]; unfold b_law_queue_u
  rw [ws_seq]
  refine Ws.cut (fun e h' => h = h' ∧ e = [.va (.loc t), .va (.loc u), .no, .no]) ?_ ?_
  · simp [et, eu, tbt, pend_len]
  rintro _ _ ⟨rfl, rfl⟩
  rw [ws_seq]
  refine Ws.cut (fun e h' => Fr [] h h' ∧ ∃ s3 s4, e = [.va (.loc t), .va (.loc u), s3, s4]) ?_ ?_
  · simp [eu]
    refine ⟨by omega, ?_⟩
    refine floop_inv (fun j e h' => Fr [] h h' ∧ ∃ s3 s4, e = [.va (.loc t), .va (.loc u), s3, s4]) ⟨.refl _ _, .no, .no, rfl⟩ (fun _ _ _ _ _ => trivial) ?_ ?_
    · rintro j d _ h1 hd ⟨F, s3, s4, rfl⟩
      obtain ⟨hj, rfl⟩ := rg_at hd
      have hj : j < qu.length := by simpa using hj
      have ej : qu[j]? = some qu[j] := List.getElem?_eq_getElem hj
      obtain ⟨x1, x2, x3⟩ := ei j _ ej
      have p1 : atI (pend (t + 1) qu) (j : Int) = some (.tup [.int (qu[j]).a, .loc (t + 1 + j)]) := by rw [atI_n]; exact pend_at _ _ _ _ ej
      have p2 : atI (qu.map dE) (j : Int) = some (dE qu[j]) := by rw [atI_n, List.getElem?_map, ej]; rfl
      have isT : fIsI [.tup [.int (qu[j]).a, .loc (t + 1 + j)], .ty "tuple"] h1 = .ok (.bl true) h1 := by simp [fIsI, tyD, kinds, isTy]
      have et1 := F.at et
      have eu1 := F.at eu
      simp [et1, p1, isT, tbt, eu1, p2, dE]
      refine number ?_
      simp [tbt, eu1, p2, dE]
      refine same (F.at x1) (F.at x2) x3 fun h2 F2 => ?_
      simp [tbt]
      exact F.trans F2
    · rintro _ h1 ⟨F, s3, s4, rfl⟩
      exact ⟨F, s3, s4, rfl⟩
  rintro _ h1 ⟨F, s3, s4, rfl⟩
  simp
  exact K _ F
theorem counts (SA : SeatAt τ h n i s) (K : Q (.bl true) h) : @Wc D (m_law_counts_u [.loc s.p] h) ⟨Q, X⟩ := by
  unfold m_law_counts_u; rw [wp_fn]; unfold b_law_counts_u
  rw [ws_seq]
  refine Ws.cut (fun e h' => h = h' ∧ e = [.va (.loc s.p), .va (.loc s.d.o)]) ?_ ?_
  · simp [o_disk SA.ep]
  rintro _ _ ⟨rfl, rfl⟩
  rw [ws_seq]
  refine Ws.cut (fun e h' => h = h' ∧ e = [.va (.loc s.p), .va (.loc s.d.o)]) ?_ ?_
  · simp [-v_isIns, i_at SA.A.eo]
    refine p_size SA.A ?_
    simp [o_blocks SA.ep]
    refine number ?_
    simp [-v_isIns, tbt, i_at SA.A.eo]
    refine p_queued SA.A ?_
    simp [o_queue SA.ep, SA.eq]
    refine number ?_
    simp [tbt, SA.sm.qu]
  rintro _ _ ⟨rfl, rfl⟩
  rw [ws_seq]
  refine Ws.cut (fun e h' => h = h' ∧ e = [.va (.loc s.p), .va (.loc s.d.o)]) ?_ ?_
  · simp [-v_isIns, i_at SA.A.eo]
    refine p_w SA.A ?_
    simp [o_writes SA.ep]
    refine number ?_
    simp [tbt, SA.sm.w]
  rintro _ _ ⟨rfl, rfl⟩
  rw [ws_seq]
  refine Ws.cut (fun e h' => h = h' ∧ e = [.va (.loc s.p), .va (.loc s.d.o)]) ?_ ?_
  · simp [-v_isIns, i_at SA.A.eo]
    refine p_fl SA.A ?_
    simp [o_flushes SA.ep]
    refine number ?_
    simp [tbt, SA.sm.f]
  rintro _ _ ⟨rfl, rfl⟩
  rw [ws_seq]
  refine Ws.cut (fun e h' => h = h' ∧ e = [.va (.loc s.p), .va (.loc s.d.o)]) ?_ ?_
  · simp [-v_isIns, i_at SA.A.eo]
    refine p_r SA.A ?_
    simp [o_reads SA.ep]
    refine number ?_
    simp [tbt, SA.sm.r]
  rintro _ _ ⟨rfl, rfl⟩
  rw [ws_seq]
  refine Ws.cut (fun e h' => h = h' ∧ e = [.va (.loc s.p), .va (.loc s.d.o)]) ?_ ?_
  · simp [-v_isIns, i_at SA.A.eo]
    refine p_rs SA.A ?_
    simp [o_restarts SA.ep]
    refine number ?_
    simp [tbt, SA.sm.rs]
  rintro _ _ ⟨rfl, rfl⟩
  rw [ws_seq]
  cases hon : s.on with
  | true =>
    simp [-v_isIns, o_on SA.ep, hon, tbt, i_at SA.A.eo]
    refine p_on SA.A ?_
    simp [SA.sm.on, hon]
    exact K
  | false =>
    simp [-v_isIns, o_on SA.ep, hon, tbt, i_at SA.A.eo]
    refine p_on SA.A ?_
    simp [SA.sm.on, hon]
    exact K
end
end K06
set_option Elab.async false
set_option linter.all false
set_option maxRecDepth 100000
set_option maxHeartbeats 1000000
namespace K06
open PySem L2 LF NW
section
variable {h h' : M} {τ τ' : Nat → Nat} {B b c : Nat} {m m' : Int} {n n' : Nat} {ss : List Seat} {i : Nat} {s s' : Seat} {S : List Nat} {Q : D → M → Prop} {X : XP} {a : Int}
/-- as a look leaves a seat -/
def Like (s s' : Seat) : Prop := s'.p = s.p ∧ s'.d.o = s.d.o ∧ s'.d.z = s.d.z ∧ s'.on = s.on ∧ s'.sh = s.sh ∧ s'.qu = s.qu
theorem look (W : Wld h τ B b c m n ss) (hn : n ≤ 100000) (hi : ss[i]? = some s) (K : KT B b c m n ss i s Q) : @Wc D (m_law_look_u [.loc s.p] h) ⟨Q, X⟩ := by
  unfold m_law_look_u; rw [wp_fn]; unfold b_law_look_u
  have z0 := (W.ea i s hi).sm.z0
  have z1 := (W.ea i s hi).sm.z1
  rw [ws_seq]
  refine Ws.cut (fun e h' => h = h' ∧ e = [.va (.loc s.p), .va (.loc s.d.o), .no]) ?_ ?_
  · simp [o_disk (W.ea i s hi).ep]
  rintro _ _ ⟨rfl, rfl⟩
  rw [ws_seq]
  refine Ws.cut (fun e h' => ∃ (τ' : Nat → Nat) (s' : Seat) (s2 : Sl), Like s s' ∧ Wld h' τ' B b c m n (ss.set i s') ∧ e = [.va (.loc s.p), .va (.loc s.d.o), s2]) ?_ ?_
  · simp [o_blocks (W.ea i s hi).ep]
    refine ⟨by omega, ?_⟩
    refine floop_inv (fun j e h' => ∃ (τ' : Nat → Nat) (s' : Seat) (s2 : Sl), Like s s' ∧ Wld h' τ' B b c m n (ss.set i s') ∧ e = [.va (.loc s.p), .va (.loc s.d.o), s2]) ⟨τ, s, .no, ⟨rfl, rfl, rfl, rfl, rfl, rfl⟩, by rw [set_self hi]; exact W, rfl⟩ (fun _ _ _ _ _ => trivial) ?_ ?_
    · rintro j d _ h1 hd ⟨τ1, s1, s2, lk, W1, rfl⟩
      obtain ⟨hj, rfl⟩ := rg_at hd
      have lk0 := lk
      obtain ⟨lp, lo, lz, lon, lsh, lqu⟩ := lk
      have hi1 : (ss.set i s1)[i]? = some s1 := set_get hi
      have SA := W1.ea i s1 hi1
      have ne := SA.ne
      have a0 : (0 : Int) ≤ (j : Int) := by omega
      have a1 : (j : Int) < s1.d.z := by omega
      obtain ⟨e, e1, e2⟩ := SA.sm.at_ a0 a1
      have hw := SA.sm.shown a0 e1
      have eim := (SA.im e (.inr (List.mem_of_getElem? e1))).2
      have eo := SA.A.eo
      rw [lo] at eo
      have ep := SA.ep
      rw [lp] at ep
      rw [wp_gN, ws_seq]
      refine Ws.cut (fun e' h' => Fr [] h1 h' ∧ e' = [.va (.loc s.p), .va (.loc s.d.o), .va (.int j)]) ?_ ?_
      · simp [-v_hasM, m_platter_block eo]
        have P := platter (X := fun _ _ _ _ => False) (Q := fun v h' => v = .loc h1.length ∧ h' = h1 ++ [.lst (e.ws.map .int)]) SA.A a0 a1 (by rw [SA.sm.lo]; rfl) hw ⟨rfl, rfl⟩
        rw [lo] at P
        refine Wc.mono P (fun v h' z => ?_) fun _ _ _ _ z => z.elim
        obtain ⟨rfl, rfl⟩ := z
        have F2 : Fr [] h1 (h1 ++ [O.lst (e.ws.map .int)]) := .cat _
        simp [o_shown (F2.at ep), F2.at SA.ev, atN (f := kD) a0 e1, kD]
        refine same (by simp) (F2.at eim) e2 fun h3 F3 => ?_
        simp [tbt]
        exact F2.trans F3
      rintro _ h2 ⟨F2, rfl⟩
      have W2 := W1.fr0 F2
      have SA2 := W2.ea i s1 hi1
      cases hon : s1.on with
      | false =>
        have ep2 := F2.at ep
        rw [hon] at ep2
        simp [o_on ep2, tbt]
        exact ⟨τ1, s1, lk0, W2⟩
      | true =>
        have ep2 := F2.at ep
        rw [hon] at ep2
        have eo2 := F2.at eo
        obtain ⟨x, g1, g2, g3, g4⟩ := SA2.sm.look a0 a1
        simp [-v_hasM, o_on ep2, tbt, m_read eo2]
        have R := read (X := fun _ _ _ _ => False) (Q := fun v h' => v = .loc h2.length ∧ h'[h2.length]? = some (.lst (x.ws.map .int)) ∧ DkAt h' { s1.d with r := s1.d.r + 1 } ∧ Fr [s1.d.o] h2 h') SA2.A (by rw [SA2.sm.on]; exact hon) a0 a1 (by rw [SA2.sm.lo]; rfl) g4 (fun h3 e3 A3 F3 => ⟨rfl, e3, A3, F3⟩)
        rw [lo] at R
        refine Wc.mono R (fun v h3 z => ?_) fun _ _ _ _ z => z.elim
        obtain ⟨rfl, e3, A3, F3⟩ := z
        have po : s.p ∉ [s.d.o] := by rw [← lp, ← lo]; exact SA2.po
        have F3' : Fr [s1.d.o] h2 h3 := by rw [lo]; exact F3
        have q1 : s1.q ∉ [s1.d.o] := fun z => SA2.qn (by rw [List.mem_singleton.mp z]; simp)
        have v1 : s1.v ∉ [s1.d.o] := fun z => SA2.vn (by rw [List.mem_singleton.mp z]; simp)
        have ep3 := F3.at_ _ _ po ep2
        have eq3 := F3'.at_ _ _ q1 SA2.eq
        have ev3 := F3'.at_ _ _ v1 SA2.ev
        have im3 : h3[x.k]? = some (.lst (x.ws.map .int)) := by
          obtain ⟨t1, t2⟩ := SA2.im x g2
          refine F3'.at_ _ _ (fun z => ?_) t2
          have := SA2.tg s1.d.o (by simp [Seat.pls, Dk.pls])
          rw [List.mem_singleton.mp z] at t1; omega
        simp
        refine latestR ep3 eq3 ev3 a0 e1 fun y hy => ?_
        have : y = x := by
          have hy' : lookE s1 j = some y := hy
          rw [g1] at hy'; exact (Option.some.inj hy').symm
        subst this
        simp
        refine same e3 im3 g3 fun h4 F4 => ?_
        have ep4 := F4.at ep3
        simp [tbt, o_reads ep4, u_reads ep4]
        have F5 : Fr [s.p] h4 (h4.set s.p (StO s1.d.o s1.d.z s1.q true s1.left s1.v s1.w s1.f (s1.r + 1) s1.rs)) := Fr.set _ (by simp)
        have F5' : Fr [s1.p] h4 (h4.set s.p (StO s1.d.o s1.d.z s1.q true s1.left s1.v s1.w s1.f (s1.r + 1) s1.rs)) := by rw [lp]; exact F5
        have F : Fr [s1.p, s1.d.o] h2 (h4.set s.p (StO s1.d.o s1.d.z s1.q true s1.left s1.v s1.w s1.f (s1.r + 1) s1.rs)) := ((F3'.mono (by simp)).trans F4.nil).trans (F5'.mono (by simp))
        have A5 : DkAt (h4.set s.p (StO s1.d.o s1.d.z s1.q true s1.left s1.v s1.w s1.f (s1.r + 1) s1.rs)) { s1.d with r := s1.d.r + 1 } := (A3.fr0 F4).fr F5' SA2.p1
        have hPO : ∀ y ∈ [s1.p, s1.d.o], y < h2.length → y ∈ s1.pls := by
          intro y hy _
          simp only [List.mem_cons, List.not_mem_nil, or_false] at hy
          rcases hy with rfl | rfl <;> simp [Seat.pls, Dk.pls]
        obtain ⟨τ5, W5⟩ := W2.stay (s' := { s1 with d := { s1.d with r := s1.d.r + 1 }, r := s1.r + 1 }) hi1 F hPO A5 rfl rfl rfl rfl rfl rfl (by rw [lp]; have := at_set (u := StO s1.d.o s1.d.z s1.q true s1.left s1.v s1.w s1.f (s1.r + 1) s1.rs) ep4; rw [this, hon]) SA2.qn SA2.vn
          ⟨SA2.sm.z0, SA2.sm.z1, SA2.sm.on, SA2.sm.lim, SA2.sm.l0, SA2.sm.lo, SA2.sm.qu, SA2.sm.ent, SA2.sm.sl, SA2.sm.sw, SA2.sm.la, SA2.sm.pl, SA2.sm.w, by show s1.d.r + 1 = s1.r + 1; rw [SA2.sm.r], SA2.sm.f, SA2.sm.rs, SA2.sm.b1, SA2.sm.b2, SA2.sm.b3⟩
        rw [List.set_set] at W5
        exact ⟨τ5, { s1 with d := { s1.d with r := s1.d.r + 1 }, r := s1.r + 1 }, ⟨lp, lo, lz, lon, lsh, lqu⟩, W5⟩
    · rintro _ h1 ⟨τ1, s1, s2, lk, W1, rfl⟩
      exact ⟨τ1, s1, s2, lk, W1, rfl⟩
  rintro _ h1 ⟨τ1, s1, s2, ⟨lp, lo, lz, lon, lsh, lqu⟩, W1, rfl⟩
  have hi1 : (ss.set i s1)[i]? = some s1 := set_get hi
  have SA := W1.ea i s1 hi1
  have eo := SA.A.eo
  rw [lo] at eo
  have ep := SA.ep
  rw [lp] at ep
  have b1 := SA.sm.b1
  simp [-v_hasM, m_pending eo]
  have P := pending (X := fun _ _ _ _ => False) (Q := fun v h' => v = .loc h1.length ∧ h' = h1 ++ .lst (pend (h1.length + 1) s1.d.qu) :: s1.d.qu.map fun e => .lst (e.ws.map .int)) SA.A (by rw [SA.sm.qu]; omega) ⟨rfl, rfl⟩
  rw [lo] at P
  refine Wc.mono P (fun v h' z => ?_) fun _ _ _ _ z => z.elim
  obtain ⟨rfl, rfl⟩ := z
  rw [SA.sm.qu]
  have F2 : Fr [] h1 (h1 ++ .lst (pend (h1.length + 1) s1.qu) :: s1.qu.map fun e => O.lst (e.ws.map D.int)) := .cat _
  simp [o_queue (F2.at ep)]
  refine queue (t := h1.length) (qu := s1.qu) (by simp) (F2.at SA.eq) ?_ (by omega) fun h3 F3 => ?_
  · intro j' e he
    have hm : e ∈ s1.qu := List.mem_of_getElem? he
    obtain ⟨q2, q3⟩ := SA.im e (.inl hm)
    refine ⟨?_, F2.at q3, (SA.sm.ent e hm).2.2⟩
    have hl := (List.getElem?_eq_some_iff.mp he).1
    rw [show h1.length + 1 + j' = h1.length + (1 + j') by omega, cat_at, Nat.add_comm 1 j', List.getElem?_cons_succ, List.getElem?_map, he]; rfl
  have W3 := (W1.fr0 F2).fr0 F3
  have SA3 := W3.ea i s1 hi1
  simp [tbt]
  have C := counts (X := fun _ _ _ _ => False) (Q := fun v h' => v = .bl true ∧ h' = h3) SA3 ⟨rfl, rfl⟩
  rw [lp] at C
  refine Wc.mono C (fun v h' z => ?_) fun _ _ _ _ z => z.elim
  obtain ⟨rfl, rfl⟩ := z
  exact K _ _ s1 lp W3
end
end K06
set_option Elab.async false
set_option linter.all false
set_option maxRecDepth 100000
set_option maxHeartbeats 1000000
namespace K06
open PySem L2 LF NW
/-- a world in which the seat i has its state at p -/
def Cur (h : M) (B b c : Nat) (m : Int) (n : Nat) (ss : List Seat) (i p : Nat) : Prop := ∃ (τ : Nat → Nat) (s : Seat), s.p = p ∧ Wld h τ B b c m n (ss.set i s)
section
variable {h h' : M} {τ τ' : Nat → Nat} {B b c : Nat} {m m' : Int} {n n' : Nat} {ss : List Seat} {i p : Nat} {s s' : Seat} {S : List Nat} {Q : D → M → Prop} {X : XP} {a : Int}
theorem Cur.of (W : Wld h τ B b c m n ss) (hi : ss[i]? = some s) : Cur h B b c m n ss i s.p := ⟨τ, s, rfl, by rw [set_self hi]; exact W⟩
theorem Cur.more (C : Cur h B b c m n ss i p) (hm : m ≤ m') (hn : n ≤ n') : Cur h B b c m' n' ss i p := by
  obtain ⟨τ, s, hp, W⟩ := C
  exact ⟨τ, s, hp, W.more hm hn⟩
theorem Cur.fr0 (C : Cur h B b c m n ss i p) (F : Fr [] h h') : Cur h' B b c m n ss i p := by
  obtain ⟨τ, s, hp, W⟩ := C
  exact ⟨τ, s, hp, W.fr0 F⟩
theorem KT.cur (K : ∀ h', Cur h' B b c m n ss i p → Q (.bl true) h') (hp : s.p = p) : KT B b c m n (ss.set i s) i s Q := fun h' τ' s' hp' W' => K h' ⟨τ', s', hp'.trans hp, by rw [List.set_set] at W'; exact W'⟩
theorem drawC {many : Int} (C : Cur h B b c m n ss i p) (hm : m ≤ 900000) (h0 : 0 < many) (h1 : many < 2 ^ 100) (K : ∀ z h', 0 ≤ z → z < many → Cur h' B b c (m + 1) n ss i p → Q (.int z) h') : @Wc D (m_law_draw_u [.loc b, .int many] h) ⟨Q, X⟩ := by
  obtain ⟨τ, s, hp, W⟩ := C
  exact drawW W (by omega) h0 h1 fun z h' z0 z1 W' _ => K z h' z0 z1 ⟨τ, s, hp, W'⟩
theorem readC (C : Cur h B b c m n ss i p) (hl : i < ss.length) (hm : m ≤ 900000) (K : ∀ h', Cur h' B b c (m + 1) n ss i p → Q (.bl true) h') : @Wc D (m_law_read_u [.loc p, .loc b] h) ⟨Q, X⟩ := by
  obtain ⟨τ, s, rfl, W⟩ := C
  exact readLaw W hm (set_get (List.getElem?_eq_getElem hl)) (KT.cur K rfl)
theorem armedC (C : Cur h B b c m n ss i p) (hl : i < ss.length) (hm : m ≤ 900000) (K : ∀ h', Cur h' B b c (m + 3) n ss i p → Q (.bl true) h') : @Wc D (m_law_armed_u [.loc p, .loc b] h) ⟨Q, X⟩ := by
  obtain ⟨τ, s, rfl, W⟩ := C
  exact armed W hm (set_get (List.getElem?_eq_getElem hl)) (KT.cur K rfl)
theorem outsideC (C : Cur h B b c m n ss i p) (hl : i < ss.length) (hm : m ≤ 900000) (K : ∀ h', Cur h' B b c (m + 3) n ss i p → Q (.bl true) h') : @Wc D (m_law_outside_u [.loc p, .loc b] h) ⟨Q, X⟩ := by
  obtain ⟨τ, s, rfl, W⟩ := C
  exact outside W hm (set_get (List.getElem?_eq_getElem hl)) (KT.cur K rfl)
theorem rottedC (C : Cur h B b c m n ss i p) (hl : i < ss.length) (hm : m ≤ 900000) (hn : n ≤ 100000) (K : ∀ h', Cur h' B b c (m + 3) (n + 1) ss i p → Q (.bl true) h') : @Wc D (m_law_rotted_u [.loc p, .loc b] h) ⟨Q, X⟩ := by
  obtain ⟨τ, s, rfl, W⟩ := C
  exact rotted W hm hn (set_get (List.getElem?_eq_getElem hl)) (KT.cur K rfl)
theorem countedC {w : Int} (C : Cur h B b c m n ss i p) (hl : i < ss.length) (hm : m ≤ 900000) (hn : n ≤ 100000) (hw : w = 0 ∨ w = 1) (K : ∀ h', Cur h' B b c (m + 4) (n + 1) ss i p → Q (.bl true) h') : @Wc D (m_law_counted_u [.loc p, .int w, .loc b] h) ⟨Q, X⟩ := by
  obtain ⟨τ, s, rfl, W⟩ := C
  exact counted W hm hn hw (set_get (List.getElem?_eq_getElem hl)) (KT.cur K rfl)
theorem lookC (C : Cur h B b c m n ss i p) (hl : i < ss.length) (hn : n ≤ 100000) (K : ∀ h', Cur h' B b c m n ss i p → Q (.bl true) h') : @Wc D (m_law_look_u [.loc p] h) ⟨Q, X⟩ := by
  obtain ⟨τ, s, rfl, W⟩ := C
  exact look W hn (set_get (List.getElem?_eq_getElem hl)) (KT.cur K rfl)
/-- a restart with some of the queue, the order just made behind the world h0 -/
theorem zipE : ∀ (ks : List Nat) (qu : List Ent), (∀ k ∈ ks, k < qu.length) → ∃ ps : List (Nat × Ent), ps.map (·.1) = ks ∧ ∀ y ∈ ps, qu[y.1]? = some y.2
  | [], qu, _ => ⟨[], rfl, by simp⟩
  | k :: ks, qu, h => by
    obtain ⟨ps, h1, h2⟩ := zipE ks qu fun x m => h x (by simp [m])
    have hk := h k (by simp)
    refine ⟨(k, qu[k]) :: ps, by simp [h1], ?_⟩
    intro y hy
    rcases List.mem_cons.mp hy with rfl | z
    · exact List.getElem?_eq_getElem hk
    · exact h2 y z
theorem restartedO {x : Nat} {ks : List Nat} (W : Wld h τ B b c m n ss) (hn : n ≤ 100000) (hi : ss[i]? = some s) (ex : h[x]? = some (.lst (ks.map iD))) (hx : x ∉ s.pls) (nd : ks.Nodup) (hlt : ∀ k ∈ ks, k < s.qu.length) (hl : ks.length ≤ s.qu.length)
    (K : KT B b c m n ss i s Q) : @Wc D (m_law_restarted_u [.loc s.p, .loc x] h) ⟨Q, X⟩ := by
  obtain ⟨ps, h1, h2⟩ := zipE ks s.qu hlt
  have e : ks.map iD = ps.map fun y => D.int y.1 := by rw [← h1, List.map_map]; rfl
  refine restarted W hn hi (by rw [← e]; exact ex) hx h2 (by rw [h1]; exact nd) ?_ K
  have := congrArg List.length h1
  simp at this
  omega
end
end K06
set_option Elab.async false
set_option linter.all false
set_option maxRecDepth 100000
set_option maxHeartbeats 1000000
namespace K06
open PySem L2 LF NW
section
variable {h h' : M} {τ τ' : Nat → Nat} {B b c : Nat} {m m' : Int} {n n' : Nat} {ss : List Seat} {i p : Nat} {s s' : Seat} {S : List Nat} {Q : D → M → Prop} {X : XP} {a : Int}
theorem dictC_at {l o q v : Nat} {z left w f r rs : Int} {on : Bool} (e : h[l]? = some (StO o z q on left v w f r rs)) : fDictC [.loc l] h = .ok (.loc h.length) (h ++ [StO o z q on left v w f r rs]) := by
  unfold fDictC; dsimp only; rw [e]; rfl
theorem split (W : Wld h τ B b c m n ss) (hi : ss[i]? = some s) (K : ∀ (h' : M) (τ' : Nat → Nat) (ss' : List Seat), ss.length ≤ ss'.length → Wld h' τ' B b c m n ss' → Q (.bl true) h') : @Wc D (m_law_split_u [.loc B, .loc s.p] h) ⟨Q, X⟩ := by
  unfold m_law_split_u; rw [wp_fn]; unfold b_law_split_u
  rw [ws_seq]
  by_cases h2 : (2 : Int) < ss.length
  · simp [W.e1, h2]
    exact K _ _ _ (Nat.le_refl _) W
  refine Ws.cut (fun e h' => h = h' ∧ e = [.va (.loc B), .va (.loc s.p), .no, .no]) ?_ ?_
  · simp [W.e1, h2]
  rintro _ _ ⟨rfl, rfl⟩
  have SA := W.ea i s hi
  have lB := at_lt W.e1
  have lb := W.lts
  rw [ws_seq]
  refine Ws.cut (fun e h' => h' = h ++ [Do s.d.z (h.length + 6) (h.length + 7) (h.length + 8) (h.length + 9) (h.length + 10) s.d.on s.d.lim s.d.w s.d.r s.d.fl s.d.rs, .dK [], .dK [], .dK [], .lst [], .dK [], .dK s.d.pl, .dK s.d.fo, .dK s.d.lo, .lst (s.d.qu.map qD), .dK s.d.la] ∧ e = [.va (.loc B), .va (.loc s.p), .va (.loc h.length), .no]) ?_ ?_
  · simp [-v_hasM, o_disk SA.ep, m_twin SA.A.eo]
    refine twin SA.A ?_
    simp
  rintro _ _ ⟨rfl, rfl⟩
  have G := fun os : M => (Fr.cat (S := []) (h := h) os).at SA.ep
  have Gq := fun os : M => (Fr.cat (S := []) (h := h) os).at SA.eq
  have Gv := fun os : M => (Fr.cat (S := []) (h := h) os).at SA.ev
  have GB := fun os : M => (Fr.cat (S := []) (h := h) os).at W.e1
  rw [ws_seq]
  refine Ws.cut (fun e h' => h' = h ++ [Do s.d.z (h.length + 6) (h.length + 7) (h.length + 8) (h.length + 9) (h.length + 10) s.d.on s.d.lim s.d.w s.d.r s.d.fl s.d.rs, .dK [], .dK [], .dK [], .lst [], .dK [], .dK s.d.pl, .dK s.d.fo, .dK s.d.lo, .lst (s.d.qu.map qD), .dK s.d.la, StO s.d.o s.d.z s.q s.on s.left s.v s.w s.f s.r s.rs] ∧ e = [.va (.loc B), .va (.loc s.p), .va (.loc h.length), .va (.loc (h.length + 11))]) ?_ ?_
  · simp [-v_dictC, dictC_at (G _)]
  rintro _ _ ⟨rfl, rfl⟩
  rw [ws_seq]
  refine Ws.cut (fun e h' => h' = h ++ [Do s.d.z (h.length + 6) (h.length + 7) (h.length + 8) (h.length + 9) (h.length + 10) s.d.on s.d.lim s.d.w s.d.r s.d.fl s.d.rs, .dK [], .dK [], .dK [], .lst [], .dK [], .dK s.d.pl, .dK s.d.fo, .dK s.d.lo, .lst (s.d.qu.map qD), .dK s.d.la, StO h.length s.d.z s.q s.on s.left s.v s.w s.f s.r s.rs] ∧ e = [.va (.loc B), .va (.loc s.p), .va (.loc h.length), .va (.loc (h.length + 11))]) ?_ ?_
  · have e1 : (h ++ [Do s.d.z (h.length + 6) (h.length + 7) (h.length + 8) (h.length + 9) (h.length + 10) s.d.on s.d.lim s.d.w s.d.r s.d.fl s.d.rs, .dK [], .dK [], .dK [], .lst [], .dK [], .dK s.d.pl, .dK s.d.fo, .dK s.d.lo, .lst (s.d.qu.map qD), .dK s.d.la, StO s.d.o s.d.z s.q s.on s.left s.v s.w s.f s.r s.rs])[h.length + 11]? = some (StO s.d.o s.d.z s.q s.on s.left s.v s.w s.f s.r s.rs) := by simp
    simp [u_disk e1]
  rintro _ _ ⟨rfl, rfl⟩
  rw [ws_seq]
  refine Ws.cut (fun e h' => h' = h ++ [Do s.d.z (h.length + 6) (h.length + 7) (h.length + 8) (h.length + 9) (h.length + 10) s.d.on s.d.lim s.d.w s.d.r s.d.fl s.d.rs, .dK [], .dK [], .dK [], .lst [], .dK [], .dK s.d.pl, .dK s.d.fo, .dK s.d.lo, .lst (s.d.qu.map qD), .dK s.d.la, StO h.length s.d.z s.q s.on s.left (h.length + 12) s.w s.f s.r s.rs, .lst (s.sh.map kD)] ∧ e = [.va (.loc B), .va (.loc s.p), .va (.loc h.length), .va (.loc (h.length + 11))]) ?_ ?_
  · have e1 : (h ++ [Do s.d.z (h.length + 6) (h.length + 7) (h.length + 8) (h.length + 9) (h.length + 10) s.d.on s.d.lim s.d.w s.d.r s.d.fl s.d.rs, .dK [], .dK [], .dK [], .lst [], .dK [], .dK s.d.pl, .dK s.d.fo, .dK s.d.lo, .lst (s.d.qu.map qD), .dK s.d.la, StO h.length s.d.z s.q s.on s.left s.v s.w s.f s.r s.rs, .lst (s.sh.map kD)])[h.length + 11]? = some (StO h.length s.d.z s.q s.on s.left s.v s.w s.f s.r s.rs) := by simp
    simp [o_shown (G _), Gv, u_shown e1]
  rintro _ _ ⟨rfl, rfl⟩
  rw [ws_seq]
  refine Ws.cut (fun e h' => h' = h ++ [Do s.d.z (h.length + 6) (h.length + 7) (h.length + 8) (h.length + 9) (h.length + 10) s.d.on s.d.lim s.d.w s.d.r s.d.fl s.d.rs, .dK [], .dK [], .dK [], .lst [], .dK [], .dK s.d.pl, .dK s.d.fo, .dK s.d.lo, .lst (s.d.qu.map qD), .dK s.d.la, StO h.length s.d.z (h.length + 13) s.on s.left (h.length + 12) s.w s.f s.r s.rs, .lst (s.sh.map kD), .lst (s.qu.map dE)] ∧ e = [.va (.loc B), .va (.loc s.p), .va (.loc h.length), .va (.loc (h.length + 11))]) ?_ ?_
  · have e1 : (h ++ [Do s.d.z (h.length + 6) (h.length + 7) (h.length + 8) (h.length + 9) (h.length + 10) s.d.on s.d.lim s.d.w s.d.r s.d.fl s.d.rs, .dK [], .dK [], .dK [], .lst [], .dK [], .dK s.d.pl, .dK s.d.fo, .dK s.d.lo, .lst (s.d.qu.map qD), .dK s.d.la, StO h.length s.d.z s.q s.on s.left (h.length + 12) s.w s.f s.r s.rs, .lst (s.sh.map kD), .lst (s.qu.map dE)])[h.length + 11]? = some (StO h.length s.d.z s.q s.on s.left (h.length + 12) s.w s.f s.r s.rs) := by simp
    simp [o_queue (G _), Gq, u_queue e1]
  rintro _ h3 ⟨e3, rfl⟩
  have F3 : Fr [] h h3 := by rw [e3]; exact .cat _
  have A3 : DkAt h3 (twinD h.length s.d) := by rw [e3]; exact twin_at _
  have ep3 : h3[h.length + 11]? = some (StO h.length s.d.z (h.length + 13) s.on s.left (h.length + 12) s.w s.f s.r s.rs) := by rw [e3]; simp
  have ev3 : h3[h.length + 12]? = some (.lst (s.sh.map kD)) := by rw [e3]; simp
  have eq3 : h3[h.length + 13]? = some (.lst (s.qu.map dE)) := by rw [e3]; simp
  clear e3
  have eB3 := F3.at W.e1
  have W3 := (W.tag (τ' := fun x => if x < h.length then τ x else ss.length + 3) fun x hx => by simp [hx]).fr0 F3
  have F4 : Fr [B] h3 (h3.set B (.lst (ss.map (fun s => D.loc s.p) ++ [.loc (h.length + 11)]))) := Fr.set _ (by simp)
  have A4 : DkAt (h3.set B (.lst (ss.map (fun s => D.loc s.p) ++ [.loc (h.length + 11)]))) (twinD h.length s.d) := A3.fr F4 fun x hx mm => by
    simp only [Dk.pls, twinD, List.mem_cons, List.not_mem_nil, or_false] at hx
    rw [List.mem_singleton.mp mm] at hx; omega
  have NS : SeatAt (fun x => if x < h.length then τ x else ss.length + 3) (h3.set B (.lst (ss.map (fun s => D.loc s.p) ++ [.loc (h.length + 11)]))) n ss.length { s with d := twinD h.length s.d, p := h.length + 11, q := h.length + 13, v := h.length + 12 } := by
    refine ⟨A4, F4.at_ _ _ (by simp; omega) ep3, F4.at_ _ _ (by simp; omega) eq3, F4.at_ _ _ (by simp; omega) ev3, ?_, ?_, ?_, ?_⟩
    · intro x hx
      simp only [Seat.pls, Dk.pls, twinD, List.mem_cons, List.not_mem_nil, or_false] at hx
      show (if x < h.length then τ x else ss.length + 3) = _
      rw [if_neg (by omega)]
    · simp [Seat.pls, Dk.pls, twinD]
    · intro e he
      obtain ⟨q1, q2⟩ := SA.im e he
      have := W.t1
      exact ⟨by show (if e.k < h.length then τ e.k else ss.length + 3) = 0; rw [if_pos (at_lt q2)]; exact q1, F4.at_ _ _ (by simp; rintro z; rw [z] at q1; omega) (F3.at q2)⟩
    · exact ⟨SA.sm.z0, SA.sm.z1, SA.sm.on, SA.sm.lim, SA.sm.l0, SA.sm.lo, SA.sm.qu, SA.sm.ent, SA.sm.sl, SA.sm.sw, SA.sm.la, SA.sm.pl, SA.sm.w, SA.sm.r, SA.sm.f, SA.sm.rs, SA.sm.b1, SA.sm.b2, SA.sm.b3⟩
  have eo4 := A4.eo
  have lss := W.hs
  have hic : fIsC "Disk" [.loc h.length, .cls "Disk"] (h3.set B (.lst (ss.map (fun s => D.loc s.p) ++ [.loc (h.length + 11)]))) = .ok (.bl true) _ := ic_at eo4
  simp [eB3, size24, hic]
  refine ⟨by omega, ?_⟩
  have tB := W3.t1
  have tb := W3.tb
  have tc := W3.tc
  refine K _ (fun x => if x < h.length then τ x else ss.length + 3) (ss ++ [{ s with d := twinD h.length s.d, p := h.length + 11, q := h.length + 13, v := h.length + 12 }]) (by simp)
    ⟨W3.pot.fr F4 (by simp; rintro rfl; omega) (by simp; rintro rfl; omega), tb, tc, by rw [at_set eB3]; simp, tB, ?_, by simp; omega⟩
  intro j u hj
  by_cases hl : j < ss.length
  · rw [List.getElem?_append_left hl] at hj
    exact (W3.ea j u hj).fr F4 (fun x hx _ => by rw [List.mem_singleton.mp hx, tB]; omega) (fun _ _ => rfl) (Nat.le_refl _)
  · have hlt := (List.getElem?_eq_some_iff.mp hj).1
    have : j = ss.length := by simp at hlt; omega
    subst this
    simp at hj
    subst hj
    exact NS
end
end K06
set_option Elab.async false
set_option linter.all false
set_option maxRecDepth 100000
set_option maxHeartbeats 1000000
namespace K06
open PySem L2 LF NW
section
variable {h h' : M} {τ τ' : Nat → Nat} {B b c : Nat} {m m' : Int} {n n' : Nat} {ss : List Seat} {i p : Nat} {s s' : Seat} {S : List Nat} {Q : D → M → Prop} {X : XP} {a : Int}
theorem Wld.ql (W : Wld h τ B b c m n ss) (hi : ss[i]? = some s) : s.qu.length ≤ n := by
  have := (W.ea i s hi).sm.b1; omega
theorem deed {k : Int} (W : Wld h τ B b c m n ss) (hm : m ≤ 800000) (hn : n ≤ 900) (h0 : 0 < ss.length) (K : ∀ (h' : M) (τ' : Nat → Nat) (ss' : List Seat), ss.length ≤ ss'.length → Wld h' τ' B b c (m + 6 + n) (n + 1) ss' → Q (.bl true) h') : @Wc D (m_law_deed_u [.loc B, .int k, .loc b] h) ⟨Q, X⟩ := by
  unfold m_law_deed_u; rw [wp_fn]; unfold b_law_deed_u
  have hs3 := W.hs
  rw [ws_seq]
  refine Ws.cut (fun e h' => Wld h' τ B b c (m + 1) n ss ∧ ∃ (i : Nat) (s : Seat), ss[i]? = some s ∧ e = [.va (.loc B), .va (.int k), .va (.loc b), .va (.loc s.p)]) ?_ ?_
  · simp [W.e1]
    refine drawW W (by omega) (by omega) (by omega) fun z h1 z0 z1 W1 F1 => ?_
    have hz : z.toNat < ss.length := by omega
    have e1 : ss[z.toNat]? = some ss[z.toNat] := List.getElem?_eq_getElem hz
    have e2 : atI (ss.map fun s => D.loc s.p) z = some (.loc (ss[z.toNat]).p) := by
      have := at_map (f := fun s : Seat => D.loc s.p) e1
      rwa [Int.toNat_of_nonneg z0] at this
    simp [W1.e1, e2]
    exact ⟨W1, z.toNat, _, e1, rfl⟩
  rintro _ h1 ⟨W1, i, s, hi, rfl⟩
  have SA := W1.ea i s hi
  have hq := W1.ql hi
  have KK : ∀ {m' : Int} {n' : Nat}, m' ≤ m + 6 + n → n' ≤ n + 1 → KT B b c m' n' ss i s Q := fun hm hn h' τ' s' _ W' => K h' τ' _ (by simp) (W'.more hm hn)
  rw [ws_seq]
  by_cases k4 : k < 4
  · simp [k4]
    exact counted W1 (by omega) (by omega) (.inl rfl) hi (KK (by omega) (by omega))
  refine Ws.cut (fun e h' => h1 = h' ∧ e = [.va (.loc B), .va (.int k), .va (.loc b), .va (.loc s.p)]) (by simp [k4]) ?_
  rintro _ _ ⟨rfl, rfl⟩
  rw [ws_seq]
  by_cases k6 : k < 6
  · simp [k6]
    exact counted W1 (by omega) (by omega) (.inr rfl) hi (KK (by omega) (by omega))
  refine Ws.cut (fun e h' => h1 = h' ∧ e = [.va (.loc B), .va (.int k), .va (.loc b), .va (.loc s.p)]) (by simp [k6]) ?_
  rintro _ _ ⟨rfl, rfl⟩
  rw [ws_seq]
  by_cases e6 : k = 6
  · simp [e6]
    exact readLaw W1 (by omega) hi (KK (by omega) (by omega))
  refine Ws.cut (fun e h' => h1 = h' ∧ e = [.va (.loc B), .va (.int k), .va (.loc b), .va (.loc s.p)]) (by simp [e6]) ?_
  rintro _ _ ⟨rfl, rfl⟩
  rw [ws_seq]
  by_cases e7 : k = 7
  · simp [e7]
    exact armed W1 (by omega) hi (KK (by omega) (by omega))
  refine Ws.cut (fun e h' => h1 = h' ∧ e = [.va (.loc B), .va (.int k), .va (.loc b), .va (.loc s.p)]) (by simp [e7]) ?_
  rintro _ _ ⟨rfl, rfl⟩
  rw [ws_seq]
  by_cases e8 : k = 8
  · simp [e8]
    exact outside W1 (by omega) hi (KK (by omega) (by omega))
  refine Ws.cut (fun e h' => h1 = h' ∧ e = [.va (.loc B), .va (.int k), .va (.loc b), .va (.loc s.p)]) (by simp [e8]) ?_
  rintro _ _ ⟨rfl, rfl⟩
  rw [ws_seq]
  by_cases e11 : k = 11
  · simp [e11]
    exact split W1 hi fun h' τ' ss' hl W' => K h' τ' ss' hl (W'.more (by omega) (by omega))
  refine Ws.cut (fun e h' => h1 = h' ∧ e = [.va (.loc B), .va (.int k), .va (.loc b), .va (.loc s.p)]) (by simp [e11]) ?_
  rintro _ _ ⟨rfl, rfl⟩
  have RS : @Wc D (m_law_order_u [.loc b, .int s.qu.length] h1) ⟨fun v h' => @Wc D (m_law_restarted_u [.loc s.p, v] h') ⟨Q, X⟩, X⟩ := by
    refine order (N := s.qu.length) rfl W1 (by omega) (by omega) fun x h2 τ2 ks ex nd hlt hlen lx W2 => ?_
    have hx : x ∉ s.pls := fun z => by have := SA.lt x z; omega
    exact restartedO W2 (by omega) hi ex hx nd hlt hlen (KK (by omega) (by omega))
  rw [ws_seq]
  by_cases e9 : k = 9
  · simp [e9, o_queue SA.ep, SA.eq]
    exact RS
  by_cases d9 : 9 < k ∧ s.on = false
  · simp [e9, d9.1, d9.2, o_on SA.ep, tbt, o_queue SA.ep, SA.eq]
    exact RS
  refine Ws.cut (fun e h' => h1 = h' ∧ e = [.va (.loc B), .va (.int k), .va (.loc b), .va (.loc s.p)]) ?_ ?_
  · by_cases g9 : 9 < k
    · have on : s.on = true := by cases h : s.on with
        | true => rfl
        | false => exact absurd ⟨g9, h⟩ d9
      simp [e9, g9, o_on SA.ep, on, tbt]
    · simp [e9, g9]
  rintro _ _ ⟨rfl, rfl⟩
  rw [ws_seq]
  by_cases e12 : k = 12
  · simp [e12]
    exact rotted W1 (by omega) (by omega) hi (KK (by omega) (by omega))
  refine Ws.cut (fun e h' => h1 = h' ∧ e = [.va (.loc B), .va (.int k), .va (.loc b), .va (.loc s.p)]) (by simp [e12]) ?_
  rintro _ _ ⟨rfl, rfl⟩
  simp
  exact look W1 (by omega) hi (KK (by omega) (by omega))
theorem dark (C : Cur h B b c m n ss i p) (hl : i < ss.length) (hm : m ≤ 800000) (hn : n ≤ 900) (K : ∀ h', Cur h' B b c (m + 40) (n + 7) ss i p → Q (.bl true) h') : @Wc D (m_law_dark_u [.loc p, .loc b] h) ⟨Q, X⟩ := by
  unfold m_law_dark_u; rw [wp_fn]; unfold b_law_dark_u
  rw [ws_seq]
  refine Ws.cut (fun e h' => ∃ s2 s3, Cur h' B b c (m + 30) (n + 6) ss i p ∧ e = [.va (.loc p), .va (.loc b), s2, s3]) ?_ ?_
  · simp
    refine drawC C (by omega) (by omega) (by decide) fun z h1 z0 z1 C1 => ?_
    simp
    refine ⟨by omega, ?_⟩
    refine floop_inv (fun j e h' => ∃ s2 s3, Cur h' B b c (m + 1 + 5 * j) (n + j) ss i p ∧ e = [.va (.loc p), .va (.loc b), s2, s3]) ⟨.no, .no, by simpa using C1, rfl⟩ (fun _ _ _ _ _ => trivial) ?_ ?_
    · rintro j d _ h2 hd ⟨s2, s3, C2, rfl⟩
      obtain ⟨hj, rfl⟩ := rg_at hd
      have hj : j < 6 := by omega
      rw [wp_gN, ws_seq]
      refine Ws.cut (fun e h' => ∃ k : Int, 0 ≤ k ∧ Cur h' B b c (m + 1 + 5 * j + 1) (n + j) ss i p ∧ e = [.va (.loc p), .va (.loc b), .va (.int (0 + j)), .va (.int k)]) ?_ ?_
      · simp
        refine drawC C2 (by omega) (by omega) (by decide) fun k h3 k0 k1 C3 => ?_
        simp
        exact ⟨k0, C3⟩
      rintro _ h3 ⟨k, k0, C3, rfl⟩
      have fin : ∀ h', Cur h' B b c (m + 1 + 5 * j + 5) (n + j + 1) ss i p → Cur h' B b c (m + 1 + 5 * ((j : Int) + 1)) (n + (j + 1)) ss i p := fun h' C => C.more (by omega) (by omega)
      by_cases k2 : k < 2
      · have hk : k = 0 ∨ k = 1 := by omega
        have n2 : k ≠ 2 := by omega
        have n3 : k ≠ 3 := by omega
        have n4 : k ≠ 4 := by omega
        have n5 : k ≠ 5 := by omega
        simp [k2]
        refine countedC C3 hl (by omega) (by omega) hk fun h4 C4 => ?_
        simp [tbt, n2, n3, n4, n5]
        exact fin _ (C4.more (by omega) (by omega))
      by_cases e2 : k = 2
      · simp [k2, e2]
        refine readC C3 hl (by omega) fun h4 C4 => ?_
        simp [tbt]
        exact fin _ (C4.more (by omega) (by omega))
      by_cases e3 : k = 3
      · simp [k2, e2, e3]
        refine armedC C3 hl (by omega) fun h4 C4 => ?_
        simp [tbt]
        exact fin _ (C4.more (by omega) (by omega))
      by_cases e4 : k = 4
      · simp [k2, e2, e3, e4]
        refine outsideC C3 hl (by omega) fun h4 C4 => ?_
        simp [tbt]
        exact fin _ (C4.more (by omega) (by omega))
      by_cases e5 : k = 5
      · simp [k2, e2, e3, e4, e5]
        refine rottedC C3 hl (by omega) (by omega) fun h4 C4 => ?_
        simp [tbt]
        exact fin _ (C4.more (by omega) (by omega))
      simp [k2, e2, e3, e4, e5]
      exact fin _ (C3.more (by omega) (by omega))
    · rintro _ h2 ⟨s2, s3, C2, rfl⟩
      refine ⟨s2, s3, C2.more ?_ ?_, rfl⟩
      · simp; omega
      · simp; omega
  rintro _ h1 ⟨s2, s3, C1, rfl⟩
  rw [ws_seq]
  refine Ws.cut (fun e h' => Cur h' B b c (m + 40) (n + 7) ss i p ∧ e = [.va (.loc p), .va (.loc b), s2, s3]) ?_ ?_
  · simp
    refine armedC C1 hl (by omega) fun h2 C2 => ?_
    simp [tbt]
    refine drawC C2 (by omega) (by omega) (by decide) fun k h3 k0 k1 C3 => ?_
    simp
    refine countedC C3 hl (by omega) (by omega) (by omega) fun h4 C4 => ?_
    simp [tbt]
    exact C4.more (by omega) (by omega)
  rintro _ h2 ⟨C2, rfl⟩
  simp
  exact lookC C2 hl (by omega) K
end
end K06
set_option Elab.async false
set_option linter.all false
set_option maxRecDepth 100000
set_option maxHeartbeats 1000000
namespace K06
open PySem L2 LF NW
section
variable {h h' : M} {τ τ' : Nat → Nat} {B b c : Nat} {m m' : Int} {n n' : Nat} {ss : List Seat} {i p : Nat} {s s' : Seat} {S : List Nat} {Q : D → M → Prop} {X : XP} {a : Int}
theorem arm3 {L : Int} (C : Cur h B b c m n ss i p) (hl : i < ss.length) (hL : 0 ≤ L) (K : ∀ h', Cur h' B b c m n ss i p → Q .non h') : ∃ (s : Seat) (τ : Nat → Nat), s.p = p ∧ Wld h τ B b c m n (ss.set i s) ∧ @Wc D (m_Disk_arm [.loc s.d.o, .int 9] (h.set p (StO s.d.o s.d.z s.q s.on L s.v s.w s.f s.r s.rs))) ⟨fun v h1 => Fr [s.d.o] (h.set p (StO s.d.o s.d.z s.q s.on L s.v s.w s.f s.r s.rs)) h1 ∧ h1[p]? = some (StO s.d.o s.d.z s.q s.on L s.v s.w s.f s.r s.rs) ∧ hasM h1 "Disk" "arm" (.loc s.d.o) = true ∧ @Wc D (m_Disk_arm [.loc s.d.o, .int 1] h1) ⟨fun v h2 => h2[p]? = some (StO s.d.o s.d.z s.q s.on L s.v s.w s.f s.r s.rs) ∧ hasM h2 "Disk" "arm" (.loc s.d.o) = true ∧ @Wc D (m_Disk_arm [.loc s.d.o, .int L] h2) ⟨Q, X⟩, X⟩, X⟩ := by
  obtain ⟨τ, s, rfl, W⟩ := C
  have hi : (ss.set i s)[i]? = some s := set_get (List.getElem?_eq_getElem hl)
  have SA := W.ea i s hi
  refine ⟨s, τ, rfl, W, ?_⟩
  have Fp : Fr [s.p] h (h.set s.p (StO s.d.o s.d.z s.q s.on L s.v s.w s.f s.r s.rs)) := Fr.set _ (by simp)
  have A1 := SA.A.fr Fp SA.p1
  have ep1 := at_set (u := StO s.d.o s.d.z s.q s.on L s.v s.w s.f s.r s.rs) SA.ep
  have e9 : (D.int 9) = limD 9 := rfl
  have e1 : (D.int 1) = limD 1 := rfl
  have eL : (D.int L) = limD L := by unfold limD; rw [if_neg (by omega)]
  rw [e9, e1, eL]
  refine arm A1 fun h1 A2 F2 => ?_
  have ep2 := F2.at_ _ _ SA.po ep1
  refine ⟨F2, ep2, m_arm A2.eo, ?_⟩
  refine arm (d := { s.d with lim := limD 9 }) A2 fun h2 A3 F3 => ?_
  have ep3 := F3.at_ _ _ SA.po ep2
  refine ⟨ep3, m_arm A3.eo, ?_⟩
  refine arm (d := { s.d with lim := limD 1 }) A3 fun h3 A4 F4 => ?_
  have ep4 := F4.at_ _ _ SA.po ep3
  have F : Fr [s.p, s.d.o] h h3 := (((Fp.mono (by simp)).trans (F2.mono (by simp))).trans (F3.mono (by simp))).trans (F4.mono (by simp))
  have hPO : ∀ y ∈ [s.p, s.d.o], y < h.length → y ∈ s.pls := by
    intro y hy _
    simp only [List.mem_cons, List.not_mem_nil, or_false] at hy
    rcases hy with rfl | rfl <;> simp [Seat.pls, Dk.pls]
  obtain ⟨τ5, W5⟩ := W.stay (s' := { s with d := { s.d with lim := limD L }, left := L }) hi F hPO A4 rfl rfl rfl rfl rfl rfl ep4 SA.qn SA.vn
    ⟨SA.sm.z0, SA.sm.z1, SA.sm.on, rfl, by show -1 ≤ L; omega, SA.sm.lo, SA.sm.qu, SA.sm.ent, SA.sm.sl, SA.sm.sw, SA.sm.la, SA.sm.pl, SA.sm.w, SA.sm.r, SA.sm.f, SA.sm.rs, SA.sm.b1, SA.sm.b2, SA.sm.b3⟩
  rw [List.set_set] at W5
  exact K _ ⟨τ5, { s with d := { s.d with lim := limD L }, left := L }, rfl, W5⟩
theorem restartedC {x : Nat} {ks : List Nat} (C : Cur h B b c m n ss i p) (hl : i < ss.length) (hn : n ≤ 100000) (h0 : M) (ex : h[x]? = some (.lst (ks.map iD))) (hx : ∀ τ s, s.p = p → Wld h τ B b c m n (ss.set i s) → x ∉ s.pls ∧ ks.Nodup ∧ (∀ k ∈ ks, k < s.qu.length) ∧ ks.length ≤ s.qu.length) (K : ∀ h', Cur h' B b c m n ss i p → Q (.bl true) h') : @Wc D (m_law_restarted_u [.loc p, .loc x] h) ⟨Q, X⟩ := by
  obtain ⟨τ, s, rfl, W⟩ := C
  obtain ⟨q1, q2, q3, q4⟩ := hx τ s rfl W
  exact restartedO W hn (set_get (List.getElem?_eq_getElem hl)) ex q1 q2 q3 q4 (KT.cur K rfl)
theorem ended (C : Cur h B b c m n ss i p) (hl : i < ss.length) (hm : m ≤ 700000) (hn : n ≤ 800) (K : ∀ h', Cur h' B b c (m + 200) (n + 30) ss i p → Q (.bl true) h') : @Wc D (m_law_ended_u [.loc p, .loc b] h) ⟨Q, X⟩ := by
  unfold m_law_ended_u; rw [wp_fn]; unfold b_law_ended_u
  rw [ws_seq]
  refine Ws.cut (fun e h' => Cur h' B b c m n ss i p ∧ e = [.va (.loc p), .va (.loc b), .no, .no, .no]) ?_ ?_
  · simp [size24]
    obtain ⟨τ, s, rfl, W⟩ := C
    have W1 := W.fr0 (Fr.cat (S := []) [O.lst []])
    have hi : (ss.set i s)[i]? = some s := set_get (List.getElem?_eq_getElem hl)
    have SA := W.ea i s hi
    refine restartedO (ks := []) W1 (by omega) hi (by simp) (fun z => by have := SA.lt _ z; omega) (by simp) (by simp) (by simp) fun h' τ' s' hp' W' => ?_
    simp [tbt]
    rw [List.set_set] at W'
    exact ⟨τ', s', hp', W'⟩
  clear C
  rintro _ h1 ⟨C1, rfl⟩
  rw [ws_seq]
  refine Ws.cut (fun e h' => ∃ k : Int, 0 ≤ k ∧ k < 4 ∧ Cur h' B b c (m + 1) n ss i p ∧ e = [.va (.loc p), .va (.loc b), .va (.int k), .no, .no]) ?_ ?_
  · simp
    refine drawC C1 (by omega) (by omega) (by decide) fun k h2 k0 k1 C2 => ?_
    simp
    exact ⟨k, k0, k1, C2, rfl⟩
  rintro _ h2 ⟨k, k0, k4, C2, rfl⟩
  obtain ⟨s, τ, hp, W, A⟩ := arm3 (X := X) (Q := fun v h' => v = .non ∧ Cur h' B b c (m + 1) n ss i p) C2 hl k0 fun h' C' => ⟨rfl, C'⟩
  have hi : (ss.set i s)[i]? = some s := set_get (List.getElem?_eq_getElem hl)
  have SA := W.ea i s hi
  have ep := SA.ep
  rw [hp] at ep
  have ep2 := at_set (u := StO s.d.o s.d.z s.q s.on k s.v s.w s.f s.r s.rs) ep
  have Fp : Fr [s.p] h2 (h2.set p (StO s.d.o s.d.z s.q s.on k s.v s.w s.f s.r s.rs)) := Fr.set _ (by simp [hp])
  have A2 := SA.A.fr Fp SA.p1
  rw [ws_seq]
  refine Ws.cut (fun e h' => h' = h2.set p (StO s.d.o s.d.z s.q s.on k s.v s.w s.f s.r s.rs) ∧ e = [.va (.loc p), .va (.loc b), .va (.int k), .no, .no]) ?_ ?_
  · simp [u_left ep]
  rintro _ h3 ⟨e3, rfl⟩
  rw [← e3] at A ep2 A2
  clear e3 Fp
  rw [ws_seq]
  refine Ws.cut (fun e h1 => (h1[p]? = some (StO s.d.o s.d.z s.q s.on k s.v s.w s.f s.r s.rs) ∧ hasM h1 "Disk" "arm" (.loc s.d.o) = true ∧ @Wc D (m_Disk_arm [.loc s.d.o, .int 1] h1) ⟨fun v h2 => h2[p]? = some (StO s.d.o s.d.z s.q s.on k s.v s.w s.f s.r s.rs) ∧ hasM h2 "Disk" "arm" (.loc s.d.o) = true ∧ @Wc D (m_Disk_arm [.loc s.d.o, .int k] h2) ⟨fun v h' => v = .non ∧ Cur h' B b c (m + 1) n ss i p, X⟩, X⟩) ∧ e = [.va (.loc p), .va (.loc b), .va (.int k), .no, .no]) ?_ ?_
  · rw [ws_do]
    simp only [wp_meth, wp_m2, v_var, wp_c, List.getElem?_cons_zero, List.getElem?_cons_succ, wp_ok, o_disk ep2, m_arm A2.eo, wp_cons, wp_nil, List.length_cons, List.length_nil, true_and]
    refine Wc.mono A (fun v h4 z => ?_) fun _ _ _ _ z => z
    exact ⟨⟨z.2.1, z.2.2.1, z.2.2.2⟩, rfl⟩
  clear A A2 ep2
  rintro _ h4 ⟨⟨ep4, hm4, A4⟩, rfl⟩
  rw [ws_seq]
  refine Ws.cut (fun e h2 => (h2[p]? = some (StO s.d.o s.d.z s.q s.on k s.v s.w s.f s.r s.rs) ∧ hasM h2 "Disk" "arm" (.loc s.d.o) = true ∧ @Wc D (m_Disk_arm [.loc s.d.o, .int k] h2) ⟨fun v h' => v = .non ∧ Cur h' B b c (m + 1) n ss i p, X⟩) ∧ e = [.va (.loc p), .va (.loc b), .va (.int k), .no, .no]) ?_ ?_
  · rw [ws_do]
    simp only [wp_meth, wp_m2, v_var, wp_c, List.getElem?_cons_zero, List.getElem?_cons_succ, wp_ok, o_disk ep4, hm4, wp_cons, wp_nil, List.length_cons, List.length_nil, true_and]
    exact Wc.mono A4 (fun v h4 z => ⟨z, rfl⟩) fun _ _ _ _ z => z
  clear A4 ep4 hm4
  rintro _ h5 ⟨⟨ep5, hm5, A5⟩, rfl⟩
  rw [ws_seq]
  refine Ws.cut (fun e h' => Cur h' B b c (m + 1) n ss i p ∧ e = [.va (.loc p), .va (.loc b), .va (.int k), .no, .no]) ?_ ?_
  · simp [-v_hasM, o_disk ep5, hm5]
    refine Wc.mono A5 (fun v h6 z => ?_) fun _ _ _ _ z => z
    obtain ⟨rfl, C6⟩ := z
    simp
    exact C6
  clear W SA ep ep5 hm5 A5 C1 C2 hi hp
  rintro _ h6 ⟨C6, rfl⟩
  rw [ws_seq]
  refine Ws.cut (fun e h' => ∃ s3, Cur h' B b c (m + 30) (n + 4) ss i p ∧ e = [.va (.loc p), .va (.loc b), .va (.int k), s3, .no]) ?_ ?_
  · simp
    refine ⟨by omega, ?_⟩
    refine floop_inv (fun j e h' => ∃ s3, Cur h' B b c (m + 1 + 8 * j) (n + j) ss i p ∧ e = [.va (.loc p), .va (.loc b), .va (.int k), s3, .no]) ⟨.no, by simpa using C6, rfl⟩ (fun _ _ _ _ _ => trivial) ?_ ?_
    · rintro j d _ h7 hd ⟨s3, C7, rfl⟩
      obtain ⟨hj, rfl⟩ := rg_at hd
      simp
      refine outsideC C7 hl (by omega) fun h8 C8 => ?_
      simp [tbt]
      refine drawC C8 (by omega) (by omega) (by decide) fun y h9 y0 y1 C9 => ?_
      simp
      refine countedC C9 hl (by omega) (by omega) (by omega) fun h10 C10 => ?_
      simp [tbt]
      exact C10.more (by omega) (by omega)
    · rintro _ h7 ⟨s3, C7, rfl⟩
      refine ⟨s3, C7.more ?_ ?_, rfl⟩
      · simp; omega
      · simp; omega
  clear C6
  rintro _ h7 ⟨s3, C7, rfl⟩
  rw [ws_seq]
  refine Ws.cut (fun e h' => Cur h' B b c (m + 33) (n + 4) ss i p ∧ e = [.va (.loc p), .va (.loc b), .va (.int k), s3, .no]) ?_ ?_
  · simp
    refine outsideC C7 hl (by omega) fun h8 C8 => ?_
    simp [tbt]
    refine lookC C8 hl (by omega) fun h9 C9 => ?_
    simp [tbt]
    exact C9.more (by omega) (by omega)
  clear C7
  rintro _ h8 ⟨C8, rfl⟩
  rw [ws_seq]
  refine Ws.cut (fun e h' => Cur h' B b c (m + 38) (n + 5) ss i p ∧ e = [.va (.loc p), .va (.loc b), .va (.int k), s3, .no]) ?_ ?_
  · simp
    refine drawC C8 (by omega) (by omega) (by decide) fun y h9 y0 y1 C9 => ?_
    simp
    refine countedC C9 hl (by omega) (by omega) (by omega) fun h10 C10 => ?_
    simp [tbt]
    exact C10.more (by omega) (by omega)
  clear C8
  rintro _ h9 ⟨C9, rfl⟩
  rw [ws_seq]
  refine Ws.cut (fun e h' => Cur h' B b c (m + 78) (n + 12) ss i p ∧ e = [.va (.loc p), .va (.loc b), .va (.int k), s3, .no]) ?_ ?_
  · simp
    refine lookC C9 hl (by omega) fun h10 C10 => ?_
    simp [tbt]
    refine dark C10 hl (by omega) (by omega) fun h11 C11 => ?_
    simp [tbt]
    exact C11.more (by omega) (by omega)
  clear C9
  rintro _ h10 ⟨C10, rfl⟩
  rw [ws_seq]
  refine Ws.cut (fun e h' => Cur h' B b c (m + 78) (n + 12) ss i p ∧ e = [.va (.loc p), .va (.loc b), .va (.int k), s3, .no]) ?_ ?_
  · obtain ⟨τ, s, rfl, W⟩ := C10
    have hi : (ss.set i s)[i]? = some s := set_get (List.getElem?_eq_getElem hl)
    have SA := W.ea i s hi
    have hq := W.ql hi
    simp [o_queue SA.ep, SA.eq]
    refine ⟨by omega, ?_⟩
    refine lcloop_inv (fun j acc h' => h' = h10 ++ [.lst acc] ∧ acc = (List.range j).map iD) ⟨rfl, rfl⟩ (fun _ _ _ _ _ => trivial) ?_ ?_
    · rintro j d acc _ hd ⟨rfl, rfl⟩
      obtain ⟨hj, rfl⟩ := rg_at hd
      simp [size24, List.range_succ, iD]; omega
    · rintro acc _ ⟨rfl, rfl⟩
      simp
      refine restartedO (ks := List.range s.qu.length) (W.fr0 (Fr.cat (S := []) _)) (by omega) hi (by simp) (fun z => by have := SA.lt _ z; omega) List.nodup_range (by simp) (by simp) fun h' τ' s' hp' W' => ?_
      simp [tbt]
      rw [List.set_set] at W'
      exact ⟨τ', s', hp', W'⟩
  clear C10
  rintro _ h11 ⟨C11, rfl⟩
  rw [ws_seq]
  refine Ws.cut (fun e h' => ∃ s3, Cur h' B b c (m + 200) (n + 30) ss i p ∧ e = [.va (.loc p), .va (.loc b), .va (.int k), s3, .no]) ?_ ?_
  · simp
    refine drawC C11 (by omega) (by omega) (by decide) fun z h12 z0 z1 C12 => ?_
    simp
    refine ⟨by omega, ?_⟩
    refine floop_inv (fun j e h' => ∃ s3, Cur h' B b c (m + 79 + 5 * j) (n + 12 + j) ss i p ∧ e = [.va (.loc p), .va (.loc b), .va (.int k), s3, .no]) ⟨s3, C12.more (by omega) (by omega), rfl⟩ (fun _ _ _ _ _ => trivial) ?_ ?_
    · rintro j d _ h7 hd ⟨s3, C7, rfl⟩
      obtain ⟨hj, rfl⟩ := rg_at hd
      simp
      refine drawC C7 (by omega) (by omega) (by decide) fun y h9 y0 y1 C9 => ?_
      simp
      refine countedC C9 hl (by omega) (by omega) (by omega) fun h10 C10 => ?_
      simp [tbt]
      exact C10.more (by omega) (by omega)
    · rintro _ h7 ⟨s3, C7, rfl⟩
      refine ⟨s3, C7.more ?_ ?_, rfl⟩
      · simp; omega
      · simp; omega
  clear C11
  rintro _ h12 ⟨s3, C12, rfl⟩
  simp
  exact lookC C12 hl (by omega) K
end
end K06
set_option Elab.async false
set_option linter.all false
set_option maxRecDepth 100000
set_option maxHeartbeats 1000000
namespace K06
open PySem L2 LF NW
/-- the state's dict as it grows -/
def St5 (o : Nat) (z : Int) (q : Nat) : O := .dK [(.inr "disk", .loc o), (.inr "blocks", .int z), (.inr "queue", .loc q), (.inr "on", .bl true), (.inr "left", .int (-1))]
def St6 (o : Nat) (z : Int) (q v : Nat) : O := .dK [(.inr "disk", .loc o), (.inr "blocks", .int z), (.inr "queue", .loc q), (.inr "on", .bl true), (.inr "left", .int (-1)), (.inr "shown", .loc v)]
def wds : List Str := ["writes", "flushes", "reads", "restarts"]
def St (o : Nat) (z : Int) (q v j : Nat) : O := .dK ([(.inr "disk", .loc o), (.inr "blocks", .int z), (.inr "queue", .loc q), (.inr "on", .bl true), (.inr "left", .int (-1)), (.inr "shown", .loc v)] ++ (wds.take j).map fun w => (.inr w, .int 0))
section
variable {h h' : M} {τ τ' : Nat → Nat} {B b c : Nat} {m m' : Int} {n n' : Nat} {ss : List Seat} {i p : Nat} {s s' : Seat} {S : List Nat} {Q : D → M → Prop} {X : XP} {a : Int}
theorem st6 {l o q v : Nat} {z : Int} (e : h[l]? = some (St5 o z q)) : fPut (.loc l) (.str "shown") (.loc v) h = .ok () (h.set l (St6 o z q v)) := d_putS e (show 5 < sizeLine by decide)
theorem stw {l o q v j : Nat} {z : Int} {w : Str} (e : h[l]? = some (St o z q v j)) (hw : wds[j]? = some w) : fPut (.loc l) (.str w) (.int 0) h = .ok () (h.set l (St o z q v (j + 1))) := by
  match j, hw with
  | 0, hw => cases hw; exact d_putS e (show 6 < sizeLine by decide)
  | 1, hw => cases hw; exact d_putS e (show 7 < sizeLine by decide)
  | 2, hw => cases hw; exact d_putS e (show 8 < sizeLine by decide)
  | 3, hw => cases hw; exact d_putS e (show 9 < sizeLine by decide)
  | n + 4, hw => simp [wds] at hw
/-- the first seat, as it is set up -/
def Set (h : M) (L : Nat) (z : Int) (st : O) : Prop := h[L]? = some st ∧ DkAt h (fresh (L + 1) z) ∧ h[L + 7]? = some (.lst []) ∧ L + 8 ≤ h.length
def Shw (h : M) (L : Nat) (z : Int) : Prop := ∃ sh : List Ent, (sh.length : Int) = z ∧ h[L + 8]? = some (.lst (sh.map kD)) ∧ ∀ e ∈ sh, e.ws = Z48 ∧ L + 9 ≤ e.k ∧ h[e.k]? = some (.lst (e.ws.map .int))
theorem law_ok {ns : List Int} (hns : ns.length ≤ 63) (K : ∀ h', Q (.bl true) h') : @Wc D (m_law [.cl (ns.map .int)] []) ⟨Q, X⟩ := by
  unfold m_law; rw [wp_fn]; unfold b_law
  rw [ws_seq]
  refine Ws.cut (fun e h' => ∃ b c, Pot h' b c 0 ∧ e = [.va (.cl (ns.map .int)), .va (.loc b), .no, .no, .no, .no, .no, .no, .no, .no]) ?_ ?_
  · simp
    refine bag fun b c h1 P lb lc F => ?_
    simp
    exact ⟨c, P⟩
  rintro _ h1 ⟨b, c, P, rfl⟩
  rw [ws_seq]
  refine Ws.cut (fun e h' => Pot h' b c 1 ∧ ∃ z : Int, 8 ≤ z ∧ z ≤ 13 ∧ e = [.va (.cl (ns.map .int)), .va (.loc b), .va (.int z), .no, .no, .no, .no, .no, .no, .no]) ?_ ?_
  · simp
    refine draw P (by omega) (by omega) (by decide) fun z h2 z0 z1 P2 F2 => ?_
    simp
    exact ⟨P2, by omega, by omega⟩
  clear P
  rintro _ h2 ⟨P, z, z0, z1, rfl⟩
  rw [ws_seq]
  refine Ws.cut (fun e h' => Fr [] h2 h' ∧ Set h' h2.length z (St5 (h2.length + 1) z (h2.length + 7)) ∧ h'.length = h2.length + 8 ∧ e = [.va (.cl (ns.map .int)), .va (.loc b), .va (.int z), .va (.loc h2.length), .no, .no, .no, .no, .no, .no]) ?_ ?_
  · have I : ∀ {Q' : D → M → Prop}, Q' .non (h2 ++ [.dK [], Do z (h2.length + 1 + 1) (h2.length + 1 + 2) (h2.length + 1 + 3) (h2.length + 1 + 4) (h2.length + 1 + 5) true .non 0 0 0 0, .dK [], .dK [], .dK [], .lst [], .dK []]) → @Wc D (m_Disk___init__ [.loc (h2.length + 1), .int z] (h2 ++ [.dK [], .ins "Disk" []])) ⟨Q', noEx⟩ := fun {Q'} KK => by
      have := init (h := h2 ++ [.dK []]) (z := z) (Q := Q') (X := noEx) (by simpa using KK)
      simpa using this
    simp
    refine I ?_
    have FA := fresh_at (h := h2 ++ [St5 (h2.length + 1) z (h2.length + 7)]) (z := z) [.lst []]
    simp [size24]
    refine ⟨.cat _, ⟨?_, ?_, ?_, by simp⟩⟩
    · simp; rfl
    · simp at FA
      exact FA
    · rw [show h2.length + 7 = h2.length + 7 from rfl, cat_at]; rfl
  rintro _ h3 ⟨F3, S3, l3, rfl⟩
  have P3 := P.fr F3 (by simp) (by simp)
  have Lc : b < h2.length ∧ c < h2.length ∧ c ≠ b := by
    obtain ⟨_, _, _, _, _, _, q1, q2, q3, _⟩ := P
    exact ⟨at_lt q1, at_lt q2, q3⟩
  generalize h2.length = L at *
  rw [ws_seq]
  refine Ws.cut (fun e h' => Pot h' b c 1 ∧ Set h' L z (St6 (L + 1) z (L + 7) (L + 8)) ∧ Shw h' L z ∧ e = [.va (.cl (ns.map .int)), .va (.loc b), .va (.int z), .va (.loc L), .no, .no, .no, .no, .no, .no]) ?_ ?_
  · simp
    refine ⟨by omega, ?_⟩
    refine lcloop_inv (fun j acc h' => Fr [h3.length] (h3 ++ [.lst []]) h' ∧ h'[h3.length]? = some (.lst acc) ∧ ∃ sh : List Ent, sh.length = j ∧ acc = sh.map kD ∧ ∀ e ∈ sh, e.ws = Z48 ∧ L + 9 ≤ e.k ∧ h'[e.k]? = some (.lst (e.ws.map .int))) ⟨.refl _ _, by simp, [], rfl, rfl, by simp⟩ (fun _ _ _ _ _ => trivial) ?_ ?_
    · rintro j d acc h4 hd ⟨F4, e4, sh, hl, rfl, hs⟩
      obtain ⟨hj, rfl⟩ := rg_at hd
      have l4 := F4.len
      have e5 : (h4 ++ [O.lst [.int 0], .lst (Z48.map .int)])[h3.length]? = some (.lst (sh.map kD)) := by rw [cat_old (at_lt e4)]; exact e4
      have hl4 : h3.length < h4.length := at_lt e4
      have F5 : Fr [h3.length] h4 ((h4 ++ [O.lst [.int 0], .lst (Z48.map .int)]).set h3.length (.lst (sh.map kD ++ [.loc (h4.length + 1)]))) := (Fr.cat _).trans (Fr.set _ (by simp))
      simp [size24]
      refine ⟨e5, by omega, F4.trans F5, at_set e5, sh ++ [⟨0, Z48, h4.length + 1⟩], by simp [hl], by simp [kD], ?_⟩
      intro e he
      rcases List.mem_append.mp he with y | y
      · obtain ⟨q1, q2, q3⟩ := hs e y
        exact ⟨q1, q2, F5.at_ _ _ (by simp; omega) q3⟩
      · cases List.mem_singleton.mp y
        refine ⟨rfl, by show L + 9 ≤ h4.length + 1; omega, ?_⟩
        show _[h4.length + 1]? = _
        rw [List.getElem?_set_ne (by omega), cat_at]; rfl
    · rintro acc h4 ⟨F4, e4, sh, hl, rfl, hs⟩
      obtain ⟨s1, s2, s3, s4⟩ := S3
      have F34 : Fr [] h3 h4 := ((Fr.cat (S := [h3.length]) _).trans F4).cut (by simp)
      have s1' := F34.at s1
      have e34 : (L + 8) = h3.length := l3.symm
      have l34 := F34.len
      simp [st6 s1']
      have F5 : Fr [L] h4 (h4.set L (St6 (L + 1) z (L + 7) h3.length)) := Fr.set _ (by simp)
      rw [e34]
      refine ⟨(P3.fr F34 (by simp) (by simp)).fr F5 (by simp; omega) (by simp; omega), ⟨at_set s1', (s2.fr0 F34).fr F5 ?_, F5.at_ _ _ (by simp) (F34.at s3), by simp; omega⟩, ?_⟩
      · intro y hy mm
        simp only [Dk.pls, fresh, List.mem_cons, List.not_mem_nil, or_false] at hy
        rw [List.mem_singleton.mp mm] at hy; omega
      · refine ⟨sh, ?_, ?_, ?_⟩
        · rw [hl]; simp; omega
        · rw [e34]; exact F5.at_ _ _ (by simp; omega) e4
        · intro e he
          obtain ⟨q1, q2, q3⟩ := hs e he
          exact ⟨q1, q2, F5.at_ _ _ (by simp; omega) q3⟩
  clear F3 S3 l3 P3 P h3
  rintro _ h3 ⟨P3, S3, W3, rfl⟩
  rw [ws_seq]
  refine Ws.cut (fun e h' => Pot h' b c 1 ∧ Set h' L z (St (L + 1) z (L + 7) (L + 8) 4) ∧ Shw h' L z ∧ ∃ s4, e = [.va (.cl (ns.map .int)), .va (.loc b), .va (.int z), .va (.loc L), s4, .no, .no, .no, .no, .no]) ?_ ?_
  · simp [size24]
    have ew : ([.str "writes", .str "flushes", .str "reads", .str "restarts"] : List D) = wds.map D.str := rfl
    have ll3 := S3.2.2.2
    have fr4 : ∀ h4 : M, Fr [L] (h3 ++ [.lst (wds.map D.str)]) h4 → Pot h4 b c 1 ∧ DkAt h4 (fresh (L + 1) z) ∧ h4[L + 7]? = some (.lst []) ∧ L + 8 ≤ h4.length ∧ Shw h4 L z := by
      intro h4 F
      obtain ⟨s1, s2, s3, s4⟩ := S3
      obtain ⟨sh, q1, q2, q3⟩ := W3
      have F' : Fr [L] h3 h4 := (Fr.cat _).trans F
      refine ⟨P3.fr F' (by simp; omega) (by simp; omega), s2.fr F' ?_, F'.at_ _ _ (by simp) s3, by have := F'.len; omega, sh, q1, F'.at_ _ _ (by simp) q2, fun e he => ?_⟩
      · intro y hy mm
        simp only [Dk.pls, fresh, List.mem_cons, List.not_mem_nil, or_false] at hy
        rw [List.mem_singleton.mp mm] at hy; omega
      · obtain ⟨r1, r2, r3⟩ := q3 e he
        exact ⟨r1, r2, F'.at_ _ _ (by simp; omega) r3⟩
    rw [ew]
    refine floop_inv (fun j e h' => Fr [L] (h3 ++ [.lst (wds.map D.str)]) h' ∧ h'[L]? = some (St (L + 1) z (L + 7) (L + 8) j) ∧ ∃ s4, e = [.va (.cl (ns.map .int)), .va (.loc b), .va (.int z), .va (.loc L), s4, .no, .no, .no, .no, .no]) ⟨.refl _ _, at_app S3.1, .no, rfl⟩ ?_ ?_ ?_
    · rintro j e h4 _ ⟨F4, _⟩
      exact lstOf_at (F4.at_ _ _ (by simp; omega) (by simp))
    · rintro j d e h4 hd ⟨F4, e4, s4, rfl⟩
      rw [List.getElem?_map, Option.map_eq_some_iff] at hd
      obtain ⟨w, hw, rfl⟩ := hd
      simp [stw e4 hw]
      exact ⟨F4.trans (Fr.set _ (by simp)), at_set e4⟩
    · rintro e h4 ⟨F4, e4, s4, rfl⟩
      obtain ⟨g1, g2, g3, g4, g5⟩ := fr4 h4 F4
      exact ⟨g1, ⟨e4, g2, g3, g4⟩, g5, s4, rfl⟩
  clear P3 S3 W3 h3
  rintro _ h3 ⟨P3, ⟨s1, s2, s3, s4⟩, ⟨sh, q1, q2, q3⟩, s4', rfl⟩
  have s1 : h3[L]? = some (StO (L + 1) z (L + 7) true (-1) (L + 8) 0 0 0 0) := s1
  rw [ws_seq]
  refine Ws.cut (fun e h' => ∃ (B : Nat) (τ : Nat → Nat) (ss : List Seat), Wld h' τ B b c 1 0 ss ∧ 0 < ss.length ∧ e = [.va (.cl (ns.map .int)), .va (.loc b), .va (.int z), .va (.loc L), s4', .va (.loc B), .no, .no, .no, .no]) ?_ ?_
  · simp [size24]
    have F4 : Fr [] h3 (h3 ++ [O.lst [.loc L]]) := .cat _
    refine ⟨h3.length, fun x => if x = b then 2 else if x = c then 0 else if x = h3.length then 1 else if L ≤ x ∧ x ≤ L + 8 then 3 else 0, [⟨fresh (L + 1) z, L, L + 7, L + 8, [], sh, true, -1, 0, 0, 0, 0⟩], ⟨P3.fr F4 (by simp) (by simp), by simp, by simp [Lc.2.2], by simp, ?_, ?_, by simp⟩, by simp, rfl⟩
    · show (if h3.length = b then 2 else if h3.length = c then 0 else if h3.length = h3.length then 1 else _) = 1
      rw [if_neg (by omega), if_neg (by omega), if_pos rfl]
    · intro j u hj
      have hj0 : j = 0 := by have := (List.getElem?_eq_some_iff.mp hj).1; simp at this; exact this
      subst hj0
      simp at hj
      subst hj
      have lq2 := at_lt q2
      refine ⟨s2.fr0 F4, F4.at s1, F4.at s3, F4.at q2, ?_, ?_, ?_, ?_⟩
      · intro x hx
        simp only [Seat.pls, Dk.pls, fresh, List.mem_cons, List.not_mem_nil, or_false] at hx
        show (if x = b then 2 else if x = c then 0 else if x = h3.length then 1 else if L ≤ x ∧ x ≤ L + 8 then 3 else 0) = 0 + 3
        rw [if_neg (by omega), if_neg (by omega), if_neg (by omega), if_pos (by omega)]
      · simp [Seat.pls, Dk.pls, fresh]; omega
      · intro e he
        rcases he with y | y
        · cases y
        · obtain ⟨r1, r2, r3⟩ := q3 e y
          refine ⟨?_, F4.at r3⟩
          have := at_lt r3
          show (if e.k = b then 2 else if e.k = c then 0 else if e.k = h3.length then 1 else if L ≤ e.k ∧ e.k ≤ L + 8 then 3 else 0) = 0
          rw [if_neg (by omega), if_neg (by omega), if_neg (by omega), if_neg (by omega)]
      · refine ⟨z0, z1, rfl, rfl, by show (-1 : Int) ≤ -1; omega, rfl, rfl, by simp, q1, fun e he => by rw [(q3 e he).1]; rfl, fun _ _ => rfl, fun a e he => ?_, rfl, rfl, rfl, rfl, by simp [fresh], by simp [fresh], by simp [fresh]⟩
        rw [(q3 e (List.mem_of_getElem? he)).1]
        exact .inr rfl
  clear P3 s1 s2 s3 s4 q1 q2 q3
  rintro _ h4 ⟨B, τ, ss, W, hs0, rfl⟩
  rw [ws_seq]
  refine Ws.cut (fun e h' => ∃ τ ss s6 s7, Wld h' τ B b c 10000 100 ss ∧ e = [.va (.cl (ns.map .int)), .va (.loc b), .va (.int z), .va (.loc L), s4', .va (.loc B), s6, s7, .no, .no]) ?_ ?_
  · have h2l : CMulW 2 (ns.length : Int) := cm (by omega) (by omega) (by omega) (by omega)
    simp [h2l]
    refine drawW W (by omega) (by split <;> omega) (by split <;> omega) fun y h5 y0 y1 W1 F1 => ?_
    have hy : y < 40 := by split at y1 <;> omega
    simp
    refine ⟨by omega, ?_⟩
    refine floop_inv (fun j e h' => ∃ τ ss s6 s7, Wld h' τ B b c (2 + 100 * j) j ss ∧ 0 < ss.length ∧ e = [.va (.cl (ns.map .int)), .va (.loc b), .va (.int z), .va (.loc L), s4', .va (.loc B), s6, s7, .no, .no]) ⟨τ, ss, .no, .no, W1.more (by simp) (Nat.zero_le _), hs0, rfl⟩ (fun _ _ _ _ _ => trivial) ?_ ?_
    · rintro j d _ h6 hd ⟨τ, ss, s6, s7, W, h0, rfl⟩
      obtain ⟨hj, rfl⟩ := rg_at hd
      have hj : j < 50 := by omega
      rw [wp_gN, ws_seq]
      refine Ws.cut (fun e h' => ∃ k : Int, Wld h' τ B b c (2 + 100 * j + 1) j ss ∧ e = [.va (.cl (ns.map .int)), .va (.loc b), .va (.int z), .va (.loc L), s4', .va (.loc B), .va (.int (0 + j)), .va (.int k), .no, .no]) ?_ ?_
      · simp
        refine drawW W (by omega) (by omega) (by decide) fun k h7 k0 k1 W7 F7 => ?_
        simp
        exact W7
      rintro _ h7 ⟨k, W7, rfl⟩
      rw [ws_seq]
      refine Ws.cut (fun e h' => ∃ k : Int, Wld h' τ B b c (2 + 100 * j + 1) j ss ∧ e = [.va (.cl (ns.map .int)), .va (.loc b), .va (.int z), .va (.loc L), s4', .va (.loc B), .va (.int (0 + j)), .va (.int k), .no, .no]) ?_ ?_
      · by_cases j0 : j = 0
        · subst j0
          simp
          simpa using W7
        · simp [j0]
          exact W7
      clear W7
      rintro _ h7 ⟨k, W7, rfl⟩
      simp
      refine deed W7 (by omega) (by omega) h0 fun h8 τ8 ss8 hl8 W8 => ?_
      simp [tbt]
      exact ⟨τ8, ss8, W8.more (by omega) (by omega), by omega⟩
    · rintro _ h6 ⟨τ, ss, s6, s7, W, h0, rfl⟩
      refine ⟨τ, ss, s6, s7, W.more ?_ ?_, rfl⟩
      · simp; omega
      · simp; omega
  clear W hs0
  rintro _ h5 ⟨τ, ss, s6, s7, W, rfl⟩
  have hs := W.hs
  have seats : ∀ {m : Int} {n : Nat} {h : M} {τ : Nat → Nat} {ss' : List Seat} {j : Nat} {d : D}, Wld h τ B b c m n ss' → ss'.map (fun s => D.loc s.p) = ss.map (fun s => D.loc s.p) → (ss.map fun s => D.loc s.p)[j]? = some d → ∃ p, d = .loc p ∧ j < ss'.length ∧ Cur h B b c m n ss' j p := by
    intro m n h τ ss' j d W' hm hj
    rw [← hm, List.getElem?_map, Option.map_eq_some_iff] at hj
    obtain ⟨s, hs, rfl⟩ := hj
    exact ⟨s.p, rfl, (List.getElem?_eq_some_iff.mp hs).1, Cur.of W' hs⟩
  have back : ∀ {m : Int} {n : Nat} {h : M} {ss' : List Seat} {j p : Nat}, Cur h B b c m n ss' j p → (ss'.map fun s => D.loc s.p)[j]? = some (.loc p) → ss'.map (fun s => D.loc s.p) = ss.map (fun s => D.loc s.p) → ∃ τ ss'', Wld h τ B b c m n ss'' ∧ ss''.map (fun s => D.loc s.p) = ss.map (fun s => D.loc s.p) := by
    intro m n h ss' j p C hj hm
    obtain ⟨τ, s, hp, W'⟩ := C
    rw [List.getElem?_map, Option.map_eq_some_iff] at hj
    obtain ⟨u, hu, hup⟩ := hj
    refine ⟨τ, _, W', ?_⟩
    rw [map_set_same hu (by rw [hp]; exact hup.symm), hm]
  rw [ws_seq]
  refine Ws.cut (fun e h' => ∃ τ ss' s8, Wld h' τ B b c 20000 300 ss' ∧ ss'.map (fun s => D.loc s.p) = ss.map (fun s => D.loc s.p) ∧ e = [.va (.cl (ns.map .int)), .va (.loc b), .va (.int z), .va (.loc L), s4', .va (.loc B), s6, s7, s8, .no]) ?_ ?_
  · simp [W.e1]
    refine floop_inv (fun j e h' => ∃ τ ss' s8, Wld h' τ B b c (10000 + 200 * j) (100 + 30 * j) ss' ∧ ss'.map (fun s => D.loc s.p) = ss.map (fun s => D.loc s.p) ∧ e = [.va (.cl (ns.map .int)), .va (.loc b), .va (.int z), .va (.loc L), s4', .va (.loc B), s6, s7, s8, .no]) ⟨τ, ss, .no, by simpa using W, rfl, rfl⟩ ?_ ?_ ?_
    · rintro j e h6 _ ⟨τ, ss', s8, W6, hm, _⟩
      exact lstOf_at (by rw [W6.e1, hm])
    · rintro j d _ h6 hd ⟨τ, ss', s8, W6, hm, rfl⟩
      have hj : j < ss.length := by have := (List.getElem?_eq_some_iff.mp hd).1; simpa using this
      obtain ⟨p, rfl, hl, C⟩ := seats W6 hm hd
      simp
      refine ended C hl (by omega) (by omega) fun h7 C7 => ?_
      simp [tbt]
      obtain ⟨τ7, ss7, W7, hm7⟩ := back C7 (by rw [hm]; exact hd) hm
      exact ⟨τ7, ss7, W7.more (by omega) (by omega), hm7⟩
    · rintro _ h6 ⟨τ, ss', s8, W6, hm, rfl⟩
      refine ⟨τ, ss', s8, W6.more ?_ ?_, hm, rfl⟩
      · simp; omega
      · simp; omega
  clear W
  rintro _ h6 ⟨τ, ss', s8, W6, hm, rfl⟩
  rw [ws_seq]
  refine Ws.cut (fun e h' => ∃ env : En, e = env) ?_ ?_
  · simp [W6.e1]
    refine floop_inv (fun j e h' => ∃ τ ss' s8, Wld h' τ B b c 20000 300 ss' ∧ ss'.map (fun s => D.loc s.p) = ss.map (fun s => D.loc s.p) ∧ e = [.va (.cl (ns.map .int)), .va (.loc b), .va (.int z), .va (.loc L), s4', .va (.loc B), s6, s7, s8, .no]) ⟨τ, ss', s8, W6, hm, rfl⟩ ?_ ?_ ?_
    · rintro j e h7 _ ⟨τ, ss2, s8, W7, hm7, _⟩
      exact lstOf_at (by rw [W7.e1, hm7, hm])
    · rintro j d _ h7 hd ⟨τ, ss2, s8, W7, hm7, rfl⟩
      rw [hm] at hd
      obtain ⟨p, rfl, hl, C⟩ := seats W7 hm7 hd
      simp
      refine lookC C hl (by omega) fun h8 C8 => ?_
      simp [tbt]
      obtain ⟨τ8, ss8, W8, hm8⟩ := back C8 (by rw [hm7]; exact hd) hm7
      exact ⟨τ8, ss8, W8, hm8⟩
    · rintro _ h7 _
      exact ⟨_, rfl⟩
  rintro e h7 ⟨env, rfl⟩
  simp
  exact K _
end
theorem holds : LawHolds m_law := fun ns hl _ => by
  obtain ⟨v, h', e, q⟩ := Wc.ok_of (law_ok (X := noEx) (Q := fun v _ => v = .bl true) hl fun _ => rfl)
  subst q
  exact ⟨h', e⟩
end K06
namespace K06
open PySem PySem.Spec L2 LF
open PyProof.Rows hiding St
theorem all_mk {P : Program} {w : World} {K : PySem.W.Frag} {h : Heap} {mg : Str → Option Value} {fa : Addr} (X : K.In h) (G : h.Ns mainGlobals mg) (hmg : mg "law" = some (.ref fa))
    {f0 f1 f2 f3 f4 f5 f6 f7 f8 f9 f10 f11 f12 f13 f14 f15 f16 f17 f18 f19 f20 f21 f22 f23 f24 f25 f26 f27 f28 f29 f30 f31 f32 f33 f34 f35 f36 f37 f38 f39 f40 f41 f42 f43 f44 f45 f46 : Addr} {od0 an0 od1 an1 od2 an2 od3 an3 od4 an4 od5 an5 od6 an6 od7 an7 od8 an8 od9 an9 od10 an10 od11 an11 od12 an12 od13 an13 od14 an14 od15 an15 od16 an16 od17 an17 od18 an18 od19 an19 od20 an20 od21 an21 od22 an22 od23 an23 od24 an24 od25 an25 od26 an26 od27 an27 od28 an28 od29 an29 od30 an30 od31 an31 od32 an32 od33 an33 od34 an34 od35 an35 od36 an36 od37 an37 od38 an38 od39 an39 od40 an40 od41 an41 od42 an42 od43 an43 od44 an44 od45 an45 od46 an46 : Option Addr} {sl0 sl1 sl2 sl3 sl4 sl5 sl6 sl7 sl8 sl9 sl10 sl11 sl12 sl13 sl14 sl15 sl16 sl17 sl18 sl19 sl20 sl21 sl22 sl23 sl24 sl25 sl26 sl27 sl28 sl29 sl30 sl31 sl32 sl33 sl34 sl35 sl36 sl37 sl38 sl39 sl40 sl41 sl42 sl43 sl44 sl45 sl46 : Array (Option Value)}
    {oc0 kV0 dc0 pm0 cd0 ct0 oc1 kV1 dc1 pm1 cd1 ct1 oc2 kV2 dc2 pm2 cd2 ct2 oc3 kV3 dc3 pm3 cd3 ct3 oc4 kV4 dc4 pm4 cd4 ct4 oc5 kV5 dc5 pm5 cd5 ct5 oc6 kV6 dc6 pm6 cd6 ct6 oc7 kV7 dc7 pm7 cd7 ct7 oc8 kV8 dc8 pm8 cd8 ct8 oc9 kV9 dc9 pm9 cd9 ct9 oc10 kV10 dc10 pm10 cd10 ct10 oc11 kV11 dc11 pm11 cd11 ct11 oc12 kV12 dc12 pm12 cd12 ct12 oc13 kV13 dc13 pm13 cd13 ct13 oc14 kV14 dc14 pm14 cd14 ct14 oc15 kV15 dc15 pm15 cd15 ct15 oc16 kV16 dc16 pm16 cd16 ct16 oc17 kV17 dc17 pm17 cd17 ct17 oc18 kV18 dc18 pm18 cd18 ct18 oc19 kV19 dc19 pm19 cd19 ct19 oc20 kV20 dc20 pm20 cd20 ct20 oc21 kV21 dc21 pm21 cd21 ct21 oc22 kV22 dc22 pm22 cd22 ct22 oc23 kV23 dc23 pm23 cd23 ct23 oc24 kV24 dc24 pm24 cd24 ct24 oc25 kV25 dc25 pm25 cd25 ct25 oc26 kV26 dc26 pm26 cd26 ct26 oc27 kV27 dc27 pm27 cd27 ct27 oc28 kV28 dc28 pm28 cd28 ct28 oc29 kV29 dc29 pm29 cd29 ct29 oc30 kV30 dc30 pm30 cd30 ct30 oc31 kV31 dc31 pm31 cd31 ct31 oc32 kV32 dc32 pm32 cd32 ct32 oc33 kV33 dc33 pm33 cd33 ct33 oc34 kV34 dc34 pm34 cd34 ct34 oc35 kV35 dc35 pm35 cd35 ct35 oc36 kV36 dc36 pm36 cd36 ct36 oc37 kV37 dc37 pm37 cd37 ct37 oc38 kV38 dc38 pm38 cd38 ct38 oc39 kV39 dc39 pm39 cd39 ct39 oc40 kV40 dc40 pm40 cd40 ct40 oc41 kV41 dc41 pm41 cd41 ct41 oc42 kV42 dc42 pm42 cd42 ct42 oc43 kV43 dc43 pm43 cd43 ct43 oc44 kV44 dc44 pm44 cd44 ct44 oc45 kV45 dc45 pm45 cd45 ct45 oc46 kV46 dc46 pm46 cd46 ct46 : Value} {t0 : Tok} {C0 C1 C2 C3 C4 C5 C6 : Addr}
    {gp0 : Addr}
    {xI0 xC0 xD0 xN0 : Addr} {xn0 xq0 : Str} {xb0 xm0 xs0 : List Value} {xS0 : List Str} {xa0 : Bool} {xc0 : Option Bool} {xd0 xod0 xan0 xe0 xg0 : Option Addr} {xk0 xl0 xo0 xp0 xr0 : Option Value} {xoc0 xkV0 xdo0 xpm0 xct0 xcl0 xcc0 : Value} {xos0 xcs0 xsl0 : Array (Option Value)} {xv0 : Array Value} {xf0 : Str} {xt0 : Tok}
    {xI1 xC1 xD1 xN1 : Addr} {xn1 xq1 : Str} {xb1 xm1 xs1 : List Value} {xS1 : List Str} {xa1 : Bool} {xc1 : Option Bool} {xd1 xod1 xan1 xe1 xg1 : Option Addr} {xk1 xl1 xo1 xp1 xr1 : Option Value} {xoc1 xkV1 xdo1 xpm1 xct1 xcl1 xcc1 : Value} {xos1 xcs1 xsl1 : Array (Option Value)} {xv1 : Array Value} {xf1 : Str} {xt1 : Tok}
    {xI2 xC2 xD2 xN2 : Addr} {xn2 xq2 : Str} {xb2 xm2 xs2 : List Value} {xS2 : List Str} {xa2 : Bool} {xc2 : Option Bool} {xd2 xod2 xan2 xe2 xg2 : Option Addr} {xk2 xl2 xo2 xp2 xr2 : Option Value} {xoc2 xkV2 xdo2 xpm2 xct2 xcl2 xcc2 : Value} {xos2 xcs2 xsl2 : Array (Option Value)} {xv2 : Array Value} {xf2 : Str} {xt2 : Tok}
    {pp24 pp25 pp26 pp27 pp28 pp29 pp30 : Addr} {pr24 pr25 pr26 pr27 pr28 pr29 pr30 : List Value}
    (a0 : PySem.W.findIn K (.ref C0) "__init__" = some (some (.ref f0))) (i0 : PySem.W.isFn K (.ref f0) = true) (mk0 : PySem.W.makesIn K C0 = true) (kc0 : PySem.W.keepIn K (.ref C0) = true) (l0 : K.lookup f0 = some ⟨oc0, od0, .func (PySem.W.fnOf "__init__" "Disk.__init__" (defArgs s_Disk___init__) (defBody s_Disk___init__) (defScope s_Disk___init__) .none kV0 dc0 pm0 an0 cd0 ct0), sl0⟩) (c0 : PySem.W.codeIn K cd0 "Disk.__init__" = true) (k0 : PySem.W.keepIn K (.ref f0) = true)
    (a1 : PySem.W.nsIn K mainGlobals "_law_bag" = some (some (.ref f1))) (l1 : K.lookup f1 = some ⟨oc1, od1, .func (PySem.W.fnOf "_law_bag" "_law_bag" (defArgs s_law_bag_u) (defBody s_law_bag_u) (defScope s_law_bag_u) .none kV1 dc1 pm1 an1 cd1 ct1), sl1⟩) (c1 : PySem.W.codeIn K cd1 "_law_bag" = true) (k1 : PySem.W.keepIn K (.ref f1) = true)
    (a2 : PySem.W.findIn K (.ref C0) "arm" = some (some (.ref f2))) (i2 : PySem.W.isFn K (.ref f2) = true) (l2 : K.lookup f2 = some ⟨oc2, od2, .func (PySem.W.fnOf "arm" "Disk.arm" (defArgs s_Disk_arm) (defBody s_Disk_arm) (defScope s_Disk_arm) .none kV2 dc2 pm2 an2 cd2 ct2), sl2⟩) (c2 : PySem.W.codeIn K cd2 "Disk.arm" = true) (k2 : PySem.W.keepIn K (.ref f2) = true)
    (a3 : PySem.W.nsIn K mainGlobals "_law_mixed" = some (some (.ref f3))) (l3 : K.lookup f3 = some ⟨oc3, od3, .func (PySem.W.fnOf "_law_mixed" "_law_mixed" (defArgs s_law_mixed_u) (defBody s_law_mixed_u) (defScope s_law_mixed_u) .none kV3 dc3 pm3 an3 cd3 ct3), sl3⟩) (c3 : PySem.W.codeIn K cd3 "_law_mixed" = true) (k3 : PySem.W.keepIn K (.ref f3) = true)
    (a4 : PySem.W.nsIn K mainGlobals "_law_draw" = some (some (.ref f4))) (l4 : K.lookup f4 = some ⟨oc4, od4, .func (PySem.W.fnOf "_law_draw" "_law_draw" (defArgs s_law_draw_u) (defBody s_law_draw_u) (defScope s_law_draw_u) .none kV4 dc4 pm4 an4 cd4 ct4), sl4⟩) (c4 : PySem.W.codeIn K cd4 "_law_draw" = true) (k4 : PySem.W.keepIn K (.ref f4) = true)
    (a5 : PySem.W.nsIn K mainGlobals "_law_armed" = some (some (.ref f5))) (l5 : K.lookup f5 = some ⟨oc5, od5, .func (PySem.W.fnOf "_law_armed" "_law_armed" (defArgs s_law_armed_u) (defBody s_law_armed_u) (defScope s_law_armed_u) .none kV5 dc5 pm5 an5 cd5 ct5), sl5⟩) (c5 : PySem.W.codeIn K cd5 "_law_armed" = true) (k5 : PySem.W.keepIn K (.ref f5) = true)
    (a6 : PySem.W.findIn K (.ref C0) "_empty_queue" = some (some (.ref f6))) (i6 : PySem.W.isFn K (.ref f6) = true) (l6 : K.lookup f6 = some ⟨oc6, od6, .func (PySem.W.fnOf "_empty_queue" "Disk._empty_queue" (defArgs s_Disk__empty_queue) (defBody s_Disk__empty_queue) (defScope s_Disk__empty_queue) .none kV6 dc6 pm6 an6 cd6 ct6), sl6⟩) (c6 : PySem.W.codeIn K cd6 "Disk._empty_queue" = true) (k6 : PySem.W.keepIn K (.ref f6) = true)
    (a7 : PySem.W.findIn K (.ref C0) "_words_at" = some (some (.ref f7))) (i7 : PySem.W.isFn K (.ref f7) = true) (l7 : K.lookup f7 = some ⟨oc7, od7, .func (PySem.W.fnOf "_words_at" "Disk._words_at" (defArgs s_Disk__words_at) (defBody s_Disk__words_at) (defScope s_Disk__words_at) .none kV7 dc7 pm7 an7 cd7 ct7), sl7⟩) (c7 : PySem.W.codeIn K cd7 "Disk._words_at" = true) (k7 : PySem.W.keepIn K (.ref f7) = true)
    (a8 : PySem.W.findIn K (.ref C0) "_land" = some (some (.ref f8))) (i8 : PySem.W.isFn K (.ref f8) = true) (l8 : K.lookup f8 = some ⟨oc8, od8, .func (PySem.W.fnOf "_land" "Disk._land" (defArgs s_Disk__land) (defBody s_Disk__land) (defScope s_Disk__land) .none kV8 dc8 pm8 an8 cd8 ct8), sl8⟩) (c8 : PySem.W.codeIn K cd8 "Disk._land" = true) (k8 : PySem.W.keepIn K (.ref f8) = true)
    (a9 : PySem.W.findIn K (.ref C0) "_take_step" = some (some (.ref f9))) (i9 : PySem.W.isFn K (.ref f9) = true) (l9 : K.lookup f9 = some ⟨oc9, od9, .func (PySem.W.fnOf "_take_step" "Disk._take_step" (defArgs s_Disk__take_step) (defBody s_Disk__take_step) (defScope s_Disk__take_step) .none kV9 dc9 pm9 an9 cd9 ct9), sl9⟩) (c9 : PySem.W.codeIn K cd9 "Disk._take_step" = true) (k9 : PySem.W.keepIn K (.ref f9) = true)
    (a10 : PySem.W.findIn K (.ref C0) "flush" = some (some (.ref f10))) (i10 : PySem.W.isFn K (.ref f10) = true) (l10 : K.lookup f10 = some ⟨oc10, od10, .func (PySem.W.fnOf "flush" "Disk.flush" (defArgs s_Disk_flush) (defBody s_Disk_flush) (defScope s_Disk_flush) .none kV10 dc10 pm10 an10 cd10 ct10), sl10⟩) (c10 : PySem.W.codeIn K cd10 "Disk.flush" = true) (k10 : PySem.W.keepIn K (.ref f10) = true)
    (a11 : PySem.W.findIn K (.ref C0) "_check_address" = some (some (.ref f11))) (i11 : PySem.W.isFn K (.ref f11) = true) (l11 : K.lookup f11 = some ⟨oc11, od11, .func (PySem.W.fnOf "_check_address" "Disk._check_address" (defArgs s_Disk__check_address) (defBody s_Disk__check_address) (defScope s_Disk__check_address) .none kV11 dc11 pm11 an11 cd11 ct11), sl11⟩) (c11 : PySem.W.codeIn K cd11 "Disk._check_address" = true) (k11 : PySem.W.keepIn K (.ref f11) = true)
    (a12 : PySem.W.findIn K (.ref C0) "write" = some (some (.ref f12))) (i12 : PySem.W.isFn K (.ref f12) = true) (l12 : K.lookup f12 = some ⟨oc12, od12, .func (PySem.W.fnOf "write" "Disk.write" (defArgs s_Disk_write) (defBody s_Disk_write) (defScope s_Disk_write) .none kV12 dc12 pm12 an12 cd12 ct12), sl12⟩) (c12 : PySem.W.codeIn K cd12 "Disk.write" = true) (k12 : PySem.W.keepIn K (.ref f12) = true)
    (a13 : PySem.W.nsIn K mainGlobals "_law_land" = some (some (.ref f13))) (l13 : K.lookup f13 = some ⟨oc13, od13, .func (PySem.W.fnOf "_law_land" "_law_land" (defArgs s_law_land_u) (defBody s_law_land_u) (defScope s_law_land_u) .none kV13 dc13 pm13 an13 cd13 ct13), sl13⟩) (c13 : PySem.W.codeIn K cd13 "_law_land" = true) (k13 : PySem.W.keepIn K (.ref f13) = true)
    (a14 : PySem.W.nsIn K mainGlobals "_law_latest" = some (some (.ref f14))) (l14 : K.lookup f14 = some ⟨oc14, od14, .func (PySem.W.fnOf "_law_latest" "_law_latest" (defArgs s_law_latest_u) (defBody s_law_latest_u) (defScope s_law_latest_u) .none kV14 dc14 pm14 an14 cd14 ct14), sl14⟩) (c14 : PySem.W.codeIn K cd14 "_law_latest" = true) (k14 : PySem.W.keepIn K (.ref f14) = true)
    (a15 : PySem.W.findIn K (.ref C0) "platter_block" = some (some (.ref f15))) (i15 : PySem.W.isFn K (.ref f15) = true) (l15 : K.lookup f15 = some ⟨oc15, od15, .func (PySem.W.fnOf "platter_block" "Disk.platter_block" (defArgs s_Disk_platter_block) (defBody s_Disk_platter_block) (defScope s_Disk_platter_block) .none kV15 dc15 pm15 an15 cd15 ct15), sl15⟩) (c15 : PySem.W.codeIn K cd15 "Disk.platter_block" = true) (k15 : PySem.W.keepIn K (.ref f15) = true)
    (a16 : PySem.W.findIn K (.ref C0) "read" = some (some (.ref f16))) (i16 : PySem.W.isFn K (.ref f16) = true) (l16 : K.lookup f16 = some ⟨oc16, od16, .func (PySem.W.fnOf "read" "Disk.read" (defArgs s_Disk_read) (defBody s_Disk_read) (defScope s_Disk_read) .none kV16 dc16 pm16 an16 cd16 ct16), sl16⟩) (c16 : PySem.W.codeIn K cd16 "Disk.read" = true) (k16 : PySem.W.keepIn K (.ref f16) = true)
    (a17 : PySem.W.findIn K (.ref C0) "_check_rest" = some (some (.ref f17))) (i17 : PySem.W.isFn K (.ref f17) = true) (l17 : K.lookup f17 = some ⟨oc17, od17, .func (PySem.W.fnOf "_check_rest" "Disk._check_rest" (defArgs s_Disk__check_rest) (defBody s_Disk__check_rest) (defScope s_Disk__check_rest) .none kV17 dc17 pm17 an17 cd17 ct17), sl17⟩) (c17 : PySem.W.codeIn K cd17 "Disk._check_rest" = true) (k17 : PySem.W.keepIn K (.ref f17) = true)
    (a18 : PySem.W.findIn K (.ref C0) "rot" = some (some (.ref f18))) (i18 : PySem.W.isFn K (.ref f18) = true) (l18 : K.lookup f18 = some ⟨oc18, od18, .func (PySem.W.fnOf "rot" "Disk.rot" (defArgs s_Disk_rot) (defBody s_Disk_rot) (defScope s_Disk_rot) .none kV18 dc18 pm18 an18 cd18 ct18), sl18⟩) (c18 : PySem.W.codeIn K cd18 "Disk.rot" = true) (k18 : PySem.W.keepIn K (.ref f18) = true)
    (a19 : PySem.W.nsIn K mainGlobals "_law_number" = some (some (.ref f19))) (l19 : K.lookup f19 = some ⟨oc19, od19, .func (PySem.W.fnOf "_law_number" "_law_number" (defArgs s_law_number_u) (defBody s_law_number_u) (defScope s_law_number_u) .none kV19 dc19 pm19 an19 cd19 ct19), sl19⟩) (c19 : PySem.W.codeIn K cd19 "_law_number" = true) (k19 : PySem.W.keepIn K (.ref f19) = true)
    (a20 : PySem.W.nsIn K mainGlobals "_law_refusal" = some (some (.ref f20))) (l20 : K.lookup f20 = some ⟨oc20, od20, .func (PySem.W.fnOf "_law_refusal" "_law_refusal" (defArgs s_law_refusal_u) (defBody s_law_refusal_u) (defScope s_law_refusal_u) .none kV20 dc20 pm20 an20 cd20 ct20), sl20⟩) (c20 : PySem.W.codeIn K cd20 "_law_refusal" = true) (k20 : PySem.W.keepIn K (.ref f20) = true)
    (a21 : PySem.W.nsIn K mainGlobals "_law_words" = some (some (.ref f21))) (l21 : K.lookup f21 = some ⟨oc21, od21, .func (PySem.W.fnOf "_law_words" "_law_words" (defArgs s_law_words_u) (defBody s_law_words_u) (defScope s_law_words_u) .none kV21 dc21 pm21 an21 cd21 ct21), sl21⟩) (c21 : PySem.W.codeIn K cd21 "_law_words" = true) (k21 : PySem.W.keepIn K (.ref f21) = true)
    (a22 : PySem.W.nsIn K mainGlobals "_law_counted" = some (some (.ref f22))) (l22 : K.lookup f22 = some ⟨oc22, od22, .func (PySem.W.fnOf "_law_counted" "_law_counted" (defArgs s_law_counted_u) (defBody s_law_counted_u) (defScope s_law_counted_u) .none kV22 dc22 pm22 an22 cd22 ct22), sl22⟩) (c22 : PySem.W.codeIn K cd22 "_law_counted" = true) (k22 : PySem.W.keepIn K (.ref f22) = true)
    (a23 : PySem.W.findIn K (.ref C0) "pending" = some (some (.ref f23))) (i23 : PySem.W.isFn K (.ref f23) = true) (l23 : K.lookup f23 = some ⟨oc23, od23, .func (PySem.W.fnOf "pending" "Disk.pending" (defArgs s_Disk_pending) (defBody s_Disk_pending) (defScope s_Disk_pending) .none kV23 dc23 pm23 an23 cd23 ct23), sl23⟩) (c23 : PySem.W.codeIn K cd23 "Disk.pending" = true) (k23 : PySem.W.keepIn K (.ref f23) = true)
    (a24 : PySem.W.findIn K (.ref C0) "flush_count" = some (some (.ref pp24))) (pa24 : PySem.W.specialIn K (.ref pp24) "__get__" = some (some (.builtin "property.__get__"))) (pb24 : PySem.W.takesIn K (.ref pp24) = some true) (pc24 : PySem.W.recIn K pp24 "property" = some (.ref f24 :: pr24)) (l24 : K.lookup f24 = some ⟨oc24, od24, .func (PySem.W.fnOf "flush_count" "Disk.flush_count" (defArgs s_Disk_flush_count) (defBody s_Disk_flush_count) (defScope s_Disk_flush_count) .none kV24 dc24 pm24 an24 cd24 ct24), sl24⟩) (c24 : PySem.W.codeIn K cd24 "Disk.flush_count" = true) (k24 : PySem.W.keepIn K (.ref f24) = true)
    (a25 : PySem.W.findIn K (.ref C0) "is_on" = some (some (.ref pp25))) (pa25 : PySem.W.specialIn K (.ref pp25) "__get__" = some (some (.builtin "property.__get__"))) (pb25 : PySem.W.takesIn K (.ref pp25) = some true) (pc25 : PySem.W.recIn K pp25 "property" = some (.ref f25 :: pr25)) (l25 : K.lookup f25 = some ⟨oc25, od25, .func (PySem.W.fnOf "is_on" "Disk.is_on" (defArgs s_Disk_is_on) (defBody s_Disk_is_on) (defScope s_Disk_is_on) .none kV25 dc25 pm25 an25 cd25 ct25), sl25⟩) (c25 : PySem.W.codeIn K cd25 "Disk.is_on" = true) (k25 : PySem.W.keepIn K (.ref f25) = true)
    (a26 : PySem.W.findIn K (.ref C0) "queued" = some (some (.ref pp26))) (pa26 : PySem.W.specialIn K (.ref pp26) "__get__" = some (some (.builtin "property.__get__"))) (pb26 : PySem.W.takesIn K (.ref pp26) = some true) (pc26 : PySem.W.recIn K pp26 "property" = some (.ref f26 :: pr26)) (l26 : K.lookup f26 = some ⟨oc26, od26, .func (PySem.W.fnOf "queued" "Disk.queued" (defArgs s_Disk_queued) (defBody s_Disk_queued) (defScope s_Disk_queued) .none kV26 dc26 pm26 an26 cd26 ct26), sl26⟩) (c26 : PySem.W.codeIn K cd26 "Disk.queued" = true) (k26 : PySem.W.keepIn K (.ref f26) = true)
    (a27 : PySem.W.findIn K (.ref C0) "read_count" = some (some (.ref pp27))) (pa27 : PySem.W.specialIn K (.ref pp27) "__get__" = some (some (.builtin "property.__get__"))) (pb27 : PySem.W.takesIn K (.ref pp27) = some true) (pc27 : PySem.W.recIn K pp27 "property" = some (.ref f27 :: pr27)) (l27 : K.lookup f27 = some ⟨oc27, od27, .func (PySem.W.fnOf "read_count" "Disk.read_count" (defArgs s_Disk_read_count) (defBody s_Disk_read_count) (defScope s_Disk_read_count) .none kV27 dc27 pm27 an27 cd27 ct27), sl27⟩) (c27 : PySem.W.codeIn K cd27 "Disk.read_count" = true) (k27 : PySem.W.keepIn K (.ref f27) = true)
    (a28 : PySem.W.findIn K (.ref C0) "restart_count" = some (some (.ref pp28))) (pa28 : PySem.W.specialIn K (.ref pp28) "__get__" = some (some (.builtin "property.__get__"))) (pb28 : PySem.W.takesIn K (.ref pp28) = some true) (pc28 : PySem.W.recIn K pp28 "property" = some (.ref f28 :: pr28)) (l28 : K.lookup f28 = some ⟨oc28, od28, .func (PySem.W.fnOf "restart_count" "Disk.restart_count" (defArgs s_Disk_restart_count) (defBody s_Disk_restart_count) (defScope s_Disk_restart_count) .none kV28 dc28 pm28 an28 cd28 ct28), sl28⟩) (c28 : PySem.W.codeIn K cd28 "Disk.restart_count" = true) (k28 : PySem.W.keepIn K (.ref f28) = true)
    (a29 : PySem.W.findIn K (.ref C0) "size" = some (some (.ref pp29))) (pa29 : PySem.W.specialIn K (.ref pp29) "__get__" = some (some (.builtin "property.__get__"))) (pb29 : PySem.W.takesIn K (.ref pp29) = some true) (pc29 : PySem.W.recIn K pp29 "property" = some (.ref f29 :: pr29)) (l29 : K.lookup f29 = some ⟨oc29, od29, .func (PySem.W.fnOf "size" "Disk.size" (defArgs s_Disk_size) (defBody s_Disk_size) (defScope s_Disk_size) .none kV29 dc29 pm29 an29 cd29 ct29), sl29⟩) (c29 : PySem.W.codeIn K cd29 "Disk.size" = true) (k29 : PySem.W.keepIn K (.ref f29) = true)
    (a30 : PySem.W.findIn K (.ref C0) "write_count" = some (some (.ref pp30))) (pa30 : PySem.W.specialIn K (.ref pp30) "__get__" = some (some (.builtin "property.__get__"))) (pb30 : PySem.W.takesIn K (.ref pp30) = some true) (pc30 : PySem.W.recIn K pp30 "property" = some (.ref f30 :: pr30)) (l30 : K.lookup f30 = some ⟨oc30, od30, .func (PySem.W.fnOf "write_count" "Disk.write_count" (defArgs s_Disk_write_count) (defBody s_Disk_write_count) (defScope s_Disk_write_count) .none kV30 dc30 pm30 an30 cd30 ct30), sl30⟩) (c30 : PySem.W.codeIn K cd30 "Disk.write_count" = true) (k30 : PySem.W.keepIn K (.ref f30) = true)
    (a31 : PySem.W.nsIn K mainGlobals "_law_counts" = some (some (.ref f31))) (l31 : K.lookup f31 = some ⟨oc31, od31, .func (PySem.W.fnOf "_law_counts" "_law_counts" (defArgs s_law_counts_u) (defBody s_law_counts_u) (defScope s_law_counts_u) .none kV31 dc31 pm31 an31 cd31 ct31), sl31⟩) (c31 : PySem.W.codeIn K cd31 "_law_counts" = true) (k31 : PySem.W.keepIn K (.ref f31) = true)
    (a32 : PySem.W.nsIn K mainGlobals "_law_same" = some (some (.ref f32))) (l32 : K.lookup f32 = some ⟨oc32, od32, .func (PySem.W.fnOf "_law_same" "_law_same" (defArgs s_law_same_u) (defBody s_law_same_u) (defScope s_law_same_u) .none kV32 dc32 pm32 an32 cd32 ct32), sl32⟩) (c32 : PySem.W.codeIn K cd32 "_law_same" = true) (k32 : PySem.W.keepIn K (.ref f32) = true)
    (a33 : PySem.W.nsIn K mainGlobals "_law_queue" = some (some (.ref f33))) (l33 : K.lookup f33 = some ⟨oc33, od33, .func (PySem.W.fnOf "_law_queue" "_law_queue" (defArgs s_law_queue_u) (defBody s_law_queue_u) (defScope s_law_queue_u) .none kV33 dc33 pm33 an33 cd33 ct33), sl33⟩) (c33 : PySem.W.codeIn K cd33 "_law_queue" = true) (k33 : PySem.W.keepIn K (.ref f33) = true)
    (a34 : PySem.W.nsIn K mainGlobals "_law_look" = some (some (.ref f34))) (l34 : K.lookup f34 = some ⟨oc34, od34, .func (PySem.W.fnOf "_law_look" "_law_look" (defArgs s_law_look_u) (defBody s_law_look_u) (defScope s_law_look_u) .none kV34 dc34 pm34 an34 cd34 ct34), sl34⟩) (c34 : PySem.W.codeIn K cd34 "_law_look" = true) (k34 : PySem.W.keepIn K (.ref f34) = true)
    (a35 : PySem.W.nsIn K mainGlobals "_law_order" = some (some (.ref f35))) (l35 : K.lookup f35 = some ⟨oc35, od35, .func (PySem.W.fnOf "_law_order" "_law_order" (defArgs s_law_order_u) (defBody s_law_order_u) (defScope s_law_order_u) .none kV35 dc35 pm35 an35 cd35 ct35), sl35⟩) (c35 : PySem.W.codeIn K cd35 "_law_order" = true) (k35 : PySem.W.keepIn K (.ref f35) = true)
    (a36 : PySem.W.nsIn K mainGlobals "_law_outside" = some (some (.ref f36))) (l36 : K.lookup f36 = some ⟨oc36, od36, .func (PySem.W.fnOf "_law_outside" "_law_outside" (defArgs s_law_outside_u) (defBody s_law_outside_u) (defScope s_law_outside_u) .none kV36 dc36 pm36 an36 cd36 ct36), sl36⟩) (c36 : PySem.W.codeIn K cd36 "_law_outside" = true) (k36 : PySem.W.keepIn K (.ref f36) = true)
    (a37 : PySem.W.nsIn K mainGlobals "_law_read" = some (some (.ref f37))) (l37 : K.lookup f37 = some ⟨oc37, od37, .func (PySem.W.fnOf "_law_read" "_law_read" (defArgs s_law_read_u) (defBody s_law_read_u) (defScope s_law_read_u) .none kV37 dc37 pm37 an37 cd37 ct37), sl37⟩) (c37 : PySem.W.codeIn K cd37 "_law_read" = true) (k37 : PySem.W.keepIn K (.ref f37) = true)
    (a38 : PySem.W.findIn K (.ref C0) "restart" = some (some (.ref f38))) (i38 : PySem.W.isFn K (.ref f38) = true) (l38 : K.lookup f38 = some ⟨oc38, od38, .func (PySem.W.fnOf "restart" "Disk.restart" (defArgs s_Disk_restart) (defBody s_Disk_restart) (defScope s_Disk_restart) .none kV38 dc38 pm38 an38 cd38 ct38), sl38⟩) (c38 : PySem.W.codeIn K cd38 "Disk.restart" = true) (k38 : PySem.W.keepIn K (.ref f38) = true)
    (a39 : PySem.W.nsIn K mainGlobals "_law_restarted" = some (some (.ref f39))) (l39 : K.lookup f39 = some ⟨oc39, od39, .func (PySem.W.fnOf "_law_restarted" "_law_restarted" (defArgs s_law_restarted_u) (defBody s_law_restarted_u) (defScope s_law_restarted_u) .none kV39 dc39 pm39 an39 cd39 ct39), sl39⟩) (c39 : PySem.W.codeIn K cd39 "_law_restarted" = true) (k39 : PySem.W.keepIn K (.ref f39) = true)
    (a40 : PySem.W.nsIn K mainGlobals "_law_rotted" = some (some (.ref f40))) (l40 : K.lookup f40 = some ⟨oc40, od40, .func (PySem.W.fnOf "_law_rotted" "_law_rotted" (defArgs s_law_rotted_u) (defBody s_law_rotted_u) (defScope s_law_rotted_u) .none kV40 dc40 pm40 an40 cd40 ct40), sl40⟩) (c40 : PySem.W.codeIn K cd40 "_law_rotted" = true) (k40 : PySem.W.keepIn K (.ref f40) = true)
    (a41 : PySem.W.findIn K (.ref C0) "twin" = some (some (.ref f41))) (i41 : PySem.W.isFn K (.ref f41) = true) (l41 : K.lookup f41 = some ⟨oc41, od41, .func (PySem.W.fnOf "twin" "Disk.twin" (defArgs s_Disk_twin) (defBody s_Disk_twin) (defScope s_Disk_twin) .none kV41 dc41 pm41 an41 cd41 ct41), sl41⟩) (c41 : PySem.W.codeIn K cd41 "Disk.twin" = true) (k41 : PySem.W.keepIn K (.ref f41) = true)
    (a42 : PySem.W.nsIn K mainGlobals "_law_split" = some (some (.ref f42))) (l42 : K.lookup f42 = some ⟨oc42, od42, .func (PySem.W.fnOf "_law_split" "_law_split" (defArgs s_law_split_u) (defBody s_law_split_u) (defScope s_law_split_u) .none kV42 dc42 pm42 an42 cd42 ct42), sl42⟩) (c42 : PySem.W.codeIn K cd42 "_law_split" = true) (k42 : PySem.W.keepIn K (.ref f42) = true)
    (a43 : PySem.W.nsIn K mainGlobals "_law_deed" = some (some (.ref f43))) (l43 : K.lookup f43 = some ⟨oc43, od43, .func (PySem.W.fnOf "_law_deed" "_law_deed" (defArgs s_law_deed_u) (defBody s_law_deed_u) (defScope s_law_deed_u) .none kV43 dc43 pm43 an43 cd43 ct43), sl43⟩) (c43 : PySem.W.codeIn K cd43 "_law_deed" = true) (k43 : PySem.W.keepIn K (.ref f43) = true)
    (a44 : PySem.W.nsIn K mainGlobals "_law_dark" = some (some (.ref f44))) (l44 : K.lookup f44 = some ⟨oc44, od44, .func (PySem.W.fnOf "_law_dark" "_law_dark" (defArgs s_law_dark_u) (defBody s_law_dark_u) (defScope s_law_dark_u) .none kV44 dc44 pm44 an44 cd44 ct44), sl44⟩) (c44 : PySem.W.codeIn K cd44 "_law_dark" = true) (k44 : PySem.W.keepIn K (.ref f44) = true)
    (a45 : PySem.W.nsIn K mainGlobals "_law_ended" = some (some (.ref f45))) (l45 : K.lookup f45 = some ⟨oc45, od45, .func (PySem.W.fnOf "_law_ended" "_law_ended" (defArgs s_law_ended_u) (defBody s_law_ended_u) (defScope s_law_ended_u) .none kV45 dc45 pm45 an45 cd45 ct45), sl45⟩) (c45 : PySem.W.codeIn K cd45 "_law_ended" = true) (k45 : PySem.W.keepIn K (.ref f45) = true)
    (a46 : PySem.W.nsIn K mainGlobals "law" = some (some (.ref f46))) (l46 : K.lookup f46 = some ⟨oc46, od46, .func (PySem.W.fnOf "law" "law" (defArgs s_law) (defBody s_law) (defScope s_law) .none kV46 dc46 pm46 an46 cd46 ct46), sl46⟩) (c46 : PySem.W.codeIn K cd46 "law" = true) (k46 : PySem.W.keepIn K (.ref f46) = true)
    (z_range : PySem.W.nsIn K mainGlobals "range" = some none)
    (z_len : PySem.W.nsIn K mainGlobals "len" = some none)
    (z_min : PySem.W.nsIn K mainGlobals "min" = some none)
    (z_int : PySem.W.nsIn K mainGlobals "int" = some none)
    (z_list : PySem.W.nsIn K mainGlobals "list" = some none)
    (z_tuple : PySem.W.nsIn K mainGlobals "tuple" = some none)
    (z_isinstance : PySem.W.nsIn K mainGlobals "isinstance" = some none)
    (z_ValueError : PySem.W.nsIn K mainGlobals "ValueError" = some none)
    (z_bool : PySem.W.nsIn K mainGlobals "bool" = some none)
    (z_dict : PySem.W.nsIn K mainGlobals "dict" = some none)
    (c_WHOLE : PySem.W.nsIn K mainGlobals "WHOLE" = some (some (.int 255 t0)))
    (k_Disk : PySem.W.nsIn K mainGlobals "Disk" = some (some (.ref C0)))
    (k_LandfallError : PySem.W.nsIn K mainGlobals "LandfallError" = some (some (.ref C1)))
    (k_BadLanding : PySem.W.nsIn K mainGlobals "BadLanding" = some (some (.ref C2)))
    (k_Unreadable : PySem.W.nsIn K mainGlobals "Unreadable" = some (some (.ref C3)))
    (k_PowerLost : PySem.W.nsIn K mainGlobals "PowerLost" = some (some (.ref C4)))
    (k_NotAtRest : PySem.W.nsIn K mainGlobals "NotAtRest" = some (some (.ref C5)))
    (k_BadAddress : PySem.W.nsIn K mainGlobals "BadAddress" = some (some (.ref C6)))
    (g_ZERO_WORDS : PySem.W.nsIn K mainGlobals "ZERO_WORDS" = some (some (.ref gp0))) (gv_ZERO_WORDS : ckV K (.ct [(.int 0), (.int 0), (.int 0), (.int 0), (.int 0), (.int 0), (.int 0), (.int 0), (.int 0), (.int 0), (.int 0), (.int 0), (.int 0), (.int 0), (.int 0), (.int 0), (.int 0), (.int 0), (.int 0), (.int 0), (.int 0), (.int 0), (.int 0), (.int 0), (.int 0), (.int 0), (.int 0), (.int 0), (.int 0), (.int 0), (.int 0), (.int 0), (.int 0), (.int 0), (.int 0), (.int 0), (.int 0), (.int 0), (.int 0), (.int 0), (.int 0), (.int 0), (.int 0), (.int 0), (.int 0), (.int 0), (.int 0), (.int 0)]) (.ref gp0) = true)
    (o1_Disk : PySem.W.plainGet K C0 Str.empty = true)
    (o2_Disk : PySem.W.hasDictIn K C0 = true)
    (o3_Disk : PySem.W.plainOver K C0 = true)
    (o4_Disk : PySem.W.findIn K (.ref C0) "__setattr__" = some (some (.builtin "object.__setattr__")))
    (no_Disk_0 : PySem.W.findIn K (.ref C0) "_size" = some none)
    (no_Disk_1 : PySem.W.findIn K (.ref C0) "_platter" = some none)
    (no_Disk_2 : PySem.W.findIn K (.ref C0) "_former" = some none)
    (no_Disk_3 : PySem.W.findIn K (.ref C0) "_lost" = some none)
    (no_Disk_4 : PySem.W.findIn K (.ref C0) "_queue" = some none)
    (no_Disk_5 : PySem.W.findIn K (.ref C0) "_latest" = some none)
    (no_Disk_6 : PySem.W.findIn K (.ref C0) "_has_power" = some none)
    (no_Disk_7 : PySem.W.findIn K (.ref C0) "_limit" = some none)
    (no_Disk_8 : PySem.W.findIn K (.ref C0) "_writes" = some none)
    (no_Disk_9 : PySem.W.findIn K (.ref C0) "_reads" = some none)
    (no_Disk_10 : PySem.W.findIn K (.ref C0) "_flushes" = some none)
    (no_Disk_11 : PySem.W.findIn K (.ref C0) "_restarts" = some none)
    (i1_Disk : PySem.W.findIn K (.ref C0) "__class__" = some (some (.builtin "object.__class__")))
    (i2_Disk : PySem.W.specialIn K (.builtin "object.__class__") "__get__" = some (some (.builtin "getset_descriptor.__get__")))
    (i3_Disk : PySem.W.takesIn K (.builtin "object.__class__") = some true)
    (i4_Disk : PySem.W.mroIn K C0 (.type "object") = some true)
    (i5_Disk : PySem.W.kitOne K (.ref C0) (.ref C0) = some true)
    (x_sup : PySem.W.nsIn K mainGlobals "super" = some none)
    (x_nost : PySem.W.nsIn K cStatics "thirdparty.any" = some none)
    (x_top : (P.main.scope.names.lookup ("super" : Str)).isSome = false)
    (xo_0 : K.lookup C6 = some (excClassObj xn0 xq0 C6 xN0 xb0 xm0 true xS0 xs0 xa0 xc0 xd0 xk0 xl0 xo0 xp0 xr0 "ValueError.__new__"))
    (xm_0 : PySem.HandSPX.refsVE xm0 = true)
    (xsa_0 : PySem.W.findIn K (.ref C6) "__setattr__" = some (some (.builtin "object.__setattr__")))
    (xex_0 : PySem.W.subIn K (.ref C6) (.type "BaseException") = some true)
    (xty_0 : PySem.W.typeIn K (.ref C6) = some (.type "type"))
    (xkp_0 : PySem.W.keepIn K (.ref C6) = true)
    (xin_0 : PySem.W.findIn K (.ref C6) "__init__" = some (some (.ref xI0)))
    (xti_0 : PySem.W.typeIn K (.ref xI0) = some (.type "function"))
    (xlk_0 : K.lookup xI0 = some ⟨xoc0, xod0, .func (PySem.W.ksFn "__init__" "BadAddress.__init__" (defArgs i_BadAddress) (defBody i_BadAddress) (defScope i_BadAddress) .none xkV0 xdo0 xpm0 xan0 (.ref xD0) xct0 xC0), xos0⟩)
    (xcd_0 : PySem.W.codeIn K (.ref xD0) "BadAddress.__init__" = true)
    (xce_0 : K.lookup xC0 = some ⟨xcl0, xe0, .cell (some (.ref C6)), xcs0⟩)
    (xco_0 : K.lookup xD0 = some ⟨xcc0, xg0, .fields xv0, xsl0⟩)
    (xvs_0 : xv0[2]? = some (.str xf0 xt0))
    (xfi_0 : ((P.main.file : Str) == xf0) = true)
    (xsi_0 : PySem.W.ks_superIn K C6 C6 "__init__" = some (some (.builtin "ValueError.__init__")))
    (xmr_0 : PySem.W.mroIn K C6 (.ref C6) = some true)
    (xve_0 : PySem.W.subIn K (.ref C6) (.type "ValueError") = some true)
    (xno_0_address : PySem.W.findIn K (.ref C6) "address" = some none)
    (xo_1 : K.lookup C2 = some (excClassObj xn1 xq1 C2 xN1 xb1 xm1 true xS1 xs1 xa1 xc1 xd1 xk1 xl1 xo1 xp1 xr1 "ValueError.__new__"))
    (xm_1 : PySem.HandSPX.refsVE xm1 = true)
    (xsa_1 : PySem.W.findIn K (.ref C2) "__setattr__" = some (some (.builtin "object.__setattr__")))
    (xex_1 : PySem.W.subIn K (.ref C2) (.type "BaseException") = some true)
    (xty_1 : PySem.W.typeIn K (.ref C2) = some (.type "type"))
    (xkp_1 : PySem.W.keepIn K (.ref C2) = true)
    (xin_1 : PySem.W.findIn K (.ref C2) "__init__" = some (some (.ref xI1)))
    (xti_1 : PySem.W.typeIn K (.ref xI1) = some (.type "function"))
    (xlk_1 : K.lookup xI1 = some ⟨xoc1, xod1, .func (PySem.W.ksFn "__init__" "BadLanding.__init__" (defArgs i_BadLanding) (defBody i_BadLanding) (defScope i_BadLanding) .none xkV1 xdo1 xpm1 xan1 (.ref xD1) xct1 xC1), xos1⟩)
    (xcd_1 : PySem.W.codeIn K (.ref xD1) "BadLanding.__init__" = true)
    (xce_1 : K.lookup xC1 = some ⟨xcl1, xe1, .cell (some (.ref C2)), xcs1⟩)
    (xco_1 : K.lookup xD1 = some ⟨xcc1, xg1, .fields xv1, xsl1⟩)
    (xvs_1 : xv1[2]? = some (.str xf1 xt1))
    (xfi_1 : ((P.main.file : Str) == xf1) = true)
    (xsi_1 : PySem.W.ks_superIn K C2 C2 "__init__" = some (some (.builtin "ValueError.__init__")))
    (xmr_1 : PySem.W.mroIn K C2 (.ref C2) = some true)
    (xve_1 : PySem.W.subIn K (.ref C2) (.type "ValueError") = some true)
    (xno_1_index : PySem.W.findIn K (.ref C2) "index" = some none)
    (xo_2 : K.lookup C3 = some (excClassObj xn2 xq2 C3 xN2 xb2 xm2 true xS2 xs2 xa2 xc2 xd2 xk2 xl2 xo2 xp2 xr2 "ValueError.__new__"))
    (xm_2 : PySem.HandSPX.refsVE xm2 = true)
    (xsa_2 : PySem.W.findIn K (.ref C3) "__setattr__" = some (some (.builtin "object.__setattr__")))
    (xex_2 : PySem.W.subIn K (.ref C3) (.type "BaseException") = some true)
    (xty_2 : PySem.W.typeIn K (.ref C3) = some (.type "type"))
    (xkp_2 : PySem.W.keepIn K (.ref C3) = true)
    (xin_2 : PySem.W.findIn K (.ref C3) "__init__" = some (some (.ref xI2)))
    (xti_2 : PySem.W.typeIn K (.ref xI2) = some (.type "function"))
    (xlk_2 : K.lookup xI2 = some ⟨xoc2, xod2, .func (PySem.W.ksFn "__init__" "Unreadable.__init__" (defArgs i_Unreadable) (defBody i_Unreadable) (defScope i_Unreadable) .none xkV2 xdo2 xpm2 xan2 (.ref xD2) xct2 xC2), xos2⟩)
    (xcd_2 : PySem.W.codeIn K (.ref xD2) "Unreadable.__init__" = true)
    (xce_2 : K.lookup xC2 = some ⟨xcl2, xe2, .cell (some (.ref C3)), xcs2⟩)
    (xco_2 : K.lookup xD2 = some ⟨xcc2, xg2, .fields xv2, xsl2⟩)
    (xvs_2 : xv2[2]? = some (.str xf2 xt2))
    (xfi_2 : ((P.main.file : Str) == xf2) = true)
    (xsi_2 : PySem.W.ks_superIn K C3 C3 "__init__" = some (some (.builtin "ValueError.__init__")))
    (xmr_2 : PySem.W.mroIn K C3 (.ref C3) = some true)
    (xve_2 : PySem.W.subIn K (.ref C3) (.type "ValueError") = some true)
    (xno_2_address : PySem.W.findIn K (.ref C3) "address" = some none)
    (yq_NotAtRest : PySem.W.excIn K C5 [.type "ValueError", .type "Exception", .type "BaseException", .type "object"] "ValueError.__new__" = true)
    (yk_NotAtRest : PySem.W.keepIn K (.ref C5) = true)
    (ys_NotAtRest : PySem.W.subIn K (.ref C5) (.type "BaseException") = some true)
    (yt_NotAtRest : PySem.W.typeIn K (.ref C5) = some (.type "type"))
    (yq_PowerLost : PySem.W.excIn K C4 [.type "ValueError", .type "Exception", .type "BaseException", .type "object"] "ValueError.__new__" = true)
    (yk_PowerLost : PySem.W.keepIn K (.ref C4) = true)
    (ys_PowerLost : PySem.W.subIn K (.ref C4) (.type "BaseException") = some true)
    (yt_PowerLost : PySem.W.typeIn K (.ref C4) = some (.type "type"))
    (xta_0 : PySem.W.exmOne K (.ref C6) (.ref C6) = some true)
    (xtb_0 : PySem.W.kitOne K (.ref C6) (.ref C6) = some true)
    (xta_1 : PySem.W.exmOne K (.ref C6) (.ref C2) = some false)
    (xtb_1 : PySem.W.kitOne K (.ref C6) (.ref C2) = some false)
    (xta_2 : PySem.W.exmOne K (.ref C6) (.ref C1) = some true)
    (xtb_2 : PySem.W.kitOne K (.ref C6) (.ref C1) = some true)
    (xta_3 : PySem.W.exmOne K (.ref C6) (.ref C5) = some false)
    (xtb_3 : PySem.W.kitOne K (.ref C6) (.ref C5) = some false)
    (xta_4 : PySem.W.exmOne K (.ref C6) (.ref C4) = some false)
    (xtb_4 : PySem.W.kitOne K (.ref C6) (.ref C4) = some false)
    (xta_5 : PySem.W.exmOne K (.ref C6) (.ref C3) = some false)
    (xtb_5 : PySem.W.kitOne K (.ref C6) (.ref C3) = some false)
    (xta_6 : PySem.W.exmOne K (.ref C2) (.ref C6) = some false)
    (xtb_6 : PySem.W.kitOne K (.ref C2) (.ref C6) = some false)
    (xta_7 : PySem.W.exmOne K (.ref C2) (.ref C2) = some true)
    (xtb_7 : PySem.W.kitOne K (.ref C2) (.ref C2) = some true)
    (xta_8 : PySem.W.exmOne K (.ref C2) (.ref C1) = some true)
    (xtb_8 : PySem.W.kitOne K (.ref C2) (.ref C1) = some true)
    (xta_9 : PySem.W.exmOne K (.ref C2) (.ref C5) = some false)
    (xtb_9 : PySem.W.kitOne K (.ref C2) (.ref C5) = some false)
    (xta_10 : PySem.W.exmOne K (.ref C2) (.ref C4) = some false)
    (xtb_10 : PySem.W.kitOne K (.ref C2) (.ref C4) = some false)
    (xta_11 : PySem.W.exmOne K (.ref C2) (.ref C3) = some false)
    (xtb_11 : PySem.W.kitOne K (.ref C2) (.ref C3) = some false)
    (xta_12 : PySem.W.exmOne K (.ref C5) (.ref C6) = some false)
    (xtb_12 : PySem.W.kitOne K (.ref C5) (.ref C6) = some false)
    (xta_13 : PySem.W.exmOne K (.ref C5) (.ref C2) = some false)
    (xtb_13 : PySem.W.kitOne K (.ref C5) (.ref C2) = some false)
    (xta_14 : PySem.W.exmOne K (.ref C5) (.ref C1) = some true)
    (xtb_14 : PySem.W.kitOne K (.ref C5) (.ref C1) = some true)
    (xta_15 : PySem.W.exmOne K (.ref C5) (.ref C5) = some true)
    (xtb_15 : PySem.W.kitOne K (.ref C5) (.ref C5) = some true)
    (xta_16 : PySem.W.exmOne K (.ref C5) (.ref C4) = some false)
    (xtb_16 : PySem.W.kitOne K (.ref C5) (.ref C4) = some false)
    (xta_17 : PySem.W.exmOne K (.ref C5) (.ref C3) = some false)
    (xtb_17 : PySem.W.kitOne K (.ref C5) (.ref C3) = some false)
    (xta_18 : PySem.W.exmOne K (.ref C4) (.ref C6) = some false)
    (xtb_18 : PySem.W.kitOne K (.ref C4) (.ref C6) = some false)
    (xta_19 : PySem.W.exmOne K (.ref C4) (.ref C2) = some false)
    (xtb_19 : PySem.W.kitOne K (.ref C4) (.ref C2) = some false)
    (xta_20 : PySem.W.exmOne K (.ref C4) (.ref C1) = some true)
    (xtb_20 : PySem.W.kitOne K (.ref C4) (.ref C1) = some true)
    (xta_21 : PySem.W.exmOne K (.ref C4) (.ref C5) = some false)
    (xtb_21 : PySem.W.kitOne K (.ref C4) (.ref C5) = some false)
    (xta_22 : PySem.W.exmOne K (.ref C4) (.ref C4) = some true)
    (xtb_22 : PySem.W.kitOne K (.ref C4) (.ref C4) = some true)
    (xta_23 : PySem.W.exmOne K (.ref C4) (.ref C3) = some false)
    (xtb_23 : PySem.W.kitOne K (.ref C4) (.ref C3) = some false)
    (xta_24 : PySem.W.exmOne K (.ref C3) (.ref C6) = some false)
    (xtb_24 : PySem.W.kitOne K (.ref C3) (.ref C6) = some false)
    (xta_25 : PySem.W.exmOne K (.ref C3) (.ref C2) = some false)
    (xtb_25 : PySem.W.kitOne K (.ref C3) (.ref C2) = some false)
    (xta_26 : PySem.W.exmOne K (.ref C3) (.ref C1) = some true)
    (xtb_26 : PySem.W.kitOne K (.ref C3) (.ref C1) = some true)
    (xta_27 : PySem.W.exmOne K (.ref C3) (.ref C5) = some false)
    (xtb_27 : PySem.W.kitOne K (.ref C3) (.ref C5) = some false)
    (xta_28 : PySem.W.exmOne K (.ref C3) (.ref C4) = some false)
    (xtb_28 : PySem.W.kitOne K (.ref C3) (.ref C4) = some false)
    (xta_29 : PySem.W.exmOne K (.ref C3) (.ref C3) = some true)
    (xtb_29 : PySem.W.kitOne K (.ref C3) (.ref C3) = some true)
    (xtt_0 : PySem.W.kitOne K (.ref C6) (.type "ValueError") = some true)
    (xtt_1 : PySem.W.kitOne K (.ref C2) (.type "ValueError") = some true)
    (xtt_2 : PySem.W.kitOne K (.ref C5) (.type "ValueError") = some true)
    (xtt_3 : PySem.W.kitOne K (.ref C4) (.type "ValueError") = some true)
    (xtt_4 : PySem.W.kitOne K (.ref C3) (.type "ValueError") = some true)
    (xfa_0 : xfB K C6 = true)
    (xfb_0 : PySem.W.findIn K (.ref C6) "address" = some none)
    (xfa_1 : xfB K C2 = true)
    (xfb_1 : PySem.W.findIn K (.ref C2) "address" = some none)
    (xfa_2 : xfB K C3 = true)
    (xfb_2 : PySem.W.findIn K (.ref C3) "address" = some none)
    (xnm_0 : excB K C6 = true)
    (xnm_1 : excB K C2 = true)
    (xnm_2 : excB K C5 = true)
    (xnm_3 : excB K C4 = true)
    (xnm_4 : excB K C3 = true)
    (hm : LawHolds m_law) : ∃ fd : FuncData, (∀ (s : Shared) (u : Value), BindsTo s fd ⟨[u], []⟩ [(("script" : Str), u)]) ∧ ∀ base : Heap, K.In base → base.Ns mainGlobals mg → FnOk P w K mg base (L2N.CX P w) 9 fa fd ["script"] (spL K) := by
  have T : Top P w K mg := ⟨kAt_mk X G (fun _ _ _ _ _ _ us hl => match us, hl with | [_, _], _ => rfl) k_Disk mk0 a0 i0 kc0 l0 c0 k0,
    fnAt_mk X G (fun _ _ _ _ _ _ us hl => match us, hl with | [_], _ => rfl) a1 l1 c1 k1,
    mAt_mk X G (fun _ _ _ _ _ _ us hl => match us, hl with | [_, _], _ => rfl) k_Disk o1_Disk o2_Disk o3_Disk o4_Disk a2 i2 l2 c2 k2,
    fnAt_mk X G (fun _ _ _ _ _ _ us hl => match us, hl with | [_, _], _ => rfl) a3 l3 c3 k3,
    fnAt_mk X G (fun _ _ _ _ _ _ us hl => match us, hl with | [_, _], _ => rfl) a4 l4 c4 k4,
    fnAt_mk X G (fun _ _ _ _ _ _ us hl => match us, hl with | [_, _], _ => rfl) a5 l5 c5 k5,
    mAt_mk X G (fun _ _ _ _ _ _ us hl => match us, hl with | [_], _ => rfl) k_Disk o1_Disk o2_Disk o3_Disk o4_Disk a6 i6 l6 c6 k6,
    mAt_mk X G (fun _ _ _ _ _ _ us hl => match us, hl with | [_, _], _ => rfl) k_Disk o1_Disk o2_Disk o3_Disk o4_Disk a7 i7 l7 c7 k7,
    mAt_mk X G (fun _ _ _ _ _ _ us hl => match us, hl with | [_, _, _, _], _ => rfl) k_Disk o1_Disk o2_Disk o3_Disk o4_Disk a8 i8 l8 c8 k8,
    mAt_mk X G (fun _ _ _ _ _ _ us hl => match us, hl with | [_], _ => rfl) k_Disk o1_Disk o2_Disk o3_Disk o4_Disk a9 i9 l9 c9 k9,
    mAt_mk X G (fun _ _ _ _ _ _ us hl => match us, hl with | [_], _ => rfl) k_Disk o1_Disk o2_Disk o3_Disk o4_Disk a10 i10 l10 c10 k10,
    mAt_mk X G (fun _ _ _ _ _ _ us hl => match us, hl with | [_, _], _ => rfl) k_Disk o1_Disk o2_Disk o3_Disk o4_Disk a11 i11 l11 c11 k11,
    mAt_mk X G (fun _ _ _ _ _ _ us hl => match us, hl with | [_, _, _], _ => rfl) k_Disk o1_Disk o2_Disk o3_Disk o4_Disk a12 i12 l12 c12 k12,
    fnAt_mk X G (fun _ _ _ _ _ _ us hl => match us, hl with | [_, _], _ => rfl) a13 l13 c13 k13,
    fnAt_mk X G (fun _ _ _ _ _ _ us hl => match us, hl with | [_, _], _ => rfl) a14 l14 c14 k14,
    mAt_mk X G (fun _ _ _ _ _ _ us hl => match us, hl with | [_, _], _ => rfl) k_Disk o1_Disk o2_Disk o3_Disk o4_Disk a15 i15 l15 c15 k15,
    mAt_mk X G (fun _ _ _ _ _ _ us hl => match us, hl with | [_, _], _ => rfl) k_Disk o1_Disk o2_Disk o3_Disk o4_Disk a16 i16 l16 c16 k16,
    mAt_mk X G (fun _ _ _ _ _ _ us hl => match us, hl with | [_], _ => rfl) k_Disk o1_Disk o2_Disk o3_Disk o4_Disk a17 i17 l17 c17 k17,
    mAt_mk X G (fun _ _ _ _ _ _ us hl => match us, hl with | [_, _, _, _], _ => rfl) k_Disk o1_Disk o2_Disk o3_Disk o4_Disk a18 i18 l18 c18 k18,
    fnAt_mk X G (fun _ _ _ _ _ _ us hl => match us, hl with | [_, _], _ => rfl) a19 l19 c19 k19,
    fnAt_mk X G (fun _ _ _ _ _ _ us hl => match us, hl with | [_, _, _, _], _ => rfl) a20 l20 c20 k20,
    fnAt_mk X G (fun _ _ _ _ _ _ us hl => match us, hl with | [_, _], _ => rfl) a21 l21 c21 k21,
    fnAt_mk X G (fun _ _ _ _ _ _ us hl => match us, hl with | [_, _, _], _ => rfl) a22 l22 c22 k22,
    mAt_mk X G (fun _ _ _ _ _ _ us hl => match us, hl with | [_], _ => rfl) k_Disk o1_Disk o2_Disk o3_Disk o4_Disk a23 i23 l23 c23 k23,
    pAt_mk X G (fun _ _ _ _ _ _ us hl => match us, hl with | [_], _ => rfl) k_Disk o1_Disk o2_Disk o3_Disk o4_Disk a24 pa24 pb24 pc24 l24 c24 k24,
    pAt_mk X G (fun _ _ _ _ _ _ us hl => match us, hl with | [_], _ => rfl) k_Disk o1_Disk o2_Disk o3_Disk o4_Disk a25 pa25 pb25 pc25 l25 c25 k25,
    pAt_mk X G (fun _ _ _ _ _ _ us hl => match us, hl with | [_], _ => rfl) k_Disk o1_Disk o2_Disk o3_Disk o4_Disk a26 pa26 pb26 pc26 l26 c26 k26,
    pAt_mk X G (fun _ _ _ _ _ _ us hl => match us, hl with | [_], _ => rfl) k_Disk o1_Disk o2_Disk o3_Disk o4_Disk a27 pa27 pb27 pc27 l27 c27 k27,
    pAt_mk X G (fun _ _ _ _ _ _ us hl => match us, hl with | [_], _ => rfl) k_Disk o1_Disk o2_Disk o3_Disk o4_Disk a28 pa28 pb28 pc28 l28 c28 k28,
    pAt_mk X G (fun _ _ _ _ _ _ us hl => match us, hl with | [_], _ => rfl) k_Disk o1_Disk o2_Disk o3_Disk o4_Disk a29 pa29 pb29 pc29 l29 c29 k29,
    pAt_mk X G (fun _ _ _ _ _ _ us hl => match us, hl with | [_], _ => rfl) k_Disk o1_Disk o2_Disk o3_Disk o4_Disk a30 pa30 pb30 pc30 l30 c30 k30,
    fnAt_mk X G (fun _ _ _ _ _ _ us hl => match us, hl with | [_], _ => rfl) a31 l31 c31 k31,
    fnAt_mk X G (fun _ _ _ _ _ _ us hl => match us, hl with | [_, _], _ => rfl) a32 l32 c32 k32,
    fnAt_mk X G (fun _ _ _ _ _ _ us hl => match us, hl with | [_, _], _ => rfl) a33 l33 c33 k33,
    fnAt_mk X G (fun _ _ _ _ _ _ us hl => match us, hl with | [_], _ => rfl) a34 l34 c34 k34,
    fnAt_mk X G (fun _ _ _ _ _ _ us hl => match us, hl with | [_, _], _ => rfl) a35 l35 c35 k35,
    fnAt_mk X G (fun _ _ _ _ _ _ us hl => match us, hl with | [_, _], _ => rfl) a36 l36 c36 k36,
    fnAt_mk X G (fun _ _ _ _ _ _ us hl => match us, hl with | [_, _], _ => rfl) a37 l37 c37 k37,
    mAt_mk X G (fun _ _ _ _ _ _ us hl => match us, hl with | [_, _], _ => rfl) k_Disk o1_Disk o2_Disk o3_Disk o4_Disk a38 i38 l38 c38 k38,
    fnAt_mk X G (fun _ _ _ _ _ _ us hl => match us, hl with | [_, _], _ => rfl) a39 l39 c39 k39,
    fnAt_mk X G (fun _ _ _ _ _ _ us hl => match us, hl with | [_, _], _ => rfl) a40 l40 c40 k40,
    mAt_mk X G (fun _ _ _ _ _ _ us hl => match us, hl with | [_], _ => rfl) k_Disk o1_Disk o2_Disk o3_Disk o4_Disk a41 i41 l41 c41 k41,
    fnAt_mk X G (fun _ _ _ _ _ _ us hl => match us, hl with | [_, _], _ => rfl) a42 l42 c42 k42,
    fnAt_mk X G (fun _ _ _ _ _ _ us hl => match us, hl with | [_, _, _], _ => rfl) a43 l43 c43 k43,
    fnAt_mk X G (fun _ _ _ _ _ _ us hl => match us, hl with | [_, _], _ => rfl) a44 l44 c44 k44,
    fnAt_mk X G (fun _ _ _ _ _ _ us hl => match us, hl with | [_, _], _ => rfl) a45 l45 c45 k45,
    fnAt_mk X G (fun _ _ _ _ _ _ us hl => match us, hl with | [_], _ => rfl) a46 l46 c46 k46,
    (fun x fs hm => by
      simp only [xCt, List.mem_cons, List.not_mem_nil, or_false, Prod.mk.injEq] at hm
      rcases hm with ⟨rfl, rfl⟩
      · refine ⟨_, PySem.W.mg_of X G k_Disk, ⟨o1_Disk, o2_Disk, o3_Disk, o4_Disk⟩, fun f hf => ?_⟩
        simp only [List.mem_cons, List.not_mem_nil, or_false] at hf
        rcases hf with rfl | rfl | rfl | rfl | rfl | rfl | rfl | rfl | rfl | rfl | rfl | rfl
        · exact no_Disk_0
        · exact no_Disk_1
        · exact no_Disk_2
        · exact no_Disk_3
        · exact no_Disk_4
        · exact no_Disk_5
        · exact no_Disk_6
        · exact no_Disk_7
        · exact no_Disk_8
        · exact no_Disk_9
        · exact no_Disk_10
        · exact no_Disk_11),
    PySem.W.mg_none_of X G z_range,
    PySem.W.mg_none_of X G z_len,
    PySem.W.mg_none_of X G z_min,
    PySem.W.mg_none_of X G z_int,
    PySem.W.mg_none_of X G z_list,
    PySem.W.mg_none_of X G z_tuple,
    PySem.W.mg_none_of X G z_isinstance,
    PySem.W.mg_none_of X G z_ValueError,
    PySem.W.mg_none_of X G z_bool,
    PySem.W.mg_none_of X G z_dict,
    ⟨_, PySem.W.mg_of X G c_WHOLE⟩,
    ⟨_, PySem.W.mg_of X G k_Disk⟩,
    ⟨_, PySem.W.mg_of X G k_LandfallError⟩,
    ⟨_, PySem.W.mg_of X G k_BadLanding⟩,
    ⟨_, PySem.W.mg_of X G k_Unreadable⟩,
    ⟨_, PySem.W.mg_of X G k_PowerLost⟩,
    ⟨_, PySem.W.mg_of X G k_NotAtRest⟩,
    ⟨_, PySem.W.mg_of X G k_BadAddress⟩,
    ⟨_, PySem.W.mg_of X G k_Disk, ⟨⟨o1_Disk, o2_Disk, o3_Disk, o4_Disk⟩, i1_Disk, i2_Disk, i3_Disk, i4_Disk, i5_Disk⟩⟩,
    gct (PySem.W.mg_of X G g_ZERO_WORDS) gv_ZERO_WORDS,
    fun w base => exc1 (st := i_BadAddress) X G ⟨k_BadAddress, ⟨_, _, _, _, _, _, _, _, _, _, _, _, _, _, _, xo_0, xm_0⟩, xsa_0, xex_0, xty_0, xkp_0, xin_0, xti_0, ⟨_, _, _, _, _, _, _, _, xlk_0⟩, xcd_0, ⟨_, _, _, xce_0⟩, ⟨_, _, _, _, _, _, xco_0, xvs_0, xfi_0⟩, x_top, x_sup, x_nost, xsi_0, xmr_0, xve_0⟩ xno_0_address,
    fun w base => exc1 (st := i_BadLanding) X G ⟨k_BadLanding, ⟨_, _, _, _, _, _, _, _, _, _, _, _, _, _, _, xo_1, xm_1⟩, xsa_1, xex_1, xty_1, xkp_1, xin_1, xti_1, ⟨_, _, _, _, _, _, _, _, xlk_1⟩, xcd_1, ⟨_, _, _, xce_1⟩, ⟨_, _, _, _, _, _, xco_1, xvs_1, xfi_1⟩, x_top, x_sup, x_nost, xsi_1, xmr_1, xve_1⟩ xno_1_index,
    fun w base => exc1 (st := i_Unreadable) X G ⟨k_Unreadable, ⟨_, _, _, _, _, _, _, _, _, _, _, _, _, _, _, xo_2, xm_2⟩, xsa_2, xex_2, xty_2, xkp_2, xin_2, xti_2, ⟨_, _, _, _, _, _, _, _, xlk_2⟩, xcd_2, ⟨_, _, _, xce_2⟩, ⟨_, _, _, _, _, _, xco_2, xvs_2, xfi_2⟩, x_top, x_sup, x_nost, xsi_2, xmr_2, xve_2⟩ xno_2_address,
    ⟨_, _, _, _, _, PySem.F.excBase_ValueError, yq_NotAtRest, PySem.W.mg_of X G k_NotAtRest, yk_NotAtRest, ys_NotAtRest, yt_NotAtRest⟩,
    ⟨_, _, _, _, _, PySem.F.excBase_ValueError, yq_PowerLost, PySem.W.mg_of X G k_PowerLost, yk_PowerLost, ys_PowerLost, yt_PowerLost⟩,
    (fun p hp => by
      simp only [xNm, List.mem_cons, List.not_mem_nil, or_false] at hp
      rcases hp with rfl | rfl | rfl | rfl | rfl
      · exact ⟨_, PySem.W.mg_of X G k_BadAddress, excB_ok xnm_0⟩
      · exact ⟨_, PySem.W.mg_of X G k_BadLanding, excB_ok xnm_1⟩
      · exact ⟨_, PySem.W.mg_of X G k_NotAtRest, excB_ok xnm_2⟩
      · exact ⟨_, PySem.W.mg_of X G k_PowerLost, excB_ok xnm_3⟩
      · exact ⟨_, PySem.W.mg_of X G k_Unreadable, excB_ok xnm_4⟩),
    (fun p hp => by
      simp only [xTk, List.mem_cons, List.not_mem_nil, or_false] at hp
      rcases hp with rfl | rfl | rfl | rfl | rfl | rfl | rfl | rfl | rfl | rfl | rfl | rfl | rfl | rfl | rfl | rfl | rfl | rfl | rfl | rfl | rfl | rfl | rfl | rfl | rfl | rfl | rfl | rfl | rfl | rfl
      · exact ⟨_, _, PySem.W.mg_of X G k_BadAddress, PySem.W.mg_of X G k_BadAddress, xta_0, xtb_0⟩
      · exact ⟨_, _, PySem.W.mg_of X G k_BadAddress, PySem.W.mg_of X G k_BadLanding, xta_1, xtb_1⟩
      · exact ⟨_, _, PySem.W.mg_of X G k_BadAddress, PySem.W.mg_of X G k_LandfallError, xta_2, xtb_2⟩
      · exact ⟨_, _, PySem.W.mg_of X G k_BadAddress, PySem.W.mg_of X G k_NotAtRest, xta_3, xtb_3⟩
      · exact ⟨_, _, PySem.W.mg_of X G k_BadAddress, PySem.W.mg_of X G k_PowerLost, xta_4, xtb_4⟩
      · exact ⟨_, _, PySem.W.mg_of X G k_BadAddress, PySem.W.mg_of X G k_Unreadable, xta_5, xtb_5⟩
      · exact ⟨_, _, PySem.W.mg_of X G k_BadLanding, PySem.W.mg_of X G k_BadAddress, xta_6, xtb_6⟩
      · exact ⟨_, _, PySem.W.mg_of X G k_BadLanding, PySem.W.mg_of X G k_BadLanding, xta_7, xtb_7⟩
      · exact ⟨_, _, PySem.W.mg_of X G k_BadLanding, PySem.W.mg_of X G k_LandfallError, xta_8, xtb_8⟩
      · exact ⟨_, _, PySem.W.mg_of X G k_BadLanding, PySem.W.mg_of X G k_NotAtRest, xta_9, xtb_9⟩
      · exact ⟨_, _, PySem.W.mg_of X G k_BadLanding, PySem.W.mg_of X G k_PowerLost, xta_10, xtb_10⟩
      · exact ⟨_, _, PySem.W.mg_of X G k_BadLanding, PySem.W.mg_of X G k_Unreadable, xta_11, xtb_11⟩
      · exact ⟨_, _, PySem.W.mg_of X G k_NotAtRest, PySem.W.mg_of X G k_BadAddress, xta_12, xtb_12⟩
      · exact ⟨_, _, PySem.W.mg_of X G k_NotAtRest, PySem.W.mg_of X G k_BadLanding, xta_13, xtb_13⟩
      · exact ⟨_, _, PySem.W.mg_of X G k_NotAtRest, PySem.W.mg_of X G k_LandfallError, xta_14, xtb_14⟩
      · exact ⟨_, _, PySem.W.mg_of X G k_NotAtRest, PySem.W.mg_of X G k_NotAtRest, xta_15, xtb_15⟩
      · exact ⟨_, _, PySem.W.mg_of X G k_NotAtRest, PySem.W.mg_of X G k_PowerLost, xta_16, xtb_16⟩
      · exact ⟨_, _, PySem.W.mg_of X G k_NotAtRest, PySem.W.mg_of X G k_Unreadable, xta_17, xtb_17⟩
      · exact ⟨_, _, PySem.W.mg_of X G k_PowerLost, PySem.W.mg_of X G k_BadAddress, xta_18, xtb_18⟩
      · exact ⟨_, _, PySem.W.mg_of X G k_PowerLost, PySem.W.mg_of X G k_BadLanding, xta_19, xtb_19⟩
      · exact ⟨_, _, PySem.W.mg_of X G k_PowerLost, PySem.W.mg_of X G k_LandfallError, xta_20, xtb_20⟩
      · exact ⟨_, _, PySem.W.mg_of X G k_PowerLost, PySem.W.mg_of X G k_NotAtRest, xta_21, xtb_21⟩
      · exact ⟨_, _, PySem.W.mg_of X G k_PowerLost, PySem.W.mg_of X G k_PowerLost, xta_22, xtb_22⟩
      · exact ⟨_, _, PySem.W.mg_of X G k_PowerLost, PySem.W.mg_of X G k_Unreadable, xta_23, xtb_23⟩
      · exact ⟨_, _, PySem.W.mg_of X G k_Unreadable, PySem.W.mg_of X G k_BadAddress, xta_24, xtb_24⟩
      · exact ⟨_, _, PySem.W.mg_of X G k_Unreadable, PySem.W.mg_of X G k_BadLanding, xta_25, xtb_25⟩
      · exact ⟨_, _, PySem.W.mg_of X G k_Unreadable, PySem.W.mg_of X G k_LandfallError, xta_26, xtb_26⟩
      · exact ⟨_, _, PySem.W.mg_of X G k_Unreadable, PySem.W.mg_of X G k_NotAtRest, xta_27, xtb_27⟩
      · exact ⟨_, _, PySem.W.mg_of X G k_Unreadable, PySem.W.mg_of X G k_PowerLost, xta_28, xtb_28⟩
      · exact ⟨_, _, PySem.W.mg_of X G k_Unreadable, PySem.W.mg_of X G k_Unreadable, xta_29, xtb_29⟩),
    (fun p hp => by
      simp only [xTt, List.mem_cons, List.not_mem_nil, or_false] at hp
      rcases hp with rfl | rfl | rfl | rfl | rfl
      · exact ⟨_, PySem.W.mg_of X G k_BadAddress, xtt_0⟩
      · exact ⟨_, PySem.W.mg_of X G k_BadLanding, xtt_1⟩
      · exact ⟨_, PySem.W.mg_of X G k_NotAtRest, xtt_2⟩
      · exact ⟨_, PySem.W.mg_of X G k_PowerLost, xtt_3⟩
      · exact ⟨_, PySem.W.mg_of X G k_Unreadable, xtt_4⟩),
    (fun p hp => by
      simp only [xFt, List.mem_cons, List.not_mem_nil, or_false] at hp
      rcases hp with rfl | rfl | rfl
      · exact ⟨_, PySem.W.mg_of X G k_BadAddress, xfB_ok xfa_0, xfb_0⟩
      · exact ⟨_, PySem.W.mg_of X G k_BadLanding, xfB_ok xfa_1, xfb_1⟩
      · exact ⟨_, PySem.W.mg_of X G k_Unreadable, xfB_ok xfa_2, xfb_2⟩)⟩
  unfold m_law at hm
  exact lawOf T.f_law hmg sc_law (fun base => bd_law T) hm
end K06
open PySem PySem.W PyProof.Rows
set_option maxRecDepth 100000 in
set_option maxHeartbeats 0 in
theorem PySem.Challenge.cw_landfall_k06_power_limit_holds : PySem.Challenge.rw_landfall_k06_power_limit.Holds := by
  w_on; o_law; k_head; (case hw => w_witness2)
  k_fill
  refine LF.law_walk (l := PySem.Challenge.rw_landfall_k06_power_limit) (k := 9) rfl rfl ⟨rfl, by decide, by decide⟩ (fun w h Y => PySem.W.kIn_of Y) ?F
  case F =>
    intro w mg fa h KX G hmg
    refine' K06.all_mk KX G hmg ?a0 ?i0 ?mk0 ?kc0 ?l0 ?c0 ?k0 ?a1 ?l1 ?c1 ?k1 ?a2 ?i2 ?l2 ?c2 ?k2 ?a3 ?l3 ?c3 ?k3 ?a4 ?l4 ?c4 ?k4 ?a5 ?l5 ?c5 ?k5 ?a6 ?i6 ?l6 ?c6 ?k6 ?a7 ?i7 ?l7 ?c7 ?k7 ?a8 ?i8 ?l8 ?c8 ?k8 ?a9 ?i9 ?l9 ?c9 ?k9 ?a10 ?i10 ?l10 ?c10 ?k10 ?a11 ?i11 ?l11 ?c11 ?k11 ?a12 ?i12 ?l12 ?c12 ?k12 ?a13 ?l13 ?c13 ?k13 ?a14 ?l14 ?c14 ?k14 ?a15 ?i15 ?l15 ?c15 ?k15 ?a16 ?i16 ?l16 ?c16 ?k16 ?a17 ?i17 ?l17 ?c17 ?k17 ?a18 ?i18 ?l18 ?c18 ?k18 ?a19 ?l19 ?c19 ?k19 ?a20 ?l20 ?c20 ?k20 ?a21 ?l21 ?c21 ?k21 ?a22 ?l22 ?c22 ?k22 ?a23 ?i23 ?l23 ?c23 ?k23 ?a24 ?pa24 ?pb24 ?pc24 ?l24 ?c24 ?k24 ?a25 ?pa25 ?pb25 ?pc25 ?l25 ?c25 ?k25 ?a26 ?pa26 ?pb26 ?pc26 ?l26 ?c26 ?k26 ?a27 ?pa27 ?pb27 ?pc27 ?l27 ?c27 ?k27 ?a28 ?pa28 ?pb28 ?pc28 ?l28 ?c28 ?k28 ?a29 ?pa29 ?pb29 ?pc29 ?l29 ?c29 ?k29 ?a30 ?pa30 ?pb30 ?pc30 ?l30 ?c30 ?k30 ?a31 ?l31 ?c31 ?k31 ?a32 ?l32 ?c32 ?k32 ?a33 ?l33 ?c33 ?k33 ?a34 ?l34 ?c34 ?k34 ?a35 ?l35 ?c35 ?k35 ?a36 ?l36 ?c36 ?k36 ?a37 ?l37 ?c37 ?k37 ?a38 ?i38 ?l38 ?c38 ?k38 ?a39 ?l39 ?c39 ?k39 ?a40 ?l40 ?c40 ?k40 ?a41 ?i41 ?l41 ?c41 ?k41 ?a42 ?l42 ?c42 ?k42 ?a43 ?l43 ?c43 ?k43 ?a44 ?l44 ?c44 ?k44 ?a45 ?l45 ?c45 ?k45 ?a46 ?l46 ?c46 ?k46 ?z_range ?z_len ?z_min ?z_int ?z_list ?z_tuple ?z_isinstance ?z_ValueError ?z_bool ?z_dict ?c_WHOLE ?k_Disk ?k_LandfallError ?k_BadLanding ?k_Unreadable ?k_PowerLost ?k_NotAtRest ?k_BadAddress ?g_ZERO_WORDS ?gv_ZERO_WORDS ?o1_Disk ?o2_Disk ?o3_Disk ?o4_Disk ?no_Disk_0 ?no_Disk_1 ?no_Disk_2 ?no_Disk_3 ?no_Disk_4 ?no_Disk_5 ?no_Disk_6 ?no_Disk_7 ?no_Disk_8 ?no_Disk_9 ?no_Disk_10 ?no_Disk_11 ?i1_Disk ?i2_Disk ?i3_Disk ?i4_Disk ?i5_Disk ?x_sup ?x_nost ?x_top ?xo_0 ?xm_0 ?xsa_0 ?xex_0 ?xty_0 ?xkp_0 ?xin_0 ?xti_0 ?xlk_0 ?xcd_0 ?xce_0 ?xco_0 ?xvs_0 ?xfi_0 ?xsi_0 ?xmr_0 ?xve_0 ?xno_0_address ?xo_1 ?xm_1 ?xsa_1 ?xex_1 ?xty_1 ?xkp_1 ?xin_1 ?xti_1 ?xlk_1 ?xcd_1 ?xce_1 ?xco_1 ?xvs_1 ?xfi_1 ?xsi_1 ?xmr_1 ?xve_1 ?xno_1_index ?xo_2 ?xm_2 ?xsa_2 ?xex_2 ?xty_2 ?xkp_2 ?xin_2 ?xti_2 ?xlk_2 ?xcd_2 ?xce_2 ?xco_2 ?xvs_2 ?xfi_2 ?xsi_2 ?xmr_2 ?xve_2 ?xno_2_address ?yq_NotAtRest ?yk_NotAtRest ?ys_NotAtRest ?yt_NotAtRest ?yq_PowerLost ?yk_PowerLost ?ys_PowerLost ?yt_PowerLost ?xta_0 ?xtb_0 ?xta_1 ?xtb_1 ?xta_2 ?xtb_2 ?xta_3 ?xtb_3 ?xta_4 ?xtb_4 ?xta_5 ?xtb_5 ?xta_6 ?xtb_6 ?xta_7 ?xtb_7 ?xta_8 ?xtb_8 ?xta_9 ?xtb_9 ?xta_10 ?xtb_10 ?xta_11 ?xtb_11 ?xta_12 ?xtb_12 ?xta_13 ?xtb_13 ?xta_14 ?xtb_14 ?xta_15 ?xtb_15 ?xta_16 ?xtb_16 ?xta_17 ?xtb_17 ?xta_18 ?xtb_18 ?xta_19 ?xtb_19 ?xta_20 ?xtb_20 ?xta_21 ?xtb_21 ?xta_22 ?xtb_22 ?xta_23 ?xtb_23 ?xta_24 ?xtb_24 ?xta_25 ?xtb_25 ?xta_26 ?xtb_26 ?xta_27 ?xtb_27 ?xta_28 ?xtb_28 ?xta_29 ?xtb_29 ?xtt_0 ?xtt_1 ?xtt_2 ?xtt_3 ?xtt_4 ?xfa_0 ?xfb_0 ?xfa_1 ?xfb_1 ?xfa_2 ?xfb_2 ?xnm_0 ?xnm_1 ?xnm_2 ?xnm_3 ?xnm_4 K06.holds
    (case k_Disk => k_is); (case k_LandfallError => k_is); (case k_BadLanding => k_is); (case k_Unreadable => k_is); (case k_PowerLost => k_is); (case k_NotAtRest => k_is); (case k_BadAddress => k_is); (case a1 => k_is)
    (case l1 => k_is); (case c1 => k_is); (case k1 => k_is); (case a3 => k_is); (case l3 => k_is); (case c3 => k_is); (case k3 => k_is); (case a4 => k_is)
    (case l4 => k_is); (case c4 => k_is); (case k4 => k_is); (case a5 => k_is); (case l5 => k_is); (case c5 => k_is); (case k5 => k_is); (case a13 => k_is)
    (case l13 => k_is); (case c13 => k_is); (case k13 => k_is); (case a14 => k_is); (case l14 => k_is); (case c14 => k_is); (case k14 => k_is); (case a19 => k_is)
    (case l19 => k_is); (case c19 => k_is); (case k19 => k_is); (case a20 => k_is); (case l20 => k_is); (case c20 => k_is); (case k20 => k_is); (case a21 => k_is)
    (case l21 => k_is); (case c21 => k_is); (case k21 => k_is); (case a22 => k_is); (case l22 => k_is); (case c22 => k_is); (case k22 => k_is); (case a31 => k_is)
    (case l31 => k_is); (case c31 => k_is); (case k31 => k_is); (case a32 => k_is); (case l32 => k_is); (case c32 => k_is); (case k32 => k_is); (case a33 => k_is)
    (case l33 => k_is); (case c33 => k_is); (case k33 => k_is); (case a34 => k_is); (case l34 => k_is); (case c34 => k_is); (case k34 => k_is); (case a35 => k_is)
    (case l35 => k_is); (case c35 => k_is); (case k35 => k_is); (case a36 => k_is); (case l36 => k_is); (case c36 => k_is); (case k36 => k_is); (case a37 => k_is)
    (case l37 => k_is); (case c37 => k_is); (case k37 => k_is); (case a39 => k_is); (case l39 => k_is); (case c39 => k_is); (case k39 => k_is); (case a40 => k_is)
    (case l40 => k_is); (case c40 => k_is); (case k40 => k_is); (case a42 => k_is); (case l42 => k_is); (case c42 => k_is); (case k42 => k_is); (case a43 => k_is)
    (case l43 => k_is); (case c43 => k_is); (case k43 => k_is); (case a44 => k_is); (case l44 => k_is); (case c44 => k_is); (case k44 => k_is); (case a45 => k_is)
    (case l45 => k_is); (case c45 => k_is); (case k45 => k_is); (case a46 => k_is); (case l46 => k_is); (case c46 => k_is); (case k46 => k_is); (case z_range => k_is)
    (case z_len => k_is); (case z_min => k_is); (case z_int => k_is); (case z_list => k_is); (case z_tuple => k_is); (case z_isinstance => k_is); (case z_ValueError => k_is); (case z_bool => k_is)
    (case z_dict => k_is); (case c_WHOLE => k_is)
    (case g_ZERO_WORDS => first | k_is | rfl | kernel_rfl | decide +kernel)
    (case gv_ZERO_WORDS => first | k_is | rfl | kernel_rfl | decide +kernel)
    (case a0 => first | k_is | rfl | kernel_rfl | decide +kernel)
    (case i0 => first | k_is | rfl | kernel_rfl | decide +kernel)
    (case mk0 => first | k_is | rfl | kernel_rfl | decide +kernel)
    (case kc0 => first | k_is | rfl | kernel_rfl | decide +kernel)
    (case l0 => first | k_is | rfl | kernel_rfl | decide +kernel)
    (case c0 => first | k_is | rfl | kernel_rfl | decide +kernel)
    (case k0 => first | k_is | rfl | kernel_rfl | decide +kernel)
    (case a2 => first | k_is | rfl | kernel_rfl | decide +kernel)
    (case i2 => first | k_is | rfl | kernel_rfl | decide +kernel)
    (case l2 => first | k_is | rfl | kernel_rfl | decide +kernel)
    (case c2 => first | k_is | rfl | kernel_rfl | decide +kernel)
    (case k2 => first | k_is | rfl | kernel_rfl | decide +kernel)
    (case a6 => first | k_is | rfl | kernel_rfl | decide +kernel)
    (case i6 => first | k_is | rfl | kernel_rfl | decide +kernel)
    (case l6 => first | k_is | rfl | kernel_rfl | decide +kernel)
    (case c6 => first | k_is | rfl | kernel_rfl | decide +kernel)
    (case k6 => first | k_is | rfl | kernel_rfl | decide +kernel)
    (case a7 => first | k_is | rfl | kernel_rfl | decide +kernel)
    (case i7 => first | k_is | rfl | kernel_rfl | decide +kernel)
    (case l7 => first | k_is | rfl | kernel_rfl | decide +kernel)
    (case c7 => first | k_is | rfl | kernel_rfl | decide +kernel)
    (case k7 => first | k_is | rfl | kernel_rfl | decide +kernel)
    (case a8 => first | k_is | rfl | kernel_rfl | decide +kernel)
    (case i8 => first | k_is | rfl | kernel_rfl | decide +kernel)
    (case l8 => first | k_is | rfl | kernel_rfl | decide +kernel)
    (case c8 => first | k_is | rfl | kernel_rfl | decide +kernel)
    (case k8 => first | k_is | rfl | kernel_rfl | decide +kernel)
    (case a9 => first | k_is | rfl | kernel_rfl | decide +kernel)
    (case i9 => first | k_is | rfl | kernel_rfl | decide +kernel)
    (case l9 => first | k_is | rfl | kernel_rfl | decide +kernel)
    (case c9 => first | k_is | rfl | kernel_rfl | decide +kernel)
    (case k9 => first | k_is | rfl | kernel_rfl | decide +kernel)
    (case a10 => first | k_is | rfl | kernel_rfl | decide +kernel)
    (case i10 => first | k_is | rfl | kernel_rfl | decide +kernel)
    (case l10 => first | k_is | rfl | kernel_rfl | decide +kernel)
    (case c10 => first | k_is | rfl | kernel_rfl | decide +kernel)
    (case k10 => first | k_is | rfl | kernel_rfl | decide +kernel)
    (case a11 => first | k_is | rfl | kernel_rfl | decide +kernel)
    (case i11 => first | k_is | rfl | kernel_rfl | decide +kernel)
    (case l11 => first | k_is | rfl | kernel_rfl | decide +kernel)
    (case c11 => first | k_is | rfl | kernel_rfl | decide +kernel)
    (case k11 => first | k_is | rfl | kernel_rfl | decide +kernel)
    (case a12 => first | k_is | rfl | kernel_rfl | decide +kernel)
    (case i12 => first | k_is | rfl | kernel_rfl | decide +kernel)
    (case l12 => first | k_is | rfl | kernel_rfl | decide +kernel)
    (case c12 => first | k_is | rfl | kernel_rfl | decide +kernel)
    (case k12 => first | k_is | rfl | kernel_rfl | decide +kernel)
    (case a15 => first | k_is | rfl | kernel_rfl | decide +kernel)
    (case i15 => first | k_is | rfl | kernel_rfl | decide +kernel)
    (case l15 => first | k_is | rfl | kernel_rfl | decide +kernel)
    (case c15 => first | k_is | rfl | kernel_rfl | decide +kernel)
    (case k15 => first | k_is | rfl | kernel_rfl | decide +kernel)
    (case a16 => first | k_is | rfl | kernel_rfl | decide +kernel)
    (case i16 => first | k_is | rfl | kernel_rfl | decide +kernel)
    (case l16 => first | k_is | rfl | kernel_rfl | decide +kernel)
    (case c16 => first | k_is | rfl | kernel_rfl | decide +kernel)
    (case k16 => first | k_is | rfl | kernel_rfl | decide +kernel)
    (case a17 => first | k_is | rfl | kernel_rfl | decide +kernel)
    (case i17 => first | k_is | rfl | kernel_rfl | decide +kernel)
    (case l17 => first | k_is | rfl | kernel_rfl | decide +kernel)
    (case c17 => first | k_is | rfl | kernel_rfl | decide +kernel)
    (case k17 => first | k_is | rfl | kernel_rfl | decide +kernel)
    (case a18 => first | k_is | rfl | kernel_rfl | decide +kernel)
    (case i18 => first | k_is | rfl | kernel_rfl | decide +kernel)
    (case l18 => first | k_is | rfl | kernel_rfl | decide +kernel)
    (case c18 => first | k_is | rfl | kernel_rfl | decide +kernel)
    (case k18 => first | k_is | rfl | kernel_rfl | decide +kernel)
    (case a23 => first | k_is | rfl | kernel_rfl | decide +kernel)
    (case i23 => first | k_is | rfl | kernel_rfl | decide +kernel)
    (case l23 => first | k_is | rfl | kernel_rfl | decide +kernel)
    (case c23 => first | k_is | rfl | kernel_rfl | decide +kernel)
    (case k23 => first | k_is | rfl | kernel_rfl | decide +kernel)
    (case a24 => first | k_is | rfl | kernel_rfl | decide +kernel)
    (case pa24 => first | k_is | rfl | kernel_rfl | decide +kernel)
    (case pb24 => first | k_is | rfl | kernel_rfl | decide +kernel)
    (case pc24 => first | k_is | rfl | kernel_rfl | decide +kernel)
    (case l24 => first | k_is | rfl | kernel_rfl | decide +kernel)
    (case c24 => first | k_is | rfl | kernel_rfl | decide +kernel)
    (case k24 => first | k_is | rfl | kernel_rfl | decide +kernel)
    (case a25 => first | k_is | rfl | kernel_rfl | decide +kernel)
    (case pa25 => first | k_is | rfl | kernel_rfl | decide +kernel)
    (case pb25 => first | k_is | rfl | kernel_rfl | decide +kernel)
    (case pc25 => first | k_is | rfl | kernel_rfl | decide +kernel)
    (case l25 => first | k_is | rfl | kernel_rfl | decide +kernel)
    (case c25 => first | k_is | rfl | kernel_rfl | decide +kernel)
    (case k25 => first | k_is | rfl | kernel_rfl | decide +kernel)
    (case a26 => first | k_is | rfl | kernel_rfl | decide +kernel)
    (case pa26 => first | k_is | rfl | kernel_rfl | decide +kernel)
    (case pb26 => first | k_is | rfl | kernel_rfl | decide +kernel)
    (case pc26 => first | k_is | rfl | kernel_rfl | decide +kernel)
    (case l26 => first | k_is | rfl | kernel_rfl | decide +kernel)
    (case c26 => first | k_is | rfl | kernel_rfl | decide +kernel)
    (case k26 => first | k_is | rfl | kernel_rfl | decide +kernel)
    (case a27 => first | k_is | rfl | kernel_rfl | decide +kernel)
    (case pa27 => first | k_is | rfl | kernel_rfl | decide +kernel)
    (case pb27 => first | k_is | rfl | kernel_rfl | decide +kernel)
    (case pc27 => first | k_is | rfl | kernel_rfl | decide +kernel)
    (case l27 => first | k_is | rfl | kernel_rfl | decide +kernel)
    (case c27 => first | k_is | rfl | kernel_rfl | decide +kernel)
    (case k27 => first | k_is | rfl | kernel_rfl | decide +kernel)
    (case a28 => first | k_is | rfl | kernel_rfl | decide +kernel)
    (case pa28 => first | k_is | rfl | kernel_rfl | decide +kernel)
    (case pb28 => first | k_is | rfl | kernel_rfl | decide +kernel)
    (case pc28 => first | k_is | rfl | kernel_rfl | decide +kernel)
    (case l28 => first | k_is | rfl | kernel_rfl | decide +kernel)
    (case c28 => first | k_is | rfl | kernel_rfl | decide +kernel)
    (case k28 => first | k_is | rfl | kernel_rfl | decide +kernel)
    (case a29 => first | k_is | rfl | kernel_rfl | decide +kernel)
    (case pa29 => first | k_is | rfl | kernel_rfl | decide +kernel)
    (case pb29 => first | k_is | rfl | kernel_rfl | decide +kernel)
    (case pc29 => first | k_is | rfl | kernel_rfl | decide +kernel)
    (case l29 => first | k_is | rfl | kernel_rfl | decide +kernel)
    (case c29 => first | k_is | rfl | kernel_rfl | decide +kernel)
    (case k29 => first | k_is | rfl | kernel_rfl | decide +kernel)
    (case a30 => first | k_is | rfl | kernel_rfl | decide +kernel)
    (case pa30 => first | k_is | rfl | kernel_rfl | decide +kernel)
    (case pb30 => first | k_is | rfl | kernel_rfl | decide +kernel)
    (case pc30 => first | k_is | rfl | kernel_rfl | decide +kernel)
    (case l30 => first | k_is | rfl | kernel_rfl | decide +kernel)
    (case c30 => first | k_is | rfl | kernel_rfl | decide +kernel)
    (case k30 => first | k_is | rfl | kernel_rfl | decide +kernel)
    (case a38 => first | k_is | rfl | kernel_rfl | decide +kernel)
    (case i38 => first | k_is | rfl | kernel_rfl | decide +kernel)
    (case l38 => first | k_is | rfl | kernel_rfl | decide +kernel)
    (case c38 => first | k_is | rfl | kernel_rfl | decide +kernel)
    (case k38 => first | k_is | rfl | kernel_rfl | decide +kernel)
    (case a41 => first | k_is | rfl | kernel_rfl | decide +kernel)
    (case i41 => first | k_is | rfl | kernel_rfl | decide +kernel)
    (case l41 => first | k_is | rfl | kernel_rfl | decide +kernel)
    (case c41 => first | k_is | rfl | kernel_rfl | decide +kernel)
    (case k41 => first | k_is | rfl | kernel_rfl | decide +kernel)
    (case o1_Disk => first | k_is | rfl | kernel_rfl | decide +kernel)
    (case o2_Disk => first | k_is | rfl | kernel_rfl | decide +kernel)
    (case o3_Disk => first | k_is | rfl | kernel_rfl | decide +kernel)
    (case o4_Disk => first | k_is | rfl | kernel_rfl | decide +kernel)
    (case no_Disk_0 => first | k_is | rfl | kernel_rfl | decide +kernel)
    (case no_Disk_1 => first | k_is | rfl | kernel_rfl | decide +kernel)
    (case no_Disk_2 => first | k_is | rfl | kernel_rfl | decide +kernel)
    (case no_Disk_3 => first | k_is | rfl | kernel_rfl | decide +kernel)
    (case no_Disk_4 => first | k_is | rfl | kernel_rfl | decide +kernel)
    (case no_Disk_5 => first | k_is | rfl | kernel_rfl | decide +kernel)
    (case no_Disk_6 => first | k_is | rfl | kernel_rfl | decide +kernel)
    (case no_Disk_7 => first | k_is | rfl | kernel_rfl | decide +kernel)
    (case no_Disk_8 => first | k_is | rfl | kernel_rfl | decide +kernel)
    (case no_Disk_9 => first | k_is | rfl | kernel_rfl | decide +kernel)
    (case no_Disk_10 => first | k_is | rfl | kernel_rfl | decide +kernel)
    (case no_Disk_11 => first | k_is | rfl | kernel_rfl | decide +kernel)
    (case i1_Disk => first | k_is | rfl | kernel_rfl | decide +kernel)
    (case i2_Disk => first | k_is | rfl | kernel_rfl | decide +kernel)
    (case i3_Disk => first | k_is | rfl | kernel_rfl | decide +kernel)
    (case i4_Disk => first | k_is | rfl | kernel_rfl | decide +kernel)
    (case i5_Disk => first | k_is | rfl | kernel_rfl | decide +kernel)
    (case x_sup => first | k_is | rfl | kernel_rfl | decide +kernel)
    (case x_nost => first | k_is | rfl | kernel_rfl | decide +kernel)
    (case x_top => first | k_is | rfl | kernel_rfl | decide +kernel)
    (case xo_0 => first | k_is | rfl | kernel_rfl | decide +kernel)
    (case xm_0 => first | k_is | rfl | kernel_rfl | decide +kernel)
    (case xsa_0 => first | k_is | rfl | kernel_rfl | decide +kernel)
    (case xex_0 => first | k_is | rfl | kernel_rfl | decide +kernel)
    (case xty_0 => first | k_is | rfl | kernel_rfl | decide +kernel)
    (case xkp_0 => first | k_is | rfl | kernel_rfl | decide +kernel)
    (case xin_0 => first | k_is | rfl | kernel_rfl | decide +kernel)
    (case xti_0 => first | k_is | rfl | kernel_rfl | decide +kernel)
    (case xlk_0 => first | k_is | rfl | kernel_rfl | decide +kernel)
    (case xcd_0 => first | k_is | rfl | kernel_rfl | decide +kernel)
    (case xce_0 => first | k_is | rfl | kernel_rfl | decide +kernel)
    (case xco_0 => first | k_is | rfl | kernel_rfl | decide +kernel)
    (case xvs_0 => first | k_is | rfl | kernel_rfl | decide +kernel)
    (case xfi_0 => first | k_is | rfl | kernel_rfl | decide +kernel)
    (case xsi_0 => first | k_is | rfl | kernel_rfl | decide +kernel)
    (case xmr_0 => first | k_is | rfl | kernel_rfl | decide +kernel)
    (case xve_0 => first | k_is | rfl | kernel_rfl | decide +kernel)
    (case xno_0_address => first | k_is | rfl | kernel_rfl | decide +kernel)
    (case xo_1 => first | k_is | rfl | kernel_rfl | decide +kernel)
    (case xm_1 => first | k_is | rfl | kernel_rfl | decide +kernel)
    (case xsa_1 => first | k_is | rfl | kernel_rfl | decide +kernel)
    (case xex_1 => first | k_is | rfl | kernel_rfl | decide +kernel)
    (case xty_1 => first | k_is | rfl | kernel_rfl | decide +kernel)
    (case xkp_1 => first | k_is | rfl | kernel_rfl | decide +kernel)
    (case xin_1 => first | k_is | rfl | kernel_rfl | decide +kernel)
    (case xti_1 => first | k_is | rfl | kernel_rfl | decide +kernel)
    (case xlk_1 => first | k_is | rfl | kernel_rfl | decide +kernel)
    (case xcd_1 => first | k_is | rfl | kernel_rfl | decide +kernel)
    (case xce_1 => first | k_is | rfl | kernel_rfl | decide +kernel)
    (case xco_1 => first | k_is | rfl | kernel_rfl | decide +kernel)
    (case xvs_1 => first | k_is | rfl | kernel_rfl | decide +kernel)
    (case xfi_1 => first | k_is | rfl | kernel_rfl | decide +kernel)
    (case xsi_1 => first | k_is | rfl | kernel_rfl | decide +kernel)
    (case xmr_1 => first | k_is | rfl | kernel_rfl | decide +kernel)
    (case xve_1 => first | k_is | rfl | kernel_rfl | decide +kernel)
    (case xno_1_index => first | k_is | rfl | kernel_rfl | decide +kernel)
    (case xo_2 => first | k_is | rfl | kernel_rfl | decide +kernel)
    (case xm_2 => first | k_is | rfl | kernel_rfl | decide +kernel)
    (case xsa_2 => first | k_is | rfl | kernel_rfl | decide +kernel)
    (case xex_2 => first | k_is | rfl | kernel_rfl | decide +kernel)
    (case xty_2 => first | k_is | rfl | kernel_rfl | decide +kernel)
    (case xkp_2 => first | k_is | rfl | kernel_rfl | decide +kernel)
    (case xin_2 => first | k_is | rfl | kernel_rfl | decide +kernel)
    (case xti_2 => first | k_is | rfl | kernel_rfl | decide +kernel)
    (case xlk_2 => first | k_is | rfl | kernel_rfl | decide +kernel)
    (case xcd_2 => first | k_is | rfl | kernel_rfl | decide +kernel)
    (case xce_2 => first | k_is | rfl | kernel_rfl | decide +kernel)
    (case xco_2 => first | k_is | rfl | kernel_rfl | decide +kernel)
    (case xvs_2 => first | k_is | rfl | kernel_rfl | decide +kernel)
    (case xfi_2 => first | k_is | rfl | kernel_rfl | decide +kernel)
    (case xsi_2 => first | k_is | rfl | kernel_rfl | decide +kernel)
    (case xmr_2 => first | k_is | rfl | kernel_rfl | decide +kernel)
    (case xve_2 => first | k_is | rfl | kernel_rfl | decide +kernel)
    (case xno_2_address => first | k_is | rfl | kernel_rfl | decide +kernel)
    (case yq_NotAtRest => first | k_is | rfl | kernel_rfl | decide +kernel)
    (case yk_NotAtRest => first | k_is | rfl | kernel_rfl | decide +kernel)
    (case ys_NotAtRest => first | k_is | rfl | kernel_rfl | decide +kernel)
    (case yt_NotAtRest => first | k_is | rfl | kernel_rfl | decide +kernel)
    (case yq_PowerLost => first | k_is | rfl | kernel_rfl | decide +kernel)
    (case yk_PowerLost => first | k_is | rfl | kernel_rfl | decide +kernel)
    (case ys_PowerLost => first | k_is | rfl | kernel_rfl | decide +kernel)
    (case yt_PowerLost => first | k_is | rfl | kernel_rfl | decide +kernel)
    (case xta_0 => first | k_is | rfl | kernel_rfl | decide +kernel)
    (case xtb_0 => first | k_is | rfl | kernel_rfl | decide +kernel)
    (case xta_1 => first | k_is | rfl | kernel_rfl | decide +kernel)
    (case xtb_1 => first | k_is | rfl | kernel_rfl | decide +kernel)
    (case xta_2 => first | k_is | rfl | kernel_rfl | decide +kernel)
    (case xtb_2 => first | k_is | rfl | kernel_rfl | decide +kernel)
    (case xta_3 => first | k_is | rfl | kernel_rfl | decide +kernel)
    (case xtb_3 => first | k_is | rfl | kernel_rfl | decide +kernel)
    (case xta_4 => first | k_is | rfl | kernel_rfl | decide +kernel)
    (case xtb_4 => first | k_is | rfl | kernel_rfl | decide +kernel)
    (case xta_5 => first | k_is | rfl | kernel_rfl | decide +kernel)
    (case xtb_5 => first | k_is | rfl | kernel_rfl | decide +kernel)
    (case xta_6 => first | k_is | rfl | kernel_rfl | decide +kernel)
    (case xtb_6 => first | k_is | rfl | kernel_rfl | decide +kernel)
    (case xta_7 => first | k_is | rfl | kernel_rfl | decide +kernel)
    (case xtb_7 => first | k_is | rfl | kernel_rfl | decide +kernel)
    (case xta_8 => first | k_is | rfl | kernel_rfl | decide +kernel)
    (case xtb_8 => first | k_is | rfl | kernel_rfl | decide +kernel)
    (case xta_9 => first | k_is | rfl | kernel_rfl | decide +kernel)
    (case xtb_9 => first | k_is | rfl | kernel_rfl | decide +kernel)
    (case xta_10 => first | k_is | rfl | kernel_rfl | decide +kernel)
    (case xtb_10 => first | k_is | rfl | kernel_rfl | decide +kernel)
    (case xta_11 => first | k_is | rfl | kernel_rfl | decide +kernel)
    (case xtb_11 => first | k_is | rfl | kernel_rfl | decide +kernel)
    (case xta_12 => first | k_is | rfl | kernel_rfl | decide +kernel)
    (case xtb_12 => first | k_is | rfl | kernel_rfl | decide +kernel)
    (case xta_13 => first | k_is | rfl | kernel_rfl | decide +kernel)
    (case xtb_13 => first | k_is | rfl | kernel_rfl | decide +kernel)
    (case xta_14 => first | k_is | rfl | kernel_rfl | decide +kernel)
    (case xtb_14 => first | k_is | rfl | kernel_rfl | decide +kernel)
    (case xta_15 => first | k_is | rfl | kernel_rfl | decide +kernel)
    (case xtb_15 => first | k_is | rfl | kernel_rfl | decide +kernel)
    (case xta_16 => first | k_is | rfl | kernel_rfl | decide +kernel)
    (case xtb_16 => first | k_is | rfl | kernel_rfl | decide +kernel)
    (case xta_17 => first | k_is | rfl | kernel_rfl | decide +kernel)
    (case xtb_17 => first | k_is | rfl | kernel_rfl | decide +kernel)
    (case xta_18 => first | k_is | rfl | kernel_rfl | decide +kernel)
    (case xtb_18 => first | k_is | rfl | kernel_rfl | decide +kernel)
    (case xta_19 => first | k_is | rfl | kernel_rfl | decide +kernel)
    (case xtb_19 => first | k_is | rfl | kernel_rfl | decide +kernel)
    (case xta_20 => first | k_is | rfl | kernel_rfl | decide +kernel)
    (case xtb_20 => first | k_is | rfl | kernel_rfl | decide +kernel)
    (case xta_21 => first | k_is | rfl | kernel_rfl | decide +kernel)
    (case xtb_21 => first | k_is | rfl | kernel_rfl | decide +kernel)
    (case xta_22 => first | k_is | rfl | kernel_rfl | decide +kernel)
    (case xtb_22 => first | k_is | rfl | kernel_rfl | decide +kernel)
    (case xta_23 => first | k_is | rfl | kernel_rfl | decide +kernel)
    (case xtb_23 => first | k_is | rfl | kernel_rfl | decide +kernel)
    (case xta_24 => first | k_is | rfl | kernel_rfl | decide +kernel)
    (case xtb_24 => first | k_is | rfl | kernel_rfl | decide +kernel)
    (case xta_25 => first | k_is | rfl | kernel_rfl | decide +kernel)
    (case xtb_25 => first | k_is | rfl | kernel_rfl | decide +kernel)
    (case xta_26 => first | k_is | rfl | kernel_rfl | decide +kernel)
    (case xtb_26 => first | k_is | rfl | kernel_rfl | decide +kernel)
    (case xta_27 => first | k_is | rfl | kernel_rfl | decide +kernel)
    (case xtb_27 => first | k_is | rfl | kernel_rfl | decide +kernel)
    (case xta_28 => first | k_is | rfl | kernel_rfl | decide +kernel)
    (case xtb_28 => first | k_is | rfl | kernel_rfl | decide +kernel)
    (case xta_29 => first | k_is | rfl | kernel_rfl | decide +kernel)
    (case xtb_29 => first | k_is | rfl | kernel_rfl | decide +kernel)
    (case xtt_0 => first | k_is | rfl | kernel_rfl | decide +kernel)
    (case xtt_1 => first | k_is | rfl | kernel_rfl | decide +kernel)
    (case xtt_2 => first | k_is | rfl | kernel_rfl | decide +kernel)
    (case xtt_3 => first | k_is | rfl | kernel_rfl | decide +kernel)
    (case xtt_4 => first | k_is | rfl | kernel_rfl | decide +kernel)
    (case xfa_0 => first | k_is | rfl | kernel_rfl | decide +kernel)
    (case xfb_0 => first | k_is | rfl | kernel_rfl | decide +kernel)
    (case xfa_1 => first | k_is | rfl | kernel_rfl | decide +kernel)
    (case xfb_1 => first | k_is | rfl | kernel_rfl | decide +kernel)
    (case xfa_2 => first | k_is | rfl | kernel_rfl | decide +kernel)
    (case xfb_2 => first | k_is | rfl | kernel_rfl | decide +kernel)
    (case xnm_0 => first | k_is | rfl | kernel_rfl | decide +kernel)
    (case xnm_1 => first | k_is | rfl | kernel_rfl | decide +kernel)
    (case xnm_2 => first | k_is | rfl | kernel_rfl | decide +kernel)
    (case xnm_3 => first | k_is | rfl | kernel_rfl | decide +kernel)
    (case xnm_4 => first | k_is | rfl | kernel_rfl | decide +kernel)
