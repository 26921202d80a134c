import PyProof.Rows.All
import Wide.All
import OpenK.AllK
import Wide.FinOn
import HandS.ForMost
import HandS.ForExc
import HandS.Flow
import HandS.Wide
import HandS.IsInst
import HandS.ExcField
import HandS.ExcIs
import HandS.CallSlots
import HandS.TryMany
import HandS.Codes
import HandS.TupAny
import HandS.EndBits
import PySem.Challenge.RW_landfall_k08_data_of_blocks
set_option Elab.async false
set_option linter.all false
set_option maxRecDepth 100000
set_option maxHeartbeats 4000000
/-! LF0: a plain machine over data and a list of objects; what it means that a judgement of the hand layer runs it. -/
namespace LF
open PySem PySem.Spec L2
open PyProof.Rows hiding St

/-! ### data, objects, results -/
inductive D where
  | non | bl (b : Bool) | int (i : Int) | str (x : Str)
  | tup (xs : List D) | ct (xs : List D) | cl (xs : List D) | loc (l : Nat) | ty (n : String) | cls (x : Str)
inductive O where
  | lst (xs : List D)
  | dK (kvs : List (Key × D))
  | dT (kvs : List (List Key × D))
  | ins (x : Str) (fs : List (Str × D))
abbrev M := List O
inductive Res (α : Type) where
  | ok (a : α) (h : M)
  | exc (x : Str) (ns : List Str) (vs : List D) (h : M)
  | stuck
def Res.bind {α β : Type} (r : Res α) (k : α → M → Res β) : Res β :=
  match r with
  | .ok a h => k a h
  | .exc x ns vs h => .exc x ns vs h
  | .stuck => .stuck
@[simp] theorem bind_ok {α β : Type} {a : α} {h : M} {k : α → M → Res β} : (Res.ok a h).bind k = k a h := (rfl)
@[simp] theorem bind_exc {α β : Type} {x ns vs} {h : M} {k : α → M → Res β} : (Res.exc x ns vs h).bind k = .exc x ns vs h := (rfl)
@[simp] theorem bind_stuck {α β : Type} {k : α → M → Res β} : (Res.stuck : Res α).bind k = .stuck := (rfl)
/-- a slot: nothing yet, a value, the exception that is handled -/
inductive Sl where
  | no | va (d : D) | ex
abbrev En := List Sl
abbrev ME := En → M → Res D
abbrev MA := En → M → Res (List D)
abbrev MT := En → M → Res Bool
inductive SR where
  | nx (env : En) (h : M) | rt (d : D) (h : M) | bk (env : En) (h : M) | ct (env : En) (h : M)
  | exc (x : Str) (ns : List Str) (vs : List D) (env : En) (h : M) | stuck
abbrev MS := En → M → SR

/-! ### how data stand in the abstract heap -/
structure Wo where
  K : PySem.W.Frag
  mg : Str → Option Value
def SqLP (K : PySem.W.Frag) (H : Hp) (a : Addr) (xs : List V) : Prop :=
  (∃ o, H a = some (.frz o (.lst xs))) ∨
    ∃ (o : Obj) (its : Array Value) (n : Nat), K.lookup a = some o ∧ o.cls = .type "list" ∧ o.dict = none ∧ o.data = .seq its n ∧ its.size ≤ sizeLine ∧ Vals xs its.toList
theorem SqLP.sq {K : PySem.W.Frag} {H : Hp} {a : Addr} {xs : List V} (h : SqLP K H a xs) : SqL K H a xs := by
  rcases h with h | h
  · exact .inl (.inr h)
  · exact .inr h
def SqTP (K : PySem.W.Frag) (a : Addr) (xs : List V) : Prop :=
  ∃ (o : Obj) (its : Array Value) (n : Nat), K.lookup a = some o ∧ o.cls = .type "tuple" ∧ o.data = .seq its n ∧ its.size ≤ sizeLine ∧ Vals xs its.toList
def Fix : HO → Prop
  | .tup _ => True
  | .frz _ _ => True
  | .xd _ => True
  | _ => False
def Keep (H H' : Hp) : Prop := ∀ a o, H a = some o → Fix o → H' a = some o
theorem Keep.refl (H : Hp) : Keep H H := fun _ _ h _ => h
theorem Keep.trans {H H1 H2 : Hp} (a : Keep H H1) (b : Keep H1 H2) : Keep H H2 := fun c o h f => b c o (a c o h f) f
theorem Keep.of_same {H H' : Hp} (s : Same H H') : Keep H H' := fun a o h _ => s a o h
theorem same_upd {H : Hp} {p : Addr} {o : HO} (h : H p = none) : Same H (upd H p o) := fun b x e => by
  rw [upd_ne (ne_of_none e h)]; exact e
theorem Keep.tup {K : PySem.W.Frag} {H H' : Hp} {a : Addr} {xs : List V} (k : Keep H H') (h : SqT K H a xs) : SqT K H' a xs := by
  rcases h with (h | ⟨o, h⟩) | h
  · exact .inl (.inl (k _ _ h trivial))
  · exact .inl (.inr ⟨o, k _ _ h trivial⟩)
  · exact .inr h
theorem Keep.sqlp {K : PySem.W.Frag} {H H' : Hp} {a : Addr} {xs : List V} (k : Keep H H') (h : SqLP K H a xs) : SqLP K H' a xs := by
  rcases h with ⟨o, h⟩ | h
  · exact .inl ⟨o, k _ _ h trivial⟩
  · exact .inr h

mutual
def RV (G : Wo) (ι : List Addr) (H : Hp) : D → V → Prop
  | .non, v => v = .non
  | .bl b, v => v = .bl b
  | .int i, v => v = .int i
  | .str x, v => v = .str x
  | .tup xs, v => ∃ a vs, v = .ref a ∧ H a = some (.tup vs) ∧ RVs G ι H xs vs
  | .ct xs, v => ∃ a vs, v = .ref a ∧ SqTP G.K a vs ∧ RVs G ι H xs vs
  | .cl xs, v => ∃ a vs, v = .ref a ∧ SqLP G.K H a vs ∧ RVs G ι H xs vs
  | .loc l, v => ∃ a, v = .ref a ∧ ι[l]? = some a
  | .ty n, v => v = .ty n
  | .cls x, v => ∃ a, v = .ref a ∧ G.mg x = some (.ref a)
def RVs (G : Wo) (ι : List Addr) (H : Hp) : List D → List V → Prop
  | [], vs => vs = []
  | x :: xs, vs => ∃ v r, vs = v :: r ∧ RV G ι H x v ∧ RVs G ι H xs r
end

theorem pre_get {ι ι' : List Addr} (p : ι <+: ι') {l : Nat} {a : Addr} (h : ι[l]? = some a) : ι'[l]? = some a := by
  obtain ⟨t, rfl⟩ := p
  have hl : l < ι.length := (List.getElem?_eq_some_iff.mp h).1
  rw [List.getElem?_append_left hl]; exact h

mutual
theorem RV.mono {G : Wo} {ι ι' : List Addr} {H H' : Hp} (p : ι <+: ι') (k : Keep H H') : ∀ (d : D) (v : V), RV G ι H d v → RV G ι' H' d v
  | .non, _, h => h
  | .bl _, _, h => h
  | .int _, _, h => h
  | .str _, _, h => h
  | .tup xs, _, h => by
    simp only [RV] at h ⊢
    obtain ⟨a, vs, e, q, r⟩ := h
    exact ⟨a, vs, e, k _ _ q trivial, RVs.mono p k xs vs r⟩
  | .ct xs, _, h => by
    simp only [RV] at h ⊢
    obtain ⟨a, vs, e, q, r⟩ := h
    exact ⟨a, vs, e, q, RVs.mono p k xs vs r⟩
  | .cl xs, _, h => by
    simp only [RV] at h ⊢
    obtain ⟨a, vs, e, q, r⟩ := h
    exact ⟨a, vs, e, k.sqlp q, RVs.mono p k xs vs r⟩
  | .loc l, _, h => by
    simp only [RV] at h ⊢
    obtain ⟨a, e, q⟩ := h
    exact ⟨a, e, pre_get p q⟩
  | .ty _, _, h => h
  | .cls _, _, h => h
theorem RVs.mono {G : Wo} {ι ι' : List Addr} {H H' : Hp} (p : ι <+: ι') (k : Keep H H') : ∀ (xs : List D) (vs : List V), RVs G ι H xs vs → RVs G ι' H' xs vs
  | [], _, h => h
  | x :: xs, _, h => by
    simp only [RVs] at h ⊢
    obtain ⟨v, r, e, h1, h2⟩ := h
    exact ⟨v, r, e, RV.mono p k x v h1, RVs.mono p k xs r h2⟩
end
theorem RVs.length {G : Wo} {ι : List Addr} {H : Hp} : ∀ {xs : List D} {vs : List V}, RVs G ι H xs vs → xs.length = vs.length
  | [], vs, h => by simp only [RVs] at h; subst h; rfl
  | x :: xs, vs, h => by
    simp only [RVs] at h
    obtain ⟨v, r, rfl, _, h2⟩ := h
    simp [RVs.length h2]
theorem RVs.get {G : Wo} {ι : List Addr} {H : Hp} : ∀ {xs : List D} {vs : List V} {i : Nat} {d : D}, RVs G ι H xs vs → xs[i]? = some d → ∃ v, vs[i]? = some v ∧ RV G ι H d v
  | [], _, _, _, _, e => by simp at e
  | x :: xs, vs, 0, d, h, e => by
    simp only [RVs] at h
    obtain ⟨v, r, rfl, h1, h2⟩ := h
    simp at e; subst e
    exact ⟨v, rfl, h1⟩
  | x :: xs, vs, i + 1, d, h, e => by
    simp only [RVs] at h
    obtain ⟨v, r, rfl, h1, h2⟩ := h
    simpa using RVs.get (i := i) h2 (by simpa using e)
theorem RVs.getV {G : Wo} {ι : List Addr} {H : Hp} : ∀ {xs : List D} {vs : List V} {i : Nat} {v : V}, RVs G ι H xs vs → vs[i]? = some v → ∃ d, xs[i]? = some d ∧ RV G ι H d v
  | [], vs, i, v, h, e => by simp only [RVs] at h; subst h; simp at e
  | x :: xs, vs, 0, v, h, e => by
    simp only [RVs] at h
    obtain ⟨w, r, rfl, h1, h2⟩ := h
    simp at e; subst e
    exact ⟨x, rfl, h1⟩
  | x :: xs, vs, i + 1, v, h, e => by
    simp only [RVs] at h
    obtain ⟨w, r, rfl, h1, h2⟩ := h
    simpa using RVs.getV (i := i) h2 (by simpa using e)
theorem RVs.append {G : Wo} {ι : List Addr} {H : Hp} : ∀ {xs ys : List D} {vs ws : List V}, RVs G ι H xs vs → RVs G ι H ys ws → RVs G ι H (xs ++ ys) (vs ++ ws)
  | [], ys, vs, ws, h, h2 => by simp only [RVs] at h; subst h; exact h2
  | x :: xs, ys, vs, ws, h, h2 => by
    simp only [RVs] at h
    obtain ⟨w, r, rfl, h1, h3⟩ := h
    show RVs G ι H (x :: (xs ++ ys)) _
    simp only [RVs]
    exact ⟨w, r ++ ws, rfl, h1, RVs.append h3 h2⟩
theorem RVs.take {G : Wo} {ι : List Addr} {H : Hp} : ∀ (n : Nat) {xs : List D} {vs : List V}, RVs G ι H xs vs → RVs G ι H (xs.take n) (vs.take n)
  | 0, xs, vs, h => by simp [RVs]
  | n + 1, [], vs, h => by simp only [RVs] at h; subst h; simp [RVs]
  | n + 1, x :: xs, vs, h => by
    simp only [RVs] at h
    obtain ⟨w, r, rfl, h1, h3⟩ := h
    simp only [List.take_succ_cons, RVs]
    exact ⟨w, _, rfl, h1, RVs.take n h3⟩
theorem RVs.drop {G : Wo} {ι : List Addr} {H : Hp} : ∀ (n : Nat) {xs : List D} {vs : List V}, RVs G ι H xs vs → RVs G ι H (xs.drop n) (vs.drop n)
  | 0, xs, vs, h => by simpa using h
  | n + 1, [], vs, h => by simp only [RVs] at h; subst h; simp [RVs]
  | n + 1, x :: xs, vs, h => by
    simp only [RVs] at h
    obtain ⟨w, r, rfl, h1, h3⟩ := h
    simpa using RVs.drop n h3
theorem RVs.set {G : Wo} {ι : List Addr} {H : Hp} : ∀ {xs : List D} {vs : List V} (i : Nat) {d : D} {v : V}, RVs G ι H xs vs → RV G ι H d v → RVs G ι H (xs.set i d) (vs.set i v)
  | [], vs, i, d, v, h, r => by simp only [RVs] at h; subst h; simp [RVs]
  | x :: xs, vs, 0, d, v, h, r => by
    simp only [RVs] at h
    obtain ⟨w, q, rfl, h1, h3⟩ := h
    simp only [List.set_cons_zero, RVs]
    exact ⟨v, q, rfl, r, h3⟩
  | x :: xs, vs, i + 1, d, v, h, r => by
    simp only [RVs] at h
    obtain ⟨w, q, rfl, h1, h3⟩ := h
    simp only [List.set_cons_succ, RVs]
    exact ⟨w, _, rfl, h1, RVs.set i h3 r⟩
theorem RVs.one {G : Wo} {ι : List Addr} {H : Hp} {d : D} {v : V} (h : RV G ι H d v) : RVs G ι H [d] [v] := by
  simp only [RVs]; exact ⟨v, [], rfl, h, rfl⟩
theorem RVs.nil {G : Wo} {ι : List Addr} {H : Hp} : RVs G ι H [] [] := by simp [RVs]
theorem RVs.cons {G : Wo} {ι : List Addr} {H : Hp} {d : D} {v : V} {xs : List D} {vs : List V} (h : RV G ι H d v) (t : RVs G ι H xs vs) : RVs G ι H (d :: xs) (v :: vs) := by
  simp only [RVs]; exact ⟨v, vs, rfl, h, t⟩
/-- pairs by keys -/
def RKs {κ : Type} (G : Wo) (ι : List Addr) (H : Hp) (kvs : List (κ × D)) (kws : List (κ × V)) : Prop := kvs.map (·.1) = kws.map (·.1) ∧ RVs G ι H (kvs.map (·.2)) (kws.map (·.2))
theorem RKs.mono {κ : Type} {G : Wo} {ι ι' : List Addr} {H H' : Hp} (p : ι <+: ι') (k : Keep H H') {kvs : List (κ × D)} {kws : List (κ × V)} (h : RKs G ι H kvs kws) : RKs G ι' H' kvs kws :=
  ⟨h.1, RVs.mono p k _ _ h.2⟩
def RO (G : Wo) (ι : List Addr) (H : Hp) (a : Addr) : O → Prop
  | .lst xs => ∃ vs, H a = some (.lst vs) ∧ RVs G ι H xs vs
  | .dK kvs => ∃ kws, H a = some (.dK kws) ∧ RKs G ι H kvs kws
  | .dT kvs => ∃ kws, H a = some (.dT kws) ∧ RKs G ι H kvs kws
  | .ins x fs => ∃ C dx fvs, G.mg x = some (.ref C) ∧ H a = some (.ins C dx fvs) ∧ RKs G ι H fs fvs
theorem RO.there {G : Wo} {ι : List Addr} {H : Hp} {a : Addr} {o : O} (h : RO G ι H a o) : ∃ u, H a = some u ∧ ¬ Fix u ∧ Mut (some u) := by
  cases o with
  | lst xs => obtain ⟨vs, e, _⟩ := h; exact ⟨_, e, fun z => z, trivial⟩
  | dK xs => obtain ⟨vs, e, _⟩ := h; exact ⟨_, e, fun z => z, trivial⟩
  | dT xs => obtain ⟨vs, e, _⟩ := h; exact ⟨_, e, fun z => z, trivial⟩
  | ins x fs => obtain ⟨C, dx, fvs, _, e, _⟩ := h; exact ⟨_, e, fun z => z, trivial⟩
/-- the object stands as it stood -/
theorem RO.stay {G : Wo} {ι ι' : List Addr} {H H' : Hp} {a : Addr} {o : O} (h : RO G ι H a o) (p : ι <+: ι') (k : Keep H H') (e : ∀ u, H a = some u → H' a = some u) : RO G ι' H' a o := by
  cases o with
  | lst xs => obtain ⟨vs, q, r⟩ := h; exact ⟨vs, e _ q, RVs.mono p k _ _ r⟩
  | dK xs => obtain ⟨vs, q, r⟩ := h; exact ⟨vs, e _ q, r.mono p k⟩
  | dT xs => obtain ⟨vs, q, r⟩ := h; exact ⟨vs, e _ q, r.mono p k⟩
  | ins x fs => obtain ⟨C, dx, fvs, g, q, r⟩ := h; exact ⟨C, dx, fvs, g, e _ q, r.mono p k⟩

structure Rel (G : Wo) (ι : List Addr) (H : Hp) (h : M) : Prop where
  len : ι.length = h.length
  inj : ∀ (i j : Nat) (a : Addr), ι[i]? = some a → ι[j]? = some a → i = j
  ok : ∀ (l : Nat) (o : O), h[l]? = some o → ∃ a, ι[l]? = some a ∧ RO G ι H a o
theorem Rel.at {G : Wo} {ι : List Addr} {H : Hp} {h : M} (r : Rel G ι H h) {l : Nat} {a : Addr} {o : O} (e : h[l]? = some o) (ea : ι[l]? = some a) : RO G ι H a o := by
  obtain ⟨b, eb, q⟩ := r.ok l o e
  rw [ea] at eb; cases eb; exact q
/-- all objects stand as they stood -/
theorem Rel.same {G : Wo} {ι : List Addr} {H H' : Hp} {h : M} (r : Rel G ι H h) (s : Same H H') : Rel G ι H' h :=
  ⟨r.len, r.inj, fun l o e => let ⟨a, ea, q⟩ := r.ok l o e; ⟨a, ea, q.stay (List.prefix_refl _) (Keep.of_same s) (fun u z => s _ _ z)⟩⟩
theorem Rel.tracked {G : Wo} {ι : List Addr} {H : Hp} {h : M} (r : Rel G ι H h) {l : Nat} {a : Addr} (e : ι[l]? = some a) : ∃ u, H a = some u ∧ ¬ Fix u ∧ Mut (some u) := by
  have hl : l < h.length := by rw [← r.len]; exact (List.getElem?_eq_some_iff.mp e).1
  exact (r.at (List.getElem?_eq_getElem hl) e).there
/-- a new object -/
theorem Rel.push {G : Wo} {ι : List Addr} {H : Hp} {h : M} (r : Rel G ι H h) {p : Addr} {o : O} {u : HO} (hp : H p = none) (ro : RO G (ι ++ [p]) (upd H p u) p o) : Rel G (ι ++ [p]) (upd H p u) (h ++ [o]) := by
  have pre : ι <+: ι ++ [p] := List.prefix_append ..
  have s : Same H (upd H p u) := same_upd hp
  refine ⟨by simp [r.len], fun i j a ei ej => ?_, fun l o' e => ?_⟩
  · have key : ∀ (k : Nat), (ι ++ [p])[k]? = some a → (k < ι.length ∧ ι[k]? = some a) ∨ (k = ι.length ∧ a = p) := fun k ek => by
      by_cases hk : k < ι.length
      · rw [List.getElem?_append_left hk] at ek; exact .inl ⟨hk, ek⟩
      · have hk2 : k < (ι ++ [p]).length := (List.getElem?_eq_some_iff.mp ek).1
        have hk3 : k = ι.length := by simp at hk2; omega
        subst hk3
        simp at ek
        exact .inr ⟨rfl, ek.symm⟩
    have np : ∀ (k : Nat), ι[k]? = some a → a ≠ p := fun k ek z => by
      obtain ⟨u', e', _⟩ := r.tracked ek
      rw [z, hp] at e'; cases e'
    rcases key i ei with ⟨_, a1⟩ | ⟨a1, a2⟩
    · rcases key j ej with ⟨_, b1⟩ | ⟨b1, b2⟩
      · exact r.inj i j a a1 b1
      · exact absurd b2 (np i a1)
    · rcases key j ej with ⟨_, b1⟩ | ⟨b1, b2⟩
      · exact absurd a2 (np j b1)
      · rw [a1, b1]
  · by_cases hl : l < h.length
    · rw [List.getElem?_append_left hl] at e
      obtain ⟨a, ea, q⟩ := r.ok l o' e
      exact ⟨a, pre_get pre ea, q.stay pre (Keep.of_same s) fun u z => s _ _ z⟩
    · have hk2 : l < (h ++ [o]).length := (List.getElem?_eq_some_iff.mp e).1
      have hk3 : l = h.length := by simp at hk2; omega
      subst hk3
      simp at e; subst e
      exact ⟨p, by rw [← r.len]; simp, ro⟩
/-- an object changed -/
theorem Rel.write {G : Wo} {ι : List Addr} {H : Hp} {h : M} (r : Rel G ι H h) {l : Nat} {a : Addr} {o : O} {u : HO} (ea : ι[l]? = some a) (ro : RO G ι (upd H a u) a o) : Rel G ι (upd H a u) (h.set l o) ∧ Keep H (upd H a u) := by
  obtain ⟨u0, e0, nf, mu⟩ := r.tracked ea
  have kp : Keep H (upd H a u) := fun b o' eb f => by
    have : b ≠ a := fun z => by rw [z, e0] at eb; cases eb; exact nf f
    rw [upd_ne this]; exact eb
  refine ⟨⟨by simp [r.len], r.inj, fun k o' e => ?_⟩, kp⟩
  have hk : k < h.length := by have := (List.getElem?_eq_some_iff.mp e).1; simpa using this
  by_cases hkl : k = l
  · subst hkl
    rw [List.getElem?_set_self hk] at e
    cases e
    exact ⟨a, ea, ro⟩
  · rw [List.getElem?_set_ne (Ne.symm hkl)] at e
    obtain ⟨b, eb, q⟩ := r.ok k o' e
    have nb : b ≠ a := fun z => by subst z; exact hkl (r.inj k l _ eb ea)
    exact ⟨b, eb, q.stay (List.prefix_refl _) kp fun u' z => by rw [upd_ne nb]; exact z⟩

/-! ### slots -/
/-- an exception as it lies behind a raise -/
def XF (G : Wo) (ι : List Addr) (H : Hp) (d : Option Addr) (ns : List Str) (xs : List D) : Prop :=
  ns.length = xs.length ∧ ∃ vs, (ns = [] ∨ ∃ dd, d = some dd ∧ H dd = some (.xd (ns.zip vs))) ∧ RVs G ι H xs vs
theorem XF.mono {G : Wo} {ι ι' : List Addr} {H H' : Hp} {d : Option Addr} {ns : List Str} {xs : List D} (h : XF G ι H d ns xs) (p : ι <+: ι') (k : Keep H H') : XF G ι' H' d ns xs := by
  obtain ⟨e, vs, q, r⟩ := h
  refine ⟨e, vs, ?_, RVs.mono p k _ _ r⟩
  rcases q with q | ⟨dd, q1, q2⟩
  · exact .inl q
  · exact .inr ⟨dd, q1, k _ _ q2 trivial⟩
/-- the exception that is handled: its address, its class, its dict; what it is to the machine -/
abbrev Ex := Option ((Addr × Value × Option Addr) × Str × List Str × List D)
structure REn (G : Wo) (ex : Ex) (ι : List Addr) (H : Hp) (env : En) (σ : St) : Prop where
  len : env.length = σ.length
  at_ : ∀ (i : Nat) (d : D), env[i]? = some (.va d) → ∃ v, σ[i]? = some (some v) ∧ RV G ι H d v
  atx : ∀ (i : Nat), env[i]? = some .ex → ∃ a c, ex = some c ∧ c.1.1 = a ∧ σ[i]? = some (some (.ref a))
  exk : ∀ c, ex = some c → ∃ C, c.1.2.1 = .ref C ∧ G.mg c.2.1 = some (.ref C) ∧ XF G ι H c.1.2.2 c.2.2.1 c.2.2.2
theorem REn.mono {G : Wo} {ex : Ex} {ι ι' : List Addr} {H H' : Hp} {env : En} {σ : St} (r : REn G ex ι H env σ) (p : ι <+: ι') (k : Keep H H') : REn G ex ι' H' env σ :=
  ⟨r.len, fun i d e => let ⟨v, e1, q⟩ := r.at_ i d e; ⟨v, e1, RV.mono p k d v q⟩, r.atx, fun c e => let ⟨C, h1, h2, h3⟩ := r.exk c e; ⟨C, h1, h2, h3.mono p k⟩⟩
theorem REn.set {G : Wo} {ex : Ex} {ι : List Addr} {H : Hp} {env : En} {σ : St} (r : REn G ex ι H env σ) (i : Nat) {d : D} {v : V} (q : RV G ι H d v) : REn G ex ι H (env.set i (.va d)) (σ.set i (some v)) := by
  refine ⟨by simp [r.len], fun j d' e => ?_, fun j e => ?_, r.exk⟩
  · have hj : j < env.length := by have := (List.getElem?_eq_some_iff.mp e).1; simpa using this
    by_cases hji : j = i
    · subst hji
      rw [List.getElem?_set_self hj] at e
      cases e
      exact ⟨v, List.getElem?_set_self (by rw [← r.len]; exact hj), q⟩
    · rw [List.getElem?_set_ne (Ne.symm hji)] at e
      obtain ⟨w, e1, q1⟩ := r.at_ j d' e
      exact ⟨w, by rw [List.getElem?_set_ne (Ne.symm hji)]; exact e1, q1⟩
  · have hj : j < env.length := by have := (List.getElem?_eq_some_iff.mp e).1; simpa using this
    by_cases hji : j = i
    · subst hji
      rw [List.getElem?_set_self hj] at e
      cases e
    · rw [List.getElem?_set_ne (Ne.symm hji)] at e
      obtain ⟨a, c, e1, e2, e3⟩ := r.atx j e
      exact ⟨a, c, e1, e2, by rw [List.getElem?_set_ne (Ne.symm hji)]; exact e3⟩
theorem REn.drop1 {G : Wo} {ex : Ex} {ι : List Addr} {H : Hp} {env : En} {σ : St} (r : REn G ex ι H env σ) (i : Nat) (v : Option V) : REn G ex ι H (env.set i .no) (σ.set i v) := by
  refine ⟨by simp [r.len], fun j d' e => ?_, fun j e => ?_, r.exk⟩
  · have hj : j < env.length := by have := (List.getElem?_eq_some_iff.mp e).1; simpa using this
    by_cases hji : j = i
    · subst hji
      rw [List.getElem?_set_self hj] at e
      cases e
    · rw [List.getElem?_set_ne (Ne.symm hji)] at e
      obtain ⟨w, e1, q1⟩ := r.at_ j d' e
      exact ⟨w, by rw [List.getElem?_set_ne (Ne.symm hji)]; exact e1, q1⟩
  · have hj : j < env.length := by have := (List.getElem?_eq_some_iff.mp e).1; simpa using this
    by_cases hji : j = i
    · subst hji
      rw [List.getElem?_set_self hj] at e
      cases e
    · rw [List.getElem?_set_ne (Ne.symm hji)] at e
      obtain ⟨a, c, e1, e2, e3⟩ := r.atx j e
      exact ⟨a, c, e1, e2, by rw [List.getElem?_set_ne (Ne.symm hji)]; exact e3⟩

/-! ### readings -/
abbrev WX' := Value → Option Addr → Hp → Prop
/-- the end that a result leads to: B says how its value lies -/
def Post {α β : Type} (G : Wo) (B : List Addr → Hp → α → β → Prop) (E : WX') (ι : List Addr) (H : Hp) (r : Res α) (Q : β → Hp → Prop) : Prop :=
  match r with
  | .ok d h' => ∀ ι' H' v, ι <+: ι' → Keep H H' → Rel G ι' H' h' → B ι' H' d v → Q v H'
  | .exc x ns xs h' => ∀ ι' H' C d, ι <+: ι' → Keep H H' → Rel G ι' H' h' → G.mg x = some (.ref C) → XF G ι' H' d ns xs → E (.ref C) d H'
  | .stuck => False
theorem Post.mono {α β : Type} {G : Wo} {B : List Addr → Hp → α → β → Prop} {E : WX'} {ι ι1 : List Addr} {H H1 : Hp} {r : Res α} {Q : β → Hp → Prop} (p : ι <+: ι1) (k : Keep H H1) (h : Post G B E ι H r Q) : Post G B E ι1 H1 r Q := by
  cases r with
  | ok d h' => exact fun ι' H' v p' k' => h ι' H' v (p.trans p') (k.trans k')
  | exc x ns xs h' => exact fun ι' H' C d p' k' => h ι' H' C d (p.trans p') (k.trans k')
  | stuck => exact h
abbrev PoV (G : Wo) := Post G (RV G)
abbrev BLs (G : Wo) : List Addr → Hp → List D → List V → Prop := fun ι H ds vs => RVs G ι H ds vs
abbrev BB : List Addr → Hp → Bool → Bool → Prop := fun _ _ b c => c = b

def rdE (G : Wo) (ex : Ex) (W : WX) (m : ME) : TE := fun σ H Q => ∃ ι h env, Rel G ι H h ∧ REn G ex ι H env σ ∧ Post G (fun ι H d v => RV G ι H d v) (fun c d H' => W c d σ H') ι H (m env h) Q
def rdA (G : Wo) (ex : Ex) (W : WX) (m : MA) : TA := fun σ H Q => ∃ ι h env, Rel G ι H h ∧ REn G ex ι H env σ ∧ Post G (fun ι H d v => RVs G ι H d v) (fun c d H' => W c d σ H') ι H (m env h) Q
def rdT (G : Wo) (ex : Ex) (W : WX) (m : MT) : TT := fun σ H Q => ∃ ι h env, Rel G ι H h ∧ REn G ex ι H env σ ∧ Post G BB (fun c d H' => W c d σ H') ι H (m env h) Q
def PostS (G : Wo) (ex : Ex) (W : WX) (ι : List Addr) (H : Hp) (r : SR) (D : Ends) : Prop :=
  match r with
  | .nx env h' => ∀ ι' H' σ', ι <+: ι' → Keep H H' → Rel G ι' H' h' → REn G ex ι' H' env σ' → D.nx σ' H'
  | .bk env h' => ∀ ι' H' σ', ι <+: ι' → Keep H H' → Rel G ι' H' h' → REn G ex ι' H' env σ' → D.bk σ' H'
  | .ct env h' => ∀ ι' H' σ', ι <+: ι' → Keep H H' → Rel G ι' H' h' → REn G ex ι' H' env σ' → D.ct σ' H'
  | .rt d h' => ∀ ι' H' v, ι <+: ι' → Keep H H' → Rel G ι' H' h' → RV G ι' H' d v → D.rt v H'
  | .exc x ns xs env h' => ∀ ι' H' σ' C d, ι <+: ι' → Keep H H' → Rel G ι' H' h' → REn G ex ι' H' env σ' → G.mg x = some (.ref C) → XF G ι' H' d ns xs → W (.ref C) d σ' H'
  | .stuck => False
theorem PostS.mono {G : Wo} {ex : Ex} {W : WX} {ι ι1 : List Addr} {H H1 : Hp} {r : SR} {D : Ends} (p : ι <+: ι1) (k : Keep H H1) (h : PostS G ex W ι H r D) : PostS G ex W ι1 H1 r D := by
  cases r with
  | nx env h' => exact fun ι' H' v p' k' => h ι' H' v (p.trans p') (k.trans k')
  | bk env h' => exact fun ι' H' v p' k' => h ι' H' v (p.trans p') (k.trans k')
  | ct env h' => exact fun ι' H' v p' k' => h ι' H' v (p.trans p') (k.trans k')
  | rt d h' => exact fun ι' H' v p' k' => h ι' H' v (p.trans p') (k.trans k')
  | exc x ns xs env h' => exact fun ι' H' σ' C d p' k' => h ι' H' σ' C d (p.trans p') (k.trans k')
  | stuck => exact h
def rdS (G : Wo) (ex : Ex) (W : WX) (m : MS) : TS := fun D σ H => ∃ ι h env, Rel G ι H h ∧ REn G ex ι H env σ ∧ PostS G ex W ι H (m env h) D

abbrev wo (X : Cx) : Wo := ⟨X.K, X.mg⟩
def FE (X : Cx) (W : WX) (ex : Ex) (e : Expr) (m : ME) : Prop := PE X e (rdE (wo X) ex W m)
def FA (X : Cx) (W : WX) (ex : Ex) (es : List Expr) (m : MA) : Prop := PA X es (rdA (wo X) ex W m)
def FT (X : Cx) (W : WX) (ex : Ex) (e : Expr) (m : MT) : Prop := PT X e (rdT (wo X) ex W m)
def FW (X : Cx) (W : WX) (ex : Ex) (e : Expr) (m : MT) : Prop := PW X e (rdT (wo X) ex W m)
def FS (X : Cx) (W : WX) (ex : Ex) (st : Stmt) (m : MS) : Prop := PS X st (rdS (wo X) ex W m)
def FSs (X : Cx) (W : WX) (ex : Ex) (st : List Stmt) (m : MS) : Prop := PSs X st (rdS (wo X) ex W m)

theorem PE.imp {X : Cx} {e : Expr} {t t' : TE} (p : PE X e t) (h : ∀ σ H Q, t' σ H Q → t σ H Q) : PE X e t' := ⟨fun pins s σ H Q I q => p.run pins s σ H Q I (h σ H Q q)⟩
theorem PA.imp {X : Cx} {e : List Expr} {t t' : TA} (p : PA X e t) (h : ∀ σ H Q, t' σ H Q → t σ H Q) : PA X e t' := ⟨fun po pins s σ H Q I q => p.run po pins s σ H Q I (h σ H Q q)⟩
theorem PT.imp {X : Cx} {e : Expr} {t t' : TT} (p : PT X e t) (h : ∀ σ H Q, t' σ H Q → t σ H Q) : PT X e t' := ⟨fun pins s σ H Q I q => p.run pins s σ H Q I (h σ H Q q)⟩
theorem PW.imp {X : Cx} {e : Expr} {t t' : TT} (p : PW X e t) (h : ∀ σ H Q, t' σ H Q → t σ H Q) : PW X e t' := ⟨fun wh pins s σ H Q I q => p.run wh pins s σ H Q I (h σ H Q q)⟩
theorem PS.imp {X : Cx} {e : Stmt} {t t' : TS} (p : PS X e t) (h : ∀ D σ H, t' D σ H → t D σ H) : PS X e t' := ⟨fun pins s σ H D I q => p.run pins s σ H D I (h D σ H q)⟩
theorem PSs.imp {X : Cx} {e : List Stmt} {t t' : TS} (p : PSs X e t) (h : ∀ D σ H, t' D σ H → t D σ H) : PSs X e t' := ⟨fun pins s σ H D I q => p.run pins s σ H D I (h D σ H q)⟩

/-- a part is run, then the rest: the end of a bind -/
theorem post_bind {α β α' β' : Type} {G : Wo} {B : List Addr → Hp → α → β → Prop} {B' : List Addr → Hp → α' → β' → Prop} {E : WX'} {ι : List Addr} {H : Hp} {r : Res α} {k : α → M → Res α'} {Q' : β' → Hp → Prop} {Q : β → Hp → Prop}
    (h : Post G B' E ι H (r.bind k) Q') (hk : ∀ d h1 ι1 H1 v, r = .ok d h1 → ι <+: ι1 → Keep H H1 → Rel G ι1 H1 h1 → B ι1 H1 d v → Post G B' E ι1 H1 (k d h1) Q' → Q v H1) : Post G B E ι H r Q := by
  cases r with
  | ok d h1 => exact fun ι1 H1 v p kk rel b => hk d h1 ι1 H1 v rfl p kk rel b (Post.mono p kk h)
  | exc x ns xs h1 => exact h
  | stuck => exact h
end LF
set_option Elab.async false
set_option linter.all false
set_option maxRecDepth 100000
set_option maxHeartbeats 4000000
/-! LF1: expressions. -/
namespace LF
open PySem PySem.Spec L2
open PyProof.Rows hiding St
section
variable {X : Cx} {W : WX} {ex : Ex} {e a b : Expr} {ma mb mc : ME} {pos : Pos}

/-! ### names, constants -/
def mVar (i : Nat) : ME := fun env h => match env[i]? with | some (.va d) => .ok d h | _ => .stuck
theorem fe_var {i : Nat} {x : Str} (hN : X.N[i]? = some x) (hv : Vis X.env.scope x) (hd : (x == ("__debug__" : Str)) = false) (hcd : (x == ("__classdict__" : Str)) = false) : FE X W ex (.Name x pos) (mVar i) := by
  refine PE.imp (pe_var hN hv hd hcd) fun σ H Q q => ?_
  obtain ⟨ι, h, env, rel, re, po⟩ := q
  unfold mVar at po
  split at po
  · rename_i d ed
    obtain ⟨v, e1, q⟩ := re.at_ i d ed
    exact ⟨v, e1, po ι H v (List.prefix_refl _) (Keep.refl _) rel q⟩
  · exact po.elim
theorem fv (i : Nat) {x : Str} (hN : X.N[i]? = some x := by rfl) (hv : Vis X.env.scope x := by first | exact Or.inl rfl | exact Or.inr (Or.inl rfl) | exact Or.inr (Or.inr rfl)) (hd : (x == ("__debug__" : Str)) = false := by decide)
    (hcd : (x == ("__classdict__" : Str)) = false := by decide) : FE X W ex (.Name x pos) (mVar i) := fe_var hN hv hd hcd
def mC (d : D) : ME := fun _ h => .ok d h
theorem fe_c {v : V} {d : D} (p : PE X e (tC v)) (r : ∀ ι H, RV (wo X) ι H d v) : FE X W ex e (mC d) := by
  refine PE.imp p fun σ H Q q => ?_
  obtain ⟨ι, h, env, rel, re, po⟩ := q
  exact po ι H v (List.prefix_refl _) (Keep.refl _) rel (r ι H)
theorem fe_int {i j} : FE X W ex (.Constant (.int i) j pos) (mC (.int i)) := fe_c pe_int fun _ _ => by simp [RV]
theorem fe_bl {i j} : FE X W ex (.Constant (.bool i) j pos) (mC (.bl i)) := fe_c pe_bl fun _ _ => by simp [RV]
theorem fe_str {i j} : FE X W ex (.Constant (.str i) j pos) (mC (.str i)) := fe_c pe_str fun _ _ => by simp [RV]
theorem fe_non {j} : FE X W ex (.Constant .none j pos) (mC .non) := fe_c pe_non fun _ _ => by simp [RV]
/-- a module's name: an int, a class -/
theorem fe_gint {x : Str} {i : Int} {t : Tok} (hm : X.mg x = some (.int i t)) (hg : Gl X x := by rfl) (hd : (x == ("__debug__" : Str)) = false := by decide) : FE X W ex (.Name x pos) (mC (.int i)) :=
  fe_c (pe_glob hg hm (v := .int i) ⟨t, rfl⟩ hd) fun _ _ => by simp [RV]
theorem fe_gstr {x z : Str} {t : Tok} (hm : X.mg x = some (.str z t)) (hg : Gl X x := by rfl) (hd : (x == ("__debug__" : Str)) = false := by decide) : FE X W ex (.Name x pos) (mC (.str z)) :=
  fe_c (pe_glob hg hm (v := .str z) ⟨t, rfl⟩ hd) fun _ _ => by simp [RV]
theorem fe_cls {x : Str} {C : Addr} (hm : X.mg x = some (.ref C)) (hg : Gl X x := by rfl) (hd : (x == ("__debug__" : Str)) = false := by decide) : FE X W ex (.Name x pos) (mC (.cls x)) :=
  fe_c (pe_glob hg hm (v := .ref C) rfl hd) fun _ _ => by simp only [RV]; exact ⟨C, rfl, hm⟩
theorem fe_ty {x : Str} {n : String} (hm : X.mg x = none) (hv : bootBuiltins x = some (.type n)) (hg : Gl X x := by rfl) (hn : x ≠ "__name__" := by decide) (hd : (x == ("__debug__" : Str)) = false := by decide) : FE X W ex (.Name x pos) (mC (.ty n)) :=
  fe_c (pe_bltn (v := .ty n) hg hm hv rfl hn hd) fun _ _ => by simp [RV]
/-- a value of the module's that stands in the written part -/
theorem fe_gref {x : Str} {p : Addr} {d : D} (hm : X.mg x = some (.ref p)) (r : ∀ ι H, RV (wo X) ι H d (.ref p)) (hg : Gl X x := by rfl) (hd : (x == ("__debug__" : Str)) = false := by decide) : FE X W ex (.Name x pos) (mC d) :=
  fe_c (pe_glob hg hm (v := .ref p) rfl hd) r

/-! ### two parts, one -/
def m2 (f : D → D → M → Res D) (ma mb : ME) : ME := fun env h => (ma env h).bind fun x h1 => (mb env h1).bind fun y h2 => f x y h2
def m1 (f : D → M → Res D) (ma : ME) : ME := fun env h => (ma env h).bind fun x h1 => f x h1
/-- what an operator asks is met by f -/
def Ab2 (G : Wo) (r : R2) (f : D → D → M → Res D) : Prop := ∀ (E : WX') ι H h x y v u (Q : VK), Rel G ι H h → RV G ι H x v → RV G ι H y u → Post G (fun ι H d v => RV G ι H d v) E ι H (f x y h) Q → r v u H Q
def Ab1 (G : Wo) (r : V → Hp → VK → Prop) (f : D → M → Res D) : Prop := ∀ (E : WX') ι H h x v (Q : VK), Rel G ι H h → RV G ι H x v → Post G (fun ι H d v => RV G ι H d v) E ι H (f x h) Q → r v H Q
def AbL (G : Wo) (r : List V → Hp → VK → Prop) (f : List D → M → Res D) : Prop := ∀ (E : WX') ι H h x v (Q : VK), Rel G ι H h → RVs G ι H x v → Post G (fun ι H d v => RV G ι H d v) E ι H (f x h) Q → r v H Q
theorem rd_op {r : R2} {f : D → D → M → Res D} {G : Wo} (hf : Ab2 G r f) {σ : St} {H : Hp} {Q : VK} (q : rdE G ex W (m2 f ma mb) σ H Q) : tOp r (rdE G ex W ma) (rdE G ex W mb) σ H Q := by
  obtain ⟨ι, h, env, rel, re, po⟩ := q
  refine ⟨ι, h, env, rel, re, post_bind po fun x h1 ι1 H1 v _ p1 k1 rel1 rv1 po1 => ?_⟩
  refine ⟨ι1, h1, env, rel1, re.mono p1 k1, post_bind po1 fun y h2 ι2 H2 u _ p2 k2 rel2 rv2 po2 => ?_⟩
  exact hf _ ι2 H2 h2 x y v u Q rel2 (RV.mono p2 k2 _ _ rv1) rv2 po2
theorem fe_op {op : Operator} {r : R2} {f : D → D → M → Res D} (ho : OpR X (binaryOp op) r) (hf : Ab2 (wo X) r f) (ha : FE X W ex a ma) (hb : FE X W ex b mb) : FE X W ex (.BinOp a op b pos) (m2 f ma mb) :=
  PE.imp (pe_op ho ha hb) fun _ _ _ q => rd_op hf q
/-- a comparison, by what it asks -/
def FC (X : Cx) (W : WX) (ex : Ex) (op : CmpOp) (a b : Expr) (m : ME) : Prop := PC X op a b (rdE (wo X) ex W m)
theorem PC.imp {op : CmpOp} {t t' : TE} (p : PC X op a b t) (h : ∀ σ H Q, t' σ H Q → t σ H Q) : PC X op a b t' := ⟨fun pins s σ H Q I q => p.run pins s σ H Q I (h σ H Q q)⟩
theorem PC.or {op : CmpOp} {t t' : TE} (p : PC X op a b t) (p' : PC X op a b t') : PC X op a b (fun σ H Q => t σ H Q ∨ t' σ H Q) := ⟨fun pins s σ H Q I h => by
  rcases h with h | h
  · exact p.run pins s σ H Q I h
  · exact p'.run pins s σ H Q I h⟩
theorem pc_of {op : CmpOp} {r : R2} {ta tb : TE} (ho : OpR X (compareOp op) r) (ha : PE X a ta) (hb : PE X b tb) : PC X op a b (tOp r ta tb) :=
  ⟨fun pins s σ H Q I h => bin ha hb I h fun v u s2 x y H2 I2 rx ry q => ho pins s2 σ H2 x y v u Q I2 rx ry q⟩
theorem fc_op {op : CmpOp} {r : R2} {f : D → D → M → Res D} (ho : OpR X (compareOp op) r) (hf : Ab2 (wo X) r f) (ha : FE X W ex a ma) (hb : FE X W ex b mb) : FC X W ex op a b (m2 f ma mb) :=
  PC.imp (pc_of ho ha hb) fun _ _ _ q => rd_op hf q
theorem fe_c1 {op : CmpOp} {m : ME} (h : FC X W ex op a b m) (hm : behindInMarks op b = false := by first | exact nobehind _ (by decide) (by decide) | rfl) : FE X W ex (.Compare a [op] [b] pos) m := pe_cmp h hm
/-- what an operator asks at two values is met by f -/
def At2 (G : Wo) (r : R2) (f : D → D → M → Res D) (x y : D) (h : M) : Prop := ∀ (E : WX') ι H v u (Q : VK), Rel G ι H h → RV G ι H x v → RV G ι H y u → Post G (fun ι H d v => RV G ι H d v) E ι H (f x y h) Q → r v u H Q
/-- two ways, told apart by the values -/
theorem rd_op_or {r r' : R2} {f : D → D → M → Res D} {G : Wo} (hf : ∀ x y h, At2 G r f x y h ∨ At2 G r' f x y h) {σ : St} {H : Hp} {Q : VK} (q : rdE G ex W (m2 f ma mb) σ H Q) :
    tOp r (rdE G ex W ma) (rdE G ex W mb) σ H Q ∨ tOp r' (rdE G ex W ma) (rdE G ex W mb) σ H Q := by
  obtain ⟨ι, h, env, rel, re, po⟩ := q
  unfold m2 at po
  cases ea : ma env h with
  | stuck => rw [ea] at po; exact po.elim
  | exc x ns vs h1 =>
    rw [ea] at po
    exact .inl ⟨ι, h, env, rel, re, by rw [ea]; exact po⟩
  | ok x h1 =>
    rw [ea] at po
    simp only [bind_ok] at po
    cases eb : mb env h1 with
    | stuck => rw [eb] at po; exact po.elim
    | exc x' ns vs h2 =>
      rw [eb] at po
      refine .inl ⟨ι, h, env, rel, re, ?_⟩
      rw [ea]
      intro ι1 H1 v p1 k1 rel1 rv1
      refine ⟨ι1, h1, env, rel1, re.mono p1 k1, ?_⟩
      rw [eb]
      exact Post.mono p1 k1 po
    | ok y h2 =>
      rw [eb] at po
      simp only [bind_ok] at po
      have run : ∀ (R : R2), At2 G R f x y h2 → tOp R (rdE G ex W ma) (rdE G ex W mb) σ H Q := fun R hR => by
        refine ⟨ι, h, env, rel, re, ?_⟩
        rw [ea]
        intro ι1 H1 v p1 k1 rel1 rv1
        refine ⟨ι1, h1, env, rel1, re.mono p1 k1, ?_⟩
        rw [eb]
        intro ι2 H2 u p2 k2 rel2 rv2
        exact hR _ ι2 H2 v u Q rel2 (RV.mono p2 k2 _ _ rv1) rv2 (Post.mono (p1.trans p2) (k1.trans k2) po)
      rcases hf x y h2 with z | z
      · exact .inl (run _ z)
      · exact .inr (run _ z)
theorem rd_un {r : V → Hp → VK → Prop} {f : D → M → Res D} {G : Wo} (hf : Ab1 G r f) {σ : St} {H : Hp} {Q : VK} (q : rdE G ex W (m1 f ma) σ H Q) : tUn r (rdE G ex W ma) σ H Q := by
  obtain ⟨ι, h, env, rel, re, po⟩ := q
  refine ⟨ι, h, env, rel, re, post_bind po fun x h1 ι1 H1 v _ p1 k1 rel1 rv1 po1 => ?_⟩
  exact hf _ ι1 H1 h1 x v Q rel1 rv1 po1
theorem fe_un {op : UnaryOp} {r : V → Hp → VK → Prop} {f : D → M → Res D} (ho : UnR X (unaryOp op) r) (hf : Ab1 (wo X) r f) (ha : FE X W ex a ma) : FE X W ex (.UnaryOp op a pos) (m1 f ma) :=
  PE.imp (pe_un ho ha) fun _ _ _ q => rd_un hf q

/-! ### ends of an operator -/
theorem po_ok {α β : Type} {G : Wo} {B : List Addr → Hp → α → β → Prop} {E : WX'} {ι : List Addr} {H : Hp} {h : M} {d : α} {v : β} {Q : β → Hp → Prop} (rel : Rel G ι H h) (b : B ι H d v) (po : Post G B E ι H (.ok d h) Q) : Q v H :=
  po ι H v (List.prefix_refl _) (Keep.refl _) rel b
/-- a new list -/
theorem po_lst {G : Wo} {E : WX'} {ι : List Addr} {H : Hp} {h : M} {xs : List D} {vs : List V} {Q : VK} (rel : Rel G ι H h) (b : RVs G ι H xs vs) (po : Post G (fun ι H d v => RV G ι H d v) E ι H (.ok (.loc h.length) (h ++ [.lst xs])) Q)
    (p : Addr) (hp : H p = none) : Q (.ref p) (upd H p (.lst vs)) := by
  have pre : ι <+: ι ++ [p] := List.prefix_append ..
  have k : Keep H (upd H p (.lst vs)) := Keep.of_same (same_upd hp)
  refine po (ι ++ [p]) _ (.ref p) pre k (rel.push hp ⟨vs, upd_same, RVs.mono pre k _ _ b⟩) ?_
  simp only [RV]
  exact ⟨p, rfl, by rw [← rel.len]; simp⟩
/-- a new tuple -/
theorem po_tup {G : Wo} {E : WX'} {ι : List Addr} {H : Hp} {h : M} {xs : List D} {vs : List V} {Q : VK} (rel : Rel G ι H h) (b : RVs G ι H xs vs) (po : Post G (fun ι H d v => RV G ι H d v) E ι H (.ok (.tup xs) h) Q)
    (p : Addr) (hp : H p = none) : Q (.ref p) (upd H p (.tup vs)) := by
  have k : Keep H (upd H p (.tup vs)) := Keep.of_same (same_upd hp)
  refine po ι _ (.ref p) (List.prefix_refl _) k (rel.same (same_upd hp)) ?_
  simp only [RV]
  exact ⟨p, vs, rfl, upd_same, RVs.mono (List.prefix_refl _) k _ _ b⟩
/-- what stands at a place -/
theorem at_lst {G : Wo} {ι : List Addr} {H : Hp} {h : M} {l : Nat} {v : V} {xs : List D} (rel : Rel G ι H h) (rv : RV G ι H (.loc l) v) (e : h[l]? = some (.lst xs)) : ∃ a vs, v = .ref a ∧ ι[l]? = some a ∧ H a = some (.lst vs) ∧ RVs G ι H xs vs := by
  simp only [RV] at rv
  obtain ⟨a, rfl, ea⟩ := rv
  obtain ⟨vs, e1, r⟩ := rel.at e ea
  exact ⟨a, vs, rfl, ea, e1, r⟩
theorem at_dK {G : Wo} {ι : List Addr} {H : Hp} {h : M} {l : Nat} {v : V} {xs : List (Key × D)} (rel : Rel G ι H h) (rv : RV G ι H (.loc l) v) (e : h[l]? = some (.dK xs)) : ∃ a vs, v = .ref a ∧ ι[l]? = some a ∧ H a = some (.dK vs) ∧ RKs G ι H xs vs := by
  simp only [RV] at rv
  obtain ⟨a, rfl, ea⟩ := rv
  obtain ⟨vs, e1, r⟩ := rel.at e ea
  exact ⟨a, vs, rfl, ea, e1, r⟩
theorem at_dT {G : Wo} {ι : List Addr} {H : Hp} {h : M} {l : Nat} {v : V} {xs : List (List Key × D)} (rel : Rel G ι H h) (rv : RV G ι H (.loc l) v) (e : h[l]? = some (.dT xs)) : ∃ a vs, v = .ref a ∧ ι[l]? = some a ∧ H a = some (.dT vs) ∧ RKs G ι H xs vs := by
  simp only [RV] at rv
  obtain ⟨a, rfl, ea⟩ := rv
  obtain ⟨vs, e1, r⟩ := rel.at e ea
  exact ⟨a, vs, rfl, ea, e1, r⟩
theorem at_ins {G : Wo} {ι : List Addr} {H : Hp} {h : M} {l : Nat} {v : V} {x : Str} {fs : List (Str × D)} (rel : Rel G ι H h) (rv : RV G ι H (.loc l) v) (e : h[l]? = some (.ins x fs)) :
    ∃ a C dx vs, v = .ref a ∧ ι[l]? = some a ∧ G.mg x = some (.ref C) ∧ H a = some (.ins C dx vs) ∧ RKs G ι H fs vs := by
  simp only [RV] at rv
  obtain ⟨a, rfl, ea⟩ := rv
  obtain ⟨C, dx, vs, g, e1, r⟩ := rel.at e ea
  exact ⟨a, C, dx, vs, rfl, ea, g, e1, r⟩
/-- the items of a list: one of the machine's, a constant one -/
def lstOf (h : M) : D → Option (List D)
  | .loc l => match h[l]? with | some (.lst xs) => some xs | _ => none
  | .cl xs => some xs
  | _ => none
theorem lstOf_sq {G : Wo} {ι : List Addr} {H : Hp} {h : M} {d : D} {v : V} {xs : List D} (rel : Rel G ι H h) (rv : RV G ι H d v) (e : lstOf h d = some xs) : ∃ a vs, v = .ref a ∧ SqL G.K H a vs ∧ RVs G ι H xs vs := by
  cases d with
  | loc l =>
    simp only [lstOf] at e
    split at e
    · rename_i ys e1
      cases e
      obtain ⟨a, vs, rfl, _, e2, r⟩ := at_lst rel rv e1
      exact ⟨a, vs, rfl, SqL.of e2, r⟩
    · cases e
  | cl ys =>
    simp only [lstOf] at e
    cases e
    simp only [RV] at rv
    obtain ⟨a, vs, rfl, q, r⟩ := rv
    exact ⟨a, vs, rfl, q.sq, r⟩
  | _ => simp [lstOf] at e
@[simp] theorem lstOf_cl {h : M} {xs : List D} : lstOf h (.cl xs) = some xs := (rfl)
theorem lstOf_loc {h : M} {l : Nat} {xs : List D} (e : h[l]? = some (.lst xs)) : lstOf h (.loc l) = some xs := by simp only [lstOf, e]

/-- the items of a tuple: one of the run's, a constant one -/
def tupOf : D → Option (List D)
  | .tup xs => some xs
  | .ct xs => some xs
  | _ => none
theorem tupOf_sq {G : Wo} {ι : List Addr} {H : Hp} {d : D} {v : V} {xs : List D} (rv : RV G ι H d v) (e : tupOf d = some xs) : ∃ a vs, v = .ref a ∧ SqT G.K H a vs ∧ RVs G ι H xs vs := by
  cases d with
  | tup ys =>
    simp only [tupOf] at e
    cases e
    simp only [RV] at rv
    obtain ⟨a, vs, rfl, q, r⟩ := rv
    exact ⟨a, vs, rfl, SqT.of q, r⟩
  | ct ys =>
    simp only [tupOf] at e
    cases e
    simp only [RV] at rv
    obtain ⟨a, vs, rfl, q, r⟩ := rv
    exact ⟨a, vs, rfl, .inr q, r⟩
  | _ => simp [tupOf] at e
@[simp] theorem tupOf_tup {xs : List D} : tupOf (.tup xs) = some xs := (rfl)
@[simp] theorem tupOf_ct {xs : List D} : tupOf (.ct xs) = some xs := (rfl)

/-! ### arithmetic -/
def fAdd : D → D → M → Res D
  | .int i, .int j, h => .ok (.int (i + j)) h
  | .str i, .str j, h => if i.length + j.length ≤ sizeLine then .ok (.str (i ++ j)) h else .stuck
  | .loc a, .loc b, h => match h[a]?, h[b]? with
    | some (.lst xs), some (.lst ys) => if xs.length + ys.length ≤ sizeLine then .ok (.loc h.length) (h ++ [.lst (xs ++ ys)]) else .stuck
    | _, _ => .stuck
  | .tup xs, .tup ys, h => if xs.length + ys.length ≤ sizeLine ∧ xs ≠ [] then .ok (.tup (xs ++ ys)) h else .stuck
  | .int i, .bl k, h => .ok (.int (i + b2i k)) h
  | _, _, _ => .stuck

theorem fe_add (ha : FE X W ex a ma) (hb : FE X W ex b mb) : FE X W ex (.BinOp a .Add b pos) (m2 fAdd ma mb) := by
  refine fe_op (op_add.or (op_add_str.or (op_cat.or (op_catT.or op_add_ib)))) (fun E ι H h x y v u Q rel rx ry po => ?_) ha hb
  cases x <;> cases y <;> (try exact po.elim)
  case int.int i j =>
    simp only [RV] at rx ry
    subst rx; subst ry
    exact .inl ⟨i, j, rfl, rfl, po_ok rel (by simp [RV]) po⟩
  case int.bl i k =>
    simp only [RV] at rx ry
    subst rx; subst ry
    exact .inr (.inr (.inr (.inr ⟨i, k, rfl, rfl, po_ok rel (by simp [RV]) po⟩)))
  case str.str i j =>
    simp only [RV] at rx ry
    subst rx; subst ry
    simp only [fAdd] at po
    split at po
    · rename_i hz
      exact .inr (.inl ⟨i, j, rfl, rfl, hz, po_ok rel (by simp [RV]) po⟩)
    · exact po.elim
  case tup.tup xs ys =>
    simp only [fAdd] at po
    split at po
    · rename_i hz
      simp only [RV] at rx ry
      obtain ⟨a, vs, rfl, s1, r1⟩ := rx
      obtain ⟨b, ws, rfl, s2, r2⟩ := ry
      have l1 := RVs.length r1
      have l2 := RVs.length r2
      refine .inr (.inr (.inr (.inl ⟨a, b, vs, ws, rfl, rfl, SqT.of s1, SqT.of s2, fun z => hz.2 (by subst z; simpa using l1), by omega, fun z => ?_, fun z p hp => po_tup rel (r1.append r2) po p hp⟩)))
      subst z
      have : ys = [] := by simpa using l2
      subst this
      rw [List.append_nil] at po
      exact po_ok rel (by simp only [RV]; exact ⟨a, vs, rfl, s1, r1⟩) po
    · exact po.elim
  case loc.loc l k =>
    simp only [fAdd] at po
    split at po
    · rename_i xs ys e1 e2
      split at po
      · rename_i hz
        obtain ⟨a, vs, rfl, _, q1, r1⟩ := at_lst rel rx e1
        obtain ⟨b, ws, rfl, _, q2, r2⟩ := at_lst rel ry e2
        have l1 := RVs.length r1
        have l2 := RVs.length r2
        exact .inr (.inr (.inl ⟨a, b, vs, ws, rfl, rfl, q1, q2, by omega, fun p hp => po_lst rel (r1.append r2) po p hp⟩))
      · exact po.elim
    · exact po.elim
/-- two ints to a value -/
def fI (C : Int → Int → Prop) [∀ i j, Decidable (C i j)] (g : Int → Int → D) : D → D → M → Res D
  | .int i, .int j, h => if C i j then .ok (g i j) h else .stuck
  | _, _, _ => .stuck
theorem ab_I {G : Wo} {C : Int → Int → Prop} [∀ i j, Decidable (C i j)] {g : Int → Int → V} {g' : Int → Int → D} (hg : ∀ i j ι H, RV G ι H (g' i j) (g i j)) : Ab2 G (rI C g) (fI C g') := by
  intro E ι H h x y v u Q rel rx ry po
  cases x <;> cases y <;> (try exact po.elim)
  simp only [fI] at po
  split at po
  · rename_i i j hc
    simp only [RV] at rx ry
    subst rx; subst ry
    exact ⟨i, j, rfl, rfl, hc, po_ok rel (hg i j _ _) po⟩
  · exact po.elim
theorem ab_I0 {G : Wo} {g : Int → Int → V} {g' : Int → Int → D} (hg : ∀ i j ι H, RV G ι H (g' i j) (g i j)) : Ab2 G (rI0 g) (fI (fun _ _ => True) g') := by
  intro E ι H h x y v u Q rel rx ry po
  cases x <;> cases y <;> (try exact po.elim)
  simp only [fI, if_true] at po
  simp only [RV] at rx ry
  subst rx; subst ry
  exact ⟨_, _, rfl, rfl, po_ok rel (hg _ _ _ _) po⟩
def fSub := fI (fun _ _ => True) fun i j => .int (i - j)
theorem fe_sub (ha : FE X W ex a ma) (hb : FE X W ex b mb) : FE X W ex (.BinOp a .Sub b pos) (m2 fSub ma mb) := fe_op op_sub (ab_I0 fun _ _ _ _ => by simp [RV]) ha hb
instance (i j : Int) : Decidable (CMulW i j) := by unfold CMulW; infer_instance
instance (i j : Int) : Decidable (CDivW i j) := by unfold CDivW; infer_instance
instance (i j : Int) : Decidable (CPow i j) := by unfold CPow; infer_instance
def fMul : D → D → M → Res D
  | .int i, .int j, h => if CMulW i j then .ok (.int (i * j)) h else .stuck
  | .loc l, .int k, h => match h[l]? with
    | some (.lst xs) => if -(2 ^ 63) ≤ k ∧ k < 2 ^ 63 ∧ xs.length * k.toNat ≤ sizeLine then .ok (.loc h.length) (h ++ [.lst (List.replicate k.toNat xs).flatten]) else .stuck
    | _ => .stuck
  | _, _, _ => .stuck
theorem RVs.rep {G : Wo} {ι : List Addr} {H : Hp} {xs : List D} {vs : List V} (r : RVs G ι H xs vs) : ∀ n : Nat, RVs G ι H (List.replicate n xs).flatten (List.replicate n vs).flatten
  | 0 => by simp [RVs]
  | n + 1 => by
    simp only [List.replicate_succ, List.flatten_cons]
    exact r.append (RVs.rep r n)
theorem fe_mul (ha : FE X W ex a ma) (hb : FE X W ex b mb) : FE X W ex (.BinOp a .Mult b pos) (m2 fMul ma mb) := by
  refine fe_op (op_mulW.or op_rep) (fun E ι H h x y v u Q rel rx ry po => ?_) ha hb
  cases x <;> cases y <;> (try exact po.elim)
  case int.int i j =>
    simp only [fMul] at po
    split at po
    · rename_i hc
      simp only [RV] at rx ry
      subst rx; subst ry
      exact .inl ⟨i, j, rfl, rfl, hc, po_ok rel (by simp [RV]) po⟩
    · exact po.elim
  case loc.int l k =>
    simp only [fMul] at po
    split at po
    · rename_i xs e1
      split at po
      · rename_i hz
        obtain ⟨a, vs, rfl, _, q1, r1⟩ := at_lst rel rx e1
        have l1 := RVs.length r1
        simp only [RV] at ry
        subst ry
        exact .inr ⟨a, k, vs, rfl, rfl, q1, hz.1, hz.2.1, by rw [← l1]; exact hz.2.2, fun p hp => po_lst rel (r1.rep _) po p hp⟩
      · exact po.elim
    · exact po.elim
def fDiv := fI CDivW fun i j => .int (i / j)
theorem fe_div (ha : FE X W ex a ma) (hb : FE X W ex b mb) : FE X W ex (.BinOp a .FloorDiv b pos) (m2 fDiv ma mb) := fe_op op_fdivW (ab_I fun _ _ _ _ => by simp [RV]) ha hb
def fMod := fI (fun _ j => 0 < j) fun i j => .int (i % j)
theorem fe_mod (ha : FE X W ex a ma) (hb : FE X W ex b mb) : FE X W ex (.BinOp a .Mod b pos) (m2 fMod ma mb) := fe_op op_mod (ab_I fun _ _ _ _ => by simp [RV]) ha hb
def fPow := fI CPow fun i j => .int (i ^ j.toNat)
theorem fe_pow (ha : FE X W ex a ma) (hb : FE X W ex b mb) : FE X W ex (.BinOp a .Pow b pos) (m2 fPow ma mb) := fe_op op_pow (ab_I fun _ _ _ _ => by simp [RV]) ha hb
def fShr := fI (fun _ j => 0 ≤ j) fun i j => .int (i / 2 ^ j.toNat)
theorem fe_shr (ha : FE X W ex a ma) (hb : FE X W ex b mb) : FE X W ex (.BinOp a .RShift b pos) (m2 fShr ma mb) := fe_op op_shr (ab_I fun _ _ _ _ => by simp [RV]) ha hb
def fShl := fI CPow fun i j => .int (i * 2 ^ j.toNat)
theorem fe_shl (ha : FE X W ex a ma) (hb : FE X W ex b mb) : FE X W ex (.BinOp a .LShift b pos) (m2 fShl ma mb) := fe_op op_shl (ab_I fun _ _ _ _ => by simp [RV]) ha hb
def fAnd := fI (fun _ _ => True) fun i j => .int (Builtin.bitAnd i j)
theorem fe_band (ha : FE X W ex a ma) (hb : FE X W ex b mb) : FE X W ex (.BinOp a .BitAnd b pos) (m2 fAnd ma mb) := fe_op op_and (ab_I0 fun _ _ _ _ => by simp [RV]) ha hb
def fNeg : D → M → Res D
  | .int i, h => .ok (.int (-i)) h
  | _, _ => .stuck
theorem fe_neg (ha : FE X W ex a ma) : FE X W ex (.UnaryOp .USub a pos) (m1 fNeg ma) := by
  refine fe_un un_neg (fun E ι H h x v Q rel rx po => ?_) ha
  cases x <;> (try exact po.elim)
  simp only [RV] at rx
  subst rx
  exact ⟨_, rfl, po_ok rel (by simp [RV]) po⟩
/-! ### order of ints -/
def fLt := fI (fun _ _ => True) fun i j => .bl (decide (i < j))
def fLe := fI (fun _ _ => True) fun i j => .bl (decide (i ≤ j))
def fGt := fI (fun _ _ => True) fun i j => .bl (decide (j < i))
def fGe := fI (fun _ _ => True) fun i j => .bl (decide (j ≤ i))
theorem fc_lt (ha : FE X W ex a ma) (hb : FE X W ex b mb) : FC X W ex .Lt a b (m2 fLt ma mb) := fc_op op_lt (ab_I0 fun _ _ _ _ => by simp [RV]) ha hb
theorem fc_le (ha : FE X W ex a ma) (hb : FE X W ex b mb) : FC X W ex .LtE a b (m2 fLe ma mb) := fc_op op_le (ab_I0 fun _ _ _ _ => by simp [RV]) ha hb
theorem fc_gt (ha : FE X W ex a ma) (hb : FE X W ex b mb) : FC X W ex .Gt a b (m2 fGt ma mb) := fc_op op_gt (ab_I0 fun _ _ _ _ => by simp [RV]) ha hb
theorem fc_ge (ha : FE X W ex a ma) (hb : FE X W ex b mb) : FC X W ex .GtE a b (m2 fGe ma mb) := fc_op op_ge (ab_I0 fun _ _ _ _ => by simp [RV]) ha hb
end
end LF
set_option Elab.async false
set_option linter.all false
set_option maxRecDepth 100000
set_option maxHeartbeats 4000000
/-! LF2: equality, tests, displays, calls of built-ins, subscripts, slices. -/
namespace LF
open PySem PySem.Spec L2
open PyProof.Rows hiding St
section
variable {X : Cx} {W : WX} {ex : Ex} {e a b : Expr} {ma mb mc : ME} {pos : Pos}

/-! ### equality -/
/-- the plain data that a value stands for -/
def toPy (h : M) : Nat → D → Option PyData
  | _, .non => some .none
  | _, .bl b => some (.bool b)
  | _, .int i => some (.int i)
  | _, .str x => some (.str x)
  | n + 1, .tup xs => (xs.mapM (toPy h n)).map .tuple
  | n + 1, .ct xs => (xs.mapM (toPy h n)).map .tuple
  | n + 1, .cl xs => (xs.mapM (toPy h n)).map .list
  | n + 1, .loc l => match h[l]? with
    | some (.lst xs) => (xs.mapM (toPy h n)).map .list
    | _ => none
  | _, _ => none
theorem toPy_ok {G : Wo} {ι : List Addr} {H : Hp} {h : M} (rel : Rel G ι H h) : ∀ (n : Nat) (d : D) (v : V) (p : PyData), RV G ι H d v → toPy h n d = some p → Dp G.K H v p := by
  intro n
  induction n with
  | zero =>
    intro d v p r e
    cases d <;> simp only [toPy, reduceCtorEq] at e <;> (cases e; simp only [RV] at r; subst r)
    · exact .non
    · exact .bl _
    · exact .int _
    · exact .str _
  | succ n ih =>
    have all : ∀ (xs : List D) (vs : List V) (ps : List PyData), RVs G ι H xs vs → xs.mapM (toPy h n) = some ps → DpAll G.K H vs ps := by
      intro xs
      induction xs with
      | nil =>
        intro vs ps r e
        simp only [RVs] at r; subst r
        simp at e; subst e
        exact .nil
      | cons x xs ihx =>
        intro vs ps r e
        simp only [RVs] at r
        obtain ⟨v, q, rfl, r1, r2⟩ := r
        simp only [List.mapM_cons, bind, Option.bind_eq_some_iff, pure, Option.some.injEq] at e
        obtain ⟨p, e1, ps', e2, rfl⟩ := e
        exact .cons (ih x v p r1 e1) (ihx _ _ r2 e2)
    intro d v p r e
    cases d with
    | non => simp only [toPy] at e; cases e; simp only [RV] at r; subst r; exact .non
    | bl _ => simp only [toPy] at e; cases e; simp only [RV] at r; subst r; exact .bl _
    | int _ => simp only [toPy] at e; cases e; simp only [RV] at r; subst r; exact .int _
    | str _ => simp only [toPy] at e; cases e; simp only [RV] at r; subst r; exact .str _
    | tup xs =>
      simp only [toPy, Option.map_eq_some_iff] at e
      obtain ⟨ps, e1, rfl⟩ := e
      simp only [RV] at r
      obtain ⟨a, vs, rfl, s, r⟩ := r
      exact .tup (SqT.of s) (all _ _ _ r e1)
    | ct xs =>
      simp only [toPy, Option.map_eq_some_iff] at e
      obtain ⟨ps, e1, rfl⟩ := e
      simp only [RV] at r
      obtain ⟨a, vs, rfl, s, r⟩ := r
      exact .tup (.inr s) (all _ _ _ r e1)
    | cl xs =>
      simp only [toPy, Option.map_eq_some_iff] at e
      obtain ⟨ps, e1, rfl⟩ := e
      simp only [RV] at r
      obtain ⟨a, vs, rfl, s, r⟩ := r
      exact .lst s.sq (all _ _ _ r e1)
    | loc l =>
      simp only [toPy] at e
      split at e
      · rename_i xs e0
        simp only [Option.map_eq_some_iff] at e
        obtain ⟨ps, e1, rfl⟩ := e
        obtain ⟨a, vs, rfl, _, q, r⟩ := at_lst rel r e0
        exact .lst (SqL.of q) (all _ _ _ r e1)
      · cases e
    | _ => simp [toPy] at e
/-- scalars that compare by themselves -/
def scalD : D → D → Option Bool
  | .non, .non => some true
  | .int i, .int j => some (decide (i = j))
  | .bl i, .bl j => some (decide (i = j))
  | .str i, .str j => some (decide (i = j))
  | .non, .int _ => some false
  | .int _, .non => some false
  | .non, .bl _ => some false
  | .bl _, .non => some false
  | .non, .str _ => some false
  | .str _, .non => some false
  | .int _, .str _ => some false
  | .str _, .int _ => some false
  | .bl _, .str _ => some false
  | .str _, .bl _ => some false
  | _, _ => none
def eqD (x y : D) (h : M) : Option Bool :=
  match scalD x y with
  | some b => some b
  | none => match toPy h 50 x, toPy h 50 y with
    | some p, some q => if SeqAt.shaped p = true ∧ SeqAt.shaped q = true then some (PyData.eqv p q) else none
    | _, _ => none
def fEq (x y : D) (h : M) : Res D := match eqD x y h with | some b => .ok (.bl b) h | none => .stuck
def fNe (x y : D) (h : M) : Res D := match eqD x y h with | some b => .ok (.bl (!b)) h | none => .stuck
theorem scalD_ok {G : Wo} {ι : List Addr} {H : Hp} {x y : D} {v u : V} {b : Bool} (rx : RV G ι H x v) (ry : RV G ι H y u) (e : scalD x y = some b) : scal v u = true ∧ decide (v = u) = b := by
  cases x <;> cases y <;> simp only [scalD, Option.some.injEq, reduceCtorEq] at e <;> (simp only [RV] at rx ry; subst rx; subst ry; subst e; simp [scal])
theorem eqD_ok {G : Wo} {ι : List Addr} {H : Hp} {h : M} {x y : D} {v u : V} {b : Bool} (rel : Rel G ι H h) (rx : RV G ι H x v) (ry : RV G ι H y u) (e : eqD x y h = some b) :
    (scal v u = true ∧ decide (v = u) = b) ∨ ∃ d f, Dp G.K H v d ∧ Dp G.K H u f ∧ SeqAt.shaped d = true ∧ SeqAt.shaped f = true ∧ PyData.eqv d f = b := by
  unfold eqD at e
  split at e
  · rename_i c e1
    cases e
    exact .inl (scalD_ok rx ry e1)
  · split at e
    · rename_i p q e2 e3
      split at e
      · rename_i hs
        cases e
        exact .inr ⟨p, q, toPy_ok rel _ _ _ _ rx e2, toPy_ok rel _ _ _ _ ry e3, hs.1, hs.2, rfl⟩
      · cases e
    · cases e
theorem fc_eq {k : Nat} (hr : Room k X.A) (ha : FE X W ex a ma) (hb : FE X W ex b mb) : FC X W ex .Eq a b (m2 fEq ma mb) := by
  refine fc_op (op_eq.or (op_eqD hr.units)) (fun E ι H h x y v u Q rel rx ry po => ?_) ha hb
  unfold fEq at po
  split at po
  · rename_i b e
    rcases eqD_ok rel rx ry e with ⟨s, d⟩ | ⟨d, f, h1, h2, h3, h4, h5⟩
    · exact .inl ⟨s, by rw [d]; exact po_ok rel (by simp [RV]) po⟩
    · exact .inr ⟨d, f, h1, h2, h3, h4, by rw [h5]; exact po_ok rel (by simp [RV]) po⟩
  · exact po.elim
theorem fc_ne {k : Nat} (hr : Room k X.A) (ha : FE X W ex a ma) (hb : FE X W ex b mb) : FC X W ex .NotEq a b (m2 fNe ma mb) := by
  refine fc_op (op_ne.or (op_neD hr.units)) (fun E ι H h x y v u Q rel rx ry po => ?_) ha hb
  unfold fNe at po
  split at po
  · rename_i b e
    rcases eqD_ok rel rx ry e with ⟨s, d⟩ | ⟨d, f, h1, h2, h3, h4, h5⟩
    · exact .inl ⟨s, by rw [d]; exact po_ok rel (by simp [RV]) po⟩
    · exact .inr ⟨d, f, h1, h2, h3, h4, by rw [h5]; exact po_ok rel (by simp [RV]) po⟩
  · exact po.elim
/-- is None -/
def isN : D → Bool
  | .non => true
  | _ => false
theorem isN_ok {G : Wo} {ι : List Addr} {H : Hp} {x : D} {v : V} (rx : RV G ι H x v) : decide (v = .non) = isN x := by
  cases x <;> simp only [RV] at rx
  case non => subst rx; rfl
  case bl => subst rx; rfl
  case int => subst rx; rfl
  case str => subst rx; rfl
  case tup => obtain ⟨a, vs, rfl, _⟩ := rx; rfl
  case cl => obtain ⟨a, vs, rfl, _⟩ := rx; rfl
  case ct => obtain ⟨a, vs, rfl, _⟩ := rx; rfl
  case loc => obtain ⟨a, rfl, _⟩ := rx; rfl
  case ty => subst rx; rfl
  case cls => obtain ⟨a, rfl, _⟩ := rx; rfl
def fIsN : D → M → Res D := fun x h => .ok (.bl (isN x)) h
def fIsNN : D → M → Res D := fun x h => .ok (.bl (!isN x)) h
theorem fc_isN {j pos'} (ha : FE X W ex a ma) : FC X W ex .Is a (.Constant .none j pos') (m1 fIsN ma) := by
  refine PC.imp (pc_isN ha) fun σ H Q q => ?_
  obtain ⟨ι, h, env, rel, re, po⟩ := q
  refine ⟨ι, h, env, rel, re, post_bind po fun x h1 ι1 H1 v eq1 p1 k1 rel1 rv1 po1 => ?_⟩
  rw [isN_ok rv1]
  exact po_ok rel1 (by simp [RV]) po1
theorem fc_isNN {j pos'} (ha : FE X W ex a ma) : FC X W ex .IsNot a (.Constant .none j pos') (m1 fIsNN ma) := by
  refine PC.imp (pc_notN ha) fun σ H Q q => ?_
  obtain ⟨ι, h, env, rel, re, po⟩ := q
  refine ⟨ι, h, env, rel, re, post_bind po fun x h1 ι1 H1 v eq1 p1 k1 rel1 rv1 po1 => ?_⟩
  rw [isN_ok rv1]
  exact po_ok rel1 (by simp [RV]) po1

/-! ### tests -/
variable {ta tb tc : MT} {rest : List Expr}
def asB (d : D) (h : M) : Res Bool := match d with | .bl b => .ok b h | _ => .stuck
@[simp] theorem asB_bl {b : Bool} {h : M} : asB (.bl b) h = .ok b h := (rfl)
def mTest (ma : ME) : MT := fun env h => (ma env h).bind asB
theorem rd_test {G : Wo} {σ : St} {H : Hp} {Q : Bool → Hp → Prop} (q : rdT G ex W (mTest ma) σ H Q) : rdE G ex W ma σ H fun x H1 => ∃ c, x = .bl c ∧ Q c H1 := by
  obtain ⟨ι, h, env, rel, re, po⟩ := q
  refine ⟨ι, h, env, rel, re, post_bind po fun x h1 ι1 H1 v eq1 p1 k1 rel1 rv1 po1 => ?_⟩
  cases x <;> (try exact po1.elim)
  simp only [RV] at rv1
  exact ⟨_, rv1, po_ok rel1 rfl po1⟩
theorem ft_val (ha : FE X W ex a ma) (he : ∀ whole, isTrue a X.env whole = (do let v ← whole; standAt a.pos; holding [v] (truthy v)) := by intro _; rfl) : FT X W ex a (mTest ma) :=
  PT.imp (pt_val ha he) fun _ _ _ q => rd_test q
/-- a comparison as a test -/
theorem ft_c1 {op : CmpOp} {m : ME} (h : FC X W ex op a b m) (hm : behindInMarks op b = false := by first | exact nobehind _ (by decide) (by decide) | rfl) : FT X W ex (.Compare a [op] [b] pos) (mTest m) :=
  PT.imp (pt_cmp h hm) fun _ _ _ q => rd_test q
def mNotT (t : MT) : MT := fun env h => (t env h).bind fun b h => .ok (!b) h
theorem ft_not (ha : FT X W ex a ta) : FT X W ex (.UnaryOp .Not a pos) (mNotT ta) := by
  refine PT.imp (pt_not ha) fun σ H Q q => ?_
  obtain ⟨ι, h, env, rel, re, po⟩ := q
  refine ⟨ι, h, env, rel, re, post_bind po fun x h1 ι1 H1 v eq1 p1 k1 rel1 rv1 po1 => ?_⟩
  cases rv1
  exact po_ok rel1 rfl po1
def mAndT (t u : MT) : MT := fun env h => (t env h).bind fun b h => if b = true then u env h else .ok false h
def mOrT (t u : MT) : MT := fun env h => (t env h).bind fun b h => if b = true then .ok true h else u env h
theorem fw_and1 (ha : FT X W ex a ta) : FW X W ex (.BoolOp .And [a] pos) ta := pw_and1 ha
theorem fw_or1 (ha : FT X W ex a ta) : FW X W ex (.BoolOp .Or [a] pos) ta := pw_or1 ha
theorem fw_and (ha : FT X W ex a ta) (hb : FW X W ex (.BoolOp .And (b :: rest) pos) tb) : FW X W ex (.BoolOp .And (a :: b :: rest) pos) (mAndT ta tb) := by
  refine PW.imp (pw_and ha hb) fun σ H Q q => ?_
  obtain ⟨ι, h, env, rel, re, po⟩ := q
  refine ⟨ι, h, env, rel, re, post_bind po fun x h1 ι1 H1 v eq1 p1 k1 rel1 rv1 po1 => ?_⟩
  cases rv1
  split
  · rename_i hx
    rw [if_pos hx] at po1
    exact ⟨ι1, h1, env, rel1, re.mono p1 k1, po1⟩
  · rename_i hx
    rw [if_neg hx] at po1
    exact po_ok rel1 rfl po1
theorem fw_or (ha : FT X W ex a ta) (hb : FW X W ex (.BoolOp .Or (b :: rest) pos) tb) : FW X W ex (.BoolOp .Or (a :: b :: rest) pos) (mOrT ta tb) := by
  refine PW.imp (pw_or ha hb) fun σ H Q q => ?_
  obtain ⟨ι, h, env, rel, re, po⟩ := q
  refine ⟨ι, h, env, rel, re, post_bind po fun x h1 ι1 H1 v eq1 p1 k1 rel1 rv1 po1 => ?_⟩
  cases rv1
  split
  · rename_i hx
    rw [if_pos hx] at po1
    exact po_ok rel1 rfl po1
  · rename_i hx
    rw [if_neg hx] at po1
    exact ⟨ι1, h1, env, rel1, re.mono p1 k1, po1⟩
theorem FW.ft (h : FW X W ex e ta) : FT X W ex e ta := PW.pt h
/-! as values -/
def mNotV (ma : ME) : ME := fun env h => (ma env h).bind fun d h => (asB d h).bind fun b h => .ok (.bl (!b)) h
theorem fe_not (ha : FE X W ex a ma) : FE X W ex (.UnaryOp .Not a pos) (mNotV ma) := by
  refine PE.imp (pe_not ha) fun σ H Q q => ?_
  obtain ⟨ι, h, env, rel, re, po⟩ := q
  refine ⟨ι, h, env, rel, re, post_bind po fun x h1 ι1 H1 v eq1 p1 k1 rel1 rv1 po1 => ?_⟩
  cases x <;> (try exact po1.elim)
  simp only [RV] at rv1
  exact ⟨_, rv1, po_ok rel1 (by simp [RV]) po1⟩
def mAndV (ma mb : ME) : ME := fun env h => (ma env h).bind fun d h => (asB d h).bind fun b h => if b = true then mb env h else .ok (.bl false) h
def mOrV (ma mb : ME) : ME := fun env h => (ma env h).bind fun d h => (asB d h).bind fun b h => if b = true then .ok (.bl true) h else mb env h
theorem fe_one {op} (ha : FE X W ex a ma) : FE X W ex (.BoolOp op [a] pos) ma := pe_one ha
theorem fe_and (ha : FE X W ex a ma) (hb : FE X W ex (.BoolOp .And (b :: rest) pos) mb) : FE X W ex (.BoolOp .And (a :: b :: rest) pos) (mAndV ma mb) := by
  refine PE.imp (pe_and ha hb) fun σ H Q q => ?_
  obtain ⟨ι, h, env, rel, re, po⟩ := q
  refine ⟨ι, h, env, rel, re, post_bind po fun x h1 ι1 H1 v eq1 p1 k1 rel1 rv1 po1 => ?_⟩
  cases x <;> (try exact po1.elim)
  case bl c =>
  simp only [RV] at rv1
  refine ⟨_, rv1, ?_⟩
  cases c with
  | true => exact iteT ⟨ι1, h1, env, rel1, re.mono p1 k1, po1⟩
  | false => exact iteF (po_ok rel1 (by simp [RV]) po1)
theorem fe_or (ha : FE X W ex a ma) (hb : FE X W ex (.BoolOp .Or (b :: rest) pos) mb) : FE X W ex (.BoolOp .Or (a :: b :: rest) pos) (mOrV ma mb) := by
  refine PE.imp (pe_or ha hb) fun σ H Q q => ?_
  obtain ⟨ι, h, env, rel, re, po⟩ := q
  refine ⟨ι, h, env, rel, re, post_bind po fun x h1 ι1 H1 v eq1 p1 k1 rel1 rv1 po1 => ?_⟩
  cases x <;> (try exact po1.elim)
  case bl c =>
  simp only [RV] at rv1
  refine ⟨_, rv1, ?_⟩
  cases c with
  | false => exact iteF ⟨ι1, h1, env, rel1, re.mono p1 k1, po1⟩
  | true => exact iteT (po_ok rel1 (by simp [RV]) po1)
def mIf (t : MT) (ma mb : ME) : ME := fun env h => (t env h).bind fun b h => if b = true then ma env h else mb env h
theorem fe_if {c : Expr} (hc : FT X W ex c tc) (ha : FE X W ex a ma) (hb : FE X W ex b mb) : FE X W ex (.IfExp c a b pos) (mIf tc ma mb) := by
  refine PE.imp (pe_ifExp hc ha hb) fun σ H Q q => ?_
  obtain ⟨ι, h, env, rel, re, po⟩ := q
  refine ⟨ι, h, env, rel, re, post_bind po fun x h1 ι1 H1 v eq1 p1 k1 rel1 rv1 po1 => ?_⟩
  cases rv1
  cases x with
  | true => exact iteT ⟨ι1, h1, env, rel1, re.mono p1 k1, po1⟩
  | false => exact iteF ⟨ι1, h1, env, rel1, re.mono p1 k1, po1⟩

/-! ### arguments, displays -/
variable {es : List Expr} {mas : MA}
def mNil : MA := fun _ h => .ok [] h
def mCons (ma : ME) (mas : MA) : MA := fun env h => (ma env h).bind fun x h1 => (mas env h1).bind fun xs h2 => .ok (x :: xs) h2
theorem fa_nil : FA X W ex [] mNil := by
  refine PA.imp pa_nil fun σ H Q q => ?_
  obtain ⟨ι, h, env, rel, re, po⟩ := q
  exact po_ok rel RVs.nil po
theorem fa_cons (ha : FE X W ex a ma) (hs : FA X W ex es mas) (hst : starEach (a :: es) X.env = (false, eval a X.env) :: starEach es X.env := by rfl) : FA X W ex (a :: es) (mCons ma mas) := by
  refine PA.imp (pa_cons ha hs hst) fun σ H Q q => ?_
  obtain ⟨ι, h, env, rel, re, po⟩ := q
  refine ⟨ι, h, env, rel, re, post_bind po fun x h1 ι1 H1 v eq1 p1 k1 rel1 rv1 po1 => ?_⟩
  refine ⟨ι1, h1, env, rel1, re.mono p1 k1, post_bind po1 fun xs h2 ι2 H2 vs _ p2 k2 rel2 rv2 po2 => ?_⟩
  exact po_ok rel2 (RVs.cons (RV.mono p2 k2 _ _ rv1) rv2) po2
def fTup (xs : List D) (h : M) : Res D := if xs.length ≤ sizeLine then .ok (.tup xs) h else .stuck
def fLst (xs : List D) (h : M) : Res D := if xs.length ≤ sizeLine then .ok (.loc h.length) (h ++ [.lst xs]) else .stuck
def mL (f : List D → M → Res D) (mas : MA) : ME := fun env h => (mas env h).bind f
theorem fe_tup {x1} (hs : FA X W ex es mas) : FE X W ex (.Tuple es x1 pos) (mL fTup mas) := by
  refine PE.imp (pe_tup hs) fun σ H Q q => ?_
  obtain ⟨ι, h, env, rel, re, po⟩ := q
  refine ⟨ι, h, env, rel, re, post_bind po fun xs h1 ι1 H1 vs _ p1 k1 rel1 rv1 po1 => ?_⟩
  have hl := RVs.length rv1
  unfold fTup at po1
  split at po1
  · rename_i hz
    exact ⟨by omega, fun p hp => po_tup rel1 rv1 po1 p hp⟩
  · exact po1.elim
theorem fe_lst (hs : FA X W ex es mas) : FE X W ex (.List es pos) (mL fLst mas) := by
  refine PE.imp (pe_lst hs) fun σ H Q q => ?_
  obtain ⟨ι, h, env, rel, re, po⟩ := q
  refine ⟨ι, h, env, rel, re, post_bind po fun xs h1 ι1 H1 vs _ p1 k1 rel1 rv1 po1 => ?_⟩
  have hl := RVs.length rv1
  unfold fLst at po1
  split at po1
  · rename_i hz
    exact ⟨by omega, fun p hp => po_lst rel1 rv1 po1 p hp⟩
  · exact po1.elim

/-! ### calls of built-ins by values -/
theorem rd_call {G : Wo} {r : List V → Hp → VK → Prop} {f : List D → M → Res D} (hf : AbL G r f) {σ : St} {H : Hp} {Q : VK} (q : rdE G ex W (mL f mas) σ H Q) : tCB r (rdA G ex W mas) σ H Q := by
  obtain ⟨ι, h, env, rel, re, po⟩ := q
  refine ⟨ι, h, env, rel, re, post_bind po fun xs h1 ι1 H1 vs _ p1 k1 rel1 rv1 po1 => ?_⟩
  exact hf _ ι1 H1 h1 xs vs Q rel1 rv1 po1
theorem fe_callB {id : String} {x : Str} {p : Pos} {r : List V → Hp → VK → Prop} {f : List D → M → Res D} (hc : CallR X (.builtin id) r) (hf : AbL (wo X) r f) (hm : X.mg x = none) (hv : bootBuiltins x = some (.builtin id)) (hs : FA X W ex (e :: es) mas)
    (hg : Gl X x := by rfl) (hn : x ≠ "__name__" := by decide) (hdb : (x == ("__debug__" : Str)) = false := by decide) (he : starEach (e :: es) X.env = (false, eval e X.env) :: starEach es X.env := by rfl) (hpl : (backTo pos (starEach es X.env)).any (·.1) = false := by rfl) :
    FE X W ex (.Call (.Name x p) (e :: es) [] pos) (mL f mas) := PE.imp (pe_callB hc hg hm hv hs hn hdb he hpl) fun _ _ _ q => rd_call hf q
theorem fe_callTy {T : String} {x : Str} {p : Pos} {r : List V → Hp → VK → Prop} {f : List D → M → Res D} (hc : CallR X (.type T) r) (hf : AbL (wo X) r f) (hm : X.mg x = none) (hv : bootBuiltins x = some (.type T)) (hs : FA X W ex (e :: es) mas)
    (hg : Gl X x := by rfl) (hn : x ≠ "__name__" := by decide) (hdb : (x == ("__debug__" : Str)) = false := by decide) (he : starEach (e :: es) X.env = (false, eval e X.env) :: starEach es X.env := by rfl) (hpl : (backTo pos (starEach es X.env)).any (·.1) = false := by rfl) :
    FE X W ex (.Call (.Name x p) (e :: es) [] pos) (mL f mas) := PE.imp (pe_callTy hc hg hm hv hs hn hdb he hpl) fun _ _ _ q => rd_call hf q
end
end LF
set_option Elab.async false
set_option linter.all false
set_option maxRecDepth 100000
set_option maxHeartbeats 4000000
/-! LF3: built-ins, subscripts, slices, in, dicts, methods. -/
namespace LF
open PySem PySem.Spec L2
open PyProof.Rows hiding St
section
variable {X : Cx} {W : WX} {ex : Ex} {e a b i o : Expr} {es : List Expr} {ma mb mc : ME} {mas : MA} {pos : Pos}

theorem CallR_or {f : Value} {r r' : List V → Hp → VK → Prop} (h : CallR X f r) (h' : CallR X f r') : CallR X f (fun xs H Q => r xs H Q ∨ r' xs H Q) := by
  intro pins s σ H xs us Q I rx q
  rcases q with q | q
  · exact h pins s σ H xs us Q I rx q
  · exact h' pins s σ H xs us Q I rx q
theorem RVs.eq1 {G : Wo} {ι : List Addr} {H : Hp} {d : D} {vs : List V} (h : RVs G ι H [d] vs) : ∃ v, vs = [v] ∧ RV G ι H d v := by
  simp only [RVs] at h
  obtain ⟨v, r, rfl, h1, rfl⟩ := h
  exact ⟨v, rfl, h1⟩
theorem RVs.eq2 {G : Wo} {ι : List Addr} {H : Hp} {d f : D} {vs : List V} (h : RVs G ι H [d, f] vs) : ∃ v u, vs = [v, u] ∧ RV G ι H d v ∧ RV G ι H f u := by
  simp only [RVs] at h
  obtain ⟨v, r, rfl, h1, u, r2, rfl, h2, rfl⟩ := h
  exact ⟨v, u, rfl, h1, h2⟩

/-! ### len -/
def lenD (h : M) : D → Option Nat
  | .str x => if x.length ≤ sizeLine then some x.length else none
  | .tup xs => some xs.length
  | .ct xs => some xs.length
  | .cl xs => some xs.length
  | .loc l => match h[l]? with
    | some (.lst xs) => some xs.length
    | some (.dK kvs) => some kvs.length
    | _ => none
  | _ => none
def fLen (xs : List D) (h : M) : Res D := match xs with
  | [x] => match lenD h x with | some n => .ok (.int n) h | none => .stuck
  | _ => .stuck
theorem fe_len {x : Str} {p : Pos} (hx : bootBuiltins x = some (.builtin "len")) (hm : X.mg x = none) (hs : FA X W ex (e :: es) mas) (hg : Gl X x := by rfl) (hn : x ≠ "__name__" := by decide) (hdb : (x == ("__debug__" : Str)) = false := by decide)
    (he : starEach (e :: es) X.env = (false, eval e X.env) :: starEach es X.env := by rfl) (hpl : (backTo pos (starEach es X.env)).any (·.1) = false := by rfl) : FE X W ex (.Call (.Name x p) (e :: es) [] pos) (mL fLen mas) := by
  refine fe_callB (CallR_or call_len call_lenD) (fun E ι H h xs vs Q rel rx po => ?_) hm hx hs hg hn hdb he hpl
  unfold fLen at po
  split at po
  case h_2 => exact po.elim
  rename_i xs d
  obtain ⟨v, rfl, r⟩ := rx.eq1
  split at po
  case h_2 => exact po.elim
  rename_i n e1
  have fin := po_ok (v := V.int n) rel (by simp [RV]) po
  cases d with
  | str z =>
    simp only [lenD] at e1
    split at e1
    · rename_i hz
      cases e1
      simp only [RV] at r; subst r
      exact .inl ⟨_, _, rfl, ⟨hz, rfl⟩, fin⟩
    · cases e1
  | tup ys =>
    simp only [lenD] at e1; cases e1
    obtain ⟨a, ws, rfl, s, r⟩ := tupOf_sq (xs := ys) r rfl
    exact .inl ⟨_, _, rfl, .inr ⟨ws, s, RVs.length r⟩, fin⟩
  | ct ys =>
    simp only [lenD] at e1; cases e1
    obtain ⟨a, ws, rfl, s, r⟩ := tupOf_sq (xs := ys) r rfl
    exact .inl ⟨_, _, rfl, .inr ⟨ws, s, RVs.length r⟩, fin⟩
  | cl ys =>
    simp only [lenD] at e1; cases e1
    obtain ⟨a, ws, rfl, s, r⟩ := lstOf_sq (xs := ys) rel r rfl
    exact .inl ⟨_, _, rfl, .inl ⟨ws, s, RVs.length r⟩, fin⟩
  | loc l =>
    simp only [lenD] at e1
    split at e1
    · rename_i ys e2
      cases e1
      obtain ⟨a, ws, rfl, _, q, r⟩ := at_lst rel r e2
      exact .inl ⟨_, _, rfl, .inl ⟨ws, SqL.of q, RVs.length r⟩, fin⟩
    · rename_i kvs e2
      cases e1
      obtain ⟨a, ws, rfl, _, q, r⟩ := at_dK rel r e2
      have hl : kvs.length = ws.length := by have := congrArg List.length r.1; simpa using this
      rw [hl] at fin
      exact .inr ⟨a, ws, rfl, q, fin⟩
    · cases e1
  | _ => simp [lenD] at e1

/-! ### int(x), min, max, abs of two -/
def fInt (xs : List D) (h : M) : Res D := match xs with
  | [.int i] => .ok (.int i) h
  | [.bl k] => .ok (.int (if k then 1 else 0)) h
  | _ => .stuck
theorem fe_intc {p : Pos} (hm : X.mg "int" = none) (hs : FA X W ex (e :: es) mas) (hg : Gl X "int" := by rfl) (he : starEach (e :: es) X.env = (false, eval e X.env) :: starEach es X.env := by rfl) (hpl : (backTo pos (starEach es X.env)).any (·.1) = false := by rfl) :
    FE X W ex (.Call (.Name "int" p) (e :: es) [] pos) (mL fInt mas) := by
  refine fe_callTy call_int1 (fun E ι H h xs vs Q rel rx po => ?_) hm (by decide +kernel) hs hg (by decide) (by decide) he hpl
  unfold fInt at po
  split at po
  · obtain ⟨v, rfl, r⟩ := rx.eq1
    simp only [RV] at r; subst r
    exact .inl ⟨_, rfl, po_ok rel (by simp [RV]) po⟩
  · obtain ⟨v, rfl, r⟩ := rx.eq1
    simp only [RV] at r; subst r
    exact .inr ⟨_, rfl, po_ok rel (by simp [RV]) po⟩
  · exact po.elim
def fMin (xs : List D) (h : M) : Res D := match xs with
  | [.int i, .int j] => .ok (.int (if j < i then j else i)) h
  | _ => .stuck
def fMax (xs : List D) (h : M) : Res D := match xs with
  | [.int i, .int j] => .ok (.int (if j > i then j else i)) h
  | _ => .stuck
theorem fe_min2 {p : Pos} (hm : X.mg "min" = none) (hs : FA X W ex (e :: es) mas) (hc : X.calm = true := by rfl) (hg : Gl X "min" := by rfl) (he : starEach (e :: es) X.env = (false, eval e X.env) :: starEach es X.env := by rfl) (hpl : (backTo pos (starEach es X.env)).any (·.1) = false := by rfl) :
    FE X W ex (.Call (.Name "min" p) (e :: es) [] pos) (mL fMin mas) := by
  refine fe_callB (call_min2 hc) (fun E ι H h xs vs Q rel rx po => ?_) hm (by decide +kernel) hs hg (by decide) (by decide) he hpl
  unfold fMin at po
  split at po
  · obtain ⟨v, u, rfl, r, r2⟩ := rx.eq2
    simp only [RV] at r r2; subst r; subst r2
    exact ⟨_, _, rfl, po_ok rel (by simp [RV]) po⟩
  · exact po.elim
theorem fe_max2 {p : Pos} (hm : X.mg "max" = none) (hs : FA X W ex (e :: es) mas) (hc : X.calm = true := by rfl) (hg : Gl X "max" := by rfl) (he : starEach (e :: es) X.env = (false, eval e X.env) :: starEach es X.env := by rfl) (hpl : (backTo pos (starEach es X.env)).any (·.1) = false := by rfl) :
    FE X W ex (.Call (.Name "max" p) (e :: es) [] pos) (mL fMax mas) := by
  refine fe_callB (call_max2 hc) (fun E ι H h xs vs Q rel rx po => ?_) hm (by decide +kernel) hs hg (by decide) (by decide) he hpl
  unfold fMax at po
  split at po
  · obtain ⟨v, u, rfl, r, r2⟩ := rx.eq2
    simp only [RV] at r r2; subst r; subst r2
    exact ⟨_, _, rfl, po_ok rel (by simp [RV]) po⟩
  · exact po.elim
/-- list(x), tuple(x) -/
def seqOf (h : M) (d : D) : Option (List D) := match tupOf d with | some xs => some xs | none => lstOf h d
theorem seqOf_sq {G : Wo} {ι : List Addr} {H : Hp} {h : M} {d : D} {v : V} {xs : List D} (rel : Rel G ι H h) (rv : RV G ι H d v) (e : seqOf h d = some xs) : ∃ a vs, v = .ref a ∧ (SqL G.K H a vs ∨ SqT G.K H a vs) ∧ RVs G ι H xs vs := by
  unfold seqOf at e
  split at e
  · rename_i ys e1
    cases e
    obtain ⟨a, vs, rfl, s, r⟩ := tupOf_sq rv e1
    exact ⟨a, vs, rfl, .inr s, r⟩
  · obtain ⟨a, vs, rfl, s, r⟩ := lstOf_sq rel rv e
    exact ⟨a, vs, rfl, .inl s, r⟩
def fList (xs : List D) (h : M) : Res D := match xs with
  | [x] => match seqOf h x with | some ys => .ok (.loc h.length) (h ++ [.lst ys]) | none => .stuck
  | _ => .stuck
theorem fe_list {p : Pos} (hm : X.mg "list" = none) (hs : FA X W ex (e :: es) mas) (hg : Gl X "list" := by rfl) (he : starEach (e :: es) X.env = (false, eval e X.env) :: starEach es X.env := by rfl) (hpl : (backTo pos (starEach es X.env)).any (·.1) = false := by rfl) :
    FE X W ex (.Call (.Name "list" p) (e :: es) [] pos) (mL fList mas) := by
  refine fe_callTy call_list_of (fun E ι H h xs vs Q rel rx po => ?_) hm (by decide +kernel) hs hg (by decide) (by decide) he hpl
  unfold fList at po
  split at po
  case h_2 => exact po.elim
  obtain ⟨v, rfl, r⟩ := rx.eq1
  split at po
  case h_2 => exact po.elim
  rename_i ys e1
  obtain ⟨a, ws, rfl, s, r⟩ := seqOf_sq rel r e1
  exact ⟨a, ws, rfl, s, fun p hp => po_lst rel r po p hp⟩
def fTuple (xs : List D) (h : M) : Res D := match xs with
  | [.tup ys] => .ok (.tup ys) h
  | [.ct ys] => .ok (.ct ys) h
  | [x] => match lstOf h x with | some ys => .ok (.tup ys) h | none => .stuck
  | _ => .stuck
theorem fe_tuple {p : Pos} (hm : X.mg "tuple" = none) (hs : FA X W ex (e :: es) mas) (hg : Gl X "tuple" := by rfl) (he : starEach (e :: es) X.env = (false, eval e X.env) :: starEach es X.env := by rfl) (hpl : (backTo pos (starEach es X.env)).any (·.1) = false := by rfl) :
    FE X W ex (.Call (.Name "tuple" p) (e :: es) [] pos) (mL fTuple mas) := by
  refine fe_callTy call_tuple_of (fun E ι H h xs vs Q rel rx po => ?_) hm (by decide +kernel) hs hg (by decide) (by decide) he hpl
  unfold fTuple at po
  split at po
  · obtain ⟨v, rfl, r⟩ := rx.eq1
    obtain ⟨a, ws, rfl, s, r'⟩ := tupOf_sq (xs := _) r rfl
    exact ⟨a, ws, rfl, .inr ⟨s, po_ok rel r po⟩⟩
  · obtain ⟨v, rfl, r⟩ := rx.eq1
    obtain ⟨a, ws, rfl, s, r'⟩ := tupOf_sq (xs := _) r rfl
    exact ⟨a, ws, rfl, .inr ⟨s, po_ok rel r po⟩⟩
  · obtain ⟨v, rfl, r⟩ := rx.eq1
    split at po
    case h_2 => exact po.elim
    rename_i ys e1
    obtain ⟨a, ws, rfl, s, r⟩ := lstOf_sq rel r e1
    exact ⟨a, ws, rfl, .inl ⟨s, fun p hp => po_tup rel r po p hp⟩⟩
  · exact po.elim

/-! ### isinstance -/
def tyD (h : M) : D → Option String
  | .non => some "NoneType"
  | .bl _ => some "bool"
  | .int _ => some "int"
  | .str _ => some "str"
  | .tup _ => some "tuple"
  | .ct _ => some "tuple"
  | .cl _ => some "list"
  | .loc l => match h[l]? with
    | some (.lst _) => some "list"
    | some (.dK _) => some "dict"
    | some (.dT _) => some "dict"
    | _ => none
  | _ => none
theorem tyD_ok {G : Wo} {ι : List Addr} {H : Hp} {h : M} {d : D} {v : V} {t : String} (rel : Rel G ι H h) (r : RV G ι H d v) (e : tyD h d = some t) : TyX G.K H v (.type t) := by
  cases d with
  | non => cases e; simp only [RV] at r; subst r; exact .base .non
  | bl _ => cases e; simp only [RV] at r; subst r; exact .base (.bl _)
  | int _ => cases e; simp only [RV] at r; subst r; exact .base (.int _)
  | str _ => cases e; simp only [RV] at r; subst r; exact .base (.str _)
  | tup xs =>
    cases e; simp only [RV] at r
    obtain ⟨a, vs, rfl, q, _⟩ := r
    exact .base (.tup q)
  | ct xs =>
    cases e; simp only [RV] at r
    obtain ⟨a, vs, rfl, ⟨o, its, n, h1, h2, _⟩, _⟩ := r
    exact .kTuple h1 h2
  | cl xs =>
    cases e; simp only [RV] at r
    obtain ⟨a, vs, rfl, ⟨o, q⟩ | ⟨o, its, n, h1, h2, _⟩, _⟩ := r
    · exact .base (.frz q)
    · exact .kList h1 h2
  | loc l =>
    simp only [tyD] at e
    split at e
    · rename_i e2; cases e
      obtain ⟨a, ws, rfl, _, q, r⟩ := at_lst rel r e2
      exact .base (.lst q)
    · rename_i e2; cases e
      obtain ⟨a, ws, rfl, _, q, r⟩ := at_dK rel r e2
      exact .base (.dK q)
    · rename_i e2; cases e
      obtain ⟨a, ws, rfl, _, q, r⟩ := at_dT rel r e2
      exact .base (.dT q)
    · cases e
  | _ => cases e
def kinds : List String := ["NoneType", "bool", "int", "str", "tuple", "list", "dict"]
def isTy (s t : String) : Bool := s == t || (s == "bool" && t == "int")
theorem kitB_all : ∀ s ∈ kinds, ∀ t ∈ kinds, t ≠ "NoneType" → kitB s t = some (isTy s t) := by decide +kernel
def fIsI (xs : List D) (h : M) : Res D := match xs with
  | [x, .ty t] => match tyD h x with
    | some s => if s ∈ kinds ∧ t ∈ kinds ∧ t ≠ "NoneType" then .ok (.bl (isTy s t)) h else .stuck
    | none => .stuck
  | _ => .stuck
theorem fe_isI {p : Pos} (hm : X.mg "isinstance" = none) (hs : FA X W ex (e :: es) mas) (hg : Gl X "isinstance" := by rfl) (he : starEach (e :: es) X.env = (false, eval e X.env) :: starEach es X.env := by rfl) (hpl : (backTo pos (starEach es X.env)).any (·.1) = false := by rfl) :
    FE X W ex (.Call (.Name "isinstance" p) (e :: es) [] pos) (mL fIsI mas) := by
  refine fe_callB call_isi (fun E ι H h xs vs Q rel rx po => ?_) hm (by decide +kernel) hs hg (by decide) (by decide) he hpl
  unfold fIsI at po
  split at po
  case h_2 => exact po.elim
  rename_i d t
  obtain ⟨v, u, rfl, r, r2⟩ := rx.eq2
  split at po
  case h_2 => exact po.elim
  rename_i s e1
  split at po
  case isFalse => exact po.elim
  rename_i hk
  simp only [RV] at r2; subst r2
  exact ⟨_, _, _, _, _, rfl, .ty t, tyD_ok rel r e1, kit_ty (kitB_all s hk.1 t hk.2.1 hk.2.2), po_ok rel (by simp [RV]) po⟩

/-! ### subscripts -/
theorem RVs.atI {G : Wo} {ι : List Addr} {H : Hp} {xs : List D} {vs : List V} {i : Int} {d : D} (r : RVs G ι H xs vs) (e : atI xs i = some d) : ∃ v, L2.atI vs i = some v ∧ RV G ι H d v := by
  unfold L2.atI at e ⊢
  rw [← RVs.length r]
  cases h : ixN xs.length i with
  | none => rw [h] at e; simp at e
  | some j => rw [h] at e; exact r.get e
def keyD : D → Option Key
  | .int i => some (.inl i)
  | .str x => some (.inr x)
  | _ => none
def keysD : D → Option (List Key)
  | .tup xs => xs.mapM keyD
  | _ => none
theorem keyD_ok {G : Wo} {ι : List Addr} {H : Hp} {d : D} {v : V} {k : Key} (r : RV G ι H d v) (e : keyD d = some k) : v = kV k := by
  cases d <;> simp only [keyD, Option.some.injEq, reduceCtorEq] at e <;> (subst e; simp only [RV] at r; exact r)
theorem keysD_ok {G : Wo} {ι : List Addr} {H : Hp} {d : D} {v : V} {k : List Key} (r : RV G ι H d v) (e : keysD d = some k) : ∃ b, v = .ref b ∧ H b = some (.tup (k.map kV)) := by
  cases d <;> simp only [keysD, reduceCtorEq] at e
  rename_i xs
  simp only [RV] at r
  obtain ⟨a, vs, rfl, q, r⟩ := r
  refine ⟨a, rfl, ?_⟩
  have : vs = k.map kV := by
    clear q
    induction xs generalizing vs k with
    | nil => simp at e; subst e; simp only [RVs] at r; subst r; rfl
    | cons x xs ih =>
      simp only [List.mapM_cons, bind, Option.bind_eq_some_iff, pure, Option.some.injEq] at e
      obtain ⟨k1, e1, ks, e2, rfl⟩ := e
      simp only [RVs] at r
      obtain ⟨v1, r1, rfl, h1, h2⟩ := r
      rw [keyD_ok h1 e1, ih e2 _ h2]; rfl
  rw [← this]; exact q
section
variable {κ : Type} [DecidableEq κ]
def valD (kvs : List (κ × D)) (k : κ) : Option D := (kvs.find? fun kv => decide (kv.1 = k)).map (·.2)
def putD (kvs : List (κ × D)) (k : κ) (d : D) : List (κ × D) := if (kvs.any fun kv => decide (kv.1 = k)) = true then kvs.map (fun kv => if kv.1 = k then (kv.1, d) else kv) else kvs ++ [(k, d)]
def dropD (kvs : List (κ × D)) (k : κ) : List (κ × D) := kvs.filter fun kv => decide (kv.1 ≠ k)
theorem RKs.nil_iff {G : Wo} {ι : List Addr} {H : Hp} {kws : List (κ × V)} (h : RKs G ι H ([] : List (κ × D)) kws) : kws = [] := by
  have := h.1
  simpa using this.symm
theorem RKs.cons_iff {G : Wo} {ι : List Addr} {H : Hp} {k : κ} {d : D} {kvs : List (κ × D)} {kws : List (κ × V)} (h : RKs G ι H ((k, d) :: kvs) kws) : ∃ v r, kws = (k, v) :: r ∧ RV G ι H d v ∧ RKs G ι H kvs r := by
  obtain ⟨h1, h2⟩ := h
  cases kws with
  | nil => simp at h1
  | cons p r =>
    obtain ⟨k', v⟩ := p
    simp only [List.map_cons, List.cons.injEq] at h1
    obtain ⟨rfl, h1⟩ := h1
    simp only [List.map_cons, RVs] at h2
    obtain ⟨v', r', e, h3, h4⟩ := h2
    simp only [List.cons.injEq] at e
    obtain ⟨rfl, rfl⟩ := e
    exact ⟨v, r, rfl, h3, h1, h4⟩
theorem RKs.cons {G : Wo} {ι : List Addr} {H : Hp} {k : κ} {d : D} {v : V} {kvs : List (κ × D)} {kws : List (κ × V)} (r : RV G ι H d v) (h : RKs G ι H kvs kws) : RKs G ι H ((k, d) :: kvs) ((k, v) :: kws) :=
  ⟨by simp [h.1], by simp only [List.map_cons]; exact RVs.cons r h.2⟩
theorem RKs.nil {G : Wo} {ι : List Addr} {H : Hp} : RKs G ι H ([] : List (κ × D)) [] := ⟨rfl, by simp [RVs]⟩
theorem RKs.len {G : Wo} {ι : List Addr} {H : Hp} {kvs : List (κ × D)} {kws : List (κ × V)} (h : RKs G ι H kvs kws) : kvs.length = kws.length := by
  have := congrArg List.length h.1; simpa using this
theorem RKs.val {G : Wo} {ι : List Addr} {H : Hp} : ∀ {kvs : List (κ × D)} {kws : List (κ × V)} {k : κ}, RKs G ι H kvs kws → (∀ d, valD kvs k = some d → ∃ v, valV kws k = some v ∧ RV G ι H d v) ∧ (valD kvs k = none → valV kws k = none)
  | [], kws, k, h => by rw [h.nil_iff]; exact ⟨fun d e => by simp [valD] at e, fun _ => rfl⟩
  | (k', d') :: kvs, kws, k, h => by
    obtain ⟨v, r, rfl, h1, h2⟩ := h.cons_iff
    have ih := RKs.val (k := k) h2
    by_cases hk : k' = k
    · refine ⟨fun d e => ⟨v, valV_pos hk, ?_⟩, fun e => ?_⟩
      · have : d' = d := by simpa [valD, List.find?_cons, hk] using e
        rw [← this]; exact h1
      · simp [valD, List.find?_cons, hk] at e
    · have e1 : valD ((k', d') :: kvs) k = valD kvs k := by simp [valD, List.find?_cons, hk]
      rw [e1, valV_neg hk]
      exact ih
theorem RKs.any {G : Wo} {ι : List Addr} {H : Hp} : ∀ {kvs : List (κ × D)} {kws : List (κ × V)} {k : κ}, RKs G ι H kvs kws → (kvs.any fun kv => decide (kv.1 = k)) = (kws.any fun kv => decide (kv.1 = k))
  | [], kws, k, h => by rw [h.nil_iff]; rfl
  | (k', d') :: kvs, kws, k, h => by
    obtain ⟨v, r, rfl, h1, h2⟩ := h.cons_iff
    simp only [List.any_cons, RKs.any h2]
theorem RKs.app {G : Wo} {ι : List Addr} {H : Hp} {a b : List (κ × D)} {c d : List (κ × V)} (h : RKs G ι H a c) (h2 : RKs G ι H b d) : RKs G ι H (a ++ b) (c ++ d) :=
  ⟨by simp [h.1, h2.1], by simp only [List.map_append]; exact h.2.append h2.2⟩
theorem RKs.put {G : Wo} {ι : List Addr} {H : Hp} {kvs : List (κ × D)} {kws : List (κ × V)} {k : κ} {d : D} {v : V} (h : RKs G ι H kvs kws) (r : RV G ι H d v) : RKs G ι H (putD kvs k d) (putK kws k v) := by
  have go : ∀ {kvs : List (κ × D)} {kws : List (κ × V)}, RKs G ι H kvs kws → RKs G ι H (kvs.map (fun kv => if kv.1 = k then (kv.1, d) else kv)) (kws.map (fun kv => if kv.1 = k then (kv.1, v) else kv)) := by
    intro kvs
    induction kvs with
    | nil => intro kws h; rw [h.nil_iff]; exact RKs.nil
    | cons p kvs ih =>
      intro kws h
      obtain ⟨k', d'⟩ := p
      obtain ⟨v', q, rfl, h1, h2⟩ := h.cons_iff
      simp only [List.map_cons]
      by_cases hk : k' = k
      · rw [if_pos hk, if_pos hk]; exact RKs.cons r (ih h2)
      · rw [if_neg hk, if_neg hk]; exact RKs.cons h1 (ih h2)
  unfold putD putK
  rw [RKs.any h]
  split
  · exact go h
  · exact h.app (RKs.cons r RKs.nil)
theorem RKs.drop {G : Wo} {ι : List Addr} {H : Hp} {k : κ} : ∀ {kvs : List (κ × D)} {kws : List (κ × V)}, RKs G ι H kvs kws → RKs G ι H (dropD kvs k) (dropK kws k)
  | [], kws, h => by rw [h.nil_iff]; exact RKs.nil
  | (k', d') :: kvs, kws, h => by
    obtain ⟨v, r, rfl, h1, h2⟩ := h.cons_iff
    have ih := RKs.drop (k := k) h2
    unfold dropD dropK at ih ⊢
    simp only [List.filter_cons]
    by_cases hk : k' = k
    · simp only [hk, ne_eq, not_true_eq_false, decide_false, Bool.false_eq_true, if_false]; exact ih
    · simp only [hk, ne_eq, not_false_eq_true, decide_true, if_true]; exact RKs.cons h1 ih
end
/-- d[k], by the object's kind -/
def dGet (h : M) (x y : D) : Option (Option D) := match x with
  | .loc l => match h[l]? with
    | some (.dK kvs) => (keyD y).map (valD kvs)
    | some (.dT kvs) => (keysD y).map (valD kvs)
    | _ => none
  | _ => none
theorem dGet_ok {G : Wo} {ι : List Addr} {H : Hp} {h : M} {x y : D} {v u : V} {r : Option D} (rel : Rel G ι H h) (rx : RV G ι H x v) (ry : RV G ι H y u) (e : dGet h x y = some r) :
    ∃ a ro, v = .ref a ∧ IsD H a ∧ DGet H a u ro ∧ (∀ d, r = some d → ∃ w, ro = some w ∧ RV G ι H d w) ∧ (r = none → ro = none) := by
  cases x with
  | loc l =>
    simp only [dGet] at e
    split at e
    · rename_i kvs e1
      simp only [Option.map_eq_some_iff] at e
      obtain ⟨k, ek, rfl⟩ := e
      obtain ⟨a, ws, rfl, _, q, rk⟩ := at_dK rel rx e1
      rw [keyD_ok ry ek]
      exact ⟨a, _, rfl, .inl ⟨ws, .inl q⟩, DGet.k q, (RKs.val rk).1, (RKs.val rk).2⟩
    · rename_i kvs e1
      simp only [Option.map_eq_some_iff] at e
      obtain ⟨k, ek, rfl⟩ := e
      obtain ⟨a, ws, rfl, _, q, rk⟩ := at_dT rel rx e1
      obtain ⟨b, rfl, hb⟩ := keysD_ok ry ek
      exact ⟨a, _, rfl, .inr ⟨ws, .inl q⟩, DGet.t q hb, (RKs.val rk).1, (RKs.val rk).2⟩
    · cases e
  | _ => simp [dGet] at e
def fIx (x y : D) (h : M) : Res D := match x, y with
  | .str z, .int i => if z.length ≤ sizeLine then match atI z.cps.toList i with | some c => .ok (.str ⟨#[c]⟩) h | none => .stuck else .stuck
  | x, y => match seqOf h x, y with
    | some xs, .int i => match atI xs i with | some d => .ok d h | none => .stuck
    | some _, _ => .stuck
    | none, y => match dGet h x y with
      | some (some d) => .ok d h
      | _ => .stuck
theorem PE.or {t t' : TE} (p : PE X e t) (p' : PE X e t') : PE X e (fun σ H Q => t σ H Q ∨ t' σ H Q) := ⟨fun pins s σ H Q I h => by
  rcases h with h | h
  · exact p.run pins s σ H Q I h
  · exact p'.run pins s σ H Q I h⟩
theorem fe_ix {k : Nat} (hr : Room k X.A) (ha : FE X W ex a ma) (hb : FE X W ex b mb) (hs : PlainIx b := by exact fun _ _ => rfl) (hn : NoSl b := by exact fun _ _ => rfl) : FE X W ex (.Subscript a b pos) (m2 fIx ma mb) := by
  refine PE.imp (PE.or (pe_ix ix_seq ha hb hs) (pe_dget (hu_of hr) ha hb hn)) fun σ H Q q => ?_
  obtain ⟨ι, h, env, rel, re, po⟩ := q
  -- which way
  have way : ∀ (P : Prop) (c : Bool), (c = true → P) → (c = false → P) → P := fun P c h1 h2 => by cases c; exact h2 rfl; exact h1 rfl
  unfold m2 at po
  cases ea : ma env h with
  | stuck => rw [ea] at po; exact po.elim
  | exc x ns vs h1 => 
    rw [ea] at po
    exact .inl ⟨ι, h, env, rel, re, by rw [ea]; exact po⟩
  | ok x h1 =>
    rw [ea] at po
    simp only [bind_ok] at po
    cases eb : mb env h1 with
    | stuck => rw [eb] at po; exact po.elim
    | exc x' ns vs h2 =>
      rw [eb] at po
      refine .inl ⟨ι, h, env, rel, re, ?_⟩
      rw [ea]
      intro ι1 H1 v p1 k1 rel1 rv1
      refine ⟨ι1, h1, env, rel1, re.mono p1 k1, ?_⟩
      rw [eb]
      exact Post.mono p1 k1 po
    | ok y h2 =>
      rw [eb] at po
      simp only [bind_ok] at po
      -- the two values, then the rule's own question
      have run : ∀ (R : R2), (∀ ι2 H2 v u, ι <+: ι2 → Keep H H2 → Rel (wo X) ι2 H2 h2 → RV (wo X) ι2 H2 x v → RV (wo X) ι2 H2 y u → R v u H2 Q) → tOp R (rdE (wo X) ex W ma) (rdE (wo X) ex W mb) σ H Q := fun R hR => by
        refine ⟨ι, h, env, rel, re, ?_⟩
        rw [ea]
        intro ι1 H1 v p1 k1 rel1 rv1
        refine ⟨ι1, h1, env, rel1, re.mono p1 k1, ?_⟩
        rw [eb]
        intro ι2 H2 u p2 k2 rel2 rv2
        exact hR ι2 H2 v u (p1.trans p2) (k1.trans k2) rel2 (RV.mono p2 k2 _ _ rv1) rv2
      unfold fIx at po
      split at po
      · rename_i z i
        split at po
        case isFalse => exact po.elim
        rename_i hz
        split at po
        case h_2 => exact po.elim
        rename_i c ec
        refine .inl (run _ fun ι2 H2 v u p k rel2 r1 r2 => ?_)
        simp only [RV] at r1 r2; subst r1; subst r2
        exact .inr (.inr ⟨z, i, c, rfl, rfl, hz, ec, po_ok rel2 (by simp [RV]) (Post.mono p k po)⟩)
      · split at po
        · rename_i xs i es hno
          split at po
          case h_2 => exact po.elim
          rename_i d ed
          refine .inl (run _ fun ι2 H2 v u p k rel2 r1 r2 => ?_)
          simp only [RV] at r2; subst r2
          obtain ⟨a, ws, rfl, s, r⟩ := seqOf_sq rel2 r1 es
          obtain ⟨w, ew, rw'⟩ := r.atI ed
          rcases s with s | s
          · exact .inl ⟨a, ws, i, w, rfl, rfl, s, ew, po_ok rel2 rw' (Post.mono p k po)⟩
          · exact .inr (.inl ⟨a, ws, i, w, rfl, rfl, s, ew, po_ok rel2 rw' (Post.mono p k po)⟩)
        · exact po.elim
        · split at po
          case h_2 => exact po.elim
          rename_i d ed
          refine .inr ?_
          have z := run (fun x y H2 Q => ∃ a v, x = .ref a ∧ DGet H2 a y (some v) ∧ Q v H2) fun ι2 H2 v u p k rel2 r1 r2 => by
            obtain ⟨a, ro, rfl, _, g, g1, _⟩ := dGet_ok rel2 r1 r2 ed
            obtain ⟨w, rfl, rw'⟩ := g1 d rfl
            exact ⟨a, w, rfl, g, po_ok rel2 rw' (Post.mono p k po)⟩
          exact z
end
end LF
set_option Elab.async false
set_option linter.all false
set_option maxRecDepth 100000
set_option maxHeartbeats 4000000
/-! LF4: slices, in, methods of built-in types. -/
namespace LF
open PySem PySem.Spec L2
open PyProof.Rows hiding St
section
variable {X : Cx} {W : WX} {ex : Ex} {e a b i o : Expr} {es : List Expr} {ma mb mc : ME} {mas : MA} {pos : Pos}

/-! ### slices -/
abbrev MO := En → M → Res (Option Int)
abbrev BO : List Addr → Hp → Option Int → Option Int → Prop := fun _ _ b c => c = b
def rdO (G : Wo) (ex : Ex) (W : WX) (m : MO) : TO := fun σ H Q => ∃ ι h env, Rel G ι H h ∧ REn G ex ι H env σ ∧ Post G BO (fun c d H' => W c d σ H') ι H (m env h) Q
def FO (X : Cx) (W : WX) (ex : Ex) (e : Option Expr) (m : MO) : Prop := PO X e (rdO (wo X) ex W m)
theorem PO.imp {oe : Option Expr} {t t' : TO} (p : PO X oe t) (h : ∀ σ H Q, t' σ H Q → t σ H Q) : PO X oe t' := ⟨fun pins s σ H Q I q => p.run pins s σ H Q I (h σ H Q q)⟩
def mNoPart : MO := fun _ h => .ok none h
def mPart (m : ME) : MO := fun env h => (m env h).bind fun d h => match d with | .int i => .ok (some i) h | _ => .stuck
theorem fo_none : FO X W ex none mNoPart := by
  refine PO.imp po_none fun σ H Q q => ?_
  obtain ⟨ι, h, env, rel, re, po⟩ := q
  exact po_ok (α := Option Int) (β := Option Int) rel rfl po
theorem fo_some (ha : FE X W ex a ma) : FO X W ex (some a) (mPart ma) := by
  refine PO.imp (po_some ha) fun σ H Q q => ?_
  obtain ⟨ι, h, env, rel, re, po⟩ := q
  refine ⟨ι, h, env, rel, re, post_bind po fun x h1 ι1 H1 v eq1 p1 k1 rel1 rv1 po1 => ?_⟩
  cases x <;> (try exact po1.elim)
  simp only [RV] at rv1
  exact ⟨_, rv1, po_ok (α := Option Int) (β := Option Int) rel1 rfl po1⟩
def cutD (xs : List D) (lo hi : Option Int) : List D := (xs.drop (HT.sIx xs.length 0 lo)).take (HT.sIx xs.length xs.length hi - HT.sIx xs.length 0 lo)
theorem RVs.cut {G : Wo} {ι : List Addr} {H : Hp} {xs : List D} {vs : List V} (r : RVs G ι H xs vs) (lo hi : Option Int) : RVs G ι H (cutD xs lo hi) (cutV vs lo hi) := by
  unfold cutD cutV
  rw [RVs.length r]
  exact (r.drop _).take _
def fSl (x : D) (lo hi : Option Int) (h : M) : Res D := match x with
  | .str z => if z.length ≤ sizeLine then .ok (.str (cutS z lo hi)) h else .stuck
  | .tup xs => .ok (.tup (cutD xs lo hi)) h
  | .ct xs => if HT.sIx xs.length 0 lo = 0 ∧ HT.sIx xs.length xs.length hi = xs.length then .ok (.ct xs) h else .ok (.tup (cutD xs lo hi)) h
  | x => match lstOf h x with
    | some xs => .ok (.loc h.length) (h ++ [.lst (cutD xs lo hi)])
    | none => .stuck
def mSl (ma : ME) (lo hi : MO) : ME := fun env h => (ma env h).bind fun x h1 => (lo env h1).bind fun l h2 => (hi env h2).bind fun u h3 => fSl x l u h3
theorem fe_slice {lo hi : Option Expr} {ml mh : MO} {p2 : Pos} (ha : FE X W ex a ma) (hl : FO X W ex lo ml) (hh : FO X W ex hi mh) : FE X W ex (.Subscript a (.Slice lo hi none p2) pos) (mSl ma ml mh) := by
  refine PE.imp (pe_slice (sl_list.or (sl_tupA.or sl_str)) ha hl hh) fun σ H Q q => ?_
  obtain ⟨ι, h, env, rel, re, po⟩ := q
  refine ⟨ι, h, env, rel, re, post_bind po fun x h1 ι1 H1 v eq1 p1 k1 rel1 rv1 po1 => ?_⟩
  refine ⟨ι1, h1, env, rel1, re.mono p1 k1, post_bind (α := Option Int) po1 fun l h2 ι2 H2 l' eq2 p2 k2 rel2 rv2 po2 => ?_⟩
  cases rv2
  have rv1 := RV.mono p2 k2 _ _ rv1
  refine ⟨ι2, h2, env, rel2, (re.mono p1 k1).mono p2 k2, post_bind (α := Option Int) po2 fun u h3 ι3 H3 u' eq3 p3 k3 rel3 rv3 po3 => ?_⟩
  cases rv3
  have rv1 := RV.mono p3 k3 _ _ rv1
  have viaL : ∀ xs, lstOf h3 x = some xs → Post (wo X) (fun ι H d v => RV (wo X) ι H d v) (fun c d H' => W c d σ H') ι3 H3 (.ok (.loc h3.length) (h3 ++ [.lst (cutD xs l u)])) Q → rSlL X.K v l u H3 Q := fun xs e1 po => by
    obtain ⟨a, ws, rfl, s, r⟩ := lstOf_sq rel3 rv1 e1
    exact ⟨a, ws, rfl, s, fun p hp => po_lst rel3 (r.cut l u) po p hp⟩
  cases x with
  | str z =>
    simp only [fSl] at po3
    split at po3
    · rename_i hz
      simp only [RV] at rv1; subst rv1
      exact .inr (.inr ⟨z, rfl, hz, po_ok rel3 (by simp [RV]) po3⟩)
    · exact po3.elim
  | tup xs =>
    simp only [fSl] at po3
    obtain ⟨a, ws, rfl, s, r⟩ := tupOf_sq (xs := xs) rv1 rfl
    refine .inr (.inl ⟨a, ws, rfl, s, fun hw => ?_, fun hw p hp => po_tup rel3 (r.cut l u) po3 p hp⟩)
    have e : cutD xs l u = xs := by
      unfold cutD
      rw [RVs.length r, hw.1, hw.2, List.drop_zero, Nat.sub_zero, ← RVs.length r]
      exact List.take_length
    rw [e] at po3
    exact po_ok rel3 rv1 po3
  | ct xs =>
    simp only [fSl] at po3
    obtain ⟨a, ws, rfl, s, r⟩ := tupOf_sq (xs := xs) rv1 rfl
    rw [RVs.length r] at po3
    refine .inr (.inl ⟨a, ws, rfl, s, fun hw => ?_, fun hw p hp => ?_⟩)
    · rw [if_pos hw] at po3
      exact po_ok rel3 rv1 po3
    · rw [if_neg hw] at po3
      exact po_tup rel3 (r.cut l u) po3 p hp
  | cl xs => simp only [fSl, lstOf_cl] at po3; exact .inl (viaL xs rfl po3)
  | loc k =>
    simp only [fSl] at po3
    split at po3
    · rename_i xs e1
      exact .inl (viaL xs e1 po3)
    · exact po3.elim
  | _ => simp [fSl, lstOf, Post] at po3

/-! ### in -/
def flatD : D → Bool
  | .non => true
  | .bl _ => true
  | .int _ => true
  | .str _ => true
  | _ => false
def eqF : D → D → Bool
  | .non, .non => true
  | .bl a, .bl b => a == b
  | .bl a, .int b => (if a then 1 else 0) == b
  | .int a, .bl b => a == (if b then 1 else 0)
  | .int a, .int b => a == b
  | .str a, .str b => a == b
  | _, _ => false
theorem flatD_ok {G : Wo} {ι : List Addr} {H : Hp} {d : D} {v : V} (r : RV G ι H d v) (h : flatD d = true) : flatV v = true := by
  cases d <;> simp only [flatD, reduceCtorEq] at h <;> (simp only [RV] at r; subst r; rfl)
theorem flatDs_ok {G : Wo} {ι : List Addr} {H : Hp} : ∀ {xs : List D} {vs : List V}, RVs G ι H xs vs → xs.all flatD = true → vs.all flatV = true
  | [], vs, r, _ => by simp only [RVs] at r; subst r; rfl
  | x :: xs, vs, r, h => by
    simp only [RVs] at r
    obtain ⟨v, q, rfl, r1, r2⟩ := r
    simp only [List.all_cons, Bool.and_eq_true] at h ⊢
    exact ⟨flatD_ok r1 h.1, flatDs_ok r2 h.2⟩
theorem eqF_ok {G : Wo} {ι : List Addr} {H : Hp} {d f : D} {v u : V} (r : RV G ι H d v) (r2 : RV G ι H f u) (h : flatD d = true) (h2 : flatD f = true) : eqV v u = eqF d f := by
  cases d <;> simp only [flatD, reduceCtorEq] at h <;> cases f <;> simp only [flatD, reduceCtorEq] at h2 <;> (simp only [RV] at r r2; subst r; subst r2; rfl)
theorem inF_ok {G : Wo} {ι : List Addr} {H : Hp} {d : D} {v : V} (r : RV G ι H d v) (h : flatD d = true) : ∀ {xs : List D} {vs : List V}, RVs G ι H xs vs → xs.all flatD = true → inV v vs = xs.any fun y => eqF y d
  | [], vs, q, _ => by simp only [RVs] at q; subst q; rfl
  | x :: xs, vs, q, hx => by
    simp only [RVs] at q
    obtain ⟨w, q, rfl, r1, r2⟩ := q
    simp only [List.all_cons, Bool.and_eq_true] at hx
    have ih := inF_ok r h r2 hx.2
    unfold inV at ih ⊢
    simp only [List.any_cons, ih, eqF_ok r1 r hx.1 h]
def inD (h : M) (x y : D) : Option Bool := match x, y with
  | .str a, .str b => some (!(Builtin.Str.occurrences b a 0 b.length 1).isEmpty)
  | x, y => match seqOf h y with
    | some xs => if flatD x = true ∧ xs.all flatD = true then some (xs.any fun z => eqF z x) else none
    | none => (dGet h y x).map (·.isSome)
def rInA (K : PySem.W.Frag) (neg : Bool) : R2 := fun x y H Q => rIn K neg x y H Q ∨ ∃ i j, x = .str i ∧ y = .str j ∧ Q (.bl (if neg then !(!(Builtin.Str.occurrences j i 0 j.length 1).isEmpty) else !(Builtin.Str.occurrences j i 0 j.length 1).isEmpty)) H
def rDIn (neg : Bool) : R2 := fun y x H Q => ∃ a ov, x = .ref a ∧ DGet H a y ov ∧ Q (.bl (if neg then !ov.isSome else ov.isSome)) H
def fInN (neg : Bool) (x y : D) (h : M) : Res D := match inD h x y with | some b => .ok (.bl (if neg then !b else b)) h | none => .stuck
theorem inD_at {G : Wo} (neg : Bool) (x y : D) (h : M) : At2 G (rDIn neg) (fInN neg) x y h ∨ At2 G (rInA G.K neg) (fInN neg) x y h := by
  cases e : inD h x y with
  | none => exact .inl fun E ι H v u Q rel rx ry po => by unfold fInN at po; rw [e] at po; exact po.elim
  | some b =>
    have fin : ∀ {E : WX'} {ι : List Addr} {H : Hp} {Q : VK}, Rel G ι H h → Post G (fun ι H d v => RV G ι H d v) E ι H (fInN neg x y h) Q → Q (.bl (if neg then !b else b)) H := fun {E ι H Q} rel po => by
      unfold fInN at po; rw [e] at po
      exact po_ok (v := V.bl (if neg then !b else b)) rel (by simp [RV]) po
    have e0 := e
    unfold inD at e
    split at e
    · cases e
      refine .inr fun E ι H v u Q rel rx ry po => ?_
      have q := fin rel po
      simp only [RV] at rx ry
      exact .inr ⟨_, _, rx, ry, q⟩
    · split at e
      · rename_i xs es
        split at e
        · rename_i hf
          cases e
          refine .inr fun E ι H v u Q rel rx ry po => ?_
          have q := fin rel po
          obtain ⟨a, ws, rfl, s, r⟩ := seqOf_sq rel ry es
          exact .inl ⟨a, ws, rfl, s, flatD_ok rx hf.1, flatDs_ok r hf.2, by rw [inF_ok rx hf.1 r hf.2]; exact q⟩
        · cases e
      · simp only [Option.map_eq_some_iff] at e
        obtain ⟨ro, er, rfl⟩ := e
        refine .inl fun E ι H v u Q rel rx ry po => ?_
        have q := fin rel po
        obtain ⟨a, rv, rfl, _, g, g1, g2⟩ := dGet_ok rel ry rx er
        have : rv.isSome = ro.isSome := by
          cases ro with
          | none => rw [g2 rfl]; rfl
          | some d => obtain ⟨w, rfl, _⟩ := g1 d rfl; rfl
        rw [← this] at q
        exact ⟨a, rv, rfl, g, q⟩
def fIn := fInN false
def fNotIn := fInN true
theorem fc_in {k : Nat} (hr : Room k X.A) (ha : FE X W ex a ma) (hb : FE X W ex b mb) : FC X W ex .In a b (m2 fIn ma mb) := by
  have P1 : PC X .In a b (tOp (rDIn false) (rdE (wo X) ex W ma) (rdE (wo X) ex W mb)) := PC.imp (pc_din (hu_of hr) ha hb) fun σ H Q q => q
  have P2 : PC X .In a b (tOp (rInA X.K false) (rdE (wo X) ex W ma) (rdE (wo X) ex W mb)) := pc_of (op_in_seq.or op_in_str) ha hb
  exact PC.imp (PC.or P1 P2) fun σ H Q q => rd_op_or (inD_at false) q
theorem fc_notIn {k : Nat} (hr : Room k X.A) (ha : FE X W ex a ma) (hb : FE X W ex b mb) : FC X W ex .NotIn a b (m2 fNotIn ma mb) := by
  have P1 : PC X .NotIn a b (tOp (rDIn true) (rdE (wo X) ex W ma) (rdE (wo X) ex W mb)) := PC.imp (pc_dnotin (hu_of hr) ha hb) fun σ H Q q => q
  have P2 : PC X .NotIn a b (tOp (rInA X.K true) (rdE (wo X) ex W ma) (rdE (wo X) ex W mb)) := pc_of (op_notIn_seq.or op_notIn_str) ha hb
  exact PC.imp (PC.or P1 P2) fun σ H Q q => rd_op_or (inD_at true) q

/-! ### methods of built-in types -/
/-- what is asked of the receiver ahead of the arguments -/
def isTyp (h : M) (T : String) : D → Bool
  | .str _ => T == "str"
  | .cl _ => T == "list"
  | .loc l => match h[l]? with
    | some (.lst _) => T == "list"
    | some (.dK _) => T == "dict"
    | some (.dT _) => T == "dict"
    | _ => false
  | _ => false
theorem isTyp_ok {G : Wo} {ι : List Addr} {H : Hp} {h : M} {T : String} {d : D} {v : V} (rel : Rel G ι H h) (r : RV G ι H d v) (e : isTyp h T d = true) : tyV G.K T v H := by
  cases d with
  | str x => simp only [isTyp, beq_iff_eq] at e; subst e; simp only [RV] at r; subst r; exact rfl
  | cl xs =>
    simp only [isTyp, beq_iff_eq] at e; subst e
    obtain ⟨a, ws, rfl, s, _⟩ := lstOf_sq (xs := xs) rel r rfl
    exact .inl ⟨rfl, ws, s⟩
  | loc l =>
    simp only [isTyp] at e
    split at e
    · rename_i e1
      simp only [beq_iff_eq] at e; subst e
      obtain ⟨a, ws, rfl, _, q, _⟩ := at_lst rel r e1
      exact .inl ⟨rfl, ws, SqL.of q⟩
    · rename_i e1
      simp only [beq_iff_eq] at e; subst e
      obtain ⟨a, ws, rfl, _, q, _⟩ := at_dK rel r e1
      exact .inr (.inr (.inl ⟨rfl, .inl ⟨ws, q⟩⟩))
    · rename_i e1
      simp only [beq_iff_eq] at e; subst e
      obtain ⟨a, ws, rfl, _, q, _⟩ := at_dT rel r e1
      exact .inr (.inr (.inl ⟨rfl, .inr ⟨ws, q⟩⟩))
    · cases e
  | _ => simp [isTyp] at e
def AbM (G : Wo) (r : V → List V → Hp → VK → Prop) (f : D → List D → M → Res D) : Prop := ∀ (E : WX') ι H h x xs v vs (Q : VK), Rel G ι H h → RV G ι H x v → RVs G ι H xs vs → Post G (fun ι H d v => RV G ι H d v) E ι H (f x xs h) Q → r v vs H Q
def mBM (T : String) (f : D → List D → M → Res D) (mo : ME) (mas : MA) : ME := fun env h => (mo env h).bind fun x h1 => if isTyp h1 T x = true then (mas env h1).bind fun xs h2 => f x xs h2 else .stuck
variable {mo : ME} {name : Str} {apos cpos : Pos} {T id : String} {r : V → List V → Hp → VK → Prop} {f : D → List D → M → Res D}
theorem fe_bm (pa : PlainAttrs T) (slot : Slot T name id) (hty : typeOf (.builtin id) = pure (.type "method_descriptor")) (hm : MtR X id r) (hf : AbM (wo X) r f) (ho : FE X W ex o mo) (hs : FA X W ex (e :: es) mas)
    (hbase : attributeBase o name X.env (eval o X.env) = eval o X.env := by rfl)
    (hfew : ((backTo cpos (starEach (e :: es) X.env)).all (fun x => !x.1) && (backToKw cpos (keywordEach [] X.env)).all (fun x => x.1.isSome)
      && decide ((e :: es).length + ([] : List Keyword).length + (if ([] : List Keyword).isEmpty then 0 else 1) < 30)) = true := by rfl)
    (hline : (apos.endLine == cpos.line) = true := by rfl) (hst : starEach (e :: es) X.env = (false, eval e X.env) :: starEach es X.env := by rfl) (hplain : (backTo cpos (starEach es X.env)).any (·.1) = false := by rfl) :
    FE X W ex (.Call (.Attribute o name apos) (e :: es) [] cpos) (mBM T f mo mas) := by
  refine PE.imp (pe_bm pa slot hty hm ho hs hbase hfew hline hst hplain) fun σ H Q q => ?_
  obtain ⟨ι, h, env, rel, re, po⟩ := q
  refine ⟨ι, h, env, rel, re, post_bind po fun x h1 ι1 H1 v eq1 p1 k1 rel1 rv1 po1 => ?_⟩
  split at po1
  case isFalse => exact po1.elim
  rename_i ht
  refine ⟨isTyp_ok rel1 rv1 ht, ι1, h1, env, rel1, re.mono p1 k1, post_bind po1 fun xs h2 ι2 H2 vs eq2 p2 k2 rel2 rv2 po2 => ?_⟩
  exact hf _ ι2 H2 h2 x xs v vs Q rel2 (RV.mono p2 k2 _ _ rv1) rv2 po2
theorem fe_bm0 (pa : PlainAttrs T) (slot : Slot T name id) (hty : typeOf (.builtin id) = pure (.type "method_descriptor")) (hm : MtR X id r) (hf : AbM (wo X) r f) (ho : FE X W ex o mo)
    (hbase : attributeBase o name X.env (eval o X.env) = eval o X.env := by rfl) (hline : (apos.endLine == cpos.line) = true := by rfl) : FE X W ex (.Call (.Attribute o name apos) [] [] cpos) (mBM T f mo mNil) := by
  refine PE.imp (pe_bm0 pa slot hty hm ho hbase hline) fun σ H Q q => ?_
  obtain ⟨ι, h, env, rel, re, po⟩ := q
  refine ⟨ι, h, env, rel, re, post_bind po fun x h1 ι1 H1 v eq1 p1 k1 rel1 rv1 po1 => ?_⟩
  split at po1
  case isFalse => exact po1.elim
  rename_i ht
  exact ⟨isTyp_ok rel1 rv1 ht, hf _ ι1 H1 h1 x [] v [] Q rel1 rv1 RVs.nil po1⟩
/-- a list changed -/
theorem po_wr {G : Wo} {E : WX'} {ι : List Addr} {H : Hp} {h : M} {l : Nat} {a : Addr} {xs : List D} {vs : List V} {d : D} {v : V} {Q : VK} (rel : Rel G ι H h) (ea : ι[l]? = some a) (r : RVs G ι H xs vs)
    (rd : ∀ H', Keep H H' → RV G ι H' d v) (po : Post G (fun ι H d v => RV G ι H d v) E ι H (.ok d (h.set l (.lst xs))) Q) : Q v (upd H a (.lst vs)) := by
  have k : Keep H (upd H a (.lst vs)) := by
    obtain ⟨u0, e0, nf, mu⟩ := rel.tracked ea
    exact fun b o' eb f => by
      have : b ≠ a := fun z => by rw [z, e0] at eb; cases eb; exact nf f
      rw [upd_ne this]; exact eb
  have w := rel.write (o := .lst xs) (u := .lst vs) ea ⟨vs, upd_same, RVs.mono (List.prefix_refl _) k _ _ r⟩
  exact po ι _ v (List.prefix_refl _) k w.1 (rd _ k)
def fAppend (x : D) (xs : List D) (h : M) : Res D := match x, xs with
  | .loc l, [y] => match h[l]? with
    | some (.lst ys) => if ys.length < sizeLine then .ok .non (h.set l (.lst (ys ++ [y]))) else .stuck
    | _ => .stuck
  | _, _ => .stuck
theorem fe_append (ho : FE X W ex o mo) (hs : FA X W ex (e :: es) mas) (hbase : attributeBase o "append" X.env (eval o X.env) = eval o X.env := by rfl)
    (hfew : ((backTo cpos (starEach (e :: es) X.env)).all (fun x => !x.1) && (backToKw cpos (keywordEach [] X.env)).all (fun x => x.1.isSome)
      && decide ((e :: es).length + ([] : List Keyword).length + (if ([] : List Keyword).isEmpty then 0 else 1) < 30)) = true := by rfl)
    (hline : (apos.endLine == cpos.line) = true := by rfl) (hst : starEach (e :: es) X.env = (false, eval e X.env) :: starEach es X.env := by rfl) (hplain : (backTo cpos (starEach es X.env)).any (·.1) = false := by rfl) :
    FE X W ex (.Call (.Attribute o "append" apos) (e :: es) [] cpos) (mBM "list" fAppend mo mas) := by
  refine fe_bm PySem.F.plainAttrs_list PySem.F.slot_list_append PySem.F.type_list_append mt_append (fun E ι H h x xs v vs Q rel rx rxs po => ?_) ho hs hbase hfew hline hst hplain
  unfold fAppend at po
  split at po
  case h_2 => exact po.elim
  split at po
  case h_2 => exact po.elim
  rename_i ys e1
  split at po
  case isFalse => exact po.elim
  rename_i hz
  obtain ⟨w, rfl, rw'⟩ := rxs.eq1
  obtain ⟨a, ws, rfl, ea, q, r⟩ := at_lst rel rx e1
  have hl := RVs.length r
  exact ⟨a, ws, w, rfl, rfl, q, by omega, po_wr rel ea (r.append (RVs.one rw')) (fun _ _ => by simp [RV]) po⟩
end
/-- extend by a tuple -/
theorem extend_by_tup (l : Addr) (xs : Array Value) (k : Nat) (b : Addr) (ys : Array Value) (n2 : Nat) (dd : Option Addr) (sl : Array (Option Value)) (hs0 : ¬(!xs.isEmpty && Builtin.List.listTooLong (xs.size + ys.size)) = true) (hs1 : xs.size ≤ sizeLine) (hs2 : xs.size + ys.size ≤ sizeLine + 1) :
    Meets (Builtin.«list.extend» ⟨[.ref l, .ref b], []⟩) (fun _ R s => s.heap.get? l = some { cls := .type "list", dict := none, data := .seq xs k, slots := #[] } ∧ s.heap.get? b = some ⟨.type "tuple", dd, .seq ys n2, sl⟩ ∧
      R (.ok (.ret Value.none)) { s with heap := s.heap.update l (Obj.mapSeq fun x => x ++ ys), toks := s.toks }) :=
  .of_wp fun prog w A R s h => by
    obtain ⟨hp, g, d, tk, os⟩ := s
    obtain ⟨hl, hb, h⟩ := h
    have f1 := AutoSeq1.idx_int
    have f2 := AutoSeq1.sub_tuple_tuple; have f3 := AutoSeq1.sub_list_list; have f4 := AutoSeq1.sub_tuple_list; have f5 := AutoSeq1.sub_list_tuple
    have hz' : (xs ++ ys).size ≤ sizeLine + 1 := by rw [Array.size_append]; exact hs2
    wp_walk using (wpAny_updateSeq hl rfl (hz := hs1) (_hz' := hz')), AutoSeq1.wpAny_loadPart' hl, AutoSeq1.wpAny_loadPart' hb
    exact ⟨_, rfl, h⟩
section
variable {X : Cx} {W : WX} {ex : Ex} {e a b i o : Expr} {es : List Expr} {ma mb mc : ME} {mas : MA} {pos : Pos}
variable {mo : ME} {name : Str} {apos cpos : Pos} {T id : String} {r : V → List V → Hp → VK → Prop} {f : D → List D → M → Res D}
theorem mt_extendT : MtM X "list.extend" (fun x vs H Q => ∃ l b xs zs, x = .ref l ∧ vs = [.ref b] ∧ H l = some (.lst xs) ∧ SqT X.K H b zs ∧ xs.length + zs.length ≤ sizeLine ∧ Q .non (upd H l (.lst (xs ++ zs)))) := by
  intro pins s σ H x vs v us Q I rx rv h
  obtain ⟨l, b, xs, zs, rfl, rfl, hH, hB, hz, q⟩ := h
  cases rx
  obtain ⟨u, rfl, ru⟩ := rv.one
  cases ru
  obtain ⟨z, its, n, r, hl, e⟩ := I.lstM hH
  obtain ⟨its2, r2, ⟨ob, e2, c2, n2, d2⟩, hz2⟩ := I.tuple hB
  have hl2 := r2.length
  obtain ⟨oc, od, dt, sl⟩ := ob
  simp only at c2 d2
  subst c2 d2
  have hsz : its.toArray.size + its2.toArray.size ≤ sizeLine := by rw [List.size_toArray, List.size_toArray]; omega
  have hlong : ¬ (!its.toArray.isEmpty && Builtin.List.listTooLong (its.toArray.size + its2.toArray.size)) = true := by
    rw [notLongL hsz, Bool.and_false]
    exact Bool.false_ne_true
  refine call_meets F.slot_list_extend ⟨_, e, rfl⟩ F.entry_list_extend (F.args_list_extend_2 _ _)
    (extend_by_tup l its.toArray n b its2.toArray n2 _ _ hlong (by rw [List.size_toArray]; omega) (by omega)) ⟨e, e2, ?_⟩
  refine ⟨.non, _, I.lset (its' := its ++ its2) hH e (by simp) (r.append r2) ?_, rfl, q⟩
  rw [List.length_append]
  exact hz
theorem MtR_or {r r' : V → List V → Hp → VK → Prop} (h : MtR X id r) (h' : MtR X id r') : MtR X id (fun x xs H Q => r x xs H Q ∨ r' x xs H Q) := by
  intro pins s σ H x xs v us Q I rx rv q
  rcases q with q | q
  · exact h pins s σ H x xs v us Q I rx rv q
  · exact h' pins s σ H x xs v us Q I rx rv q
def fExtend (x : D) (xs : List D) (h : M) : Res D := match x, xs with
  | .loc l, [y] => match h[l]? with
    | some (.lst ys) => match tupOf y with
      | some zs => if ys.length + zs.length ≤ sizeLine then .ok .non (h.set l (.lst (ys ++ zs))) else .stuck
      | none => match y with
        | .loc k => match h[k]? with
          | some (.lst zs) => if ys.length + zs.length ≤ sizeLine then .ok .non (h.set l (.lst (ys ++ zs))) else .stuck
          | _ => .stuck
        | _ => .stuck
    | _ => .stuck
  | _, _ => .stuck
theorem fe_extend (ho : FE X W ex o mo) (hs : FA X W ex (e :: es) mas) (hbase : attributeBase o "extend" X.env (eval o X.env) = eval o X.env := by rfl)
    (hfew : ((backTo cpos (starEach (e :: es) X.env)).all (fun x => !x.1) && (backToKw cpos (keywordEach [] X.env)).all (fun x => x.1.isSome)
      && decide ((e :: es).length + ([] : List Keyword).length + (if ([] : List Keyword).isEmpty then 0 else 1) < 30)) = true := by rfl)
    (hline : (apos.endLine == cpos.line) = true := by rfl) (hst : starEach (e :: es) X.env = (false, eval e X.env) :: starEach es X.env := by rfl) (hplain : (backTo cpos (starEach es X.env)).any (·.1) = false := by rfl) :
    FE X W ex (.Call (.Attribute o "extend" apos) (e :: es) [] cpos) (mBM "list" fExtend mo mas) := by
  refine fe_bm PySem.F.plainAttrs_list PySem.F.slot_list_extend PySem.F.type_list_extend (MtR_or mt_extend mt_extendT) (fun E ι H h x xs v vs Q rel rx rxs po => ?_) ho hs hbase hfew hline hst hplain
  unfold fExtend at po
  split at po
  case h_2 => exact po.elim
  split at po
  case h_2 => exact po.elim
  rename_i ys e1
  obtain ⟨w, rfl, rw'⟩ := rxs.eq1
  obtain ⟨a, ws, rfl, ea, q, r⟩ := at_lst rel rx e1
  have hl := RVs.length r
  split at po
  · rename_i zs ez
    split at po
    case isFalse => exact po.elim
    rename_i hz
    obtain ⟨b, us, rfl, s, r2⟩ := tupOf_sq (G := wo X) rw' ez
    have hl2 := RVs.length r2
    exact .inr ⟨a, b, ws, us, rfl, rfl, q, s, by omega, po_wr rel ea (r.append r2) (fun _ _ => by simp [RV]) po⟩
  · split at po
    · split at po
      · rename_i zs ez
        split at po
        case isFalse => exact po.elim
        rename_i hz
        obtain ⟨b, us, rfl, _, s, r2⟩ := at_lst rel rw' ez
        have hl2 := RVs.length r2
        exact .inl ⟨a, b, ws, us, rfl, rfl, q, s, by omega, po_wr rel ea (r.append r2) (fun _ _ => by simp [RV]) po⟩
      · exact po.elim
    · exact po.elim
end
end LF
set_option Elab.async false
set_option linter.all false
set_option maxRecDepth 100000
set_option maxHeartbeats 4000000
/-! LF5: defs, statements, loops. -/
namespace LF
open PySem PySem.Spec L2
open PyProof.Rows hiding St

/-! ### defs -/
def spF (G : Wo) (n : Nat) (m : List D → M → Res D) : Sp := fun vs H Q E => vs.length = n ∧ ∃ ι h ds, Rel G ι H h ∧ RVs G ι H ds vs ∧ Post G (fun ι H d v => RV G ι H d v) E ι H (m ds h) Q
structure Def (P : Program) (w : World) (K : PySem.W.Frag) (mg : Str → Option Value) (base : Heap) (x : Str) (k n : Nat) (m : List D → M → Res D) : Prop where
  ex : ∃ f fd ps, ps.length = n ∧ mg x = some (.ref f) ∧ PySem.W.keepIn K (.ref f) = true ∧ Binds K fd ps [] ∧ FnOk P w K mg base (L2.CX P w) k f fd ps (spF ⟨K, mg⟩ n m)
theorem Def.mono {P : Program} {w : World} {K : PySem.W.Frag} {mg : Str → Option Value} {base : Heap} {x : Str} {k k' n : Nat} {m : List D → M → Res D} (F : Def P w K mg base x k n m) (h : k ≤ k') : Def P w K mg base x k' n m := by
  obtain ⟨f, fd, ps, h1, h2, h3, h4, h5⟩ := F.ex
  exact ⟨f, fd, ps, h1, h2, h3, h4, h5.mono h⟩
def mFix (n : Nat) (m : List D → M → Res D) : List D → M → Res D := fun ds h => if ds.length = n then m ds h else .stuck
def mFn (N n : Nat) (mb : MS) : List D → M → Res D := fun ds h =>
  match mb (ds.map .va ++ List.replicate (N - n) .no) h with
  | .nx _ h => .ok .non h
  | .rt d h => .ok d h
  | .exc x ns xs _ h => .exc x ns xs h
  | _ => .stuck
theorem REn.start {G : Wo} {ι : List Addr} {H : Hp} {N : List Str} {ds : List D} {vs : List V} (r : RVs G ι H ds vs) : REn G none ι H (ds.map .va ++ List.replicate (N.length - vs.length) .no) (start N vs) := by
  have hl := RVs.length r
  refine ⟨by simp [L2.start, hl], fun i d e => ?_, fun i e => ?_, fun c e => nomatch e⟩
  · by_cases hi : i < ds.length
    · rw [List.getElem?_append_left (by simpa using hi), List.getElem?_map] at e
      simp only [Option.map_eq_some_iff] at e
      obtain ⟨d', e1, e2⟩ := e
      cases e2
      obtain ⟨v, ev, rv⟩ := r.get e1
      refine ⟨v, ?_, rv⟩
      unfold L2.start
      rw [List.getElem?_append_left (by simp; omega), List.getElem?_map, ev]; rfl
    · rw [List.getElem?_append_right (by simpa using Nat.le_of_not_lt hi), List.getElem?_replicate] at e
      split at e <;> cases e
  · by_cases hi : i < ds.length
    · rw [List.getElem?_append_left (by simpa using hi), List.getElem?_map] at e
      simp only [Option.map_eq_some_iff] at e
      obtain ⟨d', e1, e2⟩ := e
      cases e2
    · rw [List.getElem?_append_right (by simpa using Nat.le_of_not_lt hi), List.getElem?_replicate] at e
      split at e <;> cases e
theorem body_end {G : Wo} {N ps : List Str} {mb : MS} {vs : List V} {H : Hp} {Q : VK} {E : XK} (hsp : spF G ps.length (mFn N.length ps.length mb) vs H Q E) :
    rdS G none (fun c d _ H => E c d H) mb { nx := fun _ H' => Q .non H', rt := Q } (start N vs) H := by
  obtain ⟨hl, ι, h, ds, rel, r, po⟩ := hsp
  refine ⟨ι, h, _, rel, REn.start r, ?_⟩
  unfold mFn at po
  rw [hl]
  generalize mb (ds.map .va ++ List.replicate (N.length - ps.length) .no) h = z at po ⊢
  cases z with
  | nx env h' => exact fun ι' H' σ' p k rel' _ => po ι' H' .non p k rel' (by simp [RV])
  | rt d h' => exact po
  | exc x ns xs env h' => exact fun ι' H' σ' C d p k rel' _ g xf => po ι' H' C d p k rel' g xf
  | bk _ _ => exact po.elim
  | ct _ _ => exact po.elim
  | stuck => exact po.elim
theorem def_of {P : Program} {w : World} {K : PySem.W.Frag} {mg : Str → Option Value} {base : Heap} {x qual : Str} {st : Stmt} {f : Addr} {fd : FuncData} {N ps : List Str} {k : Nat} {mb : MS} (F : Fun K x qual st f fd) (S : FnScope N ps (defScope st)) (gx : mg x = some (.ref f)) (hb : Binds K fd ps [])
    (body : ∀ (cdv : Value) (A : Around) (outer : List Env) (s : Shared) (H : Hp) (E : XK), Room k (A.deeper (envOfC qual (defScope st) s.heap.objs.size f cdv)) →
      FSs (cxOf (L2.CX P w) P w K mg base N qual (defScope st) f cdv A outer s H E) (fun c d _ H => E c d H) none (defBody st) mb) : Def P w K mg base x (k + 1) ps.length (mFn N.length ps.length mb) :=
  ⟨f, fd, ps, rfl, gx, F.kp, hb, F.okX S (fun vs H Q E h => h.1) fun cdv A outer s H vs Q E hr hsp => ⟨_, body cdv A outer s H E hr, body_end hsp⟩⟩

section
variable {X : Cx} {W : WX} {ex : Ex} {e a b i o : Expr} {es : List Expr} {ma mb mc me : ME} {mas : MA} {pos pos' p : Pos} {x : Str} {k n : Nat} {m : List D → M → Res D}
theorem fe_call (F : Def X.prog X.w X.K X.mg X.base x k n m) (tk : Takes X W) (hr : Room k X.A) (hs : FA X W ex (e :: es) mas) (hg : Gl X x := by rfl) (hdb : (x == ("__debug__" : Str)) = false := by decide)
    (he : starEach (e :: es) X.env = (false, eval e X.env) :: starEach es X.env := by rfl) (hpl : (backTo pos (starEach es X.env)).any (·.1) = false := by rfl) : FE X W ex (.Call (.Name x p) (e :: es) [] pos) (mL (mFix n m) mas) := by
  obtain ⟨f, fd, ps, h1, h2, h3, h4, h5⟩ := F.ex
  refine PE.imp (pe_callS h5 hr hg h2 h3 h4 (passAt tk) hs hdb he hpl) fun σ H Q q => ?_
  obtain ⟨ι, h, env, rel, re, po⟩ := q
  refine ⟨ι, h, env, rel, re, post_bind po fun xs h1 ι1 H1 vs eq1 p1 k1 rel1 rv1 po1 => ?_⟩
  unfold mFix at po1
  split at po1
  case isFalse => exact po1.elim
  rename_i hl
  exact ⟨by rw [← RVs.length rv1]; exact hl, ι1, h1, xs, rel1, rv1, po1⟩
theorem fe_call0 (F : Def X.prog X.w X.K X.mg X.base x k n m) (tk : Takes X W) (hr : Room k X.A) (hn : n = 0) (hg : Gl X x := by rfl) (hdb : (x == ("__debug__" : Str)) = false := by decide) : FE X W ex (.Call (.Name x p) [] [] pos) (mL m mNil) := by
  obtain ⟨f, fd, ps, h1, h2, h3, h4, h5⟩ := F.ex
  have P0 : PE X (.Call (.Name x p) [] [] pos) (fun σ H Q => spF ⟨X.K, X.mg⟩ n m [] H Q (WE W σ)) := by
    refine ⟨fun pins s σ H Q I h => ?_⟩
    refine wpAny_Call_Name_kw (ld_glob I hg h2 ?_ hdb)
    exact PySem.W.callWith_K0 I.kIn h3 (run_fnS (E := WE W) (us := []) h5 hr h4 (passAt tk σ) I .nil h)
  refine PE.imp P0 fun σ H Q q => ?_
  obtain ⟨ι, h, env, rel, re, po⟩ := q
  exact ⟨hn.symm, ι, h, [], rel, RVs.nil, po⟩

/-! ### small statements -/
def SR.of {α : Type} (r : Res α) (env : En) (k : α → M → SR) : SR :=
  match r with
  | .ok a h => k a h
  | .exc x ns vs h => .exc x ns vs env h
  | .stuck => .stuck
@[simp] theorem of_ok {α : Type} {a : α} {h : M} {env : En} {k : α → M → SR} : SR.of (.ok a h) env k = k a h := (rfl)
@[simp] theorem of_exc {α : Type} {x ns vs} {h : M} {env : En} {k : α → M → SR} : SR.of (.exc x ns vs h) env k = .exc x ns vs env h := (rfl)
@[simp] theorem of_stuck {α : Type} {env : En} {k : α → M → SR} : SR.of (.stuck : Res α) env k = .stuck := (rfl)
theorem post_of {α β : Type} {G : Wo} {B : List Addr → Hp → α → β → Prop} {ι : List Addr} {H : Hp} {r : Res α} {env : En} {σ : St} {k : α → M → SR} {D : Ends} {Q : β → Hp → Prop} (re : REn G ex ι H env σ)
    (h : PostS G ex W ι H (SR.of r env k) D) (hk : ∀ d h1 ι1 H1 v, r = .ok d h1 → ι <+: ι1 → Keep H H1 → Rel G ι1 H1 h1 → B ι1 H1 d v → PostS G ex W ι1 H1 (k d h1) D → Q v H1) : Post G B (fun c d H' => W c d σ H') ι H r Q := by
  cases r with
  | ok d h1 => exact fun ι1 H1 v p kk rel b => hk d h1 ι1 H1 v rfl p kk rel b (PostS.mono p kk h)
  | exc x ns xs h1 => exact fun ι1 H1 C d p kk rel g xf => h ι1 H1 σ C d p kk rel (re.mono p kk) g xf
  | stuck => exact h
theorem ps_nx {G : Wo} {ι : List Addr} {H : Hp} {env : En} {σ : St} {h : M} {D : Ends} (rel : Rel G ι H h) (re : REn G ex ι H env σ) (po : PostS G ex W ι H (.nx env h) D) : D.nx σ H := po ι H σ (List.prefix_refl _) (Keep.refl _) rel re
variable {st : Stmt} {rest body sa sb : List Stmt} {ms ms' msa msb : MS} {tc : MT} {c : Expr}
def mSkip : MS := fun env h => .nx env h
def mSeq (a b : MS) : MS := fun env h => match a env h with
  | .nx env' h' => b env' h'
  | r => r
theorem fs_nil : FSs X W ex [] mSkip := by
  refine PSs.imp pss_nil fun D σ H q => ?_
  obtain ⟨ι, h, env, rel, re, po⟩ := q
  exact ps_nx rel re po
theorem fs_cons (h1 : FS X W ex st ms) (h2 : FSs X W ex rest ms') : FSs X W ex (st :: rest) (mSeq ms ms') := by
  refine PSs.imp (pss_cons h1 h2) fun D σ H q => ?_
  obtain ⟨ι, h, env, rel, re, po⟩ := q
  refine ⟨ι, h, env, rel, re, ?_⟩
  unfold mSeq at po
  cases e : ms env h <;> rw [e] at po
  case nx env' h' => exact fun ι' H' σ' p k rel' re' => ⟨ι', h', env', rel', re', PostS.mono p k po⟩
  all_goals exact po
theorem fs_one (h1 : FS X W ex st ms) : FSs X W ex [st] ms := pss_one h1
theorem fs_pass : FS X W ex (.Pass pos) mSkip := by
  refine PS.imp ps_pass fun D σ H q => ?_
  obtain ⟨ι, h, env, rel, re, po⟩ := q
  exact ps_nx rel re po
theorem fs_doc {z j} : FS X W ex (.Expr (.Constant (.str z) j pos) pos') mSkip := by
  refine PS.imp ps_doc fun D σ H q => ?_
  obtain ⟨ι, h, env, rel, re, po⟩ := q
  exact ps_nx rel re po
def mBreak : MS := fun env h => .bk env h
def mCont : MS := fun env h => .ct env h
theorem fs_break : FS X W ex (.Break pos) mBreak := by
  refine PS.imp ps_break fun D σ H q => ?_
  obtain ⟨ι, h, env, rel, re, po⟩ := q
  exact po ι H σ (List.prefix_refl _) (Keep.refl _) rel re
theorem fs_cont : FS X W ex (.Continue pos) mCont := by
  refine PS.imp ps_continue fun D σ H q => ?_
  obtain ⟨ι, h, env, rel, re, po⟩ := q
  exact po ι H σ (List.prefix_refl _) (Keep.refl _) rel re
def mSet (i : Nat) (me : ME) : MS := fun env h => SR.of (me env h) env fun d h => .nx (env.set i (.va d)) h
theorem fs_set {i : Nat} (hN : X.N.Nodup) (he : FE X W ex e me) (hi : X.N[i]? = some x := by rfl) (hx : Loc X.env.scope x := by first | exact Or.inl rfl | exact Or.inr rfl) (hs : swapsWith e (some (.Name x pos')) pos.line X.env = pure false := by rfl)
    (hf : X.fn x = true ∨ X.env.scope.names.lookup x = some .local := by first | exact .inl rfl | exact .inr rfl | assumption) : FS X W ex (.Assign [.Name x pos'] e pos) (mSet i me) := by
  refine PS.imp (ps_set hN hi hx he hs hf) fun D σ H q => ?_
  obtain ⟨ι, h, env, rel, re, po⟩ := q
  refine ⟨ι, h, env, rel, re, post_of re po fun d h1 ι1 H1 v eq1 p1 k1 rel1 rv1 po1 => ?_⟩
  exact ps_nx rel1 ((re.mono p1 k1).set i rv1) po1
def mDo (me : ME) : MS := fun env h => SR.of (me env h) env fun _ h => .nx env h
theorem fs_expr (he : FE X W ex e me) (hs : swapsWith e none pos.line X.env = pure false := by rfl) : FS X W ex (.Expr e pos) (mDo me) := by
  refine PS.imp (ps_expr he hs) fun D σ H q => ?_
  obtain ⟨ι, h, env, rel, re, po⟩ := q
  refine ⟨ι, h, env, rel, re, post_of re po fun d h1 ι1 H1 v eq1 p1 k1 rel1 rv1 po1 => ?_⟩
  exact ps_nx rel1 (re.mono p1 k1) po1
def mRet (me : ME) : MS := fun env h => SR.of (me env h) env fun d h => .rt d h
theorem fs_ret (he : FE X W ex e me) : FS X W ex (.Return (some e) pos) (mRet me) := by
  refine PS.imp (ps_ret he) fun D σ H q => ?_
  obtain ⟨ι, h, env, rel, re, po⟩ := q
  refine ⟨ι, h, env, rel, re, post_of re po fun d h1 ι1 H1 v eq1 p1 k1 rel1 rv1 po1 => ?_⟩
  exact po1 ι1 H1 v (List.prefix_refl _) (Keep.refl _) rel1 rv1
def mRetN : MS := fun env h => .rt .non h
theorem fs_retN : FS X W ex (.Return none pos) mRetN := by
  refine PS.imp ps_retN fun D σ H q => ?_
  obtain ⟨ι, h, env, rel, re, po⟩ := q
  exact po ι H .non (List.prefix_refl _) (Keep.refl _) rel (by simp [RV])
def mIfS (t : MT) (a b : MS) : MS := fun env h => SR.of (t env h) env fun b' h => if b' = true then a env h else b env h
theorem fs_if (hc : FT X W ex c tc) (ha : FSs X W ex sa msa) (hb : FSs X W ex sb msb) : FS X W ex (.If c sa sb pos) (mIfS tc msa msb) := by
  refine PS.imp (ps_if hc ha hb) fun D σ H q => ?_
  obtain ⟨ι, h, env, rel, re, po⟩ := q
  refine ⟨ι, h, env, rel, re, post_of re po fun d h1 ι1 H1 v eq1 p1 k1 rel1 rv1 po1 => ?_⟩
  cases rv1
  cases d with
  | true => exact iteT ⟨ι1, h1, env, rel1, re.mono p1 k1, po1⟩
  | false => exact iteF ⟨ι1, h1, env, rel1, re.mono p1 k1, po1⟩
/-- name op= e -/
def mAug (i : Nat) (f : D → D → M → Res D) (me : ME) : MS := fun env h => match env[i]? with
  | some (.va d) => SR.of ((me env h).bind fun y h1 => f d y h1) env fun z h2 => .nx (env.set i (.va z)) h2
  | _ => .stuck
theorem fs_aug {i : Nat} {op : Operator} {r : R2} {f : D → D → M → Res D} (ho : OpR X (inplaceOp op) r) (hf : Ab2 (wo X) r f) (hN : X.N.Nodup) (he : FE X W ex e me) (hi : X.N[i]? = some x := by rfl) (hx : Loc X.env.scope x := by first | exact Or.inl rfl | exact Or.inr rfl)
    (hfn : X.fn x = true ∨ X.env.scope.names.lookup x = some .local := by first | exact .inl rfl | exact .inr rfl | assumption) : FS X W ex (.AugAssign (.Name x pos') op e pos) (mAug i f me) := by
  refine PS.imp (ps_aug (ti := r) hN hi hx he ho hfn) fun D σ H q => ?_
  obtain ⟨ι, h, env, rel, re, po⟩ := q
  unfold mAug at po
  split at po
  case h_2 => exact po.elim
  rename_i d ed
  obtain ⟨v, ev, rv⟩ := re.at_ i d ed
  refine ⟨v, ev, ι, h, env, rel, re, ?_⟩
  have po' := post_of (σ := σ) (B := fun ι H d v => RV (wo X) ι H d v) (Q := fun z H2 => D.nx (σ.set i (some z)) H2) re po fun z h2 ι2 H2 zv eq2 p2 k2 rel2 rv2 po2 => ps_nx rel2 ((re.mono p2 k2).set i rv2) po2
  exact post_bind po' fun y h1 ι1 H1 u eq1 p1 k1 rel1 rv1 po1 => hf _ ι1 H1 h1 d y v u _ rel1 (RV.mono p1 k1 _ _ rv) rv1 po1
theorem fs_augadd {i : Nat} (hN : X.N.Nodup) (he : FE X W ex e me) (hi : X.N[i]? = some x := by rfl) (hx : Loc X.env.scope x := by first | exact Or.inl rfl | exact Or.inr rfl)
    (hfn : X.fn x = true ∨ X.env.scope.names.lookup x = some .local := by first | exact .inl rfl | exact .inr rfl | assumption) : FS X W ex (.AugAssign (.Name x pos') .Add e pos) (mAug i (fI (fun _ _ => True) fun i j => .int (i + j)) me) :=
  fs_aug iop_add (ab_I0 fun _ _ _ _ => by simp [RV]) hN he hi hx hfn
theorem fs_augsub {i : Nat} (hN : X.N.Nodup) (he : FE X W ex e me) (hi : X.N[i]? = some x := by rfl) (hx : Loc X.env.scope x := by first | exact Or.inl rfl | exact Or.inr rfl)
    (hfn : X.fn x = true ∨ X.env.scope.names.lookup x = some .local := by first | exact .inl rfl | exact .inr rfl | assumption) : FS X W ex (.AugAssign (.Name x pos') .Sub e pos) (mAug i fSub me) :=
  fs_aug iop_sub (ab_I0 fun _ _ _ _ => by simp [RV]) hN he hi hx hfn

/-! ### targets -/
abbrev MG := D → En → M → Res En
abbrev MGs := List D → En → M → Res En
/-- the slots at sl alone may be changed -/
def Only' (sl : List Nat) (σ σ' : St) : Prop := ∀ vs : List Nat, (∀ i ∈ sl, i ∈ vs) → wipe σ' vs = wipe σ vs
def rdG (G : Wo) (ex : Ex) (W : WX) (sl : List Nat) (m : MG) : TG := fun v σ H Q => ∃ ι h env d, Rel G ι H h ∧ REn G ex ι H env σ ∧ RV G ι H d v ∧ Post G (fun ι H env' σ' => REn G ex ι H env' σ' ∧ Only' sl σ σ') (fun c d H' => W c d σ H') ι H (m d env h) Q
def rdGs (G : Wo) (ex : Ex) (W : WX) (sl : List Nat) (m : MGs) : TGs := fun vs σ H Q => ∃ ι h env ds, Rel G ι H h ∧ REn G ex ι H env σ ∧ RVs G ι H ds vs ∧ Post G (fun ι H env' σ' => REn G ex ι H env' σ' ∧ Only' sl σ σ') (fun c d H' => W c d σ H') ι H (m ds env h) Q
def FG (X : Cx) (W : WX) (ex : Ex) (e : Expr) (sl : List Nat) (m : MG) : Prop := PG X e (rdG (wo X) ex W sl m)
def FGs (X : Cx) (W : WX) (ex : Ex) (es : List Expr) (sl : List Nat) (m : MGs) : Prop := PGs X es (rdGs (wo X) ex W sl m)
theorem PG.imp {t t' : TG} (p : PG X e t) (h : ∀ v σ H Q, t' v σ H Q → t v σ H Q) : PG X e t' := ⟨fun pins s σ H v u Q I r q => p.run pins s σ H v u Q I r (h v σ H Q q)⟩
theorem PGs.imp {t t' : TGs} (p : PGs X es t) (h : ∀ v σ H Q, t' v σ H Q → t v σ H Q) : PGs X es t' := ⟨fun pins s σ H v u Q I r q => p.run pins s σ H v u Q I r (h v σ H Q q)⟩
def gN (i : Nat) : MG := fun d env h => .ok (env.set i (.va d)) h
theorem wipe_set (i : Nat) (v : Option V) : ∀ (vs : List Nat) (σ : St), i ∈ vs → wipe (σ.set i v) vs = wipe σ vs
  | [], _, h => by cases h
  | u :: vs, σ, h => by
    show (wipe (σ.set i v) vs).set u none = (wipe σ vs).set u none
    by_cases hi : i ∈ vs
    · rw [wipe_set i v vs σ hi]
    · have e : u = i := by
        rcases List.mem_cons.mp h with z | z
        · exact z.symm
        · exact absurd z hi
      subst e
      have out : ∀ (vs : List Nat) (σ : St), wipe (σ.set u v) vs = (wipe σ vs).set u v ∨ wipe (σ.set u v) vs = wipe σ vs := by
        intro vs
        induction vs with
        | nil => intro σ; exact .inl rfl
        | cons z vs ih =>
          intro σ
          show (wipe (σ.set u v) vs).set z none = ((wipe σ vs).set z none).set u v ∨ (wipe (σ.set u v) vs).set z none = (wipe σ vs).set z none
          rcases ih σ with e | e
          · rw [e]
            by_cases hz : z = u
            · subst hz; right; rw [List.set_set]
            · left; rw [List.set_comm _ _ hz]
          · right; rw [e]
      rcases out vs σ with e | e
      · rw [e, List.set_set]
      · rw [e]
theorem fg_name {i : Nat} (hN : X.N.Nodup) (hi : X.N[i]? = some x := by rfl) (hx : Loc X.env.scope x := by first | exact Or.inl rfl | exact Or.inr rfl) (hf : X.fn x = true ∨ X.env.scope.names.lookup x = some .local := by first | exact .inl rfl | exact .inr rfl | assumption) : FG X W ex (.Name x pos) [i] (gN i) := by
  refine PG.imp (pg_name hN hi hx hf) fun v σ H Q q => ?_
  obtain ⟨ι, h, env, d, rel, re, rv, po⟩ := q
  exact po_ok rel ⟨re.set i rv, fun vs hv => wipe_set i _ vs σ (hv i (by simp))⟩ po
def gNil' : MGs := fun ds env h => match ds with
  | [] => .ok env h
  | _ :: _ => .stuck
theorem fgs_nil : FGs X W ex [] [] gNil' := by
  refine PGs.imp pgs_nil fun v σ H Q q => ?_
  obtain ⟨ι, h, env, ds, rel, re, rv, po⟩ := q
  cases ds with
  | nil => simp only [RVs] at rv; exact ⟨rv, po_ok rel ⟨re, fun _ _ => rfl⟩ po⟩
  | cons d ds => exact po.elim
/-- a target's end that raises nothing: stuck in place of an exception -/
def noX {α : Type} (r : Res α) : Res α := match r with
  | .ok a h => .ok a h
  | _ => .stuck
@[simp] theorem noX_ok {α : Type} {a : α} {h : M} : noX (.ok a h) = .ok a h := (rfl)
theorem post_noX {α β : Type} {G : Wo} {B : List Addr → Hp → α → β → Prop} {E E' : WX'} {ι : List Addr} {H : Hp} {r : Res α} {Q : β → Hp → Prop} (h : Post G B E ι H (noX r) Q) : Post G B E' ι H r Q := by
  cases r with
  | ok d h1 => exact h
  | exc x ns xs h1 => exact h.elim
  | stuck => exact h
theorem post_B {α β : Type} {G : Wo} {B B' : List Addr → Hp → α → β → Prop} {E : WX'} {ι : List Addr} {H : Hp} {r : Res α} {Q : β → Hp → Prop} (h : Post G B E ι H r Q) (hb : ∀ ι' H' a b, B' ι' H' a b → B ι' H' a b) : Post G B' E ι H r Q := by
  cases r with
  | ok d h1 => exact fun ι' H' v p k rel b => h ι' H' v p k rel (hb _ _ _ _ b)
  | exc x ns xs h1 => exact h
  | stuck => exact h
def gCons' (g : MG) (gs : MGs) : MGs := fun ds env h => match ds with
  | d :: ds => (g d env h).bind fun env' h' => noX (gs ds env' h')
  | [] => .stuck
theorem fgs_cons {g : MG} {gs : MGs} {sl sl' : List Nat} (h1 : FG X W ex e sl g) (h2 : FGs X W ex es sl' gs) (hs : (assignEach (e :: es) X.env).map (·.2) = assign e X.env :: (assignEach es X.env).map (·.2) := by rfl) : FGs X W ex (e :: es) (sl ++ sl') (gCons' g gs) := by
  refine PGs.imp (pgs_cons h1 h2 hs) fun v σ H Q q => ?_
  obtain ⟨ι, h, env, ds, rel, re, rv, po⟩ := q
  cases ds with
  | nil => exact po.elim
  | cons d ds =>
    simp only [RVs] at rv
    obtain ⟨v1, vr, rfl, r1, r2⟩ := rv
    refine ⟨v1, vr, rfl, ι, h, env, d, rel, re, r1, post_bind po fun env1 h1 ι1 H1 σ1 eq1 p1 k1 rel1 re1 po1 => ?_⟩
    refine ⟨ι1, h1, env1, ds, rel1, re1.1, RVs.mono p1 k1 _ _ r2, post_noX (post_B po1 fun ι' H' env' σ' b => ⟨b.1, fun vs hv => ?_⟩)⟩
    rw [b.2 vs fun i hi => hv i (by simp [hi]), re1.2 vs fun i hi => hv i (by simp [hi])]
def gTp (n : Nat) (gs : MGs) : MG := fun d env h => match tupOf d with
  | some xs => if xs.length = n then gs xs env h else .stuck
  | none => .stuck
theorem fg_tup {gs : MGs} {kk : Nat} {sl : List Nat} (h : FGs X W ex es sl gs) (hc : X.calm = true := by rfl) (hn : (assignEach es X.env).length = n := by rfl) (hst : (assignEach es X.env).findIdx? (·.1) = none := by rfl) : FG X W ex (.Tuple es kk pos) sl (gTp n gs) := by
  refine PG.imp (pg_tup hc h hn hst) fun v σ H Q q => ?_
  obtain ⟨ι, h, env, d, rel, re, rv, po⟩ := q
  unfold gTp at po
  split at po
  case h_2 => exact po.elim
  rename_i xs ed
  split at po
  case isFalse => exact po.elim
  rename_i hl
  obtain ⟨a, vs, rfl, s, r⟩ := tupOf_sq (G := wo X) rv ed
  exact ⟨a, vs, rfl, s, by rw [← RVs.length r]; exact hl, ι, h, env, xs, rel, re, r, po⟩
/-- target = value -/
def mAsg (me : ME) (g : MG) : MS := fun env h => SR.of (me env h) env fun d h => SR.of (g d env h) env fun env' h => .nx env' h
theorem fs_asg {tg : Expr} {g : MG} {sl : List Nat} (he : FE X W ex e me) (hg : FG X W ex tg sl g) (hs : swapsWithSole [tg] e pos.line X.env = pure false := by rfl) (hw : swappedStores [tg] e X.env = pure none := by rfl)
    (h1 : (assignEach [tg] X.env).map (·.2) = [assign tg X.env] := by rfl) : FS X W ex (.Assign [tg] e pos) (mAsg me g) := by
  refine PS.imp (ps_asg he hg hs hw h1) fun D σ H q => ?_
  obtain ⟨ι, h, env, rel, re, po⟩ := q
  refine ⟨ι, h, env, rel, re, post_of re po fun d h1 ι1 H1 v eq1 p1 k1 rel1 rv1 po1 => ?_⟩
  refine ⟨ι1, h1, env, d, rel1, re.mono p1 k1, rv1, post_of (re.mono p1 k1) po1 fun env' h2 ι2 H2 σ2 eq2 p2 k2 rel2 re2 po2 => ?_⟩
  exact ps_nx rel2 re2.1 po2

/-! ### o[i] = e: a list, a dict -/
abbrev BU : List Addr → Hp → Unit → Unit → Prop := fun _ _ _ _ => True
abbrev R3 := V → V → V → Hp → (Hp → Prop) → Prop
def t3 (r : R3) (to ti te : TE) : TS := fun D σ H => te σ H fun v H1 => to σ H1 fun o H2 => ti σ H2 fun i H3 => r o i v H3 fun H4 => D.nx σ H4
def At3 (G : Wo) (r : R3) (f : D → D → D → M → Res Unit) (o i v : D) (h : M) : Prop := ∀ (E : WX') ι H ov iv vv (Q : Hp → Prop), Rel G ι H h → RV G ι H o ov → RV G ι H i iv → RV G ι H v vv → Post G BU E ι H (f o i v h) (fun _ H' => Q H') → r ov iv vv H Q
def m3 (f : D → D → D → M → Res Unit) (mo mi me : ME) : MS := fun env h => SR.of ((me env h).bind fun v h1 => (mo env h1).bind fun o h2 => (mi env h2).bind fun i h3 => f o i v h3) env fun _ h => .nx env h
theorem rd3_or {r r' : R3} {f : D → D → D → M → Res Unit} {G : Wo} {mo mi : ME} (hf : ∀ o i v h, At3 G r f o i v h ∨ At3 G r' f o i v h) {D : Ends} {σ : St} {H : Hp} (q : rdS G ex W (m3 f mo mi me) D σ H) :
    t3 r (rdE G ex W mo) (rdE G ex W mi) (rdE G ex W me) D σ H ∨ t3 r' (rdE G ex W mo) (rdE G ex W mi) (rdE G ex W me) D σ H := by
  obtain ⟨ι, h, env, rel, re, po⟩ := q
  -- the way by the values, where all three come to one
  have go : ∀ (R : R3), (∀ v h1 o h2 i h3, me env h = .ok v h1 → mo env h1 = .ok o h2 → mi env h2 = .ok i h3 → At3 G R f o i v h3) → t3 R (rdE G ex W mo) (rdE G ex W mi) (rdE G ex W me) D σ H := fun R hR => by
    have po' := post_of (σ := σ) (B := BU) (Q := fun _ H' => D.nx σ H') re po fun _ h2 ι2 H2 zv eq2 p2 k2 rel2 rv2 po2 => ps_nx rel2 (re.mono p2 k2) po2
    refine ⟨ι, h, env, rel, re, post_bind po' fun v h1 ι1 H1 vv eq1 p1 k1 rel1 rv1 po1 => ?_⟩
    refine ⟨ι1, h1, env, rel1, re.mono p1 k1, post_bind po1 fun o h2 ι2 H2 ov eq2 p2 k2 rel2 rv2 po2 => ?_⟩
    refine ⟨ι2, h2, env, rel2, (re.mono p1 k1).mono p2 k2, post_bind po2 fun i h3 ι3 H3 iv eq3 p3 k3 rel3 rv3 po3 => ?_⟩
    exact hR v h1 o h2 i h3 eq1 eq2 eq3 _ ι3 H3 ov iv vv _ rel3 (RV.mono p3 k3 _ _ rv2) rv3 (RV.mono (p2.trans p3) (k2.trans k3) _ _ rv1) po3
  cases e1 : me env h with
  | ok v h1 =>
    cases e2 : mo env h1 with
    | ok o h2 =>
      cases e3 : mi env h2 with
      | ok i h3 =>
        have sole : ∀ v' h1' o' h2' i' h3', me env h = .ok v' h1' → mo env h1' = .ok o' h2' → mi env h2' = .ok i' h3' → v' = v ∧ o' = o ∧ i' = i ∧ h3' = h3 := fun v' h1' o' h2' i' h3' a b c => by
          rw [e1] at a; cases a; rw [e2] at b; cases b; rw [e3] at c; cases c; exact ⟨rfl, rfl, rfl, rfl⟩
        rcases hf o i v h3 with z | z
        · exact .inl (go r fun v' h1' o' h2' i' h3' a b c => by obtain ⟨rfl, rfl, rfl, rfl⟩ := sole _ _ _ _ _ _ a b c; exact z)
        · exact .inr (go r' fun v' h1' o' h2' i' h3' a b c => by obtain ⟨rfl, rfl, rfl, rfl⟩ := sole _ _ _ _ _ _ a b c; exact z)
      | exc _ _ _ _ => exact .inl (go r fun v' h1' o' h2' i' h3' a b c => by rw [e1] at a; cases a; rw [e2] at b; cases b; rw [e3] at c; cases c)
      | stuck => exact .inl (go r fun v' h1' o' h2' i' h3' a b c => by rw [e1] at a; cases a; rw [e2] at b; cases b; rw [e3] at c; cases c)
    | exc _ _ _ _ => exact .inl (go r fun v' h1' o' h2' i' h3' a b c => by rw [e1] at a; cases a; rw [e2] at b; cases b)
    | stuck => exact .inl (go r fun v' h1' o' h2' i' h3' a b c => by rw [e1] at a; cases a; rw [e2] at b; cases b)
  | exc _ _ _ _ => exact .inl (go r fun v' h1' o' h2' i' h3' a b c => by rw [e1] at a; cases a)
  | stuck => exact .inl (go r fun v' h1' o' h2' i' h3' a b c => by rw [e1] at a; cases a)
def fPut (o i v : D) (h : M) : Res Unit := match o with
  | .loc l => match h[l]? with
    | some (.lst xs) => match i with
      | .int k => match ixN xs.length k with
        | some j => .ok () (h.set l (.lst (xs.set j v)))
        | none => .stuck
      | _ => .stuck
    | some (.dK kvs) => match keyD i with
      | some k => if kvs.length < sizeLine then .ok () (h.set l (.dK (putD kvs k v))) else .stuck
      | none => .stuck
    | some (.dT kvs) => match keysD i with
      | some k => if kvs.length < sizeLine then .ok () (h.set l (.dT (putD kvs k v))) else .stuck
      | none => .stuck
    | _ => .stuck
  | _ => .stuck
/-- an object written: the end -/
theorem po_wrU {G : Wo} {E : WX'} {ι : List Addr} {H : Hp} {h : M} {l : Nat} {a : Addr} {ob : O} {u : HO} {Q : Hp → Prop} (rel : Rel G ι H h) (ea : ι[l]? = some a) (ro : ∀ H', Keep H H' → H' = upd H a u → RO G ι H' a ob)
    (po : Post G BU E ι H (.ok () (h.set l ob)) (fun _ H' => Q H')) : Q (upd H a u) := by
  have k : Keep H (upd H a u) := by
    obtain ⟨u0, e0, nf, mu⟩ := rel.tracked ea
    exact fun b o' eb f => by
      have : b ≠ a := fun z => by rw [z, e0] at eb; cases eb; exact nf f
      rw [upd_ne this]; exact eb
  have w := rel.write (o := ob) (u := u) ea (ro _ k rfl)
  exact po ι _ () (List.prefix_refl _) k w.1 trivial
def rDPut : R3 := fun x y v H Q => ∃ a H', x = .ref a ∧ DPut H a y v H' ∧ Q H'
theorem put_at {G : Wo} (o i v : D) (h : M) : At3 G rSetL fPut o i v h ∨ At3 G rDPut fPut o i v h := by
  cases o with
  | loc l =>
    cases e : h[l]? with
    | none => exact .inl fun E ι H ov iv vv Q rel ro ri rv po => by simp only [fPut, e] at po; exact po.elim
    | some ob =>
      cases ob with
      | lst xs =>
        refine .inl fun E ι H ov iv vv Q rel ro ri rv po => ?_
        simp only [fPut, e] at po
        split at po
        case h_2 => exact po.elim
        rename_i k
        split at po
        case h_2 => exact po.elim
        rename_i j ej
        obtain ⟨a, ws, rfl, ea, q, r⟩ := at_lst rel ro e
        simp only [RV] at ri; subst ri
        exact ⟨a, ws, k, j, rfl, rfl, q, by rw [← RVs.length r]; exact ej, po_wrU (ob := .lst (xs.set j v)) rel ea (fun H' kp eq => ⟨_, by rw [eq]; exact upd_same, RVs.mono (List.prefix_refl _) kp _ _ (r.set j rv)⟩) po⟩
      | dK kvs =>
        refine .inr fun E ι H ov iv vv Q rel ro ri rv po => ?_
        simp only [fPut, e] at po
        split at po
        case h_2 => exact po.elim
        rename_i k ek
        split at po
        case isFalse => exact po.elim
        rename_i hz
        obtain ⟨a, ws, rfl, ea, q, r⟩ := at_dK rel ro e
        rw [keyD_ok ri ek]
        exact ⟨a, _, rfl, DPut.k q (by rw [← RKs.len r]; exact hz), po_wrU (ob := .dK (putD kvs k v)) rel ea (fun H' kp eq => ⟨_, by rw [eq]; exact upd_same, (r.put rv).mono (List.prefix_refl _) kp⟩) po⟩
      | dT kvs =>
        refine .inr fun E ι H ov iv vv Q rel ro ri rv po => ?_
        simp only [fPut, e] at po
        split at po
        case h_2 => exact po.elim
        rename_i k ek
        split at po
        case isFalse => exact po.elim
        rename_i hz
        obtain ⟨a, ws, rfl, ea, q, r⟩ := at_dT rel ro e
        obtain ⟨b, rfl, hb⟩ := keysD_ok ri ek
        exact ⟨a, _, rfl, DPut.t q hb (by rw [← RKs.len r]; exact hz), po_wrU (ob := .dT (putD kvs k v)) rel ea (fun H' kp eq => ⟨_, by rw [eq]; exact upd_same, (r.put rv).mono (List.prefix_refl _) kp⟩) po⟩
      | ins x fs => exact .inl fun E ι H ov iv vv Q rel ro ri rv po => by simp only [fPut, e] at po; exact po.elim
  | _ => exact .inl fun E ι H ov iv vv Q rel ro ri rv po => by simp only [fPut] at po; exact po.elim
theorem PS.or {t t' : TS} (p : PS X st t) (p' : PS X st t') : PS X st (fun D σ H => t D σ H ∨ t' D σ H) := ⟨fun pins s σ H D I h => by
  rcases h with h | h
  · exact p.run pins s σ H D I h
  · exact p'.run pins s σ H D I h⟩
theorem fs_put {k : Nat} {mo mi : ME} (hr : Room k X.A) (ho : FE X W ex o mo) (hi : FE X W ex i mi) (he : FE X W ex e me)
    (ha : ∀ v, assign (.Subscript o i pos') X.env v = (do
      let ov ← holding [v] (eval o X.env)
      let iv ← holding [v, ov] (eval i X.env)
      standAt pos'
      holding [v, ov, iv] (setItem ov iv v)
      release [v, ov, iv] []) := by intro _; rfl)
    (hs : swapsWithSole [.Subscript o i pos'] e pos.line X.env = pure false := by rfl) (hw : swappedStores [.Subscript o i pos'] e X.env = pure none := by rfl)
    (h1 : (assignEach [.Subscript o i pos'] X.env).map (·.2) = [assign (.Subscript o i pos') X.env] := by rfl) (hs2 : swapsWith e (some (.Subscript o i pos')) pos.line X.env = pure false := by rfl) :
    FS X W ex (.Assign [.Subscript o i pos'] e pos) (m3 fPut mo mi me) := by
  have P1 : PS X (.Assign [.Subscript o i pos'] e pos) (t3 rSetL (rdE (wo X) ex W mo) (rdE (wo X) ex W mi) (rdE (wo X) ex W me)) := PS.imp (ps_asg he (pg_sub ho hi set_list ha) hs hw h1) fun D σ H q => q
  have P2 : PS X (.Assign [.Subscript o i pos'] e pos) (t3 rDPut (rdE (wo X) ex W mo) (rdE (wo X) ex W mi) (rdE (wo X) ex W me)) := PS.imp (ps_dput (hu_of hr) ho hi he hs2) fun D σ H q => q
  exact PS.imp (PS.or P1 P2) fun D σ H q => rd3_or put_at q
end
end LF
set_option Elab.async false
set_option linter.all false
set_option maxRecDepth 100000
set_option maxHeartbeats 4000000
/-! LF6: iterators, for, while, comprehensions. -/
namespace LF
open PySem PySem.Spec L2
open PyProof.Rows hiding St
/-- what a loop walks: the items, and what must stay true of the machine's objects meanwhile -/
structure Itr' where
  items : List D
  chk : M → Prop
def JOk (G : Wo) (ι0 : List Addr) (H0 : Hp) (J : It) (it : Itr') : Prop :=
  ∀ (i : Nat) (ι : List Addr) (H : Hp) (h : M), ι0 <+: ι → Keep H0 H → Rel G ι H h → it.chk h →
    (∀ d, it.items[i]? = some d → J.go i H ∧ ∀ x H', J.yld i H x H' → Same H H' ∧ RV G ι H' d x) ∧ (it.items.length ≤ i → J.stop i H)
abbrev MI := En → M → Res Itr'
def rdI (G : Wo) (ex : Ex) (W : WX) (m : MI) : TI := fun σ H R => ∃ ι h env, Rel G ι H h ∧ REn G ex ι H env σ ∧ Post G (fun ι H it J => JOk G ι H J it) (fun c d H' => W c d σ H') ι H (m env h) R
def FI (X : Cx) (W : WX) (ex : Ex) (tg iter : Expr) (m : MI) : Prop := PI X tg iter (rdI (wo X) ex W m)
section
variable {X : Cx} {W : WX} {ex : Ex} {tg e a b i o iter : Expr} {es : List Expr} {ma mb mc me ml : ME} {mas : MA} {pos pos' p : Pos} {x : Str}
theorem PI.imp {t t' : TI} (p : PI X tg iter t) (h : ∀ σ H Q, t' σ H Q → t σ H Q) : PI X tg iter t' := ⟨fun pins s σ H R I q => p.run pins s σ H R I (h σ H R q)⟩
theorem PI.or {t t' : TI} (p : PI X tg iter t) (p' : PI X tg iter t') : PI X tg iter (fun σ H Q => t σ H Q ∨ t' σ H Q) := ⟨fun pins s σ H R I h => by
  rcases h with h | h
  · exact p.run pins s σ H R I h
  · exact p'.run pins s σ H R I h⟩
/-- a list's items, a tuple's, a text's signs -/
def itOf (d : D) (h : M) : Res Itr' := match d with
  | .str z => .ok ⟨z.cps.toList.map fun c => .str ⟨#[c]⟩, fun _ => True⟩ h
  | d => match tupOf d with
    | some xs => .ok ⟨xs, fun _ => True⟩ h
    | none => match lstOf h d with
      | some xs => .ok ⟨xs, fun h' => lstOf h' d = some xs⟩ h
      | none => .stuck
theorem itOf_not {d : D} {h : M} (hs : ¬ ∃ z, d = .str z) : itOf d h = (match tupOf d with
    | some xs => .ok ⟨xs, fun _ => True⟩ h
    | none => match lstOf h d with
      | some xs => .ok ⟨xs, fun h' => lstOf h' d = some xs⟩ h
      | none => .stuck) := by
  cases d <;> first | rfl | exact absurd ⟨_, rfl⟩ hs
def mIter (ml : ME) : MI := fun env h => (ml env h).bind itOf
theorem fi_any (hl : FE X W ex e ml) : FI X W ex tg e (mIter ml) := by
  refine PI.imp (PI.or (pi_list hl) (PI.or (pi_tup hl) (pi_str hl))) fun σ H R q => ?_
  obtain ⟨ι, h, env, rel, re, po⟩ := q
  -- told apart by the value
  have go : ∀ (Rr : V → Hp → Prop), (∀ d h1 ι1 H1 v, ml env h = .ok d h1 → ι <+: ι1 → Keep H H1 → Rel (wo X) ι1 H1 h1 → RV (wo X) ι1 H1 d v → Post (wo X) (fun ι H it J => JOk (wo X) ι H J it) (fun c d H' => W c d σ H') ι1 H1 (itOf d h1) R → Rr v H1) → rdE (wo X) ex W ml σ H Rr := fun Rr hR =>
    ⟨ι, h, env, rel, re, post_bind po fun d h1 ι1 H1 v eq1 p1 k1 rel1 rv1 po1 => hR d h1 ι1 H1 v eq1 p1 k1 rel1 rv1 po1⟩
  cases e1 : ml env h with
  | stuck => unfold mIter at po; rw [e1] at po; exact po.elim
  | exc _ _ _ _ => exact .inl (go _ fun d h1 ι1 H1 v eq1 => by rw [e1] at eq1; cases eq1)
  | ok d h1 =>
    have sole : ∀ {d' h1'}, ml env h = .ok d' h1' → d' = d ∧ h1' = h1 := fun eq => by rw [e1] at eq; cases eq; exact ⟨rfl, rfl⟩
    by_cases hs : ∃ z, d = .str z
    · obtain ⟨z, rfl⟩ := hs
      refine .inr (.inr (go _ fun d' h1' ι1 H1 v eq1 p1 k1 rel1 rv1 po1 => ?_))
      obtain ⟨rfl, rfl⟩ := sole eq1
      simp only [RV] at rv1; subst rv1
      simp only [itOf] at po1
      refine ⟨z, rfl, po_ok rel1 ?_ po1⟩
      intro i ι H h p k rel _
      refine ⟨fun d ed => ?_, fun hi => ?_⟩
      · rw [List.getElem?_map] at ed
        simp only [Option.map_eq_some_iff] at ed
        obtain ⟨c, ec, rfl⟩ := ed
        have ec' : z.cps[i]? = some c := by simpa using ec
        refine ⟨(Array.getElem?_eq_some_iff.mp ec').1, fun x H' hy => ?_⟩
        obtain ⟨rfl, c', e', rfl⟩ := hy
        rw [ec'] at e'; cases e'
        exact ⟨Same.refl _, by simp [RV]⟩
      · show z.cps.size ≤ i
        simpa using hi
    · cases et : tupOf d with
      | some xs =>
        refine .inr (.inl (go _ fun d' h1' ι1 H1 v eq1 p1 k1 rel1 rv1 po1 => ?_))
        obtain ⟨rfl, rfl⟩ := sole eq1
        rw [itOf_not hs, et] at po1
        obtain ⟨a, vs, rfl, s, r⟩ := tupOf_sq rv1 et
        refine ⟨a, rfl, ⟨vs, s⟩, po_ok rel1 ?_ po1⟩
        intro i ι H h p k rel _
        have s' := k.tup s
        have r' := RVs.mono p k _ _ r
        refine ⟨fun d ed => ?_, fun hi => ⟨vs, s', by rw [← RVs.length r]; exact hi⟩⟩
        obtain ⟨v, ev, rv⟩ := r'.get ed
        refine ⟨⟨vs, v, s', ev⟩, fun x H' hy => ?_⟩
        obtain ⟨rfl, hy⟩ := hy
        have := hy vs s'
        rw [ev] at this; cases this
        exact ⟨Same.refl _, rv⟩
      | none =>
        refine .inl (go _ fun d' h1' ι1 H1 v eq1 p1 k1 rel1 rv1 po1 => ?_)
        obtain ⟨rfl, rfl⟩ := sole eq1
        cases el : lstOf h1' d' with
        | none =>
          exfalso
          rw [itOf_not hs, et] at po1
          simp only [el] at po1
          exact po1
        | some xs =>
          rw [itOf_not hs, et] at po1
          simp only [el] at po1
          obtain ⟨a, vs, rfl, s, r⟩ := lstOf_sq rel1 rv1 el
          refine ⟨a, rfl, ⟨vs, s⟩, po_ok rel1 ?_ po1⟩
          intro i ι H h p k rel ck
          have rv' := RV.mono p k _ _ rv1
          obtain ⟨a', vs', e', s', r'⟩ := lstOf_sq rel rv' ck
          cases e'
          refine ⟨fun d ed => ?_, fun hi => ⟨vs', s', by rw [← RVs.length r']; exact hi⟩⟩
          obtain ⟨v, ev, rv⟩ := r'.get ed
          refine ⟨⟨vs', v, s', ev⟩, fun x H' hy => ?_⟩
          obtain ⟨rfl, hy⟩ := hy
          have := hy vs' s'
          rw [ev] at this; cases this
          exact ⟨Same.refl _, rv⟩
/-- range -/
def rgItems (lo : Int) (n : Nat) : List D := (List.range n).map fun i => .int (lo + (i : Nat))
theorem rg_ok {G : Wo} {ι : List Addr} {H : Hp} (lo : Int) (n : Nat) : JOk G ι H (Itr lo n) ⟨rgItems lo n, fun _ => True⟩ := by
  intro i ι' H' h p k rel _
  refine ⟨fun d ed => ?_, fun hi => ?_⟩
  · simp only [rgItems, List.getElem?_map, Option.map_eq_some_iff] at ed
    obtain ⟨j, ej, rfl⟩ := ed
    have hi : i < n := by have := (List.getElem?_eq_some_iff.mp ej).1; simpa using this
    have : j = i := by rw [List.getElem?_range hi] at ej; exact (Option.some.inj ej).symm
    subst this
    refine ⟨hi, fun x H'' hy => ?_⟩
    obtain ⟨rfl, rfl⟩ := hy
    exact ⟨Same.refl _, by simp [RV]⟩
  · show n ≤ i
    simpa [rgItems] using hi
def fRng (ds : List D) (h : M) : Res Itr' := match ds with
  | [.int j] => if -(2 ^ 62) ≤ j ∧ j < 2 ^ 62 then .ok ⟨rgItems 0 j.toNat, fun _ => True⟩ h else .stuck
  | [.int i, .int j] => if -(2 ^ 62) ≤ i ∧ i < 2 ^ 62 ∧ -(2 ^ 62) ≤ j ∧ j < 2 ^ 62 then .ok ⟨rgItems i (j - i).toNat, fun _ => True⟩ h else .stuck
  | _ => .stuck
def mRng (mas : MA) : MI := fun env h => (mas env h).bind fRng
theorem RVs.eq3 {G : Wo} {ι : List Addr} {H : Hp} {d f g : D} {vs : List V} (h : RVs G ι H [d, f, g] vs) : ∃ v u t, vs = [v, u, t] ∧ RV G ι H d v ∧ RV G ι H f u ∧ RV G ι H g t := by
  simp only [RVs] at h
  obtain ⟨v, r, rfl, h1, u, r2, rfl, h2, t, r3, rfl, h3, rfl⟩ := h
  exact ⟨v, u, t, rfl, h1, h2, h3⟩
theorem fi_range1 (hm : X.mg "range" = none) (hs : FA X W ex [a] mas) (hone : ∀ env h ds h', mas env h = .ok ds h' → ds.length = 1) (hg : Gl X "range" := by rfl) (hst : starEach [a] X.env = [(false, eval a X.env)] := by rfl) : FI X W ex tg (.Call (.Name "range" p) [a] [] pos) (mRng mas) := by
  refine PI.imp (pi_range1 hg hm hs hst) fun σ H R q => ?_
  obtain ⟨ι, h, env, rel, re, po⟩ := q
  refine ⟨ι, h, env, rel, re, post_bind po fun ds h1 ι1 H1 vs eq1 p1 k1 rel1 rv1 po1 => ?_⟩
  have hl := hone _ _ _ _ eq1
  unfold fRng at po1
  split at po1
  · split at po1
    case isFalse => exact po1.elim
    rename_i hz
    obtain ⟨v, rfl, r⟩ := rv1.eq1
    simp only [RV] at r; subst r
    exact ⟨_, rfl, hz.1, hz.2, po_ok rel1 (rg_ok _ _) po1⟩
  · simp at hl
  · exact po1.elim
theorem fi_range2 (hm : X.mg "range" = none) (hs : FA X W ex [a, b] mas) (hone : ∀ env h ds h', mas env h = .ok ds h' → ds.length = 2) (hg : Gl X "range" := by rfl) (hst : starEach [a, b] X.env = [(false, eval a X.env), (false, eval b X.env)] := by rfl) (hst2 : starEach [b] X.env = [(false, eval b X.env)] := by rfl) : FI X W ex tg (.Call (.Name "range" p) [a, b] [] pos) (mRng mas) := by
  refine PI.imp (pi_range2 hg hm hs hst hst2) fun σ H R q => ?_
  obtain ⟨ι, h, env, rel, re, po⟩ := q
  refine ⟨ι, h, env, rel, re, post_bind po fun ds h1 ι1 H1 vs eq1 p1 k1 rel1 rv1 po1 => ?_⟩
  have hl := hone _ _ _ _ eq1
  unfold fRng at po1
  split at po1
  · simp at hl
  · split at po1
    case isFalse => exact po1.elim
    rename_i hz
    obtain ⟨v, u, rfl, r, r2⟩ := rv1.eq2
    simp only [RV] at r r2; subst r; subst r2
    exact ⟨_, _, rfl, hz, po_ok rel1 (rg_ok _ _) po1⟩
  · exact po1.elim
theorem mCons_len {m : ME} {ms : MA} {n : Nat} (h : ∀ env h ds h', ms env h = .ok ds h' → ds.length = n) : ∀ env h ds h', mCons m ms env h = .ok ds h' → ds.length = n + 1 := by
  intro env hh ds h' eq
  unfold mCons at eq
  cases e1 : m env hh <;> rw [e1] at eq <;> simp only [bind_ok, bind_exc, bind_stuck, reduceCtorEq] at eq
  rename_i d h1
  cases e2 : ms env h1 <;> rw [e2] at eq <;> simp only [bind_ok, bind_exc, bind_stuck, reduceCtorEq] at eq
  cases eq
  simp [h _ _ _ _ e2]
theorem mNil_len : ∀ env h ds h', mNil env h = .ok ds h' → ds.length = 0 := by
  intro env h ds h' eq; cases eq; rfl

/-! ### for -/
open Classical in
noncomputable def floop (chk : M → Prop) (g : MG) (mb : MS) : List D → MS
  | [], env, h => if chk h then .nx env h else .stuck
  | d :: ds, env, h => if chk h then SR.of (g d env h) env fun env1 h1 => match mb env1 h1 with
      | .nx e2 h2 => floop chk g mb ds e2 h2
      | .ct e2 h2 => floop chk g mb ds e2 h2
      | .bk e2 h2 => .nx e2 h2
      | r => r
    else .stuck
noncomputable def mFor (mi : MI) (g : MG) (mb : MS) : MS := fun env h => SR.of (mi env h) env fun it h1 => floop it.chk g mb it.items env h1
variable {mi : MI} {g : MG} {sl : List Nat} {msb : MS} {body : List Stmt} {c : Expr} {tc : MT}
theorem fs_for (hp : PassesOwn (model X.prog X.w) X.A X.env X.xe) (hi : FI X W ex tg iter mi) (hg : FG X W ex tg sl g) (hb : FSs X W ex body msb) (hc : X.calm = true := by rfl) (hs : ∀ x, foldedSetIterable iter X.env x = pure x := by intro _; rfl) :
    FS X W ex (.For tg iter body [] pos) (mFor mi g msb) := by
  refine PS.imp (ps_for hp hc hi hg hb hs) fun D σ H q => ?_
  obtain ⟨ι, h, env, rel, re, po⟩ := q
  refine ⟨ι, h, env, rel, re, post_of re po fun it h1 ι1 H1 J eq1 p1 k1 rel1 jok po1 => ?_⟩
  refine ⟨fun i m σ2 H2 => ∃ ι2 h2 env2, ι1 <+: ι2 ∧ Keep H1 H2 ∧ Rel (wo X) ι2 H2 h2 ∧ REn (wo X) ex ι2 H2 env2 σ2 ∧ m = it.items.length - i ∧ i ≤ it.items.length ∧ PostS (wo X) ex W ι2 H2 (floop it.chk g msb (it.items.drop i) env2 h2) D, ?_, ?_⟩
  · exact ⟨it.items.length, ι1, h1, env, List.prefix_refl _, Keep.refl _, rel1, re.mono p1 k1, by simp, Nat.zero_le _, by simpa using po1⟩
  · rintro i m σ2 H2 ⟨ι2, h2, env2, p2, k2, rel2, re2, rfl, hi2, po2⟩
    by_cases hlt : i < it.items.length
    · have ed : it.items[i]? = some it.items[i] := List.getElem?_eq_getElem hlt
      rw [List.drop_eq_getElem_cons hlt] at po2
      unfold floop at po2
      split at po2
      case isFalse => exact po2.elim
      rename_i ck
      obtain ⟨go, yl⟩ := (jok i ι2 H2 h2 p2 k2 rel2 ck).1 _ ed
      refine .inr ⟨go, fun σ' H' => ∃ ι2 h2 env2, ι1 <+: ι2 ∧ Keep H1 H' ∧ Rel (wo X) ι2 H' h2 ∧ REn (wo X) ex ι2 H' env2 σ' ∧ PostS (wo X) ex W ι2 H' (floop it.chk g msb (it.items.drop (i + 1)) env2 h2) D, fun σ' H' n => ?_, fun x H' hy => ?_⟩
      · obtain ⟨ι3, h3, env3, a1, a2, a3, a4, a5⟩ := n
        exact ⟨_, by omega, ι3, h3, env3, a1, a2, a3, a4, rfl, hlt, a5⟩
      · obtain ⟨sm, rv⟩ := yl x H' hy
        have k3 := Keep.of_same sm
        have rel3 := rel2.same sm
        have re3 := re2.mono (List.prefix_refl _) k3
        have po3 := PostS.mono (List.prefix_refl _) k3 po2
        refine ⟨ι2, h2, env2, it.items[i], rel3, re3, rv, post_of re3 po3 fun env4 h4 ι4 H4 σ4 eq4 p4 k4 rel4 re4 po4 => ?_⟩
        refine ⟨ι4, h4, env4, rel4, re4.1, ?_⟩
        have fin : ∀ {env5 h5}, PostS (wo X) ex W ι4 H4 (floop it.chk g msb (it.items.drop (i + 1)) env5 h5) D → ∀ ι' H' σ', ι4 <+: ι' → Keep H4 H' → Rel (wo X) ι' H' h5 → REn (wo X) ex ι' H' env5 σ' → ∃ ι2 h2 env2, ι1 <+: ι2 ∧ Keep H1 H' ∧ Rel (wo X) ι2 H' h2 ∧ REn (wo X) ex ι2 H' env2 σ' ∧ PostS (wo X) ex W ι2 H' (floop it.chk g msb (it.items.drop (i + 1)) env2 h2) D :=
          fun {env5 h5} q ι' H' σ' a1 a2 a3 a4 => ⟨ι', h5, env5, (p2.trans p4).trans a1, ((k2.trans k3).trans k4).trans a2, a3, a4, PostS.mono a1 a2 q⟩
        generalize msb env4 h4 = z at po4 ⊢
        cases z with
        | nx e5 h5 => exact fin po4
        | ct e5 h5 => exact fin po4
        | bk e5 h5 => exact po4
        | rt d h5 => exact po4
        | exc _ _ _ _ _ => exact po4
        | stuck => exact po4
    · have e : i = it.items.length := by omega
      subst e
      simp only [List.drop_length] at po2
      unfold floop at po2
      split at po2
      case isFalse => exact po2.elim
      rename_i ck
      exact .inl ⟨(jok _ ι2 H2 h2 p2 k2 rel2 ck).2 (Nat.le_refl _), ps_nx rel2 re2 po2⟩

/-! ### while -/
def wloop (c : MT) (b : MS) : Nat → MS
  | 0, _, _ => .stuck
  | n + 1, env, h => SR.of (c env h) env fun t h1 => if t = true then match b env h1 with
      | .nx e2 h2 => wloop c b n e2 h2
      | .ct e2 h2 => wloop c b n e2 h2
      | .bk e2 h2 => .nx e2 h2
      | r => r
    else .nx env h1
def mWhile (fuel : Nat) (c : MT) (b : MS) : MS := wloop c b fuel
theorem fs_while (fuel : Nat) (hp : PassesOwn (model X.prog X.w) X.A X.env X.xe) (hc : FT X W ex c tc) (hb : FSs X W ex body msb) : FS X W ex (.While c body [] pos) (mWhile fuel tc msb) := by
  refine PS.imp (ps_while hp hc hb) fun D σ H q => ?_
  obtain ⟨ι, h, env, rel, re, po⟩ := q
  refine ⟨fun m σ2 H2 => ∃ ι2 h2 env2, Rel (wo X) ι2 H2 h2 ∧ REn (wo X) ex ι2 H2 env2 σ2 ∧ PostS (wo X) ex W ι2 H2 (wloop tc msb m env2 h2) D, ⟨fuel, ι, h, env, rel, re, po⟩, ?_⟩
  rintro m σ2 H2 ⟨ι2, h2, env2, rel2, re2, po2⟩
  cases m with
  | zero => exact po2.elim
  | succ m =>
    unfold wloop at po2
    refine ⟨ι2, h2, env2, rel2, re2, post_of re2 po2 fun t h3 ι3 H3 t' eq3 p3 k3 rel3 rv3 po3 => ?_⟩
    cases rv3
    cases t with
    | false => exact iteF (ps_nx rel3 (re2.mono p3 k3) po3)
    | true =>
      refine iteT ⟨fun σ' H' => ∃ ι2 h2 env2, Rel (wo X) ι2 H' h2 ∧ REn (wo X) ex ι2 H' env2 σ' ∧ PostS (wo X) ex W ι2 H' (wloop tc msb m env2 h2) D, fun σ' H' n => ⟨m, Nat.lt_succ_self _, n⟩, ι3, h3, env2, rel3, re2.mono p3 k3, ?_⟩
      simp only [if_true] at po3
      generalize msb env2 h3 = z at po3 ⊢
      cases z with
      | nx e5 h5 => exact fun ι' H' σ' a1 a2 a3 a4 => ⟨ι', h5, e5, a3, a4, PostS.mono a1 a2 po3⟩
      | ct e5 h5 => exact fun ι' H' σ' a1 a2 a3 a4 => ⟨ι', h5, e5, a3, a4, PostS.mono a1 a2 po3⟩
      | bk e5 h5 => exact po3
      | rt d h5 => exact po3
      | exc _ _ _ _ _ => exact po3
      | stuck => exact po3

/-! ### comprehensions -/
def wipeE (env : En) : List Nat → En
  | [] => env
  | v :: vs => (wipeE env vs).set v .no
theorem REn.wipe {G : Wo} {ι : List Addr} {H : Hp} {env : En} {σ : St} (r : REn G ex ι H env σ) : ∀ vs : List Nat, REn G ex ι H (wipeE env vs) (L2.wipe σ vs)
  | [] => r
  | v :: vs => (REn.wipe r vs).drop1 v none
def FTs (X : Cx) (W : WX) (ex : Ex) (ifs : List Expr) (m : MT) : Prop := PTs X ifs (rdT (wo X) ex W m)
theorem PTs.imp {ifs : List Expr} {t t' : TT} (p : PTs X ifs t) (h : ∀ σ H Q, t' σ H Q → t σ H Q) : PTs X ifs t' := ⟨fun pins s σ H R I q => p.run pins s σ H R I (h σ H R q)⟩
def mYes : MT := fun _ h => .ok true h
theorem fts_nil : FTs X W ex [] mYes := by
  refine PTs.imp pts_nil fun σ H Q q => ?_
  obtain ⟨ι, h, env, rel, re, po⟩ := q
  exact po_ok rel rfl po
theorem fts_one (hc : FT X W ex c tc) : FTs X W ex [c] tc := pts_one hc
open Classical in
noncomputable def lcloop (chk : M → Prop) (env : En) (g : MG) (tt : MT) (me : ME) (l : Nat) : List D → M → Res D
  | [], h => if chk h then .ok (.loc l) h else .stuck
  | d :: ds, h => if chk h then (g d env h).bind fun env2 h2 => (tt env2 h2).bind fun b h3 => if b = true then (me env2 h3).bind fun y h4 => match h4[l]? with
        | some (.lst acc) => if acc.length < sizeLine then lcloop chk env g tt me l ds (h4.set l (.lst (acc ++ [y]))) else .stuck
        | _ => .stuck
      else lcloop chk env g tt me l ds h3
    else .stuck
/-- own: the slots of the comprehension's own names -/
noncomputable def mLc (own : List Nat) (mi : MI) (g : MG) (tt : MT) (me : ME) : ME := fun env h => (mi env h).bind fun it h1 => lcloop it.chk (wipeE env own) g tt me h1.length it.items (h1 ++ [.lst []])
abbrev WN : WX := fun _ _ _ _ => False
/-- in a block no exception leaves -/
theorem post_WN {α β : Type} {G : Wo} {B : List Addr → Hp → α → β → Prop} {E : WX'} {ι : List Addr} {H : Hp} {r : Res α} {Q : β → Hp → Prop} (h : Post G B E ι H (noX r) Q) {E' : WX'} : Post G B E' ι H r Q := post_noX h
open Classical in
noncomputable def lcloopN (chk : M → Prop) (env : En) (g : MG) (tt : MT) (me : ME) (l : Nat) : List D → M → Res D
  | [], h => if chk h then .ok (.loc l) h else .stuck
  | d :: ds, h => if chk h then (noX (g d env h)).bind fun env2 h2 => (noX (tt env2 h2)).bind fun b h3 => if b = true then (noX (me env2 h3)).bind fun y h4 => match h4[l]? with
        | some (.lst acc) => if acc.length < sizeLine then lcloopN chk env g tt me l ds (h4.set l (.lst (acc ++ [y]))) else .stuck
        | _ => .stuck
      else lcloopN chk env g tt me l ds h3
    else .stuck
noncomputable def mLcN (own : List Nat) (mi : MI) (g : MG) (tt : MT) (me : ME) : ME := fun env h => (mi env h).bind fun it h1 => lcloopN it.chk (wipeE env own) g tt me h1.length it.items (h1 ++ [.lst []])
theorem wipe_idem (vs : List Nat) : ∀ (us : List Nat) (σ : St), (∀ i ∈ us, i ∈ vs) → L2.wipe (L2.wipe σ us) vs = L2.wipe σ vs
  | [], σ, _ => rfl
  | u :: us, σ, hu => by
    show L2.wipe ((L2.wipe σ us).set u none) vs = _
    rw [wipe_set u none vs _ (hu u (by simp))]
    exact wipe_idem vs us σ fun i hi => hu i (by simp [hi])
theorem rd_lc {own : List Nat} {g : MG} {tt : MT} {sl : List Nat} (hsl : ∀ i ∈ sl, i ∈ own) {σ : St} {Q : VK} {E : WX'} {ι1 : List Addr} {H1 : Hp} {h1 : M} {env : En} {it : Itr'} {J : It}
    (jok : JOk (wo X) ι1 H1 J it) (rel1 : Rel (wo X) ι1 H1 h1) (re1 : REn (wo X) ex ι1 H1 env σ)
    (po : Post (wo X) (fun ι H d v => RV (wo X) ι H d v) E ι1 H1 (lcloopN it.chk (wipeE env own) g tt me h1.length it.items (h1 ++ [.lst []])) Q) : ∀ L, H1 L = none → ∃ Wv : Nat → Nat → Hp → Prop, (∃ m, Wv 0 m (upd H1 L (.lst []))) ∧ ∀ i m H, Wv i m H →
      (J.stop i H ∧ Q (.ref L) H) ∨ (J.go i H ∧ ∃ Nx : Hp → Prop, (∀ H', Nx H' → ∃ m', m' < m ∧ Wv (i + 1) m' H') ∧ ∀ x H', J.yld i H x H' → rdG (wo X) ex WN sl g x (L2.wipe σ own) H' fun σ2 H2 => L2.wipe σ2 own = L2.wipe σ own ∧ rdT (wo X) ex WN tt σ2 H2 fun b H3 =>
        if b = true then rdE (wo X) ex WN me σ2 H3 fun y H4 => ∃ acc, H4 L = some (.lst acc) ∧ acc.length < sizeLine ∧ Nx (upd H4 L (.lst (acc ++ [y]))) else Nx H3) := by
  intro L hL
  have p0 : ι1 <+: ι1 ++ [L] := List.prefix_append ..
  have s0 : Same H1 (upd H1 L (.lst [])) := same_upd hL
  have k0 := Keep.of_same s0
  have rel0 : Rel (wo X) (ι1 ++ [L]) (upd H1 L (.lst [])) (h1 ++ [.lst []]) := rel1.push hL ⟨[], upd_same, RVs.nil⟩
  have eL : (ι1 ++ [L])[h1.length]? = some L := by rw [← rel1.len]; simp
  let Inv' : Nat → Hp → Prop := fun i H2 => ∃ ι2 h2, ι1 ++ [L] <+: ι2 ∧ Keep H1 H2 ∧ Rel (wo X) ι2 H2 h2 ∧ REn (wo X) ex ι2 H2 (wipeE env own) (L2.wipe σ own) ∧ Post (wo X) (fun ι H d v => RV (wo X) ι H d v) E ι2 H2 (lcloopN it.chk (wipeE env own) g tt me h1.length (it.items.drop i) h2) Q
  refine ⟨fun i m H2 => m = it.items.length - i ∧ i ≤ it.items.length ∧ Inv' i H2, ⟨it.items.length, by simp, Nat.zero_le _, ι1 ++ [L], h1 ++ [.lst []], List.prefix_refl _, k0, rel0, (re1.mono p0 k0).wipe own, by simpa using Post.mono p0 k0 po⟩, ?_⟩
  rintro i m H2 ⟨rfl, hi2, ι2, h2, p2, k2, rel2, re2, po2⟩
  by_cases hlt : i < it.items.length
  · have ed : it.items[i]? = some it.items[i] := List.getElem?_eq_getElem hlt
    rw [List.drop_eq_getElem_cons hlt] at po2
    unfold lcloopN at po2
    split at po2
    case isFalse => exact po2.elim
    rename_i ck
    obtain ⟨go, yl⟩ := (jok i ι2 H2 h2 (p0.trans p2) k2 rel2 ck).1 _ ed
    refine .inr ⟨go, Inv' (i + 1), fun H' n => ⟨_, by omega, rfl, hlt, n⟩, fun x H' hy => ?_⟩
    obtain ⟨sm, rv⟩ := yl x H' hy
    have k3 := Keep.of_same sm
    have rel3 := rel2.same sm
    have re3 := re2.mono (List.prefix_refl _) k3
    have po3 := Post.mono (List.prefix_refl _) k3 po2
    refine ⟨ι2, h2, wipeE env own, it.items[i], rel3, re3, rv, post_WN (E := E) (post_bind po3 fun env4 h4 ι4 H4 σ4 eq4 p4 k4 rel4 re4 po4 => ?_)⟩
    have hw : L2.wipe σ4 own = L2.wipe (L2.wipe σ own) own := re4.2 own hsl
    have hww : L2.wipe (L2.wipe σ own) own = L2.wipe σ own := wipe_idem own own σ fun _ h => h
    refine ⟨hw.trans hww, ι4, h4, env4, rel4, re4.1, post_WN (E := E) (post_bind po4 fun b h5 ι5 H5 b' eq5 p5 k5 rel5 rv5 po5 => ?_)⟩
    cases rv5
    have back : ∀ {ι6 H6}, ι5 <+: ι6 → Keep H5 H6 → ι1 ++ [L] <+: ι6 ∧ Keep H1 H6 ∧ REn (wo X) ex ι6 H6 (wipeE env own) (L2.wipe σ own) := fun {ι6 H6} a b =>
      ⟨((p2.trans p4).trans p5).trans a, ((((k2.trans k3).trans k4).trans k5).trans b), (((re3.mono p4 k4).mono p5 k5).mono a b)⟩
    cases b with
    | false =>
      refine iteF ?_
      simp only [Bool.false_eq_true, if_false] at po5
      obtain ⟨b1, b2, b3⟩ := back (List.prefix_refl _) (Keep.refl _)
      exact ⟨ι5, h5, b1, b2, rel5, b3, po5⟩
    | true =>
      refine iteT ?_
      simp only [if_true] at po5
      refine ⟨ι5, h5, env4, rel5, re4.1.mono p5 k5, post_WN (E := E) (post_bind po5 fun y h6 ι6 H6 yv eq6 p6 k6 rel6 rv6 po6 => ?_)⟩
      split at po6
      case h_2 => exact po6.elim
      rename_i acc ea
      split at po6
      case isFalse => exact po6.elim
      rename_i hz
      obtain ⟨b1, b2, b3⟩ := back p6 k6
      have eL6 : ι6[h1.length]? = some L := pre_get b1 eL
      obtain ⟨vs, ev, r⟩ := rel6.at ea eL6
      have hl := RVs.length r
      have w := rel6.write (o := .lst (acc ++ [y])) (u := .lst (vs ++ [yv])) eL6 ⟨_, upd_same, by
        have k7 : Keep H6 (upd H6 L (.lst (vs ++ [yv]))) := by
          obtain ⟨u0, e0, nf, mu⟩ := rel6.tracked eL6
          exact fun b o' eb f => by
            have : b ≠ L := fun z => by rw [z, e0] at eb; cases eb; exact nf f
            rw [upd_ne this]; exact eb
        exact RVs.mono (List.prefix_refl _) k7 _ _ (r.append (RVs.one rv6))⟩
      refine ⟨vs, ev, by omega, ι6, h6.set h1.length (.lst (acc ++ [y])), b1, b2.trans w.2, w.1, b3.mono (List.prefix_refl _) w.2, Post.mono (List.prefix_refl _) w.2 po6⟩
  · have e : i = it.items.length := by omega
    subst e
    simp only [List.drop_length] at po2
    unfold lcloopN at po2
    split at po2
    case isFalse => exact po2.elim
    rename_i ck
    refine .inl ⟨(jok _ ι2 H2 h2 (p0.trans p2) k2 rel2 ck).2 (Nat.le_refl _), ?_⟩
    refine po_ok rel2 ?_ po2
    simp only [RV]
    exact ⟨L, rfl, pre_get p2 eL⟩
variable {elt : Expr} {ifs : List Expr} {scope : Scope} {tt : MT} {spos py : Pos} {y : Str}
theorem fe_lc (own : List (Str × Nat)) (hN : X.N.Nodup) (hi : FI X W ex tg iter mi) (ok : BlkOk X.N X.env.scope scope own)
    (hg : ∀ (s : Shared) (H : Hp) (C : Addr) (cl : List (Str × Addr)) (fp : List Addr), FG (X.blk s H scope (compEnvC scope cl C X.env) fp) WN ex tg sl g)
    (ht : ∀ (s : Shared) (H : Hp) (C : Addr) (cl : List (Str × Addr)) (fp : List Addr), FTs (X.blk s H scope (compEnvC scope cl C X.env) fp) WN ex ifs tt)
    (he : ∀ (s : Shared) (H : Hp) (C : Addr) (cl : List (Str × Addr)) (fp : List Addr), FE (X.blk s H scope (compEnvC scope cl C X.env) fp) WN ex elt me)
    (hsl : ∀ i ∈ sl, i ∈ own.map (·.2) := by decide) (hc : X.calm = true := by rfl) (hs : ∀ x, foldedSetIterable iter X.env x = pure x := by intro _; rfl) : FE X W ex (.ListComp elt [⟨tg, iter, ifs, 0⟩] scope pos) (mLcN (own.map (·.2)) mi g tt me) := by
  refine PE.imp (pe_lc (g := rdG (wo X) ex WN sl g) (tt := rdT (wo X) ex WN tt) (te := rdE (wo X) ex WN me) hc hN hi ok hg ht he hs) fun σ H Q q => ?_
  obtain ⟨ι, h, env, rel, re, po⟩ := q
  exact ⟨ι, h, env, rel, re, post_bind po fun it h1 ι1 H1 J eq1 p1 k1 rel1 jok po1 => rd_lc hsl jok rel1 (re.mono p1 k1) po1⟩
theorem fs_setLc {i : Nat} (own : List (Str × Nat)) (hN : X.N.Nodup) (hi : FI X W ex tg iter mi) (ok : BlkOk X.N X.env.scope scope own)
    (hg : ∀ (s : Shared) (H : Hp) (C : Addr) (cl : List (Str × Addr)) (fp : List Addr), FG (X.blk s H scope (compEnvC scope cl C X.env) fp) WN ex tg sl g)
    (ht : ∀ (s : Shared) (H : Hp) (C : Addr) (cl : List (Str × Addr)) (fp : List Addr), FTs (X.blk s H scope (compEnvC scope cl C X.env) fp) WN ex ifs tt)
    (he : ∀ (s : Shared) (H : Hp) (C : Addr) (cl : List (Str × Addr)) (fp : List Addr), FE (X.blk s H scope (compEnvC scope cl C X.env) fp) WN ex elt me)
    (hsw : swapsWith (.ListComp elt [⟨tg, iter, ifs, 0⟩] scope pos) (some (.Name y py)) spos.line X.env = pure true)
    (hsl : ∀ i ∈ sl, i ∈ own.map (·.2) := by decide) (hy : X.N[i]? = some y := by rfl) (hyl : X.env.scope.names.lookup y = some .local := by rfl) (hc : X.calm = true := by rfl) (hs : ∀ x, foldedSetIterable iter X.env x = pure x := by intro _; rfl) :
    FS X W ex (.Assign [.Name y py] (.ListComp elt [⟨tg, iter, ifs, 0⟩] scope pos) spos) (mSet i (mLcN (own.map (·.2)) mi g tt me)) := by
  refine PS.imp (ps_setLc (g := rdG (wo X) ex WN sl g) (tt := rdT (wo X) ex WN tt) (te := rdE (wo X) ex WN me) hc hN hy hyl hsw hi ok hg ht he hs) fun D σ H q => ?_
  obtain ⟨ι, h, env, rel, re, po⟩ := q
  have po' := post_of (σ := σ) (B := fun ι H d v => RV (wo X) ι H d v) (Q := fun z H2 => D.nx (σ.set i (some z)) H2) re po fun z h2 ι2 H2 zv eq2 p2 k2 rel2 rv2 po2 => ps_nx rel2 ((re.mono p2 k2).set i rv2) po2
  exact ⟨ι, h, env, rel, re, post_bind po' fun it h1 ι1 H1 J eq1 p1 k1 rel1 jok po1 => rd_lc hsl jok rel1 (re.mono p1 k1) po1⟩
end
end LF
set_option Elab.async false
set_option linter.all false
set_option maxRecDepth 100000
set_option maxHeartbeats 4000000
/-! LF7: constants folded, truth, chains; what a proof of a law begins and ends with. -/
namespace LF
open PySem PySem.Spec L2
open PyProof.Rows hiding St
section
variable {X : Cx} {W : WX} {ex : Ex} {tg e a b c i o iter : Expr} {es : List Expr} {ma mb mc me ml : ME} {mas : MA} {pos pos' p : Pos} {x : Str}
theorem FE.to {m m' : ME} (h : FE X W ex e m) (he : ∀ env h, m env h = m' env h) : FE X W ex e m' := by
  have : m = m' := funext fun env => funext fun h => he env h
  rw [← this]; exact h
/-! ### constants -/
variable {k j v : Int}
theorem fk_add (ha : FE X W ex a (mC (.int k))) (hb : FE X W ex b (mC (.int j))) (hv : k + j = v) : FE X W ex (.BinOp a .Add b pos) (mC (.int v)) := by
  subst hv; exact (fe_add ha hb).to fun _ _ => rfl
theorem fk_sub (ha : FE X W ex a (mC (.int k))) (hb : FE X W ex b (mC (.int j))) (hv : k - j = v) : FE X W ex (.BinOp a .Sub b pos) (mC (.int v)) := by
  subst hv; exact (fe_sub ha hb).to fun _ _ => by simp [m2, mC, fSub, fI]
theorem fk_mul (ha : FE X W ex a (mC (.int k))) (hb : FE X W ex b (mC (.int j))) (hc : CMulW k j) (hv : k * j = v) : FE X W ex (.BinOp a .Mult b pos) (mC (.int v)) := by
  subst hv; exact (fe_mul ha hb).to fun _ _ => by simp [m2, mC, fMul, hc]
theorem fk_neg (ha : FE X W ex a (mC (.int k))) (hv : -k = v) : FE X W ex (.UnaryOp .USub a pos) (mC (.int v)) := by
  subst hv; exact (fe_neg ha).to fun _ _ => rfl
def CPowW (i j : Int) : Prop := 0 ≤ j ∧ (Builtin.Int.intBits i : Int) * j ≤ 2 ^ 27
instance (i j : Int) : Decidable (CPowW i j) := by unfold CPowW; infer_instance
theorem op_powW : OpR X (binaryOp .Pow) (rI CPowW fun i j => .int (i ^ j.toNat)) := opI fun _ _ _ _ _ _ _ hc q => pow_int hc.1 hc.2 q
def fPowW := fI CPowW fun i j => .int (i ^ j.toNat)
theorem fe_powW (ha : FE X W ex a ma) (hb : FE X W ex b mb) : FE X W ex (.BinOp a .Pow b pos) (m2 fPowW ma mb) := fe_op op_powW (ab_I fun _ _ _ _ => by simp [RV]) ha hb
theorem fk_pow (ha : FE X W ex a (mC (.int k))) (hb : FE X W ex b (mC (.int j))) (hc : CPowW k j) (hv : k ^ j.toNat = v) : FE X W ex (.BinOp a .Pow b pos) (mC (.int v)) := by
  subst hv; exact (fe_powW ha hb).to fun _ _ => by simp [m2, mC, fPowW, fI, hc]

/-! ### truth -/
def truD (h : M) : D → Option Bool
  | .non => some false
  | .bl b => some b
  | .int i => some (i != 0)
  | .str y => if y.length ≤ sizeLine then some ((y.length : Int) != 0) else none
  | .tup xs => some !xs.isEmpty
  | .ct xs => some !xs.isEmpty
  | .cl xs => some !xs.isEmpty
  | .loc l => match h[l]? with
    | some (.lst xs) => some !xs.isEmpty
    | some (.dK kvs) => some !kvs.isEmpty
    | _ => none
  | _ => none
theorem isEmpty_len {α β : Type} {xs : List α} {ys : List β} (h : xs.length = ys.length) : xs.isEmpty = ys.isEmpty := by
  cases xs <;> cases ys <;> simp at h ⊢
theorem truD_ok {G : Wo} {ι : List Addr} {H : Hp} {h : M} {d : D} {v : V} {t : Bool} (rel : Rel G ι H h) (r : RV G ι H d v) (e : truD h d = some t) : TruV G.K v H t := by
  cases d with
  | non => cases e; simp only [RV] at r; subst r; rfl
  | bl _ => cases e; simp only [RV] at r; subst r; rfl
  | int _ => cases e; simp only [RV] at r; subst r; rfl
  | str y =>
    simp only [truD] at e
    split at e
    · cases e; simp only [RV] at r; subst r; exact ⟨‹_›, rfl⟩
    · cases e
  | tup xs =>
    cases e
    obtain ⟨a, vs, rfl, s, r⟩ := tupOf_sq (xs := xs) r rfl
    exact .inr (.inl ⟨vs, s, by rw [isEmpty_len (RVs.length r)]⟩)
  | ct xs =>
    cases e
    obtain ⟨a, vs, rfl, s, r⟩ := tupOf_sq (xs := xs) r rfl
    exact .inr (.inl ⟨vs, s, by rw [isEmpty_len (RVs.length r)]⟩)
  | cl xs =>
    cases e
    obtain ⟨a, vs, rfl, s, r⟩ := lstOf_sq (xs := xs) rel r rfl
    exact .inl ⟨vs, s, by rw [isEmpty_len (RVs.length r)]⟩
  | loc l =>
    simp only [truD] at e
    split at e
    · rename_i xs e1
      cases e
      obtain ⟨a, vs, rfl, _, q, r⟩ := at_lst rel r e1
      exact .inl ⟨vs, SqL.of q, by rw [isEmpty_len (RVs.length r)]⟩
    · rename_i kvs e1
      cases e
      obtain ⟨a, vs, rfl, _, q, r⟩ := at_dK rel r e1
      exact .inr (.inr ⟨vs, q, by rw [isEmpty_len (RKs.len r)]⟩)
    · cases e
  | _ => cases e
def fTru (d : D) (h : M) : Res Bool := match truD h d with | some b => .ok b h | none => .stuck
@[simp] theorem fTru_bl {b : Bool} {h : M} : fTru (.bl b) h = .ok b h := (rfl)
def mTru (ma : ME) : MT := fun env h => (ma env h).bind fTru
theorem ft_tru (ha : FE X W ex a ma) (he : ∀ whole, isTrue a X.env whole = (do let v ← whole; standAt a.pos; holding [v] (truthy v)) := by intro _; rfl) : FT X W ex a (mTru ma) := by
  refine PT.imp (pt_truth ha he) fun σ H Q q => ?_
  obtain ⟨ι, h, env, rel, re, po⟩ := q
  refine ⟨ι, h, env, rel, re, post_bind po fun x h1 ι1 H1 v eq1 p1 k1 rel1 rv1 po1 => ?_⟩
  unfold fTru at po1
  split at po1
  · rename_i t e1
    exact ⟨t, truD_ok rel1 rv1 e1, po_ok rel1 rfl po1⟩
  · exact po1.elim

/-! ### chains -/
def mChain (f f' : D → D → M → Res D) (ma mb mc : ME) : ME := fun env h => (ma env h).bind fun x h1 => (mb env h1).bind fun y h2 => (f x y h2).bind fun z h3 => (asB z h3).bind fun t h3 => if t = true then (mc env h3).bind fun u h4 => f' y u h4 else .ok (.bl false) h3
/-- ints' order: what a chain's operator asks -/
theorem rd_chain {G : Wo} {g g' : Int → Int → Bool} {σ : St} {H : Hp} {Q : VK} (q : rdE G ex W (mChain (fI (fun _ _ => True) fun i j => .bl (g i j)) (fI (fun _ _ => True) fun i j => .bl (g' i j)) ma mb mc) σ H Q) :
    tChain (rI0 fun i j => .bl (g i j)) (rI0 fun i j => .bl (g' i j)) (rdE G ex W ma) (rdE G ex W mb) (rdE G ex W mc) σ H Q := by
  obtain ⟨ι, h, env, rel, re, po⟩ := q
  refine ⟨ι, h, env, rel, re, post_bind po fun x h1 ι1 H1 v eq1 p1 k1 rel1 rv1 po1 => ?_⟩
  refine ⟨ι1, h1, env, rel1, re.mono p1 k1, post_bind po1 fun y h2 ι2 H2 u eq2 p2 k2 rel2 rv2 po2 => ?_⟩
  have rv1 := RV.mono p2 k2 _ _ rv1
  cases x <;> (try exact po2.elim)
  cases y <;> (try exact po2.elim)
  simp only [RV] at rv1 rv2
  subst rv1; subst rv2
  simp only [fI, if_true, bind_ok, asB_bl] at po2
  refine ⟨_, _, rfl, rfl, _, rfl, ?_⟩
  split
  · rename_i ht
    rw [if_pos ht] at po2
    refine ⟨ι2, h2, env, rel2, (re.mono p1 k1).mono p2 k2, post_bind po2 fun w h3 ι3 H3 wv eq3 p3 k3 rel3 rv3 po3 => ?_⟩
    cases w <;> (try exact po3.elim)
    simp only [RV] at rv3
    subst rv3
    simp only [fI, if_true] at po3
    exact ⟨_, _, rfl, rfl, po_ok rel3 (by simp [RV]) po3⟩
  · rename_i ht
    rw [if_neg ht] at po2
    exact po_ok rel2 (by simp [RV]) po2

/-! ### a def's own contexts -/
section
variable {P : Program} {w : World} {K : PySem.W.Frag} {mg : Str → Option Value} {base : Heap} {N : List Str} {qual : Str} {sc : Scope} {f : Addr} {cd : Value} {A : Around} {outer : List Env} {s : Shared} {H : Hp} {E : XK}
theorem tkD : Takes (cxOf (L2.CX P w) P w K mg base N qual sc f cd A outer s H E) (fun c d _ H => E c d H) := takes_of rfl rfl rfl rfl
theorem poD : PassesOwn (model P w) (cxOf (L2.CX P w) P w K mg base N qual sc f cd A outer s H E).A (cxOf (L2.CX P w) P w K mg base N qual sc f cd A outer s H E).env (cxOf (L2.CX P w) P w K mg base N qual sc f cd A outer s H E).xe := passes_of rfl
end
theorem tkN : Takes X WN := takes0
end
/-- where a def of the text stands -/
structure FnAt (K : PySem.W.Frag) (mg : Str → Option Value) (x qual : Str) (st : Stmt) (ps : List Str) : Prop where
  ex : ∃ f fd, Fun K x qual st f fd ∧ mg x = some (.ref f) ∧ ∀ us : List Value, us.length = ps.length → bindArgs fd ⟨us, []⟩ = pure (ps.zip us)
theorem defOf {P : Program} {w : World} {K : PySem.W.Frag} {mg : Str → Option Value} {base : Heap} {x qual : Str} {st : Stmt} {N ps : List Str} {k : Nat} {mb : MS} (T : FnAt K mg x qual st ps) (S : FnScope N ps (defScope st))
    (body : ∀ (f : Addr) (cdv : Value) (A : Around) (outer : List Env) (s : Shared) (H : Hp) (E : XK), Room k (A.deeper (envOfC qual (defScope st) s.heap.objs.size f cdv)) →
      FSs (cxOf (L2.CX P w) P w K mg base N qual (defScope st) f cdv A outer s H E) (fun c d _ H => E c d H) none (defBody st) mb) : Def P w K mg base x (k + 1) ps.length (mFn N.length ps.length mb) := by
  obtain ⟨f, fd, F, gx, hb⟩ := T.ex
  exact def_of F S gx (.all hb) (body f)
theorem fnAt_mk {K : PySem.W.Frag} {h : Heap} {mg : Str → Option Value} (XK : K.In h) (G : h.Ns mainGlobals mg) {x : Str} {st : Stmt} {ps : List Str} {f : Addr} {oc : Value} {od an : Option Addr} {osl : Array (Option Value)} {kV doc pm cdv ct : Value}
    (hb : ∀ (kV doc pm : Value) (an : Option Addr) (cdv ct : Value) (us : List Value), us.length = ps.length → bindArgs (PySem.W.fnOf x x (defArgs st) (defBody st) (defScope st) .none kV doc pm an cdv ct) ⟨us, []⟩ = pure (ps.zip us))
    (a : PySem.W.nsIn K mainGlobals x = some (some (.ref f))) (l : K.lookup f = some ⟨oc, od, .func (PySem.W.fnOf x x (defArgs st) (defBody st) (defScope st) .none kV doc pm an cdv ct), osl⟩)
    (c : PySem.W.codeIn K cdv x = true) (k : PySem.W.keepIn K (.ref f) = true) : FnAt K mg x x st ps :=
  ⟨f, _, fun_mk (st := st) l c k, PySem.W.mg_of XK G a, hb kV doc pm an cdv ct⟩
/-- what the law's call is handed -/
def spL (K : PySem.W.Frag) : Sp := fun vs H Q _ => ∃ (a : Addr) (ns : List Int), vs = [.ref a] ∧ ns.length ≤ 63 ∧ (∀ z ∈ ns, Builtin.Int.intBits z ≤ 1048576) ∧ Only H ∧ SqL K H a (ns.map V.int) ∧ ∀ H', Q (.bl true) H'
/-- the mathematics' last word -/
def LawHolds (m : List D → M → Res D) : Prop := ∀ ns : List Int, ns.length ≤ 63 → (∀ z ∈ ns, Builtin.Int.intBits z ≤ 1048576) → ∃ h', m [.cl (ns.map D.int)] [] = .ok (.bl true) h'
theorem law_in {K : PySem.W.Frag} {mg : Str → Option Value} {m : List D → M → Res D} (hm : LawHolds m) (vs : List V) (H : Hp) (Q : VK) (E : XK) (h : spL K vs H Q E) : spF ⟨K, mg⟩ 1 m vs H Q E := by
  obtain ⟨a, ns, rfl, hl, hbits, hO, hS, hQ⟩ := h
  refine ⟨rfl, [], [], [.cl (ns.map D.int)], ⟨rfl, fun i j b h _ => by simp at h, fun l o h => by simp at h⟩, RVs.one ?_, ?_⟩
  · simp only [RV]
    refine ⟨a, ns.map V.int, rfl, ?_, ?_⟩
    · rcases hS with (h | ⟨o, h⟩) | h
      · exfalso
        rcases hO a with z | ⟨o, xs, z⟩
        · rw [z] at h; cases h
        · rw [z] at h; cases h
      · exact .inl ⟨o, h⟩
      · exact .inr h
    · clear hS hm hl hbits
      induction ns with
      | nil => exact RVs.nil
      | cons n ns ih => exact RVs.cons (by simp [RV]) ih
  · obtain ⟨h', e⟩ := hm ns hl hbits
    rw [e]
    intro ι' H' v _ _ _ rv
    simp only [RV] at rv
    subst rv
    exact hQ H'
theorem cx_none {P : Program} {w : World} (H : Hp) (s : Shared) (e : Value) (s' : Shared) (h : L2.CX P w [] H s (fun _ _ _ => False) e s') : False := by
  obtain ⟨_, _, _, _, _, _, _, _, _, _, _, _, z⟩ := h
  exact z.elim
/-- the law's own def -/
theorem lawOf {P : Program} {w : World} {K : PySem.W.Frag} {mg : Str → Option Value} {st : Stmt} {N : List Str} {k : Nat} {mb : MS} {fa : Addr} (T : FnAt K mg "law" "law" st ["script"]) (hmg : mg "law" = some (.ref fa)) (S : FnScope N ["script"] (defScope st))
    (body : ∀ (base : Heap) (f : Addr) (cdv : Value) (A : Around) (outer : List Env) (s : Shared) (H : Hp) (E : XK), Room k (A.deeper (envOfC "law" (defScope st) s.heap.objs.size f cdv)) →
      FSs (cxOf (L2.CX P w) P w K mg base N "law" (defScope st) f cdv A outer s H E) (fun c d _ H => E c d H) none (defBody st) mb) (hm : LawHolds (mFn N.length 1 mb)) :
    ∃ fd : FuncData, (∀ (s : Shared) (u : Value), BindsTo s fd ⟨[u], []⟩ [(("script" : Str), u)]) ∧ ∀ base : Heap, K.In base → base.Ns mainGlobals mg → FnOk P w K mg base (L2.CX P w) (k + 1) fa fd ["script"] (spL K) := by
  obtain ⟨f, fd, F, gx, hb⟩ := T.ex
  cases gx.symm.trans hmg
  refine ⟨fd, fun s u => .of_eq (hb [u] rfl), fun base _ _ => FnOk.imp (sp := spF ⟨K, mg⟩ 1 (mFn N.length 1 mb)) (F.okX S (fun vs H Q E h => h.1) fun cdv A outer s H vs Q E hr hsp => ⟨_, body base fa cdv A outer s H E hr, ?_⟩) fun vs H Q E h => law_in hm vs H Q E h⟩
  exact body_end (ps := ["script"]) hsp
/-- the end of a law's row -/
theorem law_walk {l : PySem.W.OpenLaw} {k : Nat} {q : Program} {loose : List Str} {XP : (Str → Option Value) → Heap → Prop} {YP : World → Heap → Prop} {d : DefRec} {K : Params → PySem.W.Frag}
    (hn : l.most = some 63) (hdf : d.params.defaults = []) (hr : Room k callerA) (hY : ∀ (w : World) (h : Heap), YP w h → (K w.params).In h)
    (F : ∀ (w : World) (mg : Str → Option Value) (fa : Addr) (h : Heap), (K w.params).In h → h.Ns mainGlobals mg → mg d.name = some (.ref fa) → ∃ fd : FuncData, (∀ (s : Shared) (u : Value), BindsTo s fd ⟨[u], []⟩ [(("script" : Str), u)]) ∧
        ∀ base : Heap, (K w.params).In base → base.Ns mainGlobals mg → FnOk l.prog w (K w.params) mg base (L2.CX l.prog w) k fa fd ["script"] (spL (K w.params))) :
    PySem.W.WalkO q loose XP YP l.row.toRowW d [] (fun f vs => PySem.call f vs) :=
  walk_ofB (n := 63) (CX := fun w => L2.CX l.prog w) (sp := fun w => spL (K w.params)) hn (by decide) hdf hr hY F
    (fun w H a ns h1 h2 h3 h4 => ⟨a, ns, rfl, h1, h2, h3, h4, fun _ => rfl⟩) fun w H s e s' z => cx_none H s e s' z
end LF
set_option Elab.async false
set_option linter.all false
set_option maxRecDepth 100000
set_option maxHeartbeats 4000000
/-! LFM: a small logic over the plain machine. -/
namespace LF
open PySem L2
abbrev XP := Str → List Str → List D → M → Prop
/-- what must hold behind an expression; a class, so that simp leaves it alone -/
class Kw (α : Type) where
  q : α → M → Prop
  x : XP
def Wc {α : Type} (r : Res α) [k : Kw α] : Prop := match r with
  | .ok a h => k.q a h
  | .exc x ns vs h => k.x x ns vs h
  | .stuck => False
class Kt where
  nx : En → M → Prop
  rt : D → M → Prop
  bk : En → M → Prop
  ct : En → M → Prop
  ex : Str → List Str → List D → En → M → Prop
def Ws (r : SR) [k : Kt] : Prop := match r with
  | .nx e h => k.nx e h
  | .rt d h => k.rt d h
  | .bk e h => k.bk e h
  | .ct e h => k.ct e h
  | .exc x ns vs e h => k.ex x ns vs e h
  | .stuck => False
abbrev noEx : XP := fun _ _ _ _ => False
/-- what a call that raises nothing comes to -/
def Wp {α : Type} (r : Res α) (Q : α → M → Prop) : Prop := @Wc α r ⟨Q, noEx⟩
/-- and one that may raise -/
def Wx {α : Type} (r : Res α) (Q : α → M → Prop) (X : XP) : Prop := @Wc α r ⟨Q, X⟩
theorem Wc.mono {α : Type} {r : Res α} {k k' : Kw α} (h : @Wc α r k) (hq : ∀ a h, k.q a h → k'.q a h) (hx : ∀ x ns vs h, k.x x ns vs h → k'.x x ns vs h) : @Wc α r k' := by
  cases r with
  | ok a h1 => exact hq _ _ h
  | exc x ns vs h1 => exact hx _ _ _ _ h
  | stuck => exact h
/-- behind a call that raises nothing -/
theorem Wp.call {α : Type} {r : Res α} {Q Q' : α → M → Prop} {X : XP} (h : Wp r Q) (hq : ∀ a h, Q a h → Q' a h) : @Wc α r ⟨Q', X⟩ := Wc.mono h hq fun _ _ _ _ z => z.elim
theorem Wx.call {α : Type} {r : Res α} {Q Q' : α → M → Prop} {X X' : XP} (h : Wx r Q X) (hq : ∀ a h, Q a h → Q' a h) (hx : ∀ x ns vs h, X x ns vs h → X' x ns vs h) : @Wc α r ⟨Q', X'⟩ := Wc.mono h hq hx
theorem Wp.mono {α : Type} {r : Res α} {Q Q' : α → M → Prop} (h : Wp r Q) (hq : ∀ a h, Q a h → Q' a h) : Wp r Q' := Wc.mono h hq fun _ _ _ _ z => z
theorem Ws.mono {r : SR} {k k' : Kt} (h : @Ws r k) (h1 : ∀ e m, k.nx e m → k'.nx e m) (h2 : ∀ d m, k.rt d m → k'.rt d m) (h3 : ∀ e m, k.bk e m → k'.bk e m) (h4 : ∀ e m, k.ct e m → k'.ct e m) (h5 : ∀ x ns vs e m, k.ex x ns vs e m → k'.ex x ns vs e m) : @Ws r k' := by
  cases r with
  | nx => exact h1 _ _ h
  | rt => exact h2 _ _ h
  | bk => exact h3 _ _ h
  | ct => exact h4 _ _ h
  | exc => exact h5 _ _ _ _ _ h
  | stuck => exact h
theorem wc_eq {α : Type} {r : Res α} {Q Q' : α → M → Prop} {X : XP} (e : ∀ a h, Q a h = Q' a h) : @Wc α r ⟨Q, X⟩ = @Wc α r ⟨Q', X⟩ := by
  have : Q = Q' := by funext a h; exact e a h
  rw [this]
theorem Wc.ok_of {α : Type} {r : Res α} {Q : α → M → Prop} (h : @Wc α r ⟨Q, noEx⟩) : ∃ a m, r = .ok a m ∧ Q a m := by
  cases r with
  | ok a m => exact ⟨a, m, rfl, h⟩
  | exc => exact h.elim
  | stuck => exact h.elim
section
variable {α β : Type} {Q : α → M → Prop} {X : XP} {env : En} {h : M} {nx : En → M → Prop} {rt : D → M → Prop} {bk ct : En → M → Prop} {ex : Str → List Str → List D → En → M → Prop}
@[simp] theorem wp_ok {a : α} : @Wc α (.ok a h) ⟨Q, X⟩ = Q a h := (rfl)
@[simp] theorem wp_exc {x ns vs} : @Wc α (.exc x ns vs h) ⟨Q, X⟩ = X x ns vs h := (rfl)
@[simp] theorem wp_stuck : @Wc α .stuck ⟨Q, X⟩ = False := (rfl)
@[simp] theorem wp_guard {c : Prop} [Decidable c] {r : Res α} : @Wc α (if c then r else .stuck) ⟨Q, X⟩ = (c ∧ @Wc α r ⟨Q, X⟩) := by
  split
  · rename_i hc; exact propext ⟨fun z => ⟨hc, z⟩, fun z => z.2⟩
  · rename_i hc; exact propext ⟨fun z => z.elim, fun z => hc z.1⟩
theorem wp_ite {c : Prop} [Decidable c] {r s : Res α} : @Wc α (if c then r else s) ⟨Q, X⟩ = if c then @Wc α r ⟨Q, X⟩ else @Wc α s ⟨Q, X⟩ := by split <;> rfl
@[simp] theorem wp_bind {r : Res β} {k : β → M → Res α} : @Wc α (r.bind k) ⟨Q, X⟩ = @Wc β r ⟨fun a h => @Wc α (k a h) ⟨Q, X⟩, X⟩ := by cases r <;> rfl
@[simp] theorem ws_of {r : Res α} {k : α → M → SR} : @Ws (SR.of r env k) ⟨nx, rt, bk, ct, ex⟩ = @Wc α r ⟨fun a h => @Ws (k a h) ⟨nx, rt, bk, ct, ex⟩, fun x ns vs h => ex x ns vs env h⟩ := by cases r <;> rfl
@[simp] theorem ws_nx : @Ws (.nx env h) ⟨nx, rt, bk, ct, ex⟩ = nx env h := (rfl)
@[simp] theorem ws_rt {d : D} : @Ws (.rt d h) ⟨nx, rt, bk, ct, ex⟩ = rt d h := (rfl)
@[simp] theorem ws_bk : @Ws (.bk env h) ⟨nx, rt, bk, ct, ex⟩ = bk env h := (rfl)
@[simp] theorem ws_ct : @Ws (.ct env h) ⟨nx, rt, bk, ct, ex⟩ = ct env h := (rfl)
@[simp] theorem ws_stuck : @Ws .stuck ⟨nx, rt, bk, ct, ex⟩ = False := (rfl)
@[simp] theorem ws_exc {x ns vs} : @Ws (.exc x ns vs env h) ⟨nx, rt, bk, ct, ex⟩ = ex x ns vs env h := (rfl)
@[simp] theorem ws_seq {a b : MS} : @Ws (mSeq a b env h) ⟨nx, rt, bk, ct, ex⟩ = @Ws (a env h) ⟨fun env h => @Ws (b env h) ⟨nx, rt, bk, ct, ex⟩, rt, bk, ct, ex⟩ := by
  unfold mSeq; cases a env h <;> rfl
@[simp] theorem ws_skip : @Ws (mSkip env h) ⟨nx, rt, bk, ct, ex⟩ = nx env h := (rfl)
@[simp] theorem ws_set {i : Nat} {m : ME} : @Ws (mSet i m env h) ⟨nx, rt, bk, ct, ex⟩ = @Wc D (m env h) ⟨fun d h => nx (env.set i (.va d)) h, fun x ns vs h => ex x ns vs env h⟩ := by unfold mSet; rw [ws_of]; rfl
@[simp] theorem ws_do {m : ME} : @Ws (mDo m env h) ⟨nx, rt, bk, ct, ex⟩ = @Wc D (m env h) ⟨fun _ h => nx env h, fun x ns vs h => ex x ns vs env h⟩ := by unfold mDo; rw [ws_of]; rfl
@[simp] theorem ws_ret {m : ME} : @Ws (mRet m env h) ⟨nx, rt, bk, ct, ex⟩ = @Wc D (m env h) ⟨rt, fun x ns vs h => ex x ns vs env h⟩ := by unfold mRet; rw [ws_of]; rfl
@[simp] theorem ws_retN : @Ws (mRetN env h) ⟨nx, rt, bk, ct, ex⟩ = rt .non h := (rfl)
@[simp] theorem ws_break : @Ws (mBreak env h) ⟨nx, rt, bk, ct, ex⟩ = bk env h := (rfl)
@[simp] theorem ws_cont : @Ws (mCont env h) ⟨nx, rt, bk, ct, ex⟩ = ct env h := (rfl)
@[simp] theorem ws_if {t : MT} {a b : MS} : @Ws (mIfS t a b env h) ⟨nx, rt, bk, ct, ex⟩ = @Wc Bool (t env h) ⟨fun c h => if c = true then @Ws (a env h) ⟨nx, rt, bk, ct, ex⟩ else @Ws (b env h) ⟨nx, rt, bk, ct, ex⟩, fun x ns vs h => ex x ns vs env h⟩ := by
  unfold mIfS
  rw [ws_of]
  exact wc_eq fun c _ => by cases c <;> rfl
@[simp] theorem ws_m3 {f : D → D → D → M → Res Unit} {mo mi me : ME} : @Ws (m3 f mo mi me env h) ⟨nx, rt, bk, ct, ex⟩ = @Wc D (me env h) ⟨fun v h => @Wc D (mo env h) ⟨fun o h => @Wc D (mi env h) ⟨fun i h => @Wc Unit (f o i v h) ⟨fun _ h => nx env h, fun x ns vs h => ex x ns vs env h⟩, fun x ns vs h => ex x ns vs env h⟩, fun x ns vs h => ex x ns vs env h⟩, fun x ns vs h => ex x ns vs env h⟩ := by
  unfold m3; rw [ws_of, wp_bind]; exact wc_eq fun _ _ => by rw [wp_bind]; exact wc_eq fun _ _ => by rw [wp_bind]; rfl
@[simp] theorem ws_asg {m : ME} {g : MG} : @Ws (mAsg m g env h) ⟨nx, rt, bk, ct, ex⟩ = @Wc D (m env h) ⟨fun d h => @Wc En (g d env h) ⟨fun env' h => nx env' h, fun x ns vs h => ex x ns vs env h⟩, fun x ns vs h => ex x ns vs env h⟩ := by
  unfold mAsg; rw [ws_of]; exact wc_eq fun _ _ => by rw [ws_of]; rfl
end
section
variable {Q : D → M → Prop} {QB : Bool → M → Prop} {QL : List D → M → Prop} {QO : Option Int → M → Prop} {QI : Itr' → M → Prop} {QE : En → M → Prop} {X : XP} {env : En} {h : M} {ma mb mc : ME} {mas : MA}
@[simp] theorem wp_c {d : D} : @Wc D (mC d env h) ⟨Q, X⟩ = Q d h := (rfl)
@[simp] theorem wp_m2 {f : D → D → M → Res D} : @Wc D (m2 f ma mb env h) ⟨Q, X⟩ = @Wc D (ma env h) ⟨fun x h => @Wc D (mb env h) ⟨fun y h => @Wc D (f x y h) ⟨Q, X⟩, X⟩, X⟩ := by
  unfold m2; rw [wp_bind]; exact wc_eq fun _ _ => by rw [wp_bind]
@[simp] theorem wp_m1 {f : D → M → Res D} : @Wc D (m1 f ma env h) ⟨Q, X⟩ = @Wc D (ma env h) ⟨fun x h => @Wc D (f x h) ⟨Q, X⟩, X⟩ := by
  unfold m1; rw [wp_bind]
@[simp] theorem wp_nil : @Wc (List D) (mNil env h) ⟨QL, X⟩ = QL [] h := (rfl)
@[simp] theorem wp_cons : @Wc (List D) (mCons ma mas env h) ⟨QL, X⟩ = @Wc D (ma env h) ⟨fun x h => @Wc (List D) (mas env h) ⟨fun xs h => QL (x :: xs) h, X⟩, X⟩ := by
  unfold mCons; rw [wp_bind]; exact wc_eq fun _ _ => by rw [wp_bind]; rfl
@[simp] theorem wp_L {f : List D → M → Res D} : @Wc D (mL f mas env h) ⟨Q, X⟩ = @Wc (List D) (mas env h) ⟨fun xs h => @Wc D (f xs h) ⟨Q, X⟩, X⟩ := by
  unfold mL; rw [wp_bind]
@[simp] theorem wp_test : @Wc Bool (mTest ma env h) ⟨QB, X⟩ = @Wc D (ma env h) ⟨fun d h => @Wc Bool (asB d h) ⟨QB, X⟩, X⟩ := by
  unfold mTest; rw [wp_bind]
@[simp] theorem wp_tru : @Wc Bool (mTru ma env h) ⟨QB, X⟩ = @Wc D (ma env h) ⟨fun d h => @Wc Bool (fTru d h) ⟨QB, X⟩, X⟩ := by
  unfold mTru; rw [wp_bind]
@[simp] theorem wp_notT {t : MT} : @Wc Bool (mNotT t env h) ⟨QB, X⟩ = @Wc Bool (t env h) ⟨fun b h => QB (!b) h, X⟩ := by
  unfold mNotT; rw [wp_bind]; rfl
@[simp] theorem wp_andT {t u : MT} : @Wc Bool (mAndT t u env h) ⟨QB, X⟩ = @Wc Bool (t env h) ⟨fun b h => if b = true then @Wc Bool (u env h) ⟨QB, X⟩ else QB false h, X⟩ := by
  simp only [mAndT, wp_bind]; exact wc_eq fun b _ => by cases b <;> rfl
@[simp] theorem wp_orT {t u : MT} : @Wc Bool (mOrT t u env h) ⟨QB, X⟩ = @Wc Bool (t env h) ⟨fun b h => if b = true then QB true h else @Wc Bool (u env h) ⟨QB, X⟩, X⟩ := by
  simp only [mOrT, wp_bind]; exact wc_eq fun b _ => by cases b <;> rfl
@[simp] theorem wp_notV : @Wc D (mNotV ma env h) ⟨Q, X⟩ = @Wc D (ma env h) ⟨fun d h => @Wc Bool (asB d h) ⟨fun b h => Q (.bl (!b)) h, X⟩, X⟩ := by
  unfold mNotV; rw [wp_bind]; exact wc_eq fun _ _ => by rw [wp_bind]; rfl
@[simp] theorem wp_andV : @Wc D (mAndV ma mb env h) ⟨Q, X⟩ = @Wc D (ma env h) ⟨fun d h => @Wc Bool (asB d h) ⟨fun b h => if b = true then @Wc D (mb env h) ⟨Q, X⟩ else Q (.bl false) h, X⟩, X⟩ := by
  unfold mAndV; rw [wp_bind]; exact wc_eq fun _ _ => by rw [wp_bind]; exact wc_eq fun b _ => by cases b <;> rfl
@[simp] theorem wp_orV : @Wc D (mOrV ma mb env h) ⟨Q, X⟩ = @Wc D (ma env h) ⟨fun d h => @Wc Bool (asB d h) ⟨fun b h => if b = true then Q (.bl true) h else @Wc D (mb env h) ⟨Q, X⟩, X⟩, X⟩ := by
  unfold mOrV; rw [wp_bind]; exact wc_eq fun _ _ => by rw [wp_bind]; exact wc_eq fun b _ => by cases b <;> rfl
@[simp] theorem wp_if {t : MT} : @Wc D (mIf t ma mb env h) ⟨Q, X⟩ = @Wc Bool (t env h) ⟨fun b h => if b = true then @Wc D (ma env h) ⟨Q, X⟩ else @Wc D (mb env h) ⟨Q, X⟩, X⟩ := by
  simp only [mIf, wp_bind]; exact wc_eq fun b _ => by cases b <;> rfl
@[simp] theorem wp_noPart : @Wc (Option Int) (mNoPart env h) ⟨QO, X⟩ = QO none h := (rfl)
@[simp] theorem wp_part : @Wc (Option Int) (mPart ma env h) ⟨QO, X⟩ = @Wc D (ma env h) ⟨fun d h => match d with | .int i => QO (some i) h | _ => False, X⟩ := by
  simp only [mPart, wp_bind]; exact wc_eq fun d _ => by cases d <;> rfl
@[simp] theorem wp_sl {lo hi : MO} : @Wc D (mSl ma lo hi env h) ⟨Q, X⟩ = @Wc D (ma env h) ⟨fun x h => @Wc (Option Int) (lo env h) ⟨fun l h => @Wc (Option Int) (hi env h) ⟨fun u h => @Wc D (fSl x l u h) ⟨Q, X⟩, X⟩, X⟩, X⟩ := by
  unfold mSl; rw [wp_bind]; exact wc_eq fun _ _ => by rw [wp_bind]; exact wc_eq fun _ _ => by rw [wp_bind]
@[simp] theorem wp_bm {T : String} {f : D → List D → M → Res D} : @Wc D (mBM T f ma mas env h) ⟨Q, X⟩ = @Wc D (ma env h) ⟨fun x h => isTyp h T x = true ∧ @Wc (List D) (mas env h) ⟨fun xs h => @Wc D (f x xs h) ⟨Q, X⟩, X⟩, X⟩ := by
  unfold mBM; rw [wp_bind]; exact wc_eq fun _ _ => by rw [wp_guard, wp_bind]
@[simp] theorem wp_fix {n : Nat} {m : List D → M → Res D} {ds : List D} : @Wc D (mFix n m ds h) ⟨Q, X⟩ = (ds.length = n ∧ @Wc D (m ds h) ⟨Q, X⟩) := by
  simp only [mFix, wp_guard]
@[simp] theorem wp_iter : @Wc Itr' (mIter ma env h) ⟨QI, X⟩ = @Wc D (ma env h) ⟨fun d h => @Wc Itr' (itOf d h) ⟨QI, X⟩, X⟩ := by
  unfold mIter; rw [wp_bind]
@[simp] theorem wp_rng : @Wc Itr' (mRng mas env h) ⟨QI, X⟩ = @Wc (List D) (mas env h) ⟨fun d h => @Wc Itr' (fRng d h) ⟨QI, X⟩, X⟩ := by
  unfold mRng; rw [wp_bind]
@[simp] theorem wp_gN {i : Nat} {d : D} : @Wc En (gN i d env h) ⟨QE, X⟩ = QE (env.set i (.va d)) h := (rfl)
@[simp] theorem wp_yes : @Wc Bool (mYes env h) ⟨QB, X⟩ = QB true h := (rfl)
/-- a def's body -/
theorem wp_fn {N n : Nat} {mb : MS} {ds : List D} : @Wc D (mFn N n mb ds h) ⟨Q, X⟩ = @Ws (mb (ds.map .va ++ List.replicate (N - n) .no) h) ⟨fun _ h => Q .non h, Q, fun _ _ => False, fun _ _ => False, fun x ns vs _ h => X x ns vs h⟩ := by
  unfold mFn; cases mb (ds.map .va ++ List.replicate (N - n) .no) h <;> rfl
/-! ### values -/
@[simp] theorem v_var {i : Nat} : mVar i env h = match env[i]? with | some (.va d) => .ok d h | _ => .stuck := (rfl)
@[simp] theorem v_asB {b : Bool} : asB (.bl b) h = .ok b h := (rfl)
@[simp] theorem v_add {i j : Int} : fAdd (.int i) (.int j) h = .ok (.int (i + j)) h := (rfl)
@[simp] theorem v_sub {i j : Int} : fSub (.int i) (.int j) h = .ok (.int (i - j)) h := by simp [fSub, fI]
theorem v_mulW {i j : Int} (hc : CMulW i j) : fMul (.int i) (.int j) h = .ok (.int (i * j)) h := by simp [fMul, hc]
theorem v_divW {i j : Int} (hc : CDivW i j) : fDiv (.int i) (.int j) h = .ok (.int (i / j)) h := by simp [fDiv, fI, hc]
theorem abs_lt {i : Int} (h1 : -1606938044258990275541962092341162602522202993782792835301376 < i) (h2 : i < 1606938044258990275541962092341162602522202993782792835301376) : i.natAbs < 2 ^ 200 := by omega
@[simp] theorem v_mul {i j : Int} : fMul (.int i) (.int j) h = if CMulW i j then .ok (.int (i * j)) h else .stuck := (rfl)
@[simp] theorem v_div {i j : Int} : fDiv (.int i) (.int j) h = if CDivW i j then .ok (.int (i / j)) h else .stuck := by simp [fDiv, fI]
@[simp] theorem v_mod {i j : Int} : fMod (.int i) (.int j) h = if 0 < j then .ok (.int (i % j)) h else .stuck := by simp [fMod, fI]
theorem cmulW {i j : Int} (h1 : -1606938044258990275541962092341162602522202993782792835301376 < i) (h2 : i < 1606938044258990275541962092341162602522202993782792835301376) (h3 : -1606938044258990275541962092341162602522202993782792835301376 < j) (h4 : j < 1606938044258990275541962092341162602522202993782792835301376) : CMulW i j :=
  wide_mul (abs_lt h1 h2) (abs_lt h3 h4) (by decide) (by decide) (by decide)
theorem cdivW {i j : Int} (h1 : 0 < j) (h2 : j < 1606938044258990275541962092341162602522202993782792835301376) : CDivW i j := wide_div h1 (abs_lt (by omega) h2) (by decide) (by decide)
@[simp] theorem v_lt {i j : Int} : fLt (.int i) (.int j) h = .ok (.bl (decide (i < j))) h := by simp [fLt, fI]
@[simp] theorem v_le {i j : Int} : fLe (.int i) (.int j) h = .ok (.bl (decide (i ≤ j))) h := by simp [fLe, fI]
@[simp] theorem v_gt {i j : Int} : fGt (.int i) (.int j) h = .ok (.bl (decide (j < i))) h := by simp [fGt, fI]
@[simp] theorem v_ge {i j : Int} : fGe (.int i) (.int j) h = .ok (.bl (decide (j ≤ i))) h := by simp [fGe, fI]
@[simp] theorem v_int {i : Int} : fInt [.int i] h = .ok (.int i) h := (rfl)
@[simp] theorem v_min {i j : Int} : fMin [.int i, .int j] h = .ok (.int (if j < i then j else i)) h := (rfl)
@[simp] theorem v_max {i j : Int} : fMax [.int i, .int j] h = .ok (.int (if j > i then j else i)) h := (rfl)
@[simp] theorem v_eqI {i j : Int} : fEq (.int i) (.int j) h = .ok (.bl (decide (i = j))) h := (rfl)
@[simp] theorem v_neI {i j : Int} : fNe (.int i) (.int j) h = .ok (.bl (!decide (i = j))) h := (rfl)
@[simp] theorem v_eqS {i j : Str} : fEq (.str i) (.str j) h = .ok (.bl (decide (i = j))) h := (rfl)
@[simp] theorem v_neS {i j : Str} : fNe (.str i) (.str j) h = .ok (.bl (!decide (i = j))) h := (rfl)
@[simp] theorem ixN_lit {len n : Nat} : ixN len (no_index (OfNat.ofNat n) : Int) = if n < len then some n else none := by
  unfold ixN
  have h0 : (0 : Int) ≤ (OfNat.ofNat n : Int) := Int.natCast_nonneg n
  rw [if_pos h0]
  have e : ((OfNat.ofNat n : Int) < (len : Int)) ↔ n < len := Int.ofNat_lt
  by_cases hl : n < len
  · rw [if_pos (e.mpr hl), if_pos hl]; rfl
  · rw [if_neg (fun z => hl (e.mp z)), if_neg hl]
theorem ixN_nat {len n : Nat} : ixN len (n : Int) = if n < len then some n else none := by
  unfold ixN
  rw [if_pos (Int.natCast_nonneg n)]
  by_cases hl : n < len
  · rw [if_pos (Int.ofNat_lt.mpr hl), if_pos hl]; rfl
  · rw [if_neg (fun z => hl (Int.ofNat_lt.mp z)), if_neg hl]
@[simp] theorem atI_lit {α : Type} {xs : List α} {n : Nat} : atI xs (no_index (OfNat.ofNat n) : Int) = xs[n]? := by
  unfold atI
  rw [ixN_lit]
  by_cases hl : n < xs.length
  · rw [if_pos hl]; rfl
  · rw [if_neg hl, List.getElem?_eq_none (Nat.le_of_not_lt hl)]; rfl
theorem atI_n {α : Type} {xs : List α} {n : Nat} : atI xs (n : Int) = xs[n]? := by
  unfold atI
  rw [ixN_nat]
  by_cases hl : n < xs.length
  · rw [if_pos hl]; rfl
  · rw [if_neg hl, List.getElem?_eq_none (Nat.le_of_not_lt hl)]; rfl
/-- a list's item -/
@[simp] theorem v_ixL {l : Nat} {i : Int} : fIx (.loc l) (.int i) h = match h[l]? with
    | some (.lst xs) => match atI xs i with | some d => .ok d h | none => .stuck
    | some (.dK kvs) => match valD kvs (.inl i) with | some d => .ok d h | none => .stuck
    | _ => .stuck := by
  unfold fIx seqOf
  simp only [tupOf, lstOf, dGet, keyD, keysD]
  cases h[l]? with
  | none => rfl
  | some o => cases o with
    | lst xs => rfl
    | dK kvs => simp only [Option.map_some]; cases valD kvs (.inl i) <;> rfl
    | dT kvs => rfl
    | ins x fs => rfl
@[simp] theorem v_ixT {xs : List D} {i : Int} : fIx (.tup xs) (.int i) h = match atI xs i with | some d => .ok d h | none => .stuck := (rfl)
@[simp] theorem v_ixC {xs : List D} {i : Int} : fIx (.cl xs) (.int i) h = match atI xs i with | some d => .ok d h | none => .stuck := (rfl)
@[simp] theorem v_ixK {xs : List D} {i : Int} : fIx (.ct xs) (.int i) h = match atI xs i with | some d => .ok d h | none => .stuck := (rfl)
@[simp] theorem v_putL {l : Nat} {i v : D} {xs : List D} (e : h[l]? = some (.lst xs)) : fPut (.loc l) i v h = match i with
    | .int k => match ixN xs.length k with | some j => .ok () (h.set l (.lst (xs.set j v))) | none => .stuck
    | _ => .stuck := by simp only [fPut, e] <;> cases i <;> rfl
@[simp] theorem v_app {l : Nat} {d : D} {xs : List D} (e : h[l]? = some (.lst xs)) (hz : xs.length < sizeLine) : fAppend (.loc l) [d] h = .ok .non (h.set l (.lst (xs ++ [d]))) := by simp only [fAppend, e, hz, if_true]
@[simp] theorem v_isN : fIsN .non h = .ok (.bl true) h := (rfl)
end
/-! ### loops -/
section
variable {chk : M → Prop} {g : MG} {mb : MS} {nx : En → M → Prop} {rt : D → M → Prop} {bk ct : En → M → Prop} {ex : Str → List Str → List D → En → M → Prop}
/-- a for loop by what holds ahead of each turn -/
theorem floop_inv {items : List D} {env : En} {h : M} (I : Nat → En → M → Prop) (h0 : I 0 env h) (ck : ∀ i env h, i ≤ items.length → I i env h → chk h)
    (step : ∀ i d env h, items[i]? = some d → I i env h → @Wc En (g d env h) ⟨fun env h => @Ws (mb env h) ⟨I (i + 1), rt, nx, I (i + 1), ex⟩, fun x ns vs h => ex x ns vs env h⟩) (fin : ∀ env h, I items.length env h → nx env h) :
    @Ws (floop chk g mb items env h) ⟨nx, rt, bk, ct, ex⟩ := by
  have go : ∀ (n i : Nat) (env : En) (h : M), items.length - i = n → i ≤ items.length → I i env h → @Ws (floop chk g mb (items.drop i) env h) ⟨nx, rt, bk, ct, ex⟩ := by
    intro n
    induction n with
    | zero =>
      intro i env h e hi p
      have : i = items.length := by omega
      subst this
      simp only [List.drop_length]
      unfold floop
      rw [if_pos (ck _ _ _ (Nat.le_refl _) p)]
      exact fin _ _ p
    | succ n ih =>
      intro i env h e hi p
      have hlt : i < items.length := by omega
      rw [List.drop_eq_getElem_cons hlt]
      unfold floop
      rw [if_pos (ck _ _ _ hi p), ws_of]
      refine Wc.mono (step i items[i] env h (List.getElem?_eq_getElem hlt) p) (fun env1 h1 q => ?_) fun _ _ _ _ z => z
      have q : @Ws (mb env1 h1) ⟨I (i + 1), rt, nx, I (i + 1), ex⟩ := q
      show @Ws _ ⟨nx, rt, bk, ct, ex⟩
      cases e1 : mb env1 h1 with
      | nx e2 h2 => rw [e1] at q; exact ih (i + 1) e2 h2 (by omega) hlt q
      | ct e2 h2 => rw [e1] at q; exact ih (i + 1) e2 h2 (by omega) hlt q
      | bk e2 h2 => rw [e1] at q; exact q
      | rt d h2 => rw [e1] at q; exact q
      | exc x ns vs e2 h2 => rw [e1] at q; exact q
      | stuck => rw [e1] at q; exact q
  simpa using go items.length 0 env h (by simp) (Nat.zero_le _) h0
@[simp] theorem ws_for {mi : MI} {env : En} {h : M} : @Ws (mFor mi g mb env h) ⟨nx, rt, bk, ct, ex⟩ = @Wc Itr' (mi env h) ⟨fun it h => @Ws (floop it.chk g mb it.items env h) ⟨nx, rt, bk, ct, ex⟩, fun x ns vs h => ex x ns vs env h⟩ := by
  unfold mFor; rw [ws_of]
/-- a comprehension by what holds ahead of each turn: I i acc h -/
theorem lcloop_inv {Q : D → M → Prop} {X : XP} {env : En} {tt : MT} {me : ME} {l : Nat} {items : List D} {h : M} (I : Nat → List D → M → Prop) (h0 : I 0 [] h) (ck : ∀ i acc h, i ≤ items.length → I i acc h → chk h)
    (step : ∀ i d acc h, items[i]? = some d → I i acc h → @Wc En (g d env h) ⟨fun env2 h => @Wc Bool (tt env2 h) ⟨fun b h => if b = true then @Wc D (me env2 h) ⟨fun y h => h[l]? = some (.lst acc) ∧ acc.length < sizeLine ∧ I (i + 1) (acc ++ [y]) (h.set l (.lst (acc ++ [y]))), noEx⟩ else I (i + 1) acc h, noEx⟩, noEx⟩)
    (fin : ∀ acc h, I items.length acc h → Q (.loc l) h) : @Wc D (lcloopN chk env g tt me l items h) ⟨Q, X⟩ := by
  have go : ∀ (n i : Nat) (acc : List D) (h : M), items.length - i = n → i ≤ items.length → I i acc h → @Wc D (lcloopN chk env g tt me l (items.drop i) h) ⟨Q, X⟩ := by
    intro n
    induction n with
    | zero =>
      intro i acc h e hi p
      have : i = items.length := by omega
      subst this
      simp only [List.drop_length]
      unfold lcloopN
      rw [if_pos (ck _ _ _ (Nat.le_refl _) p)]
      exact fin _ _ p
    | succ n ih =>
      intro i acc h e hi p
      have hlt : i < items.length := by omega
      rw [List.drop_eq_getElem_cons hlt]
      unfold lcloopN
      rw [if_pos (ck _ _ _ hi p)]
      obtain ⟨env2, h2, e1, q1⟩ := Wc.ok_of (step i items[i] acc h (List.getElem?_eq_getElem hlt) p)
      rw [e1]
      simp only [noX_ok, bind_ok]
      obtain ⟨b, h3, e2, q2⟩ := Wc.ok_of q1
      rw [e2]
      simp only [noX_ok, bind_ok]
      cases b with
      | false => exact ih (i + 1) acc h3 (by omega) hlt q2
      | true =>
        simp only [if_true] at q2 ⊢
        obtain ⟨y, h4, e3, q3, q4, q5⟩ := Wc.ok_of q2
        rw [e3]
        simp only [noX_ok, bind_ok, q3]
        rw [if_pos q4]
        exact ih (i + 1) (acc ++ [y]) _ (by omega) hlt q5
  simpa using go items.length 0 [] h (by simp) (Nat.zero_le _) h0
@[simp] theorem wp_lc {Q : D → M → Prop} {X : XP} {env : En} {own : List Nat} {mi : MI} {tt : MT} {me : ME} {h : M} : @Wc D (mLcN own mi g tt me env h) ⟨Q, X⟩ = @Wc Itr' (mi env h) ⟨fun it h1 => @Wc D (lcloopN it.chk (wipeE env own) g tt me h1.length it.items (h1 ++ [.lst []])) ⟨Q, X⟩, X⟩ := by
  unfold mLcN; rw [wp_bind]
theorem wloop_inv {c : MT} {n : Nat} {env : En} {h : M} (I : En → M → Prop) (μ : En → M → Nat) (h0 : I env h) (hn : μ env h < n)
    (step : ∀ env h, I env h → @Wc Bool (c env h) ⟨fun t h1 => if t = true then @Ws (mb env h1) ⟨fun e m => I e m ∧ μ e m < μ env h, rt, nx, fun e m => I e m ∧ μ e m < μ env h, ex⟩ else nx env h1, fun x ns vs h => ex x ns vs env h⟩) : @Ws (wloop c mb n env h) ⟨nx, rt, bk, ct, ex⟩ := by
  induction n generalizing env h with
  | zero => omega
  | succ n ih =>
    unfold wloop
    rw [ws_of]
    refine Wc.mono (step env h h0) (fun t h1 q => ?_) fun _ _ _ _ z => z
    cases t with
    | false => exact q
    | true =>
      have q : @Ws (mb env h1) ⟨fun e m => I e m ∧ μ e m < μ env h, rt, nx, fun e m => I e m ∧ μ e m < μ env h, ex⟩ := q
      show @Ws _ ⟨nx, rt, bk, ct, ex⟩
      simp only [if_true] at q ⊢
      cases e1 : mb env h1 with
      | nx e2 h2 => rw [e1] at q; exact ih q.1 (by have := q.2; omega)
      | ct e2 h2 => rw [e1] at q; exact ih q.1 (by have := q.2; omega)
      | bk e2 h2 => rw [e1] at q; exact q
      | rt d h2 => rw [e1] at q; exact q
      | exc x ns vs e2 h2 => rw [e1] at q; exact q
      | stuck => rw [e1] at q; exact q
@[simp] theorem ws_while {c : MT} {n : Nat} {env : En} {h : M} : @Ws (mWhile n c mb env h) ⟨nx, rt, bk, ct, ex⟩ = @Ws (wloop c mb n env h) ⟨nx, rt, bk, ct, ex⟩ := rfl
end
/-! ### heaps -/
/-- what stood in the places but those of S stands there yet -/
structure Fr (S : List Nat) (h h' : M) : Prop where
  len : h.length ≤ h'.length
  at_ : ∀ l o, l ∉ S → h[l]? = some o → h'[l]? = some o
theorem Fr.refl (S : List Nat) (h : M) : Fr S h h := ⟨Nat.le_refl _, fun _ _ _ e => e⟩
theorem Fr.trans {S : List Nat} {h h1 h2 : M} (a : Fr S h h1) (b : Fr S h1 h2) : Fr S h h2 := ⟨Nat.le_trans a.len b.len, fun l o n e => b.at_ l o n (a.at_ l o n e)⟩
theorem Fr.push {S : List Nat} {h : M} (o : O) : Fr S h (h ++ [o]) := ⟨by simp, fun l u _ e => by
  have hl : l < h.length := (List.getElem?_eq_some_iff.mp e).1
  rw [List.getElem?_append_left hl]; exact e⟩
theorem Fr.set {S : List Nat} {h : M} {l : Nat} (o : O) (hl : l ∈ S) : Fr S h (h.set l o) := ⟨by simp, fun k u n e => by
  rw [List.getElem?_set_ne (fun z => n (by rw [← z]; exact hl))]; exact e⟩
theorem Fr.mono {S S' : List Nat} {h h' : M} (a : Fr S h h') (s : ∀ l ∈ S, l ∈ S') : Fr S' h h' := ⟨a.len, fun l o n e => a.at_ l o (fun z => n (s l z)) e⟩
/-- new places do not count -/
theorem Fr.cut {S S' : List Nat} {h h' : M} (a : Fr S h h') (s : ∀ l ∈ S, l < h.length → l ∈ S') : Fr S' h h' := ⟨a.len, fun l o n e => a.at_ l o (fun z => n (s l z (List.getElem?_eq_some_iff.mp e).1)) e⟩
theorem at_lt {h : M} {l : Nat} {o : O} (e : h[l]? = some o) : l < h.length := (List.getElem?_eq_some_iff.mp e).1
theorem at_push {h : M} {o : O} : (h ++ [o])[h.length]? = some o := by simp
theorem at_app {h : M} {l : Nat} {o u : O} (e : h[l]? = some o) : (h ++ [u])[l]? = some o := by rw [List.getElem?_append_left (at_lt e)]; exact e
theorem at_set {h : M} {l : Nat} {o u : O} (e : h[l]? = some o) : (h.set l u)[l]? = some u := List.getElem?_set_self (at_lt e)
theorem at_setN {h : M} {l k : Nat} {o u : O} (e : h[l]? = some o) (n : k ≠ l) : (h.set k u)[l]? = some o := by rw [List.getElem?_set_ne n]; exact e
end LF
set_option Elab.async false
set_option linter.all false
set_option maxRecDepth 100000
set_option maxHeartbeats 4000000
/-! LFN: heaps, equality, lists of integers. -/
namespace LF
open PySem PySem.Spec L2
open PyProof.Rows hiding St
/-! ### places -/
section
variable {h os : M} {o u : O} {l k : Nat}
@[simp] theorem cat_at0 : (h ++ os)[h.length]? = os[0]? := by simp [List.getElem?_append_right]
@[simp] theorem cat_at : (h ++ os)[h.length + k]? = os[k]? := by rw [List.getElem?_append_right (by omega)]; congr 1; omega
@[simp] theorem cat_set0 : (h ++ os).set h.length o = h ++ os.set 0 o := by simp [List.set_append]
@[simp] theorem cat_set : (h ++ os).set (h.length + k) o = h ++ os.set k o := by
  rw [List.set_append, if_neg (by omega)]; congr 2; omega
theorem cat_old (hl : l < h.length) : (h ++ os)[l]? = h[l]? := List.getElem?_append_left hl
theorem cat_setO (hl : l < h.length) : (h ++ os).set l o = h.set l o ++ os := by rw [List.set_append, if_pos hl]
theorem Fr.cat {S : List Nat} (os : M) : Fr S h (h ++ os) := ⟨by simp, fun l u _ e => by rw [cat_old (at_lt e)]; exact e⟩
theorem Fr.at {S : List Nat} {h h' : M} {l : Nat} {o : O} (F : Fr S h h') (e : h[l]? = some o) (n : l ∉ S := by simp) : h'[l]? = some o := F.at_ l o n e
theorem Fr.nil {S : List Nat} {h h' : M} (F : Fr [] h h') : Fr S h h' := F.mono (by simp)
end
/-! ### plain values -/
def Pl (h : M) (n : Nat) (d : D) (p : PyData) : Prop := toPy h n d = some p ∧ p.canLay0 = true ∧ p.depth ≤ n
def PlA (h : M) (n : Nat) (xs : List D) (ps : List PyData) : Prop := xs.mapM (toPy h n) = some ps ∧ PyData.canLayAll0 ps = true ∧ PyData.depthAll ps ≤ n
section
variable {h : M} {n : Nat}
theorem pl_int (i : Int) : Pl h n (.int i) (.int i) := ⟨by cases n <;> rfl, rfl, Nat.zero_le _⟩
theorem pl_bl (i : Bool) : Pl h n (.bl i) (.bool i) := ⟨by cases n <;> rfl, rfl, Nat.zero_le _⟩
theorem pl_non : Pl h n .non .none := ⟨by cases n <;> rfl, rfl, Nat.zero_le _⟩
theorem pl_str {x : Str} (hx : PyData.strOk x = true) : Pl h n (.str x) (.str x) := ⟨by cases n <;> rfl, by simpa [PyData.canLay0] using hx, Nat.zero_le _⟩
theorem pla_nil : PlA h n [] [] := ⟨rfl, rfl, Nat.zero_le _⟩
theorem pla_cons {x : D} {p : PyData} {xs : List D} {ps : List PyData} (a : Pl h n x p) (b : PlA h n xs ps) : PlA h n (x :: xs) (p :: ps) :=
  ⟨by simp [List.mapM_cons, a.1, b.1], by simp [PyData.canLayAll0, a.2.1, b.2.1], by simp only [PyData.depthAll]; exact Nat.max_le.mpr ⟨a.2.2, b.2.2⟩⟩
theorem pla_map {α : Type} {f : α → D} {g : α → PyData} {xs : List α} (e : ∀ a ∈ xs, Pl h n (f a) (g a)) : PlA h n (xs.map f) (xs.map g) := by
  induction xs with
  | nil => exact pla_nil
  | cons x xs ih => exact pla_cons (e x (by simp)) (ih fun a m => e a (by simp [m]))
theorem pl_tup {xs : List D} {ps : List PyData} (a : PlA h n xs ps) : Pl h (n + 1) (.tup xs) (.tuple ps) :=
  ⟨by simp [toPy, a.1], by simpa [PyData.canLay0] using a.2.1, by simp only [PyData.depth]; have := a.2.2; omega⟩
theorem pl_ct {xs : List D} {ps : List PyData} (a : PlA h n xs ps) : Pl h (n + 1) (.ct xs) (.tuple ps) :=
  ⟨by simp [toPy, a.1], by simpa [PyData.canLay0] using a.2.1, by simp only [PyData.depth]; have := a.2.2; omega⟩
theorem pl_cl {xs : List D} {ps : List PyData} (a : PlA h n xs ps) : Pl h (n + 1) (.cl xs) (.list ps) :=
  ⟨by simp [toPy, a.1], by simpa [PyData.canLay0] using a.2.1, by simp only [PyData.depth]; have := a.2.2; omega⟩
theorem pl_loc {l : Nat} {xs : List D} {ps : List PyData} (e : h[l]? = some (.lst xs)) (a : PlA h n xs ps) : Pl h (n + 1) (.loc l) (.list ps) :=
  ⟨by simp [toPy, e, a.1], by simpa [PyData.canLay0] using a.2.1, by simp only [PyData.depth]; have := a.2.2; omega⟩
theorem pla_ints {xs : List Int} : PlA h n (xs.map .int) (xs.map .int) := pla_map fun a _ => pl_int a
theorem pl_shaped {d : D} {p : PyData} (hn : n ≤ 64) (a : Pl h n d p) : SeqAt.shaped p = true := by
  unfold SeqAt.shaped; rw [a.2.1]; simpa using Nat.le_trans a.2.2 hn
theorem eqD_pl {x y : D} {p q : PyData} (a : Pl h 50 x p) (b : Pl h 50 y q) (s : scalD x y = none) : eqD x y h = some (PyData.eqv p q) := by
  unfold eqD; rw [s]; simp only [a.1, b.1, pl_shaped (by decide) a, pl_shaped (by decide) b, and_self, if_true]
theorem eqD_same {x y : D} {p : PyData} (a : Pl h 50 x p) (b : Pl h 50 y p) : eqD x y h = some true := by
  cases e : scalD x y with
  | none => rw [eqD_pl a b e, SeqAt.eqv_refl p a.2.1]
  | some c =>
    have h1 := a.1
    have h2 := b.1
    unfold eqD; rw [e]
    cases x <;> cases y <;> simp only [scalD, reduceCtorEq, Option.some.injEq] at e <;> simp only [toPy, Option.some.injEq, reduceCtorEq] at h1 h2 <;> (try subst h1) <;> simp_all
theorem fEq_same {x y : D} {p : PyData} (a : Pl h 50 x p) (b : Pl h 50 y p) : fEq x y h = .ok (.bl true) h := by simp only [fEq, eqD_same a b]
theorem fNe_same {x y : D} {p : PyData} (a : Pl h 50 x p) (b : Pl h 50 y p) : fNe x y h = .ok (.bl false) h := by simp only [fNe, eqD_same a b]; rfl
theorem fEq_ints {a b : Nat} {xs : List Int} (e1 : h[a]? = some (.lst (xs.map .int))) (e2 : h[b]? = some (.lst (xs.map .int))) : fEq (.loc a) (.loc b) h = .ok (.bl true) h := fEq_same (pl_loc e1 pla_ints) (pl_loc e2 pla_ints)
theorem fNe_ints {a b : Nat} {xs : List Int} (e1 : h[a]? = some (.lst (xs.map .int))) (e2 : h[b]? = some (.lst (xs.map .int))) : fNe (.loc a) (.loc b) h = .ok (.bl false) h := fNe_same (pl_loc e1 pla_ints) (pl_loc e2 pla_ints)
end
/-! ### built-ins on lists -/
section
variable {h : M} {l k : Nat} {xs ys : List D}
@[simp] theorem v_Lst {ds : List D} : fLst ds h = if ds.length ≤ sizeLine then .ok (.loc h.length) (h ++ [.lst ds]) else .stuck := (rfl)
@[simp] theorem v_Tup {ds : List D} : fTup ds h = if ds.length ≤ sizeLine then .ok (.tup ds) h else .stuck := (rfl)
/-- the list at a place -/
def lsA (h : M) (l : Nat) : Option (List D) := match h[l]? with | some (.lst xs) => some xs | _ => none
theorem lsA_of (e : h[l]? = some (.lst xs)) : lsA h l = some xs := by simp [lsA, e]
theorem of_lsA (e : lsA h l = some xs) : h[l]? = some (.lst xs) := by
  simp only [lsA] at e
  split at e
  · rename_i e2; cases e; exact e2
  · cases e
@[simp] theorem v_list : fList [.loc l] h = match h[l]? with | some (.lst xs) => .ok (.loc h.length) (h ++ [.lst xs]) | _ => .stuck := by
  simp only [fList, seqOf, tupOf, lstOf]; split <;> rename_i e <;> (split at e <;> simp_all)
@[simp] theorem v_tuple : fTuple [.loc l] h = match h[l]? with | some (.lst xs) => .ok (.tup xs) h | _ => .stuck := by
  simp only [fTuple, lstOf]; split <;> rename_i e <;> (split at e <;> simp_all)
@[simp] theorem v_len : fLen [.loc l] h = match h[l]? with | some (.lst xs) => .ok (.int xs.length) h | some (.dK kvs) => .ok (.int kvs.length) h | _ => .stuck := by
  simp only [fLen, lenD]; cases h[l]? with
  | none => rfl
  | some o => cases o <;> rfl
@[simp] theorem v_slL {lo hi : Option Int} : fSl (.loc l) lo hi h = match h[l]? with | some (.lst xs) => .ok (.loc h.length) (h ++ [.lst (cutD xs lo hi)]) | _ => .stuck := by
  simp only [fSl, lstOf]; cases h[l]? with
  | none => rfl
  | some o => cases o <;> rfl
@[simp] theorem v_slC {lo hi : Option Int} : fSl (.cl xs) lo hi h = .ok (.loc h.length) (h ++ [.lst (cutD xs lo hi)]) := by simp [fSl, lstOf]
@[simp] theorem v_lenC : fLen [.cl xs] h = .ok (.int xs.length) h := by simp [fLen, lenD]
@[simp] theorem v_lenT : fLen [.tup xs] h = .ok (.int xs.length) h := by simp [fLen, lenD]
@[simp] theorem v_isTypL : isTyp h "list" (.loc l) = match h[l]? with | some (.lst xs) => true | _ => false := by
  simp only [isTyp]; cases h[l]? with
  | none => rfl
  | some o => cases o <;> rfl
@[simp] theorem v_truI {i : Int} : fTru (.int i) h = .ok (i != 0) h := (rfl)
@[simp] theorem v_truL : fTru (.loc l) h = match h[l]? with | some (.lst xs) => .ok (!xs.isEmpty) h | some (.dK xs) => .ok (!xs.isEmpty) h | _ => .stuck := by
  simp only [fTru, truD]; cases h[l]? with
  | none => rfl
  | some o => cases o <;> rfl
@[simp] theorem v_isLL : fIsI [.loc l, .ty "list"] h = match h[l]? with | some (.lst xs) => .ok (.bl true) h | some (.dK _) => .ok (.bl false) h | some (.dT _) => .ok (.bl false) h | _ => .stuck := by
  simp only [fIsI, tyD]; cases h[l]? with
  | none => rfl
  | some o => cases o <;> simp [kinds, isTy]
@[simp] theorem v_isII {i : Int} : fIsI [.int i, .ty "int"] h = .ok (.bl true) h := by simp [fIsI, tyD, kinds, isTy]
@[simp] theorem v_isIB {i : Int} : fIsI [.int i, .ty "bool"] h = .ok (.bl false) h := by simp [fIsI, tyD, kinds, isTy]
@[simp] theorem v_appL {d : D} : fAppend (.loc l) [d] h = match h[l]? with | some (.lst xs) => if xs.length < sizeLine then .ok .non (h.set l (.lst (xs ++ [d]))) else .stuck | _ => .stuck := (rfl)
@[simp] theorem v_extL : fExtend (.loc l) [.loc k] h = match h[l]?, h[k]? with | some (.lst xs), some (.lst ys) => if xs.length + ys.length ≤ sizeLine then .ok .non (h.set l (.lst (xs ++ ys))) else .stuck | _, _ => .stuck := by
  simp only [fExtend, tupOf]; cases h[l]? with
  | none => rfl
  | some o => cases o <;> (try rfl); cases h[k]? with
    | none => rfl
    | some o => cases o <;> rfl
@[simp] theorem v_extT : fExtend (.loc l) [.tup ys] h = match h[l]? with | some (.lst xs) => if xs.length + ys.length ≤ sizeLine then .ok .non (h.set l (.lst (xs ++ ys))) else .stuck | _ => .stuck := (rfl)
@[simp] theorem v_addL : fAdd (.loc l) (.loc k) h = match h[l]?, h[k]? with | some (.lst xs), some (.lst ys) => if xs.length + ys.length ≤ sizeLine then .ok (.loc h.length) (h ++ [.lst (xs ++ ys)]) else .stuck | _, _ => .stuck := (rfl)
@[simp] theorem v_mulL {i : Int} : fMul (.loc l) (.int i) h = match h[l]? with | some (.lst xs) => if -(2 ^ 63) ≤ i ∧ i < 2 ^ 63 ∧ xs.length * i.toNat ≤ sizeLine then .ok (.loc h.length) (h ++ [.lst (List.replicate i.toNat xs).flatten]) else .stuck | _ => .stuck := (rfl)
@[simp] theorem v_itL : itOf (.loc l) h = match h[l]? with | some (.lst xs) => .ok ⟨xs, fun h' => lstOf h' (.loc l) = some xs⟩ h | _ => .stuck := by
  simp only [itOf, tupOf, lstOf]; cases h[l]? with
  | none => rfl
  | some o => cases o <;> rfl
@[simp] theorem v_itT : itOf (.tup xs) h = .ok ⟨xs, fun _ => True⟩ h := (rfl)
theorem lstOf_at (e : h[l]? = some (.lst xs)) : lstOf h (.loc l) = some xs := by simp [lstOf, e]
theorem at_lstOf (e : lstOf h (.loc l) = some xs) : h[l]? = some (.lst xs) := by
  simp only [lstOf] at e
  split at e
  · rename_i e2; cases e; exact e2
  · cases e
@[simp] theorem v_rng1 {i : Int} : fRng [.int i] h = if -(2 ^ 62) ≤ i ∧ i < 2 ^ 62 then .ok ⟨rgItems 0 i.toNat, fun _ => True⟩ h else .stuck := (rfl)
@[simp] theorem v_rng2 {i j : Int} : fRng [.int i, .int j] h = if -(2 ^ 62) ≤ i ∧ i < 2 ^ 62 ∧ -(2 ^ 62) ≤ j ∧ j < 2 ^ 62 then .ok ⟨rgItems i (j - i).toNat, fun _ => True⟩ h else .stuck := (rfl)
@[simp] theorem rg_len {lo : Int} {n : Nat} : (rgItems lo n).length = n := by simp [rgItems]
theorem rg_at {lo : Int} {n i : Nat} {d : D} (e : (rgItems lo n)[i]? = some d) : i < n ∧ d = .int (lo + i) := by
  simp only [rgItems, List.getElem?_map, Option.map_eq_some_iff] at e
  obtain ⟨j, ej, rfl⟩ := e
  have hi : i < n := by have := (List.getElem?_eq_some_iff.mp ej).1; simpa using this
  rw [List.getElem?_range hi] at ej
  exact ⟨hi, by rw [Option.some.inj ej]⟩
theorem sIx_of {n d : Nat} {v : Int} (h0 : 0 ≤ v) : HT.sIx n d (some v) = min v.toNat n := by
  show (if v < 0 then (v + (n : Int)).toNat else min v.toNat n) = min v.toNat n
  rw [if_neg (by omega)]
theorem cutD_le {i j : Int} (h0 : 0 ≤ i) (h1 : 0 ≤ j) (h2 : i ≤ xs.length) (h3 : j ≤ xs.length) : cutD xs (some i) (some j) = (xs.drop i.toNat).take (j.toNat - i.toNat) := by
  unfold cutD; rw [sIx_of h0, sIx_of h1, Nat.min_eq_left (by omega), Nat.min_eq_left (by omega)]
theorem rep1 {α : Type} (n : Nat) (a : α) : (List.replicate n [a]).flatten = List.replicate n a := by
  induction n with
  | zero => rfl
  | succ n ih => rw [List.replicate_succ, List.flatten_cons, ih]; rfl
end
/-! ### targets -/
section
variable {QE : En → M → Prop} {X : XP} {env : En} {h : M} {g : MG} {gs : MGs} {d : D} {ds xs : List D} {n : Nat}
@[simp] theorem wp_noX {α : Type} {r : Res α} {Q : α → M → Prop} : @Wc α (noX r) ⟨Q, X⟩ = @Wc α r ⟨Q, noEx⟩ := by cases r <;> rfl
@[simp] theorem wp_gTp : @Wc En (gTp n gs (.tup xs) env h) ⟨QE, X⟩ = (xs.length = n ∧ @Wc En (gs xs env h) ⟨QE, X⟩) := by
  simp only [gTp, tupOf_tup, wp_guard]
@[simp] theorem wp_gTpC : @Wc En (gTp n gs (.ct xs) env h) ⟨QE, X⟩ = (xs.length = n ∧ @Wc En (gs xs env h) ⟨QE, X⟩) := by
  simp only [gTp, tupOf_ct, wp_guard]
@[simp] theorem wp_gCons : @Wc En (gCons' g gs (d :: ds) env h) ⟨QE, X⟩ = @Wc En (g d env h) ⟨fun env h => @Wc En (gs ds env h) ⟨QE, noEx⟩, X⟩ := by
  simp only [gCons', wp_bind]; exact wc_eq fun _ _ => by rw [wp_noX]
@[simp] theorem wp_gNil : @Wc En (gNil' [] env h) ⟨QE, X⟩ = QE env h := (rfl)
@[simp] theorem wipeE_nil : wipeE env [] = env := (rfl)
@[simp] theorem wipeE_cons {v : Nat} {vs : List Nat} : wipeE env (v :: vs) = (wipeE env vs).set v .no := (rfl)
end
theorem cutD_mid {pre mid post : List D} {i j : Int} (hi : i = pre.length) (hj : j = pre.length + mid.length) : cutD (pre ++ mid ++ post) (some i) (some j) = mid := by
  rw [cutD_le (by omega) (by omega) (by simp; omega) (by simp; omega)]
  have h1 : i.toNat = pre.length := by omega
  have h2 : j.toNat - i.toNat = mid.length := by omega
  rw [h2, h1]
  simp
/-! ### loops over what a list stands for -/
section
variable {α : Type} {f : α → D} {chk : M → Prop} {g : MG} {mb : MS} {nx : En → M → Prop} {rt : D → M → Prop} {bk ct : En → M → Prop} {ex : Str → List Str → List D → En → M → Prop}
theorem floop_map {xs : List α} {env : En} {h : M} (I : List α → En → M → Prop) (h0 : I [] env h) (ck : ∀ p env h, p <+: xs → I p env h → chk h)
    (step : ∀ p x q env h, xs = p ++ x :: q → I p env h → @Wc En (g (f x) env h) ⟨fun env h => @Ws (mb env h) ⟨I (p ++ [x]), rt, nx, I (p ++ [x]), ex⟩, fun x ns vs h => ex x ns vs env h⟩) (fin : ∀ env h, I xs env h → nx env h) :
    @Ws (floop chk g mb (xs.map f) env h) ⟨nx, rt, bk, ct, ex⟩ := by
  refine floop_inv (fun i => I (xs.take i)) (by simpa using h0) (fun i env h _ p => ck _ _ _ (List.take_prefix _ _) p) (fun i d env h e p => ?_) (fun env h p => fin _ _ (by simpa using p))
  rw [List.getElem?_map, Option.map_eq_some_iff] at e
  obtain ⟨x, ex, rfl⟩ := e
  have hlt : i < xs.length := (List.getElem?_eq_some_iff.mp ex).1
  have hx : xs[i] = x := (List.getElem?_eq_some_iff.mp ex).2
  have e1 : xs = xs.take i ++ x :: xs.drop (i + 1) := by
    conv => lhs; rw [← List.take_append_drop i xs, List.drop_eq_getElem_cons hlt, hx]
  have e2 : xs.take (i + 1) = xs.take i ++ [x] := by rw [List.take_succ, ex]; rfl
  have := step (xs.take i) x (xs.drop (i + 1)) env h e1 p
  rw [← e2] at this
  exact this
theorem lcloop_map {Q : D → M → Prop} {X : XP} {xs : List α} {env : En} {tt : MT} {me : ME} {l : Nat} {h : M} (I : List α → List D → M → Prop) (h0 : I [] [] h) (ck : ∀ p acc h, p <+: xs → I p acc h → chk h)
    (step : ∀ p x q acc h, xs = p ++ x :: q → I p acc h → @Wc En (g (f x) env h) ⟨fun env2 h => @Wc Bool (tt env2 h) ⟨fun b h => if b = true then @Wc D (me env2 h) ⟨fun y h => h[l]? = some (.lst acc) ∧ acc.length < sizeLine ∧ I (p ++ [x]) (acc ++ [y]) (h.set l (.lst (acc ++ [y]))), noEx⟩ else I (p ++ [x]) acc h, noEx⟩, noEx⟩)
    (fin : ∀ acc h, I xs acc h → Q (.loc l) h) : @Wc D (lcloopN chk env g tt me l (xs.map f) h) ⟨Q, X⟩ := by
  refine lcloop_inv (fun i => I (xs.take i)) (by simpa using h0) (fun i acc h _ p => ck _ _ _ (List.take_prefix _ _) p) (fun i d acc h e p => ?_) (fun acc h p => fin _ _ (by simpa using p))
  rw [List.getElem?_map, Option.map_eq_some_iff] at e
  obtain ⟨x, ex, rfl⟩ := e
  have hlt : i < xs.length := (List.getElem?_eq_some_iff.mp ex).1
  have hx : xs[i] = x := (List.getElem?_eq_some_iff.mp ex).2
  have e1 : xs = xs.take i ++ x :: xs.drop (i + 1) := by
    conv => lhs; rw [← List.take_append_drop i xs, List.drop_eq_getElem_cons hlt, hx]
  have e2 : xs.take (i + 1) = xs.take i ++ [x] := by rw [List.take_succ, ex]; rfl
  have := step (xs.take i) x (xs.drop (i + 1)) acc h e1 p
  rw [← e2] at this
  exact this
end
end LF
set_option Elab.async false
set_option linter.all false
set_option maxRecDepth 100000
set_option maxHeartbeats 4000000
namespace K08
open PySem PySem.Spec L2 LF
open PyProof.Rows hiding St
/-! ### the text by places -/
def top (i : Nat) : Stmt := PySem.Challenge.pw_landfall_k08_data_of_blocks.main.body.getD i (.Pass ⟨0, 0, 0, 0⟩)
abbrev s_law_is_integer_u : Stmt := top 23
abbrev s_law_are_integers_u : Stmt := top 24
abbrev s_law_bag_u : Stmt := top 13
abbrev s_law_take_u : Stmt := top 15
abbrev s_law_word_u : Stmt := top 16
abbrev s_law_cell_u : Stmt := top 20
abbrev s_law_filled_u : Stmt := top 21
abbrev s_law_is_u : Stmt := top 25
abbrev s_node_entries : Stmt := top 8
abbrev s_block_pointers : Stmt := top 11
abbrev s_filled_u : Stmt := top 6
abbrev s_cell_data : Stmt := top 9
abbrev s_data_cells : Stmt := top 10
abbrev s_law_cells_hold_u : Stmt := top 27
abbrev s_law_body_u : Stmt := top 22
abbrev s_law_middle_u : Stmt := top 17
abbrev s_law_entry_u : Stmt := top 19
abbrev s_law_level_u : Stmt := top 18
abbrev s_node_data : Stmt := top 7
abbrev s_law_node_holds_u : Stmt := top 26
abbrev s_law_turn_u : Stmt := top 14
abbrev s_law : Stmt := top 28
theorem sc_law_is_integer_u : FnScope ["thing"] ["thing"] (defScope s_law_is_integer_u) := ⟨rfl, rfl, rfl, by decide +kernel, rfl, by decide +kernel, by decide +kernel⟩
theorem sc_law_are_integers_u : FnScope ["things", "thing"] ["things"] (defScope s_law_are_integers_u) := ⟨rfl, rfl, rfl, by decide +kernel, rfl, by decide +kernel, by decide +kernel⟩
theorem sc_law_bag_u : FnScope ["script"] ["script"] (defScope s_law_bag_u) := ⟨rfl, rfl, rfl, by decide +kernel, rfl, by decide +kernel, by decide +kernel⟩
theorem sc_law_take_u : FnScope ["bag", "many", "got", "one", "two"] ["bag", "many"] (defScope s_law_take_u) := ⟨rfl, rfl, rfl, by decide +kernel, rfl, by decide +kernel, by decide +kernel⟩
theorem sc_law_word_u : FnScope ["bag", "way"] ["bag"] (defScope s_law_word_u) := ⟨rfl, rfl, rfl, by decide +kernel, rfl, by decide +kernel, by decide +kernel⟩
theorem sc_law_cell_u : FnScope ["bag"] ["bag"] (defScope s_law_cell_u) := ⟨rfl, rfl, rfl, by decide +kernel, rfl, by decide +kernel, by decide +kernel⟩
theorem sc_law_filled_u : FnScope ["level", "many", "body", "told"] ["level", "many", "body"] (defScope s_law_filled_u) := ⟨rfl, rfl, rfl, by decide +kernel, rfl, by decide +kernel, by decide +kernel⟩
theorem sc_law_is_u : FnScope ["told", "due"] ["told", "due"] (defScope s_law_is_u) := ⟨rfl, rfl, rfl, by decide +kernel, rfl, by decide +kernel, by decide +kernel⟩
theorem sc_node_entries : FnScope ["data", "entries", "number", "at", "key", "value"] ["data"] (defScope s_node_entries) := ⟨rfl, rfl, rfl, by decide +kernel, rfl, by decide +kernel, by decide +kernel⟩
theorem sc_block_pointers : FnScope ["data", "level", "key", "value"] ["data"] (defScope s_block_pointers) := ⟨rfl, rfl, rfl, by decide +kernel, rfl, by decide +kernel, by decide +kernel⟩
theorem sc_filled_u : FnScope ["words"] ["words"] (defScope s_filled_u) := ⟨rfl, rfl, rfl, by decide +kernel, rfl, by decide +kernel, by decide +kernel⟩
theorem sc_cell_data : FnScope ["cells"] ["cells"] (defScope s_cell_data) := ⟨rfl, rfl, rfl, by decide +kernel, rfl, by decide +kernel, by decide +kernel⟩
theorem sc_data_cells : FnScope ["data"] ["data"] (defScope s_data_cells) := ⟨rfl, rfl, rfl, by decide +kernel, rfl, by decide +kernel, by decide +kernel⟩
theorem sc_law_cells_hold_u : FnScope ["bag", "cells", "due", "handed", "given", "told", "k"] ["bag"] (defScope s_law_cells_hold_u) := ⟨rfl, rfl, rfl, by decide +kernel, rfl, by decide +kernel, by decide +kernel⟩
theorem sc_law_body_u : FnScope ["entries", "body", "entry"] ["entries"] (defScope s_law_body_u) := ⟨rfl, rfl, rfl, by decide +kernel, rfl, by decide +kernel, by decide +kernel⟩
theorem sc_law_middle_u : FnScope ["bag", "way"] ["bag"] (defScope s_law_middle_u) := ⟨rfl, rfl, rfl, by decide +kernel, rfl, by decide +kernel, by decide +kernel⟩
theorem sc_law_entry_u : FnScope ["bag", "front", "middle", "last", "left", "right"] ["bag"] (defScope s_law_entry_u) := ⟨rfl, rfl, rfl, by decide +kernel, rfl, by decide +kernel, by decide +kernel⟩
theorem sc_law_level_u : FnScope ["bag", "way"] ["bag"] (defScope s_law_level_u) := ⟨rfl, rfl, rfl, by decide +kernel, rfl, by decide +kernel, by decide +kernel⟩
theorem sc_node_data : FnScope ["level", "entries", "words", "key", "value"] ["level", "entries"] (defScope s_node_data) := ⟨rfl, rfl, rfl, by decide +kernel, rfl, by decide +kernel, by decide +kernel⟩
theorem sc_law_node_holds_u : FnScope ["bag", "level", "entries", "due", "handed", "given", "told", "pointers", "wanted", "k", "entry"] ["bag"] (defScope s_law_node_holds_u) := ⟨rfl, rfl, rfl, by decide +kernel, rfl, by decide +kernel, by decide +kernel⟩
theorem sc_law_turn_u : FnScope ["bag", "cell"] ["bag"] (defScope s_law_turn_u) := ⟨rfl, rfl, rfl, by decide +kernel, rfl, by decide +kernel, by decide +kernel⟩
theorem sc_law : FnScope ["script", "bag", "turn"] ["script"] (defScope s_law) := ⟨rfl, rfl, rfl, by decide +kernel, rfl, by decide +kernel, by decide +kernel⟩
/-! ### what the top has written -/
structure Top (K : PySem.W.Frag) (mg : Str → Option Value) : Prop where
  f_law_is_integer_u : FnAt K mg "_law_is_integer" "_law_is_integer" s_law_is_integer_u ["thing"]
  f_law_are_integers_u : FnAt K mg "_law_are_integers" "_law_are_integers" s_law_are_integers_u ["things"]
  f_law_bag_u : FnAt K mg "_law_bag" "_law_bag" s_law_bag_u ["script"]
  f_law_take_u : FnAt K mg "_law_take" "_law_take" s_law_take_u ["bag", "many"]
  f_law_word_u : FnAt K mg "_law_word" "_law_word" s_law_word_u ["bag"]
  f_law_cell_u : FnAt K mg "_law_cell" "_law_cell" s_law_cell_u ["bag"]
  f_law_filled_u : FnAt K mg "_law_filled" "_law_filled" s_law_filled_u ["level", "many", "body"]
  f_law_is_u : FnAt K mg "_law_is" "_law_is" s_law_is_u ["told", "due"]
  f_node_entries : FnAt K mg "node_entries" "node_entries" s_node_entries ["data"]
  f_block_pointers : FnAt K mg "block_pointers" "block_pointers" s_block_pointers ["data"]
  f_filled_u : FnAt K mg "_filled" "_filled" s_filled_u ["words"]
  f_cell_data : FnAt K mg "cell_data" "cell_data" s_cell_data ["cells"]
  f_data_cells : FnAt K mg "data_cells" "data_cells" s_data_cells ["data"]
  f_law_cells_hold_u : FnAt K mg "_law_cells_hold" "_law_cells_hold" s_law_cells_hold_u ["bag"]
  f_law_body_u : FnAt K mg "_law_body" "_law_body" s_law_body_u ["entries"]
  f_law_middle_u : FnAt K mg "_law_middle" "_law_middle" s_law_middle_u ["bag"]
  f_law_entry_u : FnAt K mg "_law_entry" "_law_entry" s_law_entry_u ["bag"]
  f_law_level_u : FnAt K mg "_law_level" "_law_level" s_law_level_u ["bag"]
  f_node_data : FnAt K mg "node_data" "node_data" s_node_data ["level", "entries"]
  f_law_node_holds_u : FnAt K mg "_law_node_holds" "_law_node_holds" s_law_node_holds_u ["bag"]
  f_law_turn_u : FnAt K mg "_law_turn" "_law_turn" s_law_turn_u ["bag"]
  f_law : FnAt K mg "law" "law" s_law ["script"]
  z_len : mg "len" = none
  z_min : mg "min" = none
  z_range : mg "range" = none
  z_int : mg "int" = none
  z_isinstance : mg "isinstance" = none
  z_bool : mg "bool" = none
  z_list : mg "list" = none
  z_tuple : mg "tuple" = none
  c_POINTING : ∃ t, mg "POINTING" = some (.int 3 t)
  c_LIFE : ∃ t, mg "LIFE" = some (.int 16777216 t)
  c_MOST_ENTRIES_u : ∃ t, mg "_MOST_ENTRIES" = some (.int 6 t)
  c_ENTRY_WORDS_u : ∃ t, mg "_ENTRY_WORDS" = some (.int 5 t)
  c_WORDS_u : ∃ t, mg "_WORDS" = some (.int 32 t)
/-! ### the plain functions -/
noncomputable def b_law_is_integer_u : MS := (mRet (mAndV (mL fIsI (mCons (mVar 0) (mCons (mC (.ty "int")) mNil))) (mNotV (mL fIsI (mCons (mVar 0) (mCons (mC (.ty "bool")) mNil))))))
noncomputable def m_law_is_integer_u : List D → M → Res D := mFn 1 1 b_law_is_integer_u
noncomputable def b_law_are_integers_u : MS := (mSeq (mFor (mIter (mVar 0)) (gN 1)
  (mIfS (mNotT (mTru (mL (mFix 1 m_law_is_integer_u) (mCons (mVar 1) mNil))))
  (mRet (mC (.bl false)))
  mSkip))
  (mRet (mC (.bl true))))
noncomputable def m_law_are_integers_u : List D → M → Res D := mFn 2 1 b_law_are_integers_u
noncomputable def b_law_bag_u : MS := (mRet (mL fLst (mCons (mSl (mVar 0) mNoPart (mPart (mC (.int 63)))) (mCons (mC (.int 0)) (mCons (mC (.int 0)) (mCons (mC (.int 7)) (mCons (mC (.int 0)) mNil)))))))
noncomputable def m_law_bag_u : List D → M → Res D := mFn 1 1 b_law_bag_u
noncomputable def b_law_take_u : MS := (mSeq (mIfS (mTest (m2 fGt (m2 fIx (mVar 0) (mC (.int 2))) (mC (.int 0))))
  (mSeq (mSet 2 (m2 fMod (mL fInt (mCons (m2 fIx (mVar 0) (mC (.int 2))) mNil)) (mVar 1)))
  (mSeq (m3 fPut (mVar 0) (mC (.int 2)) (m2 fDiv (m2 fIx (mVar 0) (mC (.int 2))) (mVar 1)))
  (mRet (mVar 2))))
  mSkip)
  (mSeq (m3 fPut (mVar 0) (mC (.int 4)) (m2 fAdd (m2 fIx (mVar 0) (mC (.int 4))) (mC (.int 1))))
  (mSeq (m3 fPut (mVar 0) (mC (.int 3)) (m2 fMod (mL fInt (mCons (m2 fAdd (m2 fMul (m2 fIx (mVar 0) (mC (.int 3))) (mC (.int 48271))) (m2 fMul (mC (.int 11)) (m2 fIx (mVar 0) (mC (.int 4))))) mNil)) (mC (.int 2147483647))))
  (mSeq (mSet 3 (m2 fMod (mL fInt (mCons (m2 fAdd (m2 fMul (m2 fIx (mVar 0) (mC (.int 3))) (m2 fIx (mVar 0) (mC (.int 3)))) (m2 fMul (mC (.int 69621)) (m2 fIx (mVar 0) (mC (.int 4))))) mNil)) (mC (.int 2147483629))))
  (mSeq (mSet 4 (m2 fMod (mL fInt (mCons (m2 fAdd (m2 fMul (mVar 3) (mVar 3)) (m2 fMul (mC (.int 39373)) (m2 fIx (mVar 0) (mC (.int 3))))) mNil)) (mC (.int 2147483587))))
  (mRet (m2 fMod (mL fInt (mCons (m2 fAdd (m2 fMul (mVar 3) (mC (.int 2147483587))) (mVar 4)) mNil)) (mVar 1))))))))
noncomputable def m_law_take_u : List D → M → Res D := mFn 5 2 b_law_take_u
noncomputable def b_law_word_u : MS := (mSeq (mSet 1 (mL (mFix 2 m_law_take_u) (mCons (mVar 0) (mCons (mC (.int 4)) mNil))))
  (mSeq (mIfS (mTest (m2 fEq (mVar 1) (mC (.int 0))))
  (mRet (mL (mFix 2 m_law_take_u) (mCons (mVar 0) (mCons (mC (.int 9)) mNil))))
  mSkip)
  (mSeq (mIfS (mTest (m2 fEq (mVar 1) (mC (.int 1))))
  (mRet (m2 fSub (mC (.int 2305843009213693950)) (mL (mFix 2 m_law_take_u) (mCons (mVar 0) (mCons (mC (.int 3)) mNil)))))
  mSkip)
  (mRet (mL (mFix 2 m_law_take_u) (mCons (mVar 0) (mCons (mC (.int 2305843009213693951)) mNil)))))))
noncomputable def m_law_word_u : List D → M → Res D := mFn 2 1 b_law_word_u
noncomputable def b_law_cell_u : MS := (mSeq (mIfS (mTest (m2 fEq (mL (mFix 2 m_law_take_u) (mCons (mVar 0) (mCons (mC (.int 5)) mNil))) (mC (.int 0))))
  (mRet (mC (.int 3)))
  mSkip)
  (mRet (mL (mFix 1 m_law_word_u) (mCons (mVar 0) mNil))))
noncomputable def m_law_cell_u : List D → M → Res D := mFn 1 1 b_law_cell_u
noncomputable def b_law_filled_u : MS := (mSeq (mSet 3 (mL fLst (mCons (mVar 0) (mCons (mVar 1) mNil))))
  (mSeq (mDo (mBM "list" fExtend (mVar 3) (mCons (mVar 2) mNil)))
  (mRet (m2 fAdd (mVar 3) (m2 fMul (mL fLst (mCons (mC (.int 0)) mNil)) (m2 fSub (mC (.int 32)) (mL fLen (mCons (mVar 3) mNil))))))))
noncomputable def m_law_filled_u : List D → M → Res D := mFn 4 3 b_law_filled_u
noncomputable def b_law_is_u : MS := (mSeq (mIfS (mOrT (mNotT (mTru (mL fIsI (mCons (mVar 0) (mCons (mC (.ty "list")) mNil))))) (mTest (m2 fNe (mL fLen (mCons (mVar 0) mNil)) (mL fLen (mCons (mVar 1) mNil)))))
  (mRet (mC (.bl false)))
  mSkip)
  (mRet (mAndV (m2 fEq (mVar 0) (mVar 1)) (mL (mFix 1 m_law_are_integers_u) (mCons (mVar 0) mNil)))))
noncomputable def m_law_is_u : List D → M → Res D := mFn 2 2 b_law_is_u
noncomputable def b_node_entries : MS := (mSeq (mSet 1 (mL fLst mNil))
  (mSeq (mFor (mRng (mCons (mL fMin (mCons (m2 fIx (mVar 0) (mC (.int 1))) (mCons (mC (.int 6)) mNil))) mNil)) (gN 2)
  (mSeq (mSet 3 (m2 fAdd (mC (.int 2)) (m2 fMul (mC (.int 5)) (mVar 2))))
  (mSeq (mSet 4 (mL fTuple (mCons (mSl (mVar 0) (mPart (mVar 3)) (mPart (m2 fAdd (mVar 3) (mC (.int 3))))) mNil)))
  (mSeq (mSet 5 (mL fTuple (mCons (mSl (mVar 0) (mPart (m2 fAdd (mVar 3) (mC (.int 3)))) (mPart (m2 fAdd (mVar 3) (mC (.int 5))))) mNil)))
  (mDo (mBM "list" fAppend (mVar 1) (mCons (mL fTup (mCons (mVar 4) (mCons (mVar 5) mNil))) mNil)))))))
  (mRet (mVar 1))))
noncomputable def m_node_entries : List D → M → Res D := mFn 6 1 b_node_entries
noncomputable def b_block_pointers : MS := (mSeq (mSet 1 (m2 fIx (mVar 0) (mC (.int 0))))
  (mSeq (mIfS (mTest (m2 fEq (mVar 1) (mC (.int 0))))
  (mRet (mL fLst mNil))
  mSkip)
  (mRet (mLcN [2, 3] (mIter (mL (mFix 1 m_node_entries) (mCons (mVar 0) mNil))) (gTp 2 (gCons' (gN 2) (gCons' (gN 3) gNil'))) (mOrT (mTest (m2 fGt (mVar 1) (mC (.int 1)))) (mTest (m2 fEq (m2 fIx (mVar 2) (mC (.int 1))) (mC (.int 3))))) (mVar 3)))))
noncomputable def m_block_pointers : List D → M → Res D := mFn 4 1 b_block_pointers
noncomputable def b_filled_u : MS := (mRet (m2 fAdd (mVar 0) (m2 fMul (mL fLst (mCons (mC (.int 0)) mNil)) (m2 fSub (mC (.int 32)) (mL fLen (mCons (mVar 0) mNil))))))
noncomputable def m_filled_u : List D → M → Res D := mFn 1 1 b_filled_u
noncomputable def b_cell_data : MS := (mRet (mL (mFix 1 m_filled_u) (mCons (m2 fAdd (mL fLst (mCons (mC (.int 0)) (mCons (mL fLen (mCons (mVar 0) mNil)) mNil))) (mL fList (mCons (mVar 0) mNil))) mNil)))
noncomputable def m_cell_data : List D → M → Res D := mFn 1 1 b_cell_data
noncomputable def b_data_cells : MS := (mRet (mL fList (mCons (mSl (mVar 0) (mPart (mC (.int 2))) (mPart (m2 fAdd (mC (.int 2)) (m2 fIx (mVar 0) (mC (.int 1)))))) mNil)))
noncomputable def m_data_cells : List D → M → Res D := mFn 1 1 b_data_cells
noncomputable def b_law_cells_hold_u : MS := (mSeq (mSet 1 (mLcN [6] (mRng (mCons (mL (mFix 2 m_law_take_u) (mCons (mVar 0) (mCons (mC (.int 31)) mNil))) mNil)) (gN 6) mYes (mL (mFix 1 m_law_cell_u) (mCons (mVar 0) mNil))))
  (mSeq (mSet 2 (mL (mFix 3 m_law_filled_u) (mCons (mC (.int 0)) (mCons (mL fLen (mCons (mVar 1) mNil)) (mCons (mVar 1) mNil)))))
  (mSeq (mSet 3 (mL fList (mCons (mVar 1) mNil)))
  (mSeq (mIfS (mOrT (mNotT (mTru (mL (mFix 2 m_law_is_u) (mCons (mL (mFix 1 m_cell_data) (mCons (mVar 3) mNil)) (mCons (mVar 2) mNil))))) (mTest (m2 fNe (mVar 3) (mVar 1))))
  (mRet (mC (.bl false)))
  mSkip)
  (mSeq (mSet 4 (mL fList (mCons (mVar 2) mNil)))
  (mSeq (mSet 5 (mL (mFix 1 m_data_cells) (mCons (mVar 4) mNil)))
  (mSeq (mIfS (mOrT (mNotT (mTru (mL (mFix 2 m_law_is_u) (mCons (mVar 5) (mCons (mVar 1) mNil))))) (mTest (m2 fNe (mVar 4) (mVar 2))))
  (mRet (mC (.bl false)))
  mSkip)
  (mSeq (mDo (mBM "list" fAppend (mVar 5) (mCons (mC (.int 1)) mNil)))
  (mSeq (mIfS (mOrT (mNotT (mTru (mL (mFix 2 m_law_is_u) (mCons (mL (mFix 1 m_data_cells) (mCons (mVar 4) mNil)) (mCons (mVar 1) mNil))))) (mTest (m2 fNe (mVar 4) (mVar 2))))
  (mRet (mC (.bl false)))
  mSkip)
  (mRet (mAndV (m2 fEq (mL (mFix 1 m_block_pointers) (mCons (mVar 4) mNil)) (mL fLst mNil)) (m2 fEq (mVar 4) (mVar 2)))))))))))))
noncomputable def m_law_cells_hold_u : List D → M → Res D := mFn 7 1 b_law_cells_hold_u
noncomputable def b_law_body_u : MS := (mSeq (mSet 1 (mL fLst mNil))
  (mSeq (mFor (mIter (mVar 0)) (gN 2)
  (mDo (mBM "list" fExtend (mVar 1) (mCons (mL fLst (mCons (m2 fIx (m2 fIx (mVar 2) (mC (.int 0))) (mC (.int 0))) (mCons (m2 fIx (m2 fIx (mVar 2) (mC (.int 0))) (mC (.int 1))) (mCons (m2 fIx (m2 fIx (mVar 2) (mC (.int 0))) (mC (.int 2))) (mCons (m2 fIx (m2 fIx (mVar 2) (mC (.int 1))) (mC (.int 0))) (mCons (m2 fIx (m2 fIx (mVar 2) (mC (.int 1))) (mC (.int 1))) mNil)))))) mNil))))
  (mRet (mVar 1))))
noncomputable def m_law_body_u : List D → M → Res D := mFn 3 1 b_law_body_u
noncomputable def b_law_middle_u : MS := (mSeq (mSet 1 (mL (mFix 2 m_law_take_u) (mCons (mVar 0) (mCons (mC (.int 6)) mNil))))
  (mSeq (mIfS (mTest (m2 fLt (mVar 1) (mC (.int 3))))
  (mRet (mC (.int 3)))
  mSkip)
  (mSeq (mIfS (mTest (m2 fEq (mVar 1) (mC (.int 3))))
  (mRet (m2 fAdd (mC (.int 2)) (m2 fMul (mC (.int 2)) (mL (mFix 2 m_law_take_u) (mCons (mVar 0) (mCons (mC (.int 2)) mNil))))))
  mSkip)
  (mSeq (mIfS (mTest (m2 fEq (mVar 1) (mC (.int 4))))
  (mRet (mC (.int 0)))
  mSkip)
  (mRet (mL (mFix 1 m_law_word_u) (mCons (mVar 0) mNil)))))))
noncomputable def m_law_middle_u : List D → M → Res D := mFn 2 1 b_law_middle_u
noncomputable def b_law_entry_u : MS := (mSeq (mSet 1 (mL (mFix 1 m_law_word_u) (mCons (mVar 0) mNil)))
  (mSeq (mSet 2 (mL (mFix 1 m_law_middle_u) (mCons (mVar 0) mNil)))
  (mSeq (mSet 3 (mL (mFix 1 m_law_word_u) (mCons (mVar 0) mNil)))
  (mSeq (mSet 4 (mL (mFix 1 m_law_word_u) (mCons (mVar 0) mNil)))
  (mSeq (mSet 5 (mL (mFix 1 m_law_word_u) (mCons (mVar 0) mNil)))
  (mRet (mL fTup (mCons (mL fTup (mCons (mVar 1) (mCons (mVar 2) (mCons (mVar 3) mNil)))) (mCons (mL fTup (mCons (mVar 4) (mCons (mVar 5) mNil))) mNil)))))))))
noncomputable def m_law_entry_u : List D → M → Res D := mFn 6 1 b_law_entry_u
noncomputable def b_law_level_u : MS := (mSeq (mSet 1 (mL (mFix 2 m_law_take_u) (mCons (mVar 0) (mCons (mC (.int 4)) mNil))))
  (mSeq (mIfS (mTest (m2 fLt (mVar 1) (mC (.int 2))))
  (mRet (mC (.int 1)))
  mSkip)
  (mSeq (mIfS (mTest (m2 fEq (mVar 1) (mC (.int 2))))
  (mRet (m2 fAdd (mC (.int 2)) (mL (mFix 2 m_law_take_u) (mCons (mVar 0) (mCons (mC (.int 3)) mNil)))))
  mSkip)
  (mRet (m2 fAdd (mC (.int 2)) (mL (mFix 2 m_law_take_u) (mCons (mVar 0) (mCons (mC (.int 2305843009213693949)) mNil))))))))
noncomputable def m_law_level_u : List D → M → Res D := mFn 2 1 b_law_level_u
noncomputable def b_node_data : MS := (mSeq (mSet 2 (mL fLst (mCons (mVar 0) (mCons (mL fLen (mCons (mVar 1) mNil)) mNil))))
  (mSeq (mFor (mIter (mVar 1)) (gTp 2 (gCons' (gN 3) (gCons' (gN 4) gNil')))
  (mSeq (mDo (mBM "list" fExtend (mVar 2) (mCons (mVar 3) mNil)))
  (mDo (mBM "list" fExtend (mVar 2) (mCons (mVar 4) mNil)))))
  (mRet (mL (mFix 1 m_filled_u) (mCons (mVar 2) mNil)))))
noncomputable def m_node_data : List D → M → Res D := mFn 5 2 b_node_data
noncomputable def b_law_node_holds_u : MS := (mSeq (mSet 1 (mL (mFix 1 m_law_level_u) (mCons (mVar 0) mNil)))
  (mSeq (mSet 2 (mLcN [9] (mRng (mCons (mL (mFix 2 m_law_take_u) (mCons (mVar 0) (mCons (mC (.int 7)) mNil))) mNil)) (gN 9) mYes (mL (mFix 1 m_law_entry_u) (mCons (mVar 0) mNil))))
  (mSeq (mSet 3 (mL (mFix 3 m_law_filled_u) (mCons (mVar 1) (mCons (mL fLen (mCons (mVar 2) mNil)) (mCons (mL (mFix 1 m_law_body_u) (mCons (mVar 2) mNil)) mNil)))))
  (mSeq (mSet 4 (mL fList (mCons (mVar 2) mNil)))
  (mSeq (mIfS (mOrT (mNotT (mTru (mL (mFix 2 m_law_is_u) (mCons (mL (mFix 2 m_node_data) (mCons (mVar 1) (mCons (mVar 4) mNil))) (mCons (mVar 3) mNil))))) (mTest (m2 fNe (mVar 4) (mVar 2))))
  (mRet (mC (.bl false)))
  mSkip)
  (mSeq (mSet 5 (mL fList (mCons (mVar 3) mNil)))
  (mSeq (mSet 6 (mL (mFix 1 m_node_entries) (mCons (mVar 5) mNil)))
  (mSeq (mIfS (mOrT (mNotT (mTru (mL fIsI (mCons (mVar 6) (mCons (mC (.ty "list")) mNil))))) (mOrT (mTest (m2 fNe (mVar 6) (mVar 2))) (mTest (m2 fNe (mVar 5) (mVar 3)))))
  (mRet (mC (.bl false)))
  mSkip)
  (mSeq (mIfS (mNotT (mTru (mL (mFix 1 m_law_are_integers_u) (mCons (mL (mFix 1 m_law_body_u) (mCons (mVar 6) mNil)) mNil))))
  (mRet (mC (.bl false)))
  mSkip)
  (mSeq (mSet 7 (mL (mFix 1 m_block_pointers) (mCons (mVar 5) mNil)))
  (mSeq (mSet 8 (mLcN [10] (mIter (mVar 2)) (gN 10) (mOrT (mTest (m2 fGt (mVar 1) (mC (.int 1)))) (mTest (m2 fEq (m2 fIx (m2 fIx (mVar 10) (mC (.int 0))) (mC (.int 1))) (mC (.int 3))))) (m2 fIx (mVar 10) (mC (.int 1)))))
  (mSeq (mIfS (mOrT (mNotT (mTru (mL fIsI (mCons (mVar 7) (mCons (mC (.ty "list")) mNil))))) (mOrT (mTest (m2 fNe (mVar 7) (mVar 8))) (mTest (m2 fNe (mVar 5) (mVar 3)))))
  (mRet (mC (.bl false)))
  mSkip)
  (mRet (mL (mFix 2 m_law_is_u) (mCons (mL (mFix 2 m_node_data) (mCons (mVar 1) (mCons (mVar 6) mNil))) (mCons (mVar 3) mNil))))))))))))))))
noncomputable def m_law_node_holds_u : List D → M → Res D := mFn 11 1 b_law_node_holds_u
noncomputable def b_law_turn_u : MS := (mIfS (mTest (m2 fLt (m2 fIx (mVar 0) (mC (.int 1))) (mL fLen (mCons (m2 fIx (mVar 0) (mC (.int 0))) mNil))))
  (mSeq (mSet 1 (m2 fIx (m2 fIx (mVar 0) (mC (.int 0))) (m2 fIx (mVar 0) (mC (.int 1)))))
  (mSeq (m3 fPut (mVar 0) (mC (.int 1)) (m2 fAdd (m2 fIx (mVar 0) (mC (.int 1))) (mC (.int 1))))
  (mSeq (m3 fPut (mVar 0) (mC (.int 2)) (mC (.int 0)))
  (mSeq (mIfS (mTest (m2 fGe (mVar 1) (mC (.int 1000000000000000000))))
  (m3 fPut (mVar 0) (mC (.int 2)) (m2 fMod (mL fInt (mCons (mVar 1) mNil)) (mC (.int ((10 ^ 60) ^ 50)))))
  mSkip)
  (m3 fPut (mVar 0) (mC (.int 3)) (m2 fMod (mL fInt (mCons (m2 fAdd (m2 fAdd (m2 fMod (mL fInt (mCons (mVar 1) mNil)) (mC (.int 2147483629))) (m2 fMul (mC (.int 31)) (m2 fIx (mVar 0) (mC (.int 3))))) (m2 fIx (mVar 0) (mC (.int 1)))) mNil)) (mC (.int 2147483647))))))))
  mSkip)
noncomputable def m_law_turn_u : List D → M → Res D := mFn 2 1 b_law_turn_u
noncomputable def b_law : MS := (mSeq (mIfS (mOrT (mNotT (mTru (mL (mFix 1 m_law_are_integers_u) (mCons (mL fLst (mCons (mC (.int 16777216)) (mCons (mC (.int 3)) mNil))) mNil)))) (mOrT (mTest (m2 fNe (mC (.int 16777216)) (mC (.int 16777216)))) (mTest (m2 fNe (mC (.int 3)) (mC (.int 3))))))
  (mRet (mC (.bl false)))
  mSkip)
  (mSeq (mSet 1 (mL (mFix 1 m_law_bag_u) (mCons (mVar 0) mNil)))
  (mSeq (mFor (mRng (mCons (m2 fAdd (mC (.int 2)) (mL fMin (mCons (mC (.int 30)) (mCons (mL fLen (mCons (mVar 0) mNil)) mNil)))) mNil)) (gN 2)
  (mSeq (mDo (mL (mFix 1 m_law_turn_u) (mCons (mVar 1) mNil)))
  (mIfS (mOrT (mNotT (mTru (mL (mFix 1 m_law_node_holds_u) (mCons (mVar 1) mNil)))) (mNotT (mTru (mL (mFix 1 m_law_cells_hold_u) (mCons (mVar 1) mNil)))))
  (mRet (mC (.bl false)))
  mSkip)))
  (mRet (mC (.bl true))))))
noncomputable def m_law : List D → M → Res D := mFn 3 1 b_law
/-! ### the derivations -/
section
variable {P : Program} {w : World} {K : PySem.W.Frag} {mg : Str → Option Value} {base : Heap}
theorem bd_law_is_integer_u (T : Top K mg) (f : Addr) (cdv : Value) (A : Around) (outer : List Env) (s : Shared) (H : Hp) (E : XK) (hr : Room 0 (A.deeper (envOfC "_law_is_integer" (defScope s_law_is_integer_u) s.heap.objs.size f cdv))) :
    FSs (cxOf (L2.CX P w) P w K mg base ["thing"] "_law_is_integer" (defScope s_law_is_integer_u) f cdv A outer s H E) (fun c d _ H => E c d H) none (defBody s_law_is_integer_u) b_law_is_integer_u :=
  (fs_one (fs_ret (fe_and (fe_isI T.z_isinstance (fa_cons (fv 0) (fa_cons (fe_ty T.z_int (by decide +kernel)) fa_nil))) (fe_one (fe_not (fe_isI T.z_isinstance (fa_cons (fv 0) (fa_cons (fe_ty T.z_bool (by decide +kernel)) fa_nil))))))))
theorem ok_law_is_integer_u (T : Top K mg) : Def P w K mg base "_law_is_integer" 1 1 m_law_is_integer_u := defOf T.f_law_is_integer_u sc_law_is_integer_u (bd_law_is_integer_u T)
theorem bd_law_are_integers_u (T : Top K mg) (f : Addr) (cdv : Value) (A : Around) (outer : List Env) (s : Shared) (H : Hp) (E : XK) (hr : Room 1 (A.deeper (envOfC "_law_are_integers" (defScope s_law_are_integers_u) s.heap.objs.size f cdv))) :
    FSs (cxOf (L2.CX P w) P w K mg base ["things", "thing"] "_law_are_integers" (defScope s_law_are_integers_u) f cdv A outer s H E) (fun c d _ H => E c d H) none (defBody s_law_are_integers_u) b_law_are_integers_u :=
  (fs_cons (fs_for poD (fi_any (fv 0)) (fg_name (i := 1) sc_law_are_integers_u.nd)
  (fs_one (fs_if (ft_not (ft_tru (fe_call (ok_law_is_integer_u T) tkD (hr.mono (by decide)) (fa_cons (fv 1) fa_nil))))
  (fs_one (fs_ret fe_bl))
  fs_nil)))
  (fs_one (fs_ret fe_bl)))
theorem ok_law_are_integers_u (T : Top K mg) : Def P w K mg base "_law_are_integers" 2 1 m_law_are_integers_u := defOf T.f_law_are_integers_u sc_law_are_integers_u (bd_law_are_integers_u T)
theorem bd_law_bag_u (T : Top K mg) (f : Addr) (cdv : Value) (A : Around) (outer : List Env) (s : Shared) (H : Hp) (E : XK) (hr : Room 0 (A.deeper (envOfC "_law_bag" (defScope s_law_bag_u) s.heap.objs.size f cdv))) :
    FSs (cxOf (L2.CX P w) P w K mg base ["script"] "_law_bag" (defScope s_law_bag_u) f cdv A outer s H E) (fun c d _ H => E c d H) none (defBody s_law_bag_u) b_law_bag_u :=
  (fs_one (fs_ret (fe_lst (fa_cons (fe_slice (fv 0) fo_none (fo_some fe_int)) (fa_cons fe_int (fa_cons fe_int (fa_cons fe_int (fa_cons fe_int fa_nil))))))))
theorem ok_law_bag_u (T : Top K mg) : Def P w K mg base "_law_bag" 1 1 m_law_bag_u := defOf T.f_law_bag_u sc_law_bag_u (bd_law_bag_u T)
theorem bd_law_take_u (T : Top K mg) (f : Addr) (cdv : Value) (A : Around) (outer : List Env) (s : Shared) (H : Hp) (E : XK) (hr : Room 0 (A.deeper (envOfC "_law_take" (defScope s_law_take_u) s.heap.objs.size f cdv))) :
    FSs (cxOf (L2.CX P w) P w K mg base ["bag", "many", "got", "one", "two"] "_law_take" (defScope s_law_take_u) f cdv A outer s H E) (fun c d _ H => E c d H) none (defBody s_law_take_u) b_law_take_u :=
  (fs_cons (fs_if (ft_c1 (fc_gt (fe_ix hr (fv 0) fe_int) fe_int))
  (fs_cons (fs_set (i := 2) sc_law_take_u.nd (fe_mod (fe_intc T.z_int (fa_cons (fe_ix hr (fv 0) fe_int) fa_nil)) (fv 1)))
  (fs_cons (fs_put hr (fv 0) fe_int (fe_div (fe_ix hr (fv 0) fe_int) (fv 1)))
  (fs_one (fs_ret (fv 2)))))
  fs_nil)
  (fs_cons (fs_put hr (fv 0) fe_int (fe_add (fe_ix hr (fv 0) fe_int) fe_int))
  (fs_cons (fs_put hr (fv 0) fe_int (fe_mod (fe_intc T.z_int (fa_cons (fe_add (fe_mul (fe_ix hr (fv 0) fe_int) fe_int) (fe_mul fe_int (fe_ix hr (fv 0) fe_int))) fa_nil)) fe_int))
  (fs_cons (fs_set (i := 3) sc_law_take_u.nd (fe_mod (fe_intc T.z_int (fa_cons (fe_add (fe_mul (fe_ix hr (fv 0) fe_int) (fe_ix hr (fv 0) fe_int)) (fe_mul fe_int (fe_ix hr (fv 0) fe_int))) fa_nil)) fe_int))
  (fs_cons (fs_set (i := 4) sc_law_take_u.nd (fe_mod (fe_intc T.z_int (fa_cons (fe_add (fe_mul (fv 3) (fv 3)) (fe_mul fe_int (fe_ix hr (fv 0) fe_int))) fa_nil)) fe_int))
  (fs_one (fs_ret (fe_mod (fe_intc T.z_int (fa_cons (fe_add (fe_mul (fv 3) fe_int) (fv 4)) fa_nil)) (fv 1)))))))))
theorem ok_law_take_u (T : Top K mg) : Def P w K mg base "_law_take" 1 2 m_law_take_u := defOf T.f_law_take_u sc_law_take_u (bd_law_take_u T)
theorem bd_law_word_u (T : Top K mg) (f : Addr) (cdv : Value) (A : Around) (outer : List Env) (s : Shared) (H : Hp) (E : XK) (hr : Room 1 (A.deeper (envOfC "_law_word" (defScope s_law_word_u) s.heap.objs.size f cdv))) :
    FSs (cxOf (L2.CX P w) P w K mg base ["bag", "way"] "_law_word" (defScope s_law_word_u) f cdv A outer s H E) (fun c d _ H => E c d H) none (defBody s_law_word_u) b_law_word_u :=
  (fs_cons (fs_set (i := 1) sc_law_word_u.nd (fe_call (ok_law_take_u T) tkD (hr.mono (by decide)) (fa_cons (fv 0) (fa_cons fe_int fa_nil))))
  (fs_cons (fs_if (ft_c1 (fc_eq hr (fv 1) fe_int))
  (fs_one (fs_ret (fe_call (ok_law_take_u T) tkD (hr.mono (by decide)) (fa_cons (fv 0) (fa_cons fe_int fa_nil)))))
  fs_nil)
  (fs_cons (fs_if (ft_c1 (fc_eq hr (fv 1) fe_int))
  (fs_one (fs_ret (fe_sub (fk_sub (v := 2305843009213693950) (fk_pow (v := 2305843009213693952) fe_int fe_int (by decide +kernel) (by decide +kernel)) fe_int (by decide +kernel)) (fe_call (ok_law_take_u T) tkD (hr.mono (by decide)) (fa_cons (fv 0) (fa_cons fe_int fa_nil))))))
  fs_nil)
  (fs_one (fs_ret (fe_call (ok_law_take_u T) tkD (hr.mono (by decide)) (fa_cons (fv 0) (fa_cons (fk_sub (v := 2305843009213693951) (fk_pow (v := 2305843009213693952) fe_int fe_int (by decide +kernel) (by decide +kernel)) fe_int (by decide +kernel)) fa_nil))))))))
theorem ok_law_word_u (T : Top K mg) : Def P w K mg base "_law_word" 2 1 m_law_word_u := defOf T.f_law_word_u sc_law_word_u (bd_law_word_u T)
theorem bd_law_cell_u (T : Top K mg) (f : Addr) (cdv : Value) (A : Around) (outer : List Env) (s : Shared) (H : Hp) (E : XK) (hr : Room 2 (A.deeper (envOfC "_law_cell" (defScope s_law_cell_u) s.heap.objs.size f cdv))) :
    FSs (cxOf (L2.CX P w) P w K mg base ["bag"] "_law_cell" (defScope s_law_cell_u) f cdv A outer s H E) (fun c d _ H => E c d H) none (defBody s_law_cell_u) b_law_cell_u :=
  (fs_cons (fs_if (ft_c1 (fc_eq hr (fe_call (ok_law_take_u T) tkD (hr.mono (by decide)) (fa_cons (fv 0) (fa_cons fe_int fa_nil))) fe_int))
  (fs_one (fs_ret fe_int))
  fs_nil)
  (fs_one (fs_ret (fe_call (ok_law_word_u T) tkD (hr.mono (by decide)) (fa_cons (fv 0) fa_nil)))))
theorem ok_law_cell_u (T : Top K mg) : Def P w K mg base "_law_cell" 3 1 m_law_cell_u := defOf T.f_law_cell_u sc_law_cell_u (bd_law_cell_u T)
theorem bd_law_filled_u (T : Top K mg) (f : Addr) (cdv : Value) (A : Around) (outer : List Env) (s : Shared) (H : Hp) (E : XK) (hr : Room 0 (A.deeper (envOfC "_law_filled" (defScope s_law_filled_u) s.heap.objs.size f cdv))) :
    FSs (cxOf (L2.CX P w) P w K mg base ["level", "many", "body", "told"] "_law_filled" (defScope s_law_filled_u) f cdv A outer s H E) (fun c d _ H => E c d H) none (defBody s_law_filled_u) b_law_filled_u :=
  (fs_cons (fs_set (i := 3) sc_law_filled_u.nd (fe_lst (fa_cons (fv 0) (fa_cons (fv 1) fa_nil))))
  (fs_cons (fs_expr (fe_extend (fv 3) (fa_cons (fv 2) fa_nil)))
  (fs_one (fs_ret (fe_add (fv 3) (fe_mul (fe_lst (fa_cons fe_int fa_nil)) (fe_sub fe_int (fe_len (by decide +kernel) T.z_len (fa_cons (fv 3) fa_nil)))))))))
theorem ok_law_filled_u (T : Top K mg) : Def P w K mg base "_law_filled" 1 3 m_law_filled_u := defOf T.f_law_filled_u sc_law_filled_u (bd_law_filled_u T)
theorem bd_law_is_u (T : Top K mg) (f : Addr) (cdv : Value) (A : Around) (outer : List Env) (s : Shared) (H : Hp) (E : XK) (hr : Room 2 (A.deeper (envOfC "_law_is" (defScope s_law_is_u) s.heap.objs.size f cdv))) :
    FSs (cxOf (L2.CX P w) P w K mg base ["told", "due"] "_law_is" (defScope s_law_is_u) f cdv A outer s H E) (fun c d _ H => E c d H) none (defBody s_law_is_u) b_law_is_u :=
  (fs_cons (fs_if (FW.ft (fw_or (ft_not (ft_tru (fe_isI T.z_isinstance (fa_cons (fv 0) (fa_cons (fe_ty T.z_list (by decide +kernel)) fa_nil))))) (fw_or1 (ft_c1 (fc_ne hr (fe_len (by decide +kernel) T.z_len (fa_cons (fv 0) fa_nil)) (fe_len (by decide +kernel) T.z_len (fa_cons (fv 1) fa_nil)))))))
  (fs_one (fs_ret fe_bl))
  fs_nil)
  (fs_one (fs_ret (fe_and (fe_c1 (fc_eq hr (fv 0) (fv 1))) (fe_one (fe_call (ok_law_are_integers_u T) tkD (hr.mono (by decide)) (fa_cons (fv 0) fa_nil)))))))
theorem ok_law_is_u (T : Top K mg) : Def P w K mg base "_law_is" 3 2 m_law_is_u := defOf T.f_law_is_u sc_law_is_u (bd_law_is_u T)
theorem bd_node_entries (T : Top K mg) (f : Addr) (cdv : Value) (A : Around) (outer : List Env) (s : Shared) (H : Hp) (E : XK) (hr : Room 0 (A.deeper (envOfC "node_entries" (defScope s_node_entries) s.heap.objs.size f cdv))) :
    FSs (cxOf (L2.CX P w) P w K mg base ["data", "entries", "number", "at", "key", "value"] "node_entries" (defScope s_node_entries) f cdv A outer s H E) (fun c d _ H => E c d H) none (defBody s_node_entries) b_node_entries :=
  (fs_cons (fs_set (i := 1) sc_node_entries.nd (fe_lst fa_nil))
  (fs_cons (fs_for poD (fi_range1 T.z_range (fa_cons (fe_min2 T.z_min (fa_cons (fe_ix hr (fv 0) fe_int) (fa_cons (T.c_MOST_ENTRIES_u.elim fun _ e => fe_gint e) fa_nil))) fa_nil) (mCons_len mNil_len)) (fg_name (i := 2) sc_node_entries.nd)
  (fs_cons (fs_set (i := 3) sc_node_entries.nd (fe_add fe_int (fe_mul (T.c_ENTRY_WORDS_u.elim fun _ e => fe_gint e) (fv 2))))
  (fs_cons (fs_set (i := 4) sc_node_entries.nd (fe_tuple T.z_tuple (fa_cons (fe_slice (fv 0) (fo_some (fv 3)) (fo_some (fe_add (fv 3) fe_int))) fa_nil)))
  (fs_cons (fs_set (i := 5) sc_node_entries.nd (fe_tuple T.z_tuple (fa_cons (fe_slice (fv 0) (fo_some (fe_add (fv 3) fe_int)) (fo_some (fe_add (fv 3) fe_int))) fa_nil)))
  (fs_one (fs_expr (fe_append (fv 1) (fa_cons (fe_tup (fa_cons (fv 4) (fa_cons (fv 5) fa_nil))) fa_nil))))))))
  (fs_one (fs_ret (fv 1)))))
theorem ok_node_entries (T : Top K mg) : Def P w K mg base "node_entries" 1 1 m_node_entries := defOf T.f_node_entries sc_node_entries (bd_node_entries T)
theorem bd_block_pointers (T : Top K mg) (f : Addr) (cdv : Value) (A : Around) (outer : List Env) (s : Shared) (H : Hp) (E : XK) (hr : Room 1 (A.deeper (envOfC "block_pointers" (defScope s_block_pointers) s.heap.objs.size f cdv))) :
    FSs (cxOf (L2.CX P w) P w K mg base ["data", "level", "key", "value"] "block_pointers" (defScope s_block_pointers) f cdv A outer s H E) (fun c d _ H => E c d H) none (defBody s_block_pointers) b_block_pointers :=
  (fs_cons (fs_set (i := 1) sc_block_pointers.nd (fe_ix hr (fv 0) fe_int))
  (fs_cons (fs_if (ft_c1 (fc_eq hr (fv 1) fe_int))
  (fs_one (fs_ret (fe_lst fa_nil)))
  fs_nil)
  (fs_one (fs_ret (fe_lc [("key", 2), ("value", 3)] sc_block_pointers.nd (fi_any (fe_call (ok_node_entries T) tkD (hr.mono (by decide)) (fa_cons (fv 0) fa_nil))) (blkOk_by (N := ["data", "level", "key", "value"]) (sc := defScope s_block_pointers) (own := [("key", 2), ("value", 3)]) (by decide +kernel)) (fun _ _ _ _ _ => (fg_tup (fgs_cons (fg_name (i := 2) sc_block_pointers.nd) (fgs_cons (fg_name (i := 3) sc_block_pointers.nd) fgs_nil)))) (fun _ _ _ _ _ => (fts_one (FW.ft (fw_or (ft_c1 (fc_gt (fv 1) fe_int)) (fw_or1 (ft_c1 (fc_eq hr (fe_ix hr (fv 2) fe_int) (T.c_POINTING.elim fun _ e => fe_gint e)))))))) (fun _ _ _ _ _ => (fv 3)))))))
theorem ok_block_pointers (T : Top K mg) : Def P w K mg base "block_pointers" 2 1 m_block_pointers := defOf T.f_block_pointers sc_block_pointers (bd_block_pointers T)
theorem bd_filled_u (T : Top K mg) (f : Addr) (cdv : Value) (A : Around) (outer : List Env) (s : Shared) (H : Hp) (E : XK) (hr : Room 0 (A.deeper (envOfC "_filled" (defScope s_filled_u) s.heap.objs.size f cdv))) :
    FSs (cxOf (L2.CX P w) P w K mg base ["words"] "_filled" (defScope s_filled_u) f cdv A outer s H E) (fun c d _ H => E c d H) none (defBody s_filled_u) b_filled_u :=
  (fs_one (fs_ret (fe_add (fv 0) (fe_mul (fe_lst (fa_cons fe_int fa_nil)) (fe_sub (T.c_WORDS_u.elim fun _ e => fe_gint e) (fe_len (by decide +kernel) T.z_len (fa_cons (fv 0) fa_nil)))))))
theorem ok_filled_u (T : Top K mg) : Def P w K mg base "_filled" 1 1 m_filled_u := defOf T.f_filled_u sc_filled_u (bd_filled_u T)
theorem bd_cell_data (T : Top K mg) (f : Addr) (cdv : Value) (A : Around) (outer : List Env) (s : Shared) (H : Hp) (E : XK) (hr : Room 1 (A.deeper (envOfC "cell_data" (defScope s_cell_data) s.heap.objs.size f cdv))) :
    FSs (cxOf (L2.CX P w) P w K mg base ["cells"] "cell_data" (defScope s_cell_data) f cdv A outer s H E) (fun c d _ H => E c d H) none (defBody s_cell_data) b_cell_data :=
  (fs_one (fs_ret (fe_call (ok_filled_u T) tkD (hr.mono (by decide)) (fa_cons (fe_add (fe_lst (fa_cons fe_int (fa_cons (fe_len (by decide +kernel) T.z_len (fa_cons (fv 0) fa_nil)) fa_nil))) (fe_list T.z_list (fa_cons (fv 0) fa_nil))) fa_nil))))
theorem ok_cell_data (T : Top K mg) : Def P w K mg base "cell_data" 2 1 m_cell_data := defOf T.f_cell_data sc_cell_data (bd_cell_data T)
theorem bd_data_cells (T : Top K mg) (f : Addr) (cdv : Value) (A : Around) (outer : List Env) (s : Shared) (H : Hp) (E : XK) (hr : Room 0 (A.deeper (envOfC "data_cells" (defScope s_data_cells) s.heap.objs.size f cdv))) :
    FSs (cxOf (L2.CX P w) P w K mg base ["data"] "data_cells" (defScope s_data_cells) f cdv A outer s H E) (fun c d _ H => E c d H) none (defBody s_data_cells) b_data_cells :=
  (fs_one (fs_ret (fe_list T.z_list (fa_cons (fe_slice (fv 0) (fo_some fe_int) (fo_some (fe_add fe_int (fe_ix hr (fv 0) fe_int)))) fa_nil))))
theorem ok_data_cells (T : Top K mg) : Def P w K mg base "data_cells" 1 1 m_data_cells := defOf T.f_data_cells sc_data_cells (bd_data_cells T)
theorem bd_law_cells_hold_u (T : Top K mg) (f : Addr) (cdv : Value) (A : Around) (outer : List Env) (s : Shared) (H : Hp) (E : XK) (hr : Room 3 (A.deeper (envOfC "_law_cells_hold" (defScope s_law_cells_hold_u) s.heap.objs.size f cdv))) :
    FSs (cxOf (L2.CX P w) P w K mg base ["bag", "cells", "due", "handed", "given", "told", "k"] "_law_cells_hold" (defScope s_law_cells_hold_u) f cdv A outer s H E) (fun c d _ H => E c d H) none (defBody s_law_cells_hold_u) b_law_cells_hold_u :=
  (fs_cons (fs_setLc (i := 1) [("k", 6)] sc_law_cells_hold_u.nd (fi_range1 T.z_range (fa_cons (fe_call (ok_law_take_u T) tkD (hr.mono (by decide)) (fa_cons (fv 0) (fa_cons fe_int fa_nil))) fa_nil) (mCons_len mNil_len)) (blkOk_by (N := ["bag", "cells", "due", "handed", "given", "told", "k"]) (sc := defScope s_law_cells_hold_u) (own := [("k", 6)]) (by decide +kernel)) (fun _ _ _ _ _ => (fg_name (i := 6) sc_law_cells_hold_u.nd)) (fun _ _ _ _ _ => fts_nil) (fun _ _ _ _ _ => (fe_call (ok_law_cell_u T) tkN (hr.mono (by decide)) (fa_cons (fv 0) fa_nil))) (sw_true rfl rfl rfl (by decide +kernel)))
  (fs_cons (fs_set (i := 2) sc_law_cells_hold_u.nd (fe_call (ok_law_filled_u T) tkD (hr.mono (by decide)) (fa_cons fe_int (fa_cons (fe_len (by decide +kernel) T.z_len (fa_cons (fv 1) fa_nil)) (fa_cons (fv 1) fa_nil)))))
  (fs_cons (fs_set (i := 3) sc_law_cells_hold_u.nd (fe_list T.z_list (fa_cons (fv 1) fa_nil)))
  (fs_cons (fs_if (FW.ft (fw_or (ft_not (ft_tru (fe_call (ok_law_is_u T) tkD (hr.mono (by decide)) (fa_cons (fe_call (ok_cell_data T) tkD (hr.mono (by decide)) (fa_cons (fv 3) fa_nil)) (fa_cons (fv 2) fa_nil))))) (fw_or1 (ft_c1 (fc_ne hr (fv 3) (fv 1))))))
  (fs_one (fs_ret fe_bl))
  fs_nil)
  (fs_cons (fs_set (i := 4) sc_law_cells_hold_u.nd (fe_list T.z_list (fa_cons (fv 2) fa_nil)))
  (fs_cons (fs_set (i := 5) sc_law_cells_hold_u.nd (fe_call (ok_data_cells T) tkD (hr.mono (by decide)) (fa_cons (fv 4) fa_nil)))
  (fs_cons (fs_if (FW.ft (fw_or (ft_not (ft_tru (fe_call (ok_law_is_u T) tkD (hr.mono (by decide)) (fa_cons (fv 5) (fa_cons (fv 1) fa_nil))))) (fw_or1 (ft_c1 (fc_ne hr (fv 4) (fv 2))))))
  (fs_one (fs_ret fe_bl))
  fs_nil)
  (fs_cons (fs_expr (fe_append (fv 5) (fa_cons fe_int fa_nil)))
  (fs_cons (fs_if (FW.ft (fw_or (ft_not (ft_tru (fe_call (ok_law_is_u T) tkD (hr.mono (by decide)) (fa_cons (fe_call (ok_data_cells T) tkD (hr.mono (by decide)) (fa_cons (fv 4) fa_nil)) (fa_cons (fv 1) fa_nil))))) (fw_or1 (ft_c1 (fc_ne hr (fv 4) (fv 2))))))
  (fs_one (fs_ret fe_bl))
  fs_nil)
  (fs_one (fs_ret (fe_and (fe_c1 (fc_eq hr (fe_call (ok_block_pointers T) tkD (hr.mono (by decide)) (fa_cons (fv 4) fa_nil)) (fe_lst fa_nil))) (fe_one (fe_c1 (fc_eq hr (fv 4) (fv 2))))))))))))))))
theorem ok_law_cells_hold_u (T : Top K mg) : Def P w K mg base "_law_cells_hold" 4 1 m_law_cells_hold_u := defOf T.f_law_cells_hold_u sc_law_cells_hold_u (bd_law_cells_hold_u T)
theorem bd_law_body_u (T : Top K mg) (f : Addr) (cdv : Value) (A : Around) (outer : List Env) (s : Shared) (H : Hp) (E : XK) (hr : Room 0 (A.deeper (envOfC "_law_body" (defScope s_law_body_u) s.heap.objs.size f cdv))) :
    FSs (cxOf (L2.CX P w) P w K mg base ["entries", "body", "entry"] "_law_body" (defScope s_law_body_u) f cdv A outer s H E) (fun c d _ H => E c d H) none (defBody s_law_body_u) b_law_body_u :=
  (fs_cons (fs_set (i := 1) sc_law_body_u.nd (fe_lst fa_nil))
  (fs_cons (fs_for poD (fi_any (fv 0)) (fg_name (i := 2) sc_law_body_u.nd)
  (fs_one (fs_expr (fe_extend (fv 1) (fa_cons (fe_lst (fa_cons (fe_ix hr (fe_ix hr (fv 2) fe_int) fe_int) (fa_cons (fe_ix hr (fe_ix hr (fv 2) fe_int) fe_int) (fa_cons (fe_ix hr (fe_ix hr (fv 2) fe_int) fe_int) (fa_cons (fe_ix hr (fe_ix hr (fv 2) fe_int) fe_int) (fa_cons (fe_ix hr (fe_ix hr (fv 2) fe_int) fe_int) fa_nil)))))) fa_nil)))))
  (fs_one (fs_ret (fv 1)))))
theorem ok_law_body_u (T : Top K mg) : Def P w K mg base "_law_body" 1 1 m_law_body_u := defOf T.f_law_body_u sc_law_body_u (bd_law_body_u T)
theorem bd_law_middle_u (T : Top K mg) (f : Addr) (cdv : Value) (A : Around) (outer : List Env) (s : Shared) (H : Hp) (E : XK) (hr : Room 2 (A.deeper (envOfC "_law_middle" (defScope s_law_middle_u) s.heap.objs.size f cdv))) :
    FSs (cxOf (L2.CX P w) P w K mg base ["bag", "way"] "_law_middle" (defScope s_law_middle_u) f cdv A outer s H E) (fun c d _ H => E c d H) none (defBody s_law_middle_u) b_law_middle_u :=
  (fs_cons (fs_set (i := 1) sc_law_middle_u.nd (fe_call (ok_law_take_u T) tkD (hr.mono (by decide)) (fa_cons (fv 0) (fa_cons fe_int fa_nil))))
  (fs_cons (fs_if (ft_c1 (fc_lt (fv 1) fe_int))
  (fs_one (fs_ret fe_int))
  fs_nil)
  (fs_cons (fs_if (ft_c1 (fc_eq hr (fv 1) fe_int))
  (fs_one (fs_ret (fe_add fe_int (fe_mul fe_int (fe_call (ok_law_take_u T) tkD (hr.mono (by decide)) (fa_cons (fv 0) (fa_cons fe_int fa_nil)))))))
  fs_nil)
  (fs_cons (fs_if (ft_c1 (fc_eq hr (fv 1) fe_int))
  (fs_one (fs_ret fe_int))
  fs_nil)
  (fs_one (fs_ret (fe_call (ok_law_word_u T) tkD (hr.mono (by decide)) (fa_cons (fv 0) fa_nil))))))))
theorem ok_law_middle_u (T : Top K mg) : Def P w K mg base "_law_middle" 3 1 m_law_middle_u := defOf T.f_law_middle_u sc_law_middle_u (bd_law_middle_u T)
theorem bd_law_entry_u (T : Top K mg) (f : Addr) (cdv : Value) (A : Around) (outer : List Env) (s : Shared) (H : Hp) (E : XK) (hr : Room 3 (A.deeper (envOfC "_law_entry" (defScope s_law_entry_u) s.heap.objs.size f cdv))) :
    FSs (cxOf (L2.CX P w) P w K mg base ["bag", "front", "middle", "last", "left", "right"] "_law_entry" (defScope s_law_entry_u) f cdv A outer s H E) (fun c d _ H => E c d H) none (defBody s_law_entry_u) b_law_entry_u :=
  (fs_cons (fs_set (i := 1) sc_law_entry_u.nd (fe_call (ok_law_word_u T) tkD (hr.mono (by decide)) (fa_cons (fv 0) fa_nil)))
  (fs_cons (fs_set (i := 2) sc_law_entry_u.nd (fe_call (ok_law_middle_u T) tkD (hr.mono (by decide)) (fa_cons (fv 0) fa_nil)))
  (fs_cons (fs_set (i := 3) sc_law_entry_u.nd (fe_call (ok_law_word_u T) tkD (hr.mono (by decide)) (fa_cons (fv 0) fa_nil)))
  (fs_cons (fs_set (i := 4) sc_law_entry_u.nd (fe_call (ok_law_word_u T) tkD (hr.mono (by decide)) (fa_cons (fv 0) fa_nil)))
  (fs_cons (fs_set (i := 5) sc_law_entry_u.nd (fe_call (ok_law_word_u T) tkD (hr.mono (by decide)) (fa_cons (fv 0) fa_nil)))
  (fs_one (fs_ret (fe_tup (fa_cons (fe_tup (fa_cons (fv 1) (fa_cons (fv 2) (fa_cons (fv 3) fa_nil)))) (fa_cons (fe_tup (fa_cons (fv 4) (fa_cons (fv 5) fa_nil))) fa_nil))))))))))
theorem ok_law_entry_u (T : Top K mg) : Def P w K mg base "_law_entry" 4 1 m_law_entry_u := defOf T.f_law_entry_u sc_law_entry_u (bd_law_entry_u T)
theorem bd_law_level_u (T : Top K mg) (f : Addr) (cdv : Value) (A : Around) (outer : List Env) (s : Shared) (H : Hp) (E : XK) (hr : Room 1 (A.deeper (envOfC "_law_level" (defScope s_law_level_u) s.heap.objs.size f cdv))) :
    FSs (cxOf (L2.CX P w) P w K mg base ["bag", "way"] "_law_level" (defScope s_law_level_u) f cdv A outer s H E) (fun c d _ H => E c d H) none (defBody s_law_level_u) b_law_level_u :=
  (fs_cons (fs_set (i := 1) sc_law_level_u.nd (fe_call (ok_law_take_u T) tkD (hr.mono (by decide)) (fa_cons (fv 0) (fa_cons fe_int fa_nil))))
  (fs_cons (fs_if (ft_c1 (fc_lt (fv 1) fe_int))
  (fs_one (fs_ret fe_int))
  fs_nil)
  (fs_cons (fs_if (ft_c1 (fc_eq hr (fv 1) fe_int))
  (fs_one (fs_ret (fe_add fe_int (fe_call (ok_law_take_u T) tkD (hr.mono (by decide)) (fa_cons (fv 0) (fa_cons fe_int fa_nil))))))
  fs_nil)
  (fs_one (fs_ret (fe_add fe_int (fe_call (ok_law_take_u T) tkD (hr.mono (by decide)) (fa_cons (fv 0) (fa_cons (fk_sub (v := 2305843009213693949) (fk_pow (v := 2305843009213693952) fe_int fe_int (by decide +kernel) (by decide +kernel)) fe_int (by decide +kernel)) fa_nil)))))))))
theorem ok_law_level_u (T : Top K mg) : Def P w K mg base "_law_level" 2 1 m_law_level_u := defOf T.f_law_level_u sc_law_level_u (bd_law_level_u T)
theorem bd_node_data (T : Top K mg) (f : Addr) (cdv : Value) (A : Around) (outer : List Env) (s : Shared) (H : Hp) (E : XK) (hr : Room 1 (A.deeper (envOfC "node_data" (defScope s_node_data) s.heap.objs.size f cdv))) :
    FSs (cxOf (L2.CX P w) P w K mg base ["level", "entries", "words", "key", "value"] "node_data" (defScope s_node_data) f cdv A outer s H E) (fun c d _ H => E c d H) none (defBody s_node_data) b_node_data :=
  (fs_cons (fs_set (i := 2) sc_node_data.nd (fe_lst (fa_cons (fv 0) (fa_cons (fe_len (by decide +kernel) T.z_len (fa_cons (fv 1) fa_nil)) fa_nil))))
  (fs_cons (fs_for poD (fi_any (fv 1)) (fg_tup (fgs_cons (fg_name (i := 3) sc_node_data.nd) (fgs_cons (fg_name (i := 4) sc_node_data.nd) fgs_nil)))
  (fs_cons (fs_expr (fe_extend (fv 2) (fa_cons (fv 3) fa_nil)))
  (fs_one (fs_expr (fe_extend (fv 2) (fa_cons (fv 4) fa_nil))))))
  (fs_one (fs_ret (fe_call (ok_filled_u T) tkD (hr.mono (by decide)) (fa_cons (fv 2) fa_nil))))))
theorem ok_node_data (T : Top K mg) : Def P w K mg base "node_data" 2 2 m_node_data := defOf T.f_node_data sc_node_data (bd_node_data T)
theorem bd_law_node_holds_u (T : Top K mg) (f : Addr) (cdv : Value) (A : Around) (outer : List Env) (s : Shared) (H : Hp) (E : XK) (hr : Room 4 (A.deeper (envOfC "_law_node_holds" (defScope s_law_node_holds_u) s.heap.objs.size f cdv))) :
    FSs (cxOf (L2.CX P w) P w K mg base ["bag", "level", "entries", "due", "handed", "given", "told", "pointers", "wanted", "k", "entry"] "_law_node_holds" (defScope s_law_node_holds_u) f cdv A outer s H E) (fun c d _ H => E c d H) none (defBody s_law_node_holds_u) b_law_node_holds_u :=
  (fs_cons (fs_set (i := 1) sc_law_node_holds_u.nd (fe_call (ok_law_level_u T) tkD (hr.mono (by decide)) (fa_cons (fv 0) fa_nil)))
  (fs_cons (fs_setLc (i := 2) [("k", 9)] sc_law_node_holds_u.nd (fi_range1 T.z_range (fa_cons (fe_call (ok_law_take_u T) tkD (hr.mono (by decide)) (fa_cons (fv 0) (fa_cons fe_int fa_nil))) fa_nil) (mCons_len mNil_len)) (blkOk_by (N := ["bag", "level", "entries", "due", "handed", "given", "told", "pointers", "wanted", "k", "entry"]) (sc := defScope s_law_node_holds_u) (own := [("k", 9)]) (by decide +kernel)) (fun _ _ _ _ _ => (fg_name (i := 9) sc_law_node_holds_u.nd)) (fun _ _ _ _ _ => fts_nil) (fun _ _ _ _ _ => (fe_call (ok_law_entry_u T) tkN (hr.mono (by decide)) (fa_cons (fv 0) fa_nil))) (sw_true rfl rfl rfl (by decide +kernel)))
  (fs_cons (fs_set (i := 3) sc_law_node_holds_u.nd (fe_call (ok_law_filled_u T) tkD (hr.mono (by decide)) (fa_cons (fv 1) (fa_cons (fe_len (by decide +kernel) T.z_len (fa_cons (fv 2) fa_nil)) (fa_cons (fe_call (ok_law_body_u T) tkD (hr.mono (by decide)) (fa_cons (fv 2) fa_nil)) fa_nil)))))
  (fs_cons (fs_set (i := 4) sc_law_node_holds_u.nd (fe_list T.z_list (fa_cons (fv 2) fa_nil)))
  (fs_cons (fs_if (FW.ft (fw_or (ft_not (ft_tru (fe_call (ok_law_is_u T) tkD (hr.mono (by decide)) (fa_cons (fe_call (ok_node_data T) tkD (hr.mono (by decide)) (fa_cons (fv 1) (fa_cons (fv 4) fa_nil))) (fa_cons (fv 3) fa_nil))))) (fw_or1 (ft_c1 (fc_ne hr (fv 4) (fv 2))))))
  (fs_one (fs_ret fe_bl))
  fs_nil)
  (fs_cons (fs_set (i := 5) sc_law_node_holds_u.nd (fe_list T.z_list (fa_cons (fv 3) fa_nil)))
  (fs_cons (fs_set (i := 6) sc_law_node_holds_u.nd (fe_call (ok_node_entries T) tkD (hr.mono (by decide)) (fa_cons (fv 5) fa_nil)))
  (fs_cons (fs_if (FW.ft (fw_or (ft_not (ft_tru (fe_isI T.z_isinstance (fa_cons (fv 6) (fa_cons (fe_ty T.z_list (by decide +kernel)) fa_nil))))) (fw_or (ft_c1 (fc_ne hr (fv 6) (fv 2))) (fw_or1 (ft_c1 (fc_ne hr (fv 5) (fv 3)))))))
  (fs_one (fs_ret fe_bl))
  fs_nil)
  (fs_cons (fs_if (ft_not (ft_tru (fe_call (ok_law_are_integers_u T) tkD (hr.mono (by decide)) (fa_cons (fe_call (ok_law_body_u T) tkD (hr.mono (by decide)) (fa_cons (fv 6) fa_nil)) fa_nil))))
  (fs_one (fs_ret fe_bl))
  fs_nil)
  (fs_cons (fs_set (i := 7) sc_law_node_holds_u.nd (fe_call (ok_block_pointers T) tkD (hr.mono (by decide)) (fa_cons (fv 5) fa_nil)))
  (fs_cons (fs_setLc (i := 8) [("entry", 10)] sc_law_node_holds_u.nd (fi_any (fv 2)) (blkOk_by (N := ["bag", "level", "entries", "due", "handed", "given", "told", "pointers", "wanted", "k", "entry"]) (sc := defScope s_law_node_holds_u) (own := [("entry", 10)]) (by decide +kernel)) (fun _ _ _ _ _ => (fg_name (i := 10) sc_law_node_holds_u.nd)) (fun _ _ _ _ _ => (fts_one (FW.ft (fw_or (ft_c1 (fc_gt (fv 1) fe_int)) (fw_or1 (ft_c1 (fc_eq hr (fe_ix hr (fe_ix hr (fv 10) fe_int) fe_int) fe_int))))))) (fun _ _ _ _ _ => (fe_ix hr (fv 10) fe_int)) (sw_true rfl rfl rfl (by decide +kernel)))
  (fs_cons (fs_if (FW.ft (fw_or (ft_not (ft_tru (fe_isI T.z_isinstance (fa_cons (fv 7) (fa_cons (fe_ty T.z_list (by decide +kernel)) fa_nil))))) (fw_or (ft_c1 (fc_ne hr (fv 7) (fv 8))) (fw_or1 (ft_c1 (fc_ne hr (fv 5) (fv 3)))))))
  (fs_one (fs_ret fe_bl))
  fs_nil)
  (fs_one (fs_ret (fe_call (ok_law_is_u T) tkD (hr.mono (by decide)) (fa_cons (fe_call (ok_node_data T) tkD (hr.mono (by decide)) (fa_cons (fv 1) (fa_cons (fv 6) fa_nil))) (fa_cons (fv 3) fa_nil)))))))))))))))))
theorem ok_law_node_holds_u (T : Top K mg) : Def P w K mg base "_law_node_holds" 5 1 m_law_node_holds_u := defOf T.f_law_node_holds_u sc_law_node_holds_u (bd_law_node_holds_u T)
theorem bd_law_turn_u (T : Top K mg) (f : Addr) (cdv : Value) (A : Around) (outer : List Env) (s : Shared) (H : Hp) (E : XK) (hr : Room 0 (A.deeper (envOfC "_law_turn" (defScope s_law_turn_u) s.heap.objs.size f cdv))) :
    FSs (cxOf (L2.CX P w) P w K mg base ["bag", "cell"] "_law_turn" (defScope s_law_turn_u) f cdv A outer s H E) (fun c d _ H => E c d H) none (defBody s_law_turn_u) b_law_turn_u :=
  (fs_one (fs_if (ft_c1 (fc_lt (fe_ix hr (fv 0) fe_int) (fe_len (by decide +kernel) T.z_len (fa_cons (fe_ix hr (fv 0) fe_int) fa_nil))))
  (fs_cons (fs_set (i := 1) sc_law_turn_u.nd (fe_ix hr (fe_ix hr (fv 0) fe_int) (fe_ix hr (fv 0) fe_int)))
  (fs_cons (fs_put hr (fv 0) fe_int (fe_add (fe_ix hr (fv 0) fe_int) fe_int))
  (fs_cons (fs_put hr (fv 0) fe_int fe_int)
  (fs_cons (fs_if (ft_c1 (fc_ge (fv 1) (fk_pow (v := 1000000000000000000) fe_int fe_int (by decide +kernel) (by decide +kernel))))
  (fs_one (fs_put hr (fv 0) fe_int (fe_mod (fe_intc T.z_int (fa_cons (fv 1) fa_nil)) (fk_pow (v := ((10 ^ 60) ^ 50)) (fk_pow (v := (10 ^ 60)) fe_int fe_int (by decide +kernel) (by decide +kernel)) fe_int (by decide +kernel) (by decide +kernel)))))
  fs_nil)
  (fs_one (fs_put hr (fv 0) fe_int (fe_mod (fe_intc T.z_int (fa_cons (fe_add (fe_add (fe_mod (fe_intc T.z_int (fa_cons (fv 1) fa_nil)) fe_int) (fe_mul fe_int (fe_ix hr (fv 0) fe_int))) (fe_ix hr (fv 0) fe_int)) fa_nil)) fe_int)))))))
  fs_nil))
theorem ok_law_turn_u (T : Top K mg) : Def P w K mg base "_law_turn" 1 1 m_law_turn_u := defOf T.f_law_turn_u sc_law_turn_u (bd_law_turn_u T)
theorem bd_law (T : Top K mg) (f : Addr) (cdv : Value) (A : Around) (outer : List Env) (s : Shared) (H : Hp) (E : XK) (hr : Room 5 (A.deeper (envOfC "law" (defScope s_law) s.heap.objs.size f cdv))) :
    FSs (cxOf (L2.CX P w) P w K mg base ["script", "bag", "turn"] "law" (defScope s_law) f cdv A outer s H E) (fun c d _ H => E c d H) none (defBody s_law) b_law :=
  (fs_cons (fs_if (FW.ft (fw_or (ft_not (ft_tru (fe_call (ok_law_are_integers_u T) tkD (hr.mono (by decide)) (fa_cons (fe_lst (fa_cons (T.c_LIFE.elim fun _ e => fe_gint e) (fa_cons (T.c_POINTING.elim fun _ e => fe_gint e) fa_nil))) fa_nil)))) (fw_or (ft_c1 (fc_ne hr (T.c_LIFE.elim fun _ e => fe_gint e) (fk_pow (v := 16777216) fe_int fe_int (by decide +kernel) (by decide +kernel)))) (fw_or1 (ft_c1 (fc_ne hr (T.c_POINTING.elim fun _ e => fe_gint e) fe_int))))))
  (fs_one (fs_ret fe_bl))
  fs_nil)
  (fs_cons (fs_set (i := 1) sc_law.nd (fe_call (ok_law_bag_u T) tkD (hr.mono (by decide)) (fa_cons (fv 0) fa_nil)))
  (fs_cons (fs_for poD (fi_range1 T.z_range (fa_cons (fe_add fe_int (fe_min2 T.z_min (fa_cons fe_int (fa_cons (fe_len (by decide +kernel) T.z_len (fa_cons (fv 0) fa_nil)) fa_nil)))) fa_nil) (mCons_len mNil_len)) (fg_name (i := 2) sc_law.nd)
  (fs_cons (fs_expr (fe_call (ok_law_turn_u T) tkD (hr.mono (by decide)) (fa_cons (fv 1) fa_nil)))
  (fs_one (fs_if (FW.ft (fw_or (ft_not (ft_tru (fe_call (ok_law_node_holds_u T) tkD (hr.mono (by decide)) (fa_cons (fv 1) fa_nil)))) (fw_or1 (ft_not (ft_tru (fe_call (ok_law_cells_hold_u T) tkD (hr.mono (by decide)) (fa_cons (fv 1) fa_nil)))))))
  (fs_one (fs_ret fe_bl))
  fs_nil))))
  (fs_one (fs_ret fe_bl)))))
theorem ok_law (T : Top K mg) : Def P w K mg base "law" 6 1 m_law := defOf T.f_law sc_law (bd_law T)
end
end K08
set_option Elab.async false
set_option linter.all false
set_option maxRecDepth 100000
set_option maxHeartbeats 4000000
namespace K08
open PySem L2 LF
/-- the bag: its list of cells at l0, the next one, the digits' rest, the seed, the count of draws -/
def Bag (h : M) (b n : Nat) : Prop := ∃ (l0 : Nat) (ns : List Int) (i : Nat) (r s c : Int), h[b]? = some (.lst [.loc l0, .int i, .int r, .int s, .int c]) ∧ h[l0]? = some (.lst (ns.map .int)) ∧ l0 < b ∧ 0 ≤ r ∧ 0 ≤ s ∧ s < 2147483647 ∧ 0 ≤ c ∧ c ≤ n
theorem take_ok {h : M} {b n : Nat} {many : Int} (B : Bag h b n) (hn : n < 2 ^ 64) (h0 : 0 < many) (h1 : many < 2 ^ 100) :
    Wp (m_law_take_u [.loc b, .int many] h) (fun v h' => ∃ z, v = .int z ∧ 0 ≤ z ∧ z < many ∧ Bag h' b (n + 1) ∧ Fr [b] h h') := by
  obtain ⟨l0, ns, i, r, s, c, hb, hl, hne, hr, hs, hs2, hc, hc2⟩ := B
  unfold m_law_take_u Wp
  rw [wp_fn]
  unfold b_law_take_u
  have hset : ∀ o, (List.set h b o)[b]? = some o := fun o => at_set hb
  have fin : ∀ (r' s' c' : Int), 0 ≤ r' → 0 ≤ s' → s' < 2147483647 → 0 ≤ c' → c' ≤ n + 1 → Bag (List.set h b (.lst [.loc l0, .int i, .int r', .int s', .int c'])) b (n + 1) ∧ Fr [b] h (List.set h b (.lst [.loc l0, .int i, .int r', .int s', .int c'])) :=
    fun r' s' c' h1 h2 h3 h4 h5 => ⟨⟨l0, ns, i, r', s', c', hset _, at_setN hl (Nat.ne_of_gt hne), hne, h1, h2, h3, h4, by simpa using h5⟩, Fr.set _ (by simp)⟩
  simp [hb, hset, h0]
  have hc1 : c < 2 ^ 65 := by omega
  split
  · exact ⟨cdivW h0 (by omega), Int.emod_nonneg _ (by omega), Int.emod_lt_of_pos _ h0, fin _ _ _ (Int.ediv_nonneg hr (by omega)) hs hs2 hc (by omega)⟩
  · generalize e1 : (s * 48271 + 11 * (c + 1)) % 2147483647 = s1
    have s10 : 0 ≤ s1 ∧ s1 < 2147483647 := by omega
    generalize e2 : (s1 * s1 + 69621 * (c + 1)) % 2147483629 = one
    have o10 : 0 ≤ one ∧ one < 2147483629 := by omega
    exact ⟨cmulW (by omega) (by omega) (by omega) (by omega), cmulW (by omega) (by omega) (by omega) (by omega), cmulW (by omega) (by omega) (by omega) (by omega), cmulW (by omega) (by omega) (by omega) (by omega), cmulW (by omega) (by omega) (by omega) (by omega), cmulW (by omega) (by omega) (by omega) (by omega), cmulW (by omega) (by omega) (by omega) (by omega),
      Int.emod_nonneg _ (by omega), Int.emod_lt_of_pos _ h0, fin _ _ _ hr s10.1 s10.2 (by omega) (by omega)⟩
theorem Bag.le {h : M} {b n m : Nat} (B : Bag h b n) (hm : n ≤ m) : Bag h b m := by
  obtain ⟨l0, ns, i, r, s, c, hb, hl, hne, hr, hs, hs2, hc, hc2⟩ := B
  exact ⟨l0, ns, i, r, s, c, hb, hl, hne, hr, hs, hs2, hc, by omega⟩
theorem Bag.fr {S : List Nat} {h h' : M} {b n : Nat} (B : Bag h b n) (F : Fr S h h') (hS : ∀ l ∈ S, b < l := by simp) : Bag h' b n := by
  obtain ⟨l0, ns, i, r, s, c, hb, hl, hne, hr⟩ := B
  exact ⟨l0, ns, i, r, s, c, F.at_ _ _ (fun z => Nat.lt_irrefl _ (hS _ z)) hb, F.at_ _ _ (fun z => by have := hS _ z; omega) hl, hne, hr⟩
theorem Bag.fr0 {h h' : M} {b n : Nat} (B : Bag h b n) (F : Fr [] h h') : Bag h' b n := B.fr F (by simp)
theorem Bag.lt {h : M} {b n : Nat} (B : Bag h b n) : b < h.length := by
  obtain ⟨l0, ns, i, r, s, c, hb, _⟩ := B
  exact at_lt hb
/-- what a draw leaves -/
def Tk (b n : Nat) (h h' : M) : Prop := Bag h' b n ∧ Fr [b] h h'
theorem Tk.le {b n m : Nat} {h h' : M} (T : Tk b n h h') (hm : n ≤ m) : Tk b m h h' := ⟨T.1.le hm, T.2⟩
theorem Tk.tr {b n m : Nat} {h h1 h2 : M} (T : Tk b n h h1) (T2 : Tk b m h1 h2) : Tk b m h h2 := ⟨T2.1, T.2.trans T2.2⟩
section
variable {h : M} {b n : Nat} {Q : D → M → Prop} {X : XP}
theorem take {many : Int} (B : Bag h b n) (h0 : 0 < many) (h1 : many < 2 ^ 100) (hn : n < 2 ^ 64) (K : ∀ z h', 0 ≤ z → z < many → Tk b (n + 1) h h' → Q (.int z) h') : @Wc D (m_law_take_u [.loc b, .int many] h) ⟨Q, X⟩ := by
  refine (take_ok B hn h0 h1).call ?_
  rintro _ h1 ⟨z, rfl, z0, z1, B1, F1⟩
  exact K _ _ z0 z1 ⟨B1, F1⟩
theorem word (B : Bag h b n) (hn : n < 2 ^ 63) (K : ∀ z h', 0 ≤ z → z < 2 ^ 61 → Tk b (n + 2) h h' → Q (.int z) h') : @Wc D (m_law_word_u [.loc b] h) ⟨Q, X⟩ := by
  unfold m_law_word_u; rw [wp_fn]; unfold b_law_word_u
  simp
  refine take B (by omega) (by omega) (by omega) fun z h1 z0 z1 T1 => ?_
  simp
  split
  · exact take T1.1 (by omega) (by omega) (by omega) fun y h2 y0 y1 T2 => K _ _ y0 (by omega) (T1.tr T2)
  split
  · refine take T1.1 (by omega) (by omega) (by omega) fun y h2 y0 y1 T2 => ?_
    simp
    exact K _ _ (by omega) (by omega) (T1.tr T2)
  · exact take T1.1 (by omega) (by omega) (by omega) fun y h2 y0 y1 T2 => K _ _ y0 (by omega) (T1.tr T2)
theorem middle (B : Bag h b n) (hn : n < 2 ^ 62) (K : ∀ z h', 0 ≤ z → z < 2 ^ 61 → Tk b (n + 3) h h' → Q (.int z) h') : @Wc D (m_law_middle_u [.loc b] h) ⟨Q, X⟩ := by
  unfold m_law_middle_u; rw [wp_fn]; unfold b_law_middle_u
  simp
  refine take B (by omega) (by omega) (by omega) fun z h1 z0 z1 T1 => ?_
  simp
  split
  · exact K _ _ (by omega) (by omega) (T1.le (by omega))
  split
  · refine take T1.1 (by omega) (by omega) (by omega) fun y h2 y0 y1 T2 => ?_
    simp
    exact ⟨cmulW (by omega) (by omega) (by omega) (by omega), K _ _ (by omega) (by omega) ((T1.tr T2).le (by omega))⟩
  split
  · exact K _ _ (by omega) (by omega) (T1.le (by omega))
  · exact word T1.1 (by omega) fun y h2 y0 y1 T2 => K _ _ y0 y1 (T1.tr T2)
theorem level (B : Bag h b n) (hn : n < 2 ^ 62) (K : ∀ z h', 1 ≤ z → z < 2 ^ 62 → Tk b (n + 3) h h' → Q (.int z) h') : @Wc D (m_law_level_u [.loc b] h) ⟨Q, X⟩ := by
  unfold m_law_level_u; rw [wp_fn]; unfold b_law_level_u
  simp
  refine take B (by omega) (by omega) (by omega) fun z h1 z0 z1 T1 => ?_
  simp
  split
  · exact K _ _ (by omega) (by omega) (T1.le (by omega))
  split
  · refine take T1.1 (by omega) (by omega) (by omega) fun y h2 y0 y1 T2 => ?_
    simp
    exact K _ _ (by omega) (by omega) ((T1.tr T2).le (by omega))
  · refine take T1.1 (by omega) (by omega) (by omega) fun y h2 y0 y1 T2 => ?_
    simp
    exact K _ _ (by omega) (by omega) ((T1.tr T2).le (by omega))
theorem cell (B : Bag h b n) (hn : n < 2 ^ 62) (K : ∀ z h', 0 ≤ z → z < 2 ^ 61 → Tk b (n + 3) h h' → Q (.int z) h') : @Wc D (m_law_cell_u [.loc b] h) ⟨Q, X⟩ := by
  unfold m_law_cell_u; rw [wp_fn]; unfold b_law_cell_u
  simp
  refine take B (by omega) (by omega) (by omega) fun z h1 z0 z1 T1 => ?_
  simp
  split
  · exact K _ _ (by omega) (by omega) (T1.le (by omega))
  · exact word T1.1 (by omega) fun y h2 y0 y1 T2 => K _ _ y0 y1 (T1.tr T2)
/-- an entry: three words and two -/
structure E5 where
  (a b c d e : Int)
def dE (x : E5) : D := .tup [.tup [.int x.a, .int x.b, .int x.c], .tup [.int x.d, .int x.e]]
theorem entry (B : Bag h b n) (hn : n < 2 ^ 61) (K : ∀ x h', Tk b (n + 12) h h' → Q (dE x) h') : @Wc D (m_law_entry_u [.loc b] h) ⟨Q, X⟩ := by
  unfold m_law_entry_u; rw [wp_fn]; unfold b_law_entry_u
  simp
  refine word B (by omega) fun y1 h1 _ _ T1 => ?_
  simp
  refine middle T1.1 (by omega) fun y2 h2 _ _ T2 => ?_
  simp
  refine word T2.1 (by omega) fun y3 h3 _ _ T3 => ?_
  simp
  refine word T3.1 (by omega) fun y4 h4 _ _ T4 => ?_
  simp
  refine word T4.1 (by omega) fun y5 h5 _ _ T5 => ?_
  simp
  exact ⟨by decide, by decide, K ⟨y1, y2, y3, y4, y5⟩ _ ((T1.tr (T2.tr (T3.tr (T4.tr T5)))).le (by omega))⟩
/-- a new list -/
structure Nw (h h' : M) (l : Nat) (xs : List D) : Prop where
  at_ : h'[l]? = some (.lst xs)
  new : h.length ≤ l
  fr : Fr [] h h'
theorem Nw.ne {h h' : M} {l k : Nat} {xs : List D} {o : O} (N : Nw h h' l xs) (e : h[k]? = some o) : k ≠ l := by have := at_lt e; have := N.new; omega
def iL (xs : List Int) : List D := xs.map .int
@[simp] theorem iL_len {xs : List Int} : (iL xs).length = xs.length := by simp [iL]
theorem size24 : sizeLine = 16777216 := rfl
/-- all are integers -/
theorem areInts {l : Nat} {xs : List Int} (e : h[l]? = some (.lst (iL xs))) (K : Q (.bl true) h) : @Wc D (m_law_are_integers_u [.loc l] h) ⟨Q, X⟩ := by
  unfold m_law_are_integers_u; rw [wp_fn]; unfold b_law_are_integers_u
  simp [e]
  refine floop_map (fun _ env h' => ∃ s, env = [.va (.loc l), s] ∧ h' = h) ⟨_, rfl, rfl⟩ ?_ ?_ ?_
  · rintro _ _ _ _ ⟨_, rfl, rfl⟩; exact lstOf_at e
  · rintro p x q _ _ hx ⟨s, rfl, rfl⟩
    simp [m_law_is_integer_u, wp_fn, b_law_is_integer_u]
  · rintro _ _ ⟨s, rfl, rfl⟩
    simpa using K
theorem law_is {a b : Nat} {xs : List Int} (e : h[a]? = some (.lst (iL xs))) (e2 : h[b]? = some (.lst (iL xs))) (K : Q (.bl true) h) : @Wc D (m_law_is_u [.loc a, .loc b] h) ⟨Q, X⟩ := by
  unfold m_law_is_u; rw [wp_fn]; unfold b_law_is_u
  simp [e, e2, fEq_ints e e2]
  exact areInts e K
def pad (ws : List Int) : List Int := ws ++ List.replicate (32 - ws.length) 0
theorem iL_pad {ws : List Int} : iL (pad ws) = iL ws ++ List.replicate (32 - ws.length) (.int 0) := by simp [iL, pad]
theorem toNat32 {n : Nat} : ((32 : Int) - (n : Int)).toNat = 32 - n := by omega
theorem filled {w : Nat} {ws : List Int} (e : h[w]? = some (.lst (iL ws))) (hw : ws.length ≤ 32) (K : ∀ l h', Nw h h' l (iL (pad ws)) → Q (.loc l) h') : @Wc D (m_filled_u [.loc w] h) ⟨Q, X⟩ := by
  unfold m_filled_u; rw [wp_fn]; unfold b_filled_u
  simp [e, cat_old (at_lt e), rep1, toNat32, size24]
  refine ⟨by omega, by omega, K _ _ ⟨?_, by omega, .cat _⟩⟩
  simp [iL_pad]
theorem lawFilled {b : Nat} {lv many : Int} {ws : List Int} (e : h[b]? = some (.lst (iL ws))) (hw : ws.length ≤ 30) (K : ∀ l h', Nw h h' l (iL (pad (lv :: many :: ws))) → Q (.loc l) h') : @Wc D (m_law_filled_u [.int lv, .int many, .loc b] h) ⟨Q, X⟩ := by
  unfold m_law_filled_u; rw [wp_fn]; unfold b_law_filled_u
  simp [e, cat_old (at_lt e), rep1, toNat32, size24]
  have e3 : ((32 : Int) - ((ws.length : Int) + 1 + 1)).toNat = 30 - ws.length := by omega
  rw [e3]
  refine ⟨by omega, by omega, by omega, K _ _ ⟨?_, by omega, .cat _⟩⟩
  simp [iL_pad]
  simp [iL]
def f5 (x : E5) : List Int := [x.a, x.b, x.c, x.d, x.e]
def enc (es : List E5) : List Int := es.flatMap f5
theorem enc_snoc {p : List E5} {x : E5} : enc (p ++ [x]) = enc p ++ f5 x := by simp [enc]
theorem enc_len {es : List E5} : (enc es).length = 5 * es.length := by
  induction es with
  | nil => rfl
  | cons x xs ih => simp [enc, List.flatMap_cons, f5] at ih ⊢; omega
theorem iL_app {a b : List Int} : iL (a ++ b) = iL a ++ iL b := by simp [iL]
theorem pre_len {α : Type} {xs p q : List α} {x : α} (e : xs = p ++ x :: q) : xs.length = p.length + 1 + q.length := by rw [e]; simp; omega
theorem body {l : Nat} {es : List E5} (e : h[l]? = some (.lst (es.map dE))) (hes : es.length ≤ 6) (K : ∀ l h', Nw h h' l (iL (enc es)) → Q (.loc l) h') : @Wc D (m_law_body_u [.loc l] h) ⟨Q, X⟩ := by
  unfold m_law_body_u; rw [wp_fn]; unfold b_law_body_u
  simp [e, cat_old (at_lt e), size24]
  refine floop_map (fun p env h' => ∃ s, env = [.va (.loc l), .va (.loc h.length), s] ∧ Nw h h' h.length (iL (enc p))) ⟨_, rfl, by simp [enc, iL], Nat.le_refl _, .cat _⟩ ?_ ?_ ?_
  · rintro _ _ h' _ ⟨_, rfl, N⟩; exact lstOf_at (N.fr.at e)
  · rintro p x q _ h' hx ⟨s, rfl, N⟩
    have hp := pre_len hx
    simp [dE, N.at_, cat_old (at_lt N.at_), size24, enc_len]
    refine ⟨by omega, ?_, Nat.le_refl _, ?_⟩
    · rw [cat_setO (at_lt N.at_), cat_old (by simp [at_lt N.at_]), at_set N.at_, enc_snoc]; simp [iL, f5]
    · exact ((N.fr.trans (.cat _)).mono (S' := [h.length]) (by simp)).trans (.set _ (by simp)) |>.cut (by simp)
  · rintro _ _ ⟨s, rfl, N⟩
    simpa using K _ _ N
theorem nodeData {l : Nat} {lv : Int} {es : List E5} (e : h[l]? = some (.lst (es.map dE))) (hes : es.length ≤ 6) (K : ∀ l h', Nw h h' l (iL (pad (lv :: es.length :: enc es))) → Q (.loc l) h') : @Wc D (m_node_data [.int lv, .loc l] h) ⟨Q, X⟩ := by
  unfold m_node_data; rw [wp_fn]; unfold b_node_data
  simp [e, cat_old (at_lt e), size24]
  refine floop_map (fun p env h' => ∃ s t, env = [.va (.int lv), .va (.loc l), .va (.loc h.length), s, t] ∧ Nw h h' h.length (iL (lv :: es.length :: enc p))) ⟨_, _, rfl, by simp [enc, iL], Nat.le_refl _, .cat _⟩ ?_ ?_ ?_
  · rintro _ _ h' _ ⟨_, _, rfl, N⟩; exact lstOf_at (N.fr.at e)
  · rintro p x q _ h' hx ⟨s, t, rfl, N⟩
    have hp := pre_len hx
    simp [dE, N.at_, size24, enc_len, at_set N.at_]
    refine ⟨by omega, by omega, ?_, Nat.le_refl _, ?_⟩
    · simp [at_lt N.at_, enc_snoc, iL, f5]
    · exact (N.fr.mono (S' := [h.length]) (by simp)).trans (.set _ (by simp)) |>.cut (by simp)
  · rintro _ h' ⟨s, t, rfl, N⟩
    simp
    refine filled N.at_ (by simp [enc_len]; omega) fun w h2 N2 => K _ _ ⟨N2.at_, ?_, N.fr.trans N2.fr⟩
    have := N2.new; have := N.fr.len; omega
theorem pad_mid {lv c : Int} {p q : List E5} {x : E5} : ∃ post, iL (pad (lv :: c :: enc (p ++ x :: q))) = ((.int lv :: .int c :: iL (enc p)) ++ [.int x.a, .int x.b, .int x.c]) ++ ([.int x.d, .int x.e] ++ post) :=
  ⟨iL (enc q) ++ List.replicate (32 - (lv :: c :: enc (p ++ x :: q)).length) (.int 0), by
    rw [iL_pad]; generalize 32 - (lv :: c :: enc (p ++ x :: q)).length = r; simp [enc, f5, iL]⟩
theorem nodeEntries {l : Nat} {lv : Int} {es : List E5} (e : h[l]? = some (.lst (iL (pad (lv :: es.length :: enc es))))) (hes : es.length ≤ 6) (K : ∀ l h', Nw h h' l (es.map dE) → Q (.loc l) h') : @Wc D (m_node_entries [.loc l] h) ⟨Q, X⟩ := by
  unfold m_node_entries; rw [wp_fn]; unfold b_node_entries
  have e1 : (iL (pad (lv :: es.length :: enc es)))[1]? = some (.int es.length) := by simp [iL, pad]
  have hm : (if (6 : Int) < es.length then (6 : Int) else es.length) = es.length := by split <;> omega
  simp [e, e1, cat_old (at_lt e), size24, hm]
  refine ⟨by omega, floop_inv (fun i env h' => ∃ s t u v, env = [.va (.loc l), .va (.loc h.length), s, t, u, v] ∧ Nw h h' h.length ((es.take i).map dE)) ⟨_, _, _, _, rfl, by simp, Nat.le_refl _, .cat _⟩ (fun _ _ _ _ _ => trivial) ?_ ?_⟩
  · rintro i d _ h' hd ⟨s, t, u, v, rfl, N⟩
    obtain ⟨hi, rfl⟩ := rg_at hd
    obtain ⟨x, hx⟩ : ∃ x, es[i]? = some x := ⟨es[i], List.getElem?_eq_getElem hi⟩
    have hsp : es = es.take i ++ x :: es.drop (i + 1) := by
      have hh : es[i] = x := (List.getElem?_eq_some_iff.mp hx).2
      conv => lhs; rw [← List.take_append_drop i es, List.drop_eq_getElem_cons hi, hh]
    have hsn : es.take (i + 1) = es.take i ++ [x] := by rw [List.take_succ, hx]; rfl
    obtain ⟨post, hp⟩ := pad_mid (lv := lv) (c := es.length) (p := es.take i) (q := es.drop (i + 1)) (x := x)
    rw [← hsp] at hp
    have hl1 : (D.int lv :: D.int es.length :: iL (enc (es.take i))).length = 2 + 5 * i := by simp [enc_len]; omega
    have c1 : cutD (iL (pad (lv :: es.length :: enc es))) (some (2 + 5 * (i : Int))) (some (2 + 5 * (i : Int) + 3)) = [.int x.a, .int x.b, .int x.c] := by
      rw [hp]; exact cutD_mid (by rw [hl1]; omega) (by rw [hl1]; simp)
    have c2 : cutD (iL (pad (lv :: es.length :: enc es))) (some (2 + 5 * (i : Int) + 3)) (some (2 + 5 * (i : Int) + 5)) = [.int x.d, .int x.e] := by
      rw [hp, ← List.append_assoc]; exact cutD_mid (by rw [List.length_append, hl1]; simp) (by rw [List.length_append, hl1]; simp; omega)
    have el := N.fr.at e
    simp [el, cat_old (at_lt el), cat_old (at_lt N.at_), cat_setO (at_lt N.at_), c1, c2, N.at_, size24]
    refine ⟨cmulW (by omega) (by omega) (by omega) (by omega), by omega, ?_, Nat.le_refl _, ?_⟩
    · rw [cat_old (by simp [at_lt N.at_]), at_set N.at_, ← List.map_take, ← List.map_take, hsn]; simp [dE]
    · exact ((N.fr.mono (S' := [h.length]) (by simp)).trans (.set _ (by simp))).trans (.cat _) |>.cut (by simp)
  · rintro _ h' ⟨s, t, u, v, rfl, N⟩
    simp at N ⊢
    exact K _ _ (by simpa using N)
def ptr (lv : Int) (es : List E5) : List D := (es.filter fun x => decide (1 < lv ∨ x.b = 3)).map fun x => .tup [.int x.d, .int x.e]
theorem filter_snoc {α : Type} {p : List α} {x : α} {c : α → Bool} : (p ++ [x]).filter c = if c x = true then p.filter c ++ [x] else p.filter c := by
  rw [List.filter_append]; cases h : c x <;> simp [h]
theorem filter_len {α : Type} {p : List α} {c : α → Bool} : (p.filter c).length ≤ p.length := List.length_filter_le _ _
theorem pointers {l : Nat} {lv : Int} {es : List E5} (e : h[l]? = some (.lst (iL (pad (lv :: es.length :: enc es))))) (hlv : lv ≠ 0) (hes : es.length ≤ 6) (K : ∀ l h', Nw h h' l (ptr lv es) → Q (.loc l) h') : @Wc D (m_block_pointers [.loc l] h) ⟨Q, X⟩ := by
  unfold m_block_pointers; rw [wp_fn]; unfold b_block_pointers
  have e1 : (iL (pad (lv :: es.length :: enc es)))[0]? = some (.int lv) := by simp [iL, pad]
  simp [e, e1, hlv]
  refine nodeEntries e hes fun w h1 N => ?_
  simp [N.at_]
  refine lcloop_map (fun p acc h' => acc = ptr lv p ∧ h'[h1.length]? = some (.lst acc) ∧ Fr [h1.length] (h1 ++ [.lst []]) h') ⟨rfl, by simp, .refl _ _⟩ ?_ ?_ ?_
  · rintro p acc h' hp ⟨rfl, e2, F⟩
    exact lstOf_at (F.at (by rw [cat_old (at_lt N.at_)]; exact N.at_) (by simp; exact Nat.ne_of_lt (at_lt N.at_)))
  · rintro p x q acc h' hx ⟨rfl, e2, F⟩
    have hp := pre_len hx
    have hf : (ptr lv p).length ≤ 6 := by unfold ptr; rw [List.length_map]; exact Nat.le_trans filter_len (by omega)
    simp [dE]
    have snoc : ptr lv (p ++ [x]) = if 1 < lv ∨ x.b = 3 then ptr lv p ++ [.tup [.int x.d, .int x.e]] else ptr lv p := by
      unfold ptr; rw [filter_snoc]; simp; split <;> simp
    split
    · rename_i hc
      refine ⟨e2, by rw [size24]; omega, by simp [snoc, hc], at_set e2, F.trans (.set _ (by simp))⟩
    · rename_i hc
      split
      · rename_i hb
        refine ⟨e2, by rw [size24]; omega, by simp [snoc, hb], at_set e2, F.trans (.set _ (by simp))⟩
      · rename_i hb
        exact ⟨by simp [snoc, hc, hb], e2, F⟩
  · rintro acc h' ⟨rfl, e2, F⟩
    refine K _ _ ⟨e2, by have := N.fr.len; omega, ?_⟩
    exact ((N.fr.mono (S' := [h1.length]) (by simp)).trans ((Fr.cat _).trans F)).cut (by have := N.fr.len; simp; omega)
theorem pointers0 {l : Nat} {ws : List Int} (e : h[l]? = some (.lst (iL (0 :: ws)))) (K : ∀ l h', Nw h h' l [] → Q (.loc l) h') : @Wc D (m_block_pointers [.loc l] h) ⟨Q, X⟩ := by
  unfold m_block_pointers; rw [wp_fn]; unfold b_block_pointers
  simp [e, iL, size24]
  exact K _ _ ⟨by simp, by omega, .cat _⟩
theorem cellData {l : Nat} {cs : List Int} (e : h[l]? = some (.lst (iL cs))) (hc : cs.length ≤ 30) (K : ∀ l h', Nw h h' l (iL (pad (0 :: cs.length :: cs))) → Q (.loc l) h') : @Wc D (m_cell_data [.loc l] h) ⟨Q, X⟩ := by
  unfold m_cell_data; rw [wp_fn]; unfold b_cell_data
  simp [e, cat_old (at_lt e), size24]
  refine ⟨by omega, ?_⟩
  refine filled (w := h.length + 2) (ws := 0 :: cs.length :: cs) (by simp [iL]) (by simp; omega) fun w h2 N2 => K _ _ ⟨N2.at_, ?_, (Fr.cat _).trans N2.fr⟩
  have := N2.new; simp at this; omega
theorem dataCells {l : Nat} {cs : List Int} (e : h[l]? = some (.lst (iL (pad (0 :: cs.length :: cs))))) (hc : cs.length ≤ 30) (K : ∀ l h', Nw h h' l (iL cs) → Q (.loc l) h') : @Wc D (m_data_cells [.loc l] h) ⟨Q, X⟩ := by
  unfold m_data_cells; rw [wp_fn]; unfold b_data_cells
  have e1 : (iL (pad (0 :: cs.length :: cs)))[1]? = some (.int cs.length) := by simp [iL, pad]
  have e2 : iL (pad (0 :: cs.length :: cs)) = [.int 0, .int cs.length] ++ iL cs ++ List.replicate (30 - cs.length) (.int 0) := by simp [iL_pad]; simp [iL]
  have e3 : cutD (iL (pad (0 :: cs.length :: cs))) (some 2) (some (2 + cs.length)) = iL cs := by rw [e2]; exact cutD_mid rfl (by simp)
  simp [e, e1, e3, cat_old (at_lt e), size24]
  exact K _ _ ⟨by simp, by omega, .cat _⟩
def gE (x : E5) : PyData := .tuple [.tuple [.int x.a, .int x.b, .int x.c], .tuple [.int x.d, .int x.e]]
theorem pl_E {x : E5} {k : Nat} : Pl h (k + 2) (dE x) (gE x) := pl_tup (pla_cons (pl_tup (pla_cons (pl_int _) (pla_cons (pl_int _) (pla_cons (pl_int _) pla_nil)))) (pla_cons (pl_tup (pla_cons (pl_int _) (pla_cons (pl_int _) pla_nil))) pla_nil))
theorem fNe_E {k l : Nat} {es : List E5} (e : h[k]? = some (.lst (es.map dE))) (e2 : h[l]? = some (.lst (es.map dE))) : fNe (.loc k) (.loc l) h = .ok (.bl false) h := fNe_same (pl_loc e (pla_map fun _ _ => pl_E)) (pl_loc e2 (pla_map fun _ _ => pl_E))
theorem fNe_ptr {k l : Nat} {lv : Int} {es : List E5} (e : h[k]? = some (.lst (ptr lv es))) (e2 : h[l]? = some (.lst (ptr lv es))) : fNe (.loc k) (.loc l) h = .ok (.bl false) h :=
  fNe_same (pl_loc e (pla_map (g := fun x => .tuple [.int x.d, .int x.e]) fun _ _ => pl_tup (pla_cons (pl_int _) (pla_cons (pl_int _) pla_nil)))) (pl_loc e2 (pla_map fun _ _ => pl_tup (pla_cons (pl_int _) (pla_cons (pl_int _) pla_nil))))
theorem nodeHolds (B : Bag h b n) (hn : n < 2 ^ 60) (K : ∀ h', Tk b (n + 100) h h' → Q (.bl true) h') : @Wc D (m_law_node_holds_u [.loc b] h) ⟨Q, X⟩ := by
  unfold m_law_node_holds_u; rw [wp_fn]; unfold b_law_node_holds_u
  simp
  refine level B (by omega) fun lv h1 v0 v1 T1 => ?_
  simp
  refine take T1.1 (by omega) (by omega) (by omega) fun z h2 z0 z1 T2 => ?_
  have hb2 := T2.1.lt
  simp
  refine ⟨by omega, lcloop_inv (fun i acc h' => ∃ es : List E5, acc = es.map dE ∧ es.length = i ∧ h'[h2.length]? = some (.lst acc) ∧ Bag h' b (n + 4 + 12 * i) ∧ Fr [b, h2.length] (h2 ++ [.lst []]) h') ⟨[], rfl, rfl, by simp, T2.1.fr0 (.cat _), .refl _ _⟩ (fun _ _ _ _ _ => trivial) ?_ ?_⟩
  · rintro i d acc h' hd ⟨es, rfl, hl, e, B, F⟩
    obtain ⟨hi, rfl⟩ := rg_at hd
    simp
    refine entry B (by omega) fun x h3 T3 => ?_
    have e3 := T3.2.at e (by simp; omega)
    exact ⟨e3, by rw [size24, List.length_map]; omega, es ++ [x], by simp, by simp; omega, at_set e3, (T3.1.le (by omega)).fr (.set _ (List.mem_singleton.mpr rfl)) (by simpa using hb2), F.trans ((T3.2.mono (by simp)).trans (.set _ (by simp)))⟩
  rintro _ h3 ⟨es, rfl, hl, e, B3, F3⟩
  have hes : es.length ≤ 6 := by simp at hl; omega
  have F03 : Fr [b] h h3 := T1.2.trans (T2.2.trans (((Fr.cat [.lst []]).trans F3).cut (by simp)))
  simp [e]
  refine body e hes fun l4 h4 N4 => ?_
  simp
  refine lawFilled N4.at_ (by rw [enc_len]; omega) fun l5 h5 N5 => ?_
  have F5 := N4.fr.trans N5.fr
  have e5 := F5.at e
  simp [e5]
  refine nodeData (es := es) (by simp) hes fun l6 h6 N6 => ?_
  simp
  have F6 := (Fr.cat [O.lst (es.map dE)]).trans N6.fr
  refine law_is N6.at_ (F6.at N5.at_) ?_
  have d6 := F6.at N5.at_
  simp [fNe_E (N6.fr.at (l := h5.length) (o := .lst (es.map dE)) (by simp)) (F6.at e5), d6]
  refine nodeEntries (lv := lv) (es := es) (by simp) hes fun l7 h7 N7 => ?_
  have F7 := (Fr.cat [O.lst _]).trans N7.fr
  have e7 := F7.at (F6.at e5)
  have d7 := F7.at d6
  have g7 := N7.fr.at (l := h6.length) (o := .lst (iL (pad (lv :: es.length :: enc es)))) (by simp)
  simp [N7.at_, fNe_E N7.at_ e7, fNe_ints g7 d7]
  refine body N7.at_ hes fun l8 h8 N8 => ?_
  simp
  refine areInts N8.at_ ?_
  simp
  have g8 := N8.fr.at g7
  have d8 := N8.fr.at d7
  have e8 := N8.fr.at e7
  refine pointers g8 (by omega) hes fun l9 h9 N9 => ?_
  have g9 := N9.fr.at g8
  have d9 := N9.fr.at d8
  have e9 := N9.fr.at e8
  simp [e9]
  refine lcloop_map (fun p acc h' => acc = ptr lv p ∧ h'[h9.length]? = some (.lst acc) ∧ Fr [h9.length] (h9 ++ [.lst []]) h') ⟨rfl, by simp, .refl _ _⟩ ?_ ?_ ?_
  · rintro p acc h' hp ⟨rfl, e2, F⟩
    exact lstOf_at (F.at (by rw [cat_old (at_lt e9)]; exact e9) (by simp; exact Nat.ne_of_lt (at_lt e9)))
  · rintro p x q acc h' hx ⟨rfl, e2, F⟩
    have hp := pre_len hx
    have hf : (ptr lv p).length ≤ 6 := by unfold ptr; rw [List.length_map]; exact Nat.le_trans filter_len (by omega)
    have snoc : ptr lv (p ++ [x]) = if 1 < lv ∨ x.b = 3 then ptr lv p ++ [.tup [.int x.d, .int x.e]] else ptr lv p := by
      unfold ptr; rw [filter_snoc]; simp; split <;> simp
    simp [dE]
    split
    · rename_i hc
      refine ⟨e2, by rw [size24]; omega, by simp [snoc, hc], at_set e2, F.trans (.set _ (by simp))⟩
    · rename_i hc
      split
      · rename_i hb
        refine ⟨e2, by rw [size24]; omega, by simp [snoc, hb], at_set e2, F.trans (.set _ (by simp))⟩
      · rename_i hb
        exact ⟨by simp [snoc, hc, hb], e2, F⟩
  rintro acc h10 ⟨rfl, e2, F⟩
  have F10 : Fr [] h9 h10 := ((Fr.cat [.lst []]).trans F).cut (by simp)
  have g10 := F10.at g9
  have d10 := F10.at d9
  have p10 := F10.at N9.at_
  simp [p10, fNe_ptr p10 e2, fNe_ints g10 d10]
  refine nodeData (F10.at (N9.fr.at (N8.fr.at N7.at_))) hes fun l11 h11 N11 => ?_
  simp
  refine law_is N11.at_ (N11.fr.at d10) ?_
  have FF : Fr [] h3 h11 := F5.trans (F6.trans (F7.trans (N8.fr.trans (N9.fr.trans (F10.trans N11.fr)))))
  exact K _ ⟨(B3.fr0 FF).le (by simp; omega), F03.trans FF.nil⟩
theorem cellsHold (B : Bag h b n) (hn : n < 2 ^ 60) (K : ∀ h', Tk b (n + 200) h h' → Q (.bl true) h') : @Wc D (m_law_cells_hold_u [.loc b] h) ⟨Q, X⟩ := by
  unfold m_law_cells_hold_u; rw [wp_fn]; unfold b_law_cells_hold_u
  simp
  refine take B (by omega) (by omega) (by omega) fun z h2 z0 z1 T2 => ?_
  have hb2 := T2.1.lt
  simp
  refine ⟨by omega, lcloop_inv (fun i acc h' => ∃ es : List Int, acc = iL es ∧ es.length = i ∧ h'[h2.length]? = some (.lst acc) ∧ Bag h' b (n + 1 + 3 * i) ∧ Fr [b, h2.length] (h2 ++ [.lst []]) h') ⟨[], rfl, rfl, by simp, T2.1.fr0 (.cat _), .refl _ _⟩ (fun _ _ _ _ _ => trivial) ?_ ?_⟩
  · rintro i d acc h' hd ⟨es, rfl, hl, e, B, F⟩
    obtain ⟨hi, rfl⟩ := rg_at hd
    simp
    refine cell B (by omega) fun x h3 _ _ T3 => ?_
    have e3 := T3.2.at e (by simp; omega)
    exact ⟨e3, by rw [size24, iL_len]; omega, es ++ [x], by simp [iL], by simp; omega, at_set e3, (T3.1.le (by omega)).fr (.set _ (List.mem_singleton.mpr rfl)) (by simpa using hb2), F.trans ((T3.2.mono (by simp)).trans (.set _ (by simp)))⟩
  rintro _ h3 ⟨es, rfl, hl, e, B3, F3⟩
  have hes : es.length ≤ 30 := by simp at hl; omega
  have F03 : Fr [b] h h3 := T2.2.trans (((Fr.cat [.lst []]).trans F3).cut (by simp))
  simp [e]
  refine lawFilled e hes fun l5 h5 N5 => ?_
  have e5 := N5.fr.at e
  simp [e5]
  refine cellData (cs := es) (by simp) hes fun l6 h6 N6 => ?_
  simp
  have F6 := (Fr.cat [O.lst (iL es)]).trans N6.fr
  have d6 := F6.at N5.at_
  have e6 := F6.at e5
  refine law_is N6.at_ d6 ?_
  simp [fNe_ints (N6.fr.at (l := h5.length) (o := .lst (iL es)) (by simp)) e6, d6]
  refine dataCells (cs := es) (by simp) hes fun l7 h7 N7 => ?_
  have F7 := (Fr.cat [O.lst _]).trans N7.fr
  have e7 := F7.at e6
  have d7 := F7.at d6
  have g7 := N7.fr.at (l := h6.length) (o := .lst (iL (pad (0 :: es.length :: es)))) (by simp)
  simp
  refine law_is N7.at_ e7 ?_
  simp [fNe_ints g7 d7, N7.at_]
  have n1 : h6.length ≠ l7 := by have := N7.new; simp at this; omega
  have n2 := N7.ne (at_app e6)
  have n3 := N7.ne (at_app d6)
  have g8 := at_setN (u := .lst (iL es ++ [.int 1])) g7 n1.symm
  have d8 := at_setN (u := .lst (iL es ++ [.int 1])) d7 n3.symm
  have e8 := at_setN (u := .lst (iL es ++ [.int 1])) e7 n2.symm
  refine ⟨by rw [size24]; omega, dataCells g8 hes fun l9 h9 N9 => ?_⟩
  have g9 := N9.fr.at g8
  have d9 := N9.fr.at d8
  simp
  refine law_is N9.at_ (N9.fr.at e8) ?_
  simp [fNe_ints g9 d9]
  refine pointers0 (ws := es.length :: (es ++ List.replicate (30 - es.length) 0)) (by rw [g9]; simp [pad]) fun l10 h10 N10 => ?_
  have ee : fEq (.loc l10) (.loc h10.length) (h10 ++ [.lst []]) = .ok (.bl true) (h10 ++ [.lst []]) := fEq_ints (xs := []) (at_app N10.at_) (by simp)
  simp [size24, ee, fEq_ints (at_app (N10.fr.at g9)) (at_app (u := .lst []) (N10.fr.at d9))]
  have FS : Fr [] h6 (h7.set l7 (.lst (iL es ++ [.int 1]))) := ((F7.mono (S' := [l7]) (by simp)).trans (Fr.set _ (by simp))).cut (by have := N7.new; simp at this; simp; omega)
  have FF : Fr [] h3 (h10 ++ [.lst []]) := N5.fr.trans (F6.trans (FS.trans (N9.fr.trans (N10.fr.trans (.cat _)))))
  exact K _ ⟨(B3.fr0 FF).le (by simp; omega), F03.trans FF.nil⟩
theorem turn (B : Bag h b n) (hn : n < 2 ^ 60) (K : ∀ h' d, Tk b n h h' → Q d h') : @Wc D (m_law_turn_u [.loc b] h) ⟨Q, X⟩ := by
  obtain ⟨l0, ns, i, r, s, c, hb, hl, hne, hr, hs, hs2, hc, hc2⟩ := B
  unfold m_law_turn_u; rw [wp_fn]; unfold b_law_turn_u
  have hset : ∀ o, (List.set h b o)[b]? = some o := fun o => at_set hb
  have hn0 : b ≠ l0 := by omega
  have fin : ∀ (i' : Nat) (r' s' : Int) d, 0 ≤ r' → 0 ≤ s' → s' < 2147483647 → Q d (List.set h b (.lst [.loc l0, .int i', .int r', .int s', .int c])) :=
    fun i' r' s' d h1 h2 h3 => K _ _ ⟨⟨l0, ns, i', r', s', c, hset _, at_setN hl hn0, hne, h1, h2, h3, hc, hc2⟩, .set _ (by simp)⟩
  simp only [wp_fn, ws_if, wp_test, wp_m2, v_var, wp_L, wp_cons, wp_nil, List.map_cons, List.map_nil, List.length_map]
  simp [hb, hl]
  split
  · rename_i hi
    have hi : i < ns.length := by omega
    have hx : (List.map D.int ns)[i]? = some (.int ns[i]) := by simp [hi]
    simp [hb, hl, hset, hn0, atI_n, hi]
    split
    · exact ⟨cmulW (by omega) (by omega) (by omega) (by omega), fin (i + 1) _ _ _ (Int.emod_nonneg _ (by decide)) (Int.emod_nonneg _ (by decide)) (Int.emod_lt_of_pos _ (by decide))⟩
    · exact ⟨cmulW (by omega) (by omega) (by omega) (by omega), fin (i + 1) _ _ _ (by decide) (Int.emod_nonneg _ (by decide)) (Int.emod_lt_of_pos _ (by decide))⟩
  · exact K _ _ ⟨⟨l0, ns, i, r, s, c, hb, hl, hne, hr, hs, hs2, hc, hc2⟩, .refl _ _⟩
end
theorem cutD_iL (ns : List Int) (lo hi : Option Int) : ∃ ns', cutD (iL ns) lo hi = iL ns' := by
  unfold cutD iL; rw [← List.map_drop, ← List.map_take]; exact ⟨_, rfl⟩
theorem law_ok (ns : List Int) (hns : ns.length ≤ 63) : @Wc D (m_law [.cl (ns.map D.int)] []) ⟨fun d _ => d = .bl true, noEx⟩ := by
  unfold m_law; rw [wp_fn]; unfold b_law
  simp [size24]
  refine areInts (xs := [16777216, 3]) rfl ?_
  simp
  unfold m_law_bag_u; rw [wp_fn]; unfold b_law_bag_u
  obtain ⟨ns', hcut⟩ := cutD_iL ns none (some 63)
  unfold iL at hcut
  simp [hcut, size24]
  refine ⟨by split <;> omega, floop_inv (fun i env h' => ∃ s, env = [.va (.cl (ns.map D.int)), .va (.loc 2), s] ∧ Bag h' 2 (300 * i)) ⟨_, rfl, 1, ns', 0, 0, 7, 0, by simp⟩ (fun _ _ _ _ _ => trivial) ?_ ?_⟩
  · rintro i d _ h' hd ⟨s, rfl, B⟩
    have hi := (rg_at hd).1
    have hi : i < 100 := by split at hi <;> omega
    simp
    refine turn B (by omega) fun h1 _ T1 => ?_
    simp
    refine nodeHolds T1.1 (by omega) fun h2 T2 => ?_
    simp
    refine cellsHold T2.1 (by omega) fun h3 T3 => ?_
    simp
    exact T3.1.le (by omega)
  · rintro _ _ ⟨s, rfl, B⟩
    simp
theorem holds : LawHolds m_law := fun ns h1 _ => by
  obtain ⟨a, m, e, rfl⟩ := Wc.ok_of (law_ok ns h1)
  exact ⟨m, e⟩
end K08
namespace K08
open PySem PySem.Spec L2 LF
open PyProof.Rows hiding St
theorem all_mk {P : Program} {w : World} {K : PySem.W.Frag} {h : Heap} {mg : Str → Option Value} {fa : Addr} (X : K.In h) (G : h.Ns mainGlobals mg) (hmg : mg "law" = some (.ref fa))
    {f0 f1 f2 f3 f4 f5 f6 f7 f8 f9 f10 f11 f12 f13 f14 f15 f16 f17 f18 f19 f20 f21 : Addr} {od0 an0 od1 an1 od2 an2 od3 an3 od4 an4 od5 an5 od6 an6 od7 an7 od8 an8 od9 an9 od10 an10 od11 an11 od12 an12 od13 an13 od14 an14 od15 an15 od16 an16 od17 an17 od18 an18 od19 an19 od20 an20 od21 an21 : Option Addr} {sl0 sl1 sl2 sl3 sl4 sl5 sl6 sl7 sl8 sl9 sl10 sl11 sl12 sl13 sl14 sl15 sl16 sl17 sl18 sl19 sl20 sl21 : Array (Option Value)}
    {oc0 kV0 dc0 pm0 cd0 ct0 oc1 kV1 dc1 pm1 cd1 ct1 oc2 kV2 dc2 pm2 cd2 ct2 oc3 kV3 dc3 pm3 cd3 ct3 oc4 kV4 dc4 pm4 cd4 ct4 oc5 kV5 dc5 pm5 cd5 ct5 oc6 kV6 dc6 pm6 cd6 ct6 oc7 kV7 dc7 pm7 cd7 ct7 oc8 kV8 dc8 pm8 cd8 ct8 oc9 kV9 dc9 pm9 cd9 ct9 oc10 kV10 dc10 pm10 cd10 ct10 oc11 kV11 dc11 pm11 cd11 ct11 oc12 kV12 dc12 pm12 cd12 ct12 oc13 kV13 dc13 pm13 cd13 ct13 oc14 kV14 dc14 pm14 cd14 ct14 oc15 kV15 dc15 pm15 cd15 ct15 oc16 kV16 dc16 pm16 cd16 ct16 oc17 kV17 dc17 pm17 cd17 ct17 oc18 kV18 dc18 pm18 cd18 ct18 oc19 kV19 dc19 pm19 cd19 ct19 oc20 kV20 dc20 pm20 cd20 ct20 oc21 kV21 dc21 pm21 cd21 ct21 : Value} {t0 t1 t2 t3 t4 : Tok}
    (a0 : PySem.W.nsIn K mainGlobals "_law_is_integer" = some (some (.ref f0))) (l0 : K.lookup f0 = some ⟨oc0, od0, .func (PySem.W.fnOf "_law_is_integer" "_law_is_integer" (defArgs s_law_is_integer_u) (defBody s_law_is_integer_u) (defScope s_law_is_integer_u) .none kV0 dc0 pm0 an0 cd0 ct0), sl0⟩) (c0 : PySem.W.codeIn K cd0 "_law_is_integer" = true) (k0 : PySem.W.keepIn K (.ref f0) = true)
    (a1 : PySem.W.nsIn K mainGlobals "_law_are_integers" = some (some (.ref f1))) (l1 : K.lookup f1 = some ⟨oc1, od1, .func (PySem.W.fnOf "_law_are_integers" "_law_are_integers" (defArgs s_law_are_integers_u) (defBody s_law_are_integers_u) (defScope s_law_are_integers_u) .none kV1 dc1 pm1 an1 cd1 ct1), sl1⟩) (c1 : PySem.W.codeIn K cd1 "_law_are_integers" = true) (k1 : PySem.W.keepIn K (.ref f1) = true)
    (a2 : PySem.W.nsIn K mainGlobals "_law_bag" = some (some (.ref f2))) (l2 : K.lookup f2 = some ⟨oc2, od2, .func (PySem.W.fnOf "_law_bag" "_law_bag" (defArgs s_law_bag_u) (defBody s_law_bag_u) (defScope s_law_bag_u) .none kV2 dc2 pm2 an2 cd2 ct2), sl2⟩) (c2 : PySem.W.codeIn K cd2 "_law_bag" = true) (k2 : PySem.W.keepIn K (.ref f2) = true)
    (a3 : PySem.W.nsIn K mainGlobals "_law_take" = some (some (.ref f3))) (l3 : K.lookup f3 = some ⟨oc3, od3, .func (PySem.W.fnOf "_law_take" "_law_take" (defArgs s_law_take_u) (defBody s_law_take_u) (defScope s_law_take_u) .none kV3 dc3 pm3 an3 cd3 ct3), sl3⟩) (c3 : PySem.W.codeIn K cd3 "_law_take" = true) (k3 : PySem.W.keepIn K (.ref f3) = true)
    (a4 : PySem.W.nsIn K mainGlobals "_law_word" = some (some (.ref f4))) (l4 : K.lookup f4 = some ⟨oc4, od4, .func (PySem.W.fnOf "_law_word" "_law_word" (defArgs s_law_word_u) (defBody s_law_word_u) (defScope s_law_word_u) .none kV4 dc4 pm4 an4 cd4 ct4), sl4⟩) (c4 : PySem.W.codeIn K cd4 "_law_word" = true) (k4 : PySem.W.keepIn K (.ref f4) = true)
    (a5 : PySem.W.nsIn K mainGlobals "_law_cell" = some (some (.ref f5))) (l5 : K.lookup f5 = some ⟨oc5, od5, .func (PySem.W.fnOf "_law_cell" "_law_cell" (defArgs s_law_cell_u) (defBody s_law_cell_u) (defScope s_law_cell_u) .none kV5 dc5 pm5 an5 cd5 ct5), sl5⟩) (c5 : PySem.W.codeIn K cd5 "_law_cell" = true) (k5 : PySem.W.keepIn K (.ref f5) = true)
    (a6 : PySem.W.nsIn K mainGlobals "_law_filled" = some (some (.ref f6))) (l6 : K.lookup f6 = some ⟨oc6, od6, .func (PySem.W.fnOf "_law_filled" "_law_filled" (defArgs s_law_filled_u) (defBody s_law_filled_u) (defScope s_law_filled_u) .none kV6 dc6 pm6 an6 cd6 ct6), sl6⟩) (c6 : PySem.W.codeIn K cd6 "_law_filled" = true) (k6 : PySem.W.keepIn K (.ref f6) = true)
    (a7 : PySem.W.nsIn K mainGlobals "_law_is" = some (some (.ref f7))) (l7 : K.lookup f7 = some ⟨oc7, od7, .func (PySem.W.fnOf "_law_is" "_law_is" (defArgs s_law_is_u) (defBody s_law_is_u) (defScope s_law_is_u) .none kV7 dc7 pm7 an7 cd7 ct7), sl7⟩) (c7 : PySem.W.codeIn K cd7 "_law_is" = true) (k7 : PySem.W.keepIn K (.ref f7) = true)
    (a8 : PySem.W.nsIn K mainGlobals "node_entries" = some (some (.ref f8))) (l8 : K.lookup f8 = some ⟨oc8, od8, .func (PySem.W.fnOf "node_entries" "node_entries" (defArgs s_node_entries) (defBody s_node_entries) (defScope s_node_entries) .none kV8 dc8 pm8 an8 cd8 ct8), sl8⟩) (c8 : PySem.W.codeIn K cd8 "node_entries" = true) (k8 : PySem.W.keepIn K (.ref f8) = true)
    (a9 : PySem.W.nsIn K mainGlobals "block_pointers" = some (some (.ref f9))) (l9 : K.lookup f9 = some ⟨oc9, od9, .func (PySem.W.fnOf "block_pointers" "block_pointers" (defArgs s_block_pointers) (defBody s_block_pointers) (defScope s_block_pointers) .none kV9 dc9 pm9 an9 cd9 ct9), sl9⟩) (c9 : PySem.W.codeIn K cd9 "block_pointers" = true) (k9 : PySem.W.keepIn K (.ref f9) = true)
    (a10 : PySem.W.nsIn K mainGlobals "_filled" = some (some (.ref f10))) (l10 : K.lookup f10 = some ⟨oc10, od10, .func (PySem.W.fnOf "_filled" "_filled" (defArgs s_filled_u) (defBody s_filled_u) (defScope s_filled_u) .none kV10 dc10 pm10 an10 cd10 ct10), sl10⟩) (c10 : PySem.W.codeIn K cd10 "_filled" = true) (k10 : PySem.W.keepIn K (.ref f10) = true)
    (a11 : PySem.W.nsIn K mainGlobals "cell_data" = some (some (.ref f11))) (l11 : K.lookup f11 = some ⟨oc11, od11, .func (PySem.W.fnOf "cell_data" "cell_data" (defArgs s_cell_data) (defBody s_cell_data) (defScope s_cell_data) .none kV11 dc11 pm11 an11 cd11 ct11), sl11⟩) (c11 : PySem.W.codeIn K cd11 "cell_data" = true) (k11 : PySem.W.keepIn K (.ref f11) = true)
    (a12 : PySem.W.nsIn K mainGlobals "data_cells" = some (some (.ref f12))) (l12 : K.lookup f12 = some ⟨oc12, od12, .func (PySem.W.fnOf "data_cells" "data_cells" (defArgs s_data_cells) (defBody s_data_cells) (defScope s_data_cells) .none kV12 dc12 pm12 an12 cd12 ct12), sl12⟩) (c12 : PySem.W.codeIn K cd12 "data_cells" = true) (k12 : PySem.W.keepIn K (.ref f12) = true)
    (a13 : PySem.W.nsIn K mainGlobals "_law_cells_hold" = some (some (.ref f13))) (l13 : K.lookup f13 = some ⟨oc13, od13, .func (PySem.W.fnOf "_law_cells_hold" "_law_cells_hold" (defArgs s_law_cells_hold_u) (defBody s_law_cells_hold_u) (defScope s_law_cells_hold_u) .none kV13 dc13 pm13 an13 cd13 ct13), sl13⟩) (c13 : PySem.W.codeIn K cd13 "_law_cells_hold" = true) (k13 : PySem.W.keepIn K (.ref f13) = true)
    (a14 : PySem.W.nsIn K mainGlobals "_law_body" = some (some (.ref f14))) (l14 : K.lookup f14 = some ⟨oc14, od14, .func (PySem.W.fnOf "_law_body" "_law_body" (defArgs s_law_body_u) (defBody s_law_body_u) (defScope s_law_body_u) .none kV14 dc14 pm14 an14 cd14 ct14), sl14⟩) (c14 : PySem.W.codeIn K cd14 "_law_body" = true) (k14 : PySem.W.keepIn K (.ref f14) = true)
    (a15 : PySem.W.nsIn K mainGlobals "_law_middle" = some (some (.ref f15))) (l15 : K.lookup f15 = some ⟨oc15, od15, .func (PySem.W.fnOf "_law_middle" "_law_middle" (defArgs s_law_middle_u) (defBody s_law_middle_u) (defScope s_law_middle_u) .none kV15 dc15 pm15 an15 cd15 ct15), sl15⟩) (c15 : PySem.W.codeIn K cd15 "_law_middle" = true) (k15 : PySem.W.keepIn K (.ref f15) = true)
    (a16 : PySem.W.nsIn K mainGlobals "_law_entry" = some (some (.ref f16))) (l16 : K.lookup f16 = some ⟨oc16, od16, .func (PySem.W.fnOf "_law_entry" "_law_entry" (defArgs s_law_entry_u) (defBody s_law_entry_u) (defScope s_law_entry_u) .none kV16 dc16 pm16 an16 cd16 ct16), sl16⟩) (c16 : PySem.W.codeIn K cd16 "_law_entry" = true) (k16 : PySem.W.keepIn K (.ref f16) = true)
    (a17 : PySem.W.nsIn K mainGlobals "_law_level" = some (some (.ref f17))) (l17 : K.lookup f17 = some ⟨oc17, od17, .func (PySem.W.fnOf "_law_level" "_law_level" (defArgs s_law_level_u) (defBody s_law_level_u) (defScope s_law_level_u) .none kV17 dc17 pm17 an17 cd17 ct17), sl17⟩) (c17 : PySem.W.codeIn K cd17 "_law_level" = true) (k17 : PySem.W.keepIn K (.ref f17) = true)
    (a18 : PySem.W.nsIn K mainGlobals "node_data" = some (some (.ref f18))) (l18 : K.lookup f18 = some ⟨oc18, od18, .func (PySem.W.fnOf "node_data" "node_data" (defArgs s_node_data) (defBody s_node_data) (defScope s_node_data) .none kV18 dc18 pm18 an18 cd18 ct18), sl18⟩) (c18 : PySem.W.codeIn K cd18 "node_data" = true) (k18 : PySem.W.keepIn K (.ref f18) = true)
    (a19 : PySem.W.nsIn K mainGlobals "_law_node_holds" = some (some (.ref f19))) (l19 : K.lookup f19 = some ⟨oc19, od19, .func (PySem.W.fnOf "_law_node_holds" "_law_node_holds" (defArgs s_law_node_holds_u) (defBody s_law_node_holds_u) (defScope s_law_node_holds_u) .none kV19 dc19 pm19 an19 cd19 ct19), sl19⟩) (c19 : PySem.W.codeIn K cd19 "_law_node_holds" = true) (k19 : PySem.W.keepIn K (.ref f19) = true)
    (a20 : PySem.W.nsIn K mainGlobals "_law_turn" = some (some (.ref f20))) (l20 : K.lookup f20 = some ⟨oc20, od20, .func (PySem.W.fnOf "_law_turn" "_law_turn" (defArgs s_law_turn_u) (defBody s_law_turn_u) (defScope s_law_turn_u) .none kV20 dc20 pm20 an20 cd20 ct20), sl20⟩) (c20 : PySem.W.codeIn K cd20 "_law_turn" = true) (k20 : PySem.W.keepIn K (.ref f20) = true)
    (a21 : PySem.W.nsIn K mainGlobals "law" = some (some (.ref f21))) (l21 : K.lookup f21 = some ⟨oc21, od21, .func (PySem.W.fnOf "law" "law" (defArgs s_law) (defBody s_law) (defScope s_law) .none kV21 dc21 pm21 an21 cd21 ct21), sl21⟩) (c21 : PySem.W.codeIn K cd21 "law" = true) (k21 : PySem.W.keepIn K (.ref f21) = true)
    (z_len : PySem.W.nsIn K mainGlobals "len" = some none)
    (z_min : PySem.W.nsIn K mainGlobals "min" = some none)
    (z_range : PySem.W.nsIn K mainGlobals "range" = some none)
    (z_int : PySem.W.nsIn K mainGlobals "int" = some none)
    (z_isinstance : PySem.W.nsIn K mainGlobals "isinstance" = some none)
    (z_bool : PySem.W.nsIn K mainGlobals "bool" = some none)
    (z_list : PySem.W.nsIn K mainGlobals "list" = some none)
    (z_tuple : PySem.W.nsIn K mainGlobals "tuple" = some none)
    (c_POINTING : PySem.W.nsIn K mainGlobals "POINTING" = some (some (.int 3 t0)))
    (c_LIFE : PySem.W.nsIn K mainGlobals "LIFE" = some (some (.int 16777216 t1)))
    (c_MOST_ENTRIES_u : PySem.W.nsIn K mainGlobals "_MOST_ENTRIES" = some (some (.int 6 t2)))
    (c_ENTRY_WORDS_u : PySem.W.nsIn K mainGlobals "_ENTRY_WORDS" = some (some (.int 5 t3)))
    (c_WORDS_u : PySem.W.nsIn K mainGlobals "_WORDS" = some (some (.int 32 t4)))
    (hm : LawHolds m_law) : ∃ fd : FuncData, (∀ (s : Shared) (u : Value), BindsTo s fd ⟨[u], []⟩ [(("script" : Str), u)]) ∧ ∀ base : Heap, K.In base → base.Ns mainGlobals mg → FnOk P w K mg base (L2.CX P w) 6 fa fd ["script"] (spL K) := by
  have T : Top K mg := ⟨fnAt_mk X G (fun _ _ _ _ _ _ us hl => match us, hl with | [_], _ => rfl) a0 l0 c0 k0,
    fnAt_mk X G (fun _ _ _ _ _ _ us hl => match us, hl with | [_], _ => rfl) a1 l1 c1 k1,
    fnAt_mk X G (fun _ _ _ _ _ _ us hl => match us, hl with | [_], _ => rfl) a2 l2 c2 k2,
    fnAt_mk X G (fun _ _ _ _ _ _ us hl => match us, hl with | [_, _], _ => rfl) a3 l3 c3 k3,
    fnAt_mk X G (fun _ _ _ _ _ _ us hl => match us, hl with | [_], _ => rfl) a4 l4 c4 k4,
    fnAt_mk X G (fun _ _ _ _ _ _ us hl => match us, hl with | [_], _ => rfl) a5 l5 c5 k5,
    fnAt_mk X G (fun _ _ _ _ _ _ us hl => match us, hl with | [_, _, _], _ => rfl) a6 l6 c6 k6,
    fnAt_mk X G (fun _ _ _ _ _ _ us hl => match us, hl with | [_, _], _ => rfl) a7 l7 c7 k7,
    fnAt_mk X G (fun _ _ _ _ _ _ us hl => match us, hl with | [_], _ => rfl) a8 l8 c8 k8,
    fnAt_mk X G (fun _ _ _ _ _ _ us hl => match us, hl with | [_], _ => rfl) a9 l9 c9 k9,
    fnAt_mk X G (fun _ _ _ _ _ _ us hl => match us, hl with | [_], _ => rfl) a10 l10 c10 k10,
    fnAt_mk X G (fun _ _ _ _ _ _ us hl => match us, hl with | [_], _ => rfl) a11 l11 c11 k11,
    fnAt_mk X G (fun _ _ _ _ _ _ us hl => match us, hl with | [_], _ => rfl) a12 l12 c12 k12,
    fnAt_mk X G (fun _ _ _ _ _ _ us hl => match us, hl with | [_], _ => rfl) a13 l13 c13 k13,
    fnAt_mk X G (fun _ _ _ _ _ _ us hl => match us, hl with | [_], _ => rfl) a14 l14 c14 k14,
    fnAt_mk X G (fun _ _ _ _ _ _ us hl => match us, hl with | [_], _ => rfl) a15 l15 c15 k15,
    fnAt_mk X G (fun _ _ _ _ _ _ us hl => match us, hl with | [_], _ => rfl) a16 l16 c16 k16,
    fnAt_mk X G (fun _ _ _ _ _ _ us hl => match us, hl with | [_], _ => rfl) a17 l17 c17 k17,
    fnAt_mk X G (fun _ _ _ _ _ _ us hl => match us, hl with | [_, _], _ => rfl) a18 l18 c18 k18,
    fnAt_mk X G (fun _ _ _ _ _ _ us hl => match us, hl with | [_], _ => rfl) a19 l19 c19 k19,
    fnAt_mk X G (fun _ _ _ _ _ _ us hl => match us, hl with | [_], _ => rfl) a20 l20 c20 k20,
    fnAt_mk X G (fun _ _ _ _ _ _ us hl => match us, hl with | [_], _ => rfl) a21 l21 c21 k21,
    PySem.W.mg_none_of X G z_len,
    PySem.W.mg_none_of X G z_min,
    PySem.W.mg_none_of X G z_range,
    PySem.W.mg_none_of X G z_int,
    PySem.W.mg_none_of X G z_isinstance,
    PySem.W.mg_none_of X G z_bool,
    PySem.W.mg_none_of X G z_list,
    PySem.W.mg_none_of X G z_tuple,
    ⟨_, PySem.W.mg_of X G c_POINTING⟩,
    ⟨_, PySem.W.mg_of X G c_LIFE⟩,
    ⟨_, PySem.W.mg_of X G c_MOST_ENTRIES_u⟩,
    ⟨_, PySem.W.mg_of X G c_ENTRY_WORDS_u⟩,
    ⟨_, PySem.W.mg_of X G c_WORDS_u⟩⟩
  exact lawOf T.f_law hmg sc_law (fun base => bd_law T) hm
end K08
open PySem PySem.W PyProof.Rows
set_option maxRecDepth 100000 in
set_option maxHeartbeats 0 in
theorem PySem.Challenge.cw_landfall_k08_data_of_blocks_holds : PySem.Challenge.rw_landfall_k08_data_of_blocks.Holds := by
  w_on; o_law; k_head; (case hw => w_witness2)
  k_fill
  refine LF.law_walk (l := PySem.Challenge.rw_landfall_k08_data_of_blocks) (k := 6) rfl rfl ⟨rfl, by decide, by decide⟩ (fun w h Y => PySem.W.kIn_of Y) ?F
  case F =>
    intro w mg fa h KX G hmg
    refine' K08.all_mk KX G hmg ?a0 ?l0 ?c0 ?k0 ?a1 ?l1 ?c1 ?k1 ?a2 ?l2 ?c2 ?k2 ?a3 ?l3 ?c3 ?k3 ?a4 ?l4 ?c4 ?k4 ?a5 ?l5 ?c5 ?k5 ?a6 ?l6 ?c6 ?k6 ?a7 ?l7 ?c7 ?k7 ?a8 ?l8 ?c8 ?k8 ?a9 ?l9 ?c9 ?k9 ?a10 ?l10 ?c10 ?k10 ?a11 ?l11 ?c11 ?k11 ?a12 ?l12 ?c12 ?k12 ?a13 ?l13 ?c13 ?k13 ?a14 ?l14 ?c14 ?k14 ?a15 ?l15 ?c15 ?k15 ?a16 ?l16 ?c16 ?k16 ?a17 ?l17 ?c17 ?k17 ?a18 ?l18 ?c18 ?k18 ?a19 ?l19 ?c19 ?k19 ?a20 ?l20 ?c20 ?k20 ?a21 ?l21 ?c21 ?k21 ?z_len ?z_min ?z_range ?z_int ?z_isinstance ?z_bool ?z_list ?z_tuple ?c_POINTING ?c_LIFE ?c_MOST_ENTRIES_u ?c_ENTRY_WORDS_u ?c_WORDS_u K08.holds
    (case a0 => k_is); (case l0 => k_is); (case c0 => k_is); (case k0 => k_is); (case a1 => k_is); (case l1 => k_is); (case c1 => k_is); (case k1 => k_is)
    (case a2 => k_is); (case l2 => k_is); (case c2 => k_is); (case k2 => k_is); (case a3 => k_is); (case l3 => k_is); (case c3 => k_is); (case k3 => k_is)
    (case a4 => k_is); (case l4 => k_is); (case c4 => k_is); (case k4 => k_is); (case a5 => k_is); (case l5 => k_is); (case c5 => k_is); (case k5 => k_is)
    (case a6 => k_is); (case l6 => k_is); (case c6 => k_is); (case k6 => k_is); (case a7 => k_is); (case l7 => k_is); (case c7 => k_is); (case k7 => k_is)
    (case a8 => k_is); (case l8 => k_is); (case c8 => k_is); (case k8 => k_is); (case a9 => k_is); (case l9 => k_is); (case c9 => k_is); (case k9 => k_is)
    (case a10 => k_is); (case l10 => k_is); (case c10 => k_is); (case k10 => k_is); (case a11 => k_is); (case l11 => k_is); (case c11 => k_is); (case k11 => k_is)
    (case a12 => k_is); (case l12 => k_is); (case c12 => k_is); (case k12 => k_is); (case a13 => k_is); (case l13 => k_is); (case c13 => k_is); (case k13 => k_is)
    (case a14 => k_is); (case l14 => k_is); (case c14 => k_is); (case k14 => k_is); (case a15 => k_is); (case l15 => k_is); (case c15 => k_is); (case k15 => k_is)
    (case a16 => k_is); (case l16 => k_is); (case c16 => k_is); (case k16 => k_is); (case a17 => k_is); (case l17 => k_is); (case c17 => k_is); (case k17 => k_is)
    (case a18 => k_is); (case l18 => k_is); (case c18 => k_is); (case k18 => k_is); (case a19 => k_is); (case l19 => k_is); (case c19 => k_is); (case k19 => k_is)
    (case a20 => k_is); (case l20 => k_is); (case c20 => k_is); (case k20 => k_is); (case a21 => k_is); (case l21 => k_is); (case c21 => k_is); (case k21 => k_is)
    (case z_len => k_is); (case z_min => k_is); (case z_range => k_is); (case z_int => k_is); (case z_isinstance => k_is); (case z_bool => k_is); (case z_list => k_is); (case z_tuple => k_is)
    (case c_POINTING => k_is); (case c_LIFE => k_is); (case c_MOST_ENTRIES_u => k_is); (case c_ENTRY_WORDS_u => k_is); (case c_WORDS_u => k_is)
