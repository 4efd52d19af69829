import PyProof.Rows.All
import Wide.All
import OpenK.AllK
import Wide.FinOn
import HandS.ForMost
import HandS.ForExc
import HandS.Flow
import HandS.CallSlots
import HandS.Wide
import HandS.IsInst
import HandS.TupAny
import HandS.Style
import HandS.Deep
import HandS.Defaults
import HandS.HeadEnd
import HandS.HeadHook1
import HandS.HeadHook2
import HandS.HeadHook3
import HandS.Head0
import HandS.Head1
import HandS.Head2
import HandS.Conv
import KE.KMathG
import KE.KMathGC
import PySem.Challenge.RW_holesmet_k52_whole_chances_by_counting
set_option Elab.async false
set_option linter.all false
set_option maxRecDepth 100000
/-! Fl, part A: data, what they stand for, readings over plain functions. -/
namespace Fl
open PySem PySem.Spec L2
set_option autoImplicit false

/-- pure data -/
inductive P where
  | non | bl (b : Bool) | int (i : Int) | str (x : Str) | tup (xs : List P)
/-- data: pure, a place in the store, a tuple with places in it, what a name of the module stands for -/
inductive D where
  | p (x : P) | ref (l : Nat) | tup (xs : List D) | gl (x : Str)
/-- what stands at a place -/
inductive O where
  | lst (xs : List D) | ro (xs : List D) | ins (c : Str) (fs : List (Str × D))
abbrev Env := List (Option D)
abbrev Store := List O

mutual
def RepP (K : PySem.W.Frag) (H : Hp) : P → V → Prop
  | .non, v => v = .non
  | .bl b, v => v = .bl b
  | .int i, v => v = .int i
  | .str x, v => v = .str x
  | .tup xs, v => ∃ a vs, v = .ref a ∧ SqT K H a vs ∧ RepPs K H xs vs
def RepPs (K : PySem.W.Frag) (H : Hp) : List P → List V → Prop
  | [], vs => vs = []
  | x :: xs, vs => ∃ v r, vs = v :: r ∧ RepP K H x v ∧ RepPs K H xs r
end
structure Gm where
  K : PySem.W.Frag
  mg : Str → Option Value
mutual
def Rep (G : Gm) (μ : List Addr) (H : Hp) : D → V → Prop
  | .p x, v => RepP G.K H x v
  | .ref l, v => ∃ a, μ[l]? = some a ∧ v = .ref a
  | .tup xs, v => ∃ a vs, v = .ref a ∧ SqT G.K H a vs ∧ Reps G μ H xs vs
  | .gl x, v => ∃ a, G.mg x = some (.ref a) ∧ v = .ref a
def Reps (G : Gm) (μ : List Addr) (H : Hp) : List D → List V → Prop
  | [], vs => vs = []
  | x :: xs, vs => ∃ v r, vs = v :: r ∧ Rep G μ H x v ∧ Reps G μ H xs r
end
def FsRep (G : Gm) (μ : List Addr) (H : Hp) : List (Str × D) → List (Str × V) → Prop
  | [], gs => gs = []
  | (f, d) :: fs, gs => ∃ v r, gs = (f, v) :: r ∧ Rep G μ H d v ∧ FsRep G μ H fs r
/-- a list of the written part -/
def KL (K : PySem.W.Frag) (a : Addr) (xs : List V) : Prop :=
  ∃ (o : Obj) (its : Array Value) (n : Nat), K.lookup a = some o ∧ o.cls = .type "list" ∧ o.dict = none ∧ o.data = .seq its n ∧ its.size ≤ sizeLine ∧ Vals xs its.toList
/-- a list that is read and never changed -/
def RoL (K : PySem.W.Frag) (H : Hp) (a : Addr) (xs : List V) : Prop := (∃ o, H a = some (.frz o (.lst xs))) ∨ KL K a xs
theorem RoL.sql {K : PySem.W.Frag} {H : Hp} {a : Addr} {xs : List V} (h : RoL K H a xs) : SqL K H a xs := h.elim (fun h => .inl (.inr h)) fun h => .inr h
def O.isRo : O → Bool
  | .ro _ => true
  | _ => false
def ObjRep (G : Gm) (μ : List Addr) (H : Hp) (a : Addr) : O → Prop
  | .lst xs => ∃ vs, H a = some (.lst vs) ∧ Reps G μ H xs vs
  | .ro xs => ∃ vs, RoL G.K H a vs ∧ Reps G μ H xs vs
  | .ins c fs => ∃ C dx gs, G.mg c = some (.ref C) ∧ H a = some (.ins C dx gs) ∧ FsRep G μ H fs gs
structure SR (G : Gm) (μ : List Addr) (H : Hp) (M : Store) : Prop where
  len : μ.length = M.length
  nd : ∀ (i j : Nat) (a : Addr) (x y : O), μ[i]? = some a → μ[j]? = some a → M[i]? = some x → M[j]? = some y → x.isRo = true ∨ y.isRo = true ∨ i = j
  obj : ∀ (l : Nat) (a : Addr) (o : O), μ[l]? = some a → M[l]? = some o → ObjRep G μ H a o
structure ER (G : Gm) (μ : List Addr) (H : Hp) (ρ : Env) (σ : St) : Prop where
  len : ρ.length = σ.length
  at_ : ∀ (i : Nat) (d : D), ρ[i]? = some (some d) → ∃ v, σ[i]? = some (some v) ∧ Rep G μ H d v

/-- the heap grew or changed, tuples and locked things stay -/
structure Ext (H H' : Hp) : Prop where
  tup : ∀ a xs, H a = some (.tup xs) → H' a = some (.tup xs)
  frz : ∀ a o u, H a = some (.frz o u) → H' a = some (.frz o u)
theorem Ext.refl (H : Hp) : Ext H H := ⟨fun _ _ h => h, fun _ _ _ h => h⟩
theorem Ext.trans {H H1 H2 : Hp} (a : Ext H H1) (b : Ext H1 H2) : Ext H H2 := ⟨fun c x h => b.tup c x (a.tup c x h), fun c o u h => b.frz c o u (a.frz c o u h)⟩
theorem Ext.new {H : Hp} {p : Addr} {o : HO} (h : H p = none) : Ext H (upd H p o) :=
  ⟨fun a xs e => by rw [upd_ne (ne_of_none e h)]; exact e, fun a ob u e => by rw [upd_ne (ne_of_none e h)]; exact e⟩
theorem Ext.lst {H : Hp} {p : Addr} {xs : List V} {o : HO} (h : H p = some (.lst xs)) : Ext H (upd H p o) :=
  ⟨fun a ys e => by rw [upd_ne (ne_of e h (by intro z; cases z))]; exact e, fun a ob u e => by rw [upd_ne (ne_of e h (by intro z; cases z))]; exact e⟩
theorem Ext.ins {H : Hp} {p : Addr} {C dx fs} {o : HO} (h : H p = some (.ins C dx fs)) : Ext H (upd H p o) :=
  ⟨fun a ys e => by rw [upd_ne (ne_of e h (by intro z; cases z))]; exact e, fun a ob u e => by rw [upd_ne (ne_of e h (by intro z; cases z))]; exact e⟩
theorem Ext.sqt {K : PySem.W.Frag} {H H' : Hp} (e : Ext H H') {a : Addr} {xs : List V} (h : SqT K H a xs) : SqT K H' a xs := by
  rcases h with (h | ⟨o, h⟩) | h
  · exact .inl (.inl (e.tup _ _ h))
  · exact .inl (.inr ⟨o, e.frz _ _ _ h⟩)
  · exact .inr h
section
variable {G : Gm} {μ μ' : List Addr} {H H' : Hp}
mutual
theorem RepP.ext {K : PySem.W.Frag} (e : Ext H H') : ∀ {x : P} {v : V}, RepP K H x v → RepP K H' x v
  | .non, _, h => by simpa only [RepP] using h
  | .bl _, _, h => by simpa only [RepP] using h
  | .int _, _, h => by simpa only [RepP] using h
  | .str _, _, h => by simpa only [RepP] using h
  | .tup xs, _, h => by
    simp only [RepP] at h ⊢
    obtain ⟨a, vs, rfl, h1, h2⟩ := h
    exact ⟨a, vs, rfl, e.sqt h1, RepPs.ext e h2⟩
theorem RepPs.ext {K : PySem.W.Frag} (e : Ext H H') : ∀ {xs : List P} {vs : List V}, RepPs K H xs vs → RepPs K H' xs vs
  | [], _, h => by simpa only [RepPs] using h
  | x :: xs, _, h => by
    simp only [RepPs] at h ⊢
    obtain ⟨v, r, rfl, h1, h2⟩ := h
    exact ⟨v, r, rfl, RepP.ext e h1, RepPs.ext e h2⟩
end
theorem pre_get {μ μ' : List Addr} (p : μ <+: μ') {l : Nat} {a : Addr} (h : μ[l]? = some a) : μ'[l]? = some a := by
  obtain ⟨t, rfl⟩ := p
  obtain ⟨hl, e⟩ := List.getElem?_eq_some_iff.mp h
  rw [List.getElem?_append_left hl]
  exact h
mutual
theorem Rep.ext (e : Ext H H') (p : μ <+: μ') : ∀ {x : D} {v : V}, Rep G μ H x v → Rep G μ' H' x v
  | .p x, _, h => by
    simp only [Rep] at h ⊢
    exact RepP.ext e h
  | .ref l, _, h => by
    simp only [Rep] at h ⊢
    obtain ⟨a, h1, h2⟩ := h
    exact ⟨a, pre_get p h1, h2⟩
  | .tup xs, _, h => by
    simp only [Rep] at h ⊢
    obtain ⟨a, vs, rfl, h1, h2⟩ := h
    exact ⟨a, vs, rfl, e.sqt h1, Reps.ext e p h2⟩
  | .gl x, _, h => by
    simpa only [Rep] using h
theorem Reps.ext (e : Ext H H') (p : μ <+: μ') : ∀ {xs : List D} {vs : List V}, Reps G μ H xs vs → Reps G μ' H' xs vs
  | [], _, h => by simpa only [Reps] using h
  | x :: xs, _, h => by
    simp only [Reps] at h ⊢
    obtain ⟨v, r, rfl, h1, h2⟩ := h
    exact ⟨v, r, rfl, Rep.ext e p h1, Reps.ext e p h2⟩
end
theorem FsRep.ext (e : Ext H H') (p : μ <+: μ') : ∀ {fs : List (Str × D)} {gs : List (Str × V)}, FsRep G μ H fs gs → FsRep G μ' H' fs gs
  | [], _, h => h
  | (f, d) :: fs, _, h => by
    obtain ⟨v, r, rfl, h1, h2⟩ := h
    exact ⟨v, r, rfl, Rep.ext e p h1, FsRep.ext e p h2⟩
theorem Reps.length : ∀ {xs : List D} {vs : List V}, Reps G μ H xs vs → xs.length = vs.length
  | [], _, h => by simp only [Reps] at h; subst h; rfl
  | x :: xs, _, h => by
    simp only [Reps] at h
    obtain ⟨v, r, rfl, h1, h2⟩ := h
    rw [List.length_cons, List.length_cons, Reps.length h2]
theorem RepPs.length {K : PySem.W.Frag} : ∀ {xs : List P} {vs : List V}, RepPs K H xs vs → xs.length = vs.length
  | [], _, h => by simp only [RepPs] at h; subst h; rfl
  | x :: xs, _, h => by
    simp only [RepPs] at h
    obtain ⟨v, r, rfl, h1, h2⟩ := h
    rw [List.length_cons, List.length_cons, RepPs.length h2]
theorem Reps.nil : Reps G μ H [] [] := by simp only [Reps]
theorem Reps.cons {x xs v vs} (h : Rep G μ H x v) (t : Reps G μ H xs vs) : Reps G μ H (x :: xs) (v :: vs) := by
  simp only [Reps]
  exact ⟨v, vs, rfl, h, t⟩
theorem Reps.inv {x xs ws} (h : Reps G μ H (x :: xs) ws) : ∃ v vs, ws = v :: vs ∧ Rep G μ H x v ∧ Reps G μ H xs vs := by
  simpa only [Reps] using h
theorem Reps.inv0 {ws} (h : Reps G μ H [] ws) : ws = [] := by
  simpa only [Reps] using h
theorem Reps.app : ∀ {xs ys : List D} {vs ws : List V}, Reps G μ H xs vs → Reps G μ H ys ws → Reps G μ H (xs ++ ys) (vs ++ ws)
  | [], _, _, _, h, t => by rw [h.inv0]; exact t
  | x :: xs, _, _, _, h, t => by
    obtain ⟨v, r, rfl, h1, h2⟩ := h.inv
    exact .cons h1 (Reps.app h2 t)
theorem Reps.get : ∀ {xs : List D} {vs : List V}, Reps G μ H xs vs → ∀ {i : Nat} {x : D}, xs[i]? = some x → ∃ v, vs[i]? = some v ∧ Rep G μ H x v
  | [], _, _, i, x, e => by simp at e
  | y :: xs, _, h, 0, x, e => by
    obtain ⟨v, r, rfl, h1, h2⟩ := h.inv
    simp at e
    subst e
    exact ⟨v, rfl, h1⟩
  | y :: xs, _, h, i + 1, x, e => by
    obtain ⟨v, r, rfl, h1, h2⟩ := h.inv
    obtain ⟨u, e1, e2⟩ := Reps.get h2 (i := i) (x := x) (by simpa using e)
    exact ⟨u, by simpa using e1, e2⟩
theorem Reps.drop : ∀ {xs : List D} {vs : List V} (n : Nat), Reps G μ H xs vs → Reps G μ H (xs.drop n) (vs.drop n)
  | _, _, 0, h => h
  | [], _, n + 1, h => by rw [h.inv0]; exact .nil
  | x :: xs, _, n + 1, h => by
    obtain ⟨v, r, rfl, h1, h2⟩ := h.inv
    exact Reps.drop n h2
theorem Reps.take : ∀ {xs : List D} {vs : List V} (n : Nat), Reps G μ H xs vs → Reps G μ H (xs.take n) (vs.take n)
  | _, _, 0, h => .nil
  | [], _, n + 1, h => by rw [h.inv0]; exact .nil
  | x :: xs, _, n + 1, h => by
    obtain ⟨v, r, rfl, h1, h2⟩ := h.inv
    exact .cons h1 (Reps.take n h2)
theorem Reps.rev : ∀ {xs : List D} {vs : List V}, Reps G μ H xs vs → Reps G μ H xs.reverse vs.reverse
  | [], _, h => by rw [h.inv0]; exact .nil
  | x :: xs, _, h => by
    obtain ⟨v, r, rfl, h1, h2⟩ := h.inv
    rw [List.reverse_cons, List.reverse_cons]
    exact Reps.app (Reps.rev h2) (.cons h1 .nil)
theorem Reps.set : ∀ {xs : List D} {vs : List V} (i : Nat) {x : D} {v : V}, Reps G μ H xs vs → Rep G μ H x v → Reps G μ H (xs.set i x) (vs.set i v)
  | [], _, _, _, _, h, _ => by rw [h.inv0]; exact .nil
  | y :: xs, _, 0, x, v, h, hx => by
    obtain ⟨u, r, rfl, h1, h2⟩ := h.inv
    exact .cons hx h2
  | y :: xs, _, i + 1, x, v, h, hx => by
    obtain ⟨u, r, rfl, h1, h2⟩ := h.inv
    exact .cons h1 (Reps.set i h2 hx)
theorem Reps.dropLast {xs : List D} {vs : List V} (h : Reps G μ H xs vs) : Reps G μ H xs.dropLast vs.dropLast := by
  rw [List.dropLast_eq_take, List.dropLast_eq_take, h.length]
  exact h.take _
theorem Reps.of_P : ∀ {xs : List P} {vs : List V}, RepPs G.K H xs vs → Reps G μ H (xs.map D.p) vs
  | [], _, h => by simp only [RepPs] at h; subst h; exact .nil
  | x :: xs, _, h => by
    simp only [RepPs] at h
    obtain ⟨v, r, rfl, h1, h2⟩ := h
    exact .cons (by simpa only [Rep] using h1) (Reps.of_P h2)
theorem Reps.to_P : ∀ {xs : List P} {vs : List V}, Reps G μ H (xs.map D.p) vs → RepPs G.K H xs vs
  | [], _, h => by rw [h.inv0]; simp only [RepPs]
  | x :: xs, _, h => by
    obtain ⟨v, r, rfl, h1, h2⟩ := h.inv
    simp only [RepPs]
    exact ⟨v, r, rfl, by simpa only [Rep] using h1, Reps.to_P h2⟩
/-- the object at a stands as it stood, or it is of the written part -/
theorem ObjRep.ext (e : Ext H H') (p : μ <+: μ') {a : Addr} {o : O} (h : ObjRep G μ H a o) (st : H' a = H a ∨ (o.isRo = true ∧ ∀ ob u, H a ≠ some (.frz ob u))) : ObjRep G μ' H' a o := by
  cases o with
  | lst xs =>
    rcases st with st | st
    · obtain ⟨vs, h1, h2⟩ := h; exact ⟨vs, by rw [st]; exact h1, h2.ext e p⟩
    · cases st.1
  | ro xs =>
    obtain ⟨vs, h1, h2⟩ := h
    refine ⟨vs, ?_, h2.ext e p⟩
    rcases h1 with ⟨ob, h1⟩ | h1
    · rcases st with st | st
      · exact .inl ⟨ob, by rw [st]; exact h1⟩
      · exact absurd h1 (st.2 _ _)
    · exact .inr h1
  | ins c fs =>
    rcases st with st | st
    · obtain ⟨C, dx, gs, h0, h1, h2⟩ := h; exact ⟨C, dx, gs, h0, by rw [st]; exact h1, h2.ext e p⟩
    · cases st.1
theorem ObjRep.some {a : Addr} {o : O} (h : ObjRep G μ H a o) (n : o.isRo = false) : ∃ u, H a = some u := by
  cases o with
  | lst xs => obtain ⟨vs, h1, h2⟩ := h; exact ⟨_, h1⟩
  | ro xs => cases n
  | ins c fs => obtain ⟨C, dx, gs, h0, h1, h2⟩ := h; exact ⟨_, h1⟩
theorem SR.at_ {M : Store} (S : SR G μ H M) {l : Nat} {a : Addr} (h : μ[l]? = some a) : ∃ o, M[l]? = some o ∧ ObjRep G μ H a o := by
  have hl : l < M.length := by
    rw [← S.len]
    exact (List.getElem?_eq_some_iff.mp h).1
  exact ⟨M[l], List.getElem?_eq_getElem hl, S.obj l a _ h (List.getElem?_eq_getElem hl)⟩
theorem SR.adr {M : Store} (S : SR G μ H M) {l : Nat} {o : O} (h : M[l]? = some o) : ∃ a, μ[l]? = some a ∧ ObjRep G μ H a o := by
  have hl : l < μ.length := by
    rw [S.len]
    exact (List.getElem?_eq_some_iff.mp h).1
  exact ⟨μ[l], List.getElem?_eq_getElem hl, S.obj l _ o (List.getElem?_eq_getElem hl) h⟩
/-- what stands at a new place: nothing but a list of the written part -/
theorem ObjRep.at_new {a p : Addr} {o : O} {u : HO} (h : ObjRep G μ H a o) (hp : H p = none) : (upd H p u) a = H a ∨ (o.isRo = true ∧ ∀ ob w, H a ≠ Option.some (.frz ob w)) := by
  by_cases e : a = p
  · subst e
    cases q : o.isRo with
    | false =>
      obtain ⟨v, hv⟩ := h.some q
      rw [hp] at hv
      cases hv
    | true => exact .inr ⟨rfl, fun ob w z => by rw [hp] at z; cases z⟩
  · exact .inl (upd_ne e)
theorem isRo_new {a : Addr} {o : O} (h : ObjRep G μ H a o) (hp : H a = none) : o.isRo = true := by
  cases q : o.isRo with
  | true => rfl
  | false =>
    obtain ⟨v, hv⟩ := h.some q
    rw [hp] at hv
    cases hv
/-- a new object of the store -/
theorem SR.new {M : Store} (S : SR G μ H M) {p : Addr} {o : O} {u : HO} (hp : H p = none) (h : ObjRep G (μ ++ [p]) (upd H p u) p o) : SR G (μ ++ [p]) (upd H p u) (M ++ [o]) := by
  have old : ∀ {l : Nat} {a : Addr} {x : O}, (μ ++ [p])[l]? = some a → (M ++ [o])[l]? = some x → (l < μ.length ∧ μ[l]? = some a ∧ M[l]? = some x) ∨ (l = μ.length ∧ a = p ∧ x = o) := fun {l a x} h1 h2 => by
    by_cases hl : l < μ.length
    · rw [List.getElem?_append_left hl] at h1
      rw [List.getElem?_append_left (by rw [← S.len]; exact hl)] at h2
      exact .inl ⟨hl, h1, h2⟩
    · have e1 : l = μ.length := by
        have := (List.getElem?_eq_some_iff.mp h1).1
        simp at this
        omega
      subst e1
      refine .inr ⟨rfl, by simpa using h1.symm, ?_⟩
      rw [S.len] at h2
      simpa using h2.symm
  refine ⟨by simp [S.len], fun i j a x y h1 h2 h3 h4 => ?_, fun l a ob h1 h2 => ?_⟩
  · rcases old h1 h3 with ⟨_, k1, k3⟩ | ⟨k0, k1, k3⟩
    · rcases old h2 h4 with ⟨_, k2, k4⟩ | ⟨_, k2, k4⟩
      · exact S.nd i j a x y k1 k2 k3 k4
      · subst k2
        exact .inl (isRo_new (S.obj i a x k1 k3) hp)
    · rcases old h2 h4 with ⟨_, k2, k4⟩ | ⟨k5, k2, k4⟩
      · subst k1
        exact .inr (.inl (isRo_new (S.obj j a y k2 k4) hp))
      · exact .inr (.inr (by rw [k0, k5]))
  · rcases old h1 h2 with ⟨_, k1, k2⟩ | ⟨_, k1, k2⟩
    · have r := S.obj l a ob k1 k2
      exact r.ext (.new hp) (List.prefix_append _ _) (r.at_new hp)
    · rw [k1, k2]
      exact h
/-- another heap with more in it -/
theorem SR.grow {M : Store} (S : SR G μ H M) {p : Addr} {u : HO} (hp : H p = none) : SR G μ (upd H p u) M :=
  ⟨S.len, S.nd, fun l a o h1 h2 => (S.obj l a o h1 h2).ext (.new hp) (List.prefix_refl _) ((S.obj l a o h1 h2).at_new hp)⟩
/-- an object of the store is changed -/
theorem SR.put {M : Store} (S : SR G μ H M) {l : Nat} {a : Addr} {o o0 : O} {u : HO} (h : μ[l]? = some a) (h0 : M[l]? = some o0) (n0 : o0.isRo = false) (n1 : o.isRo = false) (nf : ∀ ob w, H a ≠ Option.some (.frz ob w)) (e : Ext H (upd H a u)) (r : ObjRep G μ (upd H a u) a o) : SR G μ (upd H a u) (M.set l o) := by
  have hlt : l < M.length := by rw [← S.len]; exact (List.getElem?_eq_some_iff.mp h).1
  have old : ∀ {k : Nat} {x : O}, (M.set l o)[k]? = some x → (k = l ∧ x = o) ∨ (k ≠ l ∧ M[k]? = some x) := fun {k x} h2 => by
    by_cases hk : k = l
    · subst hk
      rw [List.getElem?_set_self hlt] at h2
      exact .inl ⟨rfl, (Option.some.inj h2).symm⟩
    · rw [List.getElem?_set_ne (Ne.symm hk)] at h2
      exact .inr ⟨hk, h2⟩
  refine ⟨by simp [S.len], fun i j b x y h1 h2 h3 h4 => ?_, fun k b ob h1 h2 => ?_⟩
  · rcases old h3 with ⟨k1, k2⟩ | ⟨k1, k2⟩
    · rcases old h4 with ⟨k3, k4⟩ | ⟨k3, k4⟩
      · exact .inr (.inr (by rw [k1, k3]))
      · subst k1
        rcases S.nd i j b o0 y h1 h2 h0 k4 with z | z | z
        · rw [n0] at z; cases z
        · exact .inr (.inl z)
        · exact .inr (.inr z)
    · rcases old h4 with ⟨k3, k4⟩ | ⟨k3, k4⟩
      · subst k3
        rcases S.nd i j b x o0 h1 h2 k2 h0 with z | z | z
        · exact .inl z
        · rw [n0] at z; cases z
        · exact .inr (.inr z)
      · exact S.nd i j b x y h1 h2 k2 k4
  · rcases old h2 with ⟨k1, k2⟩ | ⟨k1, k2⟩
    · subst k1
      rw [h] at h1
      cases h1
      rw [k2]
      exact r
    · refine (S.obj k b ob h1 k2).ext e (List.prefix_refl _) ?_
      by_cases z : b = a
      · subst z
        rcases S.nd k l b ob o0 h1 h k2 h0 with q | q | q
        · exact .inr ⟨q, nf⟩
        · rw [n0] at q; cases q
        · exact absurd q k1
      · exact .inl (upd_ne z)
theorem ER.ext (e : Ext H H') (p : μ <+: μ') {ρ : Env} {σ : St} (h : ER G μ H ρ σ) : ER G μ' H' ρ σ :=
  ⟨h.len, fun i d q => by
    obtain ⟨v, h1, h2⟩ := h.at_ i d q
    exact ⟨v, h1, h2.ext e p⟩⟩
theorem ER.set {ρ : Env} {σ : St} (h : ER G μ H ρ σ) (i : Nat) {d : D} {v : V} (r : Rep G μ H d v) : ER G μ H (ρ.set i (some d)) (σ.set i (some v)) :=
  ⟨by simp [h.len], fun j e q => by
    by_cases hj : j = i
    · subst hj
      have hlt : j < ρ.length := by
        have := (List.getElem?_eq_some_iff.mp q).1
        simpa using this
      rw [List.getElem?_set_self hlt] at q
      cases q
      exact ⟨v, by rw [List.getElem?_set_self (by rw [← h.len]; exact hlt)], r⟩
    · rw [List.getElem?_set_ne (Ne.symm hj)] at q ⊢
      exact h.at_ j e q⟩
end

/-! ### what comes of a piece of code -/
inductive R (α : Type) where
  | ok (a : α) (M : Store) | ex (c : Str) (fs : Option (List (Str × D))) (M : Store) | no
def R.bind {α β : Type} : R α → (α → Store → R β) → R β
  | .ok a M, g => g a M
  | .ex c fs M, _ => .ex c fs M
  | .no, _ => .no
inductive Out where
  | nx (ρ : Env) (M : Store) | rt (d : D) (M : Store) | bk (ρ : Env) (M : Store) | ct (ρ : Env) (M : Store) | ex (c : Str) (fs : Option (List (Str × D))) (ρ : Env) (M : Store) | no
def Out.bind : Out → (Env → Store → Out) → Out
  | .nx ρ M, g => g ρ M
  | o, _ => o
def R.out {α : Type} (ρ : Env) : R α → (α → Store → Out) → Out
  | .ok a M, g => g a M
  | .ex c fs M, _ => .ex c fs ρ M
  | .no, _ => .no
abbrev RX (α : Type) := Env → Store → R α
abbrev RE := RX D
abbrev RT := RX Bool
abbrev RA := RX (List D)
abbrev RS := Env → Store → Out
@[simp] theorem R.bind_ok {α β : Type} (a : α) (M : Store) (g : α → Store → R β) : (R.ok a M).bind g = g a M := (rfl)
@[simp] theorem R.bind_ex {α β : Type} (c fs M) (g : α → Store → R β) : (R.ex c fs M).bind g = .ex c fs M := (rfl)
@[simp] theorem R.bind_no {α β : Type} (g : α → Store → R β) : (R.no).bind g = .no := (rfl)
@[simp] theorem R.out_ok {α : Type} (ρ : Env) (a : α) (M : Store) (g : α → Store → Out) : (R.ok a M).out ρ g = g a M := (rfl)
@[simp] theorem R.out_ex {α : Type} (ρ : Env) (c fs M) (g : α → Store → Out) : (R.ex c fs M).out ρ g = .ex c fs ρ M := (rfl)
@[simp] theorem R.out_no {α : Type} (ρ : Env) (g : α → Store → Out) : (R.no).out ρ g = .no := (rfl)
@[simp] theorem Out.bind_nx (ρ M) (g : Env → Store → Out) : (Out.nx ρ M).bind g = g ρ M := (rfl)
@[simp] theorem Out.bind_rt (d M) (g : Env → Store → Out) : (Out.rt d M).bind g = .rt d M := (rfl)
@[simp] theorem Out.bind_bk (ρ M) (g : Env → Store → Out) : (Out.bk ρ M).bind g = .bk ρ M := (rfl)
@[simp] theorem Out.bind_ct (ρ M) (g : Env → Store → Out) : (Out.ct ρ M).bind g = .ct ρ M := (rfl)
@[simp] theorem Out.bind_ex (c fs ρ M) (g : Env → Store → Out) : (Out.ex c fs ρ M).bind g = .ex c fs ρ M := (rfl)
@[simp] theorem Out.bind_no (g : Env → Store → Out) : (Out.no).bind g = .no := (rfl)

/-- how an exception's own fields lie -/
def XR (G : Gm) (μ : List Addr) (H : Hp) : Option (List (Str × D)) → Option Addr → Prop
  | none, d => d = none
  | some fs, d => ∃ a gs, d = some a ∧ H a = some (.xd gs) ∧ FsRep G μ H fs gs
/-- the class that a name stands for -/
def cval (G : Gm) (c : Str) : Value := (G.mg c).getD .none
section
variable {α β γ ι κ : Type} (G : Gm) (rel : List Addr → Hp → α → ι → Prop) (W : WX) (μ : List Addr) (σ : St) (H : Hp) (Q : ι → Hp → Prop)
def Fin : R α → Prop
  | .ok d M => ∀ μ' v H', Ext H H' → μ <+: μ' → SR G μ' H' M → rel μ' H' d v → Q v H'
  | .ex c fs M => ∀ μ' H' dx, Ext H H' → μ <+: μ' → SR G μ' H' M → XR G μ' H' fs dx → W (cval G c) dx σ H'
  | .no => False
end
def tX {α ι : Type} (G : Gm) (rel : List Addr → Hp → α → ι → Prop) (W : WX) (f : RX α) (σ : St) (H : Hp) (Q : ι → Hp → Prop) : Prop :=
  ∃ μ ρ M, ER G μ H ρ σ ∧ SR G μ H M ∧ Fin G rel W μ σ H Q (f ρ M)
abbrev tE (G : Gm) (W : WX) (f : RE) : TE := tX G (Rep G) W f
abbrev tT (G : Gm) (W : WX) (f : RT) : TT := tX G (fun _ _ (a b : Bool) => a = b) W f
abbrev tA (G : Gm) (W : WX) (f : RA) : TA := tX G (Reps G) W f
/-- what holds behind the first part: the rest is to come -/
def Go {α β ι κ : Type} (G : Gm) (rel : List Addr → Hp → α → ι → Prop) (rel2 : List Addr → Hp → β → κ → Prop) (W : WX) (g : α → RX β) (σ : St) (Q : κ → Hp → Prop) (v : ι) (H : Hp) : Prop :=
  ∃ μ ρ M a, ER G μ H ρ σ ∧ SR G μ H M ∧ rel μ H a v ∧ Fin G rel2 W μ σ H Q (g a ρ M)
section
variable {α β γ ι κ τ : Type} {G : Gm} {rel : List Addr → Hp → α → ι → Prop} {rel2 : List Addr → Hp → β → κ → Prop} {rel3 : List Addr → Hp → γ → τ → Prop} {W : WX} {μ μ1 : List Addr} {σ : St} {H H1 : Hp} {Q : ι → Hp → Prop} {Q2 : κ → Hp → Prop}
theorem Fin.later {r : R α} (e : Ext H H1) (p : μ <+: μ1) (h : Fin G rel W μ σ H Q r) : Fin G rel W μ1 σ H1 Q r := by
  cases r with
  | ok d M => exact fun μ' v H' e' p' => h μ' v H' (e.trans e') (p.trans p')
  | ex c fs M => exact fun μ' H' dx e' p' => h μ' H' dx (e.trans e') (p.trans p')
  | no => exact h
theorem Fin.mono {r : R α} {Q' : ι → Hp → Prop} (h : Fin G rel W μ σ H Q r) (hq : ∀ v H', Q v H' → Q' v H') : Fin G rel W μ σ H Q' r := by
  cases r with
  | ok d M => exact fun μ' v H' e' p' s r => hq _ _ (h μ' v H' e' p' s r)
  | ex c fs M => exact h
  | no => exact h
theorem tX.bind {f : RX α} {g : α → RX β} (h : tX G rel2 W (fun ρ M => (f ρ M).bind fun a M1 => g a ρ M1) σ H Q2) : tX G rel W f σ H (Go G rel rel2 W g σ Q2) := by
  obtain ⟨μ, ρ, M, hE, hS, hF⟩ := h
  have hF : Fin G rel2 W μ σ H Q2 ((f ρ M).bind fun a M1 => g a ρ M1) := hF
  refine ⟨μ, ρ, M, hE, hS, ?_⟩
  cases q : f ρ M with
  | ok a M1 =>
    rw [q] at hF
    intro μ' v H' e p s r
    exact ⟨μ', ρ, M1, a, hE.ext e p, s, r, Fin.later e p hF⟩
  | ex c fs M1 =>
    rw [q] at hF
    exact hF
  | no =>
    rw [q] at hF
    exact hF
theorem tX.mono {f : RX α} {Q' : ι → Hp → Prop} (h : tX G rel W f σ H Q) (hq : ∀ v H', Q v H' → Q' v H') : tX G rel W f σ H Q' := by
  obtain ⟨μ, ρ, M, hE, hS, hF⟩ := h
  exact ⟨μ, ρ, M, hE, hS, hF.mono hq⟩
/-- what holds behind two parts -/
def Go2 (G : Gm) (rel : List Addr → Hp → α → ι → Prop) (rel2 : List Addr → Hp → β → κ → Prop) (rel3 : List Addr → Hp → γ → τ → Prop) (W : WX) (g : α → β → RX γ) (σ : St) (Q : τ → Hp → Prop) (v : ι) (u : κ) (H : Hp) : Prop :=
  ∃ μ ρ M a b, ER G μ H ρ σ ∧ SR G μ H M ∧ rel μ H a v ∧ rel2 μ H b u ∧ Fin G rel3 W μ σ H Q (g a b ρ M)
theorem Go.bind {f2 : RX β} {g : α → β → RX γ} {Q3 : τ → Hp → Prop} {v : ι} (mono : ∀ μ μ' H H' a v, Ext H H' → μ <+: μ' → rel μ H a v → rel μ' H' a v)
    (h : Go G rel rel3 W (fun a ρ M => (f2 ρ M).bind fun b M2 => g a b ρ M2) σ Q3 v H) : tX G rel2 W f2 σ H (Go2 G rel rel2 rel3 W g σ Q3 v) := by
  obtain ⟨μ, ρ, M, a, hE, hS, ra, hF⟩ := h
  have hF : Fin G rel3 W μ σ H Q3 ((f2 ρ M).bind fun b M2 => g a b ρ M2) := hF
  refine ⟨μ, ρ, M, hE, hS, ?_⟩
  cases q : f2 ρ M with
  | ok b M1 =>
    rw [q] at hF
    intro μ' v H' e p s r
    exact ⟨μ', ρ, M1, a, b, hE.ext e p, s, mono _ _ _ _ _ _ e p ra, r, Fin.later e p hF⟩
  | ex c fs M1 =>
    rw [q] at hF
    exact hF
  | no =>
    rw [q] at hF
    exact hF
end
end Fl

set_option Elab.async false
set_option linter.all false
set_option maxRecDepth 100000
/-! Fl, part B: expressions. -/
namespace Fl
open PySem PySem.Spec L2
set_option autoImplicit false

def gm (X : Cx) : Gm := ⟨X.K, X.mg⟩
theorem PEimp {X : Cx} {e : Expr} {t t' : TE} (h : PE X e t) (w : ∀ σ H Q, t' σ H Q → t σ H Q) : PE X e t' := ⟨fun pins s σ H Q I q => h.run pins s σ H Q I (w σ H Q q)⟩
theorem PTimp {X : Cx} {e : Expr} {t t' : TT} (h : PT X e t) (w : ∀ σ H Q, t' σ H Q → t σ H Q) : PT X e t' := ⟨fun pins s σ H Q I q => h.run pins s σ H Q I (w σ H Q q)⟩
theorem PAimp {X : Cx} {e : List Expr} {t t' : TA} (h : PA X e t) (w : ∀ σ H Q, t' σ H Q → t σ H Q) : PA X e t' := ⟨fun pos pins s σ H Q I q => h.run pos pins s σ H Q I (w σ H Q q)⟩
theorem PWimp {X : Cx} {e : Expr} {t t' : TT} (h : PW X e t) (w : ∀ σ H Q, t' σ H Q → t σ H Q) : PW X e t' := ⟨fun wh pins s σ H Q I q => h.run wh pins s σ H Q I (w σ H Q q)⟩

def ofO {α : Type} : Option (α × Store) → R α
  | some (a, M) => .ok a M
  | none => .no
@[simp] theorem ofO_some {α : Type} (a : α) (M : Store) : ofO (some (a, M)) = .ok a M := (rfl)
@[simp] theorem ofO_none {α : Type} : ofO (none : Option (α × Store)) = .no := (rfl)

/-! ### names, constants -/
def rVar (i : Nat) : RE := fun ρ M => match ρ[i]? with
  | some (some d) => .ok d M
  | _ => .no
def rC (d : D) : RE := fun _ M => .ok d M
section
variable {X : Cx} {W : WX}
theorem i_var (i : Nat) {x : Str} {pos : Pos} (hN : X.N[i]? = some x := by rfl) (hv : Vis X.env.scope x := by first | exact Or.inl rfl | exact Or.inr (Or.inl rfl) | exact Or.inr (Or.inr rfl)) (hd : (x == ("__debug__" : Str)) = false := by decide)
    (hcd : (x == ("__classdict__" : Str)) = false := by decide) : PE X (.Name x pos) (tE (gm X) W (rVar i)) := by
  refine PEimp (pv i hN hv hd hcd) fun σ H Q h => ?_
  obtain ⟨μ, ρ, M, hE, hS, hF⟩ := h
  unfold rVar at hF
  split at hF
  · rename_i d e
    obtain ⟨v, e1, r⟩ := hE.at_ i d e
    exact ⟨v, e1, hF μ v H (.refl H) (List.prefix_refl _) hS r⟩
  · exact hF.elim
theorem rC_of {d : D} {v : V} {σ : St} {H : Hp} {Q : VK} (h : tE (gm X) W (rC d) σ H Q) (r : ∀ μ, Rep (gm X) μ H d v) : Q v H := by
  obtain ⟨μ, ρ, M, hE, hS, hF⟩ := h
  exact hF μ v H (.refl H) (List.prefix_refl _) hS (r μ)
theorem i_int {i : Int} {j pos} : PE X (.Constant (.int i) j pos) (tE (gm X) W (rC (.p (.int i)))) := PEimp pe_int fun σ H Q h => rC_of h fun μ => by simp only [Rep, RepP]
theorem i_bl {b : Bool} {j pos} : PE X (.Constant (.bool b) j pos) (tE (gm X) W (rC (.p (.bl b)))) := PEimp pe_bl fun σ H Q h => rC_of h fun μ => by simp only [Rep, RepP]
theorem i_non {j pos} : PE X (.Constant .none j pos) (tE (gm X) W (rC (.p .non))) := PEimp pe_non fun σ H Q h => rC_of h fun μ => by simp only [Rep, RepP]
theorem i_str {x : Str} {j pos} : PE X (.Constant (.str x) j pos) (tE (gm X) W (rC (.p (.str x)))) := PEimp pe_str fun σ H Q h => rC_of h fun μ => by simp only [Rep, RepP]
/-- a name of the module that stands for the data d -/
structure Cst (G : Gm) (x : Str) (d : D) : Prop where
  is_ : ∃ v u, G.mg x = some u ∧ RelV v u ∧ ∀ μ H, Rep G μ H d v
theorem i_glob {x : Str} {d : D} {pos : Pos} (hg : Gl X x) (c : Cst (gm X) x d) (hd : (x == ("__debug__" : Str)) = false := by decide) : PE X (.Name x pos) (tE (gm X) W (rC d)) := by
  obtain ⟨v, u, h1, h2, h3⟩ := c.is_
  exact PEimp (pe_glob hg h1 h2 hd) fun σ H Q h => rC_of h fun μ => h3 μ H
end

/-! ### operators -/
def OpD (G : Gm) (op : D → D → Store → Option (D × Store)) (r : R2) : Prop :=
  ∀ (μ : List Addr) (H : Hp) (M : Store) (x y : D) (v u : V) (Q : VK) (d : D) (M' : Store), SR G μ H M → Rep G μ H x v → Rep G μ H y u → op x y M = some (d, M') →
    (∀ μ' w H', Ext H H' → μ <+: μ' → SR G μ' H' M' → Rep G μ' H' d w → Q w H') → r v u H Q
def rBin (op : D → D → Store → Option (D × Store)) (fa fb : RE) : RE := fun ρ M => (fa ρ M).bind fun x M1 => (fb ρ M1).bind fun y M2 => ofO (op x y M2)
section
variable {X : Cx} {W : WX} {a b e : Expr} {fa fb : RE} {pos : Pos}
theorem Rep.mono {G : Gm} : ∀ (μ μ' : List Addr) (H H' : Hp) (a : D) (v : V), Ext H H' → μ <+: μ' → Rep G μ H a v → Rep G μ' H' a v := fun _ _ _ _ _ _ e p h => h.ext e p
theorem Reps.mono {G : Gm} : ∀ (μ μ' : List Addr) (H H' : Hp) (a : List D) (v : List V), Ext H H' → μ <+: μ' → Reps G μ H a v → Reps G μ' H' a v := fun _ _ _ _ _ _ e p h => h.ext e p
theorem bin_in {op r} (hd : OpD (gm X) op r) {σ : St} {H : Hp} {Q : VK} (h : tE (gm X) W (rBin op fa fb) σ H Q) : tOp r (tE (gm X) W fa) (tE (gm X) W fb) σ H Q := by
  refine (tX.bind h).mono fun v H1 g1 => ?_
  refine (Go.bind Rep.mono g1).mono fun u H2 g2 => ?_
  obtain ⟨μ, ρ, M, x, y, hE, hS, rx, ry, hF⟩ := g2
  have hF : Fin (gm X) (Rep (gm X)) W μ σ H2 Q (ofO (op x y M)) := hF
  cases q : op x y M with
  | none => rw [q] at hF; exact hF.elim
  | some p =>
    obtain ⟨d, M'⟩ := p
    rw [q] at hF
    exact hd μ H2 M x y v u Q d M' hS rx ry q hF
theorem i_bin {o : Operator} {op r} (ho : OpR X (binaryOp o) r) (hd : OpD (gm X) op r) (ha : PE X a (tE (gm X) W fa)) (hb : PE X b (tE (gm X) W fb)) : PE X (.BinOp a o b pos) (tE (gm X) W (rBin op fa fb)) :=
  PEimp (pe_op ho ha hb) fun _ _ _ h => bin_in hd h
theorem i_cmp {o : CmpOp} {op r} (ho : OpR X (compareOp o) r) (hd : OpD (gm X) op r) (ha : PE X a (tE (gm X) W fa)) (hb : PE X b (tE (gm X) W fb)) (hm : behindInMarks o b = false := by first | exact nomark _ | rfl) : PE X (.Compare a [o] [b] pos) (tE (gm X) W (rBin op fa fb)) :=
  PEimp (pe_cmpR ho ha hb hm) fun _ _ _ h => bin_in hd h
/-- a[b] -/
theorem i_ix {op r} (ho : IxR X r) (hd : OpD (gm X) op r) (ha : PE X a (tE (gm X) W fa)) (hb : PE X b (tE (gm X) W fb)) (hs : PlainIx b := by exact fun _ _ => rfl) : PE X (.Subscript a b pos) (tE (gm X) W (rBin op fa fb)) :=
  PEimp (pe_ix ho ha hb hs) fun _ _ _ h => bin_in hd h
end
/-- a test of a value, without a change -/
def rTst (t : D → Store → Option Bool) (fa : RE) : RT := fun ρ M => (fa ρ M).bind fun x M1 => match t x M1 with
  | some b => .ok b M1
  | none => .no
def asBool : D → Store → Option Bool
  | .p (.bl b), _ => some b
  | _, _ => none
def OpU (G : Gm) (op : D → Store → Option (D × Store)) (r : V → Hp → VK → Prop) : Prop :=
  ∀ (μ : List Addr) (H : Hp) (M : Store) (x : D) (v : V) (Q : VK) (d : D) (M' : Store), SR G μ H M → Rep G μ H x v → op x M = some (d, M') →
    (∀ μ' w H', Ext H H' → μ <+: μ' → SR G μ' H' M' → Rep G μ' H' d w → Q w H') → r v H Q
def rUn (op : D → Store → Option (D × Store)) (fa : RE) : RE := fun ρ M => (fa ρ M).bind fun x M1 => ofO (op x M1)
section
variable {X : Cx} {W : WX} {a b e : Expr} {fa fb : RE} {pos : Pos}
theorem un_in {op r} (hd : OpU (gm X) op r) {σ : St} {H : Hp} {Q : VK} (h : tE (gm X) W (rUn op fa) σ H Q) : tUn r (tE (gm X) W fa) σ H Q := by
  refine (tX.bind h).mono fun v H1 g1 => ?_
  obtain ⟨μ, ρ, M, x, hE, hS, rx, hF⟩ := g1
  have hF : Fin (gm X) (Rep (gm X)) W μ σ H1 Q (ofO (op x M)) := hF
  cases q : op x M with
  | none => rw [q] at hF; exact hF.elim
  | some p =>
    obtain ⟨d, M'⟩ := p
    rw [q] at hF
    exact hd μ H1 M x v Q d M' hS rx q hF
theorem i_un {o : UnaryOp} {op r} (ho : UnR X (unaryOp o) r) (hd : OpU (gm X) op r) (ha : PE X a (tE (gm X) W fa)) : PE X (.UnaryOp o a pos) (tE (gm X) W (rUn op fa)) :=
  PEimp (pe_un ho ha) fun _ _ _ h => un_in hd h
end

/-! ### arithmetic of data -/
def mulOk (i j : Int) : Prop := ((-(2 ^ 64) < i ∧ i < 2 ^ 64) ∨ (-(2 ^ 64) < j ∧ j < 2 ^ 64)) ∨ i.natAbs.log2 + j.natAbs.log2 < 1000000
def divOk (j : Int) : Prop := 0 < j ∧ j.natAbs.log2 < 9000
open Classical in
noncomputable def dAdd : D → D → Store → Option (D × Store)
  | .p (.int i), .p (.int j), M => some (.p (.int (i + j)), M)
  | .p (.str x), .p (.str y), M => if x.length + y.length ≤ sizeLine then some (.p (.str (x ++ y)), M) else none
  | .p (.tup xs), .p (.tup ys), M => if xs.length + ys.length ≤ sizeLine then some (.p (.tup (xs ++ ys)), M) else none
  | .ref l, .ref k, M => (match M[l]?, M[k]? with
    | some (.lst xs), some (.lst ys) => if xs.length + ys.length ≤ sizeLine then some (.ref M.length, M ++ [.lst (xs ++ ys)]) else none
    | _, _ => none)
  | _, _, _ => none
def dSub : D → D → Store → Option (D × Store)
  | .p (.int i), .p (.int j), M => some (.p (.int (i - j)), M)
  | _, _, _ => none
open Classical in
noncomputable def dMul : D → D → Store → Option (D × Store)
  | .p (.int i), .p (.int j), M => if mulOk i j then some (.p (.int (i * j)), M) else none
  | .ref l, .p (.int k), M => (match M[l]? with
    | some (.lst xs) => if -(2 ^ 63) ≤ k ∧ k < 2 ^ 63 ∧ xs.length * k.toNat ≤ sizeLine then some (.ref M.length, M ++ [.lst (List.replicate k.toNat xs).flatten]) else none
    | _ => none)
  | _, _, _ => none
open Classical in
noncomputable def dDiv : D → D → Store → Option (D × Store)
  | .p (.int i), .p (.int j), M => if divOk j then some (.p (.int (i / j)), M) else none
  | _, _, _ => none
open Classical in
noncomputable def dMod : D → D → Store → Option (D × Store)
  | .p (.int i), .p (.int j), M => if j ≠ 0 then some (.p (.int (i.fmod j)), M) else none
  | _, _, _ => none
open Classical in
noncomputable def dPow : D → D → Store → Option (D × Store)
  | .p (.int i), .p (.int j), M => if 0 ≤ j ∧ j ≤ 1000000 ∧ i.natAbs < 2 ^ 64 then some (.p (.int (i ^ j.toNat)), M) else none
  | _, _, _ => none
def dNeg : D → Store → Option (D × Store)
  | .p (.int i), M => some (.p (.int (-i)), M)
  | _, _ => none
theorem RepPs.append {K : PySem.W.Frag} {H : Hp} : ∀ {xs ys : List P} {vs ws : List V}, RepPs K H xs vs → RepPs K H ys ws → RepPs K H (xs ++ ys) (vs ++ ws)
  | [], _, _, _, h, t => by simp only [RepPs] at h; subst h; exact t
  | x :: xs, _, _, _, h, t => by
    simp only [RepPs] at h
    obtain ⟨v, r, rfl, h1, h2⟩ := h
    show RepPs K H (x :: (xs ++ _)) (v :: (r ++ _))
    simp only [RepPs]
    exact ⟨v, _, rfl, h1, RepPs.append h2 t⟩
section
variable {G : Gm} {X : Cx}
theorem Rep.int {μ H i v} : Rep G μ H (.p (.int i)) v ↔ v = .int i := by simp only [Rep, RepP]
theorem Rep.bl {μ H b v} : Rep G μ H (.p (.bl b)) v ↔ v = .bl b := by simp only [Rep, RepP]
theorem Rep.str {μ H b v} : Rep G μ H (.p (.str b)) v ↔ v = .str b := by simp only [Rep, RepP]
theorem Rep.non {μ H v} : Rep G μ H (.p .non) v ↔ v = .non := by simp only [Rep, RepP]
theorem Rep.ptup {μ H xs v} : Rep G μ H (.p (.tup xs)) v ↔ ∃ a vs, v = .ref a ∧ SqT G.K H a vs ∧ RepPs G.K H xs vs := by simp only [Rep, RepP]
theorem Rep.ref {μ H l v} : Rep G μ H (.ref l) v ↔ ∃ a, μ[l]? = some a ∧ v = .ref a := by simp only [Rep]
theorem Rep.tup {μ H xs v} : Rep G μ H (.tup xs) v ↔ ∃ a vs, v = .ref a ∧ SqT G.K H a vs ∧ Reps G μ H xs vs := by simp only [Rep]
/-- a new tuple -/
theorem new_ptup {μ : List Addr} {H : Hp} {M : Store} {xs : List P} {vs : List V} {p : Addr} (hp : H p = none) (r : RepPs G.K H xs vs) : Rep G μ (upd H p (.tup vs)) (.p (.tup xs)) (.ref p) :=
  Rep.ptup.mpr ⟨p, vs, rfl, SqT.of upd_same, r.ext (.new hp)⟩
theorem new_ref {μ : List Addr} {H : Hp} {M : Store} (S : SR G μ H M) (p : Addr) : Rep G (μ ++ [p]) H (.ref M.length) (.ref p) :=
  Rep.ref.mpr ⟨p, by rw [← S.len]; simp, rfl⟩
theorem new_lst {μ : List Addr} {H : Hp} {M : Store} {xs : List D} {vs : List V} {p : Addr} (S : SR G μ H M) (hp : H p = none) (r : Reps G μ H xs vs) : SR G (μ ++ [p]) (upd H p (.lst vs)) (M ++ [.lst xs]) :=
  S.new hp ⟨vs, upd_same, r.ext (.new hp) (List.prefix_append _ _)⟩
theorem SR.lst {μ : List Addr} {H : Hp} {M : Store} (S : SR G μ H M) {l : Nat} {a : Addr} {xs : List D} (h : μ[l]? = some a) (e : M[l]? = some (.lst xs)) : ∃ vs, H a = some (.lst vs) ∧ Reps G μ H xs vs := S.obj l a _ h e
abbrev rAddU (K : PySem.W.Frag) : R2 := fun x y H Q => (∃ i j, x = .int i ∧ y = .int j ∧ Q (.int (i + j)) H) ∨ (∃ i j, x = .str i ∧ y = .str j ∧ i.length + j.length ≤ sizeLine ∧ Q (.str (i ++ j)) H) ∨ rCatA K x y H Q ∨ rCat x y H Q
theorem o_add : OpR X (binaryOp .Add) (rAddU X.K) := op_add.or (op_add_str.or (op_catA.or op_cat))
theorem d_add : OpD G dAdd (rAddU G.K) := by
  intro μ H M x y v u Q d M' S rx ry q k
  unfold dAdd at q
  split at q
  · cases q
    rw [Rep.int] at rx ry
    exact .inl ⟨_, _, rx, ry, k μ _ H (.refl H) (List.prefix_refl _) S (Rep.int.mpr rfl)⟩
  · split at q
    · rename_i h
      cases q
      rw [Rep.str] at rx ry
      exact .inr (.inl ⟨_, _, rx, ry, h, k μ _ H (.refl H) (List.prefix_refl _) S (Rep.str.mpr rfl)⟩)
    · cases q
  · split at q
    · rename_i h
      cases q
      rw [Rep.ptup] at rx ry
      obtain ⟨a, vs, rfl, ha, hx⟩ := rx
      obtain ⟨b, ws, rfl, hb, hy⟩ := ry
      refine .inr (.inr (.inl ⟨a, b, vs, ws, rfl, rfl, ha, hb, by rw [← hx.length, ← hy.length]; exact h, fun e => ?_, fun e e2 => ?_, fun e e2 p hp => ?_⟩))
      · subst e
        refine k μ _ H (.refl H) (List.prefix_refl _) S (Rep.ptup.mpr ⟨b, ws, rfl, hb, ?_⟩)
        rw [List.eq_nil_of_length_eq_zero hx.length]
        exact hy
      · subst e2
        refine k μ _ H (.refl H) (List.prefix_refl _) S (Rep.ptup.mpr ⟨a, vs, rfl, ha, ?_⟩)
        rw [List.eq_nil_of_length_eq_zero hy.length, List.append_nil]
        exact hx
      · exact k μ _ _ (.new hp) (List.prefix_refl _) (S.grow hp) (new_ptup (M := M) hp (hx.append hy))
    · cases q
  · rename_i l m
    split at q
    · rename_i xs ys e1 e2
      split at q
      · rename_i h
        cases q
        rw [Rep.ref] at rx ry
        obtain ⟨a, h1, rfl⟩ := rx
        obtain ⟨b, h2, rfl⟩ := ry
        obtain ⟨vs, h3, h4⟩ := S.lst h1 e1
        obtain ⟨ws, h5, h6⟩ := S.lst h2 e2
        refine .inr (.inr (.inr ⟨a, b, vs, ws, rfl, rfl, h3, h5, by rw [← h4.length, ← h6.length]; exact h, fun p hp => ?_⟩))
        exact k (μ ++ [p]) _ _ (.new hp) (List.prefix_append _ _) (new_lst S hp (h4.app h6)) (new_ref S p)
      · cases q
    · cases q
  · cases q
theorem d_sub : OpD G dSub (rI0 fun i j => .int (i - j)) := by
  intro μ H M x y v u Q d M' S rx ry q k
  unfold dSub at q
  split at q
  · cases q
    rw [Rep.int] at rx ry
    exact ⟨_, _, rx, ry, k μ _ H (.refl H) (List.prefix_refl _) S (Rep.int.mpr rfl)⟩
  · cases q
theorem o_mul : OpR X (binaryOp .Mult) (fun x y H Q => rI CMul (fun i j => .int (i * j)) x y H Q ∨ rI CMulW (fun i j => .int (i * j)) x y H Q ∨ rRep x y H Q) := op_mul.or (op_mulW.or op_rep)
theorem d_mul : OpD G dMul (fun x y H Q => rI CMul (fun i j => .int (i * j)) x y H Q ∨ rI CMulW (fun i j => .int (i * j)) x y H Q ∨ rRep x y H Q) := by
  intro μ H M x y v u Q d M' S rx ry q k
  unfold dMul at q
  split at q
  · split at q
    · rename_i h
      cases q
      rw [Rep.int] at rx ry
      rcases h with h | h
      · exact .inl ⟨_, _, rx, ry, h, k μ _ H (.refl H) (List.prefix_refl _) S (Rep.int.mpr rfl)⟩
      · exact .inr (.inl ⟨_, _, rx, ry, h, k μ _ H (.refl H) (List.prefix_refl _) S (Rep.int.mpr rfl)⟩)
    · cases q
  · split at q
    · rename_i xs e1
      split at q
      · rename_i h
        cases q
        rw [Rep.int] at ry
        rw [Rep.ref] at rx
        obtain ⟨a, h1, rfl⟩ := rx
        obtain ⟨vs, h3, h4⟩ := S.lst h1 e1
        refine .inr (.inr ⟨a, _, vs, rfl, ry, h3, h.1, h.2.1, by rw [← h4.length]; exact h.2.2, fun p hp => ?_⟩)
        have rep : ∀ n : Nat, Reps G μ H (List.replicate n xs).flatten (List.replicate n vs).flatten := fun n => by
          induction n with
          | zero => exact .nil
          | succ n ih => rw [List.replicate_succ, List.replicate_succ, List.flatten_cons, List.flatten_cons]; exact h4.app ih
        exact k (μ ++ [p]) _ _ (.new hp) (List.prefix_append _ _) (new_lst S hp (rep _)) (new_ref S p)
      · cases q
    · cases q
  · cases q
theorem d_div : OpD G dDiv (rI CDivW fun i j => .int (i / j)) := by
  intro μ H M x y v u Q d M' S rx ry q k
  unfold dDiv at q
  split at q
  · split at q
    · rename_i h
      cases q
      rw [Rep.int] at rx ry
      exact ⟨_, _, rx, ry, h, k μ _ H (.refl H) (List.prefix_refl _) S (Rep.int.mpr rfl)⟩
    · cases q
  · cases q
theorem d_mod : OpD G dMod (rI (fun _ j => j ≠ 0) fun i j => .int (i.fmod j)) := by
  intro μ H M x y v u Q d M' S rx ry q k
  unfold dMod at q
  split at q
  · split at q
    · rename_i h
      cases q
      rw [Rep.int] at rx ry
      exact ⟨_, _, rx, ry, h, k μ _ H (.refl H) (List.prefix_refl _) S (Rep.int.mpr rfl)⟩
    · cases q
  · cases q
theorem d_pow : OpD G dPow (rI CPow fun i j => .int (i ^ j.toNat)) := by
  intro μ H M x y v u Q d M' S rx ry q k
  unfold dPow at q
  split at q
  · split at q
    · rename_i h
      cases q
      rw [Rep.int] at rx ry
      exact ⟨_, _, rx, ry, h, k μ _ H (.refl H) (List.prefix_refl _) S (Rep.int.mpr rfl)⟩
    · cases q
  · cases q
theorem d_neg : OpU G dNeg (rU fun i => .int (-i)) := by
  intro μ H M x v Q d M' S rx q k
  unfold dNeg at q
  split at q
  · cases q
    rw [Rep.int] at rx
    exact ⟨_, rx, k μ _ H (.refl H) (List.prefix_refl _) S (Rep.int.mpr rfl)⟩
  · cases q
end
end Fl

set_option Elab.async false
set_option linter.all false
set_option maxRecDepth 100000
/-! Fl, part C: equality of data. -/
namespace Fl
open PySem PySem.Spec L2 PySem.SeqAt
set_option autoImplicit false

mutual
def P.eqv : P → P → Bool
  | .non, .non => true
  | .bl a, .bl b => a == b
  | .bl a, .int j => (if a then 1 else 0) == j
  | .int i, .bl b => i == (if b then 1 else 0)
  | .int i, .int j => i == j
  | .str x, .str y => x == y
  | .tup xs, .tup ys => P.eqvs xs ys
  | .non, .bl _ | .non, .int _ | .non, .str _ | .non, .tup _ => false
  | .bl _, .non | .bl _, .str _ | .bl _, .tup _ => false
  | .int _, .non | .int _, .str _ | .int _, .tup _ => false
  | .str _, .non | .str _, .bl _ | .str _, .int _ | .str _, .tup _ => false
  | .tup _, .non | .tup _, .bl _ | .tup _, .int _ | .tup _, .str _ => false
def P.eqvs : List P → List P → Bool
  | [], [] => true
  | x :: xs, y :: ys => P.eqv x y && P.eqvs xs ys
  | [], _ :: _ => false
  | _ :: _, [] => false
end
mutual
def P.depth : P → Nat
  | .tup xs => P.depths xs + 1
  | .non => 0
  | .bl _ => 0
  | .int _ => 0
  | .str _ => 0
def P.depths : List P → Nat
  | [] => 0
  | x :: xs => max (P.depth x) (P.depths xs)
end
mutual
theorem P.eqv_refl : ∀ x : P, P.eqv x x = true
  | .non => rfl
  | .bl b => by simp [P.eqv]
  | .int i => by simp [P.eqv]
  | .str x => by simp [P.eqv]
  | .tup xs => by rw [P.eqv]; exact P.eqvs_refl xs
theorem P.eqvs_refl : ∀ xs : List P, P.eqvs xs xs = true
  | [] => rfl
  | x :: xs => by rw [P.eqvs, P.eqv_refl x, P.eqvs_refl xs]; rfl
end
abbrev pairP (xs ys : List P) (j : Nat) : Bool := P.eqv (xs.getD j .non) (ys.getD j .non)
theorem P.eqvs_eq : ∀ xs ys : List P, ((List.range (min xs.length ys.length)).all (pairP xs ys) && xs.length == ys.length) = P.eqvs xs ys
  | [], [] => rfl
  | [], _ :: _ => by simp [P.eqvs]
  | _ :: _, [] => by simp [P.eqvs]
  | x :: xs, y :: ys => by
    have ih := P.eqvs_eq xs ys
    have e1 : min (x :: xs).length (y :: ys).length = min xs.length ys.length + 1 := by simp only [List.length_cons]; omega
    have e2 : ((x :: xs).length == (y :: ys).length) = (xs.length == ys.length) := by simp
    have e3 : (List.range (min xs.length ys.length + 1)).all (pairP (x :: xs) (y :: ys)) = (P.eqv x y && (List.range (min xs.length ys.length)).all (pairP xs ys)) := by
      rw [List.range_succ_eq_map, List.all_cons, List.all_map]
      first | rfl | simp [pairP, Function.comp_def]
    rw [e1, e2, e3, P.eqvs, ← ih, Bool.and_assoc]
section
variable {X : Cx} {pins : List (Addr × Obj)} {σ : St} {H : Hp} {s : Shared}
mutual
theorem RepP.inj (I : Inv X pins σ H s) : ∀ (x y : P) (v : V), RepP X.K H x v → RepP X.K H y v → x = y
  | .non, y, v, h, h' => by
    simp only [RepP] at h; subst h
    cases y <;> simp [RepP] at h'; rfl
  | .bl b, y, v, h, h' => by
    simp only [RepP] at h; subst h
    cases y <;> simp [RepP] at h'; rw [h']
  | .int b, y, v, h, h' => by
    simp only [RepP] at h; subst h
    cases y <;> simp [RepP] at h'; rw [h']
  | .str b, y, v, h, h' => by
    simp only [RepP] at h; subst h
    cases y <;> simp [RepP] at h'; rw [h']
  | .tup xs, y, v, h, h' => by
    simp only [RepP] at h
    obtain ⟨a, vs, rfl, h1, h2⟩ := h
    cases y with
    | tup ys =>
      simp only [RepP] at h'
      obtain ⟨b, ws, e, h3, h4⟩ := h'
      cases e
      rw [← I.tuple_inj h1 h3] at h4
      rw [RepPs.inj I xs ys vs h2 h4]
    | _ => simp [RepP] at h'
theorem RepPs.inj (I : Inv X pins σ H s) : ∀ (xs ys : List P) (vs : List V), RepPs X.K H xs vs → RepPs X.K H ys vs → xs = ys
  | [], ys, vs, h, h' => by
    simp only [RepPs] at h; subst h
    cases ys with
    | nil => rfl
    | cons y ys => simp [RepPs] at h'
  | x :: xs, ys, vs, h, h' => by
    simp only [RepPs] at h
    obtain ⟨v, r, rfl, h1, h2⟩ := h
    cases ys with
    | nil => simp [RepPs] at h'
    | cons y ys =>
      simp only [RepPs] at h'
      obtain ⟨v', r', e, h3, h4⟩ := h'
      cases e
      rw [RepP.inj I x y v h1 h3, RepPs.inj I xs ys r h2 h4]
end
theorem tup_at (I : Inv X pins σ H s) {a : Addr} {vs : List V} {xs : List P} (h : SqT X.K H a vs) (r : RepPs X.K H xs vs) : ∃ its : List Value, Vals vs its ∧ s.heap.IsTuple a its.toArray ∧ its.toArray.size = xs.length := by
  obtain ⟨its, rv, p, _⟩ := I.tuple h
  exact ⟨its, rv, p, by simp [← rv.length, ← r.length]⟩
theorem room1 {A : Around} {m n : Nat} (h : A.units + min (m + 1) (n + 1) < cLine) : A.units < cLine := by omega
mutual
theorem eqAt_P (I : Inv X pins σ H s) : ∀ (x y : P) (A : Around) (v u : V) (a b : Value), RepP X.K H x v → RepP X.K H y u → RelV v a → RelV u b → A.units + min x.depth y.depth < cLine → A.units < cLine → EqAt A s a b (P.eqv x y)
  | .non, y, A, v, u, a, b, hx, hy, ra, rb, hu, h0 => by
    simp only [RepP] at hx; subst hx; cases ra
    cases y with
    | non => simp only [RepP] at hy; subst hy; cases rb; exact EqAt.same _
    | bl c => simp only [RepP] at hy; subst hy; cases rb; exact EqAt.none_bool c
    | int c => simp only [RepP] at hy; subst hy; obtain ⟨t, rfl⟩ := rb; exact EqAt.none_int c t
    | str c => simp only [RepP] at hy; subst hy; obtain ⟨t, rfl⟩ := rb; exact EqAt.none_str c t
    | tup ys =>
      simp only [RepP] at hy
      obtain ⟨l, ws, rfl, k1, k2⟩ := hy
      cases rb
      obtain ⟨its, _, p, _⟩ := tup_at I k1 k2
      exact EqAt.none_tuple p h0
  | .bl x, y, A, v, u, a, b, hx, hy, ra, rb, hu, h0 => by
    simp only [RepP] at hx; subst hx; cases ra
    cases y with
    | non => simp only [RepP] at hy; subst hy; cases rb; exact EqAt.bool_none x
    | bl c => simp only [RepP] at hy; subst hy; cases rb; exact EqAt.bool_bool x c
    | int c => simp only [RepP] at hy; subst hy; obtain ⟨t, rfl⟩ := rb; exact EqAt.bool_int x c t
    | str c => simp only [RepP] at hy; subst hy; obtain ⟨t, rfl⟩ := rb; exact EqAt.bool_str x c t
    | tup ys =>
      simp only [RepP] at hy
      obtain ⟨l, ws, rfl, k1, k2⟩ := hy
      cases rb
      obtain ⟨its, _, p, _⟩ := tup_at I k1 k2
      exact EqAt.bool_tuple x p h0
  | .int x, y, A, v, u, a, b, hx, hy, ra, rb, hu, h0 => by
    simp only [RepP] at hx; subst hx; obtain ⟨tx, rfl⟩ := ra
    cases y with
    | non => simp only [RepP] at hy; subst hy; cases rb; exact EqAt.int_none x tx
    | bl c => simp only [RepP] at hy; subst hy; cases rb; exact EqAt.int_bool x tx c
    | int c => simp only [RepP] at hy; subst hy; obtain ⟨t, rfl⟩ := rb; exact EqAt.int_int x tx c t
    | str c => simp only [RepP] at hy; subst hy; obtain ⟨t, rfl⟩ := rb; exact EqAt.int_str x tx c t
    | tup ys =>
      simp only [RepP] at hy
      obtain ⟨l, ws, rfl, k1, k2⟩ := hy
      cases rb
      obtain ⟨its, _, p, _⟩ := tup_at I k1 k2
      exact EqAt.int_tuple x tx p h0
  | .str x, y, A, v, u, a, b, hx, hy, ra, rb, hu, h0 => by
    simp only [RepP] at hx; subst hx; obtain ⟨tx, rfl⟩ := ra
    cases y with
    | non => simp only [RepP] at hy; subst hy; cases rb; exact EqAt.str_none x tx
    | bl c => simp only [RepP] at hy; subst hy; cases rb; exact EqAt.str_bool x tx c
    | int c => simp only [RepP] at hy; subst hy; obtain ⟨t, rfl⟩ := rb; exact EqAt.str_int x tx c t
    | str c => simp only [RepP] at hy; subst hy; obtain ⟨t, rfl⟩ := rb; exact EqAt.str_str x tx c t
    | tup ys =>
      simp only [RepP] at hy
      obtain ⟨l, ws, rfl, k1, k2⟩ := hy
      cases rb
      obtain ⟨its, _, p, _⟩ := tup_at I k1 k2
      exact EqAt.str_tuple x tx p h0
  | .tup xs, y, A, v, u, a, b, hx, hy, ra, rb, hu, h0 => by
    simp only [RepP] at hx
    obtain ⟨l, vs, rfl, h1, h2⟩ := hx
    cases ra
    obtain ⟨its, rv, p, n1⟩ := tup_at I h1 h2
    cases y with
    | non => simp only [RepP] at hy; subst hy; cases rb; exact EqAt.tuple_none p h0
    | bl c => simp only [RepP] at hy; subst hy; cases rb; exact EqAt.tuple_bool c p h0
    | int c => simp only [RepP] at hy; subst hy; obtain ⟨t, rfl⟩ := rb; exact EqAt.tuple_int c t p h0
    | str c => simp only [RepP] at hy; subst hy; obtain ⟨t, rfl⟩ := rb; exact EqAt.tuple_str c t p h0
    | tup ys =>
      simp only [RepP] at hy
      obtain ⟨m, ws, rfl, k1, k2⟩ := hy
      cases rb
      obtain ⟨its2, rw2, p2, n2⟩ := tup_at I k1 k2
      rw [P.eqv]
      by_cases hll : l = m
      · subst hll
        rw [← I.tuple_inj h1 k1] at k2
        rw [RepPs.inj I xs ys vs h2 k2, P.eqvs_refl]
        exact EqAt.same _
      · rw [← P.eqvs_eq xs ys, ← n1, ← n2]
        have hu' : A.units + min (P.depths xs + 1) (P.depths ys + 1) < cLine := by simpa only [P.depth] using hu
        refine EqAt.of_refs hll (RcAt.tuples p p2 h0 fun j j1 j2 => ?_)
        have e1 : A.in1.units = A.units + 1 := by first | rfl | simp [Around.in1]
        have := eqAt_Ps I xs ys A.in1 vs ws its its2 h2 k2 rv rw2 (by rw [e1]; omega) (by rw [e1]; omega) j (by simpa using j1) (by simpa using j2)
        simpa using this
theorem eqAt_Ps (I : Inv X pins σ H s) : ∀ (xs ys : List P) (A : Around) (vs us : List V) (as bs : List Value), RepPs X.K H xs vs → RepPs X.K H ys us → Vals vs as → Vals us bs → A.units + min (P.depths xs) (P.depths ys) < cLine → A.units < cLine →
    ∀ j (h1 : j < as.length) (h2 : j < bs.length), EqAt A s as[j] bs[j] (pairP xs ys j)
  | [], ys, A, vs, us, as, bs, hx, hy, ra, rb, hu, h0, j, h1, h2 => by
    simp only [RepPs] at hx; subst hx; cases ra; exact absurd h1 (Nat.not_lt_zero _)
  | _ :: _, [], A, vs, us, as, bs, hx, hy, ra, rb, hu, h0, j, h1, h2 => by
    simp only [RepPs] at hy; subst hy; cases rb; exact absurd h2 (Nat.not_lt_zero _)
  | x :: xs, y :: ys, A, vs, us, as, bs, hx, hy, ra, rb, hu, h0, j, h1, h2 => by
    simp only [RepPs] at hx hy
    obtain ⟨v, r, rfl, hx1, hx2⟩ := hx
    obtain ⟨u, r', rfl, hy1, hy2⟩ := hy
    simp only [P.depths] at hu
    cases ra with
    | cons q qs =>
      cases rb with
      | cons q' qs' =>
        cases j with
        | zero => exact eqAt_P I x y A v u _ _ hx1 hy1 q q' (by omega) h0
        | succ j => exact eqAt_Ps I xs ys A r r' _ _ hx2 hy2 qs qs' (by omega) h0 j (Nat.lt_of_succ_lt_succ h1) (Nat.lt_of_succ_lt_succ h2)
end
theorem rcAt_P (I : Inv X pins σ H s) (x y : P) (A : Around) (v u : V) (a b : Value) (hx : RepP X.K H x v) (hy : RepP X.K H y u) (ra : RelV v a) (rb : RelV u b) (hu : A.units + min x.depth y.depth < cLine) (h0 : A.units < cLine) : RcAt A s a b (P.eqv x y) := by
  cases x with
  | non =>
    simp only [RepP] at hx; subst hx; cases ra
    cases y with
    | non => simp only [RepP] at hy; subst hy; cases rb; exact RcAt.none_none
    | bl c => simp only [RepP] at hy; subst hy; cases rb; exact RcAt.none_bool c
    | int c => simp only [RepP] at hy; subst hy; obtain ⟨t, rfl⟩ := rb; exact RcAt.none_int c t
    | str c => simp only [RepP] at hy; subst hy; obtain ⟨t, rfl⟩ := rb; exact RcAt.none_str c t
    | tup ys =>
      simp only [RepP] at hy
      obtain ⟨l, ws, rfl, k1, k2⟩ := hy
      cases rb
      obtain ⟨its, _, p, _⟩ := tup_at I k1 k2
      exact RcAt.none_tuple p h0
  | bl x =>
    simp only [RepP] at hx; subst hx; cases ra
    cases y with
    | non => simp only [RepP] at hy; subst hy; cases rb; exact RcAt.bool_none x
    | bl c => simp only [RepP] at hy; subst hy; cases rb; exact RcAt.bool_bool x c
    | int c => simp only [RepP] at hy; subst hy; obtain ⟨t, rfl⟩ := rb; exact RcAt.bool_int x c t
    | str c => simp only [RepP] at hy; subst hy; obtain ⟨t, rfl⟩ := rb; exact RcAt.bool_str x c t
    | tup ys =>
      simp only [RepP] at hy
      obtain ⟨l, ws, rfl, k1, k2⟩ := hy
      cases rb
      obtain ⟨its, _, p, _⟩ := tup_at I k1 k2
      exact RcAt.bool_tuple x p h0
  | int x =>
    simp only [RepP] at hx; subst hx; obtain ⟨tx, rfl⟩ := ra
    cases y with
    | non => simp only [RepP] at hy; subst hy; cases rb; exact RcAt.int_none x tx
    | bl c => simp only [RepP] at hy; subst hy; cases rb; exact RcAt.int_bool x tx c
    | int c => simp only [RepP] at hy; subst hy; obtain ⟨t, rfl⟩ := rb; exact RcAt.int_int x tx c t
    | str c => simp only [RepP] at hy; subst hy; obtain ⟨t, rfl⟩ := rb; exact RcAt.int_str x tx c t
    | tup ys =>
      simp only [RepP] at hy
      obtain ⟨l, ws, rfl, k1, k2⟩ := hy
      cases rb
      obtain ⟨its, _, p, _⟩ := tup_at I k1 k2
      exact RcAt.int_tuple x tx p h0
  | str x =>
    simp only [RepP] at hx; subst hx; obtain ⟨tx, rfl⟩ := ra
    cases y with
    | non => simp only [RepP] at hy; subst hy; cases rb; exact RcAt.str_none x tx
    | bl c => simp only [RepP] at hy; subst hy; cases rb; exact RcAt.str_bool x tx c
    | int c => simp only [RepP] at hy; subst hy; obtain ⟨t, rfl⟩ := rb; exact RcAt.str_int x tx c t
    | str c => simp only [RepP] at hy; subst hy; obtain ⟨t, rfl⟩ := rb; exact RcAt.str_str x tx c t
    | tup ys =>
      simp only [RepP] at hy
      obtain ⟨l, ws, rfl, k1, k2⟩ := hy
      cases rb
      obtain ⟨its, _, p, _⟩ := tup_at I k1 k2
      exact RcAt.str_tuple x tx p h0
  | tup xs =>
    simp only [RepP] at hx
    obtain ⟨l, vs, rfl, h1, h2⟩ := hx
    cases ra
    obtain ⟨its, rv, p, n1⟩ := tup_at I h1 h2
    cases y with
    | non => simp only [RepP] at hy; subst hy; cases rb; exact RcAt.tuple_none p h0
    | bl c => simp only [RepP] at hy; subst hy; cases rb; exact RcAt.tuple_bool c p h0
    | int c => simp only [RepP] at hy; subst hy; obtain ⟨t, rfl⟩ := rb; exact RcAt.tuple_int c t p h0
    | str c => simp only [RepP] at hy; subst hy; obtain ⟨t, rfl⟩ := rb; exact RcAt.tuple_str c t p h0
    | tup ys =>
      simp only [RepP] at hy
      obtain ⟨m, ws, rfl, k1, k2⟩ := hy
      cases rb
      obtain ⟨its2, rw2, p2, n2⟩ := tup_at I k1 k2
      have hu' : A.units + min (P.depths xs + 1) (P.depths ys + 1) < cLine := by simpa only [P.depth] using hu
      rw [P.eqv, ← P.eqvs_eq xs ys, ← n1, ← n2]
      refine RcAt.tuples p p2 h0 fun j j1 j2 => ?_
      have e1 : A.in1.units = A.units + 1 := by first | rfl | simp [Around.in1]
      have := eqAt_Ps I xs ys A.in1 vs ws its its2 h2 k2 rv rw2 (by rw [e1]; omega) (by rw [e1]; omega) j (by simpa using j1) (by simpa using j2)
      simpa using this
end
end Fl

set_option Elab.async false
set_option linter.all false
set_option maxRecDepth 100000
/-! Fl, part D: comparisons, tests, displays. -/
namespace Fl
open PySem PySem.Spec L2 PySem.SeqAt
set_option autoImplicit false
section
variable {X : Cx} {pins : List (Addr × Obj)} {σ : St} {H : Hp} {s : Shared}
theorem rcNeAt_P (I : Inv X pins σ H s) (x y : P) (A : Around) (v u : V) (a b : Value) (hx : RepP X.K H x v) (hy : RepP X.K H y u) (ra : RelV v a) (rb : RelV u b) (hu : A.units + min x.depth y.depth < cLine) (h0 : A.units < cLine) : RcNeAt A s a b (!P.eqv x y) := by
  cases x with
  | non =>
    simp only [RepP] at hx; subst hx; cases ra
    cases y with
    | non => simp only [RepP] at hy; subst hy; cases rb; exact RcNeAt.none_none
    | bl c => simp only [RepP] at hy; subst hy; cases rb; exact RcNeAt.none_bool c
    | int c => simp only [RepP] at hy; subst hy; obtain ⟨t, rfl⟩ := rb; exact RcNeAt.none_int c t
    | str c => simp only [RepP] at hy; subst hy; obtain ⟨t, rfl⟩ := rb; exact RcNeAt.none_str c t
    | tup ys =>
      simp only [RepP] at hy
      obtain ⟨l, ws, rfl, k1, k2⟩ := hy
      cases rb
      obtain ⟨its, _, p, _⟩ := tup_at I k1 k2
      exact RcNeAt.none_tuple p h0
  | bl x =>
    simp only [RepP] at hx; subst hx; cases ra
    cases y with
    | non => simp only [RepP] at hy; subst hy; cases rb; exact RcNeAt.bool_none x
    | bl c => simp only [RepP] at hy; subst hy; cases rb; exact RcNeAt.bool_bool x c
    | int c => simp only [RepP] at hy; subst hy; obtain ⟨t, rfl⟩ := rb; exact RcNeAt.bool_int x c t
    | str c => simp only [RepP] at hy; subst hy; obtain ⟨t, rfl⟩ := rb; exact RcNeAt.bool_str x c t
    | tup ys =>
      simp only [RepP] at hy
      obtain ⟨l, ws, rfl, k1, k2⟩ := hy
      cases rb
      obtain ⟨its, _, p, _⟩ := tup_at I k1 k2
      exact RcNeAt.bool_tuple x p h0
  | int x =>
    simp only [RepP] at hx; subst hx; obtain ⟨tx, rfl⟩ := ra
    cases y with
    | non => simp only [RepP] at hy; subst hy; cases rb; exact RcNeAt.int_none x tx
    | bl c => simp only [RepP] at hy; subst hy; cases rb; exact RcNeAt.int_bool x tx c
    | int c => simp only [RepP] at hy; subst hy; obtain ⟨t, rfl⟩ := rb; exact RcNeAt.int_int x tx c t
    | str c => simp only [RepP] at hy; subst hy; obtain ⟨t, rfl⟩ := rb; exact RcNeAt.int_str x tx c t
    | tup ys =>
      simp only [RepP] at hy
      obtain ⟨l, ws, rfl, k1, k2⟩ := hy
      cases rb
      obtain ⟨its, _, p, _⟩ := tup_at I k1 k2
      exact RcNeAt.int_tuple x tx p h0
  | str x =>
    simp only [RepP] at hx; subst hx; obtain ⟨tx, rfl⟩ := ra
    cases y with
    | non => simp only [RepP] at hy; subst hy; cases rb; exact RcNeAt.str_none x tx
    | bl c => simp only [RepP] at hy; subst hy; cases rb; exact RcNeAt.str_bool x tx c
    | int c => simp only [RepP] at hy; subst hy; obtain ⟨t, rfl⟩ := rb; exact RcNeAt.str_int x tx c t
    | str c => simp only [RepP] at hy; subst hy; obtain ⟨t, rfl⟩ := rb; exact RcNeAt.str_str x tx c t
    | tup ys =>
      simp only [RepP] at hy
      obtain ⟨l, ws, rfl, k1, k2⟩ := hy
      cases rb
      obtain ⟨its, _, p, _⟩ := tup_at I k1 k2
      exact RcNeAt.str_tuple x tx p h0
  | tup xs =>
    simp only [RepP] at hx
    obtain ⟨l, vs, rfl, h1, h2⟩ := hx
    cases ra
    obtain ⟨its, rv, p, n1⟩ := tup_at I h1 h2
    cases y with
    | non => simp only [RepP] at hy; subst hy; cases rb; exact RcNeAt.tuple_none p h0
    | bl c => simp only [RepP] at hy; subst hy; cases rb; exact RcNeAt.tuple_bool c p h0
    | int c => simp only [RepP] at hy; subst hy; obtain ⟨t, rfl⟩ := rb; exact RcNeAt.tuple_int c t p h0
    | str c => simp only [RepP] at hy; subst hy; obtain ⟨t, rfl⟩ := rb; exact RcNeAt.tuple_str c t p h0
    | tup ys =>
      simp only [RepP] at hy
      obtain ⟨m, ws, rfl, k1, k2⟩ := hy
      cases rb
      obtain ⟨its2, rw2, p2, n2⟩ := tup_at I k1 k2
      have hu' : A.units + min (P.depths xs + 1) (P.depths ys + 1) < cLine := by simpa only [P.depth] using hu
      rw [P.eqv, ← P.eqvs_eq xs ys, ← n1, ← n2]
      refine RcNeAt.tuples p p2 h0 fun j j1 j2 => ?_
      have e1 : A.in1.units = A.units + 1 := by first | rfl | simp [Around.in1]
      have := eqAt_Ps I xs ys A.in1 vs ws its its2 h2 k2 rv rw2 (by rw [e1]; omega) (by rw [e1]; omega) j (by simpa using j1) (by simpa using j2)
      simpa using this

/-- the item of a row that a value is -/
theorem any_P (I : Inv X pins σ H s) {x : P} {b : Value} : ∀ {xs : List P} {vs : List V} {its : List Value}, RepPs X.K H xs vs → Vals vs its →
    ∃ e : Value → Bool, its.any e = xs.any (fun z => P.eqv z x) ∧ ∀ y ∈ its, ∃ z v, z ∈ xs ∧ RepP X.K H z v ∧ RelV v y ∧ e y = P.eqv z x := by
  classical
  intro xs vs its h r
  have key : ∀ (xs : List P) (vs : List V) (its : List Value), RepPs X.K H xs vs → Vals vs its → ∀ e : Value → Bool, (∀ z v y, RepP X.K H z v → RelV v y → e y = P.eqv z x) →
      its.any e = xs.any (fun z => P.eqv z x) ∧ ∀ y ∈ its, ∃ z v, z ∈ xs ∧ RepP X.K H z v ∧ RelV v y ∧ e y = P.eqv z x := by
    intro xs
    induction xs with
    | nil =>
      intro vs its h r e he
      simp only [RepPs] at h; subst h; cases r
      exact ⟨rfl, fun y hy => nomatch hy⟩
    | cons z xs ih =>
      intro vs its h r e he
      simp only [RepPs] at h
      obtain ⟨v, vr, rfl, h1, h2⟩ := h
      cases r with
      | cons q qs =>
        obtain ⟨a1, a2⟩ := ih _ _ h2 qs e he
        refine ⟨by rw [List.any_cons, List.any_cons, a1, he z v _ h1 q], fun y hy => ?_⟩
        rcases List.mem_cons.mp hy with rfl | hy
        · exact ⟨z, v, List.mem_cons_self, h1, q, he z v _ h1 q⟩
        · obtain ⟨z', v', hz, k⟩ := a2 y hy
          exact ⟨z', v', List.mem_cons_of_mem _ hz, k⟩
  let e : Value → Bool := fun y => decide (∃ z v, RepP X.K H z v ∧ RelV v y ∧ P.eqv z x = true)
  refine ⟨e, key xs vs its h r e fun z v y h1 h2 => ?_⟩
  show decide (∃ z v, RepP X.K H z v ∧ RelV v y ∧ P.eqv z x = true) = P.eqv z x
  cases q : P.eqv z x with
  | true => exact decide_eq_true ⟨z, v, h1, h2, q⟩
  | false =>
    refine decide_eq_false ?_
    rintro ⟨z', v', g1, g2, g3⟩
    have := g2.inj h2
    subst this
    rw [RepP.inj I z' z v' g1 h1, q] at g3
    cases g3
end
/-! ### comparisons -/
def dOk (x y : P) : Prop := min x.depth y.depth ≤ 100
instance (x y : P) : Decidable (dOk x y) := by unfold dOk; infer_instance
def dEq : D → D → Store → Option (D × Store)
  | .p x, .p y, M => if dOk x y then some (.p (.bl (P.eqv x y)), M) else none
  | _, _, _ => none
def dNe : D → D → Store → Option (D × Store)
  | .p x, .p y, M => if dOk x y then some (.p (.bl (!P.eqv x y)), M) else none
  | _, _, _ => none
def rEqP (K : PySem.W.Frag) : R2 := fun v u H Q => ∃ x y, RepP K H x v ∧ RepP K H y u ∧ dOk x y ∧ Q (.bl (P.eqv x y)) H
def rNeP (K : PySem.W.Frag) : R2 := fun v u H Q => ∃ x y, RepP K H x v ∧ RepP K H y u ∧ dOk x y ∧ Q (.bl (!P.eqv x y)) H
section
variable {X : Cx} {G : Gm}
theorem o_eq (hu : X.A.units + 120 < cLine) : OpR X (compareOp .Eq) (rEqP X.K) := by
  intro pins s σ H v u a b Q I ra rb h
  obtain ⟨x, y, hx, hy, hd, q⟩ := h
  unfold dOk at hd
  exact rcAt_P I x y X.A v u a b hx hy ra rb (by omega) (by omega) _ _ _ _ ⟨.bl _, H, I, rfl, q⟩
theorem o_ne (hu : X.A.units + 120 < cLine) : OpR X (compareOp .NotEq) (rNeP X.K) := by
  intro pins s σ H v u a b Q I ra rb h
  obtain ⟨x, y, hx, hy, hd, q⟩ := h
  unfold dOk at hd
  exact rcNeAt_P I x y X.A v u a b hx hy ra rb (by omega) (by omega) _ _ _ _ ⟨.bl _, H, I, rfl, q⟩
theorem d_eq : OpD G dEq (rEqP G.K) := by
  intro μ H M x y v u Q d M' S rx ry q k
  unfold dEq at q
  split at q
  · split at q
    · rename_i h
      cases q
      simp only [Rep] at rx ry
      exact ⟨_, _, rx, ry, h, k μ _ H (.refl H) (List.prefix_refl _) S (Rep.bl.mpr rfl)⟩
    · cases q
  · cases q
theorem d_ne : OpD G dNe (rNeP G.K) := by
  intro μ H M x y v u Q d M' S rx ry q k
  unfold dNe at q
  split at q
  · split at q
    · rename_i h
      cases q
      simp only [Rep] at rx ry
      exact ⟨_, _, rx, ry, h, k μ _ H (.refl H) (List.prefix_refl _) S (Rep.bl.mpr rfl)⟩
    · cases q
  · cases q
end
/-- ints, texts -/
def dOrd (p : Int → Int → Bool) (q : List Nat → List Nat → Bool) : D → D → Store → Option (D × Store)
  | .p (.int i), .p (.int j), M => some (.p (.bl (p i j)), M)
  | .p (.str x), .p (.str y), M => some (.p (.bl (q x.cps.toList y.cps.toList)), M)
  | _, _, _ => none
abbrev rOrd (p : Int → Int → Bool) (q : List Nat → List Nat → Bool) : R2 := fun x y H Q => (∃ i j, x = .int i ∧ y = .int j ∧ Q (.bl (p i j)) H) ∨ (∃ i j, x = .str i ∧ y = .str j ∧ Q (.bl (q i.cps.toList j.cps.toList)) H)
def dLt := dOrd (fun i j => decide (i < j)) (fun x y => decide (x < y))
def dLe := dOrd (fun i j => decide (i ≤ j)) (fun x y => !decide (y < x))
def dGt := dOrd (fun i j => decide (j < i)) (fun x y => decide (y < x))
def dGe := dOrd (fun i j => decide (j ≤ i)) (fun x y => !decide (x < y))
section
variable {X : Cx} {G : Gm}
theorem d_ord {p q} : OpD G (dOrd p q) (rOrd p q) := by
  intro μ H M x y v u Q d M' S rx ry e k
  unfold dOrd at e
  split at e
  · cases e
    rw [Rep.int] at rx ry
    exact .inl ⟨_, _, rx, ry, k μ _ H (.refl H) (List.prefix_refl _) S (Rep.bl.mpr rfl)⟩
  · cases e
    rw [Rep.str] at rx ry
    exact .inr ⟨_, _, rx, ry, k μ _ H (.refl H) (List.prefix_refl _) S (Rep.bl.mpr rfl)⟩
  · cases e
theorem o_lt : OpR X (compareOp .Lt) (rOrd (fun i j => decide (i < j)) (fun x y => decide (x < y))) := op_lt.or op_lt_str
theorem o_le : OpR X (compareOp .LtE) (rOrd (fun i j => decide (i ≤ j)) (fun x y => !decide (y < x))) := op_le.or op_le_str
theorem o_gt : OpR X (compareOp .Gt) (rOrd (fun i j => decide (j < i)) (fun x y => decide (y < x))) := op_gt.or op_gt_str
theorem o_ge : OpR X (compareOp .GtE) (rOrd (fun i j => decide (j ≤ i)) (fun x y => !decide (x < y))) := op_ge.or op_ge_str
end
/-- x is None -/
def isNon : D → Bool
  | .p .non => true
  | _ => false
def dIsN : D → D → Store → Option (D × Store)
  | x, .p .non, M => some (.p (.bl (isNon x)), M)
  | _, _, _ => none
def dNotN : D → D → Store → Option (D × Store)
  | x, .p .non, M => some (.p (.bl (!isNon x)), M)
  | _, _, _ => none
section
variable {X : Cx} {G : Gm}
theorem isNon_ok {μ H} {x : D} {v : V} (r : Rep G μ H x v) : isNon x = decide (v = .non) := by
  cases x with
  | p x =>
    cases x with
    | non => rw [Rep.non] at r; subst r; rfl
    | bl b => rw [Rep.bl] at r; subst r; rfl
    | int b => rw [Rep.int] at r; subst r; rfl
    | str b => rw [Rep.str] at r; subst r; rfl
    | tup b => rw [Rep.ptup] at r; obtain ⟨_, _, rfl, _⟩ := r; rfl
  | ref l => rw [Rep.ref] at r; obtain ⟨_, _, rfl⟩ := r; rfl
  | tup b => rw [Rep.tup] at r; obtain ⟨_, _, rfl, _⟩ := r; rfl
  | gl x => simp only [Rep] at r; obtain ⟨_, _, rfl⟩ := r; rfl
theorem d_isN : OpD G dIsN (fun x y H Q => y = .non ∧ Q (.bl (decide (x = .non))) H) := by
  intro μ H M x y v u Q d M' S rx ry e k
  unfold dIsN at e
  split at e
  · cases e
    rw [Rep.non] at ry
    refine ⟨ry, ?_⟩
    rw [← isNon_ok rx]
    exact k μ _ H (.refl H) (List.prefix_refl _) S (Rep.bl.mpr rfl)
  · cases e
theorem d_notN : OpD G dNotN (fun x y H Q => y = .non ∧ Q (.bl (!decide (x = .non))) H) := by
  intro μ H M x y v u Q d M' S rx ry e k
  unfold dNotN at e
  split at e
  · cases e
    rw [Rep.non] at ry
    refine ⟨ry, ?_⟩
    rw [← isNon_ok rx]
    exact k μ _ H (.refl H) (List.prefix_refl _) S (Rep.bl.mpr rfl)
  · cases e
end
/-! ### membership -/
def allP : List D → Option (List P)
  | [] => some []
  | .p x :: xs => (allP xs).map fun r => x :: r
  | _ :: _ => none
theorem allP_map (xs : List P) : allP (xs.map D.p) = some xs := by
  induction xs with
  | nil => rfl
  | cons x xs ih => rw [List.map_cons, allP, ih]; rfl
theorem allP_eq : ∀ {xs : List D} {ys : List P}, allP xs = some ys → xs = ys.map D.p
  | [], ys, h => by simp only [allP, Option.some.injEq] at h; subst h; rfl
  | .p x :: xs, ys, h => by
    simp only [allP, Option.map_eq_some_iff] at h
    obtain ⟨r, h1, rfl⟩ := h
    rw [allP_eq h1]
    rfl
  | .ref _ :: _, _, h => by simp [allP] at h
  | .tup _ :: _, _, h => by simp [allP] at h
  | .gl _ :: _, _, h => by simp [allP] at h
/-- the items of a pure tuple, of a list of pure things -/
def rowP : D → Store → Option (List P)
  | .p (.tup xs), _ => some xs
  | .ref l, M => (match M[l]? with
    | some (.lst xs) => allP xs
    | some (.ro xs) => allP xs
    | _ => none)
  | _, _ => none
def dIn : D → D → Store → Option (D × Store)
  | .p x, c, M => (match rowP c M with
    | some xs => if x.depth ≤ 100 then some (.p (.bl (xs.any fun z => P.eqv z x)), M) else none
    | none => none)
  | _, _, _ => none
def dNotIn : D → D → Store → Option (D × Store)
  | .p x, c, M => (match rowP c M with
    | some xs => if x.depth ≤ 100 then some (.p (.bl (!xs.any fun z => P.eqv z x)), M) else none
    | none => none)
  | _, _, _ => none
def rInP (K : PySem.W.Frag) (neg : Bool) : R2 := fun v u H Q => ∃ x a vs xs, RepP K H x v ∧ u = .ref a ∧ (SqT K H a vs ∨ SqL K H a vs) ∧ RepPs K H xs vs ∧ x.depth ≤ 100 ∧ Q (.bl (if neg then !xs.any fun z => P.eqv z x else xs.any fun z => P.eqv z x)) H
section
variable {X : Cx} {G : Gm}
theorem rowP_ok {μ H M} {c : D} {u : V} {xs : List P} (S : SR G μ H M) (r : Rep G μ H c u) (h : rowP c M = some xs) : ∃ a vs, u = .ref a ∧ (SqT G.K H a vs ∨ SqL G.K H a vs) ∧ RepPs G.K H xs vs := by
  unfold rowP at h
  split at h
  · cases h
    rw [Rep.ptup] at r
    obtain ⟨a, vs, rfl, h1, h2⟩ := r
    exact ⟨a, vs, rfl, .inl h1, h2⟩
  · rw [Rep.ref] at r
    obtain ⟨a, h1, rfl⟩ := r
    split at h
    · rename_i ys e
      obtain ⟨vs, h2, h3⟩ := S.lst h1 e
      rw [allP_eq h] at h3
      exact ⟨a, vs, rfl, .inr (SqL.of h2), h3.to_P⟩
    · rename_i ys e
      obtain ⟨vs, h2, h3⟩ := S.obj _ a _ h1 e
      rw [allP_eq h] at h3
      exact ⟨a, vs, rfl, .inr h2.sql, h3.to_P⟩
    · cases h
  · cases h
theorem d_in : OpD G dIn (rInP G.K false) := by
  intro μ H M x y v u Q d M' S rx ry e k
  unfold dIn at e
  split at e
  · split at e
    · rename_i xs h
      split at e
      · rename_i hd
        cases e
        obtain ⟨a, vs, h1, h2, h3⟩ := rowP_ok S ry h
        simp only [Rep] at rx
        exact ⟨_, a, vs, xs, rx, h1, h2, h3, hd, k μ _ H (.refl H) (List.prefix_refl _) S (Rep.bl.mpr rfl)⟩
      · cases e
    · cases e
  · cases e
theorem d_notIn : OpD G dNotIn (rInP G.K true) := by
  intro μ H M x y v u Q d M' S rx ry e k
  unfold dNotIn at e
  split at e
  · split at e
    · rename_i xs h
      split at e
      · rename_i hd
        cases e
        obtain ⟨a, vs, h1, h2, h3⟩ := rowP_ok S ry h
        simp only [Rep] at rx
        exact ⟨_, a, vs, xs, rx, h1, h2, h3, hd, k μ _ H (.refl H) (List.prefix_refl _) S (Rep.bl.mpr rfl)⟩
      · cases e
    · cases e
  · cases e
theorem o_in_aux (hu : X.A.units + 120 < cLine) {pins : List (Addr × Obj)} {s : Shared} {σ : St} {H : Hp} (I : Inv X pins σ H s) {x : P} {v : V} {b : Value} {vs : List V} {xs : List P} {its : List Value} (hx : RepP X.K H x v) (rb : RelV v b) (hxs : RepPs X.K H xs vs) (r : Vals vs its) (hd : x.depth ≤ 100) :
    ∃ e : Value → Bool, its.toArray.any e = xs.any (fun z => P.eqv z x) ∧ ∀ y, y ∈ its.toArray → EqAt X.A.in1 s y b (e y) := by
  obtain ⟨e, h1, h2⟩ := any_P (b := b) (x := x) I hxs r
  refine ⟨e, by simpa using h1, fun y hy => ?_⟩
  obtain ⟨z, w, hz, g1, g2, g3⟩ := h2 y (by simpa using hy)
  rw [g3]
  have e1 : X.A.in1.units = X.A.units + 1 := by first | rfl | simp [Around.in1]
  exact eqAt_P I z x X.A.in1 w v y b g1 hx g2 rb (by rw [e1]; omega) (by rw [e1]; omega)
theorem o_in (hu : X.A.units + 120 < cLine) : OpR X (compareOp .In) (rInP X.K false) := by
  intro pins s σ H v u b c Q I rb rc h
  obtain ⟨x, a, vs, xs, hx, rfl, hq, hxs, hd, q⟩ := h
  cases rc
  rcases hq with hq | hq
  · obtain ⟨its, r, p, _⟩ := I.tuple hq
    obtain ⟨e, h1, h2⟩ := o_in_aux hu I hx rb hxs r hd
    exact in_tupleAt e (show s.heap.IsTuple a its.toArray from p) h2 (by rw [h1]; exact ⟨.bl _, H, I, rfl, q⟩)
  · obtain ⟨its, r, p, _⟩ := I.list hq
    obtain ⟨e, h1, h2⟩ := o_in_aux hu I hx rb hxs r hd
    exact in_listAt e p.isList h2 (by rw [h1]; exact ⟨.bl _, H, I, rfl, q⟩)
theorem o_notIn (hu : X.A.units + 120 < cLine) : OpR X (compareOp .NotIn) (rInP X.K true) := by
  intro pins s σ H v u b c Q I rb rc h
  obtain ⟨x, a, vs, xs, hx, rfl, hq, hxs, hd, q⟩ := h
  cases rc
  rcases hq with hq | hq
  · obtain ⟨its, r, p, _⟩ := I.tuple hq
    obtain ⟨e, h1, h2⟩ := o_in_aux hu I hx rb hxs r hd
    exact notIn_tupleAt e (show s.heap.IsTuple a its.toArray from p) h2 (by rw [h1]; exact ⟨.bl _, H, I, rfl, q⟩)
  · obtain ⟨its, r, p, _⟩ := I.list hq
    obtain ⟨e, h1, h2⟩ := o_in_aux hu I hx rb hxs r hd
    exact notIn_listAt e p.isList h2 (by rw [h1]; exact ⟨.bl _, H, I, rfl, q⟩)
end
end Fl

set_option Elab.async false
set_option linter.all false
set_option maxRecDepth 100000
/-! Fl, part E: tests, displays, arguments, calls, items, slices, methods. -/
namespace Fl
open PySem PySem.Spec L2
set_option autoImplicit false

/-! ### truth -/
def truthD : D → Store → Option Bool
  | .p .non, _ => some false
  | .p (.bl b), _ => some b
  | .p (.int i), _ => some (i != 0)
  | .p (.str x), _ => if x.length ≤ sizeLine then some ((x.length : Int) != 0) else none
  | .p (.tup xs), _ => some (!xs.isEmpty)
  | .tup xs, _ => some (!xs.isEmpty)
  | .ref l, M => (match M[l]? with
    | some (.lst xs) => some (!xs.isEmpty)
    | some (.ro xs) => some (!xs.isEmpty)
    | _ => none)
  | .gl _, _ => none
theorem isE_len {α β : Type} {xs : List α} {ys : List β} (h : xs.length = ys.length) : xs.isEmpty = ys.isEmpty := by
  cases xs <;> cases ys <;> simp_all
section
variable {X : Cx} {G : Gm} {W : WX} {a b e c : Expr} {fa fb fc : RE} {ta tb : RT} {pos : Pos} {rest : List Expr}
theorem truthD_ok {μ H M} {x : D} {v : V} {k : Bool} (S : SR G μ H M) (r : Rep G μ H x v) (h : truthD x M = some k) : TruV G.K v H k := by
  cases x with
  | p x =>
    cases x with
    | non => rw [Rep.non] at r; subst r; cases h; rfl
    | bl b => rw [Rep.bl] at r; subst r; cases h; rfl
    | int b => rw [Rep.int] at r; subst r; cases h; rfl
    | str b =>
      rw [Rep.str] at r; subst r
      have h : (if b.length ≤ sizeLine then some ((b.length : Int) != 0) else none) = some k := h
      split at h
      · rename_i hl; cases h; exact ⟨hl, rfl⟩
      · cases h
    | tup b =>
      rw [Rep.ptup] at r; obtain ⟨_, vs, rfl, h1, h2⟩ := r
      cases h
      exact .inr (.inl ⟨vs, h1, by rw [isE_len h2.length]⟩)
  | ref l =>
    rw [Rep.ref] at r; obtain ⟨p, h1, rfl⟩ := r
    have h : (match M[l]? with
      | some (.lst xs) => some (!xs.isEmpty)
      | some (.ro xs) => some (!xs.isEmpty)
      | _ => none) = some k := h
    split at h
    · rename_i xs e
      obtain ⟨vs, h2, h3⟩ := S.lst h1 e
      cases h
      exact .inl ⟨vs, SqL.of h2, by rw [isE_len h3.length]⟩
    · rename_i xs e
      obtain ⟨vs, h2, h3⟩ := S.obj _ p _ h1 e
      cases h
      exact .inl ⟨vs, h2.sql, by rw [isE_len h3.length]⟩
    · cases h
  | tup b =>
    rw [Rep.tup] at r; obtain ⟨_, vs, rfl, h1, h2⟩ := r
    cases h
    exact .inr (.inl ⟨vs, h1, by rw [isE_len h2.length]⟩)
  | gl x => cases h
theorem tst_in {t : D → Store → Option Bool} {σ : St} {H : Hp} {Q : Bool → Hp → Prop} (h : tT (gm X) W (rTst t fa) σ H Q) :
    tE (gm X) W fa σ H fun v H1 => ∃ μ M x k, SR (gm X) μ H1 M ∧ Rep (gm X) μ H1 x v ∧ t x M = some k ∧ Q k H1 := by
  refine (tX.bind h).mono fun v H1 g1 => ?_
  obtain ⟨μ, ρ, M, x, hE, hS, rx, hF⟩ := g1
  have hF : Fin (gm X) (fun _ _ (a b : Bool) => a = b) W μ σ H1 Q (match t x M with | some b => .ok b M | none => .no) := hF
  cases q : t x M with
  | none => rw [q] at hF; exact hF.elim
  | some k =>
    rw [q] at hF
    exact ⟨μ, M, x, k, hS, rx, q, hF μ k H1 (.refl _) (List.prefix_refl _) hS rfl⟩
/-- if x: -/
theorem i_truth (ha : PE X a (tE (gm X) W fa)) (he : ∀ whole, isTrue a X.env whole = (do let v ← whole; standAt a.pos; holding [v] (truthy v)) := by exact fun _ => rfl) : PT X a (tT (gm X) W (rTst truthD fa)) :=
  PTimp (pt_truth ha he) fun σ H Q h => (tst_in h).mono fun v H1 ⟨μ, M, x, k, hS, rx, q, w⟩ => ⟨k, truthD_ok hS rx q, w⟩
theorem asBool_ok {x : D} {M : Store} {k : Bool} (h : asBool x M = some k) : x = .p (.bl k) := by
  unfold asBool at h
  split at h
  · cases h; rfl
  · cases h
/-- if x < y: -/
theorem i_tcmp {o : CmpOp} {op r} (ho : OpR X (compareOp o) r) (hd : OpD (gm X) op r) (ha : PE X a (tE (gm X) W fa)) (hb : PE X b (tE (gm X) W fb)) (hm : behindInMarks o b = false := by first | exact nomark _ | rfl) :
    PT X (.Compare a [o] [b] pos) (tT (gm X) W (rTst asBool (rBin op fa fb))) :=
  PTimp (pt_cmpR ho ha hb hm) fun σ H Q h => by
    have h1 : tE (gm X) W (rBin op fa fb) σ H fun v H1 => ∃ k, v = .bl k ∧ Q k H1 := (tst_in h).mono fun v H1 ⟨μ, M, x, k, hS, rx, q, w⟩ => by
      rw [asBool_ok q, Rep.bl] at rx
      exact ⟨k, rx, w⟩
    exact bin_in (X := X) hd h1
/-! ### and, or, not -/
def rtAnd (f g : RT) : RT := fun ρ M => (f ρ M).bind fun b M1 => match b with
  | true => g ρ M1
  | false => .ok false M1
def rtOr (f g : RT) : RT := fun ρ M => (f ρ M).bind fun b M1 => match b with
  | true => .ok true M1
  | false => g ρ M1
def rtNot (f : RT) : RT := fun ρ M => (f ρ M).bind fun b M1 => .ok (!b) M1
/-- behind a test: the test's answer is known -/
theorem tT_bind {β κ : Type} {rel2 : List Addr → Hp → β → κ → Prop} {f : RT} {g : Bool → RX β} {σ : St} {H : Hp} {Q : κ → Hp → Prop} (h : tX G rel2 W (fun ρ M => (f ρ M).bind fun b M1 => g b ρ M1) σ H Q) :
    tT G W f σ H fun b H1 => tX G rel2 W (g b) σ H1 Q :=
  (tX.bind h).mono fun b H1 ⟨μ, ρ, M, c, hE, hS, e, hF⟩ => by
    subst e
    exact ⟨μ, ρ, M, hE, hS, hF⟩
theorem tT_ok {f : RT} {σ : St} {H : Hp} {Q : Bool → Hp → Prop} {k : Bool} (h : tT G W (fun _ M => .ok k M) σ H Q) : Q k H := by
  obtain ⟨μ, ρ, M, hE, hS, hF⟩ := h
  exact hF μ k H (.refl H) (List.prefix_refl _) hS rfl
theorem i_and1 (ha : PT X a (tT (gm X) W ta)) : PW X (.BoolOp .And [a] pos) (tT (gm X) W ta) := pw_and1 ha
theorem i_or1 (ha : PT X a (tT (gm X) W ta)) : PW X (.BoolOp .Or [a] pos) (tT (gm X) W ta) := pw_or1 ha
theorem i_tand (ha : PT X a (tT (gm X) W ta)) (hb : PW X (.BoolOp .And (b :: rest) pos) (tT (gm X) W tb)) : PW X (.BoolOp .And (a :: b :: rest) pos) (tT (gm X) W (rtAnd ta tb)) :=
  PWimp (pw_and ha hb) fun σ H Q h => by
    have h1 := tT_bind (g := fun b ρ M1 => match b with | true => tb ρ M1 | false => .ok false M1) h
    refine h1.mono fun k H1 w => ?_
    cases k with
    | true => exact w
    | false => exact tT_ok (f := ta) w
theorem i_tor (ha : PT X a (tT (gm X) W ta)) (hb : PW X (.BoolOp .Or (b :: rest) pos) (tT (gm X) W tb)) : PW X (.BoolOp .Or (a :: b :: rest) pos) (tT (gm X) W (rtOr ta tb)) :=
  PWimp (pw_or ha hb) fun σ H Q h => by
    have h1 := tT_bind (g := fun b ρ M1 => match b with | true => .ok true M1 | false => tb ρ M1) h
    refine h1.mono fun k H1 w => ?_
    cases k with
    | true => exact tT_ok (f := ta) w
    | false => exact w
theorem i_tnot (ha : PT X a (tT (gm X) W ta)) : PT X (.UnaryOp .Not a pos) (tT (gm X) W (rtNot ta)) :=
  PTimp (pt_not ha) fun σ H Q h => by
    have h1 := tT_bind (g := fun b ρ M1 => .ok (!b) M1) h
    exact h1.mono fun k H1 w => tT_ok (f := ta) w
/-- as values -/
def rNot (f : RT) : RE := fun ρ M => (f ρ M).bind fun b M1 => .ok (.p (.bl (!b))) M1
def rIf (t : RT) (f g : RE) : RE := fun ρ M => (t ρ M).bind fun b M1 => match b with
  | true => f ρ M1
  | false => g ρ M1
def rAnd (f g : RE) : RE := fun ρ M => (f ρ M).bind fun x M1 => match truthD x M1 with
  | some true => g ρ M1
  | some false => .ok x M1
  | none => .no
def rOr (f g : RE) : RE := fun ρ M => (f ρ M).bind fun x M1 => match truthD x M1 with
  | some true => .ok x M1
  | some false => g ρ M1
  | none => .no
theorem i_one {op : BoolOp} (ha : PE X a (tE (gm X) W fa)) : PE X (.BoolOp op [a] pos) (tE (gm X) W fa) := pe_one ha
theorem i_and (ha : PE X a (tE (gm X) W fa)) (hb : PE X (.BoolOp .And (b :: rest) pos) (tE (gm X) W fb)) : PE X (.BoolOp .And (a :: b :: rest) pos) (tE (gm X) W (rAnd fa fb)) :=
  PEimp (pe_andT ha hb) fun σ H Q h => by
    refine (tX.bind (g := fun x ρ M1 => match truthD x M1 with | some true => fb ρ M1 | some false => .ok x M1 | none => .no) h).mono fun v H1 ⟨μ, ρ, M, x, hE, hS, rx, hF⟩ => ?_
    have hF : Fin (gm X) (Rep (gm X)) W μ σ H1 Q (match truthD x M with | some true => fb ρ M | some false => .ok x M | none => .no) := hF
    cases q : truthD x M with
    | none => rw [q] at hF; exact hF.elim
    | some k =>
      rw [q] at hF
      refine ⟨k, truthD_ok hS rx q, ?_⟩
      cases k with
      | true => exact iteT ⟨μ, ρ, M, hE, hS, hF⟩
      | false => exact iteF (hF μ v H1 (.refl _) (List.prefix_refl _) hS rx)
theorem i_or (ha : PE X a (tE (gm X) W fa)) (hb : PE X (.BoolOp .Or (b :: rest) pos) (tE (gm X) W fb)) : PE X (.BoolOp .Or (a :: b :: rest) pos) (tE (gm X) W (rOr fa fb)) :=
  PEimp (pe_orT ha hb) fun σ H Q h => by
    refine (tX.bind (g := fun x ρ M1 => match truthD x M1 with | some true => .ok x M1 | some false => fb ρ M1 | none => .no) h).mono fun v H1 ⟨μ, ρ, M, x, hE, hS, rx, hF⟩ => ?_
    have hF : Fin (gm X) (Rep (gm X)) W μ σ H1 Q (match truthD x M with | some true => .ok x M | some false => fb ρ M | none => .no) := hF
    cases q : truthD x M with
    | none => rw [q] at hF; exact hF.elim
    | some k =>
      rw [q] at hF
      refine ⟨k, truthD_ok hS rx q, ?_⟩
      cases k with
      | true => exact iteT (hF μ v H1 (.refl _) (List.prefix_refl _) hS rx)
      | false => exact iteF ⟨μ, ρ, M, hE, hS, hF⟩
/-- not x as a value -/
theorem i_not (ha : PE X a (tE (gm X) W fa)) : PE X (.UnaryOp .Not a pos) (tE (gm X) W (rNot (rTst truthD fa))) :=
  PEimp (pe_notT ha) fun σ H Q h => by
    have h1 : tT (gm X) W (rTst truthD fa) σ H _ := tT_bind (rel2 := Rep (gm X)) (g := fun b ρ M1 => R.ok (D.p (P.bl (!b))) M1) h
    refine (tst_in h1).mono fun v H1 ⟨μ, M, x, k, hS, rx, q, w⟩ => ⟨k, truthD_ok hS rx q, ?_⟩
    obtain ⟨μ, ρ, M, hE, hS, hF⟩ := w
    exact hF μ _ H1 (.refl _) (List.prefix_refl _) hS (Rep.bl.mpr rfl)
theorem i_ifx (hc : PT X c (tT (gm X) W ta)) (ha : PE X a (tE (gm X) W fa)) (hb : PE X b (tE (gm X) W fb)) : PE X (.IfExp c a b pos) (tE (gm X) W (rIf ta fa fb)) :=
  PEimp (pe_ifExp hc ha hb) fun σ H Q h => by
    have h1 := tT_bind (g := fun b ρ M1 => match b with | true => fa ρ M1 | false => fb ρ M1) h
    refine h1.mono fun k H1 w => ?_
    cases k with
    | true => exact iteT w
    | false => exact iteF w
/-! ### chains a < b < c -/
def rChain (op op' : D → D → Store → Option (D × Store)) (fa fb fc : RE) : RE := fun ρ M => (fa ρ M).bind fun x M1 => (fb ρ M1).bind fun y M2 => match op x y M2 with
  | some (.p (.bl true), M3) => (fc ρ M3).bind fun z M4 => ofO (op' y z M4)
  | some (.p (.bl false), M3) => .ok (.p (.bl false)) M3
  | _ => .no
theorem chain_in {op op' r r'} (hd : OpD (gm X) op r) (hd' : OpD (gm X) op' r') {σ : St} {H : Hp} {Q : VK} (h : tE (gm X) W (rChain op op' fa fb fc) σ H Q) : tChain r r' (tE (gm X) W fa) (tE (gm X) W fb) (tE (gm X) W fc) σ H Q := by
  refine (tX.bind h).mono fun v H1 g1 => ?_
  refine (Go.bind Rep.mono g1).mono fun u H2 g2 => ?_
  obtain ⟨μ, ρ, M, x, y, hE, hS, rx, ry, hF⟩ := g2
  have hF : Fin (gm X) (Rep (gm X)) W μ σ H2 Q (match op x y M with
    | some (.p (.bl true), M3) => (fc ρ M3).bind fun z M4 => ofO (op' y z M4)
    | some (.p (.bl false), M3) => .ok (.p (.bl false)) M3
    | _ => .no) := hF
  cases q : op x y M with
  | none => rw [q] at hF; exact hF.elim
  | some p =>
    obtain ⟨d, M'⟩ := p
    rw [q] at hF
    refine hd μ H2 M x y v u _ d M' hS rx ry q fun μ3 w H3 e3 p3 S3 r3 => ?_
    split at hF
    · rename_i M3 e
      cases e
      rw [Rep.bl] at r3
      refine ⟨true, r3, iteT ?_⟩
      have g3 : Go (gm X) (Rep (gm X)) (Rep (gm X)) W (fun y ρ M3 => (fc ρ M3).bind fun z M4 => ofO (op' y z M4)) σ Q u H3 := ⟨μ3, ρ, M', y, hE.ext e3 p3, S3, ry.ext e3 p3, Fin.later e3 p3 hF⟩
      refine (Go.bind Rep.mono g3).mono fun t H4 g4 => ?_
      obtain ⟨μ4, ρ4, M4, y4, z4, hE4, hS4, ry4, rz4, hF4⟩ := g4
      have hF4 : Fin (gm X) (Rep (gm X)) W μ4 σ H4 Q (ofO (op' y4 z4 M4)) := hF4
      cases q4 : op' y4 z4 M4 with
      | none => rw [q4] at hF4; exact hF4.elim
      | some p4 =>
        obtain ⟨d4, M5⟩ := p4
        rw [q4] at hF4
        exact hd' μ4 H4 M4 y4 z4 u t Q d4 M5 hS4 ry4 rz4 q4 hF4
    · rename_i M3 e
      cases e
      rw [Rep.bl] at r3
      exact ⟨false, r3, iteF (hF μ3 _ H3 e3 p3 S3 (Rep.bl.mpr rfl))⟩
    · exact hF.elim
theorem i_chain {o o' : CmpOp} {op op' r r'} (ho : OpR X (compareOp o) r) (hd : OpD (gm X) op r) (ho' : OpR X (compareOp o') r') (hd' : OpD (gm X) op' r') (ha : PE X a (tE (gm X) W fa)) (hb : PE X b (tE (gm X) W fb)) (hc : PE X c (tE (gm X) W fc))
    (hm : lastMarks [o, o'] [b, c] = false := by with_unfolding_all rfl) : PE X (.Compare a [o, o'] [b, c] pos) (tE (gm X) W (rChain op op' fa fb fc)) :=
  PEimp (pe_chain ho ho' ha hb hc hm) fun _ _ _ h => chain_in hd hd' h
theorem i_tchain {o o' : CmpOp} {op op' r r'} (ho : OpR X (compareOp o) r) (hd : OpD (gm X) op r) (ho' : OpR X (compareOp o') r') (hd' : OpD (gm X) op' r') (ha : PE X a (tE (gm X) W fa)) (hb : PE X b (tE (gm X) W fb)) (hc : PE X c (tE (gm X) W fc))
    (hm : lastMarks [o, o'] [b, c] = false := by with_unfolding_all rfl) : PT X (.Compare a [o, o'] [b, c] pos) (tT (gm X) W (rTst asBool (rChain op op' fa fb fc))) :=
  PTimp (pt_chain ho ho' ha hb hc hm) fun σ H Q h => by
    have h1 : tE (gm X) W (rChain op op' fa fb fc) σ H fun v H1 => ∃ k, v = .bl k ∧ Q k H1 := (tst_in h).mono fun v H1 ⟨μ, M, x, k, hS, rx, q, w⟩ => by
      rw [asBool_ok q, Rep.bl] at rx
      exact ⟨k, rx, w⟩
    exact chain_in (X := X) hd hd' h1
end
/-! ### arguments, displays -/
def rNil : RA := fun _ M => .ok [] M
def rCons (f : RE) (g : RA) : RA := fun ρ M => (f ρ M).bind fun x M1 => (g ρ M1).bind fun xs M2 => .ok (x :: xs) M2
def mkTup (xs : List D) : D := match allP xs with
  | some ys => .p (.tup ys)
  | none => .tup xs
def rTup (f : RA) : RE := fun ρ M => (f ρ M).bind fun xs M1 => if xs.length ≤ 1000 then .ok (mkTup xs) M1 else .no
def rLst (f : RA) : RE := fun ρ M => (f ρ M).bind fun xs M1 => if xs.length ≤ 1000 then .ok (.ref M1.length) (M1 ++ [.lst xs]) else .no
theorem small_line {n : Nat} (h : n ≤ 1000) : n ≤ sizeLine := by rw [sizeLine_eq]; omega
section
variable {X : Cx} {G : Gm} {W : WX} {a b e c : Expr} {fa fb fc : RE} {fs : RA} {pos : Pos} {es : List Expr}
theorem mkTup_ok {μ H} {xs : List D} {vs : List V} {p : Addr} (h : SqT G.K H p vs) (r : Reps G μ H xs vs) : Rep G μ H (mkTup xs) (.ref p) := by
  unfold mkTup
  split
  · rename_i ys e
    rw [allP_eq e] at r
    exact Rep.ptup.mpr ⟨p, vs, rfl, h, r.to_P⟩
  · exact Rep.tup.mpr ⟨p, vs, rfl, h, r⟩
theorem i_nil : PA X [] (tA (gm X) W rNil) := PAimp pa_nil fun σ H Q h => by
  obtain ⟨μ, ρ, M, hE, hS, hF⟩ := h
  exact hF μ [] H (.refl _) (List.prefix_refl _) hS .nil
theorem i_cons (ha : PE X e (tE (gm X) W fa)) (hr : PA X es (tA (gm X) W fs)) (hs : starEach (e :: es) X.env = (false, eval e X.env) :: starEach es X.env := by rfl) : PA X (e :: es) (tA (gm X) W (rCons fa fs)) :=
  PAimp (pa_cons ha hr hs) fun σ H Q h => by
    refine (tX.bind h).mono fun v H1 g1 => ?_
    refine (Go.bind Rep.mono g1).mono fun vs H2 ⟨μ, ρ, M, x, xs, hE, hS, rx, rxs, hF⟩ => ?_
    exact hF μ (v :: vs) H2 (.refl _) (List.prefix_refl _) hS (.cons rx rxs)
theorem i_tup {x1 : Nat} (h : PA X es (tA (gm X) W fs)) : PE X (.Tuple es x1 pos) (tE (gm X) W (rTup fs)) :=
  PEimp (pe_tup h) fun σ H Q h => by
    refine (tX.bind h).mono fun vs H1 ⟨μ, ρ, M, xs, hE, hS, rx, hF⟩ => ?_
    have hF : Fin (gm X) (Rep (gm X)) W μ σ H1 Q (if xs.length ≤ 1000 then .ok (mkTup xs) M else .no) := hF
    split at hF
    · rename_i hl
      refine ⟨by rw [← rx.length]; exact small_line hl, fun p hp => ?_⟩
      exact hF μ _ _ (.new hp) (List.prefix_refl _) (hS.grow hp) (mkTup_ok (SqT.of upd_same) (rx.ext (.new hp) (List.prefix_refl _)))
    · exact hF.elim
theorem i_lst (h : PA X es (tA (gm X) W fs)) : PE X (.List es pos) (tE (gm X) W (rLst fs)) :=
  PEimp (pe_lst h) fun σ H Q h => by
    refine (tX.bind h).mono fun vs H1 ⟨μ, ρ, M, xs, hE, hS, rx, hF⟩ => ?_
    have hF : Fin (gm X) (Rep (gm X)) W μ σ H1 Q (if xs.length ≤ 1000 then .ok (.ref M.length) (M ++ [.lst xs]) else .no) := hF
    split at hF
    · rename_i hl
      refine ⟨by rw [← rx.length]; exact small_line hl, fun p hp => ?_⟩
      exact hF (μ ++ [p]) _ _ (.new hp) (List.prefix_append _ _) (new_lst hS hp rx) (new_ref hS p)
    · exact hF.elim
end
/-! ### calls of built-ins by name -/
def CallD (G : Gm) (op : List D → Store → Option (D × Store)) (r : List V → Hp → VK → Prop) : Prop :=
  ∀ (μ : List Addr) (H : Hp) (M : Store) (xs : List D) (vs : List V) (Q : VK) (d : D) (M' : Store), SR G μ H M → Reps G μ H xs vs → op xs M = some (d, M') →
    (∀ μ' w H', Ext H H' → μ <+: μ' → SR G μ' H' M' → Rep G μ' H' d w → Q w H') → r vs H Q
def rCB (op : List D → Store → Option (D × Store)) (fs : RA) : RE := fun ρ M => (fs ρ M).bind fun xs M1 => ofO (op xs M1)
section
variable {X : Cx} {G : Gm} {W : WX} {a b e c : Expr} {fa fb fc : RE} {fs : RA} {p pos : Pos} {es : List Expr}
theorem cb_in {op r} (hd : CallD (gm X) op r) {σ : St} {H : Hp} {Q : VK} (h : tE (gm X) W (rCB op fs) σ H Q) : tCB r (tA (gm X) W fs) σ H Q := by
  refine (tX.bind h).mono fun vs H1 ⟨μ, ρ, M, xs, hE, hS, rx, hF⟩ => ?_
  have hF : Fin (gm X) (Rep (gm X)) W μ σ H1 Q (ofO (op xs M)) := hF
  cases q : op xs M with
  | none => rw [q] at hF; exact hF.elim
  | some p =>
    obtain ⟨d, M'⟩ := p
    rw [q] at hF
    exact hd μ H1 M xs vs Q d M' hS rx q hF
theorem i_callB {x : Str} {id : String} {op r} (hc : CallR X (.builtin id) r) (hd : CallD (gm X) op r) (hg : Gl X x) (hm : X.mg x = none) (hv : bootBuiltins x = some (.builtin id)) (ha : PA X (e :: es) (tA (gm X) W fs))
    (hn : x ≠ "__name__" := by decide) (hdb : (x == ("__debug__" : Str)) = false := by decide) (he : starEach (e :: es) X.env = (false, eval e X.env) :: starEach es X.env := by rfl) (hpl : (backTo pos (starEach es X.env)).any (·.1) = false := by rfl) :
    PE X (.Call (.Name x p) (e :: es) [] pos) (tE (gm X) W (rCB op fs)) :=
  PEimp (pe_callB hc hg hm hv ha hn hdb he hpl) fun _ _ _ h => cb_in hd h
theorem i_callTy {x : Str} {T : String} {op r} (hc : CallR X (.type T) r) (hd : CallD (gm X) op r) (hg : Gl X x) (hm : X.mg x = none) (hv : bootBuiltins x = some (.type T)) (ha : PA X (e :: es) (tA (gm X) W fs))
    (hn : x ≠ "__name__" := by decide) (hdb : (x == ("__debug__" : Str)) = false := by decide) (he : starEach (e :: es) X.env = (false, eval e X.env) :: starEach es X.env := by rfl) (hpl : (backTo pos (starEach es X.env)).any (·.1) = false := by rfl) :
    PE X (.Call (.Name x p) (e :: es) [] pos) (tE (gm X) W (rCB op fs)) :=
  PEimp (pe_callTy hc hg hm hv ha hn hdb he hpl) fun _ _ _ h => cb_in hd h
end
end Fl

set_option Elab.async false
set_option linter.all false
set_option maxRecDepth 100000
/-! Fl, part F: built-ins, items, slices, methods of lists, calls of defs. -/
namespace Fl
open PySem PySem.Spec L2
set_option autoImplicit false
section
variable {X : Cx} {G : Gm} {W : WX}
theorem Reps.inv1 {μ : List Addr} {H : Hp} {x : D} {vs : List V} (h : Reps G μ H [x] vs) : ∃ v, vs = [v] ∧ Rep G μ H x v := by
  obtain ⟨v, r, rfl, h1, h2⟩ := h.inv
  rw [h2.inv0]
  exact ⟨v, rfl, h1⟩
theorem Reps.inv2 {μ : List Addr} {H : Hp} {x y : D} {vs : List V} (h : Reps G μ H [x, y] vs) : ∃ v u, vs = [v, u] ∧ Rep G μ H x v ∧ Rep G μ H y u := by
  obtain ⟨v, r, rfl, h1, h2⟩ := h.inv
  obtain ⟨u, rfl, h3⟩ := h2.inv1
  exact ⟨v, u, rfl, h1, h3⟩
/-! ### len, int, abs, min, max -/
def lenD : D → Store → Option Nat
  | .p (.str x), _ => if x.length ≤ sizeLine then some x.length else none
  | .p (.tup xs), _ => some xs.length
  | .tup xs, _ => some xs.length
  | .ref l, M => (match M[l]? with
    | some (.lst xs) => some xs.length
    | some (.ro xs) => some xs.length
    | _ => none)
  | _, _ => none
def cLen : List D → Store → Option (D × Store)
  | [x], M => (lenD x M).map fun (n : Nat) => (.p (.int (n : Int)), M)
  | _, _ => none
theorem lenD_ok {μ H M} {x : D} {v : V} {n : Nat} (S : SR G μ H M) (r : Rep G μ H x v) (h : lenD x M = some n) : LenV G.K v H n := by
  cases x with
  | p x =>
    cases x with
    | str b =>
      rw [Rep.str] at r; subst r
      have h : (if b.length ≤ sizeLine then some b.length else none) = some n := h
      split at h
      · rename_i hl; cases h; exact ⟨hl, rfl⟩
      · cases h
    | tup b =>
      rw [Rep.ptup] at r; obtain ⟨_, vs, rfl, h1, h2⟩ := r
      cases h
      exact .inr ⟨vs, h1, h2.length⟩
    | _ => cases h
  | ref l =>
    rw [Rep.ref] at r; obtain ⟨p, h1, rfl⟩ := r
    have h : (match M[l]? with
      | some (.lst xs) => some xs.length
      | some (.ro xs) => some xs.length
      | _ => none) = some n := h
    split at h
    · rename_i xs e
      obtain ⟨vs, h2, h3⟩ := S.lst h1 e
      cases h
      exact .inl ⟨vs, SqL.of h2, h3.length⟩
    · rename_i xs e
      obtain ⟨vs, h2, h3⟩ := S.obj _ p _ h1 e
      cases h
      exact .inl ⟨vs, h2.sql, h3.length⟩
    · cases h
  | tup b =>
    rw [Rep.tup] at r; obtain ⟨_, vs, rfl, h1, h2⟩ := r
    cases h
    exact .inr ⟨vs, h1, h2.length⟩
  | gl x => cases h
theorem d_len : CallD G cLen (fun xs H Q => ∃ (x : V) (n : Nat), xs = [x] ∧ LenV G.K x H n ∧ Q (.int (n : Int)) H) := by
  intro μ H M xs vs Q d M' S r q k
  unfold cLen at q
  split at q
  · rename_i x
    obtain ⟨n, h1, h2⟩ := Option.map_eq_some_iff.mp q
    cases h2
    obtain ⟨v, rfl, r1⟩ := r.inv1
    exact ⟨v, n, rfl, lenD_ok S r1 h1, k μ _ H (.refl _) (List.prefix_refl _) S (Rep.int.mpr rfl)⟩
  · cases q
def cInt : List D → Store → Option (D × Store)
  | [.p (.int i)], M => some (.p (.int i), M)
  | [.p (.bl b)], M => some (.p (.int (if b then 1 else 0)), M)
  | _, _ => none
theorem d_int : CallD G cInt (fun xs H Q => (∃ i, xs = [.int i] ∧ Q (.int i) H) ∨ ∃ k, xs = [.bl k] ∧ Q (.int (if k then 1 else 0)) H) := by
  intro μ H M xs vs Q d M' S r q k
  unfold cInt at q
  split at q
  · cases q
    obtain ⟨v, rfl, r1⟩ := r.inv1
    rw [Rep.int] at r1
    subst r1
    exact .inl ⟨_, rfl, k μ _ H (.refl _) (List.prefix_refl _) S (Rep.int.mpr rfl)⟩
  · cases q
    obtain ⟨v, rfl, r1⟩ := r.inv1
    rw [Rep.bl] at r1
    subst r1
    exact .inr ⟨_, rfl, k μ _ H (.refl _) (List.prefix_refl _) S (Rep.int.mpr rfl)⟩
  · cases q
def cAbs : List D → Store → Option (D × Store)
  | [.p (.int i)], M => some (.p (.int (if i < 0 then -i else i)), M)
  | _, _ => none
theorem d_abs : CallD G cAbs (fun xs H Q => ∃ i, xs = [.int i] ∧ Q (.int (if i < 0 then -i else i)) H) := by
  intro μ H M xs vs Q d M' S r q k
  unfold cAbs at q
  split at q
  · cases q
    obtain ⟨v, rfl, r1⟩ := r.inv1
    rw [Rep.int] at r1
    subst r1
    exact ⟨_, rfl, k μ _ H (.refl _) (List.prefix_refl _) S (Rep.int.mpr rfl)⟩
  · cases q
def cMax2 : List D → Store → Option (D × Store)
  | [.p (.int i), .p (.int j)], M => some (.p (.int (if j > i then j else i)), M)
  | _, _ => none
def cMin2 : List D → Store → Option (D × Store)
  | [.p (.int i), .p (.int j)], M => some (.p (.int (if j < i then j else i)), M)
  | _, _ => none
theorem d_max2 : CallD G cMax2 (fun xs H Q => ∃ i j, xs = [.int i, .int j] ∧ Q (.int (if j > i then j else i)) H) := by
  intro μ H M xs vs Q d M' S r q k
  unfold cMax2 at q
  split at q
  · cases q
    obtain ⟨v, u, rfl, r1, r2⟩ := r.inv2
    rw [Rep.int] at r1 r2
    subst r1 r2
    exact ⟨_, _, rfl, k μ _ H (.refl _) (List.prefix_refl _) S (Rep.int.mpr rfl)⟩
  · cases q
theorem d_min2 : CallD G cMin2 (fun xs H Q => ∃ i j, xs = [.int i, .int j] ∧ Q (.int (if j < i then j else i)) H) := by
  intro μ H M xs vs Q d M' S r q k
  unfold cMin2 at q
  split at q
  · cases q
    obtain ⟨v, u, rfl, r1, r2⟩ := r.inv2
    rw [Rep.int] at r1 r2
    subst r1 r2
    exact ⟨_, _, rfl, k μ _ H (.refl _) (List.prefix_refl _) S (Rep.int.mpr rfl)⟩
  · cases q
/-! ### isinstance(x, T), T a built-in type -/
/-- the type of a value, by its name -/
def tyD : D → Store → Option String
  | .p .non, _ => some "NoneType"
  | .p (.bl _), _ => some "bool"
  | .p (.int _), _ => some "int"
  | .p (.str _), _ => some "str"
  | .p (.tup _), _ => some "tuple"
  | .tup _, _ => some "tuple"
  | .ref l, M => (match M[l]? with
    | some (.lst _) => some "list"
    | some (.ro _) => some "list"
    | _ => none)
  | _, _ => none
theorem tyD_ok {μ H M} {x : D} {v : V} {t : String} (S : SR G μ H M) (r : Rep G μ H x v) (h : tyD x M = some t) : TyX G.K H v (.type t) := by
  have tupc : ∀ {p : Addr} {vs : List V}, SqT G.K H p vs → TyX G.K H (.ref p) (.type "tuple") := fun {p vs} h1 => by
    rcases h1 with (h1 | ⟨o, h1⟩) | ⟨o, its, n, h1, h2, _⟩
    · exact .base (.tup h1)
    · exact .fTuple h1
    · exact .kTuple h1 h2
  cases x with
  | p x =>
    cases x with
    | non => rw [Rep.non] at r; subst r; cases h; exact .base .non
    | bl b => rw [Rep.bl] at r; subst r; cases h; exact .base (.bl b)
    | int b => rw [Rep.int] at r; subst r; cases h; exact .base (.int b)
    | str b => rw [Rep.str] at r; subst r; cases h; exact .base (.str b)
    | tup b =>
      rw [Rep.ptup] at r; obtain ⟨p, vs, rfl, h1, h2⟩ := r
      cases h
      exact tupc h1
  | ref l =>
    rw [Rep.ref] at r; obtain ⟨p, h1, rfl⟩ := r
    have h : (match M[l]? with
      | some (.lst _) => some "list"
      | some (.ro _) => some "list"
      | _ => none) = some t := h
    split at h
    · rename_i xs e
      obtain ⟨vs, h2, h3⟩ := S.lst h1 e
      cases h
      exact .base (.lst h2)
    · rename_i xs e
      obtain ⟨vs, h2, h3⟩ := S.obj _ p _ h1 e
      cases h
      rcases h2 with ⟨o, h2⟩ | ⟨o, its, n, h2, h4, _⟩
      · exact .base (.frz h2)
      · exact .kList h2 h4
    · cases h
  | tup b =>
    rw [Rep.tup] at r; obtain ⟨p, vs, rfl, h1, h2⟩ := r
    cases h
    exact tupc h1
  | gl x => cases h
/-- is a value of the type t one of T: for the built-in types that are told here -/
def isaT (t T : String) : Bool := t == T || (t == "bool" && T == "int")
theorem isaT_ok (t T : String) (ht : t = "NoneType" ∨ t = "bool" ∨ t = "int" ∨ t = "str" ∨ t = "tuple" ∨ t = "list" ∨ t = "dict") (hT : T = "int" ∨ T = "bool" ∨ T = "str" ∨ T = "tuple" ∨ T = "list" ∨ T = "dict") :
    kitB t T = some (isaT t T) := by
  rcases ht with rfl | rfl | rfl | rfl | rfl | rfl | rfl <;> rcases hT with rfl | rfl | rfl | rfl | rfl | rfl <;> decide +kernel
theorem tyD_names {x : D} {M : Store} {t : String} (h : tyD x M = some t) : t = "NoneType" ∨ t = "bool" ∨ t = "int" ∨ t = "str" ∨ t = "tuple" ∨ t = "list" ∨ t = "dict" := by
  unfold tyD at h
  split at h
  all_goals first
    | (cases h; simp; done)
    | (cases h; done)
    | (split at h <;> first | (cases h; simp; done) | (cases h; done))
def cIsa (T : String) : D → Store → Option (D × Store) := fun x M => (tyD x M).map fun t => (.p (.bl (isaT t T)), M)
/-- isinstance(e, T) -/
def rIsa (T : String) (f : RE) : RE := rUn (cIsa T) f
theorem i_isa {e : Expr} {f : RE} {T : String} {x : Str} {p p2 pos : Pos} (hT : T = "int" ∨ T = "bool" ∨ T = "str" ∨ T = "tuple" ∨ T = "list" ∨ T = "dict") (hg : Gl X "isinstance") (hm : X.mg "isinstance" = none) (hg2 : Gl X x) (hm2 : X.mg x = none) (hv2 : bootBuiltins x = some (.type T))
    (ha : PE X e (tE (gm X) W f)) (hn2 : x ≠ "__name__" := by decide) (hd2 : (x == ("__debug__" : Str)) = false := by decide)
    (hs : starEach [e, .Name x p2] X.env = (false, eval e X.env) :: starEach [.Name x p2] X.env := by rfl) (hs2 : starEach [.Name x p2] X.env = (false, eval (.Name x p2) X.env) :: starEach [] X.env := by rfl) (hpl : (backTo pos (starEach [.Name x p2] X.env)).any (·.1) = false := by rfl) :
    PE X (.Call (.Name "isinstance" p) [e, .Name x p2] [] pos) (tE (gm X) W (rIsa T f)) := by
  refine PEimp (pe_callB call_isi hg hm PyProof.Rows.boot_isinstance (pa_cons ha (pa_cons (pe_bltn (v := .ty T) hg2 hm2 hv2 rfl hn2 hd2) pa_nil hs2) hs) (by decide) (by decide) hs hpl) fun σ H Q h => ?_
  refine (tX.bind h).mono fun v H1 ⟨μ, ρ, M, x, hE, hS, rx, hF⟩ => ?_
  have hF : Fin (gm X) (Rep (gm X)) W μ σ H1 Q (ofO (cIsa T x M)) := hF
  cases q : tyD x M with
  | none =>
    unfold cIsa at hF
    rw [q] at hF
    exact hF.elim
  | some t =>
    unfold cIsa at hF
    rw [q] at hF
    exact ⟨v, .ty T, .type t, .type T, isaT t T, rfl, .ty T, tyD_ok hS rx q, kit_ty (isaT_ok t T (tyD_names q) hT), hF μ _ H1 (.refl _) (List.prefix_refl _) hS (Rep.bl.mpr rfl)⟩
/-! ### tuple(x), list(x) -/
/-- the items of a row -/
def rowD : D → Store → Option (List D)
  | .p (.tup xs), _ => some (xs.map D.p)
  | .tup xs, _ => some xs
  | .ref l, M => (match M[l]? with
    | some (.lst xs) => some xs
    | some (.ro xs) => some xs
    | _ => none)
  | _, _ => none
theorem rowD_ok {μ H M} {c : D} {u : V} {xs : List D} (S : SR G μ H M) (r : Rep G μ H c u) (h : rowD c M = some xs) : ∃ a vs, u = .ref a ∧ (SqT G.K H a vs ∨ SqL G.K H a vs) ∧ Reps G μ H xs vs := by
  unfold rowD at h
  split at h
  · cases h
    rw [Rep.ptup] at r
    obtain ⟨a, vs, rfl, h1, h2⟩ := r
    exact ⟨a, vs, rfl, .inl h1, Reps.of_P h2⟩
  · cases h
    rw [Rep.tup] at r
    obtain ⟨a, vs, rfl, h1, h2⟩ := r
    exact ⟨a, vs, rfl, .inl h1, h2⟩
  · rw [Rep.ref] at r
    obtain ⟨a, h1, rfl⟩ := r
    split at h
    · rename_i ys e
      cases h
      obtain ⟨vs, h2, h3⟩ := S.lst h1 e
      exact ⟨a, vs, rfl, .inr (SqL.of h2), h3⟩
    · rename_i ys e
      cases h
      obtain ⟨vs, h2, h3⟩ := S.obj _ a _ h1 e
      exact ⟨a, vs, rfl, .inr h2.sql, h3⟩
    · cases h
  · cases h
def cTuple : List D → Store → Option (D × Store)
  | [.p (.tup xs)], M => some (.p (.tup xs), M)
  | [.tup xs], M => some (.tup xs, M)
  | [.ref l], M => (rowD (.ref l) M).map fun xs => (mkTup xs, M)
  | _, _ => none
def cList : List D → Store → Option (D × Store)
  | [x], M => (rowD x M).map fun xs => (.ref M.length, M ++ [.lst xs])
  | _, _ => none
abbrev rTupleU (K : PySem.W.Frag) : List V → Hp → VK → Prop := fun xs H Q => (∃ a ys, xs = [.ref a] ∧ SqT K H a ys ∧ Q (.ref a) H) ∨ (∃ p ys, xs = [.ref p] ∧ (SqL K H p ys ∧ ∀ l, H l = none → Q (.ref l) (upd H l (.tup ys))))
theorem o_tuple : CallR X (.type "tuple") (rTupleU X.K) := by
  intro pins s σ H xs us Q I r h
  rcases h with h | ⟨p, ys, e, h1, h2⟩
  · exact call_tupleT pins s σ H xs us Q I r h
  · exact call_tuple_of pins s σ H xs us Q I r ⟨p, ys, e, .inl ⟨h1, h2⟩⟩
theorem d_tuple : CallD G cTuple (rTupleU G.K) := by
  intro μ H M xs vs Q d M' S r q k
  unfold cTuple at q
  split at q
  · cases q
    obtain ⟨v, rfl, r1⟩ := r.inv1
    obtain ⟨a, ws, e, h1, h2⟩ := Rep.ptup.mp r1
    subst e
    exact .inl ⟨a, ws, rfl, h1, k μ _ H (.refl _) (List.prefix_refl _) S r1⟩
  · cases q
    obtain ⟨v, rfl, r1⟩ := r.inv1
    obtain ⟨a, ws, e, h1, h2⟩ := Rep.tup.mp r1
    subst e
    exact .inl ⟨a, ws, rfl, h1, k μ _ H (.refl _) (List.prefix_refl _) S r1⟩
  · rename_i l
    obtain ⟨ys, h1, h2⟩ := Option.map_eq_some_iff.mp q
    cases h2
    obtain ⟨v, rfl, r1⟩ := r.inv1
    obtain ⟨a, ha, e⟩ := Rep.ref.mp r1
    subst e
    have h : ∃ ws, SqL G.K H a ws ∧ Reps G μ H ys ws := by
      have h1 : (match M[l]? with
        | some (.lst xs) => some xs
        | some (.ro xs) => some xs
        | _ => none) = some ys := h1
      split at h1
      · rename_i zs e
        cases h1
        obtain ⟨ws, h2, h3⟩ := S.lst ha e
        exact ⟨ws, SqL.of h2, h3⟩
      · rename_i zs e
        cases h1
        obtain ⟨ws, h2, h3⟩ := S.obj _ a _ ha e
        exact ⟨ws, h2.sql, h3⟩
      · cases h1
    obtain ⟨ws, h2, h3⟩ := h
    exact .inr ⟨a, ws, rfl, h2, fun p hp => k μ _ _ (.new hp) (List.prefix_refl _) (S.grow hp) (mkTup_ok (SqT.of upd_same) (h3.ext (.new hp) (List.prefix_refl _)))⟩
  · cases q
theorem d_list : CallD G cList (fun xs H Q => ∃ p ys, xs = [.ref p] ∧ (SqL G.K H p ys ∨ SqT G.K H p ys) ∧ ∀ l, H l = none → Q (.ref l) (upd H l (.lst ys))) := by
  intro μ H M xs vs Q d M' S r q k
  unfold cList at q
  split at q
  · obtain ⟨ys, h1, h2⟩ := Option.map_eq_some_iff.mp q
    cases h2
    obtain ⟨v, rfl, r1⟩ := r.inv1
    obtain ⟨a, ws, rfl, h2, h3⟩ := rowD_ok S r1 h1
    exact ⟨a, ws, rfl, h2.symm, fun p hp => k (μ ++ [p]) _ _ (.new hp) (List.prefix_append _ _) (new_lst S hp h3) (new_ref S p)⟩
  · cases q
/-! ### items -/
def dIx : D → D → Store → Option (D × Store)
  | .p (.str z), .p (.int i), M => if z.length ≤ sizeLine then (atI z.cps.toList i).map fun c => (.p (.str ⟨#[c]⟩), M) else none
  | c, .p (.int i), M => (match rowD c M with
    | some xs => (atI xs i).map fun x => (x, M)
    | none => none)
  | _, _, _ => none
theorem Reps.atI {μ : List Addr} {H : Hp} {xs : List D} {vs : List V} (h : Reps G μ H xs vs) {i : Int} {x : D} (e : L2.atI xs i = some x) : ∃ v, L2.atI vs i = some v ∧ Rep G μ H x v := by
  unfold L2.atI at e ⊢
  rw [← h.length]
  cases q : ixN xs.length i with
  | none => rw [q] at e; cases e
  | some j =>
    rw [q] at e
    exact h.get (show xs[j]? = some x from e)
theorem d_ix : OpD G dIx (rIx G.K) := by
  intro μ H M x y v u Q d M' S rx ry q k
  unfold dIx at q
  split at q
  · split at q
    · rename_i hz
      obtain ⟨c, h1, h2⟩ := Option.map_eq_some_iff.mp q
      cases h2
      rw [Rep.str] at rx
      rw [Rep.int] at ry
      exact .inr (.inr ⟨_, _, c, rx, ry, hz, h1, k μ _ H (.refl _) (List.prefix_refl _) S (Rep.str.mpr rfl)⟩)
    · cases q
  · split at q
    · rename_i xs h0
      obtain ⟨c, h1, h2⟩ := Option.map_eq_some_iff.mp q
      cases h2
      rw [Rep.int] at ry
      obtain ⟨a, vs, rfl, h3, h4⟩ := rowD_ok S rx h0
      obtain ⟨w, h5, h6⟩ := h4.atI h1
      have fin := k μ _ H (.refl _) (List.prefix_refl _) S h6
      rcases h3 with h3 | h3
      · exact .inr (.inl ⟨a, vs, _, w, rfl, ry, h3, h5, fin⟩)
      · exact .inl ⟨a, vs, _, w, rfl, ry, h3, h5, fin⟩
    · cases q
  · cases q
end
end Fl

set_option Elab.async false
set_option linter.all false
set_option maxRecDepth 100000
/-! Fl, part G: slices, methods of lists, calls of defs. -/
namespace Fl
open PySem PySem.Spec L2
set_option autoImplicit false
/-! ### slices -/
def cutL {α : Type} (xs : List α) (lo hi : Option Int) : List α := (xs.drop (HT.sIx xs.length 0 lo)).take (HT.sIx xs.length xs.length hi - HT.sIx xs.length 0 lo)
def rNoPart : RX (Option Int) := fun _ M => .ok none M
def asPart : D → Store → Option (Option Int × Store)
  | .p (.int i), M => some (some i, M)
  | _, _ => none
def rPart (f : RE) : RX (Option Int) := fun ρ M => (f ρ M).bind fun x M1 => ofO (asPart x M1)
abbrev tPt (G : Gm) (W : WX) (f : RX (Option Int)) : St → Hp → (Option Int → Hp → Prop) → Prop := tX G (fun _ _ (a b : Option Int) => a = b) W f
def dSl (x : D) (lo hi : Option Int) (M : Store) : Option (D × Store) := match x with
  | .p (.str z) => if z.length ≤ sizeLine then some (.p (.str (cutS z lo hi)), M) else none
  | .p (.tup xs) => some (.p (.tup (cutL xs lo hi)), M)
  | .tup xs => some (mkTup (cutL xs lo hi), M)
  | .ref l => (match M[l]? with
    | some (.lst xs) => some (.ref M.length, M ++ [.lst (cutL xs lo hi)])
    | some (.ro xs) => some (.ref M.length, M ++ [.lst (cutL xs lo hi)])
    | _ => none)
  | _ => none
def rSl (f : RE) (lo hi : RX (Option Int)) : RE := fun ρ M => (f ρ M).bind fun x M1 => (lo ρ M1).bind fun a M2 => (hi ρ M2).bind fun b M3 => ofO (dSl x a b M3)
abbrev rSlU (K : PySem.W.Frag) : V → Option Int → Option Int → Hp → VK → Prop := fun x lo hi H Q => rSlS x lo hi H Q ∨ rSlA K x lo hi H Q ∨ rSlL K x lo hi H Q
def dRev : D → Store → Option (D × Store)
  | .ref l, M => (match M[l]? with
    | some (.lst xs) => some (.ref M.length, M ++ [.lst xs.reverse])
    | _ => none)
  | _, _ => none
def rRev (f : RE) : RE := rUn dRev f
section
variable {X : Cx} {G : Gm} {W : WX} {e : Expr} {fe fa : RE}
theorem o_sl : SlR X (rSlU X.K) := sl_str.or (sl_tupA.or sl_list)
theorem Reps.cut {μ H} {xs : List D} {vs : List V} (h : Reps G μ H xs vs) (lo hi : Option Int) : Reps G μ H (cutL xs lo hi) (cutV vs lo hi) := by
  unfold cutL cutV
  rw [h.length]
  exact (h.drop _).take _
theorem cutL_map {α β : Type} (f : α → β) (xs : List α) (lo hi : Option Int) : cutL (xs.map f) lo hi = (cutL xs lo hi).map f := by
  unfold cutL
  rw [List.length_map, List.map_take, List.map_drop]
theorem cutV_whole {xs : List V} {lo hi : Option Int} (h : HT.sIx xs.length 0 lo = 0 ∧ HT.sIx xs.length xs.length hi = xs.length) : cutV xs lo hi = xs := by
  unfold cutV
  rw [h.1, h.2]
  simp
theorem d_sl {μ H M} {x : D} {v : V} {lo hi : Option Int} {Q : VK} {d : D} {M' : Store} (S : SR G μ H M) (r : Rep G μ H x v) (q : dSl x lo hi M = some (d, M'))
    (k : ∀ μ' w H', Ext H H' → μ <+: μ' → SR G μ' H' M' → Rep G μ' H' d w → Q w H') : rSlU G.K v lo hi H Q := by
  unfold dSl at q
  split at q
  · split at q
    · rename_i hz
      cases q
      rw [Rep.str] at r
      exact .inl ⟨_, r, hz, k μ _ H (.refl _) (List.prefix_refl _) S (Rep.str.mpr rfl)⟩
    · cases q
  · rename_i xs
    cases q
    obtain ⟨a, vs, rfl, h1, h2⟩ := Rep.ptup.mp r
    have h3 : RepPs G.K H (cutL xs lo hi) (cutV vs lo hi) := by
      have h4 := (Reps.of_P (G := G) (μ := μ) h2).cut lo hi
      rw [cutL_map] at h4
      exact h4.to_P
    refine .inr (.inl ⟨a, vs, rfl, h1, fun hw => ?_, fun hw p hp => ?_⟩)
    · rw [cutV_whole hw] at h3
      exact k μ _ H (.refl _) (List.prefix_refl _) S (Rep.ptup.mpr ⟨a, vs, rfl, h1, h3⟩)
    · exact k μ _ _ (.new hp) (List.prefix_refl _) (S.grow hp) (new_ptup (M := M) hp h3)
  · rename_i xs
    cases q
    obtain ⟨a, vs, rfl, h1, h2⟩ := Rep.tup.mp r
    have h3 := h2.cut lo hi
    refine .inr (.inl ⟨a, vs, rfl, h1, fun hw => ?_, fun hw p hp => ?_⟩)
    · rw [cutV_whole hw] at h3
      exact k μ _ H (.refl _) (List.prefix_refl _) S (mkTup_ok h1 h3)
    · exact k μ _ _ (.new hp) (List.prefix_refl _) (S.grow hp) (mkTup_ok (SqT.of upd_same) (h3.ext (.new hp) (List.prefix_refl _)))
  · rename_i l
    obtain ⟨a, h1, rfl⟩ := Rep.ref.mp r
    split at q
    · rename_i xs e
      cases q
      obtain ⟨vs, h2, h3⟩ := S.lst h1 e
      exact .inr (.inr ⟨a, vs, rfl, SqL.of h2, fun p hp => k (μ ++ [p]) _ _ (.new hp) (List.prefix_append _ _) (new_lst S hp (h3.cut lo hi)) (new_ref S p)⟩)
    · rename_i xs e
      cases q
      obtain ⟨vs, h2, h3⟩ := S.obj _ a _ h1 e
      exact .inr (.inr ⟨a, vs, rfl, h2.sql, fun p hp => k (μ ++ [p]) _ _ (.new hp) (List.prefix_append _ _) (new_lst S hp (h3.cut lo hi)) (new_ref S p)⟩)
    · cases q
  · cases q
theorem i_nopart : PO X none (tPt (gm X) W rNoPart) := ⟨fun pins s σ H Q I h => po_none.run pins s σ H Q I (by
  obtain ⟨μ, ρ, M, hE, hS, hF⟩ := h
  exact hF μ none H (.refl _) (List.prefix_refl _) hS rfl)⟩
theorem i_part (ha : PE X e (tE (gm X) W fa)) : PO X (some e) (tPt (gm X) W (rPart fa)) := ⟨fun pins s σ H Q I h => (po_some ha).run pins s σ H Q I (by
  refine (tX.bind h).mono fun v H1 ⟨μ, ρ, M, x, hE, hS, rx, hF⟩ => ?_
  have hF : Fin (gm X) (fun _ _ (a b : Option Int) => a = b) W μ σ H1 Q (ofO (asPart x M)) := hF
  cases q : asPart x M with
  | none => rw [q] at hF; exact hF.elim
  | some p =>
    obtain ⟨o, M'⟩ := p
    rw [q] at hF
    unfold asPart at q
    split at q
    · rename_i i
      cases q
      rw [Rep.int] at rx
      exact ⟨i, rx, hF μ (some i) H1 (.refl _) (List.prefix_refl _) hS rfl⟩
    · cases q)⟩
theorem i_slice {lo hi : Option Expr} {fl fh : RX (Option Int)} {p2 pos : Pos} (he : PE X e (tE (gm X) W fe)) (hl : PO X lo (tPt (gm X) W fl)) (hu : PO X hi (tPt (gm X) W fh)) : PE X (.Subscript e (.Slice lo hi none p2) pos) (tE (gm X) W (rSl fe fl fh)) :=
  PEimp (pe_slice o_sl he hl hu) fun σ H Q h => by
    refine (tX.bind h).mono fun v H1 g1 => ?_
    refine (Go.bind (rel2 := fun _ _ (a b : Option Int) => a = b) Rep.mono g1).mono fun a H2 g2 => ?_
    obtain ⟨μ, ρ, M, x, a', hE, hS, rx, ea, hF⟩ := g2
    subst ea
    have g3 : Go (gm X) (Rep (gm X)) (Rep (gm X)) W (fun x ρ M2 => (fh ρ M2).bind fun b M3 => ofO (dSl x a' b M3)) σ Q v H2 := ⟨μ, ρ, M, x, hE, hS, rx, hF⟩
    refine (Go.bind (rel2 := fun _ _ (a b : Option Int) => a = b) Rep.mono g3).mono fun b H3 g4 => ?_
    obtain ⟨μ4, ρ4, M4, x4, b', hE4, hS4, rx4, eb, hF4⟩ := g4
    subst eb
    have hF4 : Fin (gm X) (Rep (gm X)) W μ4 σ H3 Q (ofO (dSl x4 a' b' M4)) := hF4
    cases q : dSl x4 a' b' M4 with
    | none => rw [q] at hF4; exact hF4.elim
    | some p =>
      obtain ⟨d, M'⟩ := p
      rw [q] at hF4
      exact d_sl hS4 rx4 q hF4
/-- xs[::-1] -/
theorem i_rev {k : Nat} {p1 p2 p3 pos : Pos} (he : PE X e (tE (gm X) W fe)) : PE X (.Subscript e (.Slice none none (some (.UnaryOp .USub (.Constant (.int 1) k p1) p2)) p3) pos) (tE (gm X) W (rRev fe)) :=
  PEimp (pe_revL he) fun σ H Q h => by
    refine (tX.bind h).mono fun v H1 ⟨μ, ρ, M, x, hE, hS, rx, hF⟩ => ?_
    have hF : Fin (gm X) (Rep (gm X)) W μ σ H1 Q (ofO (dRev x M)) := hF
    cases q : dRev x M with
    | none => rw [q] at hF; exact hF.elim
    | some p =>
      obtain ⟨o, M'⟩ := p
      rw [q] at hF
      unfold dRev at q
      split at q
      · rename_i l
        split at q
        · rename_i xs e
          cases q
          obtain ⟨a, h1, rfl⟩ := Rep.ref.mp rx
          obtain ⟨vs, h2, h3⟩ := hS.lst h1 e
          exact ⟨a, vs, rfl, SqL.of h2, fun p hp => hF (μ ++ [p]) _ _ (.new hp) (List.prefix_append _ _) (new_lst hS hp h3.rev) (new_ref hS p)⟩
        · cases q
      · cases q
end
/-! ### methods of lists -/
def isLst : D → Store → Bool
  | .ref l, M => (match M[l]? with
    | some (.lst _) => true
    | _ => false)
  | _, _ => false
def MtD (G : Gm) (op : D → List D → Store → Option (D × Store)) (r : V → List V → Hp → VK → Prop) : Prop :=
  ∀ (μ : List Addr) (H : Hp) (M : Store) (x : D) (xs : List D) (v : V) (vs : List V) (Q : VK) (d : D) (M' : Store), SR G μ H M → Rep G μ H x v → Reps G μ H xs vs → op x xs M = some (d, M') →
    (∀ μ' w H', Ext H H' → μ <+: μ' → SR G μ' H' M' → Rep G μ' H' d w → Q w H') → r v vs H Q
def rLM (op : D → List D → Store → Option (D × Store)) (fo : RE) (fs : RA) : RE := fun ρ M => (fo ρ M).bind fun x M1 => match isLst x M1 with
  | true => (fs ρ M1).bind fun xs M2 => ofO (op x xs M2)
  | false => .no
def rLM0 (op : D → List D → Store → Option (D × Store)) (fo : RE) : RE := fun ρ M => (fo ρ M).bind fun x M1 => match isLst x M1 with
  | true => ofO (op x [] M1)
  | false => .no
section
variable {X : Cx} {G : Gm} {W : WX} {o e : Expr} {es : List Expr} {fo : RE} {fs : RA} {name : Str} {apos cpos : Pos} {id : String} {r : V → List V → Hp → VK → Prop} {op : D → List D → Store → Option (D × Store)}
theorem isLst_ok {μ H M} {x : D} {v : V} (S : SR G μ H M) (r : Rep G μ H x v) (h : isLst x M = true) : tyV G.K "list" v H := by
  unfold isLst at h
  split at h
  · rename_i l
    split at h
    · rename_i xs e
      obtain ⟨a, h1, rfl⟩ := Rep.ref.mp r
      obtain ⟨vs, h2, h3⟩ := S.lst h1 e
      exact .inl ⟨rfl, vs, SqL.of h2⟩
    · cases h
  · cases h
theorem i_lm (slot : Slot "list" name id) (hty : typeOf (.builtin id) = pure (.type "method_descriptor")) (hm : MtR X id r) (hd : MtD (gm X) op r) (ho : PE X o (tE (gm X) W fo)) (ha : PA X (e :: es) (tA (gm X) W fs))
    (hbase : attributeBase o name X.env (eval o X.env) = eval o X.env := by rfl)
    (hfew : ((backTo cpos (starEach (e :: es) X.env)).all (fun x => !x.1) && (backToKw cpos (keywordEach [] X.env)).all (fun x => x.1.isSome)
      && decide ((e :: es).length + ([] : List Keyword).length + (if ([] : List Keyword).isEmpty then 0 else 1) < 30)) = true := by rfl)
    (hline : (apos.endLine == cpos.line) = true := by rfl) (hs : starEach (e :: es) X.env = (false, eval e X.env) :: starEach es X.env := by rfl) (hplain : (backTo cpos (starEach es X.env)).any (·.1) = false := by rfl) :
    PE X (.Call (.Attribute o name apos) (e :: es) [] cpos) (tE (gm X) W (rLM op fo fs)) :=
  PEimp (pe_bm PySem.F.plainAttrs_list slot hty hm ho ha hbase hfew hline hs hplain) fun σ H Q h => by
    refine (tX.bind h).mono fun v H1 ⟨μ, ρ, M, x, hE, hS, rx, hF⟩ => ?_
    have hF : Fin (gm X) (Rep (gm X)) W μ σ H1 Q (match isLst x M with
      | true => (fs ρ M).bind fun xs M2 => ofO (op x xs M2)
      | false => .no) := hF
    cases q : isLst x M with
    | false => rw [q] at hF; exact hF.elim
    | true =>
      rw [q] at hF
      refine ⟨isLst_ok hS rx q, ?_⟩
      have g1 : Go (gm X) (Rep (gm X)) (Rep (gm X)) W (fun x ρ M => (fs ρ M).bind fun xs M2 => ofO (op x xs M2)) σ Q v H1 := ⟨μ, ρ, M, x, hE, hS, rx, hF⟩
      refine (Go.bind Rep.mono g1).mono fun vs H2 ⟨μ2, ρ2, M2, x2, xs, hE2, hS2, rx2, rxs, hF2⟩ => ?_
      have hF2 : Fin (gm X) (Rep (gm X)) W μ2 σ H2 Q (ofO (op x2 xs M2)) := hF2
      cases q2 : op x2 xs M2 with
      | none => rw [q2] at hF2; exact hF2.elim
      | some p =>
        obtain ⟨d, M'⟩ := p
        rw [q2] at hF2
        exact hd μ2 H2 M2 x2 xs v vs Q d M' hS2 rx2 rxs q2 hF2
theorem i_lm0 (slot : Slot "list" name id) (hty : typeOf (.builtin id) = pure (.type "method_descriptor")) (hm : MtR X id r) (hd : MtD (gm X) op r) (ho : PE X o (tE (gm X) W fo))
    (hbase : attributeBase o name X.env (eval o X.env) = eval o X.env := by rfl) (hline : (apos.endLine == cpos.line) = true := by rfl) :
    PE X (.Call (.Attribute o name apos) [] [] cpos) (tE (gm X) W (rLM0 op fo)) :=
  PEimp (pe_bm0 PySem.F.plainAttrs_list slot hty hm ho hbase hline) fun σ H Q h => by
    refine (tX.bind h).mono fun v H1 ⟨μ, ρ, M, x, hE, hS, rx, hF⟩ => ?_
    have hF : Fin (gm X) (Rep (gm X)) W μ σ H1 Q (match isLst x M with
      | true => ofO (op x [] M)
      | false => .no) := hF
    cases q : isLst x M with
    | false => rw [q] at hF; exact hF.elim
    | true =>
      rw [q] at hF
      refine ⟨isLst_ok hS rx q, ?_⟩
      have hF2 : Fin (gm X) (Rep (gm X)) W μ σ H1 Q (ofO (op x [] M)) := hF
      cases q2 : op x [] M with
      | none => rw [q2] at hF2; exact hF2.elim
      | some p =>
        obtain ⟨d, M'⟩ := p
        rw [q2] at hF2
        exact hd μ H1 M x [] v [] Q d M' hS rx .nil q2 hF2
def mAppend : D → List D → Store → Option (D × Store)
  | .ref l, [y], M => (match M[l]? with
    | some (.lst xs) => if xs.length < sizeLine then some (.p .non, M.set l (.lst (xs ++ [y]))) else none
    | _ => none)
  | _, _, _ => none
theorem d_append : MtD G mAppend rAppend := by
  intro μ H M x xs v vs Q d M' S rx rxs q k
  unfold mAppend at q
  split at q
  · rename_i l y
    split at q
    · rename_i ys e
      split at q
      · rename_i hl
        cases q
        obtain ⟨a, h1, rfl⟩ := Rep.ref.mp rx
        obtain ⟨ws, h2, h3⟩ := S.lst h1 e
        obtain ⟨w, rfl, h4⟩ := rxs.inv1
        refine ⟨a, ws, w, rfl, rfl, h2, by rw [← h3.length]; exact hl, ?_⟩
        have ex := Ext.lst (o := .lst (ws ++ [w])) h2
        exact k μ _ _ ex (List.prefix_refl _) (S.put h1 e rfl rfl (fun ob w z => by rw [h2] at z; cases z) ex ⟨_, upd_same, (h3.app (.cons h4 .nil)).ext ex (List.prefix_refl _)⟩) (Rep.non.mpr rfl)
      · cases q
    · cases q
  · cases q
def mPop : D → List D → Store → Option (D × Store)
  | .ref l, [], M => (match M[l]? with
    | some (.lst xs) => (match xs[xs.length - 1]? with
      | some y => some (y, M.set l (.lst xs.dropLast))
      | none => none)
    | _ => none)
  | _, _, _ => none
theorem d_pop : MtD G mPop rPop := by
  intro μ H M x xs v vs Q d M' S rx rxs q k
  unfold mPop at q
  split at q
  · rename_i l
    split at q
    · rename_i ys e
      split at q
      · rename_i y hy
        cases q
        obtain ⟨a, h1, rfl⟩ := Rep.ref.mp rx
        obtain ⟨ws, h2, h3⟩ := S.lst h1 e
        obtain ⟨w, h4, h5⟩ := h3.get hy
        have e0 := rxs.inv0
        subst e0
        refine ⟨a, ws, w, rfl, rfl, h2, by rw [← h3.length]; exact h4, ?_⟩
        have ex := Ext.lst (o := .lst ws.dropLast) h2
        exact k μ _ _ ex (List.prefix_refl _) (S.put h1 e rfl rfl (fun ob w z => by rw [h2] at z; cases z) ex ⟨_, upd_same, h3.dropLast.ext ex (List.prefix_refl _)⟩) (h5.ext ex (List.prefix_refl _))
      · cases q
    · cases q
  · cases q
end
/-! ### calls of defs -/
def FinC (G : Gm) (E : XK) (μ : List Addr) (H : Hp) (Q : VK) (r : R D) : Prop := Fin G (Rep G) (fun c d _ H => E c d H) μ [] H Q r
/-- the promise: F tells what comes -/
def spD (G : Gm) (F : List D → Store → R D) (n : Nat) : Sp := fun vs H Q E => ∃ μ ds M, vs.length = n ∧ Reps G μ H ds vs ∧ SR G μ H M ∧ FinC G E μ H Q (F ds M)
/-- a def that keeps it stands under the name x -/
structure Df (P : Program) (w : World) (K : PySem.W.Frag) (mg : Str → Option Value) (base : Heap) (x : Str) (ps : List Str) (F : List D → Store → R D) (k : Nat) : Prop where
  is_ : ∃ f fd, mg x = some (.ref f) ∧ PySem.W.keepIn K (.ref f) = true ∧ Binds K fd ps [] ∧ FnOk P w K mg base (L2.CX P w) k f fd ps (spD ⟨K, mg⟩ F ps.length)
section
variable {X : Cx} {W : WX} {x : Str} {ps : List Str} {F : List D → Store → R D} {k j : Nat} {e : Expr} {es : List Expr} {fs : RA} {p pos : Pos}
theorem Df.mono (D : Df X.prog X.w X.K X.mg X.base x ps F k) (h : k ≤ j) : Df X.prog X.w X.K X.mg X.base x ps F j := by
  obtain ⟨f, fd, h1, h2, h3, h4⟩ := D.is_
  exact ⟨f, fd, h1, h2, h3, h4.mono h⟩
theorem Reps.len_eq {G : Gm} {μ : List Addr} {H : Hp} {ds : List D} {vs : List V} (r : Reps G μ H ds vs) : vs.length = ds.length := r.length.symm
theorem FinC_of {σ : St} {μ : List Addr} {H : Hp} {Q : VK} {r : R D} (h : Fin (gm X) (Rep (gm X)) W μ σ H Q r) : FinC (gm X) (WE W σ) μ H Q r := by
  cases r with
  | ok d M' => exact h
  | ex c gs M' => exact h
  | no => exact h
/-- the arguments are as many as the parameters -/
def rCallN (n : Nat) (F : List D → Store → R D) (fs : RA) : RE := fun ρ M => (fs ρ M).bind fun ds M1 => if ds.length = n then F ds M1 else .no
theorem call_in {n : Nat} {σ : St} {H : Hp} {Q : VK} (h : tE (gm X) W (rCallN n F fs) σ H Q) : tA (gm X) W fs σ H fun vs H1 => spD (gm X) F n vs H1 Q (WE W σ) := by
  refine (tX.bind (g := fun ds _ M => if ds.length = n then F ds M else .no) h).mono fun vs H1 ⟨μ, ρ, M, ds, hE, hS, rx, hF⟩ => ?_
  have hF : Fin (gm X) (Rep (gm X)) W μ σ H1 Q (if ds.length = n then F ds M else .no) := hF
  split at hF
  · rename_i hn
    exact ⟨μ, ds, M, by rw [rx.len_eq]; exact hn, rx, hS, FinC_of hF⟩
  · exact hF.elim
/-- f(e, ..) -/
theorem i_call (D : Df X.prog X.w X.K X.mg X.base x ps F k) (hr : Room k X.A) (hg : Gl X x) (tk : Takes X W) (ha : PA X (e :: es) (tA (gm X) W fs)) (hdb : (x == ("__debug__" : Str)) = false := by decide)
    (he : starEach (e :: es) X.env = (false, eval e X.env) :: starEach es X.env := by rfl) (hpl : (backTo pos (starEach es X.env)).any (·.1) = false := by rfl) : PE X (.Call (.Name x p) (e :: es) [] pos) (tE (gm X) W (rCallN ps.length F fs)) := by
  obtain ⟨f, fd, h1, h2, h3, h4⟩ := D.is_
  refine PEimp (pe_callSD (E := WE W) (dvs := []) h4 hr hg h1 h2 h3 .nil (fun σ => passAt tk σ) ha hdb he hpl) fun σ H Q h => ?_
  refine (call_in h).mono fun vs H1 q => ?_
  rw [List.append_nil]
  exact q
/-- f() -/
theorem i_call0 (D : Df X.prog X.w X.K X.mg X.base x [] F k) (hr : Room k X.A) (hg : Gl X x) (tk : Takes X W) (hdb : (x == ("__debug__" : Str)) = false := by decide) : PE X (.Call (.Name x p) [] [] pos) (tE (gm X) W (rCallN 0 F rNil)) := by
  obtain ⟨f, fd, h1, h2, h3, h4⟩ := D.is_
  refine ⟨fun pins s σ H Q I h => ?_⟩
  obtain ⟨μ, ρ, M, hE, hS, hF⟩ := h
  have hF : Fin (gm X) (Rep (gm X)) W μ σ H Q (F [] M) := hF
  refine wpAny_Call_Name_kw (ld_glob I hg h1 ?_ hdb)
  exact PySem.W.callWith_K0 I.kIn h2 (run_fnSD (us := []) (dvs := []) (E := WE W) h4 hr h3 .nil (passAt tk σ) I .nil ⟨μ, [], M, rfl, .nil, hS, FinC_of hF⟩)
end
end Fl

set_option Elab.async false
set_option linter.all false
set_option maxRecDepth 100000
/-! Fl, part H: statements. -/
namespace Fl
open PySem PySem.Spec L2
set_option autoImplicit false
theorem PSimp {X : Cx} {e : Stmt} {t t' : TS} (h : PS X e t) (w : ∀ D σ H, t' D σ H → t D σ H) : PS X e t' := ⟨fun pins s σ H D I q => h.run pins s σ H D I (w D σ H q)⟩
theorem PSsimp {X : Cx} {e : List Stmt} {t t' : TS} (h : PSs X e t) (w : ∀ D σ H, t' D σ H → t D σ H) : PSs X e t' := ⟨fun pins s σ H D I q => h.run pins s σ H D I (w D σ H q)⟩
theorem PGimp {X : Cx} {e : Expr} {t t' : TG} (h : PG X e t) (w : ∀ v σ H Q, t' v σ H Q → t v σ H Q) : PG X e t' := ⟨fun pins s σ H v u Q I r q => h.run pins s σ H v u Q I r (w v σ H Q q)⟩
theorem PGsimp {X : Cx} {e : List Expr} {t t' : TGs} (h : PGs X e t) (w : ∀ v σ H Q, t' v σ H Q → t v σ H Q) : PGs X e t' := ⟨fun pins s σ H v u Q I r q => h.run pins s σ H v u Q I r (w v σ H Q q)⟩
theorem PIimp {X : Cx} {tg e : Expr} {t t' : TI} (h : PI X tg e t) (w : ∀ σ H Q, t' σ H Q → t σ H Q) : PI X tg e t' := ⟨fun pins s σ H Q I q => h.run pins s σ H Q I (w σ H Q q)⟩

def FinS (G : Gm) (W : WX) (D : Ends) (μ : List Addr) (H : Hp) : Out → Prop
  | .nx ρ M => ∀ μ' σ' H', Ext H H' → μ <+: μ' → ER G μ' H' ρ σ' → SR G μ' H' M → D.nx σ' H'
  | .rt d M => ∀ μ' v H', Ext H H' → μ <+: μ' → SR G μ' H' M → Rep G μ' H' d v → D.rt v H'
  | .bk ρ M => ∀ μ' σ' H', Ext H H' → μ <+: μ' → ER G μ' H' ρ σ' → SR G μ' H' M → D.bk σ' H'
  | .ct ρ M => ∀ μ' σ' H', Ext H H' → μ <+: μ' → ER G μ' H' ρ σ' → SR G μ' H' M → D.ct σ' H'
  | .ex c fs ρ M => ∀ μ' σ' H' dx, Ext H H' → μ <+: μ' → ER G μ' H' ρ σ' → SR G μ' H' M → XR G μ' H' fs dx → W (cval G c) dx σ' H'
  | .no => False
def tS (G : Gm) (W : WX) (m : RS) : TS := fun D σ H => ∃ μ ρ M, ER G μ H ρ σ ∧ SR G μ H M ∧ FinS G W D μ H (m ρ M)
section
variable {G : Gm} {W : WX} {D : Ends} {μ μ1 : List Addr} {H H1 : Hp}
theorem FinS.later {r : Out} (e : Ext H H1) (p : μ <+: μ1) (h : FinS G W D μ H r) : FinS G W D μ1 H1 r := by
  cases r with
  | nx ρ M => exact fun μ' σ' H' e' p' => h μ' σ' H' (e.trans e') (p.trans p')
  | rt d M => exact fun μ' v H' e' p' => h μ' v H' (e.trans e') (p.trans p')
  | bk ρ M => exact fun μ' σ' H' e' p' => h μ' σ' H' (e.trans e') (p.trans p')
  | ct ρ M => exact fun μ' σ' H' e' p' => h μ' σ' H' (e.trans e') (p.trans p')
  | ex c fs ρ M => exact fun μ' σ' H' dx e' p' => h μ' σ' H' dx (e.trans e') (p.trans p')
  | no => exact h
/-- an expression, then the rest -/
theorem tX.out {α ι : Type} {rel : List Addr → Hp → α → ι → Prop} {f : RX α} {g : α → Env → Store → Out} {σ : St} (h : tS G W (fun ρ M => (f ρ M).out ρ fun a M1 => g a ρ M1) D σ H) :
    tX G rel W f σ H fun v H1 => ∃ μ ρ M a, ER G μ H1 ρ σ ∧ SR G μ H1 M ∧ rel μ H1 a v ∧ FinS G W D μ H1 (g a ρ M) := by
  obtain ⟨μ, ρ, M, hE, hS, hF⟩ := h
  have hF : FinS G W D μ H ((f ρ M).out ρ fun a M1 => g a ρ M1) := hF
  refine ⟨μ, ρ, M, hE, hS, ?_⟩
  cases q : f ρ M with
  | ok a M1 =>
    rw [q] at hF
    intro μ' v H' e p s r
    exact ⟨μ', ρ, M1, a, hE.ext e p, s, r, FinS.later e p hF⟩
  | ex c fs M1 =>
    rw [q] at hF
    exact fun μ' H' dx e p s x => hF μ' σ H' dx e p (hE.ext e p) s x
  | no =>
    rw [q] at hF
    exact hF
end
/-! ### blocks, small statements -/
def rSkip : RS := fun ρ M => .nx ρ M
def rSeq (a b : RS) : RS := fun ρ M => (a ρ M).bind b
def rExpr (f : RE) : RS := fun ρ M => (f ρ M).out ρ fun _ M1 => .nx ρ M1
def rRet (f : RE) : RS := fun ρ M => (f ρ M).out ρ fun d M1 => .rt d M1
def rRetN : RS := fun _ M => .rt (.p .non) M
def rBreak : RS := fun ρ M => .bk ρ M
def rCont : RS := fun ρ M => .ct ρ M
def rIfS (t : RT) (a b : RS) : RS := fun ρ M => (t ρ M).out ρ fun k M1 => match k with
  | true => a ρ M1
  | false => b ρ M1
section
variable {X : Cx} {W : WX} {e c : Expr} {st : Stmt} {rest sa sb : List Stmt} {a b : RS} {fe : RE} {tc : RT} {pos : Pos}
theorem s_nil : PSs X [] (tS (gm X) W rSkip) := PSsimp pss_nil fun D σ H h => by
  obtain ⟨μ, ρ, M, hE, hS, hF⟩ := h
  exact hF μ σ H (.refl _) (List.prefix_refl _) hE hS
theorem tS_seq {D : Ends} {σ : St} {H : Hp} (h : tS (gm X) W (rSeq a b) D σ H) : tSeq (tS (gm X) W a) (tS (gm X) W b) D σ H := by
  obtain ⟨μ, ρ, M, hE, hS, hF⟩ := h
  have hF : FinS (gm X) W D μ H ((a ρ M).bind b) := hF
  refine ⟨μ, ρ, M, hE, hS, ?_⟩
  cases q : a ρ M with
  | nx ρ' M' =>
    rw [q] at hF
    intro μ' σ' H' e p hE' hS'
    exact ⟨μ', ρ', M', hE', hS', FinS.later e p hF⟩
  | rt d M' => rw [q] at hF; exact hF
  | bk ρ' M' => rw [q] at hF; exact hF
  | ct ρ' M' => rw [q] at hF; exact hF
  | ex c fs ρ' M' => rw [q] at hF; exact hF
  | no => rw [q] at hF; exact hF
theorem s_cons (h1 : PS X st (tS (gm X) W a)) (h2 : PSs X rest (tS (gm X) W b)) : PSs X (st :: rest) (tS (gm X) W (rSeq a b)) := PSsimp (pss_cons h1 h2) fun _ _ _ h => tS_seq h
theorem s_one (h1 : PS X st (tS (gm X) W a)) : PSs X [st] (tS (gm X) W a) := pss_one h1
theorem s_pass : PS X (.Pass pos) (tS (gm X) W rSkip) := PSimp ps_pass fun D σ H h => by
  obtain ⟨μ, ρ, M, hE, hS, hF⟩ := h
  exact hF μ σ H (.refl _) (List.prefix_refl _) hE hS
theorem s_break : PS X (.Break pos) (tS (gm X) W rBreak) := PSimp ps_break fun D σ H h => by
  obtain ⟨μ, ρ, M, hE, hS, hF⟩ := h
  exact hF μ σ H (.refl _) (List.prefix_refl _) hE hS
theorem s_cont : PS X (.Continue pos) (tS (gm X) W rCont) := PSimp ps_continue fun D σ H h => by
  obtain ⟨μ, ρ, M, hE, hS, hF⟩ := h
  exact hF μ σ H (.refl _) (List.prefix_refl _) hE hS
theorem s_expr (he : PE X e (tE (gm X) W fe)) (hs : swapsWith e none pos.line X.env = pure false := by rfl) : PS X (.Expr e pos) (tS (gm X) W (rExpr fe)) :=
  PSimp (ps_expr he hs) fun D σ H h => (tX.out h).mono fun v H1 ⟨μ, ρ, M, x, hE, hS, rx, hF⟩ => hF μ σ H1 (.refl _) (List.prefix_refl _) hE hS
theorem s_ret (he : PE X e (tE (gm X) W fe)) : PS X (.Return (some e) pos) (tS (gm X) W (rRet fe)) :=
  PSimp (ps_ret he) fun D σ H h => (tX.out h).mono fun v H1 ⟨μ, ρ, M, x, hE, hS, rx, hF⟩ => hF μ v H1 (.refl _) (List.prefix_refl _) hS rx
theorem s_retN : PS X (.Return none pos) (tS (gm X) W rRetN) := PSimp ps_retN fun D σ H h => by
  obtain ⟨μ, ρ, M, hE, hS, hF⟩ := h
  exact hF μ .non H (.refl _) (List.prefix_refl _) hS (Rep.non.mpr rfl)
theorem s_if (hc : PT X c (tT (gm X) W tc)) (ha : PSs X sa (tS (gm X) W a)) (hb : PSs X sb (tS (gm X) W b)) : PS X (.If c sa sb pos) (tS (gm X) W (rIfS tc a b)) :=
  PSimp (ps_if hc ha hb) fun D σ H h => by
    refine (tX.out (rel := fun _ _ (a b : Bool) => a = b) (g := fun k ρ M => match k with | true => a ρ M | false => b ρ M) h).mono fun k H1 ⟨μ, ρ, M, x, hE, hS, rx, hF⟩ => ?_
    subst rx
    cases x with
    | true => exact iteT ⟨μ, ρ, M, hE, hS, hF⟩
    | false => exact iteF ⟨μ, ρ, M, hE, hS, hF⟩
end
/-! ### targets -/
abbrev RG := D → Env → Store → Option (Env × Store)
def FinG (G : Gm) (μ : List Addr) (H : Hp) (Q : St → Hp → Prop) : Option (Env × Store) → Prop
  | some (ρ, M) => ∀ μ' σ' H', Ext H H' → μ <+: μ' → ER G μ' H' ρ σ' → SR G μ' H' M → Q σ' H'
  | none => False
def tG (G : Gm) (g : RG) : TG := fun v σ H Q => ∃ μ ρ M d, ER G μ H ρ σ ∧ SR G μ H M ∧ Rep G μ H d v ∧ FinG G μ H Q (g d ρ M)
abbrev RGs := List D → Env → Store → Option (Env × Store)
def tGs (G : Gm) (g : RGs) : TGs := fun vs σ H Q => ∃ μ ρ M ds, ER G μ H ρ σ ∧ SR G μ H M ∧ Reps G μ H ds vs ∧ FinG G μ H Q (g ds ρ M)
theorem FinG.later {G : Gm} {μ μ1 : List Addr} {H H1 : Hp} {Q : St → Hp → Prop} {r : Option (Env × Store)} (e : Ext H H1) (p : μ <+: μ1) (h : FinG G μ H Q r) : FinG G μ1 H1 Q r := by
  cases r with
  | some q => obtain ⟨ρ, M⟩ := q; exact fun μ' σ' H' e' p' => h μ' σ' H' (e.trans e') (p.trans p')
  | none => exact h
def gNm (i : Nat) : RG := fun d ρ M => some (ρ.set i (some d), M)
def gNi : RGs := fun ds ρ M => match ds with
  | [] => some (ρ, M)
  | _ :: _ => none
def gCo (g : RG) (gs : RGs) : RGs := fun ds ρ M => match ds with
  | [] => none
  | d :: r => (match g d ρ M with
    | some (ρ1, M1) => gs r ρ1 M1
    | none => none)
/-- the items of a tuple -/
def tupD : D → Option (List D)
  | .p (.tup xs) => some (xs.map D.p)
  | .tup xs => some xs
  | _ => none
def gTp (n : Nat) (gs : RGs) : RG := fun d ρ M => match tupD d with
  | some xs => if xs.length = n then gs xs ρ M else none
  | none => none
def rAsg (f : RE) (g : RG) : RS := fun ρ M => (f ρ M).out ρ fun d M1 => match g d ρ M1 with
  | some (ρ2, M2) => .nx ρ2 M2
  | none => .no
def rSet (i : Nat) (f : RE) : RS := fun ρ M => (f ρ M).out ρ fun d M1 => .nx (ρ.set i (some d)) M1
def rPar (i j : Nat) (f : RA) : RS := fun ρ M => (f ρ M).out ρ fun ds M1 => match ds with
  | [x, y] => .nx ((ρ.set i (some x)).set j (some y)) M1
  | _ => .no
section
variable {X : Cx} {W : WX} {e tg : Expr} {es : List Expr} {fe : RE} {g : RG} {gs : RGs} {fs : RA} {pos : Pos}
theorem tupD_ok {G : Gm} {μ : List Addr} {H : Hp} {d : D} {v : V} {xs : List D} (r : Rep G μ H d v) (h : tupD d = some xs) : ∃ a vs, v = .ref a ∧ SqT G.K H a vs ∧ Reps G μ H xs vs := by
  unfold tupD at h
  split at h
  · cases h
    obtain ⟨a, vs, rfl, h1, h2⟩ := Rep.ptup.mp r
    exact ⟨a, vs, rfl, h1, Reps.of_P h2⟩
  · cases h
    exact Rep.tup.mp r
  · cases h
theorem g_nm (i : Nat) {x : Str} (hN : X.N.Nodup) (hi : X.N[i]? = some x := by rfl) (hx : Loc X.env.scope x := by first | exact Or.inl rfl | exact Or.inr rfl) (hf : X.fn x = true ∨ X.env.scope.names.lookup x = some .local := by first | exact .inl rfl | exact .inr rfl | assumption) : PG X (.Name x pos) (tG (gm X) (gNm i)) :=
  PGimp (pg_name hN hi hx hf) fun v σ H Q h => by
    obtain ⟨μ, ρ, M, d, hE, hS, r, hF⟩ := h
    exact hF μ _ H (.refl _) (List.prefix_refl _) (hE.set i r) hS
theorem g_nil : PGs X [] (tGs (gm X) gNi) := PGsimp pgs_nil fun v σ H Q h => by
  obtain ⟨μ, ρ, M, ds, hE, hS, r, hF⟩ := h
  cases ds with
  | nil => exact ⟨r.inv0, hF μ _ H (.refl _) (List.prefix_refl _) hE hS⟩
  | cons d ds => exact hF.elim
theorem g_cons (h1 : PG X e (tG (gm X) g)) (h2 : PGs X es (tGs (gm X) gs)) (hs : (assignEach (e :: es) X.env).map (·.2) = assign e X.env :: (assignEach es X.env).map (·.2) := by rfl) : PGs X (e :: es) (tGs (gm X) (gCo g gs)) :=
  PGsimp (pgs_cons h1 h2 hs) fun v σ H Q h => by
    obtain ⟨μ, ρ, M, ds, hE, hS, r, hF⟩ := h
    cases ds with
    | nil => exact hF.elim
    | cons d ds =>
      obtain ⟨v, vr, rfl, r1, r2⟩ := r.inv
      refine ⟨v, vr, rfl, μ, ρ, M, d, hE, hS, r1, ?_⟩
      have hF : FinG (gm X) μ H Q (match g d ρ M with
        | some (ρ1, M1) => gs ds ρ1 M1
        | none => none) := hF
      cases q : g d ρ M with
      | none => rw [q] at hF; exact hF.elim
      | some p =>
        obtain ⟨ρ1, M1⟩ := p
        rw [q] at hF
        exact fun μ' σ' H' e p hE' hS' => ⟨μ', ρ1, M1, ds, hE', hS', r2.ext e p, FinG.later e p hF⟩
theorem g_tup {k n : Nat} (hc : X.calm = true) (h : PGs X es (tGs (gm X) gs)) (hn : (assignEach es X.env).length = n := by rfl) (hst : (assignEach es X.env).findIdx? (·.1) = none := by rfl) : PG X (.Tuple es k pos) (tG (gm X) (gTp n gs)) :=
  PGimp (pg_tup hc h hn hst) fun v σ H Q h => by
    obtain ⟨μ, ρ, M, d, hE, hS, r, hF⟩ := h
    have hF : FinG (gm X) μ H Q (match tupD d with
      | some xs => if xs.length = n then gs xs ρ M else none
      | none => none) := hF
    cases q : tupD d with
    | none => rw [q] at hF; exact hF.elim
    | some xs =>
      rw [q] at hF
      obtain ⟨a, vs, rfl, h1, h2⟩ := tupD_ok r q
      have hF : FinG (gm X) μ H Q (if xs.length = n then gs xs ρ M else none) := hF
      split at hF
      · rename_i hl
        exact ⟨a, vs, rfl, h1, by rw [h2.len_eq]; exact hl, μ, ρ, M, xs, hE, hS, h2, hF⟩
      · exact hF.elim
theorem s_asg (he : PE X e (tE (gm X) W fe)) (hg : PG X tg (tG (gm X) g)) (hs : swapsWithSole [tg] e pos.line X.env = pure false := by rfl) (hw : swappedStores [tg] e X.env = pure none := by rfl)
    (h1 : (assignEach [tg] X.env).map (·.2) = [assign tg X.env] := by rfl) : PS X (.Assign [tg] e pos) (tS (gm X) W (rAsg fe g)) :=
  PSimp (ps_asg he hg hs hw h1) fun D σ H h => by
    refine (tX.out (g := fun d ρ M => match g d ρ M with | some (ρ2, M2) => .nx ρ2 M2 | none => .no) h).mono fun v H1 ⟨μ, ρ, M, x, hE, hS, rx, hF⟩ => ⟨μ, ρ, M, x, hE, hS, rx, ?_⟩
    have hF : FinS (gm X) W D μ H1 (match g x ρ M with | some (ρ2, M2) => .nx ρ2 M2 | none => .no) := hF
    cases q : g x ρ M with
    | none => rw [q] at hF; exact hF.elim
    | some p => rw [q] at hF; exact hF
theorem s_set (i : Nat) {x : Str} {pos' : Pos} (he : PE X e (tE (gm X) W fe)) (hN : X.N.Nodup) (hi : X.N[i]? = some x := by rfl) (hx : Loc X.env.scope x := by first | exact Or.inl rfl | exact Or.inr rfl)
    (hs : swapsWith e (some (.Name x pos')) pos.line X.env = pure false := by rfl) (hf : X.fn x = true ∨ X.env.scope.names.lookup x = some .local := by first | exact .inl rfl | exact .inr rfl | assumption) :
    PS X (.Assign [.Name x pos'] e pos) (tS (gm X) W (rSet i fe)) :=
  PSimp (ps_set hN hi hx he hs hf) fun D σ H h => (tX.out h).mono fun v H1 ⟨μ, ρ, M, x, hE, hS, rx, hF⟩ => hF μ _ H1 (.refl _) (List.prefix_refl _) (hE.set i rx) hS
/-- a, b = x, y -/
theorem s_par (i j : Nat) {x y : Str} {a b : Expr} {px py pt : Pos} {kt k2 : Nat} {pt2 : Pos} (ha : PA X [a, b] (tA (gm X) W fs)) (hc : X.calm = true) (hN : X.N.Nodup) (hi : X.N[i]? = some x := by rfl) (hj : X.N[j]? = some y := by rfl) (hij : i ≠ j := by decide)
    (hx : X.env.scope.names.lookup x = some .local := by rfl) (hy : X.env.scope.names.lookup y = some .local := by rfl)
    (hw : swappedStores [.Tuple [.Name x px, .Name y py] kt pt] (.Tuple [a, b] k2 pt2) X.env = pure (some [x, y]) := by rfl)
    (hs : swapsWithSole [.Tuple [.Name x px, .Name y py] kt pt] (.Tuple [a, b] k2 pt2) pos.line X.env = pure false := by rfl) :
    PS X (.Assign [.Tuple [.Name x px, .Name y py] kt pt] (.Tuple [a, b] k2 pt2) pos) (tS (gm X) W (rPar i j fs)) :=
  PSimp (ps_par hc hN hi hj hij hx hy ha hw hs) fun D σ H h => by
    refine (tX.out (rel := Reps (gm X)) (g := fun ds ρ M1 => match ds with | [x, y] => .nx ((ρ.set i (some x)).set j (some y)) M1 | _ => .no) h).mono fun vs H1 ⟨μ, ρ, M, ds, hE, hS, rx, hF⟩ => ?_
    match ds, rx, hF with
    | [], _, hF => exact hF.elim
    | [_], _, hF => exact hF.elim
    | [d1, d2], rx, hF =>
      obtain ⟨v, u, rfl, r1, r2⟩ := rx.inv2
      exact ⟨v, u, rfl, hF μ _ H1 (.refl _) (List.prefix_refl _) ((hE.set i r1).set j r2) hS⟩
    | _ :: _ :: _ :: _, _, hF => exact hF.elim
end
/-! ### x op= e -/
def rAug (i : Nat) (op : D → D → Store → Option (D × Store)) (f : RE) : RS := fun ρ M => match ρ[i]? with
  | some (some x) => (f ρ M).out ρ fun y M1 => (match op x y M1 with
    | some (z, M2) => .nx (ρ.set i (some z)) M2
    | none => .no)
  | _ => .no
section
variable {X : Cx} {W : WX} {e : Expr} {fe : RE} {pos : Pos}
theorem s_aug (i : Nat) {x : Str} {o : Operator} {op r} {pos' : Pos} (ho : OpR X (inplaceOp o) r) (hd : OpD (gm X) op r) (he : PE X e (tE (gm X) W fe)) (hN : X.N.Nodup) (hi : X.N[i]? = some x := by rfl) (hx : Loc X.env.scope x := by first | exact Or.inl rfl | exact Or.inr rfl)
    (hf : X.fn x = true ∨ X.env.scope.names.lookup x = some .local := by first | exact .inl rfl | exact .inr rfl | assumption) : PS X (.AugAssign (.Name x pos') o e pos) (tS (gm X) W (rAug i op fe)) :=
  PSimp (ps_aug hN hi hx he (show PIp X o r from fun pins s σ H x y v u Q I r1 r2 h => ho pins s σ H x y v u Q I r1 r2 h) hf) fun D σ H h => by
    obtain ⟨μ, ρ, M, hE, hS, hF⟩ := h
    unfold rAug at hF
    split at hF
    · rename_i x e0
      obtain ⟨v, e1, r1⟩ := hE.at_ i x e0
      refine ⟨v, e1, ?_⟩
      refine ⟨μ, ρ, M, hE, hS, ?_⟩
      cases q : fe ρ M with
      | ok y M1 =>
        rw [q] at hF
        intro μ' u H' e p s r2
        have hF : FinS (gm X) W D μ H (match op x y M1 with
          | some (z, M2) => .nx (ρ.set i (some z)) M2
          | none => .no) := hF
        cases q2 : op x y M1 with
        | none => rw [q2] at hF; exact hF.elim
        | some zz =>
          obtain ⟨z, M2⟩ := zz
          rw [q2] at hF
          refine hd μ' H' M1 x y v u _ z M2 s (r1.ext e p) r2 q2 fun μ3 w H3 e3 p3 s3 r3 => ?_
          exact hF μ3 _ H3 (e.trans e3) (p.trans p3) ((hE.ext (e.trans e3) (p.trans p3)).set i r3) s3
      | ex c fs M1 =>
        rw [q] at hF
        exact fun μ' H' dx e p s x => hF μ' σ H' dx e p (hE.ext e p) s x
      | no =>
        rw [q] at hF
        exact hF
    · exact hF.elim
abbrev rAddI : R2 := fun x y H Q => (∃ i j, x = .int i ∧ y = .int j ∧ Q (.int (i + j)) H) ∨ (∃ i j, x = .str i ∧ y = .str j ∧ i.length + j.length ≤ sizeLine ∧ Q (.str (i ++ j)) H)
def dAddI : D → D → Store → Option (D × Store)
  | .p (.int i), .p (.int j), M => some (.p (.int (i + j)), M)
  | .p (.str x), .p (.str y), M => if x.length + y.length ≤ sizeLine then some (.p (.str (x ++ y)), M) else none
  | _, _, _ => none
theorem o_iadd : OpR X (inplaceOp .Add) rAddI := iop_add.or iop_add_str
theorem o_isub : OpR X (inplaceOp .Sub) (rI0 fun i j => .int (i - j)) := iop_sub
theorem o_imul : OpR X (inplaceOp .Mult) (rI CMul fun i j => .int (i * j)) := iop_mul
theorem d_iadd {G : Gm} : OpD G dAddI rAddI := by
  intro μ H M x y v u Q d M' S rx ry q k
  unfold dAddI at q
  split at q
  · cases q
    rw [Rep.int] at rx ry
    exact .inl ⟨_, _, rx, ry, k μ _ H (.refl H) (List.prefix_refl _) S (Rep.int.mpr rfl)⟩
  · split at q
    · rename_i h
      cases q
      rw [Rep.str] at rx ry
      exact .inr ⟨_, _, rx, ry, h, k μ _ H (.refl H) (List.prefix_refl _) S (Rep.str.mpr rfl)⟩
    · cases q
  · cases q
end
end Fl

set_option Elab.async false
set_option linter.all false
set_option maxRecDepth 100000
/-! Fl, part I: loops, raise, try, a def's promise. -/
namespace Fl
open PySem PySem.Spec L2
set_option autoImplicit false
/-! ### for -/
/-- what must stand as it stood while a loop walks: nothing, or an object of the store -/
def chk : Option (Nat × O) → Store → Prop
  | none, _ => True
  | some (l, o), M => M[l]? = some o
open Classical in
noncomputable def forL (k : Option (Nat × O)) (g : RG) (body : RS) : List D → Env → Store → Out
  | [], ρ, M => if chk k M then .nx ρ M else .no
  | x :: xs, ρ, M => if chk k M then (match g x ρ M with
      | some (ρ1, M1) => (match body ρ1 M1 with
        | .nx ρ2 M2 => forL k g body xs ρ2 M2
        | .ct ρ2 M2 => forL k g body xs ρ2 M2
        | .bk ρ2 M2 => .nx ρ2 M2
        | o => o)
      | none => .no) else .no
/-- the items of what is walked, and what must stand -/
def walkD : D → Store → Option (List D × Option (Nat × O))
  | .p (.tup xs), _ => some (xs.map D.p, none)
  | .tup xs, _ => some (xs, none)
  | .ref l, M => (match M[l]? with
    | some (.lst xs) => some (xs, some (l, .lst xs))
    | some (.ro xs) => some (xs, some (l, .ro xs))
    | _ => none)
  | _, _ => none
noncomputable def rFor (f : RE) (g : RG) (body : RS) : RS := fun ρ M => (f ρ M).out ρ fun d M1 => match walkD d M1 with
  | some (xs, k) => forL k g body xs ρ M1
  | none => .no
def intsD (lo : Int) (n : Nat) : List D := (List.range n).map fun (i : Nat) => D.p (.int (lo + (i : Int)))
def rng1 : List D → Option (Int × Nat)
  | [.p (.int j)] => if -(2 ^ 62) ≤ j ∧ j < 2 ^ 62 then some (0, j.toNat) else none
  | _ => none
def rng2 : List D → Option (Int × Nat)
  | [.p (.int i), .p (.int j)] => if -(2 ^ 62) ≤ i ∧ i < 2 ^ 62 ∧ -(2 ^ 62) ≤ j ∧ j < 2 ^ 62 then some (i, (j - i).toNat) else none
  | _ => none
noncomputable def rForR (rg : List D → Option (Int × Nat)) (f : RA) (g : RG) (body : RS) : RS := fun ρ M => (f ρ M).out ρ fun ds M1 => match rg ds with
  | some (lo, n) => forL none g body (intsD lo n) ρ M1
  | none => .no
section
variable {X : Cx} {W : WX} {e tg : Expr} {fe : RE} {g : RG} {body : RS} {fs : RA} {pos : Pos} {sb : List Stmt}
/-- a row, walked: a list or a tuple -/
def iRow (K : PySem.W.Frag) (tl : TE) : TI := fun σ H R => tl σ H fun x H1 => ∃ a, x = .ref a ∧ (((∃ xs, SqL K H1 a xs) ∧ R (Itl K a) H1) ∨ ((∃ xs, SqT K H1 a xs) ∧ R (Itt K a) H1))
theorem pi_row {l : Expr} {tl : TE} (hl : PE X l tl) : PI X tg l (iRow X.K tl) := by
  refine ⟨fun pins s σ H R I h => ?_⟩
  refine thn (hl.run pins s σ H _ I h) fun v s1 ⟨x, H1, I1, r1, q1⟩ => ?_
  obtain ⟨a, e, q1⟩ := q1
  subst e
  cases r1
  rcases q1 with ⟨⟨xs, hq⟩, q⟩ | ⟨⟨xs, hq⟩, q⟩
  · obtain ⟨its, rv, p, hz⟩ := I1.list hq
    refine wpAny_pyIter_list p.isList ?_
    refine ⟨s1.heap.objs.size, [s1.heap.objs.size], _, _, H1, rfl, I1.kept (t' := s1.toks) fun b o e => Heap.get?_push_of_some _ e, turn_list a _, ⟨_, Heap.get?_push_size _ rfl, rfl, rfl⟩, fun b hb => ?_, q⟩
    have e : b = s1.heap.objs.size := by simpa using hb
    subst e
    exact I1.fpOk (Nat.le_refl _) (I1.hok.fresh (Nat.le_refl _))
  · obtain ⟨its, rv, p, hz⟩ := I1.tuple hq
    refine wpAny_pyIter_tuple (show s1.heap.IsTuple a its.toArray from p) ?_
    refine ⟨s1.heap.objs.size, [s1.heap.objs.size], _, _, H1, rfl, I1.kept (t' := s1.toks) fun b o e => Heap.get?_push_of_some _ e, turn_tuple a _, ⟨_, Heap.get?_push_size _ rfl, rfl, rfl⟩, fun b hb => ?_, q⟩
    have e : b = s1.heap.objs.size := by simpa using hb
    subst e
    exact I1.fpOk (Nat.le_refl _) (I1.hok.fresh (Nat.le_refl _))
theorem loop_by {J : It} {g : TG} {tb : TS} {D : Ends} {σ : St} {H : Hp} (n : Nat) (Pv : Nat → St → Hp → Prop) (h0 : Pv 0 σ H) (hgo : ∀ i σ H, i < n → Pv i σ H → J.go i H) (hstop : ∀ σ H, Pv n σ H → J.stop n H)
    (hs : ∀ i x σ H H', i < n → Pv i σ H → J.yld i H x H' → g x σ H' fun σ2 H2 => tb { D with nx := Pv (i + 1), ct := Pv (i + 1), bk := D.nx } σ2 H2) (hd : ∀ σ H, Pv n σ H → D.nx σ H) :
    ∃ W : Nat → Nat → St → Hp → Prop, (∃ m, W 0 m σ H) ∧ ∀ i m σ H, W i m σ H →
      (J.stop i H ∧ D.nx σ H) ∨ (J.go i H ∧ ∃ N : St → Hp → Prop, (∀ σ' H', N σ' H' → ∃ m', m' < m ∧ W (i + 1) m' σ' H') ∧ ∀ x H', J.yld i H x H' → g x σ H' fun σ2 H2 => tb { D with nx := N, ct := N, bk := D.nx } σ2 H2) := by
  refine ⟨fun i m σ H => m = n - i ∧ i ≤ n ∧ Pv i σ H, ⟨n, by simp, Nat.zero_le _, h0⟩, ?_⟩
  rintro i m σ H ⟨rfl, hi, p⟩
  by_cases hlt : i < n
  · exact .inr ⟨hgo i σ H hlt p, Pv (i + 1), fun σ' H' p' => ⟨n - (i + 1), by omega, rfl, hlt, p'⟩, fun x H' y => hs i x σ H H' hlt p y⟩
  · have e : i = n := by omega
    rw [e] at p ⊢
    exact .inl ⟨hstop σ H p, hd σ H p⟩
theorem loop_chk {D : Ends} {k} {μ : List Addr} {H : Hp} {xs : List Fl.D} {ρ : Env} {M : Store} (h : FinS (gm X) W D μ H (forL k g body xs ρ M)) : chk k M := by
  cases xs with
  | nil =>
    unfold forL at h
    split at h
    · assumption
    · exact h.elim
  | cons x xs =>
    unfold forL at h
    split at h
    · assumption
    · exact h.elim
/-- a walk whose items stand for xs: B tells what stays of it -/
theorem loop_gen {J : It} {D : Ends} {k : Option (Nat × O)} {xs : List Fl.D} {μ : List Addr} {ρ : Env} {M : Store} {σ : St} {H : Hp} (B : List Addr → Hp → Prop) (mono : ∀ μ μ' H H', Ext H H' → μ <+: μ' → B μ H → B μ' H')
    (hgo : ∀ i μ H M, i < xs.length → SR (gm X) μ H M → B μ H → chk k M → J.go i H) (hstop : ∀ μ H M, SR (gm X) μ H M → B μ H → chk k M → J.stop xs.length H)
    (hyld : ∀ i μ H M v H', i < xs.length → SR (gm X) μ H M → B μ H → chk k M → J.yld i H v H' → ∃ d, xs[i]? = some d ∧ Ext H H' ∧ SR (gm X) μ H' M ∧ Rep (gm X) μ H' d v)
    (hE : ER (gm X) μ H ρ σ) (hS : SR (gm X) μ H M) (hB : B μ H) (hF : FinS (gm X) W D μ H (forL k g body xs ρ M)) :
    ∃ W' : Nat → Nat → St → Hp → Prop, (∃ m, W' 0 m σ H) ∧ ∀ i m σ H, W' i m σ H →
      (J.stop i H ∧ D.nx σ H) ∨ (J.go i H ∧ ∃ N : St → Hp → Prop, (∀ σ' H', N σ' H' → ∃ m', m' < m ∧ W' (i + 1) m' σ' H') ∧ ∀ x H', J.yld i H x H' → tG (gm X) g x σ H' fun σ2 H2 => tS (gm X) W body { D with nx := N, ct := N, bk := D.nx } σ2 H2) := by
  refine loop_by xs.length (fun i σ H => ∃ μ ρ M, ER (gm X) μ H ρ σ ∧ SR (gm X) μ H M ∧ B μ H ∧ FinS (gm X) W D μ H (forL k g body (xs.drop i) ρ M)) ⟨μ, ρ, M, hE, hS, hB, hF⟩ ?_ ?_ ?_ ?_
  · rintro i σ H hi ⟨μ, ρ, M, hE, hS, hB, hF⟩
    exact hgo i μ H M hi hS hB (loop_chk hF)
  · rintro σ H ⟨μ, ρ, M, hE, hS, hB, hF⟩
    exact hstop μ H M hS hB (loop_chk hF)
  · rintro i v σ H H1 hi ⟨μ, ρ, M, hE, hS, hB, hF⟩ y
    obtain ⟨x, hx, ex, hS1, r⟩ := hyld i μ H M v H1 hi hS hB (loop_chk hF) y
    have hE1 := hE.ext ex (List.prefix_refl _)
    have hB1 := mono _ _ _ _ ex (List.prefix_refl _) hB
    have hF := FinS.later ex (List.prefix_refl _) hF
    obtain ⟨hi', e⟩ := List.getElem?_eq_some_iff.mp hx
    rw [List.drop_eq_getElem_cons hi', e] at hF
    unfold forL at hF
    split at hF
    · refine ⟨μ, ρ, M, x, hE1, hS1, r, ?_⟩
      cases q : g x ρ M with
      | none => rw [q] at hF; exact hF.elim
      | some p =>
        obtain ⟨ρ1, M1⟩ := p
        rw [q] at hF
        intro μ' σ' H' ex pr hE' hS'
        refine ⟨μ', ρ1, M1, hE', hS', ?_⟩
        have hF : FinS (gm X) W D μ H1 (match body ρ1 M1 with
          | .nx ρ2 M2 => forL k g body (xs.drop (i + 1)) ρ2 M2
          | .ct ρ2 M2 => forL k g body (xs.drop (i + 1)) ρ2 M2
          | .bk ρ2 M2 => .nx ρ2 M2
          | o => o) := hF
        cases q2 : body ρ1 M1 with
        | nx ρ2 M2 => rw [q2] at hF; exact fun μ3 σ3 H3 e3 p3 E3 S3 => ⟨μ3, ρ2, M2, E3, S3, mono _ _ _ _ (ex.trans e3) (pr.trans p3) hB1, FinS.later (ex.trans e3) (pr.trans p3) hF⟩
        | ct ρ2 M2 => rw [q2] at hF; exact fun μ3 σ3 H3 e3 p3 E3 S3 => ⟨μ3, ρ2, M2, E3, S3, mono _ _ _ _ (ex.trans e3) (pr.trans p3) hB1, FinS.later (ex.trans e3) (pr.trans p3) hF⟩
        | bk ρ2 M2 => rw [q2] at hF; exact fun μ3 σ3 H3 e3 p3 => hF μ3 σ3 H3 (ex.trans e3) (pr.trans p3)
        | rt d M2 => rw [q2] at hF; exact fun μ3 v3 H3 e3 p3 => hF μ3 v3 H3 (ex.trans e3) (pr.trans p3)
        | ex c fs ρ2 M2 => rw [q2] at hF; exact fun μ3 σ3 H3 dx e3 p3 => hF μ3 σ3 H3 dx (ex.trans e3) (pr.trans p3)
        | no => rw [q2] at hF; exact hF.elim
    · exact hF.elim
  · rintro σ H ⟨μ, ρ, M, hE, hS, hB, hF⟩
    rw [List.drop_length] at hF
    unfold forL at hF
    split at hF
    · exact hF μ σ H (.refl _) (List.prefix_refl _) hE hS
    · exact hF.elim
theorem SR.list_at {G : Gm} {μ : List Addr} {H : Hp} {M : Store} {l : Nat} {a : Addr} {o : O} {xs : List Fl.D} (S : SR G μ H M) (ha : μ[l]? = some a) (e : M[l]? = some o) (h : o = .lst xs ∨ o = .ro xs) : ∃ vs, SqL G.K H a vs ∧ Reps G μ H xs vs := by
  rcases h with h | h
  · subst h
    obtain ⟨vs, h1, h2⟩ := S.obj l a _ ha e
    exact ⟨vs, SqL.of h1, h2⟩
  · subst h
    obtain ⟨vs, h1, h2⟩ := S.obj l a _ ha e
    exact ⟨vs, h1.sql, h2⟩
abbrev LoopW (X : Cx) (W : WX) (g : RG) (body : RS) (J : It) (D : Ends) (σ : St) (H : Hp) : Prop := ∃ W' : Nat → Nat → St → Hp → Prop, (∃ m, W' 0 m σ H) ∧ ∀ i m σ H, W' i m σ H →
      (J.stop i H ∧ D.nx σ H) ∨ (J.go i H ∧ ∃ N : St → Hp → Prop, (∀ σ' H', N σ' H' → ∃ m', m' < m ∧ W' (i + 1) m' σ' H') ∧ ∀ x H', J.yld i H x H' → tG (gm X) g x σ H' fun σ2 H2 => tS (gm X) W body { D with nx := N, ct := N, bk := D.nx } σ2 H2)
theorem tup_loop {D : Ends} {μ : List Addr} {ρ : Env} {M : Store} {σ : St} {H1 : Hp} {xs : List Fl.D} {a : Addr} {vs : List V} (hE : ER (gm X) μ H1 ρ σ) (hS : SR (gm X) μ H1 M) (h1 : SqT X.K H1 a vs) (h2 : Reps (gm X) μ H1 xs vs) (hF : FinS (gm X) W D μ H1 (forL none g body xs ρ M)) : LoopW X W g body (Itt X.K a) D σ H1 := by
  refine loop_gen (X := X) (W := W) (J := Itt X.K a) (k := none) (xs := xs) (fun μ H => SqT X.K H a vs ∧ Reps (gm X) μ H xs vs) (fun _ _ _ _ e p z => ⟨e.sqt z.1, z.2.ext e p⟩) ?_ ?_ ?_ hE hS ⟨h1, h2⟩ hF
  · rintro i μ H M hi _ ⟨z1, z2⟩ _
    obtain ⟨w, hw, _⟩ := z2.get (List.getElem?_eq_getElem hi)
    exact ⟨vs, w, z1, hw⟩
  · rintro μ H M _ ⟨z1, z2⟩ _
    exact ⟨vs, z1, by rw [z2.len_eq]; exact Nat.le_refl _⟩
  · rintro i μ H M w H' hi S ⟨z1, z2⟩ _ ⟨rfl, y⟩
    obtain ⟨w', hw, r⟩ := z2.get (List.getElem?_eq_getElem hi)
    have := (y vs z1).symm.trans hw
    cases this
    exact ⟨_, List.getElem?_eq_getElem hi, .refl _, S, r⟩
theorem lst_loop {D : Ends} {μ : List Addr} {ρ : Env} {M : Store} {σ : St} {H1 : Hp} {xs : List Fl.D} {a : Addr} {l : Nat} {o : O} (hE : ER (gm X) μ H1 ρ σ) (hS : SR (gm X) μ H1 M) (ha : μ[l]? = some a) (hk : o = .lst xs ∨ o = .ro xs) (hF : FinS (gm X) W D μ H1 (forL (some (l, o)) g body xs ρ M)) : LoopW X W g body (Itl X.K a) D σ H1 := by
  refine loop_gen (X := X) (W := W) (J := Itl X.K a) (k := some (l, o)) (xs := xs) (fun μ H => μ[l]? = some a) (fun _ _ _ _ e p z => pre_get p z) ?_ ?_ ?_ hE hS ha hF
  · rintro i μ H M hi S z c
    obtain ⟨vs, z1, z2⟩ := SR.list_at S z c hk
    obtain ⟨w, hw, _⟩ := z2.get (List.getElem?_eq_getElem hi)
    exact ⟨vs, w, z1, hw⟩
  · rintro μ H M S z c
    obtain ⟨vs, z1, z2⟩ := SR.list_at S z c hk
    exact ⟨vs, z1, by rw [z2.len_eq]; exact Nat.le_refl _⟩
  · rintro i μ H M w H' hi S z c ⟨rfl, y⟩
    obtain ⟨vs, z1, z2⟩ := SR.list_at S z c hk
    obtain ⟨w', hw, r⟩ := z2.get (List.getElem?_eq_getElem hi)
    have := (y vs z1).symm.trans hw
    cases this
    exact ⟨_, List.getElem?_eq_getElem hi, .refl _, S, r⟩
theorem s_for (hp : PassesOwn (model X.prog X.w) X.A X.env X.xe) (hc : X.calm = true) (he : PE X e (tE (gm X) W fe)) (hg : PG X tg (tG (gm X) g)) (hb : PSs X sb (tS (gm X) W body))
    (hs : ∀ x, foldedSetIterable e X.env x = pure x := by intro _; rfl) : PS X (.For tg e sb [] pos) (tS (gm X) W (rFor fe g body)) :=
  PSimp (ps_for hp hc (pi_row he) hg hb hs) fun D σ H h => by
    refine (tX.out (g := fun d ρ M => match walkD d M with | some (xs, k) => forL k g body xs ρ M | none => .no) h).mono fun v H1 ⟨μ, ρ, M, d, hE, hS, rd, hF⟩ => ?_
    have hF : FinS (gm X) W D μ H1 (match walkD d M with | some (xs, k) => forL k g body xs ρ M | none => .no) := hF
    cases q : walkD d M with
    | none => rw [q] at hF; exact hF.elim
    | some p =>
      obtain ⟨xs, k⟩ := p
      rw [q] at hF
      have hF : FinS (gm X) W D μ H1 (forL k g body xs ρ M) := hF
      unfold walkD at q
      split at q
      · cases q
        obtain ⟨a, vs, e1, h1, h2⟩ := Rep.ptup.mp rd
        exact ⟨a, e1, .inr ⟨⟨vs, h1⟩, tup_loop hE hS h1 (Reps.of_P h2) hF⟩⟩
      · cases q
        obtain ⟨a, vs, e1, h1, h2⟩ := Rep.tup.mp rd
        exact ⟨a, e1, .inr ⟨⟨vs, h1⟩, tup_loop hE hS h1 h2 hF⟩⟩
      · obtain ⟨a, ha, e1⟩ := Rep.ref.mp rd
        split at q
        · rename_i ys e2
          cases q
          obtain ⟨vs, z1, z2⟩ := SR.list_at hS ha e2 (.inl rfl)
          exact ⟨a, e1, .inl ⟨⟨vs, z1⟩, lst_loop hE hS ha (.inl rfl) hF⟩⟩
        · rename_i ys e2
          cases q
          obtain ⟨vs, z1, z2⟩ := SR.list_at hS ha e2 (.inr rfl)
          exact ⟨a, e1, .inl ⟨⟨vs, z1⟩, lst_loop hE hS ha (.inr rfl) hF⟩⟩
        · cases q
      · cases q
theorem intsD_len (lo : Int) (n : Nat) : (intsD lo n).length = n := by simp [intsD]
theorem intsD_get (lo : Int) (n i : Nat) (h : i < n) : (intsD lo n)[i]? = some (.p (.int (lo + (i : Int)))) := by simp [intsD, h]
theorem range_loop {D : Ends} {lo : Int} {n : Nat} {μ : List Addr} {ρ : Env} {M : Store} {σ : St} {H : Hp} (hE : ER (gm X) μ H ρ σ) (hS : SR (gm X) μ H M) (hF : FinS (gm X) W D μ H (forL none g body (intsD lo n) ρ M)) : LoopW X W g body (Itr lo n) D σ H := by
  refine loop_gen (X := X) (W := W) (J := Itr lo n) (k := none) (xs := intsD lo n) (fun _ _ => True) (fun _ _ _ _ _ _ z => z) ?_ ?_ ?_ hE hS trivial hF
  · rintro i μ H M hi _ _ _
    rw [intsD_len] at hi
    exact hi
  · rintro μ H M _ _ _
    rw [intsD_len]
    exact Nat.le_refl _
  · rintro i μ H M w H' hi S _ _ ⟨rfl, rfl⟩
    rw [intsD_len] at hi
    exact ⟨_, intsD_get lo n i hi, .refl _, S, Rep.int.mpr rfl⟩
theorem s_range1 {a : Expr} {p pos' : Pos} (hp : PassesOwn (model X.prog X.w) X.A X.env X.xe) (hc : X.calm = true) (hgl : Gl X "range") (hm : X.mg "range" = none) (ha : PA X [a] (tA (gm X) W fs)) (hg : PG X tg (tG (gm X) g)) (hb : PSs X sb (tS (gm X) W body))
    (hs1 : starEach [a] X.env = [(false, eval a X.env)] := by rfl) (hs : ∀ x, foldedSetIterable (.Call (.Name "range" p) [a] [] pos') X.env x = pure x := by intro _; rfl) : PS X (.For tg (.Call (.Name "range" p) [a] [] pos') sb [] pos) (tS (gm X) W (rForR rng1 fs g body)) :=
  PSimp (ps_for hp hc (pi_range1 hgl hm ha hs1) hg hb hs) fun D σ H h => by
    refine (tX.out (rel := Reps (gm X)) (g := fun ds ρ M1 => match rng1 ds with | some (lo, n) => forL none g body (intsD lo n) ρ M1 | none => .no) h).mono fun vs H1 ⟨μ, ρ, M, ds, hE, hS, rd, hF⟩ => ?_
    have hF : FinS (gm X) W D μ H1 (match rng1 ds with | some (lo, n) => forL none g body (intsD lo n) ρ M | none => .no) := hF
    cases q : rng1 ds with
    | none => rw [q] at hF; exact hF.elim
    | some p =>
      obtain ⟨lo, n⟩ := p
      rw [q] at hF
      have hF : FinS (gm X) W D μ H1 (forL none g body (intsD lo n) ρ M) := hF
      unfold rng1 at q
      split at q
      · split at q
        · rename_i j hj
          cases q
          obtain ⟨v, rfl, r⟩ := rd.inv1
          rw [Rep.int] at r
          subst r
          exact ⟨j, rfl, hj.1, hj.2, range_loop hE hS hF⟩
        · cases q
      · cases q
theorem s_range2 {a b : Expr} {p pos' : Pos} (hp : PassesOwn (model X.prog X.w) X.A X.env X.xe) (hc : X.calm = true) (hgl : Gl X "range") (hm : X.mg "range" = none) (ha : PA X [a, b] (tA (gm X) W fs)) (hg : PG X tg (tG (gm X) g)) (hb : PSs X sb (tS (gm X) W body))
    (hs1 : starEach [a, b] X.env = [(false, eval a X.env), (false, eval b X.env)] := by rfl) (hs2 : starEach [b] X.env = [(false, eval b X.env)] := by rfl) (hs : ∀ x, foldedSetIterable (.Call (.Name "range" p) [a, b] [] pos') X.env x = pure x := by intro _; rfl) :
    PS X (.For tg (.Call (.Name "range" p) [a, b] [] pos') sb [] pos) (tS (gm X) W (rForR rng2 fs g body)) :=
  PSimp (ps_for hp hc (pi_range2 hgl hm ha hs1 hs2) hg hb hs) fun D σ H h => by
    refine (tX.out (rel := Reps (gm X)) (g := fun ds ρ M1 => match rng2 ds with | some (lo, n) => forL none g body (intsD lo n) ρ M1 | none => .no) h).mono fun vs H1 ⟨μ, ρ, M, ds, hE, hS, rd, hF⟩ => ?_
    have hF : FinS (gm X) W D μ H1 (match rng2 ds with | some (lo, n) => forL none g body (intsD lo n) ρ M | none => .no) := hF
    cases q : rng2 ds with
    | none => rw [q] at hF; exact hF.elim
    | some p =>
      obtain ⟨lo, n⟩ := p
      rw [q] at hF
      have hF : FinS (gm X) W D μ H1 (forL none g body (intsD lo n) ρ M) := hF
      unfold rng2 at q
      split at q
      · split at q
        · rename_i i j hj
          cases q
          obtain ⟨v, u, rfl, r1, r2⟩ := rd.inv2
          rw [Rep.int] at r1 r2
          subst r1 r2
          exact ⟨_, _, rfl, hj, range_loop hE hS hF⟩
        · cases q
      · cases q
end
end Fl

set_option Elab.async false
set_option linter.all false
set_option maxRecDepth 100000
/-! Fl, part J: while, raise, try, a def's promise, the law's end. -/
namespace Fl
open PySem PySem.Spec L2
set_option autoImplicit false
/-! ### while -/
def whileN (c : RT) (b : RS) : Nat → Env → Store → Option Out
  | 0, _, _ => none
  | n + 1, ρ, M => match c ρ M with
    | .ok true M1 => (match b ρ M1 with
      | .nx ρ2 M2 => whileN c b n ρ2 M2
      | .ct ρ2 M2 => whileN c b n ρ2 M2
      | .bk ρ2 M2 => some (.nx ρ2 M2)
      | o => some o)
    | .ok false M1 => some (.nx ρ M1)
    | .ex x fs M1 => some (.ex x fs ρ M1)
    | .no => some .no
theorem whileN_succ {c : RT} {b : RS} : ∀ {n : Nat} {ρ : Env} {M : Store} {o : Out}, whileN c b n ρ M = some o → whileN c b (n + 1) ρ M = some o
  | 0, _, _, _, h => by cases h
  | n + 1, ρ, M, o, h => by
    unfold whileN at h ⊢
    cases q : c ρ M with
    | ok k M1 =>
      simp only [q] at h ⊢
      cases k with
      | false => exact h
      | true =>
        cases q2 : b ρ M1 with
        | nx ρ2 M2 => simp only [q2] at h ⊢; exact whileN_succ h
        | ct ρ2 M2 => simp only [q2] at h ⊢; exact whileN_succ h
        | bk ρ2 M2 => simp only [q2] at h ⊢; exact h
        | rt d M2 => simp only [q2] at h ⊢; exact h
        | ex x fs ρ2 M2 => simp only [q2] at h ⊢; exact h
        | no => simp only [q2] at h ⊢; exact h
    | ex x fs M1 => simp only [q] at h ⊢; exact h
    | no => simp only [q] at h ⊢; exact h
theorem whileN_mono {c : RT} {b : RS} {n m : Nat} {ρ : Env} {M : Store} {o : Out} (h : whileN c b n ρ M = some o) (k : n ≤ m) : whileN c b m ρ M = some o := by
  induction k with
  | refl => exact h
  | step _ ih => exact whileN_succ ih
theorem whileN_det {c : RT} {b : RS} {n m : Nat} {ρ : Env} {M : Store} {o o' : Out} (h : whileN c b n ρ M = some o) (h' : whileN c b m ρ M = some o') : o = o' := by
  have h1 := whileN_mono h (Nat.le_max_left n m)
  have h2 := whileN_mono h' (Nat.le_max_right n m)
  exact Option.some.inj (h1.symm.trans h2)
open Classical in
noncomputable def rWh (c : RT) (b : RS) : RS := fun ρ M => if h : ∃ o n, whileN c b n ρ M = some o then h.choose else .no
theorem rWh_of {c : RT} {b : RS} {n : Nat} {ρ : Env} {M : Store} {o : Out} (h : whileN c b n ρ M = some o) : rWh c b ρ M = o := by
  unfold rWh
  have q : ∃ o n, whileN c b n ρ M = some o := ⟨o, n, h⟩
  rw [dif_pos q]
  obtain ⟨m, hm⟩ := q.choose_spec
  exact whileN_det hm h
section
variable {X : Cx} {W : WX} {e c : Expr} {b : RS} {tc : RT} {pos : Pos} {sb : List Stmt}
theorem s_while (hp : PassesOwn (model X.prog X.w) X.A X.env X.xe) (hc : PT X c (tT (gm X) W tc)) (hb : PSs X sb (tS (gm X) W b)) : PS X (.While c sb [] pos) (tS (gm X) W (rWh tc b)) :=
  PSimp (ps_while hp hc hb) fun D σ H h => by
    obtain ⟨μ, ρ, M, hE, hS, hF⟩ := h
    have hq : ∃ o n, whileN tc b n ρ M = some o := by
      apply Classical.byContradiction
      intro hn
      unfold rWh at hF
      rw [dif_neg hn] at hF
      exact hF
    obtain ⟨o, n, hn⟩ := hq
    rw [rWh_of hn] at hF
    refine ⟨fun m σ H => ∃ μ ρ M o, ER (gm X) μ H ρ σ ∧ SR (gm X) μ H M ∧ whileN tc b m ρ M = some o ∧ FinS (gm X) W D μ H o, ⟨n, μ, ρ, M, o, hE, hS, hn, hF⟩, ?_⟩
    rintro m σ H ⟨μ, ρ, M, o, hE, hS, hn, hF⟩
    cases m with
    | zero => cases hn
    | succ m =>
      unfold whileN at hn
      refine ⟨μ, ρ, M, hE, hS, ?_⟩
      cases q : tc ρ M with
      | ok k M1 =>
        rw [q] at hn
        intro μ' v H' e p s r
        subst r
        cases k with
        | false =>
          cases hn
          exact iteF (hF μ' σ H' e p (hE.ext e p) s)
        | true =>
          refine iteT ⟨fun σ' H' => ∃ μ ρ M o, ER (gm X) μ H' ρ σ' ∧ SR (gm X) μ H' M ∧ whileN tc b m ρ M = some o ∧ FinS (gm X) W D μ H' o, fun σ' H' z => ⟨m, Nat.lt_succ_self _, z⟩, ⟨μ', ρ, M1, hE.ext e p, s, ?_⟩⟩
          cases q2 : b ρ M1 with
          | nx ρ2 M2 => simp only [q2] at hn; exact fun μ3 σ3 H3 e3 p3 E3 S3 => ⟨μ3, ρ2, M2, o, E3, S3, hn, FinS.later (e.trans e3) (p.trans p3) hF⟩
          | ct ρ2 M2 => simp only [q2] at hn; exact fun μ3 σ3 H3 e3 p3 E3 S3 => ⟨μ3, ρ2, M2, o, E3, S3, hn, FinS.later (e.trans e3) (p.trans p3) hF⟩
          | bk ρ2 M2 => simp only [q2] at hn; cases hn; exact fun μ3 σ3 H3 e3 p3 => hF μ3 σ3 H3 (e.trans e3) (p.trans p3)
          | rt d M2 => simp only [q2] at hn; cases hn; exact fun μ3 v3 H3 e3 p3 => hF μ3 v3 H3 (e.trans e3) (p.trans p3)
          | ex c fs ρ2 M2 => simp only [q2] at hn; cases hn; exact fun μ3 σ3 H3 dx e3 p3 => hF μ3 σ3 H3 dx (e.trans e3) (p.trans p3)
          | no => simp only [q2] at hn; cases hn; exact hF
      | ex c fs M1 =>
        rw [q] at hn
        cases hn
        exact fun μ' H' dx e p s x => hF μ' σ H' dx e p (hE.ext e p) s x
      | no =>
        rw [q] at hn
        cases hn
        exact hF
end
/-! ### raise X("..") of an own class without __init__ -/
structure ExC (G : Gm) (c : Str) (C : Addr) : Prop where
  mgC : G.mg c = some (.ref C)
  exc : PySem.W.excIn G.K C He.veBase "ValueError.__new__" = true
  kp : PySem.W.keepIn G.K (.ref C) = true
  sub : PySem.W.subIn G.K (.ref C) (.type "BaseException") = some true
  ty : PySem.W.typeIn G.K (.ref C) = some (.type "type")
def rRaise (c : Str) : RS := fun ρ M => .ex c none ρ M
section
variable {X : Cx} {W Wout : WX} {pos : Pos}
theorem s_raise {c m : Str} {C : Addr} {j : Nat} {p p2 pos' : Pos} (h : ExC (gm X) c C) (hc : X.calm = true) (tk : Takes X W) (hg : Gl X c) (hdb : (c == ("__debug__" : Str)) = false := by decide) :
    PS X (.Raise (some (.Call (.Name c p) [.Constant (.str m) j p2] [] pos')) none pos) (tS (gm X) W (rRaise c)) :=
  PSimp (ps_raise hc tk (pmk_own PySem.F.excBase_ValueError h.exc h.mgC h.kp (raises_own h.sub h.ty) hg hdb)) fun D σ H q => by
    obtain ⟨μ, ρ, M, hE, hS, hF⟩ := q
    have z := hF μ σ H none (.refl _) (List.prefix_refl _) hE hS rfl
    unfold cval at z
    rw [h.mgC] at z
    exact z
/-! ### try .. except X: suite -/
def noEx : Out → Out
  | .ex _ _ _ _ => .no
  | o => o
theorem noEx_fin {G : Gm} {W W' : WX} {D : Ends} {μ : List Addr} {H : Hp} {o : Out} (h : FinS G W D μ H (noEx o)) : FinS G W' D μ H o := by
  cases o with
  | ex c fs ρ1 M1 => exact h.elim
  | nx ρ1 M1 => exact h
  | rt d M1 => exact h
  | bk ρ1 M1 => exact h
  | ct ρ1 M1 => exact h
  | no => exact h
/-- exs: the classes that may come, and whether the clause takes them -/
def rTry (exs : List (Str × Bool)) (body suite : RS) : RS := fun ρ M => match body ρ M with
  | .ex c fs ρ1 M1 => (match exs.lookup c with
    | some true => noEx (suite ρ1 M1)
    | some false => .ex c fs ρ1 M1
    | none => .no)
  | o => o
theorem lookup_mem {α : Type} {c : Str} {b : α} : ∀ {l : List (Str × α)}, l.lookup c = some b → (c, b) ∈ l
  | [], h => by cases h
  | (d, x) :: l, h => by
    rw [List.lookup_cons] at h
    split at h
    · rename_i e
      have e1 : c = d := by simpa using e
      cases h
      rw [e1]
      exact List.mem_cons_self
    · exact List.mem_cons_of_mem _ (lookup_mem h)
theorem s_try {x : Str} {xc : Value} {exs : List (Str × Bool)} {body suite : RS} {sb sc : List Stmt} {b0 : Stmt} {np pos' : Pos} (hs : X.stack = X.env :: X.outer) (hf : X.env.frame = some X.env.locals) (hc : Names X x xc) (tk : Takes X Wout)
    (hx : ∀ q ∈ exs, PySem.W.exmOne X.K (cval (gm X) q.1) xc = some q.2)
    (hb : ∀ (W : WX) (pn : List (Addr × Obj)) (xe : Value → Shared → Prop), Takes (X.tr pn xe) W → PassesOwn (model X.prog X.w) X.A X.env xe → PSs (X.tr pn xe) sb (tS (gm X) W body))
    (hsu : ∀ (a : Addr) (pn : List (Addr × Obj)), PSs (X.suite a pn) (b0 :: sc) (tS (gm X) (fun _ _ _ _ => False) suite)) :
    PS X (.Try sb [.ExceptHandler (some (.Name x np)) none (b0 :: sc) pos'] [] [] pos) (tS (gm X) Wout (rTry exs body suite)) :=
  PSimp (ps_try_only (tb := fun W => tS (gm X) W body) (ts := fun _ _ _ => tS (gm X) (fun _ _ _ _ => False) suite) hs hf hc tk (fun W pn xe h1 h2 => hb W pn xe h1 h2) (fun a oe cls d pn _ _ => hsu a _)) fun D σ H h => by
    obtain ⟨μ, ρ, M, hE, hS, hF⟩ := h
    refine ⟨μ, ρ, M, hE, hS, ?_⟩
    have hF : FinS (gm X) Wout D μ H (match body ρ M with
      | .ex c fs ρ1 M1 => (match exs.lookup c with
        | some true => noEx (suite ρ1 M1)
        | some false => .ex c fs ρ1 M1
        | none => .no)
      | o => o) := hF
    cases q : body ρ M with
    | ex c fs ρ1 M1 =>
      rw [q] at hF
      have hF : FinS (gm X) Wout D μ H (match exs.lookup c with
        | some true => noEx (suite ρ1 M1)
        | some false => .ex c fs ρ1 M1
        | none => .no) := hF
      intro μ' σ' H' dx e p hE' hS' xr
      cases q2 : exs.lookup c with
      | none => rw [q2] at hF; exact hF.elim
      | some k =>
        rw [q2] at hF
        refine ⟨k, hx (c, k) (lookup_mem q2), fun hk a _ => ?_, fun hk => ?_⟩
        · subst hk
          have hF : FinS (gm X) Wout D μ H (noEx (suite ρ1 M1)) := hF
          exact ⟨μ', ρ1, M1, hE', hS', FinS.later e p (noEx_fin hF)⟩
        · subst hk
          exact hF μ' σ' H' dx e p hE' hS' xr
    | nx ρ1 M1 => rw [q] at hF; exact hF
    | rt d M1 => rw [q] at hF; exact hF
    | bk ρ1 M1 => rw [q] at hF; exact hF
    | ct ρ1 M1 => rw [q] at hF; exact hF
    | no => rw [q] at hF; exact hF
end
/-! ### a def's promise -/
/-- what comes of a body as a def's answer: the objects that were made and are not handed out may be forgotten -/
def bodyR : Out → R D
  | .nx _ M => .ok (.p .non) M
  | .rt d M => .ok d M
  | .ex c fs _ M => .ex c fs M
  | _ => .no
mutual
def D.clo (n : Nat) : D → Bool
  | .p _ => true
  | .ref l => decide (l < n)
  | .tup xs => D.clos n xs
  | .gl _ => true
def D.clos (n : Nat) : List D → Bool
  | [] => true
  | x :: xs => D.clo n x && D.clos n xs
end
def O.clo (n : Nat) : O → Bool
  | .lst xs => D.clos n xs
  | .ro xs => D.clos n xs
  | .ins _ fs => fs.all fun q => q.2.clo n
def Store.clo (M : Store) : Prop := ∀ o ∈ M, o.clo M.length = true
/-- r is told, s is what comes: the same, but for objects behind the told ones -/
def Tells (r s : R D) : Prop := match r with
  | .ok d M => ∃ ext, s = .ok d (M ++ ext) ∧ (ext = [] ∨ (d.clo M.length = true ∧ Store.clo M))
  | .ex c fs M => fs = none ∧ ∃ ext, s = .ex c none (M ++ ext) ∧ (ext = [] ∨ Store.clo M)
  | .no => True
section
variable {G : Gm} {μ : List Addr} {H : Hp} {n : Nat}
mutual
theorem Rep.cut : ∀ {d : D} {v : V}, Rep G μ H d v → d.clo n = true → Rep G (μ.take n) H d v
  | .p x, v, r, h => by simpa only [Rep] using r
  | .ref l, v, r, h => by
    obtain ⟨a, h1, h2⟩ := Rep.ref.mp r
    have hl : l < n := by simpa [D.clo] using h
    exact Rep.ref.mpr ⟨a, by rw [List.getElem?_take_of_lt hl]; exact h1, h2⟩
  | .tup xs, v, r, h => by
    obtain ⟨a, vs, h1, h2, h3⟩ := Rep.tup.mp r
    exact Rep.tup.mpr ⟨a, vs, h1, h2, Reps.cutn h3 (by simpa [D.clo] using h)⟩
  | .gl x, v, r, h => by simpa only [Rep] using r
theorem Reps.cutn : ∀ {ds : List D} {vs : List V}, Reps G μ H ds vs → D.clos n ds = true → Reps G (μ.take n) H ds vs
  | [], vs, r, h => by rw [r.inv0]; exact .nil
  | d :: ds, vs, r, h => by
    obtain ⟨v, w, rfl, r1, r2⟩ := r.inv
    have h' : d.clo n = true ∧ D.clos n ds = true := by simpa [D.clos] using h
    exact .cons (Rep.cut r1 h'.1) (Reps.cutn r2 h'.2)
end
theorem FsRep.cut : ∀ {fs : List (Str × D)} {gs : List (Str × V)}, FsRep G μ H fs gs → (fs.all fun q => q.2.clo n) = true → FsRep G (μ.take n) H fs gs
  | [], gs, r, h => r
  | (f, d) :: fs, gs, r, h => by
    obtain ⟨v, w, rfl, r1, r2⟩ := r
    have h' : d.clo n = true ∧ (fs.all fun q => q.2.clo n) = true := by simpa using h
    exact ⟨v, w, rfl, Rep.cut r1 h'.1, FsRep.cut r2 (by simpa using h'.2)⟩
theorem ObjRep.cut {a : Addr} {o : O} (r : ObjRep G μ H a o) (h : o.clo n = true) : ObjRep G (μ.take n) H a o := by
  cases o with
  | lst xs => obtain ⟨vs, h1, h2⟩ := r; exact ⟨vs, h1, h2.cutn (by simpa [O.clo] using h)⟩
  | ro xs => obtain ⟨vs, h1, h2⟩ := r; exact ⟨vs, h1, h2.cutn (by simpa [O.clo] using h)⟩
  | ins c fs => obtain ⟨C, dx, gs, h0, h1, h2⟩ := r; exact ⟨C, dx, gs, h0, h1, h2.cut (by simpa only [O.clo] using h)⟩
theorem SR.cut {M ext : Store} (S : SR G μ H (M ++ ext)) (h : Store.clo M) : SR G (μ.take M.length) H M := by
  have hl : μ.length = M.length + ext.length := by rw [S.len, List.length_append]
  have lt : ∀ {l : Nat} {o : O}, M[l]? = some o → l < M.length := fun h => (List.getElem?_eq_some_iff.mp h).1
  refine ⟨by rw [List.length_take]; omega, fun i j a x y h1 h2 h3 h4 => ?_, fun l a o h1 h2 => ?_⟩
  · rw [List.getElem?_take_of_lt (lt h3)] at h1
    rw [List.getElem?_take_of_lt (lt h4)] at h2
    exact S.nd i j a x y h1 h2 (by rw [List.getElem?_append_left (lt h3)]; exact h3) (by rw [List.getElem?_append_left (lt h4)]; exact h4)
  have hlt : l < M.length := (List.getElem?_eq_some_iff.mp h2).1
  rw [List.getElem?_take_of_lt hlt] at h1
  exact (S.obj l a o h1 (by rw [List.getElem?_append_left hlt]; exact h2)).cut (h o (List.mem_of_getElem? h2))
theorem pre_take {μ0 : List Addr} {k : Nat} (p : μ0 <+: μ) (h : μ0.length ≤ k) : μ0 <+: μ.take k := by
  obtain ⟨t, rfl⟩ := p
  rw [List.take_append]
  rw [List.take_of_length_le h]
  exact List.prefix_append _ _
end
/-- every object of the store in the told one stands (the told store is not shorter than the one ahead) -/
def Grows (M : Store) : R D → Prop
  | .ok _ M' => M.length ≤ M'.length
  | .ex _ _ M' => M.length ≤ M'.length
  | .no => True
theorem FinC_tells {G : Gm} {E : XK} {μ : List Addr} {H : Hp} {Q : VK} {M : Store} {r s : R D} (hl : μ.length = M.length) (g : Grows M r) (t : Tells r s) (h : FinC G E μ H Q r) : FinC G E μ H Q s := by
  cases r with
  | no => exact h.elim
  | ok d M' =>
    obtain ⟨ext, rfl, c⟩ := t
    intro μ' v H' e p S r
    rcases c with rfl | ⟨c1, c2⟩
    · rw [List.append_nil] at S
      exact h μ' v H' e p S r
    · exact h (μ'.take M'.length) v H' e (pre_take p (by rw [hl]; exact g)) (S.cut c2) (r.cut c1)
  | ex c fs M' =>
    obtain ⟨rfl, ext, rfl, c⟩ := t
    intro μ' H' dx e p S x
    rcases c with rfl | c2
    · rw [List.append_nil] at S
      exact h μ' H' dx e p S x
    · exact h (μ'.take M'.length) H' dx e (pre_take p (by rw [hl]; exact g)) (S.cut c2) x
def startD (n : Nat) (ds : List D) : Env := ds.map some ++ List.replicate (n - ds.length) none
theorem startD_ok {G : Gm} {μ : List Addr} {H : Hp} {N : List Str} {ds : List D} {vs : List V} (r : Reps G μ H ds vs) : ER G μ H (startD N.length ds) (L2.start N vs) := by
  have hl := r.length
  refine ⟨by simp [startD, L2.start, hl], fun i d e => ?_⟩
  unfold startD at e
  by_cases hi : i < ds.length
  · rw [List.getElem?_append_left (by simpa using hi), List.getElem?_map] at e
    cases q : ds[i]? with
    | none => rw [q] at e; cases e
    | some d' =>
      rw [q] at e
      have e2 : d' = d := by simpa using e
      subst e2
      obtain ⟨v, h1, h2⟩ := r.get q
      refine ⟨v, ?_, h2⟩
      unfold L2.start
      rw [List.getElem?_append_left (by rw [List.length_map, ← hl]; exact hi), List.getElem?_map, h1]
      rfl
  · rw [List.getElem?_append_right (by simpa using hi), List.getElem?_replicate] at e
    split at e
    · cases e
    · cases e
section
variable {P : Program} {w : World} {K : PySem.W.Frag} {mg : Str → Option Value} {base : Heap}
/-- THE RULE for a def: m is its body's reading; F is told of it -/
theorem fn_D {x qual : Str} {params : Arguments} {body : List Stmt} {scope : Scope} {dvs : List V} {kws : List (Str × V)} {f : Addr} {fd : FuncData} {N ps : List Str} {k : Nat} {m : RS} {F : List D → Store → R D}
    (Fu : FunD K x qual params body scope dvs kws f fd) (S : FnScope N ps scope)
    (hb : ∀ (cdv : Value) (A : Around) (outer : List PySem.Env) (s : Shared) (H : Hp) (E : XK), Room k (A.deeper (PyProof.Rows.envOfC qual scope s.heap.objs.size f cdv)) →
      ∀ W : WX, Takes (cxOf (L2.CX P w) P w K mg base N qual scope f cdv A outer s H E) W → PSs (cxOf (L2.CX P w) P w K mg base N qual scope f cdv A outer s H E) body (tS ⟨K, mg⟩ W m))
    (hF : ∀ ds M, ds.length = ps.length → Grows M (F ds M) ∧ Tells (F ds M) (bodyR (m (startD N.length ds) M))) :
    FnOk P w K mg base (L2.CX P w) (k + 1) f fd ps (spD ⟨K, mg⟩ F ps.length) := by
  refine Fu.ok S (fun vs H Q E h => h.choose_spec.choose_spec.choose_spec.1) fun cdv A outer s H vs Q E hr h => ?_
  obtain ⟨μ, ds, M, hn, hds, hS, hQ⟩ := h
  have tk : Takes (cxOf (L2.CX P w) P w K mg base N qual scope f cdv A outer s H E) (fun c d _ H' => E c d H') := takes_of rfl rfl rfl rfl
  refine ⟨_, hb cdv A outer s H E hr _ tk, μ, startD N.length ds, M, startD_ok hds, hS, ?_⟩
  obtain ⟨g, t⟩ := hF ds M (by rw [hds.length]; exact hn)
  have hq := FinC_tells hS.len g t hQ
  cases q : m (startD N.length ds) M with
  | nx ρ M' => rw [q] at hq; exact fun μ' σ' H' e p _ s => hq μ' .non H' e p s (Rep.non.mpr rfl)
  | rt d M' => rw [q] at hq; exact fun μ' v H' e p s r => hq μ' v H' e p s r
  | bk ρ M' => rw [q] at hq; exact hq.elim
  | ct ρ M' => rw [q] at hq; exact hq.elim
  | ex c fs ρ M' => rw [q] at hq; exact fun μ' σ' H' dx e p _ s x => hq μ' H' dx e p s x
  | no => rw [q] at hq; exact hq.elim
end
end Fl

set_option Elab.async false
set_option linter.all false
set_option maxRecDepth 100000
/-! Fl, part K: calls with keywords; facts of the head; the law's end. -/
namespace Fl
open PySem PySem.Spec L2
set_option autoImplicit false
/-! ### f(e, .., k = v, ..) -/
def pick {α : Type} (ix : List (Bool × Nat)) (us ws : List α) : List α := ix.filterMap fun q => if q.1 then ws[q.2]? else us[q.2]?
theorem Reps.pick {G : Gm} {μ : List Addr} {H : Hp} {ds zs : List D} {vs ws : List V} (r : Reps G μ H ds vs) (q : Reps G μ H zs ws) : ∀ ix : List (Bool × Nat), Reps G μ H (Fl.pick ix ds zs) (Fl.pick ix vs ws)
  | [] => .nil
  | (b, i) :: ix => by
    have ih := Reps.pick r q ix
    unfold Fl.pick at ih ⊢
    rw [List.filterMap_cons, List.filterMap_cons]
    have key : ∀ {as : List D} {us : List V}, Reps G μ H as us → (as[i]? = none ∧ us[i]? = none) ∨ ∃ d v, as[i]? = some d ∧ us[i]? = some v ∧ Rep G μ H d v := fun {as us} r => by
      cases e : as[i]? with
      | none =>
        have h1 : as.length ≤ i := List.getElem?_eq_none_iff.mp e
        exact .inl ⟨rfl, List.getElem?_eq_none_iff.mpr (by rw [← r.length]; exact h1)⟩
      | some d =>
        obtain ⟨v, h1, h2⟩ := r.get e
        exact .inr ⟨d, v, rfl, h1, h2⟩
    cases b with
    | true =>
      rcases key q with ⟨h1, h2⟩ | ⟨d, v, h1, h2, h3⟩
      · simp only [if_true, h1, h2]; exact ih
      · simp only [if_true, h1, h2]; exact .cons h3 ih
    | false =>
      rcases key r with ⟨h1, h2⟩ | ⟨d, v, h1, h2, h3⟩
      · simp only [Bool.false_eq_true, if_false, h1, h2]; exact ih
      · simp only [Bool.false_eq_true, if_false, h1, h2]; exact .cons h3 ih
theorem Vals.pick {vs zs : List V} {us ws : List Value} (r : Vals vs us) (q : Vals zs ws) : ∀ ix : List (Bool × Nat), Vals (Fl.pick ix vs zs) (Fl.pick ix us ws)
  | [] => .nil
  | (b, i) :: ix => by
    have ih := Vals.pick r q ix
    unfold Fl.pick at ih ⊢
    rw [List.filterMap_cons, List.filterMap_cons]
    have key : ∀ {as : List V} {us : List Value}, Vals as us → (as[i]? = none ∧ us[i]? = none) ∨ ∃ d v, as[i]? = some d ∧ us[i]? = some v ∧ RelV d v := fun {as us} r => by
      cases e : as[i]? with
      | none => exact .inl ⟨rfl, r.none_of e⟩
      | some d =>
        obtain ⟨v, h1, h2⟩ := r.get e
        exact .inr ⟨d, v, rfl, h1, h2⟩
    cases b with
    | true =>
      rcases key q with ⟨h1, h2⟩ | ⟨d, v, h1, h2, h3⟩
      · simp only [if_true, h1, h2]; exact ih
      · simp only [if_true, h1, h2]; exact .cons h3 ih
    | false =>
      rcases key r with ⟨h1, h2⟩ | ⟨d, v, h1, h2, h3⟩
      · simp only [Bool.false_eq_true, if_false, h1, h2]; exact ih
      · simp only [Bool.false_eq_true, if_false, h1, h2]; exact .cons h3 ih
structure DfK (P : Program) (w : World) (K : PySem.W.Frag) (mg : Str → Option Value) (base : Heap) (x : Str) (ps : List Str) (F : List D → Store → R D) (k n : Nat) (ks : List Str) (ix : List (Bool × Nat)) : Prop where
  is_ : ∃ f fd, mg x = some (.ref f) ∧ PySem.W.keepIn K (.ref f) = true ∧ (∀ (s : Shared) (us ws : List Value), us.length = n → ws.length = ks.length → BindsTo s fd ⟨us, ks.zip ws⟩ (ps.zip (pick ix us ws))) ∧ FnOk P w K mg base (L2.CX P w) k f fd ps (spD ⟨K, mg⟩ F ps.length)
def rCallK (n m : Nat) (ix : List (Bool × Nat)) (p : Nat) (F : List D → Store → R D) (fa fk : RA) : RE := fun ρ M => (fa ρ M).bind fun ds M1 => (fk ρ M1).bind fun zs M2 => if ds.length = n ∧ zs.length = m ∧ (pick ix ds zs).length = p then F (pick ix ds zs) M2 else .no
section
variable {X : Cx} {W : WX} {x : Str} {ps ks : List Str} {F : List D → Store → R D} {k n : Nat} {ix : List (Bool × Nat)} {e : Expr} {es : List Expr} {kws : List Keyword} {fs fk : RA} {p pos kpos : Pos} {nm : Option Str} {fe : RE}
theorem k_nil : PK X [] (tA (gm X) W rNil) := ⟨fun pos pins s σ H Q I h => pk_nil.run pos pins s σ H Q I (by
  obtain ⟨μ, ρ, M, hE, hS, hF⟩ := h
  exact hF μ [] H (.refl _) (List.prefix_refl _) hS .nil)⟩
theorem k_cons (ha : PE X e (tE (gm X) W fe)) (hr : PK X kws (tA (gm X) W fk)) : PK X (⟨nm, e, kpos⟩ :: kws) (tA (gm X) W (rCons fe fk)) := ⟨fun pos pins s σ H Q I h => (pk_cons ha hr).run pos pins s σ H Q I (by
  refine (tX.bind h).mono fun v H1 g1 => ?_
  refine (Go.bind Rep.mono g1).mono fun vs H2 ⟨μ, ρ, M, x, xs, hE, hS, rx, rxs, hF⟩ => ?_
  exact hF μ (v :: vs) H2 (.refl _) (List.prefix_refl _) hS (.cons rx rxs))⟩
theorem callK_in {σ : St} {H : Hp} {Q : VK} {m q : Nat} (h : tE (gm X) W (rCallK n m ix q F fs fk) σ H Q) : tA (gm X) W fs σ H fun vs H1 => tA (gm X) W fk σ H1 fun zs H2 => vs.length = n ∧ zs.length = m ∧ spD (gm X) F q (pick ix vs zs) H2 Q (WE W σ) := by
  refine (tX.bind h).mono fun vs H1 g1 => ?_
  refine (Go.bind Reps.mono g1).mono fun zs H2 ⟨μ, ρ, M, ds, es, hE, hS, rx, rxs, hF⟩ => ?_
  have hF : Fin (gm X) (Rep (gm X)) W μ σ H2 Q (if ds.length = n ∧ es.length = m ∧ (pick ix ds es).length = q then F (pick ix ds es) M else .no) := hF
  split at hF
  · rename_i hn
    have r := rx.pick rxs ix
    exact ⟨by rw [rx.len_eq]; exact hn.1, by rw [rxs.len_eq]; exact hn.2.1, μ, pick ix ds es, M, by rw [r.len_eq]; exact hn.2.2, r, hS, FinC_of hF⟩
  · exact hF.elim
theorem runK {pins : List (Addr × Obj)} {σ : St} {H : Hp} {s : Shared} {Q : VK} {us ws : List Value} {vs zs : List V} {f : Addr} {fd : FuncData} (h4 : FnOk X.prog X.w X.K X.mg X.base (L2.CX X.prog X.w) k f fd ps (spD (gm X) F ps.length)) (hr : Room k X.A) (tk : Takes X W)
    (hb : ∀ (s : Shared) (us ws : List Value), us.length = n → ws.length = ks.length → BindsTo s fd ⟨us, ks.zip ws⟩ (ps.zip (pick ix us ws))) (I : Inv X pins σ H s) (r : Vals vs us) (rz : Vals zs ws) (l1 : vs.length = n) (l2 : zs.length = ks.length) (h : spD (gm X) F ps.length (pick ix vs zs) H Q (WE W σ)) :
    wpAny (model X.prog X.w) X.A (call (.ref f) us (ks.zip ws)) (EP X pins σ Q) X.xe s := by
  refine wpAny_call (codeAny_mono (h4.run X.A X.stack s H ⟨us, ks.zip ws⟩ (pick ix us ws) (pick ix vs zs) Q (WE W σ) hr I.env0 (hb s us ws (by rw [← r.length]; exact l1) (by rw [← rz.length]; exact l2)) (Vals.pick r rz ix) h) fun r s' hq => ?_)
  cases r with
  | error e => exact passAt tk σ pins H s e s' I hq
  | ok fl =>
    cases fl with
    | ret u => exact I.after hq
    | next => exact False.elim hq
    | brk => exact False.elim hq
    | cont => exact False.elim hq
/-- keywords alone -/
theorem i_callK0 (D : DfK X.prog X.w X.K X.mg X.base x ps F k 0 ks ix) (hr : Room k X.A) (hg : Gl X x) (tk : Takes X W) (hkw : PK X kws (tA (gm X) W fk)) (hall : (backToKw pos (keywordEach kws X.env)).all (·.1.isSome) = true := by rfl) (hks : (backToKw pos (keywordEach kws X.env)).filterMap (·.1) = ks := by rfl)
    (hdb : (x == ("__debug__" : Str)) = false := by decide) (hpl : ((backTo pos (starEach [] X.env)).any (·.1) || (backToKw pos (keywordEach kws X.env)).any (·.1.isNone)) = false := by rfl) :
    PE X (.Call (.Name x p) [] kws pos) (tE (gm X) W (rCallK 0 ks.length ix ps.length F rNil fk)) := by
  obtain ⟨f, fd, h1, h2, h3, h4⟩ := D.is_
  refine ⟨fun pins s σ H Q I h => ?_⟩
  have h0 := callK_in h
  have h0' : tA (gm X) W fk σ H fun zs H2 => zs.length = ks.length ∧ spD (gm X) F ps.length (pick ix [] zs) H2 Q (WE W σ) := by
    obtain ⟨μ, ρ, M, hE, hS, hF⟩ := h0
    have := hF μ [] H (.refl _) (List.prefix_refl _) hS .nil
    exact this.mono fun zs H2 z => ⟨z.2.1, z.2.2⟩
  refine wpAny_Call_Name_kw (ld_glob I hg h1 ?_ hdb)
  refine PySem.W.callWith_KW0 (h₀ := X.base) I.ok.mod.kin h2 hall (thn (hkw.run pos pins s σ H _ I h0') fun ws s2 ⟨zs, H2, I2, rz, q2⟩ => ⟨I2.kIn, ?_⟩) hpl
  rw [hks]
  exact runK h4 hr tk h3 I2 .nil rz rfl q2.1 q2.2
/-- positional ones and keywords -/
theorem i_callK (D : DfK X.prog X.w X.K X.mg X.base x ps F k n ks ix) (hr : Room k X.A) (hg : Gl X x) (tk : Takes X W) (ha : PA X (e :: es) (tA (gm X) W fs)) (hkw : PK X kws (tA (gm X) W fk)) (hall : (backToKw pos (keywordEach kws X.env)).all (·.1.isSome) = true := by rfl) (hks : (backToKw pos (keywordEach kws X.env)).filterMap (·.1) = ks := by rfl)
    (hdb : (x == ("__debug__" : Str)) = false := by decide) (he : starEach (e :: es) X.env = (false, eval e X.env) :: starEach es X.env := by rfl) (hpl : ((backTo pos (starEach (e :: es) X.env)).any (·.1) || (backToKw pos (keywordEach kws X.env)).any (·.1.isNone)) = false := by rfl) :
    PE X (.Call (.Name x p) (e :: es) kws pos) (tE (gm X) W (rCallK n ks.length ix ps.length F fs fk)) := by
  obtain ⟨f, fd, h1, h2, h3, h4⟩ := D.is_
  refine ⟨fun pins s σ H Q I h => ?_⟩
  refine wpAny_Call_Name_kw (ld_glob I hg h1 ?_ hdb)
  refine PySem.W.callWith_KW (h₀ := X.base) I.ok.mod.kin h2 hall (thn (ha.run pos pins s σ H _ I (callK_in h)) fun us s1 ⟨vs, H1, I1, r, q⟩ => ?_) hpl he
  refine thn (hkw.run pos pins s1 σ H1 _ I1 q) fun ws s2 ⟨zs, H2, I2, rz, q2⟩ => ⟨I2.kIn, ?_⟩
  rw [hks]
  exact runK h4 hr tk h3 I2 r rz q2.1 q2.2.1 q2.2.2
end
/-! ### facts of the head -/
/-! the value u is the data x, in the written part -/
mutual
def pB (K : PySem.W.Frag) : P → Value → Bool
  | .non, .none => true
  | .bl b, .bool c => b == c
  | .int i, .int j _ => decide (i = j)
  | .str x, .str y _ => decide (x = y)
  | .tup xs, .ref a => (match K.lookup a with
    | some ⟨.type c, _, .seq its _, _⟩ => decide (c = "tuple") && (decide (its.size ≤ sizeLine) && pBs K xs its.toList)
    | _ => false)
  | _, _ => false
def pBs (K : PySem.W.Frag) : List P → List Value → Bool
  | [], [] => true
  | x :: xs, u :: us => pB K x u && pBs K xs us
  | _, _ => false
end
mutual
theorem pB_ok {K : PySem.W.Frag} : ∀ {x : P} {u : Value}, pB K x u = true → ∃ v, RelV v u ∧ ∀ H, RepP K H x v
  | .non, u, h => by
    cases u with
    | none => exact ⟨.non, rfl, fun H => by simp only [RepP]⟩
    | _ => simp [pB] at h
  | .bl b, u, h => by
    cases u with
    | bool c =>
      have e : b = c := by simpa [pB] using h
      exact ⟨.bl c, rfl, fun H => by simp only [RepP, e]⟩
    | _ => simp [pB] at h
  | .int i, u, h => by
    cases u with
    | int j t =>
      have e : i = j := by simpa [pB] using h
      exact ⟨.int j, ⟨t, rfl⟩, fun H => by simp only [RepP, e]⟩
    | _ => simp [pB] at h
  | .str i, u, h => by
    cases u with
    | str j t =>
      have e : i = j := by simpa [pB] using h
      exact ⟨.str j, ⟨t, rfl⟩, fun H => by simp only [RepP, e]⟩
    | _ => simp [pB] at h
  | .tup xs, u, h => by
    cases u with
    | ref a =>
      simp only [pB] at h
      split at h
      · rename_i c od its n sl e
        simp only [Bool.and_eq_true, decide_eq_true_eq] at h
        obtain ⟨h1, h2, h3⟩ := h
        obtain ⟨vs, r1, r2⟩ := pBs_ok h3
        refine ⟨.ref a, rfl, fun H => ?_⟩
        simp only [RepP]
        exact ⟨a, vs, rfl, .inr ⟨_, its, n, e, by rw [h1], rfl, h2, r1⟩, r2 H⟩
      · cases h
    | _ => simp [pB] at h
theorem pBs_ok {K : PySem.W.Frag} : ∀ {xs : List P} {us : List Value}, pBs K xs us = true → ∃ vs, Vals vs us ∧ ∀ H, RepPs K H xs vs
  | [], [], _ => ⟨[], .nil, fun H => by simp only [RepPs]⟩
  | [], _ :: _, h => by simp [pBs] at h
  | _ :: _, [], h => by simp [pBs] at h
  | x :: xs, u :: us, h => by
    simp only [pBs, Bool.and_eq_true] at h
    obtain ⟨v, r1, r2⟩ := pB_ok h.1
    obtain ⟨vs, r3, r4⟩ := pBs_ok h.2
    exact ⟨v :: vs, .cons r1 r3, fun H => by simp only [RepPs]; exact ⟨v, vs, rfl, r2 H, r4 H⟩⟩
end
/-- the module's name x stands for the data d -/
def cB (K : PySem.W.Frag) (x : Str) (d : P) : Bool := match PySem.W.nsIn K mainGlobals x with
  | some (some u) => pB K d u
  | _ => false
theorem cB_ok {K : PySem.W.Frag} {mg : Str → Option Value} {h : Heap} {x : Str} {d : P} (X : K.In h) (G : h.Ns mainGlobals mg) (c : cB K x d = true) : Cst ⟨K, mg⟩ x (.p d) := by
  unfold cB at c
  split at c
  · rename_i u e
    obtain ⟨v, r1, r2⟩ := pB_ok c
    exact ⟨v, u, PySem.W.mg_of X G e, r1, fun μ H => by simpa only [Rep] using r2 H⟩
  · cases c
/-- what a name of the top is asked for: data, or a builtin -/
inductive CK where
  | p : P → CK
  | b : String → CK
def cK (K : PySem.W.Frag) (x : Str) : CK → Bool
  | .p d => cB K x d
  | .b id => match PySem.W.nsIn K mainGlobals x with
    | some (some (.builtin j)) => decide (j = id)
    | _ => false
theorem cK_b {K : PySem.W.Frag} {mg : Str → Option Value} {h : Heap} {x : Str} {id : String} (X : K.In h) (G : h.Ns mainGlobals mg) (c : cK K x (.b id) = true) : mg x = some (.builtin id) := by
  unfold cK at c
  dsimp only at c
  split at c
  · rename_i j e
    have e2 : j = id := by simpa using c
    subst e2
    exact PySem.W.mg_of X G e
  · cases c
abbrev AlX : Type := He.AlD × Bool
def obsX (fa : List He.Fa) (fn : List He.DefD) (cs : List (Str × CK)) (K : PySem.W.Frag) : AlX := (He.obsD fa fn K, cs.all fun q => cK K q.1 q.2)
def valX (fn : List He.DefD) : AlX := (He.valD fn, true)
def obsXG (n : Nat) (fa : List He.Fa) (fn : List He.DefD) (cs : List (Str × CK)) (g : Addr → Option Obj) : AlX := obsX fa fn cs (He.frG g (He.asD g n))
structure SaysX (fa : List He.Fa) (fn : List He.DefD) (cs : List (Str × CK)) (K : PySem.W.Frag) : Prop where
  d : He.SaysD fa fn K
  c : ∀ q ∈ cs, cK K q.1 q.2 = true
def hookX (n : Nat) (fa : List He.Fa) (fn : List He.DefD) (cs : List (Str × CK)) : PySem.W.Hook where
  α := AlX
  obs := fun s => obsXG n fa fn cs s.heap.get?
  val := fun _ => valX fn
  says := fun _ h => ∃ K : PySem.W.Frag, K.In h ∧ SaysX fa fn cs K
  of := fun _ _ e => ⟨_, He.frG_in, congrArg (fun z : AlX => z.1) e, List.all_eq_true.mp (congrArg (fun z : AlX => z.2) e)⟩
  keeps := fun _ _ _ ⟨K, hK, c⟩ k => ⟨K, PySem.W.Frag.In.keeps hK k, c⟩
theorem obsXG_eq {n : Nat} {fa : List He.Fa} {fn : List He.DefD} {cs : List (Str × CK)} {g : Addr → Option Obj} {s : Shared} (h : ∀ a, g a = s.heap.get? a) : obsXG n fa fn cs g = (hookX n fa fn cs).obs s := by
  have e : g = s.heap.get? := funext h
  rw [e] <;> rfl
theorem exc_C {K : PySem.W.Frag} {mg : Str → Option Value} {h : Heap} {x : Str} (X : K.In h) (G : h.Ns mainGlobals mg) (c : (He.Fa.exc x).ok K = true) (g : (He.Fa.glo x).ok K = true) : ExC ⟨K, mg⟩ x (He.ga K x) := by
  obtain ⟨h1, h2, h3, h4⟩ := He.exc_ok c
  exact ⟨He.glo_ok X G g, h1, h2, h3, h4⟩
theorem exm_C {K : PySem.W.Frag} {mg : Str → Option Value} {h : Heap} {x y : Str} {b : Bool} (X : K.In h) (G : h.Ns mainGlobals mg) (c : (He.Fa.exm x y b).ok K = true) (g : (He.Fa.glo x).ok K = true) : PySem.W.exmOne K (cval ⟨K, mg⟩ x) (.ref (He.ga K y)) = some b := by
  have e : cval ⟨K, mg⟩ x = .ref (He.ga K x) := by
    unfold cval
    show (mg x).getD .none = _
    rw [He.glo_ok X G g]
    rfl
  rw [e]
  exact He.exm_ok c
theorem hu_r {A : Around} {k : Nat} (r : Room k A) : A.units + 120 < cLine := by have := r.un; omega
theorem df_mk {P : Program} {w : World} {K : PySem.W.Frag} {mg : Str → Option Value} {base : Heap} {x qual : Str} {params : Arguments} {body : List Stmt} {scope : Scope} {f : Addr} {fd : FuncData} {ps : List Str} {F : List D → Store → R D} {k : Nat}
    (Fu : FunD K x qual params body scope [] [] f fd) (g : mg x = some (.ref f)) (b : Binds K fd ps []) (h : FnOk P w K mg base (L2.CX P w) k f fd ps (spD ⟨K, mg⟩ F ps.length)) : Df P w K mg base x ps F k := ⟨f, fd, g, Fu.kp, b, h⟩
/-- the law's end: F tells True of every script -/
theorem law_spec {K : PySem.W.Frag} {mg : Str → Option Value} {F : List D → Store → R D} {n : Nat} (hF : ∀ ns : List Int, ns.length ≤ n → ∃ M, F [.ref 0] [.ro (ns.map fun i => .p (.int i))] = .ok (.p (.bl true)) M) :
    ∀ (H : Hp) (a : Addr) (ns : List Int), ns.length ≤ n → Only H → SqL K H a (ns.map V.int) → spD ⟨K, mg⟩ F 1 [.ref a] H (fun v _ => v = .bl true) fun _ _ _ => False := by
  intro H a ns hl hO hq
  have ha : RoL K H a (ns.map V.int) := by
    rcases hq with (hq | hq) | hq
    · rcases hO a with z | ⟨o, xs, z⟩
      · rw [z] at hq; cases hq
      · rw [z] at hq; cases hq
    · exact .inl hq
    · exact .inr hq
  obtain ⟨M, e⟩ := hF ns hl
  refine ⟨[a], [.ref 0], [.ro (ns.map fun i => .p (.int i))], rfl, .cons (Rep.ref.mpr ⟨a, rfl, rfl⟩) .nil, ?_, ?_⟩
  · refine ⟨rfl, fun i j b x y h1 h2 h3 h4 => ?_, fun l b ob h1 h2 => ?_⟩
    · cases i with
      | zero => cases h3; exact .inl rfl
      | succ i => simp at h3
    cases l with
    | zero =>
      cases h1
      cases h2
      refine ⟨ns.map V.int, ha, ?_⟩
      clear ha hl e hq
      induction ns with
      | nil => exact .nil
      | cons x xs ih => exact .cons (Rep.int.mpr rfl) ih
    | succ l => simp at h1
  · rw [e]
    exact fun μ' v H' _ _ _ r => Rep.bl.mp r
/-- a law: F gives the written part, the function object, the promise over every base; what leaves may hang on the world -/
theorem walk_ofXE {l : PySem.W.OpenLaw} {n k : Nat} {q : Program} {loose : List Str} {XP : (Str → Option Value) → Heap → Prop} {YP : World → Heap → Prop} {d : DefRec} {CX : World → CXT} {x : Str}
    (hn : l.most = some n) (hn2 : n ≤ sizeLine) (hdf : d.params.defaults = []) (hr : Room k callerA)
    (F : ∀ (w : World) (mg : Str → Option Value) (fa : Addr) (h : Heap), YP w h → h.Ns mainGlobals mg → mg d.name = some (.ref fa) →
      ∃ (K : PySem.W.Frag) (fd : FuncData) (sp : Sp), K.In h ∧ (∀ (s : Shared) (u : Value), BindsTo s fd ⟨[u], []⟩ [(x, u)]) ∧
        (∀ (H : Hp) (a : Addr) (ns : List Int), ns.length ≤ n → Only H → SqL K H a (ns.map V.int) → sp [.ref a] H (fun v _ => v = .bl true) fun _ _ _ => False) ∧
        ∀ base : Heap, K.In base → base.Ns mainGlobals mg → FnOk l.prog w K mg base (CX w) k fa fd [x] sp)
    (hCX : ∀ (w : World) (H : Hp) (s : Shared) (e : Value) (s' : Shared), CX w [] H s (fun _ _ _ => False) e s' → False) :
    PySem.W.WalkO q loose XP YP l.row.toRowW d [] (fun f vs => PySem.call f vs) := by
  refine Att.attach_call hn hdf fun w s₀ s₁ mg mb fa o pm cd doc a vs ns G Y ho hd hcd hmg hobj hints hlen hg => ?_
  obtain ⟨K, fd, sp, KX, hb, hsp, hF⟩ := F w mg fa _ Y G.T.g hmg
  exact law_call KX G.T.g G.T.b G.T.builtins G.T.nolimit hg hobj hints (Nat.le_trans hlen hn2) hr hF hb (fun H hO hS => hsp H a ns hlen hO hS) fun H e s' => hCX w H s₁ e s'
theorem bi_len : bootBuiltins "len" = some (.builtin "len") := by decide +kernel
theorem bi_abs : bootBuiltins "abs" = some (.builtin "abs") := by decide +kernel
theorem bi_min : bootBuiltins "min" = some (.builtin "min") := by decide +kernel
theorem bi_max : bootBuiltins "max" = some (.builtin "max") := by decide +kernel
theorem bi_sorted : bootBuiltins "sorted" = some (.builtin "sorted") := by decide +kernel
theorem bi_int : bootBuiltins "int" = some (.type "int") := by decide +kernel
theorem bi_bool : bootBuiltins "bool" = some (.type "bool") := by decide +kernel
theorem bi_str : bootBuiltins "str" = some (.type "str") := by decide +kernel
theorem bi_list : bootBuiltins "list" = some (.type "list") := by decide +kernel
theorem bi_tuple : bootBuiltins "tuple" = some (.type "tuple") := by decide +kernel
theorem bi_dict : bootBuiltins "dict" = some (.type "dict") := by decide +kernel
/-- F is told of a body's reading -/
def Ref (n N : Nat) (F : List D → Store → R D) (m : RS) : Prop := ∀ ds M, ds.length = n → Grows M (F ds M) ∧ Tells (F ds M) (bodyR (m (startD N ds) M))
/-- nothing is promised -/
theorem fnok_no {P : Program} {w : World} {K : PySem.W.Frag} {mg : Str → Option Value} {base : Heap} {G : Gm} {k n : Nat} {f : Addr} {fd : FuncData} {ps : List Str} : FnOk P w K mg base (L2.CX P w) k f fd ps (spD G (fun _ _ => .no) n) :=
  ⟨fun _ _ _ _ ⟨_, _, _, _, _, _, z⟩ => z.elim, fun _ _ _ _ _ _ _ _ _ _ _ _ _ ⟨_, _, _, _, _, _, z⟩ => z.elim⟩
end Fl

set_option Elab.async false
set_option linter.all false
set_option maxRecDepth 100000
/-! Fl, part S: readings are reckoned by simp; loops by folds and invariants. -/
namespace Fl
open PySem PySem.Spec L2
set_option autoImplicit false
def oK {α β : Type} (o : Option (α × β)) (f : α → β → Out) : Out := match o with
  | some (a, b) => f a b
  | none => .no
@[simp] theorem oK_some {α β : Type} (a : α) (b : β) (f : α → β → Out) : oK (some (a, b)) f = f a b := (rfl)
@[simp] theorem oK_none {α β : Type} (f : α → β → Out) : oK (none : Option (α × β)) f = .no := (rfl)
section
variable {ρ : Env} {M : Store}
@[simp] theorem e_var (i : Nat) : rVar i ρ M = (match ρ[i]? with
  | some (some d) => .ok d M
  | _ => .no) := (rfl)
@[simp] theorem e_C (d : D) : rC d ρ M = .ok d M := (rfl)
@[simp] theorem e_bin (op fa fb) : rBin op fa fb ρ M = (fa ρ M).bind fun x M1 => (fb ρ M1).bind fun y M2 => ofO (op x y M2) := (rfl)
@[simp] theorem e_un (op fa) : rUn op fa ρ M = (fa ρ M).bind fun x M1 => ofO (op x M1) := (rfl)
def tsK (o : Option Bool) (M : Store) : R Bool := match o with
  | some b => .ok b M
  | none => .no
@[simp] theorem tsK_some (b : Bool) : tsK (some b) M = .ok b M := (rfl)
@[simp] theorem e_tst (t fa) : rTst t fa ρ M = (fa ρ M).bind fun x M1 => tsK (t x M1) M1 := (rfl)
@[simp] theorem e_tand (f g : RT) : rtAnd f g ρ M = (f ρ M).bind fun b M1 => if b = true then g ρ M1 else .ok false M1 := by
  unfold rtAnd; congr; funext b M1; cases b <;> simp
@[simp] theorem e_tor (f g : RT) : rtOr f g ρ M = (f ρ M).bind fun b M1 => if b = true then .ok true M1 else g ρ M1 := by
  unfold rtOr; congr; funext b M1; cases b <;> simp
@[simp] theorem e_tnot (f : RT) : rtNot f ρ M = (f ρ M).bind fun b M1 => .ok (!b) M1 := (rfl)
@[simp] theorem e_not (f : RT) : rNot f ρ M = (f ρ M).bind fun b M1 => .ok (.p (.bl (!b))) M1 := (rfl)
@[simp] theorem e_if (t : RT) (f g : RE) : rIf t f g ρ M = (t ρ M).bind fun b M1 => if b = true then f ρ M1 else g ρ M1 := by
  unfold rIf; congr; funext b M1; cases b <;> simp
def chK (o : Option (D × Store)) (f : Store → R D) : R D := match o with
  | some (.p (.bl true), M3) => f M3
  | some (.p (.bl false), M3) => .ok (.p (.bl false)) M3
  | _ => .no
@[simp] theorem chK_bl (b : Bool) (M : Store) (f : Store → R D) : chK (some (.p (.bl b), M)) f = if b = true then f M else .ok (.p (.bl false)) M := by cases b <;> rfl
@[simp] theorem e_chain (op op' fa fb fc) : rChain op op' fa fb fc ρ M = (fa ρ M).bind fun x M1 => (fb ρ M1).bind fun y M2 => chK (op x y M2) fun M3 => (fc ρ M3).bind fun z M4 => ofO (op' y z M4) := (rfl)
def trK {α : Type} (o : Option Bool) (f g : R α) : R α := match o with
  | some true => f
  | some false => g
  | none => .no
@[simp] theorem trK_some {α : Type} (b : Bool) (f g : R α) : trK (some b) f g = if b = true then f else g := by cases b <;> rfl
@[simp] theorem e_and (f g : RE) : rAnd f g ρ M = (f ρ M).bind fun x M1 => trK (truthD x M1) (g ρ M1) (.ok x M1) := (rfl)
@[simp] theorem e_or (f g : RE) : rOr f g ρ M = (f ρ M).bind fun x M1 => trK (truthD x M1) (.ok x M1) (g ρ M1) := (rfl)
@[simp] theorem e_nil : rNil ρ M = .ok [] M := (rfl)
@[simp] theorem e_cons (f g) : rCons f g ρ M = (f ρ M).bind fun x M1 => (g ρ M1).bind fun xs M2 => .ok (x :: xs) M2 := (rfl)
@[simp] theorem e_tup (f) : rTup f ρ M = (f ρ M).bind fun xs M1 => if xs.length ≤ 1000 then .ok (mkTup xs) M1 else .no := (rfl)
@[simp] theorem e_lst (f) : rLst f ρ M = (f ρ M).bind fun xs M1 => if xs.length ≤ 1000 then .ok (.ref M1.length) (M1 ++ [.lst xs]) else .no := (rfl)
@[simp] theorem e_CB (op f) : rCB op f ρ M = (f ρ M).bind fun xs M1 => ofO (op xs M1) := (rfl)
@[simp] theorem e_isa (T f) : rIsa T f ρ M = (f ρ M).bind fun x M1 => ofO (cIsa T x M1) := (rfl)
@[simp] theorem e_nopart : rNoPart ρ M = .ok none M := (rfl)
@[simp] theorem e_part (f) : rPart f ρ M = (f ρ M).bind fun x M1 => ofO (asPart x M1) := (rfl)
@[simp] theorem e_sl (f lo hi) : rSl f lo hi ρ M = (f ρ M).bind fun x M1 => (lo ρ M1).bind fun a M2 => (hi ρ M2).bind fun b M3 => ofO (dSl x a b M3) := (rfl)
@[simp] theorem e_rev (f) : rRev f ρ M = (f ρ M).bind fun x M1 => ofO (dRev x M1) := (rfl)
@[simp] theorem e_LM (op fo fs) : rLM op fo fs ρ M = (fo ρ M).bind fun x M1 => if isLst x M1 = true then (fs ρ M1).bind fun xs M2 => ofO (op x xs M2) else .no := by
  unfold rLM; congr; funext x M1; cases isLst x M1 <;> simp
@[simp] theorem e_LM0 (op fo) : rLM0 op fo ρ M = (fo ρ M).bind fun x M1 => if isLst x M1 = true then ofO (op x [] M1) else .no := by
  unfold rLM0; congr; funext x M1; cases isLst x M1 <;> simp
@[simp] theorem e_callN (n F fs) : rCallN n F fs ρ M = (fs ρ M).bind fun ds M1 => if ds.length = n then F ds M1 else .no := (rfl)
@[simp] theorem e_callK (n m ix p F fa fk) : rCallK n m ix p F fa fk ρ M = (fa ρ M).bind fun ds M1 => (fk ρ M1).bind fun zs M2 => if ds.length = n ∧ zs.length = m ∧ (pick ix ds zs).length = p then F (pick ix ds zs) M2 else .no := (rfl)
@[simp] theorem e_skip : rSkip ρ M = .nx ρ M := (rfl)
@[simp] theorem e_seq (a b) : rSeq a b ρ M = (a ρ M).bind b := (rfl)
@[simp] theorem e_expr (f) : rExpr f ρ M = (f ρ M).out ρ fun _ M1 => .nx ρ M1 := (rfl)
@[simp] theorem e_ret (f) : rRet f ρ M = (f ρ M).out ρ fun d M1 => .rt d M1 := (rfl)
@[simp] theorem e_retN : rRetN ρ M = .rt (.p .non) M := (rfl)
@[simp] theorem e_break : rBreak ρ M = .bk ρ M := (rfl)
@[simp] theorem e_cont : rCont ρ M = .ct ρ M := (rfl)
@[simp] theorem e_ifS (t a b) : rIfS t a b ρ M = (t ρ M).out ρ fun k M1 => if k = true then a ρ M1 else b ρ M1 := by
  unfold rIfS; congr; funext k M1; cases k <;> simp
@[simp] theorem e_set (i f) : rSet i f ρ M = (f ρ M).out ρ fun d M1 => .nx (ρ.set i (some d)) M1 := (rfl)
@[simp] theorem e_asg (f g) : rAsg f g ρ M = (f ρ M).out ρ fun d M1 => oK (g d ρ M1) fun ρ2 M2 => .nx ρ2 M2 := by
  unfold rAsg; congr; funext ds M1; rcases g ds ρ M1 with _ | ⟨a, b⟩ <;> rfl
@[simp] theorem e_par (i j f) : rPar i j f ρ M = (f ρ M).out ρ fun ds M1 => match ds with
  | [x, y] => .nx ((ρ.set i (some x)).set j (some y)) M1
  | _ => .no := (rfl)
@[simp] theorem e_gNm (i d) : gNm i d ρ M = some (ρ.set i (some d), M) := (rfl)
@[simp] theorem e_gNi : gNi [] ρ M = some (ρ, M) := (rfl)
@[simp] theorem e_gCo (g gs d r) : gCo g gs (d :: r) ρ M = (match g d ρ M with
  | some (ρ1, M1) => gs r ρ1 M1
  | none => none) := (rfl)
@[simp] theorem e_gTp (n gs d) : gTp n gs d ρ M = (match tupD d with
  | some xs => if xs.length = n then gs xs ρ M else none
  | none => none) := (rfl)
def vK (o : Option (Option D)) (f : D → Out) : Out := match o with
  | some (some x) => f x
  | _ => .no
@[simp] theorem vK_some (x : D) (f : D → Out) : vK (some (some x)) f = f x := (rfl)
@[simp] theorem e_aug (i op f) : rAug i op f ρ M = vK ρ[i]? fun x => (f ρ M).out ρ fun y M1 => oK (op x y M1) fun z M2 => .nx (ρ.set i (some z)) M2 := by
  unfold rAug; rcases ρ[i]? with _ | _ | x
  · rfl
  · rfl
  · show (f ρ M).out ρ _ = (f ρ M).out ρ _; congr; funext y M1; rcases op x y M1 with _ | ⟨a, b⟩ <;> rfl
@[simp] theorem e_forR (rg f g body) : rForR rg f g body ρ M = (f ρ M).out ρ fun ds M1 => oK (rg ds) fun lo n => forL none g body (intsD lo n) ρ M1 := by
  unfold rForR; congr; funext ds M1; rcases rg ds with _ | ⟨a, b⟩ <;> rfl
@[simp] theorem e_for (f g body) : rFor f g body ρ M = (f ρ M).out ρ fun d M1 => oK (walkD d M1) fun xs k => forL k g body xs ρ M1 := by
  unfold rFor; congr; funext ds M1; rcases walkD ds M1 with _ | ⟨a, b⟩ <;> rfl
@[simp] theorem e_raise (c) : rRaise c ρ M = .ex c none ρ M := (rfl)
@[simp] theorem e_try (exs a b) : rTry exs a b ρ M = (match a ρ M with
  | .ex c fs ρ1 M1 => (match exs.lookup c with
    | some true => noEx (b ρ1 M1)
    | some false => .ex c fs ρ1 M1
    | none => .no)
  | o => o) := (rfl)
@[simp] theorem e_noEx_nx : noEx (.nx ρ M) = .nx ρ M := (rfl)
@[simp] theorem e_noEx_rt (d) : noEx (.rt d M) = .rt d M := (rfl)
@[simp] theorem e_body_nx : bodyR (.nx ρ M) = .ok (.p .non) M := (rfl)
@[simp] theorem e_body_rt (d) : bodyR (.rt d M) = .ok d M := (rfl)
@[simp] theorem e_body_ex (c fs) : bodyR (.ex c fs ρ M) = .ex c fs M := (rfl)
@[simp] theorem e_body_no : bodyR .no = .no := (rfl)
end
@[simp] theorem mkTup_nil : mkTup [] = .p (.tup []) := (rfl)
theorem mkTup_map (xs : List P) : mkTup (xs.map D.p) = .p (.tup xs) := by unfold mkTup; rw [allP_map]
@[simp] theorem mkTup_1 (a : P) : mkTup [.p a] = .p (.tup [a]) := (rfl)
@[simp] theorem mkTup_2 (a b : P) : mkTup [.p a, .p b] = .p (.tup [a, b]) := (rfl)
@[simp] theorem mkTup_3 (a b c : P) : mkTup [.p a, .p b, .p c] = .p (.tup [a, b, c]) := (rfl)
@[simp] theorem mkTup_4 (a b c d : P) : mkTup [.p a, .p b, .p c, .p d] = .p (.tup [a, b, c, d]) := (rfl)
@[simp] theorem mkTup_5 (a b c d e : P) : mkTup [.p a, .p b, .p c, .p d, .p e] = .p (.tup [a, b, c, d, e]) := (rfl)
@[simp] theorem mkTup_8 (a b c d e f g h : P) : mkTup [.p a, .p b, .p c, .p d, .p e, .p f, .p g, .p h] = .p (.tup [a, b, c, d, e, f, g, h]) := (rfl)
@[simp] theorem tells_no (s : R D) : Tells .no s := trivial
@[simp] theorem grows_no (M : Store) : Grows M .no := trivial
@[simp] theorem tells_same (d : D) (M : Store) : Tells (.ok d M) (.ok d M) := ⟨[], by simp, .inl rfl⟩
@[simp] theorem tells_same_ex (c : Str) (M : Store) : Tells (.ex c none M) (.ex c none M) := ⟨rfl, [], by simp, .inl rfl⟩
@[simp] theorem grows_ok (M M' : Store) (d : D) : Grows M (.ok d M') = (M.length ≤ M'.length) := (rfl)
@[simp] theorem grows_ex (M M' : Store) (c fs) : Grows M (.ex c fs M') = (M.length ≤ M'.length) := (rfl)
@[simp] theorem start_n0 (n : Nat) (ds : List D) : startD n ds = ds.map some ++ List.replicate (n - ds.length) none := (rfl)
/-! ### values -/
@[simp] theorem v_asBool (b M) : asBool (.p (.bl b)) M = some b := (rfl)
@[simp] theorem v_tr_bl (b M) : truthD (.p (.bl b)) M = some b := (rfl)
@[simp] theorem v_tr_int (b M) : truthD (.p (.int b)) M = some (b != 0) := (rfl)
@[simp] theorem v_tr_non (M) : truthD (.p .non) M = some false := (rfl)
@[simp] theorem v_tr_tup (xs M) : truthD (.p (.tup xs)) M = some (!xs.isEmpty) := (rfl)
@[simp] theorem v_add (i j M) : dAdd (.p (.int i)) (.p (.int j)) M = some (.p (.int (i + j)), M) := by simp [dAdd]
@[simp] theorem v_sub (i j M) : dSub (.p (.int i)) (.p (.int j)) M = some (.p (.int (i - j)), M) := (rfl)
theorem v_mul (i j M) (h : mulOk i j) : dMul (.p (.int i)) (.p (.int j)) M = some (.p (.int (i * j)), M) := by simp [dMul, h]
theorem v_div (i j M) (h : divOk j) : dDiv (.p (.int i)) (.p (.int j)) M = some (.p (.int (i / j)), M) := by simp [dDiv, h]
theorem v_mod (i j M) (h : 0 < j) : dMod (.p (.int i)) (.p (.int j)) M = some (.p (.int (i % j)), M) := by
  have h0 : j ≠ 0 := by omega
  simp [dMod, h0, Int.fmod_eq_emod_of_nonneg _ (Int.le_of_lt h)]
theorem v_pow (i j M) (h : 0 ≤ j ∧ j ≤ 1000000 ∧ i.natAbs < 2 ^ 64) : dPow (.p (.int i)) (.p (.int j)) M = some (.p (.int (i ^ j.toNat)), M) := by simp [dPow, h]
@[simp] theorem v_neg (i M) : dNeg (.p (.int i)) M = some (.p (.int (-i)), M) := (rfl)
@[simp] theorem v_lt (i j M) : dLt (.p (.int i)) (.p (.int j)) M = some (.p (.bl (decide (i < j))), M) := (rfl)
@[simp] theorem v_le (i j M) : dLe (.p (.int i)) (.p (.int j)) M = some (.p (.bl (decide (i ≤ j))), M) := (rfl)
@[simp] theorem v_gt (i j M) : dGt (.p (.int i)) (.p (.int j)) M = some (.p (.bl (decide (j < i))), M) := (rfl)
@[simp] theorem v_ge (i j M) : dGe (.p (.int i)) (.p (.int j)) M = some (.p (.bl (decide (j ≤ i))), M) := (rfl)
@[simp] theorem v_eq_i (x : P) (j M) : dEq (.p x) (.p (.int j)) M = some (.p (.bl (P.eqv x (.int j))), M) := by simp [dEq, dOk, P.depth]
@[simp] theorem v_ne_i (x : P) (j M) : dNe (.p x) (.p (.int j)) M = some (.p (.bl (!P.eqv x (.int j))), M) := by simp [dNe, dOk, P.depth]
@[simp] theorem v_eq_s (x : P) (j M) : dEq (.p x) (.p (.str j)) M = some (.p (.bl (P.eqv x (.str j))), M) := by simp [dEq, dOk, P.depth]
@[simp] theorem v_ne_s (x : P) (j M) : dNe (.p x) (.p (.str j)) M = some (.p (.bl (!P.eqv x (.str j))), M) := by simp [dNe, dOk, P.depth]
@[simp] theorem v_eqv_ii (i j) : P.eqv (.int i) (.int j) = decide (i = j) := by rw [P.eqv]; exact (Bool.eq_iff_iff.mpr (by simp))
@[simp] theorem v_eqv_ss (i j : Str) : P.eqv (.str i) (.str j) = decide (i = j) := by rw [P.eqv]; exact (Bool.eq_iff_iff.mpr (by simp))
@[simp] theorem v_eqv_bb (i j) : P.eqv (.bl i) (.bl j) = decide (i = j) := by rw [P.eqv]; exact (Bool.eq_iff_iff.mpr (by simp))
@[simp] theorem v_isN (x : D) (M) : dIsN x (.p .non) M = some (.p (.bl (isNon x)), M) := (rfl)
@[simp] theorem v_notN (x : D) (M) : dNotN x (.p .non) M = some (.p (.bl (!isNon x)), M) := (rfl)
@[simp] theorem v_isNon : isNon (.p .non) = true := (rfl)
@[simp] theorem v_isNon_i (i) : isNon (.p (.int i)) = false := (rfl)
@[simp] theorem v_isNon_t (i) : isNon (.p (.tup i)) = false := (rfl)
@[simp] theorem v_isNon_s (i) : isNon (.p (.str i)) = false := (rfl)
@[simp] theorem v_isNon_b (i) : isNon (.p (.bl i)) = false := (rfl)
@[simp] theorem v_int (i M) : cInt [.p (.int i)] M = some (.p (.int i), M) := (rfl)
@[simp] theorem v_int_b (b M) : cInt [.p (.bl b)] M = some (.p (.int (if b then 1 else 0)), M) := (rfl)
@[simp] theorem v_abs (i M) : cAbs [.p (.int i)] M = some (.p (.int (if i < 0 then -i else i)), M) := (rfl)
@[simp] theorem v_max (i j M) : cMax2 [.p (.int i), .p (.int j)] M = some (.p (.int (max i j)), M) := by
  have e : (if j > i then j else i) = max i j := by omega
  simp only [cMax2, e]
@[simp] theorem v_min (i j M) : cMin2 [.p (.int i), .p (.int j)] M = some (.p (.int (min i j)), M) := by
  have e : (if j < i then j else i) = min i j := by omega
  simp only [cMin2, e]
@[simp] theorem v_isa_i (T : String) (i M) : cIsa T (.p (.int i)) M = some (.p (.bl (isaT "int" T)), M) := (rfl)
@[simp] theorem v_isa_b (T : String) (i M) : cIsa T (.p (.bl i)) M = some (.p (.bl (isaT "bool" T)), M) := (rfl)
@[simp] theorem v_isa_s (T : String) (i M) : cIsa T (.p (.str i)) M = some (.p (.bl (isaT "str" T)), M) := (rfl)
@[simp] theorem v_isa_t (T : String) (i M) : cIsa T (.p (.tup i)) M = some (.p (.bl (isaT "tuple" T)), M) := (rfl)
@[simp] theorem v_isa_n (T : String) (M) : cIsa T (.p .non) M = some (.p (.bl (isaT "NoneType" T)), M) := (rfl)
@[simp] theorem v_len_t (xs M) : cLen [.p (.tup xs)] M = some (.p (.int (xs.length : Int)), M) := (rfl)
@[simp] theorem v_ix_t (xs : List P) (i M) : dIx (.p (.tup xs)) (.p (.int i)) M = (atI (xs.map D.p) i).map fun x => (x, M) := by
  simp only [dIx, rowD]
@[simp] theorem v_tupD (xs : List P) : tupD (.p (.tup xs)) = some (xs.map D.p) := (rfl)
@[simp] theorem v_walk_t (xs : List P) (M) : walkD (.p (.tup xs)) M = some (xs.map D.p, none) := (rfl)
theorem atI_map {α β : Type} (f : α → β) (xs : List α) (i : Int) : atI (xs.map f) i = (atI xs i).map f := by
  unfold atI
  rw [List.length_map]
  cases ixN xs.length i with
  | none => rfl
  | some j => simp
/-! ### loops -/
theorem forL_fold {σ : Type} {k : Option (Nat × O)} {g : RG} {body : RS} (st : σ → Env × Store) (f : σ → D → σ) (I : σ → Prop) : ∀ (xs : List D) (s : σ), I s → (∀ s, I s → chk k (st s).2) →
    (∀ s x, x ∈ xs → I s → I (f s x) ∧ ∃ ρ1 M1, g x (st s).1 (st s).2 = some (ρ1, M1) ∧ (body ρ1 M1 = .nx (st (f s x)).1 (st (f s x)).2 ∨ body ρ1 M1 = .ct (st (f s x)).1 (st (f s x)).2)) →
    forL k g body xs (st s).1 (st s).2 = .nx (st (xs.foldl f s)).1 (st (xs.foldl f s)).2 ∧ I (xs.foldl f s)
  | [], s, hs, hc, h => by
    refine ⟨?_, hs⟩
    unfold forL
    rw [if_pos (hc s hs)]
    rfl
  | x :: xs, s, hs, hc, h => by
    obtain ⟨h1, ρ1, M1, h2, h3⟩ := h s x List.mem_cons_self hs
    have ih := forL_fold st f I xs (f s x) h1 hc fun s y hy => h s y (List.mem_cons_of_mem _ hy)
    refine ⟨?_, ih.2⟩
    unfold forL
    rw [if_pos (hc s hs), h2]
    rcases h3 with h3 | h3
    · simp only [h3]; exact ih.1
    · simp only [h3]; exact ih.1
theorem forL_inv {k : Option (Nat × O)} {g : RG} {body : RS} (xs : List D) (I : Nat → Env → Store → Prop) (hc : ∀ i ρ M, I i ρ M → chk k M)
    (h : ∀ i x ρ M, xs[i]? = some x → I i ρ M → ∃ ρ1 M1 ρ2 M2, g x ρ M = some (ρ1, M1) ∧ (body ρ1 M1 = .nx ρ2 M2 ∨ body ρ1 M1 = .ct ρ2 M2) ∧ I (i + 1) ρ2 M2) :
    ∀ {ρ M}, I 0 ρ M → ∃ ρ' M', forL k g body xs ρ M = .nx ρ' M' ∧ I xs.length ρ' M' := by
  have go : ∀ (n i : Nat) (ρ M), n = xs.length - i → i ≤ xs.length → I i ρ M → ∃ ρ' M', forL k g body (xs.drop i) ρ M = .nx ρ' M' ∧ I xs.length ρ' M' := by
    intro n
    induction n with
    | zero =>
      intro i ρ M hn hi hI
      have e : i = xs.length := by omega
      subst e
      refine ⟨ρ, M, ?_, hI⟩
      rw [List.drop_length]
      unfold forL
      rw [if_pos (hc _ _ _ hI)]
    | succ n ih =>
      intro i ρ M hn hi hI
      have hlt : i < xs.length := by omega
      obtain ⟨ρ1, M1, ρ2, M2, h1, h2, h3⟩ := h i xs[i] ρ M (List.getElem?_eq_getElem hlt) hI
      obtain ⟨ρ', M', h4, h5⟩ := ih (i + 1) ρ2 M2 (by omega) (by omega) h3
      refine ⟨ρ', M', ?_, h5⟩
      rw [List.drop_eq_getElem_cons hlt]
      unfold forL
      rw [if_pos (hc _ _ _ hI), h1]
      rcases h2 with h2 | h2
      · simp only [h2]; exact h4
      · simp only [h2]; exact h4
  intro ρ M hI
  exact go _ 0 ρ M rfl (Nat.zero_le _) hI
/-- some turn may return -/
theorem forL_find {k : Option (Nat × O)} {g : RG} {body : RS} (xs : List D) (I : Nat → Env → Store → Prop) (Q : Out → Prop) (hc : ∀ i ρ M, I i ρ M → chk k M)
    (h : ∀ i x ρ M, xs[i]? = some x → I i ρ M → ∃ ρ1 M1, g x ρ M = some (ρ1, M1) ∧ ((∃ ρ2 M2, (body ρ1 M1 = .nx ρ2 M2 ∨ body ρ1 M1 = .ct ρ2 M2) ∧ I (i + 1) ρ2 M2) ∨ (∃ ρ2 M2, body ρ1 M1 = .bk ρ2 M2 ∧ Q (.nx ρ2 M2)) ∨ (∃ d M2, body ρ1 M1 = .rt d M2 ∧ Q (.rt d M2)) ∨ ∃ c fs ρ2 M2, body ρ1 M1 = .ex c fs ρ2 M2 ∧ Q (.ex c fs ρ2 M2)))
    (hd : ∀ ρ M, I xs.length ρ M → Q (.nx ρ M)) : ∀ {ρ M}, I 0 ρ M → Q (forL k g body xs ρ M) := by
  have go : ∀ (n i : Nat) (ρ M), n = xs.length - i → i ≤ xs.length → I i ρ M → Q (forL k g body (xs.drop i) ρ M) := by
    intro n
    induction n with
    | zero =>
      intro i ρ M hn hi hI
      have e : i = xs.length := by omega
      subst e
      rw [List.drop_length]
      unfold forL
      rw [if_pos (hc _ _ _ hI)]
      exact hd _ _ hI
    | succ n ih =>
      intro i ρ M hn hi hI
      have hlt : i < xs.length := by omega
      obtain ⟨ρ1, M1, h1, h2⟩ := h i xs[i] ρ M (List.getElem?_eq_getElem hlt) hI
      rw [List.drop_eq_getElem_cons hlt]
      unfold forL
      rw [if_pos (hc _ _ _ hI), h1]
      rcases h2 with ⟨ρ2, M2, h2, h3⟩ | ⟨ρ2, M2, h2, h3⟩ | ⟨d, M2, h2, h3⟩ | ⟨c, fs, ρ2, M2, h2, h3⟩
      · have ih' := ih (i + 1) ρ2 M2 (by omega) (by omega) h3
        rcases h2 with h2 | h2
        · simp only [h2]; exact ih'
        · simp only [h2]; exact ih'
      · simp only [h2]; exact h3
      · simp only [h2]; exact h3
      · simp only [h2]; exact h3
  intro ρ M hI
  exact go _ 0 ρ M rfl (Nat.zero_le _) hI
/-- a def that is told by its own reading -/
def tellOk (M : Store) (r : R D) : R D := match r with
  | .ok d M' => if M.length ≤ M'.length then .ok d M' else .no
  | .ex c none M' => if M.length ≤ M'.length then .ex c none M' else .no
  | _ => .no
def selfF (N : Nat) (m : RS) : List D → Store → R D := fun ds M => tellOk M (bodyR (m (startD N ds) M))
theorem ref_self (n N : Nat) (m : RS) : Ref n N (selfF N m) m := by
  intro ds M _
  unfold selfF tellOk
  split
  · rename_i d M' e
    split
    · rename_i h
      exact ⟨h, by rw [e]; exact tells_same d M'⟩
    · exact ⟨trivial, trivial⟩
  · rename_i c M' e
    split
    · rename_i h
      exact ⟨h, by rw [e]; exact tells_same_ex c M'⟩
    · exact ⟨trivial, trivial⟩
  · exact ⟨trivial, trivial⟩
theorem selfF_ok {N : Nat} {m : RS} {ds : List D} {M M' : Store} {d : D} (h : bodyR (m (startD N ds) M) = .ok d M') (hl : M.length ≤ M'.length) : selfF N m ds M = .ok d M' := by
  unfold selfF tellOk
  rw [h]
  exact if_pos hl
theorem selfF_ex {N : Nat} {m : RS} {ds : List D} {M M' : Store} {c : Str} (h : bodyR (m (startD N ds) M) = .ex c none M') (hl : M.length ≤ M'.length) : selfF N m ds M = .ex c none M' := by
  unfold selfF tellOk
  rw [h]
  exact if_pos hl
/-- an answer that does not shrink the store -/
def Gr (M : Store) (r : R D) : Prop := match r with
  | .ok _ M' => M.length ≤ M'.length
  | .ex _ none M' => M.length ≤ M'.length
  | _ => False
theorem selfF_eq {N : Nat} {m : RS} {ds : List D} {M : Store} {r : R D} (h : bodyR (m (startD N ds) M) = r) (hl : Gr M r) : selfF N m ds M = r := by
  unfold selfF tellOk
  rw [h]
  match r, hl with
  | .ok _ M', hl => exact if_pos hl
  | .ex _ none M', hl => exact if_pos hl
theorem mul_small {i j : Int} (h1 : -(2 ^ 64) < j) (h2 : j < 2 ^ 64) : mulOk i j := .inl (.inr ⟨h1, h2⟩)
theorem mul_small' {i j : Int} (h1 : -(2 ^ 64) < i) (h2 : i < 2 ^ 64) : mulOk i j := .inl (.inl ⟨h1, h2⟩)
theorem div_small {j : Int} (h1 : 0 < j) (h2 : j < 2 ^ 1000) : divOk j := wide_div (i := 0) h1 (b := 1000) (by have h3 : (j.natAbs : Int) = j := Int.natAbs_of_nonneg (Int.le_of_lt h1); exact Int.ofNat_lt.mp (by rw [h3]; exact_mod_cast h2)) (by decide) (by decide)
theorem rng1_ok (j : Int) (h0 : 0 ≤ j) (h : j ≤ 1000000000) : rng1 [.p (.int j)] = some (0, j.toNat) := by
  have h1 : -(2 ^ 62) ≤ j ∧ j < 2 ^ 62 := by
    constructor
    · have : (-(2 ^ 62) : Int) ≤ 0 := by decide
      omega
    · have : (1000000000 : Int) < 2 ^ 62 := by decide
      omega
  unfold rng1
  exact if_pos h1
theorem rng2_ok (i j : Int) (h0 : -1000000000 ≤ i) (h1 : i ≤ 1000000000) (h2 : -1000000000 ≤ j) (h3 : j ≤ 1000000000) : rng2 [.p (.int i), .p (.int j)] = some (i, (j - i).toNat) := by
  have a : (-(2 ^ 62) : Int) ≤ -1000000000 := by decide
  have b : (1000000000 : Int) < 2 ^ 62 := by decide
  have h : -(2 ^ 62) ≤ i ∧ i < 2 ^ 62 ∧ -(2 ^ 62) ≤ j ∧ j < 2 ^ 62 := ⟨by omega, by omega, by omega, by omega⟩
  unfold rng2
  exact if_pos h
theorem rng1_len (n : Nat) (h : n ≤ 1000000) : rng1 [.p (.int (n : Int))] = some (0, n) := by
  have e := rng1_ok (n : Int) (by omega) (by omega)
  simpa using e
section
variable {P : Program} {w : World} {K : PySem.W.Frag} {mg : Str → Option Value} {base : Heap}
/-- `fn_D`, with the way out told -/
theorem fn_E {x qual : Str} {params : Arguments} {body : List Stmt} {scope : Scope} {dvs : List V} {kws : List (Str × V)} {f : Addr} {fd : FuncData} {N ps : List Str} {k : Nat} {m : RS} {F : List D → Store → R D}
    (Fu : FunD K x qual params body scope dvs kws f fd) (S : FnScope N ps scope)
    (hb : ∀ (cdv : Value) (A : Around) (outer : List PySem.Env) (s : Shared) (H : Hp) (E : XK), Room k (A.deeper (PyProof.Rows.envOfC qual scope s.heap.objs.size f cdv)) →
      PassesOwn (model P w) (cxOf (L2.CX P w) P w K mg base N qual scope f cdv A outer s H E).A (cxOf (L2.CX P w) P w K mg base N qual scope f cdv A outer s H E).env (cxOf (L2.CX P w) P w K mg base N qual scope f cdv A outer s H E).xe →
      ∀ W : WX, Takes (cxOf (L2.CX P w) P w K mg base N qual scope f cdv A outer s H E) W → PSs (cxOf (L2.CX P w) P w K mg base N qual scope f cdv A outer s H E) body (tS ⟨K, mg⟩ W m))
    (hF : ∀ ds M, ds.length = ps.length → Grows M (F ds M) ∧ Tells (F ds M) (bodyR (m (startD N.length ds) M))) :
    FnOk P w K mg base (L2.CX P w) (k + 1) f fd ps (spD ⟨K, mg⟩ F ps.length) :=
  fn_D Fu S (fun cdv A outer s H E hr W tk => hb cdv A outer s H E hr (passes_of rfl) W tk) hF
end
end Fl

set_option Elab.async false
set_option linter.all false
set_option maxRecDepth 100000
/-! Fl, part T: builtins under a name of the top; comb and gcd. -/
namespace Fl
open PySem PySem.Spec L2
set_option autoImplicit false
section
variable {X : Cx} {W : WX} {e : Expr} {es : List Expr} {fs : RA} {p pos : Pos}
theorem pe_callM {x : Str} {t : TA} {id : String} {r : List V → Hp → VK → Prop} (hc : CallR X (.builtin id) r) (hg : Gl X x) (hm : X.mg x = some (.builtin id)) (ha : PA X (e :: es) t)
    (hdb : (x == ("__debug__" : Str)) = false := by decide) (he : starEach (e :: es) X.env = (false, eval e X.env) :: starEach es X.env := by rfl) (hpl : (backTo pos (starEach es X.env)).any (·.1) = false := by rfl) :
    PE X (.Call (.Name x p) (e :: es) [] pos) (tCB r t) :=
  ⟨fun pins s σ H Q I h => wpAny_Call_Name_kw (ld_glob I hg hm (PyProof.Rows.callWith_builtin1 (thn (ha.run pos pins s σ H (fun vs H1 => r vs H1 Q) I h) fun us s1 x => match x with
    | ⟨vs, H1, I1, r1, q1⟩ => hc pins s1 σ H1 vs us Q I1 r1 q1) he hpl) hdb)⟩
theorem i_callM {x : Str} {id : String} {op r} (hc : CallR X (.builtin id) r) (hd : CallD (gm X) op r) (hg : Gl X x) (hm : X.mg x = some (.builtin id)) (ha : PA X (e :: es) (tA (gm X) W fs))
    (hdb : (x == ("__debug__" : Str)) = false := by decide) (he : starEach (e :: es) X.env = (false, eval e X.env) :: starEach es X.env := by rfl) (hpl : (backTo pos (starEach es X.env)).any (·.1) = false := by rfl) :
    PE X (.Call (.Name x p) (e :: es) [] pos) (tE (gm X) W (rCB op fs)) :=
  PEimp (pe_callM hc hg hm ha hdb he hpl) fun _ _ _ h => cb_in hd h
theorem vals2 {a b : Int} {us : List Value} (h : Vals [.int a, .int b] us) : ∃ t u, us = [.int a t, .int b u] := by
  cases h with
  | cons h1 h2 =>
    cases h2 with
    | cons h2 h3 =>
      cases h3
      obtain ⟨t, rfl⟩ := h1
      obtain ⟨u, rfl⟩ := h2
      exact ⟨t, u, rfl⟩
def combOk (a b : Int) : Prop := 0 ≤ a ∧ 0 ≤ b ∧ a < 2 ^ 64 ∧ (b ≤ 9000 ∨ a ≤ 18000)
theorem call_comb : CallR X (.builtin "math.comb") (fun xs H Q => ∃ a b, xs = [.int a, .int b] ∧ combOk a b ∧ Q (.int (PySem.W.mcComb a b)) H) := by
  intro pins s σ H xs us Q I vs h
  obtain ⟨a, b, rfl, ⟨h1, h2, h3, h4⟩, hq⟩ := h
  obtain ⟨t, u, rfl⟩ := vals2 vs
  exact PySem.W.mc_comb h1 h2 h3 h4 fun _ => ⟨.int _, H, I.tok _, ⟨_, rfl⟩, hq⟩
theorem call_gcd : CallR X (.builtin "math.gcd") (fun xs H Q => ∃ a b, xs = [.int a, .int b] ∧ Q (.int (Nat.gcd a.natAbs b.natAbs : Nat)) H) := by
  intro pins s σ H xs us Q I vs h
  obtain ⟨a, b, rfl, hq⟩ := h
  obtain ⟨t, u, rfl⟩ := vals2 vs
  exact PySem.W.mg_gcd fun _ => ⟨.int _, H, I.tok _, ⟨_, rfl⟩, hq⟩
end
open Classical in
noncomputable def cComb : List D → Store → Option (D × Store)
  | [.p (.int a), .p (.int b)], M => if combOk a b then some (.p (.int (PySem.W.mcComb a b)), M) else none
  | _, _ => none
def cGcd : List D → Store → Option (D × Store)
  | [.p (.int a), .p (.int b)], M => some (.p (.int (Nat.gcd a.natAbs b.natAbs : Nat)), M)
  | _, _ => none
section
variable {G : Gm}
theorem d_comb : CallD G cComb (fun xs H Q => ∃ a b, xs = [.int a, .int b] ∧ combOk a b ∧ Q (.int (PySem.W.mcComb a b)) H) := by
  intro μ H M xs vs Q d M' S r q k
  unfold cComb at q
  split at q
  · split at q
    · rename_i h
      cases q
      obtain ⟨v, u, rfl, r1, r2⟩ := r.inv2
      rw [Rep.int] at r1 r2
      subst r1 r2
      exact ⟨_, _, rfl, h, k μ _ H (.refl _) (List.prefix_refl _) S (Rep.int.mpr rfl)⟩
    · cases q
  · cases q
theorem d_gcd : CallD G cGcd (fun xs H Q => ∃ a b, xs = [.int a, .int b] ∧ Q (.int (Nat.gcd a.natAbs b.natAbs : Nat)) H) := by
  intro μ H M xs vs Q d M' S r q k
  unfold cGcd at q
  split at q
  · cases q
    obtain ⟨v, u, rfl, r1, r2⟩ := r.inv2
    rw [Rep.int] at r1 r2
    subst r1 r2
    exact ⟨_, _, rfl, k μ _ H (.refl _) (List.prefix_refl _) S (Rep.int.mpr rfl)⟩
  · cases q
end
theorem v_comb (a b : Int) (M : Store) (h : combOk a b) : cComb [.p (.int a), .p (.int b)] M = some (.p (.int (PySem.W.mcComb a b)), M) := by simp [cComb, h]
@[simp] theorem v_gcd (a b : Int) (M : Store) : cGcd [.p (.int a), .p (.int b)] M = some (.p (.int (Nat.gcd a.natAbs b.natAbs : Nat)), M) := (rfl)
/-! ### o[i] = v, o a list -/
def kOk (r : R D) (f : D → Store → Option (Env × Store)) : Option (Env × Store) := match r with
  | .ok d M => f d M
  | _ => none
@[simp] theorem kOk_ok (d M) (f : D → Store → Option (Env × Store)) : kOk (.ok d M) f = f d M := (rfl)
def gSu (fo fi : RE) (op : D → D → D → Store → Option Store) : RG := fun v ρ M => kOk (fo ρ M) fun o M1 => kOk (fi ρ M1) fun i M2 => (op o i v M2).map fun M3 => (ρ, M3)
def setD : D → D → D → Store → Option Store
  | .ref l, .p (.int k), v, M => (match M[l]? with
    | some (.lst xs) => (ixN xs.length k).map fun j => M.set l (.lst (xs.set j v))
    | _ => none)
  | _, _, _, _ => none
section
variable {X : Cx} {W : WX} {o i : Expr} {fo fi : RE} {pos : Pos}
theorem g_sub (ho : PE X o (tE (gm X) W fo)) (hi : PE X i (tE (gm X) W fi)) (hs : ∀ (v : Value), assign (o.Subscript i pos) X.env v = (do
      let ov ← holding [v] (eval o X.env)
      let iv ← holding [v, ov] (eval i X.env)
      standAt pos
      holding [v, ov, iv] (setItem ov iv v)
      release [v, ov, iv] []) := by exact fun _ => rfl) : PG X (.Subscript o i pos) (tG (gm X) (gSu fo fi setD)) :=
  PGimp (pg_sub ho hi set_list hs) fun v σ H Q h => by
    obtain ⟨μ, ρ, M, d, hE, hS, r, hF⟩ := h
    have hF : FinG (gm X) μ H Q (kOk (fo ρ M) fun o M1 => kOk (fi ρ M1) fun i M2 => (setD o i d M2).map fun M3 => (ρ, M3)) := hF
    refine ⟨μ, ρ, M, hE, hS, ?_⟩
    cases q : fo ρ M with
    | no => rw [q] at hF; exact hF.elim
    | ex c fs M1 => rw [q] at hF; exact hF.elim
    | ok x M1 =>
      rw [q, kOk_ok] at hF
      intro μ1 vo H1 e1 p1 s1 r1
      refine ⟨μ1, ρ, M1, hE.ext e1 p1, s1, ?_⟩
      cases q2 : fi ρ M1 with
      | no => rw [q2] at hF; exact hF.elim
      | ex c fs M2 => rw [q2] at hF; exact hF.elim
      | ok y M2 =>
        rw [q2, kOk_ok] at hF
        intro μ2 vi H2 e2 p2 s2 r2
        unfold setD at hF
        split at hF
        · rename_i l k
          split at hF
          · rename_i xs e
            cases q3 : ixN xs.length k with
            | none => rw [q3] at hF; exact hF.elim
            | some j =>
              rw [q3] at hF
              obtain ⟨a, h1, rfl⟩ := Rep.ref.mp (r1.ext e2 p2)
              rw [Rep.int] at r2
              subst r2
              obtain ⟨ws, h2, h3⟩ := s2.lst h1 e
              have rv := (r.ext e1 p1).ext e2 p2
              refine ⟨a, ws, k, j, rfl, rfl, h2, by rw [← h3.length]; exact q3, ?_⟩
              have ex := Ext.lst (o := .lst (ws.set j v)) h2
              exact hF μ2 σ _ ((e1.trans e2).trans ex) (p1.trans p2) ((hE.ext e1 p1).ext (e2.trans ex) p2) (s2.put h1 e rfl rfl (fun ob w z => by rw [h2] at z; cases z) ex ⟨_, upd_same, (h3.set j rv).ext ex (List.prefix_refl _)⟩)
          · exact hF.elim
        · exact hF.elim
end
@[simp] theorem e_gSu (fo fi : RE) (op) (v ρ M) : gSu fo fi op v ρ M = kOk (fo ρ M) fun o M1 => kOk (fi ρ M1) fun i M2 => (op o i v M2).map fun M3 => (ρ, M3) := (rfl)
/-- a while with a measure -/
theorem rWh_find {c : RT} {b : RS} (I : Nat → Env → Store → Prop) (Q : Out → Prop)
    (h : ∀ n ρ M, I n ρ M → (∃ M1, c ρ M = .ok false M1 ∧ Q (.nx ρ M1)) ∨ (∃ M1, c ρ M = .ok true M1 ∧ ((∃ ρ2 M2 m, (b ρ M1 = .nx ρ2 M2 ∨ b ρ M1 = .ct ρ2 M2) ∧ m < n ∧ I m ρ2 M2) ∨ (∃ ρ2 M2, b ρ M1 = .bk ρ2 M2 ∧ Q (.nx ρ2 M2)) ∨ ∃ d M2, b ρ M1 = .rt d M2 ∧ Q (.rt d M2)))) :
    ∀ n ρ M, I n ρ M → Q (rWh c b ρ M) := by
  have go : ∀ n ρ M, I n ρ M → ∃ k o, whileN c b k ρ M = some o ∧ Q o := by
    intro n
    induction n using Nat.strongRecOn with
    | ind n ih =>
      intro ρ M hI
      rcases h n ρ M hI with ⟨M1, h1, h2⟩ | ⟨M1, h1, ⟨ρ2, M2, m, h2, h3, h4⟩ | ⟨ρ2, M2, h2, h3⟩ | ⟨d, M2, h2, h3⟩⟩
      · exact ⟨1, _, by unfold whileN; rw [h1], h2⟩
      · obtain ⟨k, o, h5, h6⟩ := ih m h3 ρ2 M2 h4
        refine ⟨k + 1, o, ?_, h6⟩
        unfold whileN
        rcases h2 with h2 | h2
        · simp only [h1, h2]; exact h5
        · simp only [h1, h2]; exact h5
      · exact ⟨1, _, by unfold whileN; simp only [h1, h2], h3⟩
      · exact ⟨1, _, by unfold whileN; simp only [h1, h2], h3⟩
  intro n ρ M hI
  obtain ⟨k, o, h1, h2⟩ := go n ρ M hI
  rw [rWh_of h1]
  exact h2
/-- small enough to be multiplied -/
def Sm (i : Int) : Prop := ∃ k : Nat, k ≤ 20000 ∧ i.natAbs < 2 ^ k
theorem Sm.log {i : Int} (h : Sm i) : i.natAbs.log2 ≤ 20000 := by
  obtain ⟨k, hk, h⟩ := h
  by_cases e : i.natAbs = 0
  · rw [e]; simp
  · have := (Nat.log2_lt e).mpr h
    omega
theorem Sm.mulOk {i j : Int} (h1 : Sm i) (h2 : Sm j) : mulOk i j := .inr (by have := h1.log; have := h2.log; omega)
theorem Sm.divOk {j : Int} (k : Nat) (h : 0 < j) (hk : k ≤ 9000) (h2 : j.natAbs < 2 ^ k) : divOk j := ⟨h, (Nat.log2_lt (by omega)).mpr (Nat.lt_of_lt_of_le h2 (Nat.pow_le_pow_right (by decide) hk))⟩
theorem Sm.le {i j : Int} (h : Sm j) (k : i.natAbs ≤ j.natAbs) : Sm i := by
  obtain ⟨n, hn, h⟩ := h
  exact ⟨n, hn, by omega⟩
end Fl

set_option Elab.async false
set_option linter.all false
set_option maxRecDepth 100000
/-! Fl, part U: walks in general; list comprehensions. -/
namespace Fl
open PySem PySem.Spec L2
set_option autoImplicit false
/-- J walks xs; k: what must stand -/
def Wk (G : Gm) (J : It) (k : Option (Nat × O)) (xs : List D) (μ : List Addr) (H : Hp) : Prop :=
  ∃ B : List Addr → Hp → Prop, (∀ μ μ' H H', Ext H H' → μ <+: μ' → B μ H → B μ' H') ∧
    (∀ i μ H M, i < xs.length → SR G μ H M → B μ H → chk k M → J.go i H) ∧ (∀ μ H M, SR G μ H M → B μ H → chk k M → J.stop xs.length H) ∧
    (∀ i μ H M v H', i < xs.length → SR G μ H M → B μ H → chk k M → J.yld i H v H' → ∃ d, xs[i]? = some d ∧ Ext H H' ∧ SR G μ H' M ∧ Rep G μ H' d v) ∧ B μ H
abbrev RW := RX (List D × Option (Nat × O))
abbrev tW (G : Gm) (W : WX) (f : RW) : TI := fun σ H R => tX G (fun μ H (a : List D × Option (Nat × O)) J => Wk G J a.2 a.1 μ H) W f σ H R
theorem wk_tup {G : Gm} {a : Addr} {xs : List D} {vs : List V} {μ : List Addr} {H : Hp} (h1 : SqT G.K H a vs) (h2 : Reps G μ H xs vs) : Wk G (Itt G.K a) none xs μ H := by
  refine ⟨fun μ H => SqT G.K H a vs ∧ Reps G μ H xs vs, fun _ _ _ _ e p z => ⟨e.sqt z.1, z.2.ext e p⟩, ?_, ?_, ?_, h1, h2⟩
  · rintro i μ H M hi _ ⟨z1, z2⟩ _
    obtain ⟨w, hw, _⟩ := z2.get (List.getElem?_eq_getElem hi)
    exact ⟨vs, w, z1, hw⟩
  · rintro μ H M _ ⟨z1, z2⟩ _
    exact ⟨vs, z1, by rw [z2.len_eq]; exact Nat.le_refl _⟩
  · rintro i μ H M w H' hi S ⟨z1, z2⟩ _ ⟨rfl, y⟩
    obtain ⟨w', hw, r⟩ := z2.get (List.getElem?_eq_getElem hi)
    have := (y vs z1).symm.trans hw
    cases this
    exact ⟨_, List.getElem?_eq_getElem hi, .refl _, S, r⟩
theorem wk_lst {G : Gm} {a : Addr} {l : Nat} {o : O} {xs : List D} {μ : List Addr} {H : Hp} (ha : μ[l]? = some a) (hk : o = .lst xs ∨ o = .ro xs) : Wk G (Itl G.K a) (some (l, o)) xs μ H := by
  refine ⟨fun μ H => μ[l]? = some a, fun _ _ _ _ e p z => pre_get p z, ?_, ?_, ?_, ha⟩
  · rintro i μ H M hi S z c
    obtain ⟨vs, z1, z2⟩ := SR.list_at S z c hk
    obtain ⟨w, hw, _⟩ := z2.get (List.getElem?_eq_getElem hi)
    exact ⟨vs, w, z1, hw⟩
  · rintro μ H M S z c
    obtain ⟨vs, z1, z2⟩ := SR.list_at S z c hk
    exact ⟨vs, z1, by rw [z2.len_eq]; exact Nat.le_refl _⟩
  · rintro i μ H M w H' hi S z c ⟨rfl, y⟩
    obtain ⟨vs, z1, z2⟩ := SR.list_at S z c hk
    obtain ⟨w', hw, r⟩ := z2.get (List.getElem?_eq_getElem hi)
    have := (y vs z1).symm.trans hw
    cases this
    exact ⟨_, List.getElem?_eq_getElem hi, .refl _, S, r⟩
theorem wk_rng {G : Gm} {lo : Int} {n : Nat} {μ : List Addr} {H : Hp} : Wk G (Itr lo n) none (intsD lo n) μ H := by
  refine ⟨fun _ _ => True, fun _ _ _ _ _ _ z => z, ?_, ?_, ?_, trivial⟩
  · rintro i μ H M hi _ _ _
    rw [intsD_len] at hi
    exact hi
  · rintro μ H M _ _ _
    rw [intsD_len]
    exact Nat.le_refl _
  · rintro i μ H M w H' hi S _ _ ⟨rfl, rfl⟩
    rw [intsD_len] at hi
    exact ⟨_, intsD_get lo n i hi, .refl _, S, Rep.int.mpr rfl⟩
def ofW : Option (List D × Option (Nat × O)) → Store → R (List D × Option (Nat × O))
  | some q, M => .ok q M
  | none, _ => .no
/-- the walk of a list or a tuple -/
def wRow (f : RE) : RW := fun ρ M => (f ρ M).bind fun d M1 => ofW (walkD d M1) M1
/-- the walk of a range -/
def wRng (rg : List D → Option (Int × Nat)) (f : RA) : RW := fun ρ M => (f ρ M).bind fun ds M1 => ofW ((rg ds).map fun q => (intsD q.1 q.2, none)) M1
section
variable {X : Cx} {W : WX} {e tg : Expr} {fe : RE} {fs : RA} {pos : Pos}
theorem wi_row (he : PE X e (tE (gm X) W fe)) : PI X tg e (tW (gm X) W (wRow fe)) :=
  PIimp (pi_row he) fun σ H R h => by
    refine (tX.bind (f := fe) (g := fun d ρ M1 => ofW (walkD d M1) M1) (rel := Rep (gm X)) h).mono fun v H1 ⟨μ, ρ, M, d, hE, hS, rd, hF⟩ => ?_
    have hF : Fin (gm X) _ W μ σ H1 R (ofW (walkD d M) M) := hF
    cases q : walkD d M with
    | none => rw [q] at hF; exact hF.elim
    | some p =>
      obtain ⟨xs, k⟩ := p
      rw [q] at hF
      unfold walkD at q
      split at q
      · cases q
        obtain ⟨a, vs, e1, h1, h2⟩ := Rep.ptup.mp rd
        exact ⟨a, e1, .inr ⟨⟨vs, h1⟩, hF μ _ H1 (.refl _) (List.prefix_refl _) hS (wk_tup h1 (Reps.of_P h2))⟩⟩
      · cases q
        obtain ⟨a, vs, e1, h1, h2⟩ := Rep.tup.mp rd
        exact ⟨a, e1, .inr ⟨⟨vs, h1⟩, hF μ _ H1 (.refl _) (List.prefix_refl _) hS (wk_tup h1 h2)⟩⟩
      · obtain ⟨a, ha, e1⟩ := Rep.ref.mp rd
        split at q
        · rename_i ys e2
          cases q
          obtain ⟨vs, z1, z2⟩ := SR.list_at hS ha e2 (.inl rfl)
          exact ⟨a, e1, .inl ⟨⟨vs, z1⟩, hF μ _ H1 (.refl _) (List.prefix_refl _) hS (wk_lst ha (.inl rfl))⟩⟩
        · rename_i ys e2
          cases q
          obtain ⟨vs, z1, z2⟩ := SR.list_at hS ha e2 (.inr rfl)
          exact ⟨a, e1, .inl ⟨⟨vs, z1⟩, hF μ _ H1 (.refl _) (List.prefix_refl _) hS (wk_lst ha (.inr rfl))⟩⟩
        · cases q
      · cases q
end
/-! ### list comprehensions -/
theorem wipe_get (σ : St) (k : Nat) : ∀ vs : List Nat, (L2.wipe σ vs)[k]? = if k ∈ vs ∧ k < σ.length then some none else σ[k]?
  | [] => by simp [L2.wipe]
  | i :: is => by
    have ih := wipe_get σ k is
    have il : (L2.wipe σ is).length = σ.length := L2.wipe_length ..
    unfold L2.wipe
    by_cases e : i = k
    · subst e
      by_cases hk : i < σ.length
      · rw [List.getElem?_set_self (by rw [il]; exact hk), if_pos ⟨List.mem_cons_self, hk⟩]
      · rw [if_neg (fun h => hk h.2), List.getElem?_eq_none (by rw [List.length_set, il]; omega), List.getElem?_eq_none (by omega)]
    · rw [List.getElem?_set_ne e, ih]
      have e' : ¬ k = i := fun z => e z.symm
      simp only [List.mem_cons, e', false_or]
theorem wipe_set (σ : St) (i : Nat) (x : Option V) (vs : List Nat) (h : i ∈ vs) : L2.wipe (σ.set i x) vs = L2.wipe σ vs := by
  apply List.ext_getElem?
  intro k
  rw [wipe_get, wipe_get, List.length_set]
  by_cases e : k ∈ vs ∧ k < σ.length
  · rw [if_pos e, if_pos e]
  · rw [if_neg e, if_neg e]
    by_cases e2 : i = k
    · subst e2
      have : ¬ i < σ.length := fun z => e ⟨h, z⟩
      rw [List.getElem?_eq_none (by rw [List.length_set]; omega), List.getElem?_eq_none (by omega)]
    · rw [List.getElem?_set_ne e2]
def wipeE (ρ : Env) : List Nat → Env
  | [] => ρ
  | i :: is => (wipeE ρ is).set i none
theorem ER.unset {G : Gm} {μ : List Addr} {H : Hp} {ρ : Env} {σ : St} (h : ER G μ H ρ σ) (i : Nat) : ER G μ H (ρ.set i none) (σ.set i none) := by
  refine ⟨by simp [h.len], fun j d hj => ?_⟩
  by_cases e : i = j
  · subst e
    by_cases hl : i < ρ.length
    · rw [List.getElem?_set_self hl] at hj
      cases hj
    · rw [List.getElem?_eq_none (by rw [List.length_set]; omega)] at hj
      cases hj
  · rw [List.getElem?_set_ne e] at hj ⊢
    exact h.at_ j d hj
theorem ER.wipe {G : Gm} {μ : List Addr} {H : Hp} {ρ : Env} {σ : St} (h : ER G μ H ρ σ) : ∀ vs : List Nat, ER G μ H (wipeE ρ vs) (L2.wipe σ vs)
  | [] => h
  | i :: is => by
    unfold wipeE L2.wipe
    exact (ER.wipe h is).unset i
open Classical in
noncomputable def lcL (l : Nat) (k : Option (Nat × O)) (g : RG) (tt : RT) (te : RE) (ρ : Env) : List D → Store → R D
  | [], M => if chk k M then .ok (.ref l) M else .no
  | x :: xs, M => if chk k M then (match g x ρ M with
    | some (ρ1, M1) => (match tt ρ1 M1 with
      | .ok true M2 => (match te ρ1 M2 with
        | .ok y M3 => (match M3[l]? with
          | some (.lst acc) => if acc.length < sizeLine then lcL l k g tt te ρ xs (M3.set l (.lst (acc ++ [y]))) else .no
          | _ => .no)
        | _ => .no)
      | .ok false M2 => lcL l k g tt te ρ xs M2
      | _ => .no)
    | none => .no) else .no
noncomputable def rLC (fw : RW) (g : RG) (tt : RT) (te : RE) (vs : List Nat) : RE := fun ρ M => (fw ρ M).bind fun q M1 => lcL M1.length q.2 g tt te (wipeE ρ vs) q.1 (M1 ++ [.lst []])
/-- the targets of a comprehension: names of its own -/
def Own (G : Gm) (vs : List Nat) (g : RG) (graw : TG) : Prop := ∀ (d : D) (v : V) (μ : List Addr) (H : Hp) (M : Store) (σ : St) (ρ ρ1 : Env) (M1 : Store) (Q : St → Hp → Prop), ER G μ H ρ σ → Rep G μ H d v → g d ρ M = some (ρ1, M1) →
  (∀ σ1, M1 = M → ER G μ H ρ1 σ1 → L2.wipe σ1 vs = L2.wipe σ vs → Q σ1 H) → graw v σ H Q
theorem own_nm {G : Gm} {vs : List Nat} {i : Nat} (h : i ∈ vs) : Own G vs (gNm i) (gName i) := by
  intro d v μ H M σ ρ ρ1 M1 Q hE r e k
  cases e
  exact k _ rfl (hE.set i r) (wipe_set σ i _ vs h)
def W0 : WX := fun _ _ _ _ => False
def rYes : RT := fun _ M => .ok true M
section
variable {X : Cx} {W : WX} {e tg iter elt : Expr} {ifs : List Expr} {scope : Scope} {own : List (Str × Nat)} {fw : RW} {g : RG} {graw : TG} {tt : RT} {te : RE} {pos : Pos}
theorem pts_yes : PTs X [] (tT (gm X) W rYes) :=
  ⟨fun pins s σ H Q I h => pts_nil.run pins s σ H Q I (by
    obtain ⟨μ, ρ, M, hE, hS, hF⟩ := h
    exact hF μ true H (.refl _) (List.prefix_refl _) hS rfl)⟩
theorem lc_in {X : Cx} {W : WX} {fw : RW} {g : RG} {graw : TG} {tt : RT} {te : RE} {vs : List Nat} (ho : Own (gm X) vs g graw) {σ : St} {H : Hp} {Q : VK} (h : tE (gm X) W (rLC fw g tt te vs) σ H Q) :
    tLc (tW (gm X) W fw) graw (tT (gm X) W0 tt) (tE (gm X) W0 te) vs σ H Q := by
  refine (tX.bind (f := fw) (g := fun q ρ M1 => lcL M1.length q.2 g tt te (wipeE ρ vs) q.1 (M1 ++ [.lst []])) (rel := fun μ H (a : List D × Option (Nat × O)) J => Wk (gm X) J a.2 a.1 μ H) h).mono fun J H1 ⟨μ, ρ, M, q, hE, hS, hW, hF⟩ => ?_
  obtain ⟨xs, k⟩ := q
  obtain ⟨B, mono, hgo, hstop, hyld, hB⟩ := hW
  have hF : Fin (gm X) (Rep (gm X)) W μ σ H1 Q (lcL M.length k g tt te (wipeE ρ vs) xs (M ++ [.lst []])) := hF
  intro D hD
  have exD : Ext H1 (upd H1 D (.lst [])) := .new hD
  have hS1 : SR (gm X) (μ ++ [D]) (upd H1 D (.lst [])) (M ++ [.lst []]) := hS.new hD ⟨[], upd_same, .nil⟩
  have hl : (μ ++ [D])[M.length]? = some D := by rw [← hS.len]; simp
  generalize M.length = l at hF hl
  have hchk : ∀ {xs M}, Fin (gm X) (Rep (gm X)) W μ σ H1 Q (lcL l k g tt te (wipeE ρ vs) xs M) → True := fun _ => trivial
  refine ⟨fun i m H => m = xs.length - i ∧ i ≤ xs.length ∧ ∃ μ M, ER (gm X) μ H ρ σ ∧ SR (gm X) μ H M ∧ B μ H ∧ μ[l]? = some D ∧ Fin (gm X) (Rep (gm X)) W μ σ H Q (lcL l k g tt te (wipeE ρ vs) (xs.drop i) M), ⟨_, rfl, Nat.zero_le _, μ ++ [D], M ++ [.lst []], hE.ext exD (List.prefix_append _ _), hS1, mono _ _ _ _ exD (List.prefix_append _ _) hB, hl, (by rw [List.drop_zero]; exact Fin.later exD (List.prefix_append _ _) hF)⟩, ?_⟩
  rintro i m H ⟨rfl, hi, μ, M, hE, hS, hB, hl, hF⟩
  by_cases hlt : i < xs.length
  · rw [List.drop_eq_getElem_cons hlt] at hF
    unfold lcL at hF
    split at hF
    · rename_i hk
      refine .inr ⟨hgo i μ H M hlt hS hB hk, fun H' => (∃ μ M, ER (gm X) μ H' ρ σ ∧ SR (gm X) μ H' M ∧ B μ H' ∧ μ[l]? = some D ∧ Fin (gm X) (Rep (gm X)) W μ σ H' Q (lcL l k g tt te (wipeE ρ vs) (xs.drop (i + 1)) M)), fun H' h => ⟨_, by omega, rfl, hlt, h⟩, ?_⟩
      intro x H2 hy
      obtain ⟨d, hd, ex2, hS2, rd⟩ := hyld i μ H M x H2 hlt hS hB hk hy
      have e0 : d = xs[i] := by
        rw [List.getElem?_eq_getElem hlt] at hd
        exact (Option.some.inj hd).symm
      subst e0
      have hE2 := hE.ext ex2 (List.prefix_refl _)
      have hB2 := mono _ _ _ _ ex2 (List.prefix_refl _) hB
      cases q1 : g xs[i] (wipeE ρ vs) M with
      | none => rw [q1] at hF; exact hF.elim
      | some p =>
        obtain ⟨ρ1, M1⟩ := p
        rw [q1] at hF
        refine ho _ x μ H2 M _ (wipeE ρ vs) ρ1 M1 _ (hE2.wipe vs) rd q1 fun σ2 eM hE3 hw => ⟨hw.trans ?_, ?_⟩
        · apply List.ext_getElem?
          intro k
          rw [wipe_get, wipe_get, L2.wipe_length]
          split
          · rfl
          · rfl
        · subst eM
          refine ⟨μ, ρ1, M1, hE3, hS2, ?_⟩
          cases q2 : tt ρ1 M1 with
          | no => simp only [q2] at hF; exact hF.elim
          | ex c fs M2 => simp only [q2] at hF; exact hF.elim
          | ok b M2 =>
            intro μ3 b' H3 ex3 p3 hS3 eb
            cases eb
            cases b with
            | false =>
              simp only [q2] at hF
              show ∃ μ M, _
              exact ⟨μ3, M2, hE2.ext ex3 p3, hS3, mono _ _ _ _ ex3 p3 hB2, pre_get p3 hl, Fin.later (ex2.trans ex3) p3 hF⟩
            | true =>
              simp only [q2] at hF
              show tE (gm X) W0 te _ _ _
              refine ⟨μ3, ρ1, M2, hE3.ext ex3 p3, hS3, ?_⟩
              cases q3 : te ρ1 M2 with
              | no => simp only [q3] at hF; exact hF.elim
              | ex c fs M3 => simp only [q3] at hF; exact hF.elim
              | ok y M3 =>
                simp only [q3] at hF
                intro μ4 v H4 ex4 p4 hS4 rv
                split at hF
                · rename_i acc eacc
                  split at hF
                  · rename_i hlen
                    have hl4 := pre_get p4 (pre_get p3 hl)
                    obtain ⟨ws, h2, h3⟩ := hS4.lst hl4 eacc
                    have ex := Ext.lst (o := .lst (ws ++ [v])) h2
                    refine ⟨ws, h2, by rw [← h3.length]; exact hlen, μ4, _, hE2.ext (ex3.trans (ex4.trans ex)) (p3.trans p4), hS4.put (o := .lst (acc ++ [y])) hl4 eacc rfl rfl (fun ob w z => by rw [h2] at z; cases z) ex ⟨_, upd_same, (h3.app (.cons rv .nil)).ext ex (List.prefix_refl _)⟩, mono _ _ _ _ (ex3.trans (ex4.trans ex)) (p3.trans p4) hB2, hl4, Fin.later (ex2.trans (ex3.trans (ex4.trans ex))) (p3.trans p4) hF⟩
                  · exact hF.elim
                · exact hF.elim
    · exact hF.elim
  · have e0 : i = xs.length := by omega
    subst e0
    rw [List.drop_length] at hF
    unfold lcL at hF
    split at hF
    · rename_i hk
      exact .inl ⟨hstop μ H M hS hB hk, hF μ _ H (.refl _) (List.prefix_refl _) hS (Rep.ref.mpr ⟨D, hl, rfl⟩)⟩
    · exact hF.elim
theorem i_lc (hc : X.calm = true) (hN : X.N.Nodup) (hi : PI X tg iter (tW (gm X) W fw)) (ok : BlkOk X.N X.env.scope scope own) (ho : Own (gm X) (own.map (·.2)) g graw)
    (hg : ∀ (s : Shared) (H : Hp) (C : Addr) (cl : List (Str × Addr)) (fp : List Addr), PG (X.blk s H scope (compEnvC scope cl C X.env) fp) tg graw)
    (ht : ∀ (s : Shared) (H : Hp) (C : Addr) (cl : List (Str × Addr)) (fp : List Addr), PTs (X.blk s H scope (compEnvC scope cl C X.env) fp) ifs (tT (gm X) W0 tt))
    (he : ∀ (s : Shared) (H : Hp) (C : Addr) (cl : List (Str × Addr)) (fp : List Addr), PE (X.blk s H scope (compEnvC scope cl C X.env) fp) elt (tE (gm X) W0 te))
    (hs : ∀ (x : Value), foldedSetIterable iter X.env x = pure x := by exact fun _ => rfl) :
    PE X (.ListComp elt [{ target := tg, iter := iter, ifs := ifs, is_async := 0 }] scope pos) (tE (gm X) W (rLC fw g tt te (own.map (·.2)))) :=
  PEimp (pe_lc hc hN hi ok hg ht he hs) fun σ H Q h => lc_in ho h
/-- y = [..] -/
theorem s_setLc (i : Nat) {y : Str} {py spos : Pos} (hc : X.calm = true) (hN : X.N.Nodup) (hi : PI X tg iter (tW (gm X) W fw)) (ok : BlkOk X.N X.env.scope scope own) (ho : Own (gm X) (own.map (·.2)) g graw)
    (hg : ∀ (s : Shared) (H : Hp) (C : Addr) (cl : List (Str × Addr)) (fp : List Addr), PG (X.blk s H scope (compEnvC scope cl C X.env) fp) tg graw)
    (ht : ∀ (s : Shared) (H : Hp) (C : Addr) (cl : List (Str × Addr)) (fp : List Addr), PTs (X.blk s H scope (compEnvC scope cl C X.env) fp) ifs (tT (gm X) W0 tt))
    (he : ∀ (s : Shared) (H : Hp) (C : Addr) (cl : List (Str × Addr)) (fp : List Addr), PE (X.blk s H scope (compEnvC scope cl C X.env) fp) elt (tE (gm X) W0 te))
    (hy : X.N[i]? = some y := by rfl) (hl : X.env.scope.names.lookup y = some .local := by rfl)
    (hw : swapsWith (elt.ListComp [{ target := tg, iter := iter, ifs := ifs, is_async := 0 }] scope pos) (some (Expr.Name y py)) spos.line X.env = pure true := by exact sw_true rfl rfl rfl (by decide +kernel))
    (hs : ∀ (x : Value), foldedSetIterable iter X.env x = pure x := by exact fun _ => rfl) :
    PS X (.Assign [.Name y py] (.ListComp elt [{ target := tg, iter := iter, ifs := ifs, is_async := 0 }] scope pos) spos) (tS (gm X) W (rSet i (rLC fw g tt te (own.map (·.2))))) :=
  PSimp (ps_setLc hc hN hy hl hw hi ok hg ht he hs) fun D σ H h => lc_in ho ((tX.out h).mono fun v H1 ⟨μ, ρ, M, x, hE, hS, rx, hF⟩ => hF μ _ H1 (.refl _) (List.prefix_refl _) (hE.set i rx) hS)
end
/-! ### for over any walk -/
noncomputable def rForW (fw : RW) (g : RG) (body : RS) : RS := fun ρ M => (fw ρ M).out ρ fun q M1 => forL q.2 g body q.1 ρ M1
def enumD (xs : List D) : List D := (List.range xs.length).map fun (i : Nat) => mkTup [.p (.int (i : Int)), xs.getD i (.p .non)]
theorem enumD_get {xs : List D} {i : Nat} (h : i < xs.length) : (enumD xs)[i]? = some (mkTup [.p (.int (i : Int)), xs[i]]) := by
  simp [enumD, h]
theorem enumD_len (xs : List D) : (enumD xs).length = xs.length := by simp [enumD]
/-- enumerate of a list -/
def enumK (ds : List D) (M1 : Store) : R (List D × Option (Nat × O)) := match ds with
  | [.ref l] => (match M1[l]? with
    | some (.lst xs) => .ok (enumD xs, some (l, .lst xs)) M1
    | some (.ro xs) => .ok (enumD xs, some (l, .ro xs)) M1
    | _ => .no)
  | _ => .no
def wEnum (f : RA) : RW := fun ρ M => (f ρ M).bind enumK
theorem wk_enum {G : Gm} {a : Addr} {l : Nat} {o : O} {xs : List D} {μ : List Addr} {H : Hp} (ha : μ[l]? = some a) (hk : o = .lst xs ∨ o = .ro xs) : Wk G (Ite G.K a) (some (l, o)) (enumD xs) μ H := by
  refine ⟨fun μ H => μ[l]? = some a, fun _ _ _ _ e p z => pre_get p z, ?_, ?_, ?_, ha⟩
  · rintro i μ H M hi S z c
    rw [enumD_len] at hi
    obtain ⟨vs, z1, z2⟩ := SR.list_at S z c hk
    obtain ⟨w, hw, _⟩ := z2.get (List.getElem?_eq_getElem hi)
    exact ⟨vs, w, z1, hw⟩
  · rintro μ H M S z c
    obtain ⟨vs, z1, z2⟩ := SR.list_at S z c hk
    exact ⟨vs, z1, by rw [enumD_len, z2.len_eq]; exact Nat.le_refl _⟩
  · rintro i μ H M w H' hi S z c ⟨T, x, rfl, hT, rfl, y⟩
    rw [enumD_len] at hi
    obtain ⟨vs, z1, z2⟩ := SR.list_at S z c hk
    obtain ⟨w', hw, r⟩ := z2.get (List.getElem?_eq_getElem hi)
    have := (y vs z1).symm.trans hw
    cases this
    have ex : Ext H (upd H T (.tup [.int i, x])) := .new hT
    exact ⟨_, enumD_get hi, ex, S.grow hT, mkTup_ok (SqT.of upd_same) (.cons (Rep.int.mpr rfl) (.cons (r.ext ex (List.prefix_refl _)) .nil))⟩
section
variable {X : Cx} {W : WX} {e tg : Expr} {fs : RA} {fw : RW} {g : RG} {body : RS} {pos p tpos : Pos} {sb : List Stmt}
theorem s_forW (hp : PassesOwn (model X.prog X.w) X.A X.env X.xe) (hc : X.calm = true) (hi : PI X tg e (tW (gm X) W fw)) (hg : PG X tg (tG (gm X) g)) (hb : PSs X sb (tS (gm X) W body))
    (hs : ∀ x, foldedSetIterable e X.env x = pure x := by intro _; rfl) : PS X (.For tg e sb [] pos) (tS (gm X) W (rForW fw g body)) :=
  PSimp (ps_for hp hc hi hg hb hs) fun D σ H h => by
    refine (tX.out (f := fw) (rel := fun μ H (a : List Fl.D × Option (Nat × O)) J => Wk (gm X) J a.2 a.1 μ H) (g := fun q ρ M => forL q.2 g body q.1 ρ M) h).mono fun J H1 ⟨μ, ρ, M, q, hE, hS, hW, hF⟩ => ?_
    obtain ⟨B, mono, hgo, hstop, hyld, hB⟩ := hW
    exact loop_gen (X := X) (W := W) (J := J) (k := q.2) (xs := q.1) B mono hgo hstop hyld hE hS hB hF
theorem wi_enum {elts : List Expr} {kk : Nat} (hgl : Gl X "enumerate") (hm : X.mg "enumerate" = none) (ha : PA X [e] (tA (gm X) W fs)) (hs1 : starEach [e] X.env = [(false, eval e X.env)] := by rfl) :
    PI X (.Tuple elts kk tpos) (.Call (.Name "enumerate" p) [e] [] pos) (tW (gm X) W (wEnum fs)) :=
  PIimp (pi_enum hgl hm ha hs1) fun σ H R h => by
    refine (tX.bind (f := fs) (g := fun ds ρ M1 => enumK ds M1) (rel := Reps (gm X)) h).mono fun vs H1 ⟨μ, ρ, M, ds, hE, hS, rd, hF⟩ => ?_
    have hF : Fin (gm X) (fun μ H (a : List Fl.D × Option (Nat × O)) J => Wk (gm X) J a.2 a.1 μ H) W μ σ H1 R (enumK ds M) := hF
    unfold enumK at hF
    split at hF
    · rename_i l
      obtain ⟨v, rfl, r⟩ := rd.inv1
      obtain ⟨a, ha, rfl⟩ := Rep.ref.mp r
      split at hF
      · rename_i ys e2
        obtain ⟨vs, z1, z2⟩ := SR.list_at hS ha e2 (.inl rfl)
        exact ⟨a, vs, rfl, z1, hF μ _ H1 (.refl _) (List.prefix_refl _) hS (wk_enum ha (.inl rfl))⟩
      · rename_i ys e2
        obtain ⟨vs, z1, z2⟩ := SR.list_at hS ha e2 (.inr rfl)
        exact ⟨a, vs, rfl, z1, hF μ _ H1 (.refl _) (List.prefix_refl _) hS (wk_enum ha (.inr rfl))⟩
      · exact hF.elim
    · exact hF.elim
theorem wi_rng1 {a : Expr} (hgl : Gl X "range") (hm : X.mg "range" = none) (ha : PA X [a] (tA (gm X) W fs)) (hs1 : starEach [a] X.env = [(false, eval a X.env)] := by rfl) :
    PI X tg (.Call (.Name "range" p) [a] [] pos) (tW (gm X) W (wRng rng1 fs)) :=
  PIimp (pi_range1 hgl hm ha hs1) fun σ H R h => by
    refine (tX.bind (f := fs) (g := fun ds ρ M1 => ofW ((rng1 ds).map fun q => (intsD q.1 q.2, none)) M1) (rel := Reps (gm X)) h).mono fun vs H1 ⟨μ, ρ, M, ds, hE, hS, rd, hF⟩ => ?_
    have hF : Fin (gm X) (fun μ H (a : List Fl.D × Option (Nat × O)) J => Wk (gm X) J a.2 a.1 μ H) W μ σ H1 R (ofW ((rng1 ds).map fun q => (intsD q.1 q.2, none)) M) := hF
    cases q : rng1 ds with
    | none => rw [q] at hF; exact hF.elim
    | some r =>
      obtain ⟨lo, n⟩ := r
      rw [q] at hF
      unfold rng1 at q
      split at q
      · split at q
        · rename_i j hj
          cases q
          obtain ⟨v, rfl, r⟩ := rd.inv1
          rw [Rep.int] at r
          subst r
          exact ⟨j, rfl, hj.1, hj.2, hF μ _ H1 (.refl _) (List.prefix_refl _) hS wk_rng⟩
        · cases q
      · cases q
theorem wi_rng2 {a b : Expr} (hgl : Gl X "range") (hm : X.mg "range" = none) (ha : PA X [a, b] (tA (gm X) W fs)) (hs1 : starEach [a, b] X.env = [(false, eval a X.env), (false, eval b X.env)] := by rfl) (hs2 : starEach [b] X.env = [(false, eval b X.env)] := by rfl) :
    PI X tg (.Call (.Name "range" p) [a, b] [] pos) (tW (gm X) W (wRng rng2 fs)) :=
  PIimp (pi_range2 hgl hm ha hs1 hs2) fun σ H R h => by
    refine (tX.bind (f := fs) (g := fun ds ρ M1 => ofW ((rng2 ds).map fun q => (intsD q.1 q.2, none)) M1) (rel := Reps (gm X)) h).mono fun vs H1 ⟨μ, ρ, M, ds, hE, hS, rd, hF⟩ => ?_
    have hF : Fin (gm X) (fun μ H (a : List Fl.D × Option (Nat × O)) J => Wk (gm X) J a.2 a.1 μ H) W μ σ H1 R (ofW ((rng2 ds).map fun q => (intsD q.1 q.2, none)) M) := hF
    cases q : rng2 ds with
    | none => rw [q] at hF; exact hF.elim
    | some r =>
      obtain ⟨lo, n⟩ := r
      rw [q] at hF
      unfold rng2 at q
      split at q
      · split at q
        · rename_i i j hj
          cases q
          obtain ⟨v, u, rfl, r1, r2⟩ := rd.inv2
          rw [Rep.int] at r1 r2
          subst r1 r2
          exact ⟨_, _, rfl, hj, hF μ _ H1 (.refl _) (List.prefix_refl _) hS wk_rng⟩
        · cases q
      · cases q
end
end Fl

set_option Elab.async false
set_option linter.all false
set_option maxRecDepth 100000
/-! Fl, part V: words within a comprehension; bits; sum. -/
namespace Fl
open PySem PySem.Spec L2
set_option autoImplicit false
theorem tk0 {X : Cx} : Takes X W0 := fun u s' h => by
  obtain ⟨_, _, _, _, _, _, _, _, _, _, _, _, _, _, _, _, z⟩ := h
  exact (z : False).elim
open Classical in
noncomputable def dShl : D → D → Store → Option (D × Store)
  | .p (.int i), .p (.int j), M => if CPow i j then some (.p (.int (i * 2 ^ j.toNat)), M) else none
  | _, _, _ => none
def dShr : D → D → Store → Option (D × Store)
  | .p (.int i), .p (.int j), M => if 0 ≤ j then some (.p (.int (i / 2 ^ j.toNat)), M) else none
  | _, _, _ => none
def dBAnd : D → D → Store → Option (D × Store)
  | .p (.int i), .p (.int j), M => some (.p (.int (Builtin.bitAnd i j)), M)
  | _, _, _ => none
section
variable {G : Gm}
theorem d_shl : OpD G dShl (rI CPow fun i j => .int (i * 2 ^ j.toNat)) := by
  intro μ H M x y v u Q d M' S rx ry q k
  unfold dShl at q
  split at q
  · split at q
    · rename_i h
      cases q
      rw [Rep.int] at rx ry
      exact ⟨_, _, rx, ry, h, k μ _ H (.refl H) (List.prefix_refl _) S (Rep.int.mpr rfl)⟩
    · cases q
  · cases q
theorem d_shr : OpD G dShr (rI (fun x j => 0 ≤ j) fun i j => .int (i / 2 ^ j.toNat)) := by
  intro μ H M x y v u Q d M' S rx ry q k
  unfold dShr at q
  split at q
  · split at q
    · rename_i h
      cases q
      rw [Rep.int] at rx ry
      exact ⟨_, _, rx, ry, h, k μ _ H (.refl H) (List.prefix_refl _) S (Rep.int.mpr rfl)⟩
    · cases q
  · cases q
theorem d_band : OpD G dBAnd (rI0 fun i j => .int (Builtin.bitAnd i j)) := by
  intro μ H M x y v u Q d M' S rx ry q k
  unfold dBAnd at q
  split at q
  · cases q
    rw [Rep.int] at rx ry
    exact ⟨_, _, rx, ry, k μ _ H (.refl H) (List.prefix_refl _) S (Rep.int.mpr rfl)⟩
  · cases q
end
def intsOf : List D → Option (List Int)
  | [] => some []
  | .p (.int i) :: r => (intsOf r).map fun s => i :: s
  | _ :: _ => none
theorem intsOf_eq : ∀ {xs : List D} {ns : List Int}, intsOf xs = some ns → xs = ns.map fun i => .p (.int i)
  | [], ns, h => by cases h; rfl
  | .p (.int i) :: r, ns, h => by
    obtain ⟨s, h1, rfl⟩ := Option.map_eq_some_iff.mp h
    rw [intsOf_eq h1]
    rfl
  | .p .non :: _, _, h => by cases h
  | .p (.bl _) :: _, _, h => by cases h
  | .p (.str _) :: _, _, h => by cases h
  | .p (.tup _) :: _, _, h => by cases h
  | .ref _ :: _, _, h => by cases h
  | .tup _ :: _, _, h => by cases h
  | .gl _ :: _, _, h => by cases h
theorem intsOf_map (ns : List Int) : intsOf (ns.map fun i => D.p (.int i)) = some ns := by
  induction ns with
  | nil => rfl
  | cons n ns ih => show (intsOf (ns.map _)).map _ = _; rw [ih]; rfl
theorem Reps.ints {G : Gm} {μ : List Addr} {H : Hp} : ∀ {ns : List Int} {vs : List V}, Reps G μ H (ns.map fun i => D.p (.int i)) vs → vs = ns.map V.int
  | [], vs, h => h.inv0
  | n :: ns, vs, h => by
    obtain ⟨v, ws, rfl, r, t⟩ := h.inv
    rw [Rep.int] at r
    subst r
    rw [Reps.ints t]
    rfl
/-- sum of a list of ints -/
def cSum : List D → Store → Option (D × Store)
  | [.ref l], M => (match M[l]? with
    | some (.lst xs) => (intsOf xs).map fun ns => (.p (.int ns.sum), M)
    | _ => none)
  | _, _ => none
theorem d_sum {G : Gm} : CallD G cSum (rSum G.K) := by
  intro μ H M xs vs Q d M' S r q k
  unfold cSum at q
  split at q
  · rename_i l
    obtain ⟨v, rfl, r1⟩ := r.inv1
    obtain ⟨a, ha, rfl⟩ := Rep.ref.mp r1
    split at q
    · rename_i ys e
      obtain ⟨ns, h1, h2⟩ := Option.map_eq_some_iff.mp q
      cases h2
      obtain ⟨ws, z1, z2⟩ := SR.list_at S ha e (.inl rfl)
      rw [intsOf_eq h1] at z2
      rw [z2.ints] at z1
      exact ⟨a, ns, rfl, z1, k μ _ H (.refl _) (List.prefix_refl _) S (Rep.int.mpr rfl)⟩
    · cases q
  · cases q
theorem bi_sum : bootBuiltins "sum" = some (.builtin "sum") := by decide +kernel
section
variable {X : Cx} {s : Shared} {H : Hp} {scope : Scope} {cenv : PySem.Env} {fp : List Addr} {x : Str} {ps : List Str} {F : List D → Store → R D} {k : Nat} {e : Expr} {es : List Expr} {fs : RA} {p pos : Pos}
/-- a def called within a comprehension -/
theorem i_callI (D : Df X.prog X.w X.K X.mg X.base x ps F k) (hr : Room k X.A) (hg : Gl (X.blk s H scope cenv fp) x) (tk : Takes (X.blk s H scope cenv fp) W0) (ha : PA (X.blk s H scope cenv fp) (e :: es) (tA (gm X) W0 fs)) (hdb : (x == ("__debug__" : Str)) = false := by decide)
    (he : starEach (e :: es) (X.blk s H scope cenv fp).env = (false, eval e (X.blk s H scope cenv fp).env) :: starEach es (X.blk s H scope cenv fp).env := by rfl) (hpl : (backTo pos (starEach es (X.blk s H scope cenv fp).env)).any (·.1) = false := by rfl) :
    PE (X.blk s H scope cenv fp) (.Call (.Name x p) (e :: es) [] pos) (tE (gm X) W0 (rCallN ps.length F fs)) :=
  i_call (X := X.blk s H scope cenv fp) D hr hg tk ha hdb he hpl
end
/-! ### comprehensions whose turns leave the store alone -/
@[simp] theorem e_lc (fw g tt te vs ρ M) : rLC fw g tt te vs ρ M = (fw ρ M).bind fun q M1 => lcL M1.length q.2 g tt te (wipeE ρ vs) q.1 (M1 ++ [.lst []]) := (rfl)
@[simp] theorem e_yes (ρ : Env) (M : Store) : rYes ρ M = .ok true M := (rfl)
@[simp] theorem e_ofW_some (q M) : ofW (some q) M = .ok q M := (rfl)
@[simp] theorem e_wRow (f : RE) (ρ : Env) (M : Store) : wRow f ρ M = (f ρ M).bind fun d M1 => ofW (walkD d M1) M1 := (rfl)
@[simp] theorem e_wRng (rg f) (ρ : Env) (M : Store) : wRng rg f ρ M = (f ρ M).bind fun ds M1 => ofW ((rg ds).map fun q => (intsD q.1 q.2, none)) M1 := (rfl)
@[simp] theorem e_forW (fw g body) (ρ : Env) (M : Store) : rForW fw g body ρ M = (fw ρ M).out ρ fun q M1 => forL q.2 g body q.1 ρ M1 := (rfl)
@[simp] theorem e_wEnum (f : RA) (ρ : Env) (M : Store) : wEnum f ρ M = (f ρ M).bind enumK := (rfl)
theorem set_set {α : Type} (M : List α) (l : Nat) (x y : α) : (M.set l x).set l y = M.set l y := by simp
theorem lc_pure {l : Nat} {k : Option (Nat × O)} {g : RG} {tt : RT} {te : RE} {ρ : Env} (p : D → Bool) (f : D → D) (M : Store) (hl : l < M.length) (hk : ∀ ys, chk k (M.set l (.lst ys))) : ∀ (xs acc : List D), acc.length + xs.length < sizeLine →
    (∀ x ∈ xs, ∀ ys, ∃ ρ1, g x ρ (M.set l (.lst ys)) = some (ρ1, M.set l (.lst ys)) ∧ tt ρ1 (M.set l (.lst ys)) = .ok (p x) (M.set l (.lst ys)) ∧ (p x = true → te ρ1 (M.set l (.lst ys)) = .ok (f x) (M.set l (.lst ys)))) →
    lcL l k g tt te ρ xs (M.set l (.lst acc)) = .ok (.ref l) (M.set l (.lst (acc ++ (xs.filter p).map f)))
  | [], acc, _, _ => by
    unfold lcL
    rw [if_pos (hk acc)]
    simp
  | x :: xs, acc, hlen, h => by
    obtain ⟨ρ1, h1, h2, h3⟩ := h x List.mem_cons_self acc
    have hr : ∀ y ∈ xs, _ := fun y hy => h y (List.mem_cons_of_mem _ hy)
    unfold lcL
    rw [if_pos (hk acc), h1]
    dsimp only
    rw [h2]
    cases q : p x with
    | false =>
      dsimp only
      rw [lc_pure p f M hl hk xs acc (by simp only [List.length_cons] at hlen; omega) hr, List.filter_cons_of_neg (by simp [q])]
    | true =>
      dsimp only
      rw [h3 q]
      dsimp only
      rw [List.getElem?_set_self hl]
      dsimp only
      rw [if_pos (by simp only [List.length_cons] at hlen; omega), set_set, lc_pure p f M hl hk xs (acc ++ [f x]) (by simp only [List.length_cons, List.length_append, List.length_nil] at hlen ⊢; omega) hr, List.filter_cons_of_pos (by simp [q])]
      simp
/-! ### a, b, c = x, y, z -/
def rPar3 (i j l : Nat) (f : RA) : RS := fun ρ M => (f ρ M).out ρ fun ds M1 => match ds with
  | [x, y, z] => .nx (((ρ.set i (some x)).set j (some y)).set l (some z)) M1
  | _ => .no
@[simp] theorem e_par3 (i j l f) (ρ : Env) (M : Store) : rPar3 i j l f ρ M = (f ρ M).out ρ fun ds M1 => match ds with
  | [x, y, z] => .nx (((ρ.set i (some x)).set j (some y)).set l (some z)) M1
  | _ => .no := (rfl)
section
variable {X : Cx} {W : WX} {fs : RA} {pos : Pos}
theorem s_par3 (i j l : Nat) {x y z : Str} {a b c : Expr} {px py pz pt : Pos} {kt k2 : Nat} {pt2 : Pos} (ha : PA X [a, b, c] (tA (gm X) W fs)) (hc : X.calm = true) (hN : X.N.Nodup) (hi : X.N[i]? = some x := by rfl) (hj : X.N[j]? = some y := by rfl) (hl : X.N[l]? = some z := by rfl) (hij : i ≠ j := by decide) (hil : i ≠ l := by decide) (hjl : j ≠ l := by decide)
    (hx : X.env.scope.names.lookup x = some .local := by rfl) (hy : X.env.scope.names.lookup y = some .local := by rfl) (hz : X.env.scope.names.lookup z = some .local := by rfl)
    (hw : swappedStores [.Tuple [.Name x px, .Name y py, .Name z pz] kt pt] (.Tuple [a, b, c] k2 pt2) X.env = pure (some [x, y, z]) := by rfl)
    (hs : swapsWithSole [.Tuple [.Name x px, .Name y py, .Name z pz] kt pt] (.Tuple [a, b, c] k2 pt2) pos.line X.env = pure false := by rfl) :
    PS X (.Assign [.Tuple [.Name x px, .Name y py, .Name z pz] kt pt] (.Tuple [a, b, c] k2 pt2) pos) (tS (gm X) W (rPar3 i j l fs)) :=
  PSimp (ps_par3 hc hN hi hj hl hij hil hjl hx hy hz ha hw hs) fun D σ H h => by
    refine (tX.out (rel := Reps (gm X)) (g := fun ds ρ M1 => match ds with | [x, y, z] => .nx (((ρ.set i (some x)).set j (some y)).set l (some z)) M1 | _ => .no) h).mono fun vs H1 ⟨μ, ρ, M, ds, hE, hS, rx, hF⟩ => ?_
    match ds, rx, hF with
    | [], _, hF => exact hF.elim
    | [_], _, hF => exact hF.elim
    | [_, _], _, hF => exact hF.elim
    | [d1, d2, d3], rx, hF =>
      obtain ⟨v1, w1, rfl, r1, t1⟩ := rx.inv
      obtain ⟨v2, w2, rfl, r2, t2⟩ := t1.inv
      obtain ⟨v3, w3, rfl, r3, t3⟩ := t2.inv
      have e := t3.inv0
      subst e
      exact ⟨v1, v2, v3, rfl, hF μ _ H1 (.refl _) (List.prefix_refl _) (((hE.set i r1).set j r2).set l r3) hS⟩
    | _ :: _ :: _ :: _ :: _, _, hF => exact hF.elim
end
/-! ### isinstance(e, (S, T)) -/
def cIsa2 (T1 T2 : String) : D → Store → Option (D × Store) := fun x M => (tyD x M).map fun t => (.p (.bl (isaT t T1 || isaT t T2)), M)
/-- isinstance(e, (T1, T2)) -/
def rIsa2 (T1 T2 : String) (f : RE) : RE := rUn (cIsa2 T1 T2) f
section
variable {X : Cx} {W : WX}
theorem i_isa2 {e : Expr} {f : RE} {T1 T2 : String} {x1 x2 : Str} {p p1 p2 pt pos : Pos} {kk : Nat} (hT1 : T1 = "int" ∨ T1 = "bool" ∨ T1 = "str" ∨ T1 = "tuple" ∨ T1 = "list" ∨ T1 = "dict") (hT2 : T2 = "int" ∨ T2 = "bool" ∨ T2 = "str" ∨ T2 = "tuple" ∨ T2 = "list" ∨ T2 = "dict") (hg : Gl X "isinstance") (hm : X.mg "isinstance" = none)
    (hg1 : Gl X x1) (hm1 : X.mg x1 = none) (hv1 : bootBuiltins x1 = some (.type T1)) (hg2 : Gl X x2) (hm2 : X.mg x2 = none) (hv2 : bootBuiltins x2 = some (.type T2))
    (ha : PE X e (tE (gm X) W f)) (hn1 : x1 ≠ "__name__" := by decide) (hd1 : (x1 == ("__debug__" : Str)) = false := by decide) (hn2 : x2 ≠ "__name__" := by decide) (hd2 : (x2 == ("__debug__" : Str)) = false := by decide)
    (hs : starEach [e, .Tuple [.Name x1 p1, .Name x2 p2] kk pt] X.env = (false, eval e X.env) :: starEach [.Tuple [.Name x1 p1, .Name x2 p2] kk pt] X.env := by rfl) (hs2 : starEach [.Tuple [.Name x1 p1, .Name x2 p2] kk pt] X.env = (false, eval (.Tuple [.Name x1 p1, .Name x2 p2] kk pt) X.env) :: starEach [] X.env := by rfl)
    (hs3 : starEach [.Name x1 p1, .Name x2 p2] X.env = (false, eval (.Name x1 p1) X.env) :: starEach [.Name x2 p2] X.env := by rfl) (hs4 : starEach [.Name x2 p2] X.env = (false, eval (.Name x2 p2) X.env) :: starEach [] X.env := by rfl)
    (hpl : (backTo pos (starEach [.Tuple [.Name x1 p1, .Name x2 p2] kk pt] X.env)).any (·.1) = false := by rfl) :
    PE X (.Call (.Name "isinstance" p) [e, .Tuple [.Name x1 p1, .Name x2 p2] kk pt] [] pos) (tE (gm X) W (rIsa2 T1 T2 f)) := by
  refine PEimp (pe_callB call_isiT hg hm PyProof.Rows.boot_isinstance (pa_cons ha (pa_cons (pe_tup (pa_cons (pe_bltn (v := .ty T1) hg1 hm1 hv1 rfl hn1 hd1) (pa_cons (pe_bltn (v := .ty T2) hg2 hm2 hv2 rfl hn2 hd2) pa_nil hs4) hs3)) pa_nil hs2) hs) (by decide) (by decide) hs hpl) fun σ H Q h => ?_
  refine (tX.bind h).mono fun v H1 ⟨μ, ρ, M, x, hE, hS, rx, hF⟩ => ?_
  have hF : Fin (gm X) (Rep (gm X)) W μ σ H1 Q (ofO (cIsa2 T1 T2 x M)) := hF
  cases q : tyD x M with
  | none =>
    unfold cIsa2 at hF
    rw [q] at hF
    exact hF.elim
  | some t =>
    unfold cIsa2 at hF
    rw [q] at hF
    refine ⟨(by decide : 2 ≤ sizeLine), fun a ha0 => ?_⟩
    have ex : Ext H1 (upd H1 a (.tup [.ty T1, .ty T2])) := .new ha0
    have hk : PySem.W.kitAny X.K (.type t) [.type T1, .type T2] = some (isaT t T1 || isaT t T2) := by
      have k1 := kit_ty (K := X.K) (isaT_ok t T1 (tyD_names q) hT1)
      have k2 := kit_ty (K := X.K) (isaT_ok t T2 (tyD_names q) hT2)
      simp only [PySem.W.kitAny, k1, k2]
      cases isaT t T1 <;> cases isaT t T2 <;> rfl
    exact ⟨v, a, [.ty T1, .ty T2], .type t, [.type T1, .type T2], _, rfl, upd_same, .cons (.ty T1) (.cons (.ty T2) .nil), tyD_ok (hS.grow ha0) (rx.ext ex (List.prefix_refl _)) q, hk, hF μ _ _ ex (List.prefix_refl _) (hS.grow ha0) (Rep.bl.mpr rfl)⟩
end
@[simp] theorem e_isa2 (T1 T2 f) (ρ : Env) (M : Store) : rIsa2 T1 T2 f ρ M = (f ρ M).bind fun x M1 => ofO (cIsa2 T1 T2 x M1) := (rfl)
/-! ### more methods of lists -/
def mReverse : D → List D → Store → Option (D × Store)
  | .ref l, [], M => (match M[l]? with
    | some (.lst xs) => some (.p .non, M.set l (.lst xs.reverse))
    | _ => none)
  | _, _, _ => none
def mInsert : D → List D → Store → Option (D × Store)
  | .ref l, [.p (.int i), y], M => (match M[l]? with
    | some (.lst xs) => if xs.length < sizeLine ∧ 0 ≤ i ∧ i < 2 ^ 63 then some (.p .non, M.set l (.lst (xs.take i.toNat ++ [y] ++ xs.drop i.toNat))) else none
    | _ => none)
  | _, _, _ => none
section
variable {G : Gm}
theorem d_reverse : MtD G mReverse rReverse := by
  intro μ H M x xs v vs Q d M' S rx rxs q k
  unfold mReverse at q
  split at q
  · rename_i l
    split at q
    · rename_i ys e
      cases q
      obtain ⟨a, h1, rfl⟩ := Rep.ref.mp rx
      obtain ⟨ws, h2, h3⟩ := S.lst h1 e
      have e0 := rxs.inv0
      subst e0
      have ex := Ext.lst (o := .lst ws.reverse) h2
      exact ⟨a, ws, rfl, rfl, h2, k μ _ _ ex (List.prefix_refl _) (S.put (o := .lst ys.reverse) h1 e rfl rfl (fun ob w z => by rw [h2] at z; cases z) ex ⟨_, upd_same, h3.rev.ext ex (List.prefix_refl _)⟩) (Rep.non.mpr rfl)⟩
    · cases q
  · cases q
theorem d_insert : MtD G mInsert (fun x vs H Q => ∃ l xs i y, x = V.ref l ∧ vs = [V.int i, y] ∧ H l = some (HO.lst xs) ∧ xs.length < sizeLine ∧ 0 ≤ i ∧ i < 2 ^ 63 ∧ Q V.non (upd H l (HO.lst (List.take i.toNat xs ++ [y] ++ List.drop i.toNat xs)))) := by
  intro μ H M x xs v vs Q d M' S rx rxs q k
  unfold mInsert at q
  split at q
  · rename_i l i y
    split at q
    · rename_i ys e
      split at q
      · rename_i hl
        cases q
        obtain ⟨a, h1, rfl⟩ := Rep.ref.mp rx
        obtain ⟨ws, h2, h3⟩ := S.lst h1 e
        obtain ⟨w1, w, rfl, r1, h4⟩ := rxs.inv2
        rw [Rep.int] at r1
        subst r1
        have ex := Ext.lst (o := .lst (ws.take i.toNat ++ [w] ++ ws.drop i.toNat)) h2
        exact ⟨a, ws, i, w, rfl, rfl, h2, by rw [← h3.length]; exact hl.1, hl.2.1, hl.2.2, k μ _ _ ex (List.prefix_refl _) (S.put (o := .lst (ys.take i.toNat ++ [y] ++ ys.drop i.toNat)) h1 e rfl rfl (fun ob w z => by rw [h2] at z; cases z) ex ⟨_, upd_same, (((h3.take _).app (.cons h4 .nil)).app (h3.drop _)).ext ex (List.prefix_refl _)⟩) (Rep.non.mpr rfl)⟩
      · cases q
    · cases q
  · cases q
end
/-! ### a comprehension, turn by turn -/
@[simp] theorem lcL_nil {l : Nat} {g : RG} {tt : RT} {te : RE} {ρ : Env} {M : Store} : lcL l none g tt te ρ [] M = .ok (.ref l) M := by
  unfold lcL
  exact if_pos True.intro
/-- one turn that is kept -/
theorem lcL_keep {l : Nat} {k : Option (Nat × O)} {g : RG} {tt : RT} {te : RE} {ρ ρ1 : Env} {x y : D} {xs acc : List D} {M M1 M2 M3 : Store} (hk : chk k M) (h1 : g x ρ M = some (ρ1, M1)) (h2 : tt ρ1 M1 = .ok true M2) (h3 : te ρ1 M2 = .ok y M3) (h4 : M3[l]? = some (.lst acc)) (h5 : acc.length < sizeLine) :
    lcL l k g tt te ρ (x :: xs) M = lcL l k g tt te ρ xs (M3.set l (.lst (acc ++ [y]))) := by
  conv => lhs; unfold lcL
  rw [if_pos hk, h1]
  dsimp only
  rw [h2]
  dsimp only
  rw [h3]
  dsimp only
  rw [h4]
  dsimp only
  rw [if_pos h5]
theorem lcL_skip {l : Nat} {k : Option (Nat × O)} {g : RG} {tt : RT} {te : RE} {ρ ρ1 : Env} {x : D} {xs : List D} {M M1 M2 : Store} (hk : chk k M) (h1 : g x ρ M = some (ρ1, M1)) (h2 : tt ρ1 M1 = .ok false M2) :
    lcL l k g tt te ρ (x :: xs) M = lcL l k g tt te ρ xs M2 := by
  conv => lhs; unfold lcL
  rw [if_pos hk, h1]
  dsimp only
  rw [h2]
/-- an invariant of a comprehension that keeps every item -/
theorem lcL_inv {l : Nat} {k : Option (Nat × O)} {g : RG} {te : RE} {ρ : Env} (xs : List D) (I : Nat → Store → Prop) (hc : ∀ i M, I i M → chk k M)
    (h : ∀ i x M, xs[i]? = some x → I i M → ∃ ρ1 y M3 acc, g x ρ M = some (ρ1, M) ∧ te ρ1 M = .ok y M3 ∧ M3[l]? = some (.lst acc) ∧ acc.length < sizeLine ∧ I (i + 1) (M3.set l (.lst (acc ++ [y])))) :
    ∀ {M}, I 0 M → ∃ M', lcL l k g rYes te ρ xs M = .ok (.ref l) M' ∧ I xs.length M' := by
  have go : ∀ (n i : Nat) (M), n = xs.length - i → i ≤ xs.length → I i M → ∃ M', lcL l k g rYes te ρ (xs.drop i) M = .ok (.ref l) M' ∧ I xs.length M' := by
    intro n
    induction n with
    | zero =>
      intro i M hn hi hI
      have e : i = xs.length := by omega
      subst e
      refine ⟨M, ?_, hI⟩
      rw [List.drop_length]
      unfold lcL
      exact if_pos (hc _ _ hI)
    | succ n ih =>
      intro i M hn hi hI
      have hlt : i < xs.length := by omega
      obtain ⟨ρ1, y, M3, acc, h1, h2, h3, h4, h5⟩ := h i xs[i] M (List.getElem?_eq_getElem hlt) hI
      obtain ⟨M', h6, h7⟩ := ih (i + 1) _ (by omega) (by omega) h5
      refine ⟨M', ?_, h7⟩
      rw [List.drop_eq_getElem_cons hlt, lcL_keep (hc _ _ hI) h1 rfl h2 h3 h4]
      exact h6
  intro M hI
  exact go _ 0 M rfl (Nat.zero_le _) hI
end Fl

set_option Elab.async false
set_option linter.all false
set_option maxRecDepth 100000
/-! Fl, part W: what stays in the store. -/
namespace Fl
open PySem PySem.Spec L2
set_option autoImplicit false
theorem pfx_get {α : Type} {M M' : List α} (p : M <+: M') {l : Nat} {o : α} (h : M[l]? = some o) : M'[l]? = some o := by
  obtain ⟨t, rfl⟩ := p
  obtain ⟨hl, e⟩ := List.getElem?_eq_some_iff.mp h
  rw [List.getElem?_append_left hl]
  exact h
theorem pfx_app {α : Type} {M M' : List α} (p : M <+: M') (x : List α) : M <+: M' ++ x := p.trans (List.prefix_append _ _)
theorem pfx_set {α : Type} {M M' : List α} (p : M <+: M') {l : Nat} (h : M.length ≤ l) (x : α) : M <+: M'.set l x := by
  obtain ⟨t, rfl⟩ := p
  rw [List.set_append_right _ _ h]
  exact List.prefix_append _ _
theorem pfx_len {α : Type} {M M' : List α} (p : M <+: M') : M.length ≤ M'.length := p.length_le
theorem get_app {α : Type} {M : List α} {l : Nat} {o : α} (h : M[l]? = some o) (x : List α) : (M ++ x)[l]? = some o := pfx_get (List.prefix_append _ _) h
theorem get_new {α : Type} (M : List α) (o : α) : (M ++ [o])[M.length]? = some o := by simp
theorem get_lt {α : Type} {M : List α} {l : Nat} {o : α} (h : M[l]? = some o) : l < M.length := (List.getElem?_eq_some_iff.mp h).1
theorem get_set_ne {α : Type} {M : List α} {l k : Nat} {o x : α} (h : M[l]? = some o) (n : k ≠ l) : (M.set k x)[l]? = some o := by rw [List.getElem?_set_ne n]; exact h
theorem get_set_same {α : Type} {M : List α} {l : Nat} {x : α} (h : l < M.length) : (M.set l x)[l]? = some x := List.getElem?_set_self h
theorem chk_some {l : Nat} {o : O} {M : Store} (h : M[l]? = some o) : chk (some (l, o)) M := h
theorem v_len_l (l : Nat) (xs : List D) (M : Store) (h : M[l]? = some (.lst xs)) : cLen [.ref l] M = some (.p (.int (xs.length : Nat)), M) := by simp [cLen, lenD, h]
theorem v_ix_l (l : Nat) (xs : List D) (i : Nat) (d : D) (M : Store) (h : M[l]? = some (.lst xs)) (hi : xs[i]? = some d) : dIx (.ref l) (.p (.int i)) M = some (d, M) := by
  simp only [dIx, rowD, h, atI_nat hi, Option.map_some]
theorem v_cat (l k : Nat) (xs ys : List D) (M : Store) (h : M[l]? = some (.lst xs)) (h2 : M[k]? = some (.lst ys)) (hl : xs.length + ys.length ≤ sizeLine) : dAdd (.ref l) (.ref k) M = some (.ref M.length, M ++ [.lst (xs ++ ys)]) := by
  simp [dAdd, h, h2, hl]
theorem v_set (l : Nat) (xs : List D) (i : Nat) (d : D) (M : Store) (h : M[l]? = some (.lst xs)) (hi : i < xs.length) : setD (.ref l) (.p (.int i)) d M = some (M.set l (.lst (xs.set i d))) := by
  have e : ixN xs.length (i : Int) = some i := by
    unfold ixN
    rw [if_pos (by omega), if_pos (by omega)]
    simp
  simp only [setD, h, e, Option.map_some]
theorem v_append (l : Nat) (xs : List D) (d : D) (M : Store) (h : M[l]? = some (.lst xs)) (hl : xs.length < sizeLine) : mAppend (.ref l) [d] M = some (.p .non, M.set l (.lst (xs ++ [d]))) := by
  simp [mAppend, h, hl]
theorem isLst_ref (l : Nat) (xs : List D) (M : Store) (h : M[l]? = some (.lst xs)) : isLst (.ref l) M = true := by simp [isLst, h]
theorem walk_ref (l : Nat) (xs : List D) (M : Store) (h : M[l]? = some (.lst xs)) : walkD (.ref l) M = some (xs, some (l, .lst xs)) := by simp [walkD, h]
theorem lt_line {n : Nat} (h : n ≤ 1000000) : n < sizeLine := by rw [sizeLine_eq]; omega
theorem le_line {n : Nat} (h : n ≤ 1000000) : n ≤ sizeLine := by rw [sizeLine_eq]; omega
/-- a comprehension that reads alone: filter and map -/
theorem lc_new {k : Option (Nat × O)} {g : RG} {tt : RT} {te : RE} {ρ : Env} (p : D → Bool) (f : D → D) (M : Store) (hk : ∀ ys, chk k (M ++ [.lst ys])) (xs : List D) (hl : xs.length ≤ 1000000)
    (h : ∀ x ∈ xs, ∀ ys, ∃ ρ1, g x ρ (M ++ [.lst ys]) = some (ρ1, M ++ [.lst ys]) ∧ tt ρ1 (M ++ [.lst ys]) = .ok (p x) (M ++ [.lst ys]) ∧ (p x = true → te ρ1 (M ++ [.lst ys]) = .ok (f x) (M ++ [.lst ys]))) :
    lcL M.length k g tt te ρ xs (M ++ [.lst []]) = .ok (.ref M.length) (M ++ [.lst ((xs.filter p).map f)]) := by
  have hset : ∀ ys, (M ++ [O.lst []]).set M.length (.lst ys) = M ++ [.lst ys] := fun ys => by simp
  have key := lc_pure (l := M.length) (k := k) (g := g) (tt := tt) (te := te) (ρ := ρ) p f (M ++ [.lst []]) (by simp) (fun ys => by rw [hset]; exact hk ys) xs [] (by simpa using lt_line hl) (fun x hx ys => by rw [hset]; exact h x hx ys)
  rw [hset, hset, List.nil_append] at key
  exact key
/-- the same without a test -/
theorem lc_map {k : Option (Nat × O)} {g : RG} {te : RE} {ρ : Env} (f : D → D) (M : Store) (hk : ∀ ys, chk k (M ++ [.lst ys])) (xs : List D) (hl : xs.length ≤ 1000000)
    (h : ∀ x ∈ xs, ∀ ys, ∃ ρ1, g x ρ (M ++ [.lst ys]) = some (ρ1, M ++ [.lst ys]) ∧ te ρ1 (M ++ [.lst ys]) = .ok (f x) (M ++ [.lst ys])) :
    lcL M.length k g rYes te ρ xs (M ++ [.lst []]) = .ok (.ref M.length) (M ++ [.lst (xs.map f)]) := by
  have key := lc_new (k := k) (g := g) (tt := rYes) (te := te) (ρ := ρ) (fun _ => true) f M hk xs hl (fun x hx ys => by
    obtain ⟨ρ1, h1, h2⟩ := h x hx ys
    exact ⟨ρ1, h1, rfl, fun _ => h2⟩)
  have e : xs.filter (fun _ => true) = xs := List.filter_eq_self.mpr fun _ _ => rfl
  rw [e] at key
  exact key
theorem chk_app {l : Nat} {o : O} {M : Store} (h : M[l]? = some o) (ys : List O) : chk (some (l, o)) (M ++ ys) := get_app h ys
end Fl

set_option Elab.async false
set_option linter.all false
set_option maxRecDepth 100000
set_option exponentiation.threshold 20000
namespace Law
open PySem PySem.Spec L2 Fl
set_option autoImplicit false
abbrev Env := Fl.Env
def c_MOST_PORTS : P := (.int 2000)
/-! ### kinds -/
def isIntP : P → Bool
  | .int _ => true
  | _ => false
def between (x : P) (a b : Int) : Bool := match x with
  | .int i => decide (a ≤ i) && decide (i ≤ b)
  | _ => false
def from_ (x : P) (a : Int) : Bool := match x with
  | .int i => decide (a ≤ i)
  | _ => false
def F_is_int : List D → Store → R D := fun ds M => match ds with
  | [.p x] => .ok (.p (.bl (isIntP x))) M
  | _ => .no
def F_is_between : List D → Store → R D := fun ds M => match ds with
  | [.p x, .p (.int a), .p (.int b)] => .ok (.p (.bl (between x a b))) M
  | _ => .no
def F_is_from : List D → Store → R D := fun ds M => match ds with
  | [.p x, .p (.int a)] => .ok (.p (.bl (from_ x a))) M
  | _ => .no
-- slots: 0:value
noncomputable def m_is_int  : RS :=
  (rRet (rAnd (rIsa "int" (rVar 0)) (rNot (rTst truthD (rIsa "bool" (rVar 0))))))

-- slots: 0:value 1:least 2:greatest
noncomputable def m_is_between  : RS :=
  (rRet (rAnd (rCallN 1 F_is_int (rCons (rVar 0) rNil)) (rChain dLe dLe (rVar 1) (rVar 0) (rVar 2))))

-- slots: 0:value 1:least
noncomputable def m_is_from  : RS :=
  (rRet (rAnd (rCallN 1 F_is_int (rCons (rVar 0) rNil)) (rBin dGe (rVar 0) (rVar 1))))

theorem r_is_int : Ref 1 1 F_is_int m_is_int := by
  intro ds M hl
  unfold F_is_int
  split
  · rename_i x
    cases x <;> simp [m_is_int, isIntP, isaT]
  · simp
theorem r_is_between : Ref 3 3 F_is_between m_is_between := by
  intro ds M hl
  unfold F_is_between
  split
  · rename_i x a b
    cases x with
    | int i => by_cases h1 : a ≤ i <;> simp [m_is_between, F_is_int, isIntP, between, h1]
    | _ => simp [m_is_between, F_is_int, isIntP, between]
  · simp
theorem r_is_from : Ref 2 2 F_is_from m_is_from := by
  intro ds M hl
  unfold F_is_from
  split
  · rename_i x a
    cases x <;> simp [m_is_from, F_is_int, isIntP, from_]
  · simp

/-! ### the law's own kit: the bag, a draw, what is the same -/
def bagL (ns : List Int) : List D := ns.map fun i => .p (.int i)
def nxV (ns : List Int) (k : Int) : Int := match ns.getLast? with
  | some v => v % k
  | none => 0
def nxB (ns : List Int) : List Int := ns.dropLast
theorem nxV_nonneg (ns : List Int) {k : Int} (h : 0 < k) : 0 ≤ nxV ns k := by
  unfold nxV
  split
  · exact Int.emod_nonneg _ (by omega)
  · omega
theorem nxV_lt (ns : List Int) {k : Int} (h : 0 < k) : nxV ns k < k := by
  unfold nxV
  split
  · exact Int.emod_lt_of_pos _ h
  · exact h
def asInts : List D → Option (List Int)
  | [] => some []
  | .p (.int i) :: r => (asInts r).map fun s => i :: s
  | _ :: _ => none
theorem asInts_bag : ∀ ns : List Int, asInts (bagL ns) = some ns
  | [] => rfl
  | n :: ns => by
    show (asInts (bagL ns)).map _ = _
    rw [asInts_bag ns]
    rfl
theorem asInts_eq : ∀ {xs : List D} {ns : List Int}, asInts xs = some ns → xs = bagL ns
  | [], ns, h => by cases h; rfl
  | .p (.int i) :: r, ns, h => by
    obtain ⟨s, h1, rfl⟩ := Option.map_eq_some_iff.mp h
    rw [asInts_eq h1]
    rfl
  | .p .non :: _, _, h => by cases h
  | .p (.bl _) :: _, _, h => by cases h
  | .p (.str _) :: _, _, h => by cases h
  | .p (.tup _) :: _, _, h => by cases h
  | .ref _ :: _, _, h => by cases h
  | .tup _ :: _, _, h => by cases h
  | .gl _ :: _, _, h => by cases h
def F__law_next : List D → Store → R D := fun ds M => match ds with
  | [.ref l, .p (.int k)] => (match M[l]? with
    | some (.lst xs) => (match asInts xs with
      | some ns => if 0 < k then .ok (.p (.int (nxV ns k))) (M.set l (.lst (bagL (nxB ns)))) else .no
      | none => .no)
    | _ => .no)
  | _ => .no
-- slots: 0:bag 1:limit
noncomputable def m__law_next  : RS :=
  (rSeq (rIfS (rTst asBool (rBin dEq (rCB cLen (rCons (rVar 0) rNil)) (rC (.p (.int 0)))))
  (rRet (rC (.p (.int 0))))
  rSkip)
  (rRet (rBin dMod (rCB cInt (rCons (rLM0 mPop (rVar 0)) rNil)) (rVar 1))))

theorem bagL_len (ns : List Int) : (bagL ns).length = ns.length := by simp [bagL]
theorem set_same {α : Type} (M : List α) (l : Nat) (x : α) (h : M[l]? = some x) : M.set l x = M := by
  apply List.ext_getElem?
  intro i
  by_cases e : l = i
  · subst e
    have := (List.getElem?_eq_some_iff.mp h).1
    rw [List.getElem?_set_self this, h]
  · rw [List.getElem?_set_ne e]
theorem r__law_next : Ref 2 2 F__law_next m__law_next := by
  intro ds M hl
  unfold F__law_next
  split
  · rename_i l k
    split
    · rename_i xs e
      split
      · rename_i ns e2
        split
        · rename_i hk
          refine ⟨by simp, ?_⟩
          have ex := asInts_eq e2
          subst ex
          by_cases hn : ns = []
          · subst hn
            have e3 : M.set l (.lst (bagL (nxB []))) = M := set_same M l _ e
            rw [e3]
            simp [m__law_next, cLen, lenD, e, bagL, nxV]
          · obtain ⟨v, hv⟩ : ∃ v, ns.getLast? = some v := by
              cases q : ns.getLast? with
              | none => exact absurd (List.getLast?_eq_none_iff.mp q) hn
              | some v => exact ⟨v, rfl⟩
            have h4 : (bagL ns)[(bagL ns).length - 1]? = some (.p (.int v)) := by
              rw [bagL_len]
              unfold bagL
              rw [List.getElem?_map, ← List.getLast?_eq_getElem?, hv]
              rfl
            have h5 : (bagL ns).dropLast = bagL (nxB ns) := by
              unfold bagL nxB
              rw [List.map_dropLast]
            rw [bagL_len] at h4
            simp [m__law_next, cLen, lenD, e, bagL_len, hn, isLst, mPop, h4, h5, nxV, hv, v_mod _ _ _ hk]
        · simp
      · simp
    · simp
  · simp
mutual
def sameP : P → P → Bool
  | .tup xs, .tup ys => samePs xs ys
  | .int i, .int j => decide (i = j)
  | .bl a, .bl b => decide (a = b)
  | .str a, .str b => decide (a = b)
  | .non, .non => true
  | _, _ => false
def samePs : List P → List P → Bool
  | [], [] => true
  | x :: xs, y :: ys => sameP x y && samePs xs ys
  | _, _ => false
end
mutual
theorem sameP_refl : ∀ x : P, sameP x x = true
  | .tup xs => by rw [sameP]; exact samePs_refl xs
  | .int i => by simp [sameP]
  | .bl i => by simp [sameP]
  | .str i => by simp [sameP]
  | .non => by simp [sameP]
theorem samePs_refl : ∀ xs : List P, samePs xs xs = true
  | [] => by simp [samePs]
  | x :: xs => by rw [samePs, sameP_refl x, samePs_refl xs]; rfl
end
theorem samePs_len : ∀ {xs ys : List P}, samePs xs ys = true → xs.length = ys.length
  | [], [], _ => rfl
  | [], _ :: _, h => by simp [samePs] at h
  | _ :: _, [], h => by simp [samePs] at h
  | x :: xs, y :: ys, h => by
    simp only [samePs, Bool.and_eq_true] at h
    simp [samePs_len h.2]
theorem samePs_at : ∀ {xs ys : List P} {i : Nat} {x y : P}, xs[i]? = some x → ys[i]? = some y → sameP x y = false → samePs xs ys = false
  | [], _, i, x, y, h, _, _ => by simp at h
  | _ :: _, [], i, x, y, _, h, _ => by simp at h
  | a :: xs, b :: ys, 0, x, y, h1, h2, h => by
    simp at h1 h2
    subst h1 h2
    simp [samePs, h]
  | a :: xs, b :: ys, i + 1, x, y, h1, h2, h => by
    rw [samePs, samePs_at (by simpa using h1) (by simpa using h2) h, Bool.and_false]
theorem samePs_all : ∀ {xs ys : List P}, xs.length = ys.length → (∀ (i : Nat) (x y : P), xs[i]? = some x → ys[i]? = some y → sameP x y = true) → samePs xs ys = true
  | [], [], _, _ => by simp [samePs]
  | [], _ :: _, h, _ => by simp at h
  | _ :: _, [], h, _ => by simp at h
  | x :: xs, y :: ys, h, k => by
    rw [samePs, k 0 x y rfl rfl, samePs_all (by simpa using h) fun i a b h1 h2 => k (i + 1) a b (by simpa using h1) (by simpa using h2)]
    rfl
theorem depth_at : ∀ {ys : List P} {i : Nat} {y : P}, ys[i]? = some y → y.depth ≤ P.depths ys
  | [], i, y, h => by simp at h
  | a :: ys, 0, y, h => by simp at h; subst h; simp only [P.depths]; omega
  | a :: ys, i + 1, y, h => by
    have := depth_at (ys := ys) (i := i) (y := y) (by simpa using h)
    simp only [P.depths]
    omega
mutual
def fitP : P → Bool
  | .tup xs => decide (xs.length ≤ 1000000) && fitPs xs
  | _ => true
def fitPs : List P → Bool
  | [] => true
  | x :: xs => fitP x && fitPs xs
end
theorem fit_at : ∀ {ys : List P} {i : Nat} {y : P}, ys[i]? = some y → fitPs ys = true → fitP y = true
  | [], i, y, h, _ => by simp at h
  | a :: ys, 0, y, h, k => by simp at h; subst h; simp only [fitPs, Bool.and_eq_true] at k; exact k.1
  | a :: ys, i + 1, y, h, k => by
    simp only [fitPs, Bool.and_eq_true] at k
    exact fit_at (ys := ys) (i := i) (y := y) (by simpa using h) k.2
def Fp_same : Nat → List D → Store → R D
  | 0 => fun _ _ => .no
  | n + 1 => fun ds M => match ds with
    | [.p x, .p y] => if y.depth ≤ n ∧ fitP y = true then .ok (.p (.bl (sameP x y))) M else .no
    | _ => .no
-- slots: 0:told 1:due 2:k
noncomputable def m__law_same (n : Nat) : RS :=
  (rSeq (rIfS (rTst truthD (rIsa "tuple" (rVar 1)))
  (rSeq (rIfS (rtOr (rtNot (rTst truthD (rIsa "tuple" (rVar 0)))) (rTst asBool (rBin dNe (rCB cLen (rCons (rVar 0) rNil)) (rCB cLen (rCons (rVar 1) rNil)))))
  (rRet (rC (.p (.bl false))))
  rSkip)
  (rSeq (rForR rng1 (rCons (rCB cLen (rCons (rVar 1) rNil)) rNil) (gNm 2)
  (rIfS (rtNot (rTst truthD (rCallN 2 (Fp_same n) (rCons (rBin dIx (rVar 0) (rVar 2)) (rCons (rBin dIx (rVar 1) (rVar 2)) rNil)))))
  (rRet (rC (.p (.bl false))))
  rSkip))
  (rRet (rC (.p (.bl true))))))
  rSkip)
  (rSeq (rIfS (rTst truthD (rIsa "bool" (rVar 1)))
  (rRet (rAnd (rIsa "bool" (rVar 0)) (rBin dEq (rVar 0) (rVar 1))))
  rSkip)
  (rSeq (rIfS (rTst truthD (rIsa "int" (rVar 1)))
  (rRet (rAnd (rIsa "int" (rVar 0)) (rAnd (rNot (rTst truthD (rIsa "bool" (rVar 0)))) (rBin dEq (rVar 0) (rVar 1)))))
  rSkip)
  (rSeq (rIfS (rTst truthD (rIsa "str" (rVar 1)))
  (rRet (rAnd (rIsa "str" (rVar 0)) (rBin dEq (rVar 0) (rVar 1))))
  rSkip)
  (rRet (rAnd (rBin dIsN (rVar 1) (rC (.p .non))) (rBin dIsN (rVar 0) (rC (.p .non)))))))))

theorem atI_P {xs : List P} {i : Nat} (h : i < xs.length) : atI (xs.map D.p) ((i : Nat) : Int) = some (.p xs[i]) := atI_nat (by simp [h])
theorem r__law_same (n : Nat) : Ref 2 3 (Fp_same (n + 1)) (m__law_same n) := by
  intro ds M hl
  unfold Fp_same
  dsimp only
  split
  · rename_i x y
    split
    · rename_i hd0
      obtain ⟨hd, hf⟩ := hd0
      refine ⟨by simp, ?_⟩
      cases y with
      | non => cases x <;> simp [m__law_same, isaT, sameP]
      | bl b => cases x <;> simp [m__law_same, isaT, sameP, dEq, dOk, P.depth]
      | int b => cases x <;> simp [m__law_same, isaT, sameP]
      | str b => cases x <;> simp [m__law_same, isaT, sameP]
      | tup ys =>
        cases x with
        | tup xs =>
          have hf2 : ys.length ≤ 1000000 ∧ fitPs ys = true := by simpa [fitP] using hf
          by_cases hlen : xs.length = ys.length
          · have key : ∀ o, forL none (gNm 2) (rIfS (rtNot (rTst truthD (rCallN 2 (Fp_same n) (rCons (rBin dIx (rVar 0) (rVar 2)) (rCons (rBin dIx (rVar 1) (rVar 2)) rNil))))) (rRet (rC (.p (.bl false)))) rSkip) (intsD 0 ys.length) [some (.p (.tup xs)), some (.p (.tup ys)), none] M = o →
                (samePs xs ys = true ∧ ∃ ρ, o = .nx ρ M) ∨ (samePs xs ys = false ∧ o = .rt (.p (.bl false)) M) := by
              intro o ho
              subst ho
              refine forL_find (k := none) (intsD 0 ys.length) (fun i ρ M' => M' = M ∧ (∃ z, ρ = [some (.p (.tup xs)), some (.p (.tup ys)), z]) ∧ ∀ j x y, j < i → xs[j]? = some x → ys[j]? = some y → sameP x y = true) (fun o => (samePs xs ys = true ∧ ∃ ρ, o = .nx ρ M) ∨ (samePs xs ys = false ∧ o = .rt (.p (.bl false)) M)) (fun _ _ _ _ => True.intro) ?_ ?_ ⟨rfl, ⟨none, rfl⟩, fun j _ _ h => absurd h (Nat.not_lt_zero _)⟩
              · rintro i d ρ M' hi ⟨rfl, ⟨z, rfl⟩, hall⟩
                have hi2 : i < ys.length := by
                  have := (List.getElem?_eq_some_iff.mp hi).1
                  rwa [intsD_len] at this
                rw [intsD_get 0 _ _ hi2] at hi
                cases hi
                have hx : i < xs.length := by omega
                have hdep : ys[i].depth ≤ n - 1 ∧ 0 < n := by
                  have h1 := depth_at (ys := ys) (i := i) (y := ys[i]) (List.getElem?_eq_getElem hi2)
                  simp only [P.depth] at hd
                  omega
                obtain ⟨m, rfl⟩ : ∃ m, n = m + 1 := ⟨n - 1, by omega⟩
                refine ⟨_, _, rfl, ?_⟩
                simp only [Int.zero_add]
                cases q : sameP xs[i] ys[i] with
                | true =>
                  refine .inl ⟨[some (.p (.tup xs)), some (.p (.tup ys)), some (.p (.int i))], M', .inl ?_, rfl, ⟨_, rfl⟩, fun j x y hj h1 h2 => ?_⟩
                  · simp [atI_P hx, atI_P hi2, Fp_same, show ys[i].depth ≤ m by omega, fit_at (List.getElem?_eq_getElem hi2) hf2.2, q]
                  · by_cases e : j = i
                    · subst e
                      rw [List.getElem?_eq_getElem hx] at h1
                      rw [List.getElem?_eq_getElem hi2] at h2
                      cases h1
                      cases h2
                      exact q
                    · exact hall j x y (by omega) h1 h2
                | false =>
                  refine .inr (.inr (.inl ⟨.p (.bl false), M', ?_, .inr ⟨samePs_at (List.getElem?_eq_getElem hx) (List.getElem?_eq_getElem hi2) q, rfl⟩⟩))
                  simp [atI_P hx, atI_P hi2, Fp_same, show ys[i].depth ≤ m by omega, fit_at (List.getElem?_eq_getElem hi2) hf2.2, q]
              · rintro ρ M' ⟨rfl, ⟨z, rfl⟩, hall⟩
                rw [intsD_len] at hall
                exact .inl ⟨samePs_all hlen fun j x y h1 h2 => hall j x y (by have := (List.getElem?_eq_some_iff.mp h2).1; exact this) h1 h2, _, rfl⟩
            have hr := rng1_len ys.length hf2.1
            rcases key _ rfl with ⟨h1, ρ, h2⟩ | ⟨h1, h2⟩
            · simp [m__law_same, isaT, sameP, hlen, hr, h1, h2]
            · simp [m__law_same, isaT, sameP, hlen, hr, h1, h2]
          · have h1 : samePs xs ys = false := by
              cases q : samePs xs ys with
              | false => rfl
              | true => exact absurd (samePs_len q) hlen
            have h2 : ¬ ((xs.length : Int) = ys.length) := by omega
            simp [m__law_same, isaT, sameP, hlen, h1, h2]
        | _ => simp [m__law_same, isaT, sameP]
    · simp
  · simp
-- slots: 0:script 1:bag 2:mixed 3:place 4:turn 5:cell 6:step
noncomputable def m__law_bag  : RS :=
  (rSeq (rSet 1 (rLst rNil))
  (rSeq (rSet 2 (rBin dAdd (rC (.p (.int 11))) (rBin dMod (rCB cLen (rCons (rVar 0) rNil)) (rC (.p (.int 89))))))
  (rSeq (rForR rng1 (rCons (rCB cMin2 (rCons (rC (.p (.int 63))) (rCons (rCB cLen (rCons (rVar 0) rNil)) rNil))) rNil) (gNm 3)
  (rSeq (rSet 5 (rCB cAbs (rCons (rCB cInt (rCons (rBin dIx (rVar 0) (rVar 3)) rNil)) rNil)))
  (rSeq (rSet 2 (rBin dMod (rCB cInt (rCons (rBin dAdd (rBin dAdd (rBin dMul (rVar 2) (rC (.p (.int 2017)))) (rVar 5)) (rBin dMul (rC (.p (.int 5))) (rVar 3))) rNil)) (rC (.p (.int 2147483587)))))
  (rIfS (rTst asBool (rBin dLt (rVar 5) (rBin dPow (rC (.p (.int 10))) (rC (.p (.int 18))))))
  (rForR rng1 (rCons (rC (.p (.int 6))) rNil) (gNm 4)
  (rSeq (rSet 6 (rBin dMod (rCB cInt (rCons (rBin dAdd (rBin dAdd (rBin dMul (rVar 2) (rC (.p (.int 16807)))) (rBin dMul (rVar 5) (rBin dAdd (rVar 4) (rC (.p (.int 1)))))) (rBin dMul (rC (.p (.int 613))) (rVar 4))) rNil)) (rC (.p (.int 2147483629)))))
  (rExpr (rLM mAppend (rVar 1) (rCons (rBin dMod (rCB cInt (rCons (rBin dAdd (rBin dDiv (rBin dMul (rVar 6) (rVar 6)) (rC (.p (.int 64)))) (rBin dMul (rC (.p (.int 17))) (rVar 4))) rNil)) (rC (.p (.int 1000003)))) rNil)))))
  (rForR rng1 (rCons (rC (.p (.int 60))) rNil) (gNm 4)
  (rIfS (rTst asBool (rBin dGt (rVar 5) (rC (.p (.int 0)))))
  (rSeq (rExpr (rLM mAppend (rVar 1) (rCons (rBin dMod (rCB cInt (rCons (rVar 5) rNil)) (rC (.p (.int 1000000)))) rNil)))
  (rSet 5 (rBin dDiv (rVar 5) (rC (.p (.int 1000000))))))
  rSkip))))))
  (rSeq (rForR rng2 (rCons (rCB cLen (rCons (rVar 1) rNil)) (rCons (rC (.p (.int 400))) rNil)) (gNm 4)
  (rSeq (rSet 2 (rBin dMod (rCB cInt (rCons (rBin dAdd (rBin dAdd (rBin dMul (rVar 2) (rC (.p (.int 48271)))) (rBin dMul (rC (.p (.int 13))) (rVar 4))) (rC (.p (.int 7)))) rNil)) (rC (.p (.int 2147483563)))))
  (rExpr (rLM mAppend (rVar 1) (rCons (rBin dMod (rCB cInt (rCons (rBin dAdd (rBin dDiv (rBin dMul (rVar 2) (rVar 2)) (rC (.p (.int 32)))) (rVar 4)) rNil)) (rC (.p (.int 1000003)))) rNil)))))
  (rRet (rRev (rVar 1)))))))


noncomputable def F__law_bag : List D → Store → R D := selfF 7 m__law_bag
theorem r__law_bag : Ref 1 7 F__law_bag m__law_bag := ref_self 1 7 m__law_bag
theorem bag_app (s : List D) (b : List Int) (v : Int) (h : b.length ≤ 10000) : mAppend (.ref 1) [.p (.int v)] [.ro s, .lst (bagL b)] = some (.p .non, [.ro s, .lst (bagL (b ++ [v]))]) := by
  have h2 : b.length < sizeLine := by unfold sizeLine; omega
  simp [mAppend, bagL_len, h2, bagL]
theorem emod_lo (a : Int) {k : Int} (h : 0 < k) : 0 ≤ a % k := Int.emod_nonneg _ (by omega)
def BagSt (s : List D) (n : Nat) (c : Option D) (ρ : Env) (M : Store) : Prop := ∃ (b : List Int) (m : Int) (z3 z4 z6 : Option D), ρ = [some (.ref 0), some (.ref 1), some (.p (.int m)), z3, z4, c, z6] ∧ M = [.ro s, .lst (bagL b)] ∧ b.length ≤ n ∧ 0 ≤ m ∧ m < 2147483648
theorem bag_small (s : List D) (n : Nat) (hn : n ≤ 6000) (cell : Int) (h0 : 0 ≤ cell) (h1 : cell < 1000000000000000000) {ρ : Env} {M : Store} (h : BagSt s n (some (.p (.int cell))) ρ M) :
    ∃ ρ' M', forL none (gNm 4)
  (rSeq (rSet 6 (rBin dMod (rCB cInt (rCons (rBin dAdd (rBin dAdd (rBin dMul (rVar 2) (rC (.p (.int 16807)))) (rBin dMul (rVar 5) (rBin dAdd (rVar 4) (rC (.p (.int 1)))))) (rBin dMul (rC (.p (.int 613))) (rVar 4))) rNil)) (rC (.p (.int 2147483629)))))
  (rExpr (rLM mAppend (rVar 1) (rCons (rBin dMod (rCB cInt (rCons (rBin dAdd (rBin dDiv (rBin dMul (rVar 6) (rVar 6)) (rC (.p (.int 64)))) (rBin dMul (rC (.p (.int 17))) (rVar 4))) rNil)) (rC (.p (.int 1000003)))) rNil)))) (intsD 0 6) ρ M = .nx ρ' M' ∧ BagSt s (n + 6) (some (.p (.int cell))) ρ' M' := by
  refine forL_inv (k := none) (intsD 0 6) (fun i ρ M => BagSt s (n + i) (some (.p (.int cell))) ρ M) (fun _ _ _ _ => True.intro) ?_ h
  rintro i d ρ M hi ⟨b, m, z3, z4, z6, rfl, rfl, hb, hm0, hm1⟩
  have hi2 : i < 6 := by
    have := (List.getElem?_eq_some_iff.mp hi).1
    rwa [intsD_len] at this
  rw [intsD_get 0 _ _ hi2] at hi
  cases hi
  have e1 := v_mul m 16807 [.ro s, .lst (bagL b)] (mul_small (by decide) (by decide))
  have e2 := v_mul cell (i + 1) [.ro s, .lst (bagL b)] (mul_small' (by omega) (by omega))
  have e3 := v_mul 613 i [.ro s, .lst (bagL b)] (mul_small' (by decide) (by decide))
  have e4 := fun x => v_mod x 2147483629 [.ro s, .lst (bagL b)] (by decide)
  have hs := emod_lo (m * 16807 + cell * (i + 1) + 613 * i) (k := 2147483629) (by decide)
  have hs2 := Int.emod_lt_of_pos (m * 16807 + cell * (i + 1) + 613 * i) (b := 2147483629) (by decide)
  generalize hst : (m * 16807 + cell * (i + 1) + 613 * i) % 2147483629 = st at hs hs2
  have e5 := v_mul st st [.ro s, .lst (bagL b)] (mul_small (by omega) (by omega))
  have e6 := fun x => v_div x 64 [.ro s, .lst (bagL b)] (div_small (by decide) (by decide))
  have e7 := v_mul 17 i [.ro s, .lst (bagL b)] (mul_small' (by decide) (by decide))
  have e8 := fun x => v_mod x 1000003 [.ro s, .lst (bagL b)] (by decide)
  have e9 := fun v => bag_app s b v (by omega)
  refine ⟨_, _, _, _, rfl, .inl ?_, b ++ [(st * st / 64 + 17 * i) % 1000003], m, z3, some (.p (.int i)), some (.p (.int st)), rfl, rfl, by simp; omega, hm0, hm1⟩
  simp [e1, e2, e3, e4, hst, e5, e6, e7, e8, e9, isLst]
theorem bag_big (s : List D) (n : Nat) (hn : n ≤ 6000) (c : Option D) {ρ : Env} {M : Store} (hc : ∃ cell : Int, c = some (.p (.int cell)) ∧ 0 ≤ cell) (h : BagSt s n c ρ M) :
    ∃ ρ' M', forL none (gNm 4)
  (rIfS (rTst asBool (rBin dGt (rVar 5) (rC (.p (.int 0)))))
  (rSeq (rExpr (rLM mAppend (rVar 1) (rCons (rBin dMod (rCB cInt (rCons (rVar 5) rNil)) (rC (.p (.int 1000000)))) rNil)))
  (rSet 5 (rBin dDiv (rVar 5) (rC (.p (.int 1000000))))))
  rSkip) (intsD 0 60) ρ M = .nx ρ' M' ∧ ∃ c', BagSt s (n + 60) c' ρ' M' := by
  obtain ⟨ρ', M', h1, c', _, h2⟩ := forL_inv (k := none) (g := gNm 4) (body := (rIfS (rTst asBool (rBin dGt (rVar 5) (rC (.p (.int 0)))))
  (rSeq (rExpr (rLM mAppend (rVar 1) (rCons (rBin dMod (rCB cInt (rCons (rVar 5) rNil)) (rC (.p (.int 1000000)))) rNil)))
  (rSet 5 (rBin dDiv (rVar 5) (rC (.p (.int 1000000))))))
  rSkip)) (intsD 0 60) (fun i ρ M => ∃ c', (∃ cell : Int, c' = some (.p (.int cell)) ∧ 0 ≤ cell) ∧ BagSt s (n + i) c' ρ M) (fun _ _ _ _ => True.intro) (by
    rintro i d ρ M hi ⟨c', ⟨cell, rfl, hcell⟩, b, m, z3, z4, z6, rfl, rfl, hb, hm0, hm1⟩
    have hi2 : i < 60 := by
      have := (List.getElem?_eq_some_iff.mp hi).1
      rwa [intsD_len] at this
    have e8 := fun x => v_mod x 1000000 [.ro s, .lst (bagL b)] (by decide)
    have e9 := fun v => bag_app s b v (by omega)
    have e6 := fun M => v_div cell 1000000 M (div_small (by decide) (by decide))
    by_cases hp : 0 < cell
    · refine ⟨_, _, _, _, rfl, .inl ?_, some (.p (.int (cell / 1000000))), ⟨_, rfl, Int.ediv_nonneg hcell (by decide)⟩, b ++ [cell % 1000000], m, z3, some d, z6, rfl, rfl, by simp; omega, hm0, hm1⟩
      simp [e6, e8, e9, isLst, hp]
    · refine ⟨_, _, _, _, rfl, .inl ?_, some (.p (.int cell)), ⟨_, rfl, hcell⟩, b, m, z3, some d, z6, rfl, rfl, by omega, hm0, hm1⟩
      simp [hp]) ⟨c, hc, h⟩
  exact ⟨ρ', M', h1, c', h2⟩
noncomputable def bagMid : RS := (rSeq (rSet 5 (rCB cAbs (rCons (rCB cInt (rCons (rBin dIx (rVar 0) (rVar 3)) rNil)) rNil)))
  (rSeq (rSet 2 (rBin dMod (rCB cInt (rCons (rBin dAdd (rBin dAdd (rBin dMul (rVar 2) (rC (.p (.int 2017)))) (rVar 5)) (rBin dMul (rC (.p (.int 5))) (rVar 3))) rNil)) (rC (.p (.int 2147483587)))))
  (rIfS (rTst asBool (rBin dLt (rVar 5) (rBin dPow (rC (.p (.int 10))) (rC (.p (.int 18))))))
  (rForR rng1 (rCons (rC (.p (.int 6))) rNil) (gNm 4)
  (rSeq (rSet 6 (rBin dMod (rCB cInt (rCons (rBin dAdd (rBin dAdd (rBin dMul (rVar 2) (rC (.p (.int 16807)))) (rBin dMul (rVar 5) (rBin dAdd (rVar 4) (rC (.p (.int 1)))))) (rBin dMul (rC (.p (.int 613))) (rVar 4))) rNil)) (rC (.p (.int 2147483629)))))
  (rExpr (rLM mAppend (rVar 1) (rCons (rBin dMod (rCB cInt (rCons (rBin dAdd (rBin dDiv (rBin dMul (rVar 6) (rVar 6)) (rC (.p (.int 64)))) (rBin dMul (rC (.p (.int 17))) (rVar 4))) rNil)) (rC (.p (.int 1000003)))) rNil)))))
  (rForR rng1 (rCons (rC (.p (.int 60))) rNil) (gNm 4)
  (rIfS (rTst asBool (rBin dGt (rVar 5) (rC (.p (.int 0)))))
  (rSeq (rExpr (rLM mAppend (rVar 1) (rCons (rBin dMod (rCB cInt (rCons (rVar 5) rNil)) (rC (.p (.int 1000000)))) rNil)))
  (rSet 5 (rBin dDiv (rVar 5) (rC (.p (.int 1000000))))))
  rSkip)))))
theorem bag_mid (ns : List Int) (n : Nat) (hn : n ≤ 6000) (i : Nat) (hi : i < ns.length) {ρ : Env} {M : Store} {c : Option D} (h : BagSt (bagL ns) n c ρ M) :
    ∃ ρ' M', bagMid (ρ.set 3 (some (.p (.int i)))) M = .nx ρ' M' ∧ ∃ c', BagSt (bagL ns) (n + 60) c' ρ' M' := by
  obtain ⟨b, m, z3, z4, z6, rfl, rfl, hb, hm0, hm1⟩ := h
  have ea : atI (bagL ns) (i : Int) = some (.p (.int ns[i])) := by
    rw [bagL, atI_map, atI_nat (List.getElem?_eq_getElem hi)]
    rfl
  have e0 : dIx (.ref 0) (.p (.int i)) [.ro (bagL ns), .lst (bagL b)] = some (.p (.int ns[i]), [.ro (bagL ns), .lst (bagL b)]) := by
    simp [dIx, rowD, ea]
  have hcell : 0 ≤ (if ns[i] < 0 then -ns[i] else ns[i]) := by split <;> omega
  generalize hc : (if ns[i] < 0 then -ns[i] else ns[i]) = cell at hcell
  have e1 := v_mul m 2017 [.ro (bagL ns), .lst (bagL b)] (mul_small (by decide) (by decide))
  have e2 := v_mul 5 i [.ro (bagL ns), .lst (bagL b)] (mul_small' (by decide) (by decide))
  have e3 := fun x => v_mod x 2147483587 [.ro (bagL ns), .lst (bagL b)] (by decide)
  have e4 := v_pow 10 18 [.ro (bagL ns), .lst (bagL b)] (by decide)
  have hs := emod_lo (m * 2017 + cell + 5 * i) (k := 2147483587) (by decide)
  have hs2 := Int.emod_lt_of_pos (m * 2017 + cell + 5 * i) (b := 2147483587) (by decide)
  have r6 : rng1 [.p (.int 6)] = some (0, 6) := rng1_len 6 (by decide)
  have r60 : rng1 [.p (.int 60)] = some (0, 60) := rng1_len 60 (by decide)
  have h18 : (10 : Int) ^ (18 : Int).toNat = 1000000000000000000 := by decide
  by_cases hs18 : cell < 1000000000000000000
  · obtain ⟨ρ', M', k1, k2⟩ := bag_small (bagL ns) n hn cell hcell hs18 (ρ := [some (.ref 0), some (.ref 1), some (.p (.int ((m * 2017 + cell + 5 * i) % 2147483587))), some (.p (.int i)), z4, some (.p (.int cell)), z6]) (M := [.ro (bagL ns), .lst (bagL b)]) ⟨b, _, _, _, _, rfl, rfl, hb, hs, by omega⟩
    refine ⟨ρ', M', ?_, some (.p (.int cell)), ?_⟩
    · rw [← k1]
      simp [bagMid, e0, e1, e2, e3, e4, hc, h18, hs18, r6]
    · obtain ⟨b, m, z3, z4, z6, rfl, rfl, hb, hm0, hm1⟩ := k2
      exact ⟨b, m, z3, z4, z6, rfl, rfl, by omega, hm0, hm1⟩
  · obtain ⟨ρ', M', k1, k2⟩ := bag_big (bagL ns) n hn (some (.p (.int cell))) ⟨cell, rfl, hcell⟩ (ρ := [some (.ref 0), some (.ref 1), some (.p (.int ((m * 2017 + cell + 5 * i) % 2147483587))), some (.p (.int i)), z4, some (.p (.int cell)), z6]) (M := [.ro (bagL ns), .lst (bagL b)]) ⟨b, _, _, _, _, rfl, rfl, hb, hs, by omega⟩
    refine ⟨ρ', M', ?_, k2⟩
    rw [← k1]
    simp [bagMid, e0, e1, e2, e3, e4, hc, h18, hs18, r60]
noncomputable def bagEnd : RS := (rForR rng2 (rCons (rCB cLen (rCons (rVar 1) rNil)) (rCons (rC (.p (.int 400))) rNil)) (gNm 4)
  (rSeq (rSet 2 (rBin dMod (rCB cInt (rCons (rBin dAdd (rBin dAdd (rBin dMul (rVar 2) (rC (.p (.int 48271)))) (rBin dMul (rC (.p (.int 13))) (rVar 4))) (rC (.p (.int 7)))) rNil)) (rC (.p (.int 2147483563)))))
  (rExpr (rLM mAppend (rVar 1) (rCons (rBin dMod (rCB cInt (rCons (rBin dAdd (rBin dDiv (rBin dMul (rVar 2) (rVar 2)) (rC (.p (.int 32)))) (rVar 4)) rNil)) (rC (.p (.int 1000003)))) rNil)))))
theorem bag_end (s : List D) (n : Nat) (hn : n ≤ 4000) {ρ : Env} {M : Store} {c : Option D} (h : BagSt s n c ρ M) :
    ∃ ρ' M', bagEnd ρ M = .nx ρ' M' ∧ BagSt s 6000 c ρ' M' := by
  obtain ⟨b, m, z3, z4, z6, rfl, rfl, hb, hm0, hm1⟩ := h
  have er := rng2_ok b.length 400 (by omega) (by omega) (by decide) (by decide)
  obtain ⟨ρ', M', k1, k2⟩ := forL_inv (k := none) (g := gNm 4) (body := (rSeq (rSet 2 (rBin dMod (rCB cInt (rCons (rBin dAdd (rBin dAdd (rBin dMul (rVar 2) (rC (.p (.int 48271)))) (rBin dMul (rC (.p (.int 13))) (rVar 4))) (rC (.p (.int 7)))) rNil)) (rC (.p (.int 2147483563)))))
  (rExpr (rLM mAppend (rVar 1) (rCons (rBin dMod (rCB cInt (rCons (rBin dAdd (rBin dDiv (rBin dMul (rVar 2) (rVar 2)) (rC (.p (.int 32)))) (rVar 4)) rNil)) (rC (.p (.int 1000003)))) rNil))))) (intsD b.length ((400 : Int) - b.length).toNat) (fun i ρ M => i ≤ ((400 : Int) - b.length).toNat ∧ BagSt s (n + i) c ρ M) (fun _ _ _ _ => True.intro) (by
    rintro i d ρ M hi ⟨hle, b', m, z3, z4, z6, rfl, rfl, hb', hm0, hm1⟩
    have hi2 : i < ((400 : Int) - b.length).toNat := by
      have := (List.getElem?_eq_some_iff.mp hi).1
      rwa [intsD_len] at this
    rw [intsD_get _ _ _ hi2] at hi
    cases hi
    generalize hq : (b.length : Int) + (i : Int) = q
    have e1 := v_mul m 48271 [.ro s, .lst (bagL b')] (mul_small (by decide) (by decide))
    have e2 := v_mul 13 q [.ro s, .lst (bagL b')] (mul_small' (by decide) (by decide))
    have e3 := fun x => v_mod x 2147483563 [.ro s, .lst (bagL b')] (by decide)
    have hs := emod_lo (m * 48271 + 13 * q + 7) (k := 2147483563) (by decide)
    have hs2 := Int.emod_lt_of_pos (m * 48271 + 13 * q + 7) (b := 2147483563) (by decide)
    generalize hst : (m * 48271 + 13 * q + 7) % 2147483563 = st at hs hs2
    have e5 := v_mul st st [.ro s, .lst (bagL b')] (mul_small (by omega) (by omega))
    have e6 := fun x => v_div x 32 [.ro s, .lst (bagL b')] (div_small (by decide) (by decide))
    have e8 := fun x => v_mod x 1000003 [.ro s, .lst (bagL b')] (by decide)
    have e9 := fun v => bag_app s b' v (by omega)
    refine ⟨_, _, _, _, rfl, .inl ?_, by omega, b' ++ [(st * st / 32 + q) % 1000003], st, z3, some (.p (.int q)), z6, rfl, rfl, by simp; omega, hs, by omega⟩
    simp [e1, e2, e3, hst, e5, e6, e8, e9, isLst]) (ρ := [some (.ref 0), some (.ref 1), some (.p (.int m)), z3, z4, c, z6]) (M := [.ro s, .lst (bagL b)]) ⟨Nat.zero_le _, b, m, z3, z4, z6, rfl, rfl, hb, hm0, hm1⟩
  refine ⟨ρ', M', ?_, ?_⟩
  · rw [← k1]
    simp [bagEnd, cLen, lenD, bagL_len, er]
  · obtain ⟨hle, b', m, z3, z4, z6, rfl, rfl, hb2, hm0, hm1⟩ := k2
    rw [intsD_len] at hb2 hle
    exact ⟨b', m, z3, z4, z6, rfl, rfl, by omega, hm0, hm1⟩
theorem bagL_rev (b : List Int) : (bagL b).reverse = bagL b.reverse := by simp [bagL]
theorem bag_ok (ns : List Int) (hl : ns.length ≤ 63) : ∃ old b : List Int, b.length ≤ 6000 ∧ F__law_bag [.ref 0] [.ro (bagL ns)] = .ok (.ref 2) [.ro (bagL ns), .lst (bagL old), .lst (bagL b)] := by
  have e3 := v_mod (ns.length : Int) 89 [.ro (bagL ns), .lst []] (by decide)
  have hs := emod_lo (ns.length : Int) (k := 89) (by decide)
  have hs2 := Int.emod_lt_of_pos (ns.length : Int) (b := 89) (by decide)
  have e63 : min (63 : Int) ns.length = (ns.length : Int) := by omega
  have er := rng1_len ns.length (by omega)
  obtain ⟨ρ1, M1, k1, c1, k2⟩ := forL_inv (k := none) (g := gNm 3) (body := bagMid) (intsD 0 ns.length) (fun i ρ M => i ≤ 63 ∧ ∃ c, BagSt (bagL ns) (60 * i) c ρ M) (fun _ _ _ _ => True.intro) (by
    rintro i d ρ M hi ⟨hle, c, hB⟩
    have hi2 : i < ns.length := by
      have := (List.getElem?_eq_some_iff.mp hi).1
      rwa [intsD_len] at this
    rw [intsD_get _ _ _ hi2] at hi
    cases hi
    obtain ⟨ρ', M', k1, k2⟩ := bag_mid ns (60 * i) (by omega) i hi2 hB
    refine ⟨_, _, ρ', M', rfl, .inl (by simpa using k1), by omega, ?_⟩
    rwa [show 60 * (i + 1) = 60 * i + 60 by omega]) (ρ := [some (.ref 0), some (.ref 1), some (.p (.int (11 + (ns.length : Int) % 89))), none, none, none, none]) (M := [.ro (bagL ns), .lst (bagL [])]) ⟨by omega, none, [], _, _, _, _, rfl, rfl, by simp, by omega, by omega⟩
  rw [intsD_len] at k2
  obtain ⟨c, k3⟩ := k2
  obtain ⟨ρ2, M2, j1, j2⟩ := bag_end (bagL ns) (60 * ns.length) (by omega) k3
  obtain ⟨b, m, z3, z4, z6, rfl, rfl, hb, hm0, hm1⟩ := j2
  refine ⟨b, b.reverse, by simpa using hb, ?_⟩
  refine selfF_ok (M' := [.ro (bagL ns), .lst (bagL b), .lst (bagL b.reverse)]) ?_ (by simp)
  have em : m__law_bag = rSeq (rSet 1 (rLst rNil)) (rSeq (rSet 2 (rBin dAdd (rC (.p (.int 11))) (rBin dMod (rCB cLen (rCons (rVar 0) rNil)) (rC (.p (.int 89))))))
    (rSeq (rForR rng1 (rCons (rCB cMin2 (rCons (rC (.p (.int 63))) (rCons (rCB cLen (rCons (rVar 0) rNil)) rNil))) rNil) (gNm 3) bagMid) (rSeq bagEnd (rRet (rRev (rVar 1)))))) := rfl
  rw [em]
  have k1' : forL none (gNm 3) bagMid (intsD 0 ns.length) [some (.ref 0), some (.ref 1), some (.p (.int (11 + (ns.length : Int) % 89))), none, none, none, none] [.ro (bagL ns), .lst []] = .nx ρ1 M1 := k1
  simp [cLen, lenD, bagL_len, e3, e63, er, k1', j1, dRev, bagL_rev]
theorem nx_ok (s old ns : List Int) (k : Int) (h : 0 < k) : F__law_next [.ref 2, .p (.int k)] [.ro (bagL s), .lst (bagL old), .lst (bagL ns)] = .ok (.p (.int (nxV ns k))) [.ro (bagL s), .lst (bagL old), .lst (bagL (nxB ns))] := by
  simp [F__law_next, asInts_bag, h]
theorem pick_at (Q : Int → Prop) (is : List Int) (k : Int) (h0 : 0 ≤ k) (h : k < is.length) (hq : ∀ i ∈ is, Q i) : ∃ t, atI (bagL is) k = some (.p (.int t)) ∧ Q t := by
  obtain ⟨n, rfl⟩ : ∃ n : Nat, k = n := ⟨k.toNat, by omega⟩
  have hn : n < is.length := by omega
  exact ⟨is[n], by rw [bagL, atI_map, atI_nat (List.getElem?_eq_getElem hn)]; rfl, hq _ (List.getElem_mem hn)⟩
theorem same_ok (x : P) (hd : x.depth ≤ 8) (hf : fitP x = true) (M : Store) : Fp_same 9 [.p x, .p x] M = .ok (.p (.bl true)) M := by
  unfold Fp_same
  simp [hd, hf, sameP_refl]
abbrev W3 (s old ns : List Int) : Store := [.ro (bagL s), .lst (bagL old), .lst (bagL ns)]
/-- the law's store: the script, the bag unturned, the bag, what came behind -/
abbrev We (s old ns : List Int) (ext : Store) : Store := .ro (bagL s) :: .lst (bagL old) :: .lst (bagL ns) :: ext
theorem nx_e (s old ns : List Int) (ext : Store) (k : Int) (h : 0 < k) : F__law_next [.ref 2, .p (.int k)] (.ro (bagL s) :: .lst (bagL old) :: .lst (bagL ns) :: ext) = .ok (.p (.int (nxV ns k))) (.ro (bagL s) :: .lst (bagL old) :: .lst (bagL (nxB ns)) :: ext) := by
  simp [F__law_next, asInts_bag, h]
/-- a draw: any number below the limit, some bag behind -/
theorem nx_any (s old ns : List Int) (ext : Store) (k : Int) (h : 0 < k) : ∃ v ns', 0 ≤ v ∧ v < k ∧ F__law_next [.ref 2, .p (.int k)] (.ro (bagL s) :: .lst (bagL old) :: .lst (bagL ns) :: ext) = .ok (.p (.int v)) (.ro (bagL s) :: .lst (bagL old) :: .lst (bagL ns') :: ext) :=
  ⟨_, _, nxV_nonneg ns h, nxV_lt ns h, nx_e s old ns ext k h⟩
theorem pick_P (Q : P → Prop) (is : List P) (k : Int) (h0 : 0 ≤ k) (h : k < is.length) (hq : ∀ i ∈ is, Q i) : ∃ t, atI (is.map D.p) k = some (.p t) ∧ Q t := by
  obtain ⟨n, rfl⟩ : ∃ n : Nat, k = n := ⟨k.toNat, by omega⟩
  have hn : n < is.length := by omega
  exact ⟨is[n], by rw [atI_map, atI_nat (List.getElem?_eq_getElem hn)]; rfl, hq _ (List.getElem_mem hn)⟩

/-! ### guesses -/
/-! ### choosing, in plain numbers -/
def ch : Nat → Nat → Nat
  | _, 0 => 1
  | 0, _ + 1 => 0
  | n + 1, k + 1 => ch n k + ch n (k + 1)
def fac : Nat → Nat
  | 0 => 1
  | n + 1 => (n + 1) * fac n
theorem fac_pos : ∀ n, 0 < fac n
  | 0 => by decide
  | n + 1 => Nat.mul_pos (Nat.succ_pos n) (fac_pos n)
theorem ch_rec : ∀ n k, k ≤ n → ch n (k + 1) * (k + 1) = ch n k * (n - k)
  | 0, k, h => by
    have : k = 0 := by omega
    subst this
    simp [ch]
  | n + 1, 0, _ => by
    have h := ch_rec n 0 (Nat.zero_le _)
    simp only [ch] at h ⊢
    cases n with
    | zero => simp [ch]
    | succ n => simp only [ch] at h ⊢; omega
  | n + 1, k + 1, h => by
    have h1 := ch_rec n k (by omega)
    show (ch n (k + 1) + ch n (k + 1 + 1)) * (k + 1 + 1) = (ch n k + ch n (k + 1)) * (n + 1 - (k + 1))
    rw [Nat.add_sub_add_right, Nat.add_mul, Nat.add_mul, ← h1]
    by_cases e : k = n
    · subst e
      have z : ∀ a b, a < b → ch a b = 0 := by
        intro a
        induction a with
        | zero => intro b hb; cases b with
          | zero => omega
          | succ b => rfl
        | succ a ih => intro b hb; cases b with
          | zero => omega
          | succ b => show ch a b + ch a (b + 1) = 0; rw [ih b (by omega), ih (b + 1) (by omega)]
      rw [z k (k + 1) (by omega), z k (k + 1 + 1) (by omega)]
      simp
    · have h2 := ch_rec n (k + 1) (by omega)
      rw [h2]
      rw [← Nat.mul_add, ← Nat.mul_add]
      congr 1
      omega
theorem ch_step (n i : Nat) (h : i ≤ n) : (ch n i * (n - i) : Int) / (i + 1) = ch n (i + 1) := by
  have h1 := ch_rec n i h
  have h2 : (ch n i * (n - i) : Int) = ch n (i + 1) * (i + 1) := by
    have h3 : ((ch n (i + 1) * (i + 1) : Nat) : Int) = ((ch n i * (n - i) : Nat) : Int) := by rw [h1]
    rw [Int.natCast_mul, Int.natCast_mul, Int.natCast_sub h] at h3
    push_cast at h3
    exact h3.symm
  rw [h2]
  exact Int.mul_ediv_cancel _ (by omega)
theorem ch_fac (n : Nat) : ∀ k, k ≤ n → ch n k * (fac k * fac (n - k)) = fac n
  | 0, _ => by cases n <;> simp [ch, fac]
  | k + 1, h => by
    have h1 := ch_rec n k (by omega)
    have h2 := ch_fac n k (by omega)
    have e : n - k = (n - (k + 1)) + 1 := by omega
    rw [e] at h1 h2
    simp only [fac] at h2 ⊢
    rw [← h2]
    calc ch n (k + 1) * ((k + 1) * fac k * fac (n - (k + 1))) = (ch n (k + 1) * (k + 1)) * (fac k * fac (n - (k + 1))) := by simp only [Nat.mul_assoc]
      _ = ch n k * (n - (k + 1) + 1) * (fac k * fac (n - (k + 1))) := by rw [h1]
      _ = _ := by simp only [Nat.mul_assoc, Nat.mul_left_comm, Nat.mul_comm]
def chv (n k : Nat) : Nat := ch n (min k (n - k))
theorem chv_fac (n k : Nat) (h : k ≤ n) : chv n k * (fac k * fac (n - k)) = fac n := by
  unfold chv
  by_cases e : k ≤ n - k
  · rw [Nat.min_eq_left e]
    exact ch_fac n k h
  · rw [Nat.min_eq_right (by omega), Nat.mul_comm (fac k)]
    have h1 := ch_fac n (n - k) (by omega)
    rwa [show n - (n - k) = k by omega] at h1
theorem fac_up (p q : Nat) (h : q ≤ p + 1) : ∀ d, d ≤ q → fac p * fac q ≤ fac (p + d) * fac (q - d)
  | 0, _ => Nat.le_refl _
  | d + 1, hd => by
    refine Nat.le_trans (fac_up p q h d (by omega)) ?_
    have e : q - d = (q - (d + 1)) + 1 := by omega
    rw [e]
    show fac (p + d) * ((q - (d + 1) + 1) * fac (q - (d + 1))) ≤ ((p + d + 1) * fac (p + d)) * fac (q - (d + 1))
    rw [Nat.mul_left_comm, Nat.mul_assoc]
    exact Nat.mul_le_mul_right _ (by omega)
/-- the even split misses least -/
theorem even_best (n a0 b0 a b : Nat) (hs : a0 + b0 = a + b) (hn : a + b ≤ n) (h1 : a0 ≤ b0) (h2 : b0 ≤ a0 + 1) : chv (n - a0) b0 * chv n b ≤ chv (n - a) b * chv n b0 := by
  have f1 := chv_fac (n - a0) b0 (by omega)
  have f2 := chv_fac n b (by omega)
  have f3 := chv_fac (n - a) b (by omega)
  have f4 := chv_fac n b0 (by omega)
  have e1 : n - a0 - b0 = n - a - b := by omega
  rw [e1] at f1
  have key : fac (n - a0) * fac (n - b0) ≤ fac (n - a) * fac (n - b) := by
    by_cases h : a ≤ a0
    · have := fac_up (n - a0) (n - b0) (by omega) (a0 - a) (by omega)
      rwa [show n - a0 + (a0 - a) = n - a by omega, show n - b0 - (a0 - a) = n - b by omega] at this
    · have := fac_up (n - b0) (n - a0) (by omega) (a - a0) (by omega)
      rwa [show n - b0 + (a - a0) = n - b by omega, show n - a0 - (a - a0) = n - a by omega, Nat.mul_comm, Nat.mul_comm (fac (n - b))] at this
  generalize chv (n - a0) b0 = X0 at *
  generalize chv n b = Y at *
  generalize chv (n - a) b = X at *
  generalize chv n b0 = Y0 at *
  have w : 0 < fac b0 * fac (n - a - b) * (fac b * fac (n - b) * fac (n - b0)) := by
    refine Nat.mul_pos (Nat.mul_pos ?_ ?_) (Nat.mul_pos (Nat.mul_pos ?_ ?_) ?_) <;> exact fac_pos _
  refine Nat.le_of_mul_le_mul_right ?_ w
  calc X0 * Y * (fac b0 * fac (n - a - b) * (fac b * fac (n - b) * fac (n - b0))) = (X0 * (fac b0 * fac (n - a - b))) * (Y * (fac b * fac (n - b))) * fac (n - b0) := by ac_rfl
    _ = (fac (n - a0) * fac (n - b0)) * fac n := by rw [f1, f2]; ac_rfl
    _ ≤ (fac (n - a) * fac (n - b)) * fac n := Nat.mul_le_mul_right _ key
    _ = (X * (fac b * fac (n - a - b))) * (Y0 * (fac b0 * fac (n - b0))) * fac (n - b) := by rw [f3, f4]; ac_rfl
    _ = _ := by ac_rfl
theorem ch_le : ∀ n k, ch n k ≤ 2 ^ n
  | 0, 0 => by decide
  | 0, _ + 1 => by simp [ch]
  | n + 1, 0 => by simp only [ch]; exact Nat.one_le_two_pow
  | n + 1, k + 1 => by
    have h1 := ch_le n k
    have h2 := ch_le n (k + 1)
    simp only [ch, Nat.pow_succ]
    omega
theorem ch_log (n k : Nat) : (ch n k).log2 ≤ n := by
  by_cases h : ch n k = 0
  · rw [h]; simp
  · have h1 : 2 ^ (ch n k).log2 ≤ 2 ^ n := Nat.le_trans (Nat.log2_self_le h) (ch_le n k)
    exact (Nat.pow_le_pow_iff_right (by decide)).mp h1
theorem chv_mul (n k m j : Nat) (hn : n ≤ 2000) (hm : m ≤ 2000) : mulOk (chv n k : Int) (chv m j : Int) := by
  refine .inr ?_
  have h1 : ((chv n k : Nat) : Int).natAbs = chv n k := rfl
  have h2 : ((chv m j : Nat) : Int).natAbs = chv m j := rfl
  rw [h1, h2]
  have := ch_log n (min k (n - k))
  have := ch_log m (min j (m - j))
  unfold chv
  omega

theorem ch_zero : ∀ a b, a < b → ch a b = 0
  | 0, b, h => by
    cases b with
    | zero => omega
    | succ b => rfl
  | a + 1, b, h => by
    cases b with
    | zero => omega
    | succ b => show ch a b + ch a (b + 1) = 0; rw [ch_zero a b (by omega), ch_zero a (b + 1) (by omega)]
theorem chv_ch (n k : Nat) (h : k ≤ n) : chv n k = ch n k := by
  have h1 := chv_fac n k h
  have h2 := ch_fac n k h
  exact Nat.eq_of_mul_eq_mul_right (Nat.mul_pos (fac_pos k) (fac_pos (n - k))) (h1.trans h2.symm)
theorem ch_pos (n k : Nat) (h : k ≤ n) : 0 < ch n k := by
  have h2 := ch_fac n k h
  rcases Nat.eq_zero_or_pos (ch n k) with e | e
  · rw [e, Nat.zero_mul] at h2
    have := fac_pos n
    omega
  · exact e
theorem ch_mono : ∀ n m k, n ≤ m → ch n k ≤ ch m k := by
  have step : ∀ n k, ch n k ≤ ch (n + 1) k := by
    intro n k
    cases k with
    | zero => simp [ch]
    | succ k => simp only [ch]; omega
  intro n m k h
  induction h with
  | refl => exact Nat.le_refl _
  | step _ ih => exact Nat.le_trans ih (step _ k)
theorem fp_ch (n : Nat) : ∀ k, k ≤ n → Builtin.Math.fallingProduct (n : Int) k = ((ch n k * fac k : Nat) : Int)
  | 0, _ => by cases n <;> simp [Builtin.Math.fallingProduct, ch, fac]
  | k + 1, h => by
    have h1 := ch_rec n k (by omega)
    rw [PySem.W.mc_fp_succ, fp_ch n k (by omega), ← Int.natCast_sub (by omega : k ≤ n), ← Int.natCast_mul]
    congr 1
    simp only [fac]
    calc ch n k * fac k * (n - k) = (ch n k * (n - k)) * fac k := by ac_rfl
      _ = (ch n (k + 1) * (k + 1)) * fac k := by rw [h1]
      _ = _ := by ac_rfl
theorem ch_self : ∀ n, ch n n = 1
  | 0 => rfl
  | n + 1 => by simp only [ch]; rw [ch_self n, ch_zero n (n + 1) (by omega)]
theorem comb_ch (n k : Nat) : PySem.W.mcComb (n : Int) (k : Int) = (ch n k : Int) := by
  by_cases h : k ≤ n
  · rw [PySem.W.mcComb_at (by omega) (by omega) (m := ((min k (n - k) : Nat) : Int)) (by omega)]
    rw [Int.toNat_natCast, fp_ch n _ (by omega), fp_ch (min k (n - k)) _ (Nat.le_refl _), ch_self, Nat.one_mul, ← chv_ch n k h]
    unfold chv
    rw [Int.natCast_mul]
    exact Int.mul_ediv_cancel _ (by have := fac_pos (min k (n - k)); omega)
  · unfold PySem.W.mcComb
    rw [if_pos (by omega), ch_zero n k (by omega)]
    rfl
theorem ch_sm (n k : Nat) (h : n ≤ 2000) : Sm (ch n k : Int) := ⟨2001, by decide, Nat.lt_of_le_of_lt (ch_le n k) (Nat.pow_lt_pow_right (by decide) (by omega))⟩
theorem ch_sub_sm (n a k : Nat) (h : n ≤ 2000) : Sm ((ch n k : Int) - (ch (n - a) k : Int)) := by
  refine (ch_sm n k h).le ?_
  have := ch_mono (n - a) n k (by omega)
  omega
/-! the chance, in lowest terms -/
def lowP (o u : Int) : P := .tup [.int (o / (Nat.gcd o.natAbs u.natAbs : Nat)), .int (u / (Nat.gcd o.natAbs u.natAbs : Nat))]
def chanceP (n a b : Nat) : P := lowP ((ch n b : Int) - (ch (n - a) b : Int)) (ch n b : Int)
def enough (n a b : Nat) (o u : Int) : Bool := decide (o * (ch n b : Int) ≤ ((ch n b : Int) - (ch (n - a) b : Int)) * u)
theorem enough_up (n a b : Nat) (o u : Int) (hb : b < n) (hu : 0 ≤ u) (h : enough n a b o u = true) : enough n a (b + 1) o u = true := by
  unfold enough at h ⊢
  simp only [decide_eq_true_eq] at h ⊢
  have r1 := ch_rec n b (by omega)
  have p : 0 < ch n b := ch_pos n b (by omega)
  have key : ch (n - a) (b + 1) * ch n b ≤ ch (n - a) b * ch n (b + 1) := by
    by_cases hb2 : b ≤ n - a
    · have r2 := ch_rec (n - a) b hb2
      refine Nat.le_of_mul_le_mul_right ?_ (show 0 < b + 1 by omega)
      calc ch (n - a) (b + 1) * ch n b * (b + 1) = (ch (n - a) (b + 1) * (b + 1)) * ch n b := by ac_rfl
        _ = ch (n - a) b * (n - a - b) * ch n b := by rw [r2]
        _ ≤ ch (n - a) b * (n - b) * ch n b := Nat.mul_le_mul_right _ (Nat.mul_le_mul_left _ (by omega))
        _ = ch (n - a) b * (ch n b * (n - b)) := by ac_rfl
        _ = ch (n - a) b * (ch n (b + 1) * (b + 1)) := by rw [r1]
        _ = _ := by ac_rfl
    · rw [ch_zero (n - a) (b + 1) (by omega)]
      omega
  generalize ch n b = W at *
  generalize ch n (b + 1) = W' at *
  generalize ch (n - a) b = X at *
  generalize ch (n - a) (b + 1) = X' at *
  have key' : (X' : Int) * W ≤ X * W' := by exact_mod_cast key
  refine Int.le_of_mul_le_mul_right ?_ (show (0 : Int) < W by omega)
  calc o * (W' : Int) * W = (o * W) * W' := by ac_rfl
    _ ≤ (((W : Int) - X) * u) * W' := Int.mul_le_mul_of_nonneg_right h (by omega)
    _ = ((W : Int) * W' - X * W') * u := by rw [Int.mul_right_comm, Int.sub_mul]
    _ ≤ ((W : Int) * W' - X' * W) * u := Int.mul_le_mul_of_nonneg_right (by omega) hu
    _ = ((W' : Int) - X') * u * W := by rw [Int.mul_right_comm, Int.sub_mul, Int.mul_comm (W : Int) W', ← Int.sub_mul, ← Int.sub_mul]
theorem enough_all (n a : Nat) (o u : Int) (hu : 0 ≤ u) : ∀ d b, b + d ≤ n → enough n a b o u = true → enough n a (b + d) o u = true
  | 0, _, _, h => h
  | d + 1, b, hd, h => by
    have := enough_up n a (b + d) o u (by omega) hu (enough_all n a o u hu d b (by omega) h)
    exact this
def leastP (n a : Nat) (o u : Int) : P := match (List.range (n + 1)).find? fun b => enough n a b o u with
  | some b => .int b
  | none => .non
theorem leastP_at (n a : Nat) (o u : Int) (b : Nat) (hb : b ≤ n) (h1 : enough n a b o u = true) (h2 : ∀ c, c < b → enough n a c o u = false) : leastP n a o u = .int b := by
  unfold leastP
  have e : (List.range (n + 1)).find? (fun b => enough n a b o u) = some b := by
    rw [List.find?_range_eq_some]
    exact ⟨h1, by simp; omega, fun j hj => by simp [h2 j hj]⟩
  rw [e]
theorem leastP_none (n a : Nat) (o u : Int) (h2 : ∀ c, c ≤ n → enough n a c o u = false) : leastP n a o u = .non := by
  unfold leastP
  have e : (List.range (n + 1)).find? (fun b => enough n a b o u) = none := by
    rw [List.find?_range_eq_none]
    intro i hi
    simp [h2 i (by omega)]
  rw [e]
theorem between_int {x : P} {a b : Int} (h : between x a b = true) : ∃ i, x = .int i ∧ a ≤ i ∧ i ≤ b := by
  unfold between at h
  split at h
  · rename_i i
    simp only [Bool.and_eq_true, decide_eq_true_eq] at h
    exact ⟨i, rfl, h⟩
  · cases h
theorem from_int {x : P} {a : Int} (h : from_ x a = true) : ∃ i, x = .int i ∧ a ≤ i := by
  unfold from_ at h
  split at h
  · rename_i i
    exact ⟨i, rfl, by simpa using h⟩
  · cases h
-- slots: 0:n
noncomputable def m_check_ports  : RS :=
  (rIfS (rtNot (rTst truthD (rCallN 3 F_is_between (rCons (rVar 0) (rCons (rC (.p (.int 1))) (rCons (rC (.p c_MOST_PORTS)) rNil))))))
  (rRaise "BadNumber")
  rSkip)

noncomputable def F_check_ports : List D → Store → R D := selfF 1 m_check_ports
theorem r_check_ports : Ref 1 1 F_check_ports m_check_ports := ref_self 1 1 m_check_ports
theorem x_ports (x : P) (M : Store) : F_check_ports [.p x] M = if between x 1 2000 = true then .ok (.p .non) M else .ex "BadNumber" none M := by
  cases h : between x 1 2000
  · exact selfF_ex (by simp [m_check_ports, F_is_between, c_MOST_PORTS, h]) (Nat.le_refl _)
  · exact selfF_ok (by simp [m_check_ports, F_is_between, c_MOST_PORTS, h]) (Nat.le_refl _)
-- slots: 0:n 1:part
noncomputable def m_check_part  : RS :=
  (rIfS (rtNot (rTst truthD (rCallN 3 F_is_between (rCons (rVar 1) (rCons (rC (.p (.int 0))) (rCons (rVar 0) rNil))))))
  (rRaise "BadNumber")
  rSkip)

noncomputable def F_check_part : List D → Store → R D := selfF 2 m_check_part
theorem r_check_part : Ref 2 2 F_check_part m_check_part := ref_self 2 2 m_check_part
theorem x_part (n : Int) (x : P) (M : Store) : F_check_part [.p (.int n), .p x] M = if between x 0 n = true then .ok (.p .non) M else .ex "BadNumber" none M := by
  cases h : between x 0 n
  · exact selfF_ex (by simp [m_check_part, F_is_between, h]) (Nat.le_refl _)
  · exact selfF_ok (by simp [m_check_part, F_is_between, h]) (Nat.le_refl _)
-- slots: 0:n 1:a 2:b 3:every
noncomputable def m_ways  : RS :=
  (rSeq (rSet 3 (rCB cComb (rCons (rVar 0) (rCons (rVar 2) rNil))))
  (rRet (rTup (rCons (rBin dSub (rVar 3) (rCB cComb (rCons (rBin dSub (rVar 0) (rVar 1)) (rCons (rVar 2) rNil)))) (rCons (rVar 3) rNil)))))

noncomputable def F_ways : List D → Store → R D := selfF 4 m_ways
theorem r_ways : Ref 3 4 F_ways m_ways := ref_self 3 4 m_ways
theorem x_ways (n a b : Nat) (hn : n ≤ 2000) (ha : a ≤ n) (hb : b ≤ n) (M : Store) : F_ways [.p (.int n), .p (.int a), .p (.int b)] M = .ok (.p (.tup [.int ((ch n b : Int) - (ch (n - a) b : Int)), .int (ch n b)])) M := by
  have h3 : (n : Int) - a = ((n - a : Nat) : Int) := by omega
  have e1 := v_comb n b M ⟨by omega, by omega, by omega, .inl (by omega)⟩
  have e2 := v_comb ((n - a : Nat) : Int) b M ⟨by omega, by omega, by omega, .inl (by omega)⟩
  rw [comb_ch] at e1 e2
  exact selfF_ok (by simp [m_ways, h3, e1, e2]) (Nat.le_refl _)
-- slots: 0:over 1:under 2:common
noncomputable def m_lowest  : RS :=
  (rSeq (rSet 2 (rCB cGcd (rCons (rVar 0) (rCons (rVar 1) rNil))))
  (rRet (rTup (rCons (rBin dDiv (rVar 0) (rVar 2)) (rCons (rBin dDiv (rVar 1) (rVar 2)) rNil)))))

noncomputable def F_lowest : List D → Store → R D := selfF 3 m_lowest
theorem r_lowest : Ref 2 3 F_lowest m_lowest := ref_self 2 3 m_lowest
theorem x_lowest (o u : Int) (M : Store) (hu : 0 < u) (hs : u.natAbs < 2 ^ 8000) : F_lowest [.p (.int o), .p (.int u)] M = .ok (.p (lowP o u)) M := by
  have g0 : 0 < Nat.gcd o.natAbs u.natAbs := Nat.gcd_pos_of_pos_right _ (by omega)
  have g1 : Nat.gcd o.natAbs u.natAbs ≤ u.natAbs := Nat.le_of_dvd (by omega) (Nat.gcd_dvd_right _ _)
  have hd : divOk ((Nat.gcd o.natAbs u.natAbs : Nat) : Int) := Sm.divOk 8000 (by omega) (by decide) (by rw [Int.natAbs_natCast]; omega)
  have e1 := v_div o _ M hd
  have e2 := v_div u _ M hd
  exact selfF_ok (by simp [m_lowest, lowP, e1, e2]) (Nat.le_refl _)
def goodC (x y z : P) : Bool := match x with
  | .int n => between x 1 2000 && between y 0 n && between z 0 n
  | _ => false
-- slots: 0:n 1:a 2:b 3:met 4:every
noncomputable def m_chance  : RS :=
  (rSeq (rExpr (rCallN 1 F_check_ports (rCons (rVar 0) rNil)))
  (rSeq (rExpr (rCallN 2 F_check_part (rCons (rVar 0) (rCons (rVar 1) rNil))))
  (rSeq (rExpr (rCallN 2 F_check_part (rCons (rVar 0) (rCons (rVar 2) rNil))))
  (rSeq (rAsg (rCallN 3 F_ways (rCons (rVar 0) (rCons (rVar 1) (rCons (rVar 2) rNil)))) (gTp 2 (gCo (gNm 3) (gCo (gNm 4) gNi))))
  (rRet (rCallN 2 F_lowest (rCons (rVar 3) (rCons (rVar 4) rNil))))))))

noncomputable def F_chance : List D → Store → R D := selfF 5 m_chance
theorem r_chance : Ref 3 5 F_chance m_chance := ref_self 3 5 m_chance
theorem ch_8000 (n b : Nat) (hn : n ≤ 2000) : ((ch n b : Nat) : Int).natAbs < 2 ^ 8000 := by
  rw [Int.natAbs_natCast]
  exact Nat.lt_of_le_of_lt (ch_le n b) (Nat.pow_lt_pow_right (by decide) (by omega))
theorem x_chance (n a b : Nat) (h1 : 1 ≤ n) (hn : n ≤ 2000) (ha : a ≤ n) (hb : b ≤ n) (M : Store) : F_chance [.p (.int n), .p (.int a), .p (.int b)] M = .ok (.p (chanceP n a b)) M := by
  have e0 := x_ports (.int n) M
  rw [if_pos (by simp [between]; omega)] at e0
  have e1 := x_part n (.int a) M
  rw [if_pos (by simp [between]; omega)] at e1
  have e2 := x_part n (.int b) M
  rw [if_pos (by simp [between]; omega)] at e2
  have e3 := x_lowest ((ch n b : Int) - (ch (n - a) b : Int)) (ch n b) M (by have := ch_pos n b hb; omega) (ch_8000 n b hn)
  exact selfF_ok (by simp [m_chance, e0, e1, e2, x_ways n a b hn ha hb, e3, chanceP]) (Nat.le_refl _)
theorem x_chance_bad (x y z : P) (h : goodC x y z = false) (M : Store) : F_chance [.p x, .p y, .p z] M = .ex "BadNumber" none M := by
  cases hx : between x 1 2000 with
  | false => exact selfF_ex (by simp [m_chance, x_ports, hx]) (Nat.le_refl _)
  | true =>
    obtain ⟨n, rfl, _, _⟩ := between_int hx
    cases hy : between y 0 n with
    | false => exact selfF_ex (by simp [m_chance, x_ports, x_part, hx, hy]) (Nat.le_refl _)
    | true =>
      cases hz : between z 0 n with
      | false => exact selfF_ex (by simp [m_chance, x_ports, x_part, hx, hy, hz]) (Nat.le_refl _)
      | true => simp [goodC, hx, hy, hz] at h
-- slots: 0:n 1:a 2:b 3:over 4:under 5:met 6:every
noncomputable def m_is_enough  : RS :=
  (rSeq (rAsg (rCallN 3 F_ways (rCons (rVar 0) (rCons (rVar 1) (rCons (rVar 2) rNil)))) (gTp 2 (gCo (gNm 5) (gCo (gNm 6) gNi))))
  (rRet (rBin dGe (rBin dMul (rVar 5) (rVar 4)) (rBin dMul (rVar 3) (rVar 6)))))

noncomputable def F_is_enough : List D → Store → R D := selfF 7 m_is_enough
theorem r_is_enough : Ref 5 7 F_is_enough m_is_enough := ref_self 5 7 m_is_enough
theorem x_enough (n a b : Nat) (o u : Int) (hn : n ≤ 2000) (ha : a ≤ n) (hb : b ≤ n) (ho : Sm o) (hu : Sm u) (M : Store) : F_is_enough [.p (.int n), .p (.int a), .p (.int b), .p (.int o), .p (.int u)] M = .ok (.p (.bl (enough n a b o u))) M := by
  have e1 := v_mul _ _ M ((ch_sub_sm n a b hn).mulOk hu)
  have e2 := v_mul _ _ M (ho.mulOk (ch_sm n b hn))
  exact selfF_ok (by simp [m_is_enough, x_ways n a b hn ha hb, e1, e2, enough]) (Nat.le_refl _)
def goodL (x y o u : P) : Bool := match x with
  | .int n => between x 1 2000 && between y 0 n && from_ o 0 && from_ u 1
  | _ => false
-- slots: 0:n 1:a 2:over 3:under 4:low 5:high 6:middle
noncomputable def s_least_tries_1  : RS :=
  (rRaise "BadNumber")
noncomputable def s_least_tries_2  : RS :=
  (rRet (rC (.p .non)))
noncomputable def s_least_tries_3  : RS :=
  (rSet 5 (rVar 6))
noncomputable def s_least_tries_4  : RS :=
  (rSet 4 (rBin dAdd (rVar 6) (rC (.p (.int 1)))))
noncomputable def s_least_tries_5  : RS :=
  (rSet 6 (rBin dDiv (rBin dAdd (rVar 4) (rVar 5)) (rC (.p (.int 2)))))
noncomputable def s_least_tries_6  : RS :=
  (rIfS (rTst truthD (rCallN 5 F_is_enough (rCons (rVar 0) (rCons (rVar 1) (rCons (rVar 6) (rCons (rVar 2) (rCons (rVar 3) rNil)))))))
  s_least_tries_3
  s_least_tries_4)
noncomputable def b_least_tries_7  : RS :=
  (rSeq s_least_tries_5
  s_least_tries_6)
noncomputable def s_least_tries_8  : RS :=
  (rExpr (rCallN 1 F_check_ports (rCons (rVar 0) rNil)))
noncomputable def s_least_tries_9  : RS :=
  (rExpr (rCallN 2 F_check_part (rCons (rVar 0) (rCons (rVar 1) rNil))))
noncomputable def s_least_tries_10  : RS :=
  (rIfS (rtOr (rtNot (rTst truthD (rCallN 2 F_is_from (rCons (rVar 2) (rCons (rC (.p (.int 0))) rNil))))) (rtNot (rTst truthD (rCallN 2 F_is_from (rCons (rVar 3) (rCons (rC (.p (.int 1))) rNil))))))
  s_least_tries_1
  rSkip)
noncomputable def s_least_tries_11  : RS :=
  (rIfS (rtNot (rTst truthD (rCallN 5 F_is_enough (rCons (rVar 0) (rCons (rVar 1) (rCons (rVar 0) (rCons (rVar 2) (rCons (rVar 3) rNil))))))))
  s_least_tries_2
  rSkip)
noncomputable def s_least_tries_12  : RS :=
  (rPar 4 5 (rCons (rC (.p (.int 0))) (rCons (rVar 0) rNil)))
noncomputable def s_least_tries_13  : RS :=
  (rWh (rTst asBool (rBin dLt (rVar 4) (rVar 5)))
  b_least_tries_7)
noncomputable def s_least_tries_14  : RS :=
  (rRet (rVar 4))
noncomputable def m_least_tries  : RS :=
  (rSeq s_least_tries_8
  (rSeq s_least_tries_9
  (rSeq s_least_tries_10
  (rSeq s_least_tries_11
  (rSeq s_least_tries_12
  (rSeq s_least_tries_13
  s_least_tries_14))))))

noncomputable def F_least_tries : List D → Store → R D := selfF 7 m_least_tries
theorem r_least_tries : Ref 4 7 F_least_tries m_least_tries := ref_self 4 7 m_least_tries
theorem x_least_bad (x y o u : P) (h : goodL x y o u = false) (M : Store) : F_least_tries [.p x, .p y, .p o, .p u] M = .ex "BadNumber" none M := by
  cases hx : between x 1 2000 with
  | false => exact selfF_ex (by simp [m_least_tries, s_least_tries_8, x_ports, hx]) (Nat.le_refl _)
  | true =>
    obtain ⟨n, rfl, _, _⟩ := between_int hx
    cases hy : between y 0 n with
    | false => exact selfF_ex (by simp [m_least_tries, s_least_tries_8, s_least_tries_9, x_ports, x_part, hx, hy]) (Nat.le_refl _)
    | true =>
      cases hz : from_ o 0 with
      | false => exact selfF_ex (by simp [m_least_tries, s_least_tries_8, s_least_tries_9, s_least_tries_10, s_least_tries_1, F_is_from, x_ports, x_part, hx, hy, hz]) (Nat.le_refl _)
      | true =>
        cases hu : from_ u 1 with
        | false => exact selfF_ex (by simp [m_least_tries, s_least_tries_8, s_least_tries_9, s_least_tries_10, s_least_tries_1, F_is_from, x_ports, x_part, hx, hy, hz, hu]) (Nat.le_refl _)
        | true => simp [goodL, hx, hy, hz, hu] at h
theorem least_loop (n a : Nat) (o u : Int) (hn : n ≤ 2000) (ha : a ≤ n) (so : Sm o) (su : Sm u) (hu : 0 ≤ u) (M : Store) (k : Nat) (ρ : Env) (M0 : Store)
    (hI : M0 = M ∧ ∃ (lo hi : Nat) (z : Option D), ρ = [some (.p (.int n)), some (.p (.int a)), some (.p (.int o)), some (.p (.int u)), some (.p (.int lo)), some (.p (.int hi)), z] ∧ k = hi - lo ∧ lo ≤ hi ∧ hi ≤ n ∧ enough n a hi o u = true ∧ ∀ c, c < lo → enough n a c o u = false) :
    ∃ ρ', rWh (rTst asBool (rBin dLt (rVar 4) (rVar 5))) b_least_tries_7 ρ M0 = .nx ρ' M ∧ ∃ l : Nat, ρ'[4]? = some (some (.p (.int l))) ∧ leastP n a o u = .int l := by
  refine rWh_find (fun k ρ M0 => M0 = M ∧ ∃ (lo hi : Nat) (z : Option D), ρ = [some (.p (.int n)), some (.p (.int a)), some (.p (.int o)), some (.p (.int u)), some (.p (.int lo)), some (.p (.int hi)), z] ∧ k = hi - lo ∧ lo ≤ hi ∧ hi ≤ n ∧ enough n a hi o u = true ∧ ∀ c, c < lo → enough n a c o u = false) (fun out => ∃ ρ', out = .nx ρ' M ∧ ∃ l : Nat, ρ'[4]? = some (some (.p (.int l))) ∧ leastP n a o u = .int l) ?_ k ρ M0 hI
  rintro k ρ M0 ⟨rfl, lo, hi, z, rfl, rfl, h1, h2, h3, h4⟩
  by_cases hlt : lo < hi
  · refine .inr ⟨M0, by simp [hlt], .inl ?_⟩
    have hm : ((lo : Int) + hi) / 2 = (((lo + hi) / 2 : Nat) : Int) := by omega
    obtain ⟨mid, hmid⟩ : ∃ mid : Nat, (lo + hi) / 2 = mid := ⟨_, rfl⟩
    have e1 := v_div ((lo : Int) + hi) 2 M0 (div_small (by decide) (by decide))
    rw [hm, hmid] at e1
    have e2 := x_enough n a mid o u hn ha (by omega) so su M0
    cases he : enough n a mid o u with
    | true =>
      refine ⟨[some (.p (.int n)), some (.p (.int a)), some (.p (.int o)), some (.p (.int u)), some (.p (.int lo)), some (.p (.int mid)), some (.p (.int mid))], M0, mid - lo, .inl ?_, by omega, rfl, lo, mid, _, rfl, rfl, by omega, by omega, he, h4⟩
      simp [b_least_tries_7, s_least_tries_5, s_least_tries_6, s_least_tries_3, e1, e2, he]
    | false =>
      refine ⟨[some (.p (.int n)), some (.p (.int a)), some (.p (.int o)), some (.p (.int u)), some (.p (.int ((mid + 1 : Nat) : Int))), some (.p (.int hi)), some (.p (.int mid))], M0, hi - (mid + 1), .inl ?_, by omega, rfl, mid + 1, hi, _, rfl, rfl, by omega, h2, h3, ?_⟩
      · simp [b_least_tries_7, s_least_tries_5, s_least_tries_6, s_least_tries_4, e1, e2, he]
      · intro c hc
        cases hq : enough n a c o u with
        | false => rfl
        | true =>
          have := enough_all n a o u hu (mid - c) c (by omega) hq
          rw [show c + (mid - c) = mid by omega, he] at this
          cases this
  · have e : lo = hi := by omega
    subst e
    exact .inl ⟨M0, by simp, _, rfl, lo, rfl, leastP_at n a o u lo h2 h3 h4⟩
theorem x_least (n a : Nat) (o u : Int) (h1 : 1 ≤ n) (hn : n ≤ 2000) (ha : a ≤ n) (ho : 0 ≤ o) (hu : 1 ≤ u) (so : Sm o) (su : Sm u) (M : Store) : F_least_tries [.p (.int n), .p (.int a), .p (.int o), .p (.int u)] M = .ok (.p (leastP n a o u)) M := by
  have e0 := x_ports (.int n) M
  rw [if_pos (by simp [between]; omega)] at e0
  have e1 := x_part n (.int a) M
  rw [if_pos (by simp [between]; omega)] at e1
  have e2 := x_enough n a n o u hn ha (Nat.le_refl _) so su M
  cases he : enough n a n o u with
  | false =>
    have hl : leastP n a o u = .non := leastP_none n a o u fun c hc => by
      cases hq : enough n a c o u with
      | false => rfl
      | true =>
        have := enough_all n a o u (by omega) (n - c) c (by omega) hq
        rw [show c + (n - c) = n by omega, he] at this
        cases this
    rw [hl]
    exact selfF_ok (by simp [m_least_tries, s_least_tries_8, s_least_tries_9, s_least_tries_10, s_least_tries_11, s_least_tries_2, e0, e1, e2, he, F_is_from, from_, ho, hu]) (Nat.le_refl _)
  | true =>
    obtain ⟨ρ', k1, l, k2, k3⟩ := least_loop n a o u hn ha so su (by omega) M (n - 0) [some (.p (.int n)), some (.p (.int a)), some (.p (.int o)), some (.p (.int u)), some (.p (.int 0)), some (.p (.int n)), none] M ⟨rfl, 0, n, none, rfl, rfl, by omega, by omega, he, fun c hc => absurd hc (by omega)⟩
    rw [k3]
    exact selfF_ok (by simp [m_least_tries, s_least_tries_8, s_least_tries_9, s_least_tries_10, s_least_tries_11, s_least_tries_12, s_least_tries_13, s_least_tries_14, e0, e1, e2, he, F_is_from, from_, ho, hu, k1, k2]) (Nat.le_refl _)
-- slots: 0:over 1:under 2:step 3:one 4:other
noncomputable def m__law_lowest  : RS :=
  (rSeq (rPar 3 4 (rCons (rVar 0) (rCons (rVar 1) rNil)))
  (rSeq (rForR rng1 (rCons (rC (.p (.int 9000))) rNil) (gNm 2)
  (rIfS (rTst asBool (rBin dGt (rVar 4) (rC (.p (.int 0)))))
  (rPar 3 4 (rCons (rVar 4) (rCons (rBin dMod (rCB cInt (rCons (rVar 3) rNil)) (rVar 4)) rNil)))
  rSkip))
  (rRet (rTup (rCons (rBin dDiv (rVar 0) (rVar 3)) (rCons (rBin dDiv (rVar 1) (rVar 3)) rNil))))))

noncomputable def F__law_lowest : List D → Store → R D := selfF 5 m__law_lowest
theorem r__law_lowest : Ref 2 5 F__law_lowest m__law_lowest := ref_self 2 5 m__law_lowest
theorem euclid_step (o r Pd : Nat) (i : Nat) (h : r ≤ o) (hr : 0 < r) (hp : o * r * 2 ^ i ≤ Pd) : r * (o % r) * 2 ^ (i + 1) ≤ Pd := by
  have h1 : o % r < r := Nat.mod_lt _ hr
  have h2 : r * (o / r) + o % r = o := Nat.div_add_mod o r
  have h3 : 1 ≤ o / r := Nat.div_pos h hr
  have h4 : r ≤ r * (o / r) := Nat.le_mul_of_pos_right r h3
  refine Nat.le_trans ?_ hp
  calc r * (o % r) * 2 ^ (i + 1) = (2 * (o % r)) * r * 2 ^ i := by rw [Nat.pow_succ]; ac_rfl
    _ ≤ o * r * 2 ^ i := Nat.mul_le_mul_right _ (Nat.mul_le_mul_right _ (by omega))
theorem x_law_lowest (o u : Nat) (hu : 0 < u) (so : o < 2 ^ 4000) (su : u < 2 ^ 4000) (M : Store) : F__law_lowest [.p (.int o), .p (.int u)] M = .ok (.p (lowP o u)) M := by
  refine selfF_ok ?_ (Nat.le_refl _)
  obtain ⟨ρ', M', k1, k2⟩ := forL_inv (k := none) (g := gNm 2) (body := (rIfS (rTst asBool (rBin dGt (rVar 4) (rC (.p (.int 0)))))
  (rPar 3 4 (rCons (rVar 4) (rCons (rBin dMod (rCB cInt (rCons (rVar 3) rNil)) (rVar 4)) rNil)))
  rSkip)) (intsD 0 9000) (fun i ρ M' => M' = M ∧ ∃ (one other : Nat) (z : Option D), ρ = [some (.p (.int o)), some (.p (.int u)), z, some (.p (.int one)), some (.p (.int other))] ∧ ((i = 0 ∧ one = o ∧ other = u) ∨ (0 < one ∧ Nat.gcd one other = Nat.gcd o u ∧ other ≤ one ∧ one * other * 2 ^ (i - 1) ≤ o * u))) (fun _ _ _ _ => True.intro) (by
    rintro i d ρ M' hi ⟨rfl, one, other, z, rfl, hI⟩
    by_cases h0 : 0 < other
    · have e1 := v_mod (one : Int) other M' (by omega)
      refine ⟨_, _, _, _, rfl, .inl ?_, rfl, other, one % other, some d, rfl, .inr ⟨h0, ?_, ?_, ?_⟩⟩
      · simp [h0, e1]
      · rw [Nat.gcd_comm other, ← Nat.gcd_rec other one, Nat.gcd_comm]
        rcases hI with ⟨_, rfl, rfl⟩ | ⟨_, h, _⟩
        · rfl
        · exact h
      · exact Nat.le_of_lt (Nat.mod_lt _ h0)
      · rcases hI with ⟨rfl, rfl, rfl⟩ | ⟨_, _, h2, h3⟩
        · have := Nat.mul_le_mul_left other (Nat.mod_le one other)
          simpa [Nat.mul_comm] using this
        · cases i with
          | zero =>
            have := Nat.mul_le_mul_left other (Nat.mod_le one other)
            simp only [Nat.zero_sub, Nat.pow_zero, Nat.mul_one] at h3
            rw [Nat.mul_comm other one] at this
            simp only [Nat.zero_add, Nat.sub_self, Nat.pow_zero, Nat.mul_one]
            omega
          | succ i => exact euclid_step one other (o * u) i h2 h0 h3
    · have e0 : other = 0 := by omega
      subst e0
      refine ⟨_, _, _, _, rfl, .inl ?_, rfl, one, 0, some d, rfl, .inr ?_⟩
      · simp
      · rcases hI with ⟨_, _, h⟩ | ⟨h1, h2, h3, _⟩
        · omega
        · exact ⟨h1, h2, h3, by simp⟩) (ρ := [some (.p (.int o)), some (.p (.int u)), none, some (.p (.int o)), some (.p (.int u))]) (M := M) ⟨rfl, o, u, none, rfl, .inl ⟨rfl, rfl, rfl⟩⟩
  rw [intsD_len] at k2
  obtain ⟨rfl, one, other, z, rfl, hI⟩ := k2
  have hI2 : 0 < one ∧ Nat.gcd one other = Nat.gcd o u ∧ other ≤ one ∧ one * other * 2 ^ (9000 - 1) ≤ o * u := by
    rcases hI with ⟨h, _, _⟩ | h
    · cases h
    · exact h
  obtain ⟨h1, h2, h3, h4⟩ := hI2
  have h5 : other = 0 := by
    rcases Nat.eq_zero_or_pos other with e | e
    · exact e
    · exfalso
      have a1 : 1 ≤ one * other := Nat.mul_pos h1 e
      have a2 : 2 ^ (9000 - 1) ≤ one * other * 2 ^ (9000 - 1) := Nat.le_mul_of_pos_left _ a1
      have a3 : o * u < 2 ^ 4000 * 2 ^ 4000 := Nat.mul_lt_mul'' so su
      rw [← Nat.pow_add] at a3
      have a4 : (2 : Nat) ^ (4000 + 4000) ≤ 2 ^ (9000 - 1) := Nat.pow_le_pow_right (by decide) (by decide)
      exact absurd (Nat.lt_of_le_of_lt (Nat.le_trans a2 h4) a3) (Nat.not_lt.mpr a4)
  subst h5
  rw [Nat.gcd_zero_right] at h2
  have hd : divOk (one : Int) := Sm.divOk 8000 (by omega) (by decide) (by
    rw [Int.natAbs_natCast, h2]
    have : Nat.gcd o u ≤ u := Nat.le_of_dvd hu (Nat.gcd_dvd_right _ _)
    exact Nat.lt_of_le_of_lt this (Nat.lt_of_lt_of_le su (Nat.pow_le_pow_right (by decide) (by decide))))
  have e1 := v_div o _ M' hd
  have e2 := v_div u _ M' hd
  have r9 : rng1 [.p (.int 9000)] = some (0, 9000) := rng1_len 9000 (by decide)
  simp [m__law_lowest, r9, k1, e1, e2, lowP, ← h2]

def splP (n t : Int) : P := if t < 2 ∨ 2 * n < t then .non else if n < t then .tup [.int (max 1 (t - n)), .int (t - max 1 (t - n))] else .tup [.int (t / 2), .int (t - t / 2)]
-- slots: 0:n 1:total 2:first
noncomputable def m_best_split  : RS :=
  (rSeq (rExpr (rCallN 1 F_check_ports (rCons (rVar 0) rNil)))
  (rSeq (rIfS (rtNot (rTst truthD (rCallN 2 F_is_from (rCons (rVar 1) (rCons (rC (.p (.int 0))) rNil)))))
  (rRaise "BadNumber")
  rSkip)
  (rSeq (rIfS (rtOr (rTst asBool (rBin dLt (rVar 1) (rC (.p (.int 2))))) (rTst asBool (rBin dGt (rVar 1) (rBin dMul (rC (.p (.int 2))) (rVar 0)))))
  (rRet (rC (.p .non)))
  rSkip)
  (rSeq (rIfS (rTst asBool (rBin dGt (rVar 1) (rVar 0)))
  (rSet 2 (rCB cMax2 (rCons (rC (.p (.int 1))) (rCons (rBin dSub (rVar 1) (rVar 0)) rNil))))
  (rSet 2 (rBin dDiv (rVar 1) (rC (.p (.int 2))))))
  (rRet (rTup (rCons (rVar 2) (rCons (rBin dSub (rVar 1) (rVar 2)) rNil))))))))

noncomputable def F_best_split : List D → Store → R D := selfF 3 m_best_split
theorem r_best_split : Ref 2 3 F_best_split m_best_split := ref_self 2 3 m_best_split
theorem x_split (n t : Int) (M : Store) (h : 1 ≤ n ∧ n ≤ 2000) (ht : 0 ≤ t) : F_best_split [.p (.int n), .p (.int t)] M = .ok (.p (splP n t)) M := by
  refine selfF_ok ?_ (Nat.le_refl _)
  have e0 := x_ports (.int n) M
  rw [if_pos (by simp [between]; omega)] at e0
  have e1 := v_mul 2 n M (mul_small' (by decide) (by decide))
  have e2 := v_div t 2 M (div_small (by decide) (by decide))
  unfold splP
  by_cases h2 : t < 2
  · simp [m_best_split, e0, F_is_from, from_, ht, h2]
  by_cases h3 : 2 * n < t
  · simp [m_best_split, e0, F_is_from, from_, ht, h2, h3, e1]
  by_cases h4 : n < t
  · simp [m_best_split, e0, F_is_from, from_, ht, h2, h3, h4, e1]
  · simp [m_best_split, e0, F_is_from, from_, ht, h2, h3, h4, e1, e2]
def goodS (x t : P) : Bool := between x 1 2000 && from_ t 0
theorem x_split_bad (x t : P) (h : goodS x t = false) (M : Store) : F_best_split [.p x, .p t] M = .ex "BadNumber" none M := by
  cases hx : between x 1 2000 with
  | false => exact selfF_ex (by simp [m_best_split, x_ports, hx]) (Nat.le_refl _)
  | true =>
    cases hy : from_ t 0 with
    | false => exact selfF_ex (by simp [m_best_split, x_ports, F_is_from, hx, hy]) (Nat.le_refl _)
    | true => simp [goodS, hx, hy] at h

/-! ### counting, n up to 8: decided -/
def bitsum (n : Nat) (r : Int) : Int := ((List.range n).map fun k => Builtin.bitAnd (r / 2 ^ k) 1).sum
def rowsOf (n a : Nat) : List Int := ((List.range (2 ^ n)).map Int.ofNat).filter fun r => decide (bitsum n r = a)
def hits (b : Nat) (rs : List Int) : List Int := rs.filter fun r => decide (0 < Builtin.bitAnd r (2 ^ b - 1))
theorem rows_fact : ∀ n, n < 9 → ∀ a, a < n + 1 → (rowsOf n a).length = ch n a ∧ ∀ b, b < n + 1 → (hits b (rowsOf n a)).length = ch n a - ch (n - b) a := by decide +kernel
theorem bits_fact : ∀ n, n < 9 → ∀ r, r < 2 ^ n → bitsum n (r : Nat) < n + 1 ∧ 0 ≤ bitsum n (r : Nat) := by decide +kernel
/-- the chance's two numbers -/
def cX (n a b : Nat) : Nat := (ch n b - ch (n - a) b) / Nat.gcd (ch n b - ch (n - a) b) (ch n b)
def cY (n a b : Nat) : Nat := ch n b / Nat.gcd (ch n b - ch (n - a) b) (ch n b)
def stepS (n t : Nat) (best : Option Nat) (a : Nat) : Option Nat := if a + 1 ≤ t ∧ t ≤ n + a then (match best with
  | none => some a
  | some c => if cX n c (t - c) * cY n a (t - a) < cX n a (t - a) * cY n c (t - c) then some a else some c) else best
def bestS (n t : Nat) : Option Nat := ((List.range n).map (· + 1)).foldl (stepS n t) none
theorem split_fact : ∀ n, n < 9 → 1 ≤ n → ∀ t, t < 2 * n + 2 → bestS n t = if t < 2 ∨ 2 * n < t then none else if n < t then some (max 1 (t - n)) else some (t / 2) := by decide +kernel
theorem sym_fact : ∀ n, n < 9 → ∀ a, a < n + 1 → ∀ b, b < n + 1 → cX n a b = cX n b a ∧ cY n a b = cY n b a := by decide +kernel
theorem v_shl (i j : Int) (M : Store) (h : CPow i j) : dShl (.p (.int i)) (.p (.int j)) M = some (.p (.int (i * 2 ^ j.toNat)), M) := by simp [dShl, h]
theorem v_shr (i j : Int) (M : Store) (h : 0 ≤ j) : dShr (.p (.int i)) (.p (.int j)) M = some (.p (.int (i / 2 ^ j.toNat)), M) := by simp [dShr, h]
@[simp] theorem v_band (i j : Int) (M : Store) : dBAnd (.p (.int i)) (.p (.int j)) M = some (.p (.int (Builtin.bitAnd i j)), M) := (rfl)

-- slots: 0:n 1:rows 2:row 3:many 4:a 5:k
noncomputable def s__law_rows_1  : RS :=
  (rSet 3 (rCB cSum (rCons (rLC (wRng rng1 (rCons (rVar 0) rNil)) (gNm 5) rYes (rBin dBAnd (rBin dShr (rVar 2) (rVar 5)) (rC (.p (.int 1)))) [5]) rNil)))
noncomputable def s__law_rows_2  : RS :=
  (rAsg (rBin dAdd (rBin dIx (rVar 1) (rVar 3)) (rLst (rCons (rVar 2) rNil))) (gSu (rVar 1) (rVar 3) setD))
noncomputable def b__law_rows_3  : RS :=
  (rSeq s__law_rows_1
  s__law_rows_2)
noncomputable def s__law_rows_4  : RS :=
  (rSet 1 (rLC (wRng rng1 (rCons (rBin dAdd (rVar 0) (rC (.p (.int 1)))) rNil)) (gNm 4) rYes (rLst rNil) [4]))
noncomputable def s__law_rows_5  : RS :=
  (rForR rng1 (rCons (rBin dShl (rC (.p (.int 1))) (rVar 0)) rNil) (gNm 2)
  b__law_rows_3)
noncomputable def s__law_rows_6  : RS :=
  (rRet (rVar 1))
noncomputable def m__law_rows  : RS :=
  (rSeq s__law_rows_4
  (rSeq s__law_rows_5
  s__law_rows_6))

noncomputable def F__law_rows : List D → Store → R D := selfF 6 m__law_rows
theorem r__law_rows : Ref 1 6 F__law_rows m__law_rows := ref_self 1 6 m__law_rows
def rowsUp (n a i : Nat) : List Int := ((List.range i).map Int.ofNat).filter fun r => decide (bitsum n r = a)
theorem rowsUp_all (n a : Nat) : rowsUp n a (2 ^ n) = rowsOf n a := rfl
theorem rowsUp_succ (n a i : Nat) : rowsUp n a (i + 1) = rowsUp n a i ++ (if bitsum n (i : Nat) = a then [(i : Int)] else []) := by
  unfold rowsUp
  rw [List.range_succ, List.map_append, List.filter_append]
  congr 1
  by_cases h : bitsum n (i : Nat) = a
  · simp [h]
  · simp [h]
theorem rowsUp_len (n a i : Nat) : (rowsUp n a i).length ≤ i := by
  unfold rowsUp
  exact Nat.le_trans (List.length_filter_le _ _) (by simp)
def RowsAt (M M' : Store) (tb n i : Nat) : Prop := ∃ refs : List Nat, M <+: M' ∧ M'[tb]? = some (O.lst (refs.map D.ref)) ∧ refs.length = n + 1 ∧ ∀ a r : Nat, refs[a]? = some r → tb < r ∧ M'[r]? = some (O.lst (bagL (rowsUp n a i)))
theorem rows_turn (M M' : Store) (n i : Nat) (hn : n ≤ 8) (hi : i < 2 ^ n) (h : RowsAt M M' M.length n i) (z3 : Option D) :
    ∃ y3 M'', b__law_rows_3 [some (.p (.int n)), some (.ref M.length), some (.p (.int i)), z3, none, none] M' = .nx [some (.p (.int n)), some (.ref M.length), some (.p (.int i)), y3, none, none] M'' ∧ RowsAt M M'' M.length n (i + 1) := by
  obtain ⟨refs, p, h1, h2, h3⟩ := h
  have hb := bits_fact n (by omega) i hi
  obtain ⟨a, ha⟩ := Int.eq_ofNat_of_zero_le hb.2
  have ha2 : a < n + 1 := by omega
  have er : rng1 [.p (.int (n : Int))] = some (0, n) := rng1_len n (by omega)
  have h256 : i < 256 := Nat.lt_of_lt_of_le hi (Nat.pow_le_pow_right (by decide) hn)
  have key := lc_map (k := none) (g := gNm 5) (te := rBin dBAnd (rBin dShr (rVar 2) (rVar 5)) (rC (.p (.int 1)))) (ρ := [some (.p (.int n)), some (.ref M.length), some (.p (.int i)), z3, none, none])
    (fun d => match d with | .p (.int k) => .p (.int (Builtin.bitAnd ((i : Int) / 2 ^ k.toNat) 1)) | d => d) M' (fun _ => True.intro) (intsD 0 n) (by rw [intsD_len]; omega) (by
      intro x hx ys
      obtain ⟨j, hj, rfl⟩ := List.mem_map.mp hx
      have e2 := v_shr (i : Int) ((0 : Int) + (j : Int)) (M' ++ [.lst ys]) (by omega)
      exact ⟨_, rfl, by simp [e2, -Int.zero_add]⟩)
  have es : (intsD 0 n).map (fun d => match d with | .p (.int k) => .p (.int (Builtin.bitAnd ((i : Int) / 2 ^ k.toNat) 1)) | d => d) = (((List.range n).map fun k => Builtin.bitAnd ((i : Int) / 2 ^ k) 1).map fun z => D.p (.int z)) := by
    unfold intsD
    rw [List.map_map, List.map_map]
    apply List.map_congr_left
    intro k _
    simp
  rw [es] at key
  generalize hL : (((List.range n).map fun k => Builtin.bitAnd ((i : Int) / 2 ^ k) 1).map fun z => D.p (.int z)) = L at key
  have c1 : cSum [.ref M'.length] (M' ++ [.lst L]) = some (.p (.int a), M' ++ [.lst L]) := by
    unfold cSum
    simp only [get_new, ← hL, intsOf_map, Option.map_some]
    rw [show ((List.range n).map fun k => Builtin.bitAnd ((i : Int) / 2 ^ k) 1).sum = (a : Int) from ha]
  have hra : refs[a]? = some refs[a] := List.getElem?_eq_getElem (by omega)
  obtain ⟨h4, h5⟩ := h3 a _ hra
  have g1 : (M' ++ [O.lst L])[M.length]? = some (O.lst (refs.map D.ref)) := get_app h1 _
  have d1 := v_ix_l M.length (refs.map D.ref) a (.ref refs[a]) (M' ++ [.lst L]) g1 (by rw [List.getElem?_map, hra]; rfl)
  have g2 : (M' ++ [O.lst L] ++ [O.lst [.p (.int i)]])[refs[a]]? = some (O.lst (bagL (rowsUp n a i))) := get_app (get_app h5 _) _
  have hrl := rowsUp_len n a i
  have d2 := v_cat refs[a] (M' ++ [O.lst L]).length (bagL (rowsUp n a i)) [.p (.int i)] (M' ++ [O.lst L] ++ [O.lst [.p (.int i)]]) g2 (get_new _ _) (by rw [bagL_len]; exact le_line (by simp; omega))
  have e9 : (M' ++ [O.lst L]).length = M'.length + 1 := by simp
  rw [e9] at d2
  generalize hM3 : (M' ++ [O.lst L] ++ [O.lst [.p (.int i)]]) = M3 at d2 g2
  have g3 : (M3 ++ [O.lst (bagL (rowsUp n a i) ++ [.p (.int i)])])[M.length]? = some (O.lst (refs.map D.ref)) := get_app (by rw [← hM3]; exact get_app g1 _) _
  have d3 := v_set M.length (refs.map D.ref) a (.ref M3.length) _ g3 (by simp; omega)
  have hlt : M.length < M3.length := by rw [← hM3]; have := pfx_len p; simp; omega
  refine ⟨some (.p (.int a)), (M3 ++ [O.lst (bagL (rowsUp n a i) ++ [.p (.int i)])]).set M.length (.lst ((refs.map D.ref).set a (.ref M3.length))), ?_, refs.set a M3.length, pfx_set (pfx_app (by rw [← hM3]; exact pfx_app (pfx_app p _) _) _) (Nat.le_refl _) _, ?_, by simp [h2], ?_⟩
  · simp only [b__law_rows_3, s__law_rows_1, s__law_rows_2]
    simp [er, key, wipeE, c1, d1, hM3, d2, d3]
  · rw [get_set_same (by simp; omega)]
    simp [List.map_set]
  · intro b r hb2
    by_cases e : a = b
    · subst e
      rw [List.getElem?_set_self (by omega)] at hb2
      cases hb2
      refine ⟨hlt, ?_⟩
      rw [List.getElem?_set_ne (by omega), get_new, rowsUp_succ, if_pos ha]
      unfold bagL
      simp
    · rw [List.getElem?_set_ne e] at hb2
      obtain ⟨h6, h7⟩ := h3 b r hb2
      refine ⟨h6, ?_⟩
      rw [List.getElem?_set_ne (by omega), get_app (by rw [← hM3]; exact get_app (get_app h7 _) _) _, rowsUp_succ, if_neg (by omega)]
      simp
theorem x_rows (n : Nat) (h1 : 1 ≤ n) (hn : n ≤ 8) (M : Store) : ∃ (M' : Store) (refs : List Nat), F__law_rows [.p (.int n)] M = .ok (.ref M.length) M' ∧ M <+: M' ∧ M'[M.length]? = some (O.lst (refs.map D.ref)) ∧ refs.length = n + 1 ∧ ∀ a r : Nat, refs[a]? = some r → M.length < r ∧ M'[r]? = some (O.lst (bagL (rowsOf n a))) := by
  obtain ⟨M1, k1, refs, q1, q2, q3, q4⟩ := lcL_inv (l := M.length) (k := none) (g := gNm 4) (te := rLst rNil) (ρ := [some (.p (.int n)), none, none, none, none, none]) (intsD 0 (n + 1)) (fun i M' => ∃ refs : List Nat, refs.length = i ∧ M <+: M' ∧ M'[M.length]? = some (O.lst (refs.map D.ref)) ∧ ∀ r ∈ refs, M.length < r ∧ M'[r]? = some (O.lst [])) (fun _ _ _ => True.intro) (by
    rintro i x M' hx ⟨refs, e1, p, h1, h2⟩
    have hi := (List.getElem?_eq_some_iff.mp hx).1
    rw [intsD_len] at hi
    have hl := get_lt h1
    refine ⟨_, .ref M'.length, M' ++ [.lst []], refs.map D.ref, rfl, by simp, get_app h1 _, lt_line (by simp; omega), refs ++ [M'.length], by simp [e1], pfx_set (pfx_app p _) (Nat.le_refl _) _, by rw [get_set_same (by simp; omega)]; simp, ?_⟩
    intro r hr
    rcases List.mem_append.mp hr with hr | hr
    · obtain ⟨a1, a2⟩ := h2 r hr
      exact ⟨a1, by rw [List.getElem?_set_ne (by omega)]; exact get_app a2 _⟩
    · have e := List.mem_singleton.mp hr
      subst e
      exact ⟨hl, by rw [List.getElem?_set_ne (by omega)]; exact get_new _ _⟩) (M := M ++ [.lst []]) ⟨[], rfl, List.prefix_append _ _, get_new _ _, fun r hr => by cases hr⟩
  rw [intsD_len] at q1
  have er : rng1 [.p (.int ((n : Int) + 1))] = some (0, n + 1) := rng1_len (n + 1) (by omega)
  have hp : (1 : Nat) ≤ 2 ^ n ∧ 2 ^ n ≤ 256 := ⟨Nat.one_le_two_pow, Nat.pow_le_pow_right (n := 2) (by decide) hn⟩
  have es := v_shl 1 n M1 ⟨by omega, by omega, by decide⟩
  have e2 : (1 : Int) * 2 ^ (n : Int).toNat = ((2 ^ n : Nat) : Int) := by simp
  rw [e2] at es
  have er2 : rng1 [.p (.int ((2 ^ n : Nat) : Int))] = some (0, 2 ^ n) := rng1_len (2 ^ n) (by omega)
  obtain ⟨ρ', M', k2, z3, hρ, hR⟩ := forL_inv (k := none) (g := gNm 2) (body := b__law_rows_3) (intsD 0 (2 ^ n)) (fun i ρ M' => ∃ z2 z3, ρ = [some (.p (.int n)), some (.ref M.length), z2, z3, none, none] ∧ RowsAt M M' M.length n i) (fun _ _ _ _ => True.intro) (by
    rintro i d ρ M' hi ⟨z2, z3, rfl, hR⟩
    have hi2 := (List.getElem?_eq_some_iff.mp hi).1
    rw [intsD_len] at hi2
    rw [intsD_get _ _ _ hi2] at hi
    cases hi
    obtain ⟨y3, M'', e1, e2⟩ := rows_turn M M' n i hn hi2 hR z3
    refine ⟨_, _, _, _, rfl, .inl ?_, some (.p (.int i)), y3, rfl, e2⟩
    rw [Int.zero_add]
    exact e1) (ρ := [some (.p (.int n)), some (.ref M.length), none, none, none, none]) (M := M1) ⟨none, none, rfl, refs, q2, q3, q1, fun a r h => by
      obtain ⟨a1, a2⟩ := q4 r (List.mem_of_getElem? h)
      exact ⟨a1, a2⟩⟩
  rw [intsD_len] at hR
  obtain ⟨hρ, refs', p', r1, r2, r3⟩ := hR
  refine ⟨M', refs', selfF_ok ?_ (pfx_len p'), p', r1, r2, fun a r h => r3 a r h⟩
  subst hρ
  have er3 : rng1 [.p (.int ((2 : Int) ^ n))] = some (0, 2 ^ n) := by
    rw [← er2, Int.natCast_pow]
    rfl
  simp [m__law_rows, s__law_rows_4, s__law_rows_5, s__law_rows_6, er, k1, wipeE, es, er3, k2]
-- slots: 0:rows 1:b 2:tried 3:row
noncomputable def s__law_counted_1  : RS :=
  (rSet 2 (rBin dSub (rBin dShl (rC (.p (.int 1))) (rVar 1)) (rC (.p (.int 1)))))
noncomputable def s__law_counted_2  : RS :=
  (rRet (rCallN 2 F__law_lowest (rCons (rCB cLen (rCons (rLC (wRow (rVar 0)) (gNm 3) (rTst asBool (rBin dGt (rBin dBAnd (rVar 3) (rVar 2)) (rC (.p (.int 0))))) (rVar 3) [3]) rNil)) (rCons (rCB cLen (rCons (rVar 0) rNil)) rNil))))
noncomputable def m__law_counted  : RS :=
  (rSeq s__law_counted_1
  s__law_counted_2)

noncomputable def F__law_counted : List D → Store → R D := selfF 4 m__law_counted
theorem r__law_counted : Ref 2 4 F__law_counted m__law_counted := ref_self 2 4 m__law_counted
theorem x_counted (r b : Nat) (rs : List Int) (hb : b ≤ 8) (h0 : 0 < rs.length) (h1 : rs.length ≤ 1000) (M : Store) (hr : M[r]? = some (.lst (bagL rs))) :
    F__law_counted [.ref r, .p (.int b)] M = .ok (.p (lowP ((hits b rs).length : Nat) (rs.length : Nat))) (M ++ [.lst (bagL (hits b rs))]) := by
  have hrl : r < M.length := (List.getElem?_eq_some_iff.mp hr).1
  have e1 := v_shl 1 b M ⟨by omega, by omega, by decide⟩
  have hset : ∀ ys, (M ++ [O.lst []]).set M.length (.lst ys) = M ++ [.lst ys] := fun ys => by simp
  have key := lc_pure (l := M.length) (k := some (r, .lst (bagL rs))) (g := gNm 3) (tt := rTst asBool (rBin dGt (rBin dBAnd (rVar 3) (rVar 2)) (rC (.p (.int 0))))) (te := rVar 3) (ρ := [some (.ref r), some (.p (.int b)), some (.p (.int (2 ^ b - 1))), none])
    (fun d => match d with | .p (.int i) => decide (0 < Builtin.bitAnd i (2 ^ b - 1)) | _ => false) id (M ++ [.lst []]) (by simp) (fun ys => by rw [hset]; show (M ++ [O.lst ys])[r]? = _; rw [List.getElem?_append_left hrl]; exact hr) (bagL rs) [] (by rw [bagL_len]; unfold sizeLine; simp; omega) (by
      intro x hx ys
      obtain ⟨i, _, rfl⟩ := List.mem_map.mp hx
      rw [hset]
      exact ⟨_, rfl, by simp, by simp⟩)
  rw [hset, hset] at key
  have hf : ((bagL rs).filter (fun d => match d with | .p (.int i) => decide (0 < Builtin.bitAnd i (2 ^ b - 1)) | _ => false)).map id = bagL (hits b rs) := by
    rw [List.map_id]
    unfold bagL hits
    rw [List.filter_map]
    congr 1
  rw [hf, List.nil_append] at key
  have hl : (hits b rs).length ≤ rs.length := List.length_filter_le _ _
  have e2 := x_law_lowest (hits b rs).length rs.length h0 (Nat.lt_of_le_of_lt (by omega : (hits b rs).length ≤ 1000) (Nat.lt_of_lt_of_le (by decide : 1000 < 2 ^ 10) (Nat.pow_le_pow_right (by decide) (by decide)))) (Nat.lt_of_le_of_lt h1 (Nat.lt_of_lt_of_le (by decide : 1000 < 2 ^ 10) (Nat.pow_le_pow_right (by decide) (by decide)))) (M ++ [.lst (bagL (hits b rs))])
  refine selfF_ok ?_ (by simp)
  have hr2 : (M ++ [O.lst (bagL (hits b rs))])[r]? = some (.lst (bagL rs)) := by rw [List.getElem?_append_left hrl]; exact hr
  have c1 : cLen [.ref M.length] (M ++ [O.lst (bagL (hits b rs))]) = some (.p (.int ((hits b rs).length : Nat)), M ++ [O.lst (bagL (hits b rs))]) := by simp [cLen, lenD, bagL_len]
  have c2 : cLen [.ref r] (M ++ [O.lst (bagL (hits b rs))]) = some (.p (.int (rs.length : Nat)), M ++ [O.lst (bagL (hits b rs))]) := by simp [cLen, lenD, hr2, bagL_len]
  simp [m__law_counted, s__law_counted_1, s__law_counted_2, e1, walkD, hr, wipeE, key, c1, c2, e2]
-- slots: 0:chances 1:over 2:under 3:b
noncomputable def s__law_tries_1  : RS :=
  (rRet (rVar 3))
noncomputable def s__law_tries_2  : RS :=
  (rIfS (rTst asBool (rBin dLe (rBin dMul (rVar 1) (rBin dIx (rBin dIx (rVar 0) (rVar 3)) (rC (.p (.int 1))))) (rBin dMul (rVar 2) (rBin dIx (rBin dIx (rVar 0) (rVar 3)) (rC (.p (.int 0)))))))
  s__law_tries_1
  rSkip)
noncomputable def s__law_tries_3  : RS :=
  (rForR rng1 (rCons (rCB cLen (rCons (rVar 0) rNil)) rNil) (gNm 3)
  s__law_tries_2)
noncomputable def s__law_tries_4  : RS :=
  (rRet (rC (.p .non)))
noncomputable def m__law_tries  : RS :=
  (rSeq s__law_tries_3
  s__law_tries_4)

noncomputable def F__law_tries : List D → Store → R D := selfF 4 m__law_tries
theorem r__law_tries : Ref 3 4 F__law_tries m__law_tries := ref_self 3 4 m__law_tries
/-- the chances of a row of the table -/
def rowP (n a : Nat) : List P := (List.range (n + 1)).map fun b => chanceP n a b
theorem cross_le (o u : Int) (W X : Nat) (hW : 0 < W) (hX : X ≤ W) : (o * ((W / Nat.gcd (W - X) W : Nat) : Int) ≤ u * (((W - X) / Nat.gcd (W - X) W : Nat) : Int)) ↔ o * (W : Int) ≤ ((W : Int) - X) * u := by
  have g0 : 0 < Nat.gcd (W - X) W := Nat.gcd_pos_of_pos_right _ hW
  have d1 : (W - X) / Nat.gcd (W - X) W * Nat.gcd (W - X) W = W - X := Nat.div_mul_cancel (Nat.gcd_dvd_left _ _)
  have d2 : W / Nat.gcd (W - X) W * Nat.gcd (W - X) W = W := Nat.div_mul_cancel (Nat.gcd_dvd_right _ _)
  have e1 : (W : Int) = ((W / Nat.gcd (W - X) W : Nat) : Int) * (Nat.gcd (W - X) W : Nat) := by rw [← Int.natCast_mul, d2]
  have e2 : (W : Int) - X = (((W - X) / Nat.gcd (W - X) W : Nat) : Int) * (Nat.gcd (W - X) W : Nat) := by rw [← Int.natCast_mul, d1]; omega
  have hg : (0 : Int) < (Nat.gcd (W - X) W : Nat) := by omega
  constructor
  · intro h
    rw [e2]
    conv => lhs; rw [e1]
    have := Int.mul_le_mul_of_nonneg_right h (Int.le_of_lt hg)
    rw [← Int.mul_assoc, Int.mul_comm _ u, ← Int.mul_assoc]
    exact this
  · intro h
    rw [e2] at h
    conv at h => lhs; rw [e1]
    rw [← Int.mul_assoc, Int.mul_comm _ u, ← Int.mul_assoc] at h
    exact Int.le_of_mul_le_mul_right h hg
theorem chance_pair (n a b : Nat) : chanceP n a b = .tup [.int (cX n a b : Nat), .int (cY n a b : Nat)] := by
  have hm := ch_mono (n - a) n b (by omega)
  unfold chanceP cX cY lowP
  rw [← Int.natCast_sub hm, Int.natAbs_natCast, Int.natAbs_natCast, Int.natCast_ediv, Int.natCast_ediv]
theorem enough_pair (n a b : Nat) (hb : b ≤ n) (o u : Int) : enough n a b o u = decide (o * (cY n a b : Nat) ≤ u * (cX n a b : Nat)) := by
  unfold enough cX cY
  have := cross_le o u (ch n b) (ch (n - a) b) (ch_pos n b hb) (ch_mono (n - a) n b (by omega))
  exact (Bool.eq_iff_iff.mpr (by simp only [decide_eq_true_eq]; exact this.symm))
theorem cX_sm (n a b : Nat) (hn : n ≤ 2000) : Sm (cX n a b : Nat) := (ch_sm n b hn).le (by
  rw [Int.natAbs_natCast, Int.natAbs_natCast]
  unfold cX
  exact Nat.le_trans (Nat.div_le_self _ _) (Nat.sub_le _ _))
theorem cY_sm (n a b : Nat) (hn : n ≤ 2000) : Sm (cY n a b : Nat) := (ch_sm n b hn).le (by
  rw [Int.natAbs_natCast, Int.natAbs_natCast]
  unfold cY
  exact Nat.div_le_self _ _)
theorem ix2_0 (a b : P) (M : Store) : dIx (.p (.tup [a, b])) (.p (.int 0)) M = some (.p a, M) := by simp [atI, ixN]
theorem ix2_1 (a b : P) (M : Store) : dIx (.p (.tup [a, b])) (.p (.int 1)) M = some (.p b, M) := by simp [atI, ixN]
theorem x_tries (r n a : Nat) (o u : Int) (hn : n ≤ 8) (so : Sm o) (su : Sm u) (M : Store) (hr : M[r]? = some (.lst ((rowP n a).map D.p))) : F__law_tries [.ref r, .p (.int o), .p (.int u)] M = .ok (.p (leastP n a o u)) M := by
  refine selfF_ok ?_ (Nat.le_refl _)
  have hlen : ((rowP n a).map D.p).length = n + 1 := by simp [rowP]
  have hat : ∀ b, b ≤ n → atI ((rowP n a).map D.p) (b : Int) = some (.p (.tup [.int (cX n a b : Nat), .int (cY n a b : Nat)])) := fun b hb => by
    rw [atI_map, atI_nat (j := b) (v := chanceP n a b) (by simp [rowP, show b < n + 1 by omega]), chance_pair]
    rfl
  have key : (∃ b : Nat, leastP n a o u = .int b ∧ forL none (gNm 3) s__law_tries_2 (intsD 0 (n + 1)) [some (.ref r), some (.p (.int o)), some (.p (.int u)), none] M = .rt (.p (.int b)) M)
      ∨ (leastP n a o u = .non ∧ ∃ ρ', forL none (gNm 3) s__law_tries_2 (intsD 0 (n + 1)) [some (.ref r), some (.p (.int o)), some (.p (.int u)), none] M = .nx ρ' M) := by
    refine forL_find (k := none) (intsD 0 (n + 1)) (fun i ρ M' => M' = M ∧ (∃ z, ρ = [some (.ref r), some (.p (.int o)), some (.p (.int u)), z]) ∧ ∀ c, c < i → enough n a c o u = false)
      (fun out => (∃ b : Nat, leastP n a o u = .int b ∧ out = .rt (.p (.int b)) M) ∨ (leastP n a o u = .non ∧ ∃ ρ', out = .nx ρ' M)) (fun _ _ _ _ => True.intro) ?_ ?_ ⟨rfl, ⟨none, rfl⟩, fun c hc => absurd hc (by omega)⟩
    · rintro i d ρ M' hi ⟨rfl, ⟨z, rfl⟩, hall⟩
      have hi2 : i < n + 1 := by
        have := (List.getElem?_eq_some_iff.mp hi).1
        rwa [intsD_len] at this
      rw [intsD_get _ _ _ hi2] at hi
      cases hi
      refine ⟨_, _, rfl, ?_⟩
      rw [Int.zero_add]
      have m1 := v_mul o (cY n a i : Nat) M' (so.mulOk (cY_sm n a i (by omega)))
      have m2 := v_mul u (cX n a i : Nat) M' (su.mulOk (cX_sm n a i (by omega)))
      have he := enough_pair n a i (by omega) o u
      have hx : dIx (.ref r) (.p (.int i)) M' = some (.p (.tup [.int (cX n a i : Nat), .int (cY n a i : Nat)]), M') := by simp only [dIx, rowD, hr, hat i (by omega), Option.map_some]
      cases q : enough n a i o u with
      | true =>
        rw [q] at he
        have h1 : o * ((cY n a i : Nat) : Int) ≤ u * ((cX n a i : Nat) : Int) := by simpa using he.symm
        exact .inr (.inr (.inl ⟨.p (.int i), M', by simp [s__law_tries_2, s__law_tries_1, hx, ix2_0, ix2_1, m1, m2, h1, -v_ix_t], .inl ⟨i, leastP_at n a o u i (by omega) q hall, rfl⟩⟩))
      | false =>
        rw [q] at he
        have h1 : ¬ o * ((cY n a i : Nat) : Int) ≤ u * ((cX n a i : Nat) : Int) := by simpa using he.symm
        refine .inl ⟨[some (.ref r), some (.p (.int o)), some (.p (.int u)), some (.p (.int i))], M', .inl (by simp [s__law_tries_2, s__law_tries_1, hx, ix2_0, ix2_1, m1, m2, h1, -v_ix_t]), rfl, ⟨_, rfl⟩, fun c hc => ?_⟩
        by_cases e : c = i
        · subst e; exact q
        · exact hall c (by omega)
    · rintro ρ M' ⟨rfl, ⟨z, rfl⟩, hall⟩
      rw [intsD_len] at hall
      exact .inr ⟨leastP_none n a o u fun c hc => hall c (by omega), _, rfl⟩
  have er : rng1 [.p (.int ((n : Int) + 1))] = some (0, n + 1) := rng1_len (n + 1) (by omega)
  have c1 : cLen [.ref r] M = some (.p (.int ((n : Int) + 1)), M) := by simp [cLen, lenD, hr, hlen, -List.length_map]
  rcases key with ⟨b, h1, h2⟩ | ⟨h1, ρ', h2⟩
  · rw [h1]
    simp [m__law_tries, s__law_tries_3, s__law_tries_4, c1, er, h2]
  · rw [h1]
    simp [m__law_tries, s__law_tries_3, s__law_tries_4, c1, er, h2]
-- slots: 0:table 1:n 2:total 3:best 4:a 5:b 6:over 7:under
noncomputable def s__law_split_1  : RS :=
  (rSet 3 (rVar 4))
noncomputable def s__law_split_2  : RS :=
  (rAsg (rBin dIx (rBin dIx (rVar 0) (rVar 4)) (rVar 5)) (gTp 2 (gCo (gNm 6) (gCo (gNm 7) gNi))))
noncomputable def s__law_split_3  : RS :=
  (rIfS (rtOr (rTst asBool (rBin dIsN (rVar 3) (rC (.p .non)))) (rTst asBool (rBin dGt (rBin dMul (rVar 6) (rBin dIx (rBin dIx (rBin dIx (rVar 0) (rVar 3)) (rBin dSub (rVar 2) (rVar 3))) (rC (.p (.int 1))))) (rBin dMul (rBin dIx (rBin dIx (rBin dIx (rVar 0) (rVar 3)) (rBin dSub (rVar 2) (rVar 3))) (rC (.p (.int 0)))) (rVar 7)))))
  s__law_split_1
  rSkip)
noncomputable def b__law_split_4  : RS :=
  (rSeq s__law_split_2
  s__law_split_3)
noncomputable def s__law_split_5  : RS :=
  (rSet 5 (rBin dSub (rVar 2) (rVar 4)))
noncomputable def s__law_split_6  : RS :=
  (rIfS (rtAnd (rTst asBool (rBin dGe (rVar 5) (rC (.p (.int 1))))) (rTst asBool (rBin dLe (rVar 5) (rVar 1))))
  b__law_split_4
  rSkip)
noncomputable def b__law_split_7  : RS :=
  (rSeq s__law_split_5
  s__law_split_6)
noncomputable def s__law_split_8  : RS :=
  (rSet 3 (rC (.p .non)))
noncomputable def s__law_split_9  : RS :=
  (rForR rng2 (rCons (rC (.p (.int 1))) (rCons (rBin dAdd (rVar 1) (rC (.p (.int 1)))) rNil)) (gNm 4)
  b__law_split_7)
noncomputable def s__law_split_10  : RS :=
  (rRet (rIf (rTst asBool (rBin dIsN (rVar 3) (rC (.p .non)))) (rC (.p .non)) (rTup (rCons (rVar 3) (rCons (rBin dSub (rVar 2) (rVar 3)) rNil)))))
noncomputable def m__law_split  : RS :=
  (rSeq s__law_split_8
  (rSeq s__law_split_9
  s__law_split_10))

noncomputable def F__law_split : List D → Store → R D := selfF 8 m__law_split
theorem r__law_split : Ref 3 8 F__law_split m__law_split := ref_self 3 8 m__law_split
/-- the table: a row of chances for each number of ports that are opened -/
def TabAt (M : Store) (tb n : Nat) : Prop := ∃ refs : List Nat, M[tb]? = some (O.lst (refs.map D.ref)) ∧ refs.length = n + 1 ∧ ∀ a r : Nat, refs[a]? = some r → M[r]? = some (O.lst ((rowP n a).map D.p))
theorem TabAt.row {M : Store} {tb n : Nat} (h : TabAt M tb n) (a : Nat) (ha : a ≤ n) : ∃ r, dIx (.ref tb) (.p (.int a)) M = some (.ref r, M) ∧ M[r]? = some (.lst ((rowP n a).map D.p)) ∧ ∀ b, b ≤ n → dIx (.ref r) (.p (.int b)) M = some (.p (.tup [.int (cX n a b : Nat), .int (cY n a b : Nat)]), M) := by
  obtain ⟨refs, h1, h2, h3⟩ := h
  have hl : a < refs.length := by omega
  have hr := h3 a refs[a] (List.getElem?_eq_getElem hl)
  refine ⟨refs[a], ?_, hr, fun b hb => ?_⟩
  · have e : atI (refs.map D.ref) (a : Int) = some (.ref refs[a]) := by
      rw [atI_map, atI_nat (List.getElem?_eq_getElem hl)]
      rfl
    simp only [dIx, rowD, h1, e, Option.map_some]
  · have e : atI ((rowP n a).map D.p) (b : Int) = some (.p (.tup [.int (cX n a b : Nat), .int (cY n a b : Nat)])) := by
      rw [atI_map, atI_nat (j := b) (v := chanceP n a b) (by simp [rowP, show b < n + 1 by omega]), chance_pair]
      rfl
    simp only [dIx, rowD, hr, e, Option.map_some]
def bestD : Option Nat → D
  | none => .p .non
  | some c => .p (.int c)
theorem split_turn (M : Store) (tb n t a : Nat) (hn : n ≤ 8) (hT : TabAt M tb n) (ha1 : 1 ≤ a) (ha : a ≤ n) (o : Option Nat) (ho : ∀ c, o = some c → c + 1 ≤ t ∧ t ≤ n + c ∧ c ≤ n) (z5 z6 z7 : Option D) :
    ∃ y5 y6 y7, b__law_split_7 [some (.ref tb), some (.p (.int n)), some (.p (.int t)), some (bestD o), some (.p (.int a)), z5, z6, z7] M = .nx [some (.ref tb), some (.p (.int n)), some (.p (.int t)), some (bestD (stepS n t o a)), some (.p (.int a)), y5, y6, y7] M := by
  unfold stepS
  by_cases hc : a + 1 ≤ t ∧ t ≤ n + a
  · rw [if_pos hc]
    have hb : (t : Int) - a = ((t - a : Nat) : Int) := by omega
    have g1 : (1 : Int) ≤ ((t - a : Nat) : Int) := by omega
    have g2 : ((t - a : Nat) : Int) ≤ n := by omega
    obtain ⟨r, d1, _, d2⟩ := hT.row a ha
    have d2 := d2 (t - a) (by omega)
    refine ⟨some (.p (.int (t - a : Nat))), some (.p (.int (cX n a (t - a) : Nat))), some (.p (.int (cY n a (t - a) : Nat))), ?_⟩
    cases o with
    | none => simp [b__law_split_7, s__law_split_5, s__law_split_6, b__law_split_4, s__law_split_2, s__law_split_3, s__law_split_1, bestD, hb, g1, g2, d1, d2]
    | some c =>
      obtain ⟨hc1, hc2, hc3⟩ := ho c rfl
      obtain ⟨r', e1, _, e2⟩ := hT.row c hc3
      have e2 := e2 (t - c) (by omega)
      have hb' : (t : Int) - c = ((t - c : Nat) : Int) := by omega
      have m1 := v_mul (cX n a (t - a) : Nat) (cY n c (t - c) : Nat) M ((cX_sm n a (t - a) (by omega)).mulOk (cY_sm n c (t - c) (by omega)))
      have m2 := v_mul (cX n c (t - c) : Nat) (cY n a (t - a) : Nat) M ((cX_sm n c (t - c) (by omega)).mulOk (cY_sm n a (t - a) (by omega)))
      have hlt : ((cX n c (t - c) : Int) * (cY n a (t - a) : Int) < (cX n a (t - a) : Int) * (cY n c (t - c) : Int)) ↔ cX n c (t - c) * cY n a (t - a) < cX n a (t - a) * cY n c (t - c) := by
        rw [← Int.natCast_mul, ← Int.natCast_mul]
        exact Int.ofNat_lt
      by_cases hq : cX n c (t - c) * cY n a (t - a) < cX n a (t - a) * cY n c (t - c)
      · have hq2 := hlt.mpr hq
        simp [b__law_split_7, s__law_split_5, s__law_split_6, b__law_split_4, s__law_split_2, s__law_split_3, s__law_split_1, bestD, hb, hb', g1, g2, d1, d2, e1, e2, ix2_0, ix2_1, m1, m2, hq, hq2, -v_ix_t]
      · have hq2 : ¬ ((cX n c (t - c) : Int) * (cY n a (t - a) : Int) < (cX n a (t - a) : Int) * (cY n c (t - c) : Int)) := fun h => hq (hlt.mp h)
        simp [b__law_split_7, s__law_split_5, s__law_split_6, b__law_split_4, s__law_split_2, s__law_split_3, s__law_split_1, bestD, hb, hb', g1, g2, d1, d2, e1, e2, ix2_0, ix2_1, m1, m2, hq, hq2, -v_ix_t]
  · rw [if_neg hc]
    refine ⟨some (.p (.int ((t : Int) - a))), z6, z7, ?_⟩
    by_cases h1 : (1 : Int) ≤ (t : Int) - a
    · have h2 : ¬ (t : Int) - a ≤ n := by omega
      simp [b__law_split_7, s__law_split_5, s__law_split_6, h1, h2]
    · simp [b__law_split_7, s__law_split_5, s__law_split_6, h1]
theorem best_ok (n t : Nat) : ∀ (as : List Nat) (o : Option Nat), (∀ a ∈ as, a ≤ n) → (∀ c, o = some c → c + 1 ≤ t ∧ t ≤ n + c ∧ c ≤ n) → ∀ c, as.foldl (stepS n t) o = some c → c + 1 ≤ t ∧ t ≤ n + c ∧ c ≤ n
  | [], o, _, ho, c, h => ho c h
  | a :: as, o, ha, ho, c, h => by
    refine best_ok n t as (stepS n t o a) (fun b hb => ha b (List.mem_cons_of_mem _ hb)) (fun c hc => ?_) c h
    have ha0 := ha a List.mem_cons_self
    unfold stepS at hc
    split at hc
    · rename_i hq
      split at hc
      · cases hc
        exact ⟨hq.1, hq.2, ha0⟩
      · split at hc
        · cases hc
          exact ⟨hq.1, hq.2, ha0⟩
        · exact ho c hc
    · exact ho c hc
theorem x_law_split (M : Store) (tb n t : Nat) (hn : n ≤ 8) (h1 : 1 ≤ n) (ht : t < 2 * n + 2) (hT : TabAt M tb n) : F__law_split [.ref tb, .p (.int n), .p (.int t)] M = .ok (.p (splP n t)) M := by
  refine selfF_ok ?_ (Nat.le_refl _)
  obtain ⟨ρ', M', k1, k2⟩ := forL_inv (k := none) (g := gNm 4) (body := b__law_split_7) (intsD 1 n) (fun i ρ M' => M' = M ∧ ∃ z4 z5 z6 z7, ρ = [some (.ref tb), some (.p (.int n)), some (.p (.int t)), some (bestD (((List.range i).map (· + 1)).foldl (stepS n t) none)), z4, z5, z6, z7]) (fun _ _ _ _ => True.intro) (by
    rintro i d ρ M' hi ⟨rfl, z4, z5, z6, z7, rfl⟩
    have hi2 : i < n := by
      have := (List.getElem?_eq_some_iff.mp hi).1
      rwa [intsD_len] at this
    rw [intsD_get _ _ _ hi2] at hi
    cases hi
    obtain ⟨y5, y6, y7, h⟩ := split_turn M' tb n t (i + 1) hn hT (by omega) (by omega) (((List.range i).map (· + 1)).foldl (stepS n t) none) (best_ok n t _ none (fun a ha => by
      obtain ⟨b, hb, rfl⟩ := List.mem_map.mp ha
      have := List.mem_range.mp hb
      show b + 1 ≤ n
      omega) (fun c hc => by cases hc)) z5 z6 z7
    have e1 : (1 : Int) + (i : Int) = ((i + 1 : Nat) : Int) := by omega
    refine ⟨_, _, _, _, rfl, .inl ?_, rfl, some (.p (.int (i + 1 : Nat))), y5, y6, y7, rfl⟩
    rw [List.range_succ, List.map_append, List.foldl_append]
    rw [e1]
    exact h) (ρ := [some (.ref tb), some (.p (.int n)), some (.p (.int t)), some (.p .non), none, none, none, none]) (M := M) ⟨rfl, none, none, none, none, rfl⟩
  rw [intsD_len] at k2
  obtain ⟨rfl, z4, z5, z6, z7, rfl⟩ := k2
  have er : rng2 [.p (.int 1), .p (.int ((n : Int) + 1))] = some (1, n) := by
    have h := rng2_ok 1 ((n : Int) + 1) (by omega) (by omega) (by omega) (by omega)
    have e : ((n : Int) + 1 - 1).toNat = n := by omega
    rw [e] at h
    exact h
  have hs := split_fact n (by omega) h1 t ht
  unfold bestS at hs
  rw [hs] at k1
  have hspl : splP n t = match (if t < 2 ∨ 2 * n < t then none else if n < t then some (max 1 (t - n)) else some (t / 2) : Option Nat) with
    | none => .non
    | some c => .tup [.int c, .int ((t : Int) - c)] := by
    unfold splP
    by_cases h2 : t < 2 ∨ 2 * n < t
    · rw [if_pos (by omega), if_pos h2]
    · rw [if_neg (by omega), if_neg h2]
      by_cases h3 : n < t
      · rw [if_pos (by omega), if_pos h3]
        have e : max (1 : Int) ((t : Int) - n) = ((max 1 (t - n) : Nat) : Int) := by omega
        rw [e]
      · rw [if_neg (by omega), if_neg h3]
        have e : (t : Int) / 2 = ((t / 2 : Nat) : Int) := by omega
        rw [e]
  rw [hspl]
  generalize (if t < 2 ∨ 2 * n < t then none else if n < t then some (max 1 (t - n)) else some (t / 2) : Option Nat) = o at k1
  cases o with
  | none => simp [m__law_split, s__law_split_8, s__law_split_9, s__law_split_10, er, k1, bestD]
  | some c => simp [m__law_split, s__law_split_8, s__law_split_9, s__law_split_10, er, k1, bestD]
-- slots: 0:script 1:bag 2:n 3:table 4:rows 5:a 6:total 7:b 8:over 9:under 10:more 11:due 12:k
noncomputable def s__law_whole_1  : RS :=
  (rExpr (rLM mAppend (rVar 3) (rCons (rLC (wRng rng1 (rCons (rBin dAdd (rVar 2) (rC (.p (.int 1)))) rNil)) (gNm 7) rYes (rCallN 2 F__law_counted (rCons (rVar 4) (rCons (rVar 7) rNil))) [7]) rNil)))
noncomputable def s__law_whole_2  : RS :=
  (rRet (rC (.p (.bl false))))
noncomputable def s__law_whole_3  : RS :=
  (rIfS (rtOr (rtNot (rTst truthD (rCallN 2 (Fp_same 9) (rCons (rCallN 3 F_chance (rCons (rVar 2) (rCons (rVar 5) (rCons (rVar 7) rNil)))) (rCons (rBin dIx (rBin dIx (rVar 3) (rVar 5)) (rVar 7)) rNil))))) (rTst asBool (rBin dNe (rBin dIx (rBin dIx (rVar 3) (rVar 5)) (rVar 7)) (rBin dIx (rBin dIx (rVar 3) (rVar 7)) (rVar 5)))))
  s__law_whole_2
  rSkip)
noncomputable def s__law_whole_4  : RS :=
  (rForR rng1 (rCons (rBin dAdd (rVar 2) (rC (.p (.int 1)))) rNil) (gNm 7)
  s__law_whole_3)
noncomputable def s__law_whole_5  : RS :=
  (rRet (rC (.p (.bl false))))
noncomputable def s__law_whole_6  : RS :=
  (rSet 11 (rCallN 3 F__law_tries (rCons (rBin dIx (rVar 3) (rVar 5)) (rCons (rBin dAdd (rBin dMul (rVar 8) (rC (.p (.int 50)))) (rVar 10)) (rCons (rBin dMul (rVar 9) (rC (.p (.int 50)))) rNil)))))
noncomputable def s__law_whole_7  : RS :=
  (rIfS (rtNot (rTst truthD (rCallN 2 (Fp_same 9) (rCons (rCallN 4 F_least_tries (rCons (rVar 2) (rCons (rVar 5) (rCons (rBin dAdd (rBin dMul (rVar 8) (rC (.p (.int 50)))) (rVar 10)) (rCons (rBin dMul (rVar 9) (rC (.p (.int 50)))) rNil))))) (rCons (rVar 11) rNil)))))
  s__law_whole_5
  rSkip)
noncomputable def b__law_whole_8  : RS :=
  (rSeq s__law_whole_6
  s__law_whole_7)
noncomputable def s__law_whole_9  : RS :=
  (rFor (rTup (rCons (rC (.p (.int 0))) (rCons (rC (.p (.int 1))) rNil))) (gNm 10)
  b__law_whole_8)
noncomputable def s__law_whole_10  : RS :=
  (rRet (rC (.p (.bl false))))
noncomputable def s__law_whole_11  : RS :=
  (rIfS (rtNot (rTst truthD (rCallN 2 (Fp_same 9) (rCons (rCallN 2 F_best_split (rCons (rVar 2) (rCons (rVar 6) rNil))) (rCons (rCallN 3 F__law_split (rCons (rVar 3) (rCons (rVar 2) (rCons (rVar 6) rNil)))) rNil)))))
  s__law_whole_10
  rSkip)
noncomputable def s__law_whole_12  : RS :=
  (rSet 1 (rCallN 1 F__law_bag (rCons (rVar 0) rNil)))
noncomputable def s__law_whole_13  : RS :=
  (rSet 2 (rBin dAdd (rC (.p (.int 1))) (rCallN 2 F__law_next (rCons (rVar 1) (rCons (rC (.p (.int 8))) rNil)))))
noncomputable def s__law_whole_14  : RS :=
  (rSet 3 (rLst rNil))
noncomputable def s__law_whole_15  : RS :=
  (rFor (rCallN 1 F__law_rows (rCons (rVar 2) rNil)) (gNm 4)
  s__law_whole_1)
noncomputable def s__law_whole_16  : RS :=
  (rForR rng1 (rCons (rBin dAdd (rVar 2) (rC (.p (.int 1)))) rNil) (gNm 5)
  s__law_whole_4)
noncomputable def s__law_whole_17  : RS :=
  (rSet 5 (rCallN 2 F__law_next (rCons (rVar 1) (rCons (rBin dAdd (rVar 2) (rC (.p (.int 1)))) rNil))))
noncomputable def s__law_whole_18  : RS :=
  (rFor (rBin dAdd (rBin dIx (rVar 3) (rVar 5)) (rLC (wRng rng1 (rCons (rC (.p (.int 3))) rNil)) (gNm 12) rYes (rTup (rCons (rCallN 2 F__law_next (rCons (rVar 1) (rCons (rC (.p (.int 60))) rNil))) (rCons (rBin dAdd (rC (.p (.int 1))) (rCallN 2 F__law_next (rCons (rVar 1) (rCons (rC (.p (.int 60))) rNil)))) rNil))) [12])) (gTp 2 (gCo (gNm 8) (gCo (gNm 9) gNi)))
  s__law_whole_9)
noncomputable def s__law_whole_19  : RS :=
  (rForR rng1 (rCons (rBin dAdd (rBin dMul (rC (.p (.int 2))) (rVar 2)) (rC (.p (.int 2)))) rNil) (gNm 6)
  s__law_whole_11)
noncomputable def s__law_whole_20  : RS :=
  (rRet (rC (.p (.bl true))))
noncomputable def m__law_whole  : RS :=
  (rSeq s__law_whole_12
  (rSeq s__law_whole_13
  (rSeq s__law_whole_14
  (rSeq s__law_whole_15
  (rSeq s__law_whole_16
  (rSeq s__law_whole_17
  (rSeq s__law_whole_18
  (rSeq s__law_whole_19
  s__law_whole_20))))))))

noncomputable def F__law_whole : List D → Store → R D := selfF 13 m__law_whole
theorem r__law_whole : Ref 1 13 F__law_whole m__law_whole := ref_self 1 13 m__law_whole
theorem chance_fit (n a b : Nat) : (chanceP n a b).depth ≤ 8 ∧ fitP (chanceP n a b) = true := by
  simp [chanceP, lowP, P.depth, P.depths, fitP, fitPs]
theorem least_fit (n a : Nat) (o u : Int) : (leastP n a o u).depth ≤ 8 ∧ fitP (leastP n a o u) = true := by
  unfold leastP; split <;> simp [P.depth, fitP]
theorem sm_small (i : Int) (h0 : 0 ≤ i) (h : i < 1000000) : Sm i := ⟨20, by decide, by
  have : (2 : Nat) ^ 20 = 1048576 := by decide
  omega⟩
theorem cX_small : ∀ n, n < 9 → ∀ a, a < n + 1 → ∀ b, b < n + 1 → cX n a b ≤ 256 ∧ cY n a b ≤ 256 ∧ 1 ≤ cY n a b := by decide +kernel
theorem chance_sym8 (n a b : Nat) (hn : n ≤ 8) (ha : a ≤ n) (hb : b ≤ n) : chanceP n b a = chanceP n a b := by
  obtain ⟨h1, h2⟩ := sym_fact n (by omega) a (by omega) b (by omega)
  rw [chance_pair, chance_pair, h1, h2]
theorem We_pfx {s old ns : List Int} {ext M' : Store} (p : We s old ns ext <+: M') : ∃ ext', M' = We s old ns ext' := by
  obtain ⟨t, rfl⟩ := p
  exact ⟨ext ++ t, rfl⟩
theorem pair_ne (n a b : Nat) (M : Store) : dNe (.p (chanceP n a b)) (.p (chanceP n a b)) M = some (.p (.bl false), M) := by
  rw [chance_pair]
  simp [dNe, dOk, P.depth, P.depths, P.eqv_refl]
/-- the table's turn -/
theorem table_turn (s old ns : List Int) (n a r0 : Nat) (h1 : 1 ≤ n) (hn : n ≤ 8) (ha : a ≤ n) (ext : Store) (refs2 : List Nat) (hl2 : refs2.length = a) (ht : (We s old ns ext)[3]? = some (.lst (refs2.map D.ref))) (hr : (We s old ns ext)[r0]? = some (.lst (bagL (rowsOf n a)))) (hr0 : 3 < r0)
    (z5 z6 z7 z8 z9 z10 z11 z12 : Option D) : ∃ ext' r', (3 < r' ∧ s__law_whole_1 [some (.ref 0), some (.ref 2), some (.p (.int n)), some (.ref 3), some (.ref r0), z5, z6, z7, z8, z9, z10, z11, z12] (We s old ns ext) = .nx [some (.ref 0), some (.ref 2), some (.p (.int n)), some (.ref 3), some (.ref r0), z5, z6, z7, z8, z9, z10, z11, z12] (We s old ns ext')) ∧
      (We s old ns ext')[3]? = some (.lst ((refs2 ++ [r']).map D.ref)) ∧ (We s old ns ext')[r']? = some (.lst ((rowP n a).map D.p)) ∧ ∀ l o, l ≠ 3 → (We s old ns ext)[l]? = some o → (We s old ns ext')[l]? = some o := by
  obtain ⟨hf1, hf2⟩ := rows_fact n (by omega) a (by omega)
  generalize hM : We s old ns ext = M at ht hr
  have hlt := get_lt hr
  have hcp := ch_pos n a ha
  have hr256 : (rowsOf n a).length ≤ 256 := by
    have h := rowsUp_len n a (2 ^ n)
    rw [rowsUp_all] at h
    exact Nat.le_trans h (Nat.pow_le_pow_right (n := 2) (by decide) hn)
  obtain ⟨M1, k1, p1, q1⟩ := lcL_inv (l := M.length) (k := none) (g := gNm 7) (te := rCallN 2 F__law_counted (rCons (rVar 4) (rCons (rVar 7) rNil))) (ρ := [some (.ref 0), some (.ref 2), some (.p (.int n)), some (.ref 3), some (.ref r0), z5, z6, none, z8, z9, z10, z11, z12]) (intsD 0 (n + 1)) (fun i M' => M <+: M' ∧ M'[M.length]? = some (O.lst ((List.range i).map fun b => D.p (chanceP n a b)))) (fun _ _ _ => True.intro) (by
    rintro i x M' hx ⟨p, h1⟩
    have hi := (List.getElem?_eq_some_iff.mp hx).1
    rw [intsD_len] at hi
    rw [intsD_get _ _ _ hi, Int.zero_add] at hx
    cases hx
    have c1 := x_counted r0 i (rowsOf n a) (by omega) (by omega) (by omega) M' (pfx_get p hr)
    have hc2 := hf2 i hi
    have e1 : lowP ((hits i (rowsOf n a)).length : Nat) ((rowsOf n a).length : Nat) = chanceP n a i := by
      rw [← chance_sym8 n a i hn ha (by omega)]
      have hm := ch_mono (n - i) n a (by omega)
      unfold chanceP
      rw [hc2, hf1]
      congr 1
      omega
    rw [e1] at c1
    have hl := get_lt h1
    refine ⟨_, _, _, _, rfl, by simp; exact c1, get_app h1 _, lt_line (by simp; omega), pfx_set (pfx_app p _) (Nat.le_refl _) _, ?_⟩
    rw [get_set_same (by simp; omega), List.range_succ]
    simp) (M := M ++ [.lst []]) ⟨List.prefix_append _ _, get_new _ _⟩
  rw [intsD_len] at q1
  have er : rng1 [.p (.int ((n : Int) + 1))] = some (0, n + 1) := rng1_len (n + 1) (by omega)
  have t1 : M1[3]? = some (.lst (refs2.map D.ref)) := pfx_get p1 ht
  have ap := v_append 3 (refs2.map D.ref) (.ref M.length) M1 t1 (lt_line (by simp; omega))
  have p1' := p1
  rw [← hM] at p1'
  obtain ⟨ext1, e1⟩ := We_pfx p1'
  refine ⟨ext1.set 0 (.lst (refs2.map D.ref ++ [.ref M.length])), M.length, ⟨by omega, ?_⟩, ?_, ?_, ?_⟩
  · simp only [s__law_whole_1]
    simp [er, wipeE, k1, ap, isLst_ref 3 _ M ht]
    rw [e1]
    rfl
  · have h3 := get_lt t1
    rw [e1] at h3
    show (ext1.set 0 _)[0]? = _
    rw [get_set_same (by simp at h3; omega)]
    simp
  · have h5 : (M1.set 3 (.lst (refs2.map D.ref ++ [.ref M.length])))[M.length]? = some (.lst ((rowP n a).map D.p)) := by
      rw [List.getElem?_set_ne (by omega), q1]
      simp [rowP]
    rw [e1] at h5
    exact h5
  · intro l o hl ho
    have h6 : (M1.set 3 (.lst (refs2.map D.ref ++ [.ref M.length])))[l]? = some o := by
      rw [List.getElem?_set_ne (by omega)]
      exact pfx_get p1 ho
    rw [e1] at h6
    exact h6
/-- one of the chances, both ways -/
theorem cell_turn (M : Store) (n a b : Nat) (h1 : 1 ≤ n) (hn : n ≤ 8) (ha : a ≤ n) (hb : b ≤ n) (hT : TabAt M 3 n) (z0 z1 z4 z6 z8 z9 z10 z11 z12 : Option D) :
    s__law_whole_3 [z0, z1, some (.p (.int n)), some (.ref 3), z4, some (.p (.int a)), z6, some (.p (.int b)), z8, z9, z10, z11, z12] M = .nx [z0, z1, some (.p (.int n)), some (.ref 3), z4, some (.p (.int a)), z6, some (.p (.int b)), z8, z9, z10, z11, z12] M := by
  have c1 := x_chance n a b h1 (by omega) ha hb M
  obtain ⟨r, d1, _, d2⟩ := hT.row a ha
  obtain ⟨r', d3, _, d4⟩ := hT.row b hb
  have d2 := d2 b hb
  have d4 := d4 a ha
  rw [← chance_pair] at d2 d4
  rw [chance_sym8 n a b hn ha hb] at d4
  have q4 := same_ok _ (chance_fit n a b).1 (chance_fit n a b).2 M
  simp [s__law_whole_3, c1, d1, d2, d3, d4, q4, pair_ne]
/-- one more, both ways -/
theorem more_turn (M : Store) (n a r : Nat) (o u m : Int) (h1 : 1 ≤ n) (hn : n ≤ 8) (ha : a ≤ n) (ho : 0 ≤ o ∧ o ≤ 300) (hu : 1 ≤ u ∧ u ≤ 300) (hm : m = 0 ∨ m = 1) (d1 : dIx (.ref 3) (.p (.int a)) M = some (.ref r, M)) (hr : M[r]? = some (.lst ((rowP n a).map D.p))) (z0 z1 z4 z6 z7 z11 z12 : Option D) :
    ∃ y11, b__law_whole_8 [z0, z1, some (.p (.int n)), some (.ref 3), z4, some (.p (.int a)), z6, z7, some (.p (.int o)), some (.p (.int u)), some (.p (.int m)), z11, z12] M = .nx [z0, z1, some (.p (.int n)), some (.ref 3), z4, some (.p (.int a)), z6, z7, some (.p (.int o)), some (.p (.int u)), some (.p (.int m)), y11, z12] M := by
  have m1 := v_mul o 50 M (mul_small (by decide) (by decide))
  have m2 := v_mul u 50 M (mul_small (by decide) (by decide))
  have so : Sm (o * 50 + m) := sm_small _ (by omega) (by omega)
  have su : Sm (u * 50) := sm_small _ (by omega) (by omega)
  have c1 := x_tries r n a (o * 50 + m) (u * 50) hn so su M hr
  have c2 := x_least n a (o * 50 + m) (u * 50) h1 (by omega) ha (by omega) (by omega) so su M
  have q4 := same_ok _ (least_fit n a (o * 50 + m) (u * 50)).1 (least_fit n a (o * 50 + m) (u * 50)).2 M
  exact ⟨some (.p (leastP n a (o * 50 + m) (u * 50))), by simp [b__law_whole_8, s__law_whole_6, s__law_whole_7, m1, m2, d1, c1, c2, q4]⟩
theorem spl_fit (n t : Int) : (splP n t).depth ≤ 8 ∧ fitP (splP n t) = true := by
  unfold splP
  split
  · simp [P.depth, fitP]
  · split <;> simp [P.depth, P.depths, fitP, fitPs]
theorem split_cell (M : Store) (n t : Nat) (h1 : 1 ≤ n) (hn : n ≤ 8) (ht : t < 2 * n + 2) (hT : TabAt M 3 n) (z0 z1 z4 z5 z7 z8 z9 z10 z11 z12 : Option D) :
    s__law_whole_11 [z0, z1, some (.p (.int n)), some (.ref 3), z4, z5, some (.p (.int t)), z7, z8, z9, z10, z11, z12] M = .nx [z0, z1, some (.p (.int n)), some (.ref 3), z4, z5, some (.p (.int t)), z7, z8, z9, z10, z11, z12] M := by
  have c1 := x_split n t M (by omega) (by omega)
  have c2 := x_law_split M 3 n t hn h1 ht hT
  have q4 := same_ok _ (spl_fit n t).1 (spl_fit n t).2 M
  simp [s__law_whole_11, c1, c2, q4]
def PairsAt (M : Store) (l : Nat) : Prop := ∃ ps : List (Int × Int), M[l]? = some (O.lst (ps.map fun q => D.p (.tup [.int q.1, .int q.2]))) ∧ ps.length ≤ 20 ∧ ∀ q ∈ ps, (0 ≤ q.1 ∧ q.1 ≤ 300) ∧ (1 ≤ q.2 ∧ q.2 ≤ 300)
theorem mores (M : Store) (n a r : Nat) (o u : Int) (h1 : 1 ≤ n) (hn : n ≤ 8) (ha : a ≤ n) (ho : 0 ≤ o ∧ o ≤ 300) (hu : 1 ≤ u ∧ u ≤ 300) (d1 : dIx (.ref 3) (.p (.int a)) M = some (.ref r, M)) (hr : M[r]? = some (.lst ((rowP n a).map D.p))) (z0 z1 z4 z6 z7 z10 z11 z12 : Option D) :
    ∃ y10 y11, s__law_whole_9 [z0, z1, some (.p (.int n)), some (.ref 3), z4, some (.p (.int a)), z6, z7, some (.p (.int o)), some (.p (.int u)), z10, z11, z12] M = .nx [z0, z1, some (.p (.int n)), some (.ref 3), z4, some (.p (.int a)), z6, z7, some (.p (.int o)), some (.p (.int u)), y10, y11, z12] M := by
  obtain ⟨ρ', M', k1, z10', z11', rfl, rfl⟩ := forL_inv (k := none) (g := gNm 10) (body := b__law_whole_8) [.p (.int 0), .p (.int 1)] (fun i ρ M' => ∃ z10 z11, ρ = [z0, z1, some (.p (.int n)), some (.ref 3), z4, some (.p (.int a)), z6, z7, some (.p (.int o)), some (.p (.int u)), z10, z11, z12] ∧ M' = M) (fun _ _ _ _ => True.intro) (by
    rintro i x ρ M' hi ⟨z10, z11, rfl, rfl⟩
    have hx : ∃ m : Int, x = .p (.int m) ∧ (m = 0 ∨ m = 1) := by
      match i, hi with
      | 0, hi => simp at hi; exact ⟨0, hi.symm, .inl rfl⟩
      | 1, hi => simp at hi; exact ⟨1, hi.symm, .inr rfl⟩
      | i + 2, hi => simp at hi
    obtain ⟨m, rfl, hm⟩ := hx
    obtain ⟨y11, e⟩ := more_turn M' n a r o u m h1 hn ha ho hu hm d1 hr z0 z1 z4 z6 z7 z11 z12
    exact ⟨_, _, _, _, rfl, .inl e, _, _, rfl, rfl⟩) (ρ := [z0, z1, some (.p (.int n)), some (.ref 3), z4, some (.p (.int a)), z6, z7, some (.p (.int o)), some (.p (.int u)), z10, z11, z12]) (M := M) ⟨_, _, rfl, rfl⟩
  exact ⟨z10', z11', by simp [s__law_whole_9, k1]⟩
theorem whole_ok (s : List Int) (hl : s.length ≤ 63) : ∃ M, F__law_whole [.ref 0] [.ro (bagL s)] = .ok (.p (.bl true)) M := by
  obtain ⟨old, ns, _, hb⟩ := bag_ok s hl
  obtain ⟨v, ns1, hv0, hv1, hv⟩ := nx_any s old ns [] 8 (by decide)
  obtain ⟨n, hn⟩ : ∃ n : Nat, 1 + v = n := ⟨(1 + v).toNat, by omega⟩
  have h1 : 1 ≤ n := by omega
  have hn8 : n ≤ 8 := by omega
  have er : rng1 [.p (.int ((n : Int) + 1))] = some (0, n + 1) := rng1_len (n + 1) (by omega)
  obtain ⟨M2, refs, x1, x2, x3, x4, x5⟩ := x_rows n h1 hn8 (We s old ns1 [.lst []])
  have e4 : (We s old ns1 [.lst []]).length = 4 := rfl
  rw [e4] at x1 x3
  obtain ⟨ext2, rfl⟩ := We_pfx x2
  -- the table
  obtain ⟨ρ3, M3, k3, refs3, ext3, t1, t2, t3, t4, z4, rfl, rfl⟩ := forL_inv (k := some (4, .lst (refs.map D.ref))) (g := gNm 4) (body := s__law_whole_1) (refs.map D.ref)
    (fun i ρ M => ∃ (refs2 : List Nat) (ext : Store), refs2.length = i ∧ (We s old ns1 ext)[3]? = some (.lst (refs2.map D.ref)) ∧ (∀ l o, l ≠ 3 → (We s old ns1 ext2)[l]? = some o → (We s old ns1 ext)[l]? = some o) ∧ (∀ a r : Nat, refs2[a]? = some r → 3 < r ∧ (We s old ns1 ext)[r]? = some (.lst ((rowP n a).map D.p))) ∧
      ∃ z4, ρ = [some (.ref 0), some (.ref 2), some (.p (.int n)), some (.ref 3), z4, none, none, none, none, none, none, none, none] ∧ M = We s old ns1 ext)
    (by
      rintro i ρ M ⟨refs2, ext, _, _, h, _, _, _, rfl⟩
      exact h 4 _ (by decide) x3) (by
      rintro i x ρ M hi ⟨refs2, ext, a1, a2, a3, a4, z4, rfl, rfl⟩
      have hlt := (List.getElem?_eq_some_iff.mp hi).1
      rw [List.length_map] at hlt
      rw [List.getElem?_map, List.getElem?_eq_getElem hlt] at hi
      cases hi
      obtain ⟨b1, b2⟩ := x5 i _ (List.getElem?_eq_getElem hlt)
      rw [e4] at b1
      obtain ⟨ext', r', ⟨c0, c1⟩, c2, c3, c4⟩ := table_turn s old ns1 n i refs[i] h1 hn8 (by omega) ext refs2 a1 a2 (a3 _ _ (by omega) b2) (by omega) none none none none none none none none
      refine ⟨_, _, _, _, rfl, .inl c1, refs2 ++ [r'], ext', by simp [a1], c2, fun l o q1 q2 => c4 l o q1 (a3 l o q1 q2), ?_, _, rfl, rfl⟩
      intro a r har
      by_cases ha : a < refs2.length
      · rw [List.getElem?_append_left ha] at har
        obtain ⟨d1, d2⟩ := a4 a r har
        exact ⟨d1, c4 _ _ (by omega) d2⟩
      · have hb := (List.getElem?_eq_some_iff.mp har).1
        have ea : a = refs2.length := by simp at hb; omega
        subst ea
        simp at har
        subst har
        rw [a1]
        exact ⟨c0, c3⟩) (ρ := [some (.ref 0), some (.ref 2), some (.p (.int n)), some (.ref 3), none, none, none, none, none, none, none, none, none]) (M := We s old ns1 ext2)
    ⟨[], ext2, rfl, pfx_get x2 (by rfl), fun l o _ h => h, fun a r h => by simp at h, none, rfl, rfl⟩
  rw [List.length_map, x4] at t1
  have hT : TabAt (We s old ns1 ext3) 3 n := ⟨refs3, t2, t1, fun a r h => (t4 a r h).2⟩
  -- all chances
  obtain ⟨ρ4, M4, k4, z5, z7, rfl, rfl⟩ := forL_inv (k := none) (g := gNm 5) (body := s__law_whole_4) (intsD 0 (n + 1))
    (fun i ρ M => ∃ z5 z7, ρ = [some (.ref 0), some (.ref 2), some (.p (.int n)), some (.ref 3), z4, z5, none, z7, none, none, none, none, none] ∧ M = We s old ns1 ext3) (fun _ _ _ _ => True.intro) (by
      rintro i x ρ M hi ⟨z5, z7, rfl, rfl⟩
      have hlt := (List.getElem?_eq_some_iff.mp hi).1
      rw [intsD_len] at hlt
      rw [intsD_get _ _ _ hlt, Int.zero_add] at hi
      cases hi
      obtain ⟨ρ', M', k, y7, rfl, rfl⟩ := forL_inv (k := none) (g := gNm 7) (body := s__law_whole_3) (intsD 0 (n + 1))
        (fun j ρ M => ∃ z7, ρ = [some (.ref 0), some (.ref 2), some (.p (.int n)), some (.ref 3), z4, some (.p (.int i)), none, z7, none, none, none, none, none] ∧ M = We s old ns1 ext3) (fun _ _ _ _ => True.intro) (by
          rintro j x ρ M hi ⟨z7, rfl, rfl⟩
          have hlt2 := (List.getElem?_eq_some_iff.mp hi).1
          rw [intsD_len] at hlt2
          rw [intsD_get _ _ _ hlt2, Int.zero_add] at hi
          cases hi
          exact ⟨_, _, _, _, rfl, .inl (cell_turn _ n i j h1 hn8 (by omega) (by omega) hT _ _ _ _ _ _ _ _ _), _, rfl, rfl⟩) (ρ := [some (.ref 0), some (.ref 2), some (.p (.int n)), some (.ref 3), z4, some (.p (.int i)), none, z7, none, none, none, none, none]) (M := We s old ns1 ext3) ⟨_, rfl, rfl⟩
      refine ⟨_, _, _, _, rfl, .inl (?_ : _ = Out.nx [some (.ref 0), some (.ref 2), some (.p (.int n)), some (.ref 3), z4, some (.p (.int i)), none, y7, none, none, none, none, none] (We s old ns1 ext3)), some (.p (.int i)), y7, rfl, rfl⟩
      simp [s__law_whole_4, er, k]) (ρ := [some (.ref 0), some (.ref 2), some (.p (.int n)), some (.ref 3), z4, none, none, none, none, none, none, none, none]) (M := We s old ns1 ext3) ⟨_, _, rfl, rfl⟩
  -- the draws
  obtain ⟨w, ns5, hw0, hw1, hw⟩ := nx_any s old ns1 ext3 ((n : Int) + 1) (by omega)
  obtain ⟨a, rfl⟩ : ∃ a : Nat, w = a := ⟨w.toNat, by omega⟩
  have hTn : ∀ ns', TabAt (We s old ns' ext3) 3 n := fun ns' => by
    refine ⟨refs3, t2, t1, fun a r h => ?_⟩
    obtain ⟨q1, q2⟩ := t4 a r h
    match r, q1, q2 with
    | r + 4, _, q2 => exact q2
  obtain ⟨ra, g1, g2, g3⟩ := (hTn ns5).row a (by omega)
  obtain ⟨hra, g4⟩ : 3 < ra ∧ ∀ ns', (We s old ns' ext3)[ra]? = some (.lst ((rowP n a).map D.p)) := by
    have hla : a < refs3.length := by omega
    have q := t4 a refs3[a] (List.getElem?_eq_getElem hla)
    have e : dIx (.ref 3) (.p (.int a)) (We s old ns5 ext3) = some (.ref refs3[a], We s old ns5 ext3) := v_ix_l 3 (refs3.map D.ref) a _ _ t2 (by rw [List.getElem?_map, List.getElem?_eq_getElem hla]; rfl)
    have e2 : refs3[a] = ra := by
      rw [g1] at e
      simp only [Option.some.injEq, Prod.mk.injEq, D.ref.injEq] at e
      exact e.1.symm
    rw [e2] at q
    refine ⟨q.1, fun ns' => ?_⟩
    match ra, q with
    | r + 4, q => exact q.2
  obtain ⟨M6, k6, ns6, ps6, rfl, p1, p2⟩ := lcL_inv (l := (We s old ns5 ext3).length) (k := none) (g := gNm 12) (te := (rTup (rCons (rCallN 2 F__law_next (rCons (rVar 1) (rCons (rC (.p (.int 60))) rNil))) (rCons (rBin dAdd (rC (.p (.int 1))) (rCallN 2 F__law_next (rCons (rVar 1) (rCons (rC (.p (.int 60))) rNil)))) rNil)))) (ρ := [some (.ref 0), some (.ref 2), some (.p (.int n)), some (.ref 3), z4, some (.p (.int a)), none, z7, none, none, none, none, none]) (intsD 0 3)
    (fun i M' => ∃ (ns' : List Int) (ps : List (Int × Int)), M' = We s old ns' (ext3 ++ [.lst (ps.map fun q => D.p (.tup [.int q.1, .int q.2]))]) ∧ ps.length = i ∧ ∀ q ∈ ps, (0 ≤ q.1 ∧ q.1 ≤ 300) ∧ (1 ≤ q.2 ∧ q.2 ≤ 300)) (fun _ _ _ => True.intro) (by
      rintro i x M' hx ⟨ns', ps, rfl, p1, p2⟩
      have hi := (List.getElem?_eq_some_iff.mp hx).1
      rw [intsD_len] at hi
      obtain ⟨v1, ns1', a1, a2, a3⟩ := nx_any s old ns' (ext3 ++ [.lst (ps.map fun q => D.p (.tup [.int q.1, .int q.2]))]) 60 (by decide)
      obtain ⟨v2, ns2', b1, b2, b3⟩ := nx_any s old ns1' (ext3 ++ [.lst (ps.map fun q => D.p (.tup [.int q.1, .int q.2]))]) 60 (by decide)
      refine ⟨_, .p (.tup [.int v1, .int (1 + v2)]), We s old ns2' (ext3 ++ [.lst (ps.map fun q => D.p (.tup [.int q.1, .int q.2]))]), ps.map fun q => D.p (.tup [.int q.1, .int q.2]), rfl, by simp [a3, b3], by simp, lt_line (by simp; omega), ns2', ps ++ [(v1, 1 + v2)], by simp, by simp [p1], ?_⟩
      intro q hq
      rcases List.mem_append.mp hq with hq | hq
      · exact p2 q hq
      · have e := List.mem_singleton.mp hq
        subst e
        exact ⟨⟨by omega, by omega⟩, by show 1 ≤ 1 + v2; omega, by show 1 + v2 ≤ 300; omega⟩) (M := We s old ns5 (ext3 ++ [.lst []])) ⟨ns5, [], rfl, rfl, fun q hq => by cases hq⟩
  rw [intsD_len] at p1
  have er3 : rng1 [.p (.int 3)] = some (0, 3) := rng1_len 3 (by decide)
  have r6 : (We s old ns6 (ext3 ++ [.lst (ps6.map fun q => D.p (.tup [.int q.1, .int q.2]))]))[ra]? = some (.lst ((rowP n a).map D.p)) := by
    have h := g4 ns6
    match ra, hra, h with
    | r + 4, _, h => exact get_app (M := We s old ns6 ext3) h _
  have cat := v_cat ra (We s old ns5 ext3).length ((rowP n a).map D.p) (ps6.map fun q => D.p (.tup [.int q.1, .int q.2])) (We s old ns6 (ext3 ++ [.lst (ps6.map fun q => D.p (.tup [.int q.1, .int q.2]))])) r6 (by simp) (le_line (by simp [rowP]; omega))
  generalize hM7 : (We s old ns6 (ext3 ++ [.lst (ps6.map fun q => D.p (.tup [.int q.1, .int q.2]))])) = M7 at cat r6 k6
  have key7 : ∀ d ∈ ((rowP n a).map D.p) ++ (ps6.map fun q => D.p (.tup [.int q.1, .int q.2])), ∃ o u : Int, d = .p (.tup [.int o, .int u]) ∧ (0 ≤ o ∧ o ≤ 300) ∧ (1 ≤ u ∧ u ≤ 300) := by
    intro d hd
    rcases List.mem_append.mp hd with hd | hd
    · simp only [rowP, List.map_map, List.mem_map, List.mem_range] at hd
      obtain ⟨b, hb, rfl⟩ := hd
      obtain ⟨q1, q2, q3⟩ := cX_small n (by omega) a (by omega) b hb
      refine ⟨(cX n a b : Nat), (cY n a b : Nat), ?_, by omega, by omega⟩
      show D.p (chanceP n a b) = _
      rw [chance_pair]
    · obtain ⟨q, hq, rfl⟩ := List.mem_map.mp hd
      exact ⟨_, _, rfl, p2 q hq⟩
  have hM7e : ∀ x, ∃ e, M7 ++ [x] = We s old ns6 (ext3 ++ e) := fun x => by
    rw [← hM7]
    exact ⟨[.lst (ps6.map fun q => D.p (.tup [.int q.1, .int q.2]))] ++ [x], by simp⟩
  generalize hL : ((rowP n a).map D.p) ++ (ps6.map fun q => D.p (.tup [.int q.1, .int q.2])) = L at cat key7
  obtain ⟨e8, hM8⟩ := hM7e (.lst L)
  have hT8 : TabAt (We s old ns6 (ext3 ++ e8)) 3 n := by
    obtain ⟨rf, b1, b2, b3⟩ := hTn ns6
    exact ⟨rf, get_app (M := We s old ns6 ext3) b1 _, b2, fun a r h => get_app (M := We s old ns6 ext3) (b3 a r h) _⟩
  obtain ⟨r8, g5, g6, _⟩ := hT8.row a (by omega)
  have l8 : (We s old ns6 (ext3 ++ e8))[M7.length]? = some (.lst L) := by
    rw [← hM8]
    exact get_new _ _
  obtain ⟨ρ9, M9, k9, z8, z9, z10, z11, rfl, rfl⟩ := forL_inv (k := some (M7.length, .lst L)) (g := gTp 2 (gCo (gNm 8) (gCo (gNm 9) gNi))) (body := s__law_whole_9) L
    (fun i ρ M => ∃ z8 z9 z10 z11, ρ = [some (.ref 0), some (.ref 2), some (.p (.int n)), some (.ref 3), z4, some (.p (.int a)), none, z7, z8, z9, z10, z11, none] ∧ M = We s old ns6 (ext3 ++ e8)) (by
      rintro i ρ M ⟨_, _, _, _, _, rfl⟩
      exact l8) (by
      rintro i x ρ M hi ⟨z8, z9, z10, z11, rfl, rfl⟩
      obtain ⟨o, u, rfl, ho, hu⟩ := key7 x (List.mem_of_getElem? hi)
      obtain ⟨y10, y11, e⟩ := mores (We s old ns6 (ext3 ++ e8)) n a r8 o u h1 hn8 (by omega) ho hu g5 g6 (some (.ref 0)) (some (.ref 2)) z4 none z7 z10 z11 none
      exact ⟨_, _, _, _, by simp, .inl e, _, _, _, _, rfl, rfl⟩) (ρ := [some (.ref 0), some (.ref 2), some (.p (.int n)), some (.ref 3), z4, some (.p (.int a)), none, z7, none, none, none, none, none]) (M := We s old ns6 (ext3 ++ e8)) ⟨_, _, _, _, rfl, rfl⟩
  obtain ⟨ρ10, M10, k10, z6, rfl, rfl⟩ := forL_inv (k := none) (g := gNm 6) (body := s__law_whole_11) (intsD 0 (2 * n + 2))
    (fun i ρ M => ∃ z6, ρ = [some (.ref 0), some (.ref 2), some (.p (.int n)), some (.ref 3), z4, some (.p (.int a)), z6, z7, z8, z9, z10, z11, none] ∧ M = We s old ns6 (ext3 ++ e8)) (fun _ _ _ _ => True.intro) (by
      rintro i x ρ M hi ⟨z6, rfl, rfl⟩
      have hlt := (List.getElem?_eq_some_iff.mp hi).1
      rw [intsD_len] at hlt
      rw [intsD_get _ _ _ hlt, Int.zero_add] at hi
      cases hi
      exact ⟨_, _, _, _, rfl, .inl (split_cell _ n i h1 hn8 hlt hT8 _ _ _ _ _ _ _ _ _ _), _, rfl, rfl⟩) (ρ := [some (.ref 0), some (.ref 2), some (.p (.int n)), some (.ref 3), z4, some (.p (.int a)), none, z7, z8, z9, z10, z11, none]) (M := We s old ns6 (ext3 ++ e8)) ⟨_, rfl, rfl⟩
  have e2n := v_mul 2 n (We s old ns6 (ext3 ++ e8)) (mul_small' (by decide) (by decide))
  have er10 : rng1 [.p (.int (2 * (n : Int) + 2))] = some (0, 2 * n + 2) := rng1_len (2 * n + 2) (by omega)
  have w3 : walkD (.ref 4) (We s old ns1 ext2) = some (refs.map D.ref, some (4, .lst (refs.map D.ref))) := walk_ref _ _ _ x3
  have w8 : walkD (.ref M7.length) (We s old ns6 (ext3 ++ e8)) = some (L, some (M7.length, .lst L)) := walk_ref _ _ _ l8
  refine ⟨_, selfF_ok (M' := We s old ns6 (ext3 ++ e8)) ?_ (by simp)⟩
  have eL : (We s old ns5 ext3).length = ext3.length + 1 + 1 + 1 := rfl
  rw [eL] at k6 cat
  have k3' : forL (some (4, .lst (refs.map D.ref))) (gNm 4) s__law_whole_1 (refs.map D.ref) [some (.ref 0), some (.ref 2), some (.p (.int n)), some (.ref 3), none, none, none, none, none, none, none, none, none] (We s old ns1 ext2) = _ := k3
  simp [m__law_whole, s__law_whole_12, s__law_whole_13, s__law_whole_14, s__law_whole_15, s__law_whole_16, s__law_whole_17, s__law_whole_18, s__law_whole_19, s__law_whole_20, hb, hv, hn, x1, w3, k3, er, k4, hw, g1, er3, wipeE, k6, cat, hM8, w8, k9, e2n, er10, k10]
-- slots: 0:script
noncomputable def m_law  : RS :=
  (rTry []
  (rRet (rCallN 1 F__law_whole (rCons (rVar 0) rNil)))
  (rRet (rC (.p (.bl false)))))

noncomputable def F_law : List D → Store → R D := selfF 1 m_law
theorem r_law : Ref 1 1 F_law m_law := ref_self 1 1 m_law
theorem law_true (s : List Int) (hl : s.length ≤ 63) : ∃ M, F_law [.ref 0] [.ro (s.map fun i => .p (.int i))] = .ok (.p (.bl true)) M := by
  obtain ⟨M, h⟩ := whole_ok s hl
  have hg : 1 ≤ M.length := by
    have h1 := (r__law_whole [.ref 0] [.ro (bagL s)] rfl).1
    rw [h] at h1
    exact h1
  have h' : F__law_whole [.ref 0] [.ro (s.map fun i => D.p (P.int i))] = .ok (.p (.bl true)) M := h
  refine ⟨M, selfF_ok ?_ (by simpa using hg)⟩
  simp [m_law, h']
/-! ### the text -/
def top (i : Nat) : Stmt := PySem.Challenge.pw_holesmet_k52_whole_chances_by_counting.main.body.getD i (.Pass ⟨0, 0, 0, 0⟩)
abbrev st_is_int : Stmt := top 5
theorem sc_is_int : FnScope ["value"] ["value"] (defScope st_is_int) := ⟨rfl, rfl, rfl, by decide +kernel, rfl, by decide +kernel, by decide +kernel⟩
abbrev st_is_between : Stmt := top 6
theorem sc_is_between : FnScope ["value", "least", "greatest"] ["value", "least", "greatest"] (defScope st_is_between) := ⟨rfl, rfl, rfl, by decide +kernel, rfl, by decide +kernel, by decide +kernel⟩
abbrev st_is_from : Stmt := top 7
theorem sc_is_from : FnScope ["value", "least"] ["value", "least"] (defScope st_is_from) := ⟨rfl, rfl, rfl, by decide +kernel, rfl, by decide +kernel, by decide +kernel⟩
abbrev st_check_ports : Stmt := top 10
theorem sc_check_ports : FnScope ["n"] ["n"] (defScope st_check_ports) := ⟨rfl, rfl, rfl, by decide +kernel, rfl, by decide +kernel, by decide +kernel⟩
abbrev st_check_part : Stmt := top 11
theorem sc_check_part : FnScope ["n", "part"] ["n", "part"] (defScope st_check_part) := ⟨rfl, rfl, rfl, by decide +kernel, rfl, by decide +kernel, by decide +kernel⟩
abbrev st_ways : Stmt := top 12
theorem sc_ways : FnScope ["n", "a", "b", "every"] ["n", "a", "b"] (defScope st_ways) := ⟨rfl, rfl, rfl, by decide +kernel, rfl, by decide +kernel, by decide +kernel⟩
abbrev st_lowest : Stmt := top 13
theorem sc_lowest : FnScope ["over", "under", "common"] ["over", "under"] (defScope st_lowest) := ⟨rfl, rfl, rfl, by decide +kernel, rfl, by decide +kernel, by decide +kernel⟩
abbrev st_chance : Stmt := top 14
theorem sc_chance : FnScope ["n", "a", "b", "met", "every"] ["n", "a", "b"] (defScope st_chance) := ⟨rfl, rfl, rfl, by decide +kernel, rfl, by decide +kernel, by decide +kernel⟩
abbrev st_is_enough : Stmt := top 15
theorem sc_is_enough : FnScope ["n", "a", "b", "over", "under", "met", "every"] ["n", "a", "b", "over", "under"] (defScope st_is_enough) := ⟨rfl, rfl, rfl, by decide +kernel, rfl, by decide +kernel, by decide +kernel⟩
abbrev st_least_tries : Stmt := top 16
theorem sc_least_tries : FnScope ["n", "a", "over", "under", "low", "high", "middle"] ["n", "a", "over", "under"] (defScope st_least_tries) := ⟨rfl, rfl, rfl, by decide +kernel, rfl, by decide +kernel, by decide +kernel⟩
abbrev st_best_split : Stmt := top 17
theorem sc_best_split : FnScope ["n", "total", "first"] ["n", "total"] (defScope st_best_split) := ⟨rfl, rfl, rfl, by decide +kernel, rfl, by decide +kernel, by decide +kernel⟩
abbrev st__law_bag : Stmt := top 19
theorem sc__law_bag : FnScope ["script", "bag", "mixed", "place", "turn", "cell", "step"] ["script"] (defScope st__law_bag) := ⟨rfl, rfl, rfl, by decide +kernel, rfl, by decide +kernel, by decide +kernel⟩
abbrev st__law_next : Stmt := top 20
theorem sc__law_next : FnScope ["bag", "limit"] ["bag", "limit"] (defScope st__law_next) := ⟨rfl, rfl, rfl, by decide +kernel, rfl, by decide +kernel, by decide +kernel⟩
abbrev st__law_same : Stmt := top 21
theorem sc__law_same : FnScope ["told", "due", "k"] ["told", "due"] (defScope st__law_same) := ⟨rfl, rfl, rfl, by decide +kernel, rfl, by decide +kernel, by decide +kernel⟩
abbrev st__law_lowest : Stmt := top 22
theorem sc__law_lowest : FnScope ["over", "under", "step", "one", "other"] ["over", "under"] (defScope st__law_lowest) := ⟨rfl, rfl, rfl, by decide +kernel, rfl, by decide +kernel, by decide +kernel⟩
abbrev st__law_rows : Stmt := top 23
theorem sc__law_rows : FnScope ["n", "rows", "row", "many", "a", "k"] ["n"] (defScope st__law_rows) := ⟨rfl, rfl, rfl, by decide +kernel, rfl, by decide +kernel, by decide +kernel⟩
abbrev st__law_counted : Stmt := top 24
theorem sc__law_counted : FnScope ["rows", "b", "tried", "row"] ["rows", "b"] (defScope st__law_counted) := ⟨rfl, rfl, rfl, by decide +kernel, rfl, by decide +kernel, by decide +kernel⟩
abbrev st__law_tries : Stmt := top 25
theorem sc__law_tries : FnScope ["chances", "over", "under", "b"] ["chances", "over", "under"] (defScope st__law_tries) := ⟨rfl, rfl, rfl, by decide +kernel, rfl, by decide +kernel, by decide +kernel⟩
abbrev st__law_split : Stmt := top 26
theorem sc__law_split : FnScope ["table", "n", "total", "best", "a", "b", "over", "under"] ["table", "n", "total"] (defScope st__law_split) := ⟨rfl, rfl, rfl, by decide +kernel, rfl, by decide +kernel, by decide +kernel⟩
abbrev st__law_whole : Stmt := top 27
theorem sc__law_whole : FnScope ["script", "bag", "n", "table", "rows", "a", "total", "b", "over", "under", "more", "due", "k"] ["script"] (defScope st__law_whole) := ⟨rfl, rfl, rfl, by decide +kernel, rfl, by decide +kernel, by decide +kernel⟩
abbrev st_law : Stmt := top 28
theorem sc_law : FnScope ["script"] ["script"] (defScope st_law) := ⟨rfl, rfl, rfl, by decide +kernel, rfl, by decide +kernel, by decide +kernel⟩
/-! ### what the top leaves -/
structure Tx (K : PySem.W.Frag) (mg : Str → Option Value) : Prop where
  f_abs : mg "abs" = none
  f_bool : mg "bool" = none
  f_int : mg "int" = none
  f_isinstance : mg "isinstance" = none
  f_len : mg "len" = none
  f_max : mg "max" = none
  f_min : mg "min" = none
  f_range : mg "range" = none
  f_str : mg "str" = none
  f_sum : mg "sum" = none
  f_tuple : mg "tuple" = none
  c_MOST_PORTS : Cst ⟨K, mg⟩ "MOST_PORTS" (.p c_MOST_PORTS)
  b_comb : mg "comb" = some (.builtin "math.comb")
  b_gcd : mg "gcd" = some (.builtin "math.gcd")
  x_BadNumber : ExC ⟨K, mg⟩ "BadNumber" (He.ga K "BadNumber")
  x_DoorError : ExC ⟨K, mg⟩ "DoorError" (He.ga K "DoorError")
  g_BadNumber : mg "BadNumber" = some (.ref (He.ga K "BadNumber"))
  g_DoorError : mg "DoorError" = some (.ref (He.ga K "DoorError"))
  xs_DoorError : ∀ q ∈ ([] : List (Str × Bool)), PySem.W.exmOne K (cval ⟨K, mg⟩ q.1) (.ref (He.ga K "DoorError")) = some q.2
section
variable {P : Program} {w : World} {K : PySem.W.Frag} {mg : Str → Option Value} {base : Heap}
theorem ok_is_int  {f : Addr} {fd : FuncData} (T : Tx K mg) (F : FunD K "is_int" "is_int" (defArgs st_is_int) (defBody st_is_int) (defScope st_is_int) [] [] f fd)   : FnOk P w K mg base (L2.CX P w) (1) f fd ["value"] (spD ⟨K, mg⟩ F_is_int 1) :=
  fn_E (m := m_is_int ) F sc_is_int (fun cdv A outer s H E hr hp W tk =>
  (s_one (s_ret (i_and (i_isa (by simp) (by rfl) T.f_isinstance (by rfl) T.f_int bi_int (i_var 0)) (i_one (i_not (i_isa (by simp) (by rfl) T.f_isinstance (by rfl) T.f_bool bi_bool (i_var 0)))))))) (r_is_int)
theorem ok_is_between  {f : Addr} {fd : FuncData} (T : Tx K mg) (F : FunD K "is_between" "is_between" (defArgs st_is_between) (defBody st_is_between) (defScope st_is_between) [] [] f fd) (D_is_int : Df P w K mg base "is_int" ["value"] F_is_int 1)  : FnOk P w K mg base (L2.CX P w) (2) f fd ["value", "least", "greatest"] (spD ⟨K, mg⟩ F_is_between 3) :=
  fn_E (m := m_is_between ) F sc_is_between (fun cdv A outer s H E hr hp W tk =>
  (s_one (s_ret (i_and (i_call D_is_int (hr.mono (by first | decide | omega)) (by rfl) tk (i_cons (i_var 0) i_nil)) (i_one (i_chain o_le d_ord o_le d_ord (i_var 1) (i_var 0) (i_var 2))))))) (r_is_between)
theorem ok_is_from  {f : Addr} {fd : FuncData} (T : Tx K mg) (F : FunD K "is_from" "is_from" (defArgs st_is_from) (defBody st_is_from) (defScope st_is_from) [] [] f fd) (D_is_int : Df P w K mg base "is_int" ["value"] F_is_int 1)  : FnOk P w K mg base (L2.CX P w) (2) f fd ["value", "least"] (spD ⟨K, mg⟩ F_is_from 2) :=
  fn_E (m := m_is_from ) F sc_is_from (fun cdv A outer s H E hr hp W tk =>
  (s_one (s_ret (i_and (i_call D_is_int (hr.mono (by first | decide | omega)) (by rfl) tk (i_cons (i_var 0) i_nil)) (i_one (i_cmp o_ge d_ord (i_var 0) (i_var 1))))))) (r_is_from)
theorem ok_check_ports  {f : Addr} {fd : FuncData} (T : Tx K mg) (F : FunD K "check_ports" "check_ports" (defArgs st_check_ports) (defBody st_check_ports) (defScope st_check_ports) [] [] f fd) (D_is_between : Df P w K mg base "is_between" ["value", "least", "greatest"] F_is_between 2)  : FnOk P w K mg base (L2.CX P w) (3) f fd ["n"] (spD ⟨K, mg⟩ F_check_ports 1) :=
  fn_E (m := m_check_ports ) F sc_check_ports (fun cdv A outer s H E hr hp W tk =>
  (s_one (s_if (i_tnot (i_truth (i_call D_is_between (hr.mono (by first | decide | omega)) (by rfl) tk (i_cons (i_var 0) (i_cons i_int (i_cons (i_glob (by rfl) T.c_MOST_PORTS) i_nil))))))
  (s_one (s_raise T.x_BadNumber (by rfl) tk (by rfl)))
  s_nil))) (r_check_ports)
theorem ok_check_part  {f : Addr} {fd : FuncData} (T : Tx K mg) (F : FunD K "check_part" "check_part" (defArgs st_check_part) (defBody st_check_part) (defScope st_check_part) [] [] f fd) (D_is_between : Df P w K mg base "is_between" ["value", "least", "greatest"] F_is_between 2)  : FnOk P w K mg base (L2.CX P w) (3) f fd ["n", "part"] (spD ⟨K, mg⟩ F_check_part 2) :=
  fn_E (m := m_check_part ) F sc_check_part (fun cdv A outer s H E hr hp W tk =>
  (s_one (s_if (i_tnot (i_truth (i_call D_is_between (hr.mono (by first | decide | omega)) (by rfl) tk (i_cons (i_var 1) (i_cons i_int (i_cons (i_var 0) i_nil))))))
  (s_one (s_raise T.x_BadNumber (by rfl) tk (by rfl)))
  s_nil))) (r_check_part)
theorem ok_ways  {f : Addr} {fd : FuncData} (T : Tx K mg) (F : FunD K "ways" "ways" (defArgs st_ways) (defBody st_ways) (defScope st_ways) [] [] f fd)   : FnOk P w K mg base (L2.CX P w) (1) f fd ["n", "a", "b"] (spD ⟨K, mg⟩ F_ways 3) :=
  fn_E (m := m_ways ) F sc_ways (fun cdv A outer s H E hr hp W tk =>
  (s_cons (s_set 3 (i_callM call_comb d_comb (by rfl) T.b_comb (i_cons (i_var 0) (i_cons (i_var 2) i_nil))) sc_ways.nd)
  (s_one (s_ret (i_tup (i_cons (i_bin op_sub d_sub (i_var 3) (i_callM call_comb d_comb (by rfl) T.b_comb (i_cons (i_bin op_sub d_sub (i_var 0) (i_var 1)) (i_cons (i_var 2) i_nil)))) (i_cons (i_var 3) i_nil))))))) (r_ways)
theorem ok_lowest  {f : Addr} {fd : FuncData} (T : Tx K mg) (F : FunD K "lowest" "lowest" (defArgs st_lowest) (defBody st_lowest) (defScope st_lowest) [] [] f fd)   : FnOk P w K mg base (L2.CX P w) (1) f fd ["over", "under"] (spD ⟨K, mg⟩ F_lowest 2) :=
  fn_E (m := m_lowest ) F sc_lowest (fun cdv A outer s H E hr hp W tk =>
  (s_cons (s_set 2 (i_callM call_gcd d_gcd (by rfl) T.b_gcd (i_cons (i_var 0) (i_cons (i_var 1) i_nil))) sc_lowest.nd)
  (s_one (s_ret (i_tup (i_cons (i_bin op_fdivW d_div (i_var 0) (i_var 2)) (i_cons (i_bin op_fdivW d_div (i_var 1) (i_var 2)) i_nil))))))) (r_lowest)
theorem ok_chance  {f : Addr} {fd : FuncData} (T : Tx K mg) (F : FunD K "chance" "chance" (defArgs st_chance) (defBody st_chance) (defScope st_chance) [] [] f fd) (D_check_ports : Df P w K mg base "check_ports" ["n"] F_check_ports 3) (D_check_part : Df P w K mg base "check_part" ["n", "part"] F_check_part 3) (D_ways : Df P w K mg base "ways" ["n", "a", "b"] F_ways 1) (D_lowest : Df P w K mg base "lowest" ["over", "under"] F_lowest 1)  : FnOk P w K mg base (L2.CX P w) (4) f fd ["n", "a", "b"] (spD ⟨K, mg⟩ F_chance 3) :=
  fn_E (m := m_chance ) F sc_chance (fun cdv A outer s H E hr hp W tk =>
  (s_cons (s_expr (i_call D_check_ports (hr.mono (by first | decide | omega)) (by rfl) tk (i_cons (i_var 0) i_nil)))
  (s_cons (s_expr (i_call D_check_part (hr.mono (by first | decide | omega)) (by rfl) tk (i_cons (i_var 0) (i_cons (i_var 1) i_nil))))
  (s_cons (s_expr (i_call D_check_part (hr.mono (by first | decide | omega)) (by rfl) tk (i_cons (i_var 0) (i_cons (i_var 2) i_nil))))
  (s_cons (s_asg (i_call D_ways (hr.mono (by first | decide | omega)) (by rfl) tk (i_cons (i_var 0) (i_cons (i_var 1) (i_cons (i_var 2) i_nil)))) (g_tup (by rfl) (g_cons (g_nm 3 sc_chance.nd) (g_cons (g_nm 4 sc_chance.nd) g_nil))))
  (s_one (s_ret (i_call D_lowest (hr.mono (by first | decide | omega)) (by rfl) tk (i_cons (i_var 3) (i_cons (i_var 4) i_nil)))))))))) (r_chance)
theorem ok_is_enough  {f : Addr} {fd : FuncData} (T : Tx K mg) (F : FunD K "is_enough" "is_enough" (defArgs st_is_enough) (defBody st_is_enough) (defScope st_is_enough) [] [] f fd) (D_ways : Df P w K mg base "ways" ["n", "a", "b"] F_ways 1)  : FnOk P w K mg base (L2.CX P w) (2) f fd ["n", "a", "b", "over", "under"] (spD ⟨K, mg⟩ F_is_enough 5) :=
  fn_E (m := m_is_enough ) F sc_is_enough (fun cdv A outer s H E hr hp W tk =>
  (s_cons (s_asg (i_call D_ways (hr.mono (by first | decide | omega)) (by rfl) tk (i_cons (i_var 0) (i_cons (i_var 1) (i_cons (i_var 2) i_nil)))) (g_tup (by rfl) (g_cons (g_nm 5 sc_is_enough.nd) (g_cons (g_nm 6 sc_is_enough.nd) g_nil))))
  (s_one (s_ret (i_cmp o_ge d_ord (i_bin o_mul d_mul (i_var 5) (i_var 4)) (i_bin o_mul d_mul (i_var 3) (i_var 6))))))) (r_is_enough)
theorem ok_least_tries  {f : Addr} {fd : FuncData} (T : Tx K mg) (F : FunD K "least_tries" "least_tries" (defArgs st_least_tries) (defBody st_least_tries) (defScope st_least_tries) [] [] f fd) (D_check_ports : Df P w K mg base "check_ports" ["n"] F_check_ports 3) (D_check_part : Df P w K mg base "check_part" ["n", "part"] F_check_part 3) (D_is_from : Df P w K mg base "is_from" ["value", "least"] F_is_from 2) (D_is_enough : Df P w K mg base "is_enough" ["n", "a", "b", "over", "under"] F_is_enough 2)  : FnOk P w K mg base (L2.CX P w) (4) f fd ["n", "a", "over", "under"] (spD ⟨K, mg⟩ F_least_tries 4) :=
  fn_E (m := m_least_tries ) F sc_least_tries (fun cdv A outer s H E hr hp W tk =>
  (s_cons (s_expr (i_call D_check_ports (hr.mono (by first | decide | omega)) (by rfl) tk (i_cons (i_var 0) i_nil)))
  (s_cons (s_expr (i_call D_check_part (hr.mono (by first | decide | omega)) (by rfl) tk (i_cons (i_var 0) (i_cons (i_var 1) i_nil))))
  (s_cons (s_if (i_tor (i_tnot (i_truth (i_call D_is_from (hr.mono (by first | decide | omega)) (by rfl) tk (i_cons (i_var 2) (i_cons i_int i_nil))))) (i_or1 (i_tnot (i_truth (i_call D_is_from (hr.mono (by first | decide | omega)) (by rfl) tk (i_cons (i_var 3) (i_cons i_int i_nil))))))).pt
  (s_one (s_raise T.x_BadNumber (by rfl) tk (by rfl)))
  s_nil)
  (s_cons (s_if (i_tnot (i_truth (i_call D_is_enough (hr.mono (by first | decide | omega)) (by rfl) tk (i_cons (i_var 0) (i_cons (i_var 1) (i_cons (i_var 0) (i_cons (i_var 2) (i_cons (i_var 3) i_nil))))))))
  (s_one (s_ret i_non))
  s_nil)
  (s_cons (s_par 4 5 (i_cons i_int (i_cons (i_var 0) i_nil)) (by rfl) sc_least_tries.nd)
  (s_cons (s_while hp (i_tcmp o_lt d_ord (i_var 4) (i_var 5))
  (s_cons (s_set 6 (i_bin op_fdivW d_div (i_bin o_add d_add (i_var 4) (i_var 5)) i_int) sc_least_tries.nd)
  (s_one (s_if (i_truth (i_call D_is_enough (hr.mono (by first | decide | omega)) (by rfl) tk (i_cons (i_var 0) (i_cons (i_var 1) (i_cons (i_var 6) (i_cons (i_var 2) (i_cons (i_var 3) i_nil)))))))
  (s_one (s_set 5 (i_var 6) sc_least_tries.nd))
  (s_one (s_set 4 (i_bin o_add d_add (i_var 6) i_int) sc_least_tries.nd))))))
  (s_one (s_ret (i_var 4)))))))))) (r_least_tries)
theorem ok_best_split  {f : Addr} {fd : FuncData} (T : Tx K mg) (F : FunD K "best_split" "best_split" (defArgs st_best_split) (defBody st_best_split) (defScope st_best_split) [] [] f fd) (D_check_ports : Df P w K mg base "check_ports" ["n"] F_check_ports 3) (D_is_from : Df P w K mg base "is_from" ["value", "least"] F_is_from 2)  : FnOk P w K mg base (L2.CX P w) (4) f fd ["n", "total"] (spD ⟨K, mg⟩ F_best_split 2) :=
  fn_E (m := m_best_split ) F sc_best_split (fun cdv A outer s H E hr hp W tk =>
  (s_cons (s_expr (i_call D_check_ports (hr.mono (by first | decide | omega)) (by rfl) tk (i_cons (i_var 0) i_nil)))
  (s_cons (s_if (i_tnot (i_truth (i_call D_is_from (hr.mono (by first | decide | omega)) (by rfl) tk (i_cons (i_var 1) (i_cons i_int i_nil)))))
  (s_one (s_raise T.x_BadNumber (by rfl) tk (by rfl)))
  s_nil)
  (s_cons (s_if (i_tor (i_tcmp o_lt d_ord (i_var 1) i_int) (i_or1 (i_tcmp o_gt d_ord (i_var 1) (i_bin o_mul d_mul i_int (i_var 0))))).pt
  (s_one (s_ret i_non))
  s_nil)
  (s_cons (s_if (i_tcmp o_gt d_ord (i_var 1) (i_var 0))
  (s_one (s_set 2 (i_callB (call_max2 (by rfl)) d_max2 (by rfl) T.f_max bi_max (i_cons i_int (i_cons (i_bin op_sub d_sub (i_var 1) (i_var 0)) i_nil))) sc_best_split.nd))
  (s_one (s_set 2 (i_bin op_fdivW d_div (i_var 1) i_int) sc_best_split.nd)))
  (s_one (s_ret (i_tup (i_cons (i_var 2) (i_cons (i_bin op_sub d_sub (i_var 1) (i_var 2)) i_nil)))))))))) (r_best_split)
theorem ok__law_bag  {f : Addr} {fd : FuncData} (T : Tx K mg) (F : FunD K "_law_bag" "_law_bag" (defArgs st__law_bag) (defBody st__law_bag) (defScope st__law_bag) [] [] f fd)   : FnOk P w K mg base (L2.CX P w) (1) f fd ["script"] (spD ⟨K, mg⟩ F__law_bag 1) :=
  fn_E (m := m__law_bag ) F sc__law_bag (fun cdv A outer s H E hr hp W tk =>
  (s_cons (s_set 1 (i_lst i_nil) sc__law_bag.nd)
  (s_cons (s_set 2 (i_bin o_add d_add i_int (i_bin op_modN d_mod (i_callB call_len d_len (by rfl) T.f_len bi_len (i_cons (i_var 0) i_nil)) i_int)) sc__law_bag.nd)
  (s_cons (s_range1 hp (by rfl) (by rfl) T.f_range (i_cons (i_callB (call_min2 (by rfl)) d_min2 (by rfl) T.f_min bi_min (i_cons i_int (i_cons (i_callB call_len d_len (by rfl) T.f_len bi_len (i_cons (i_var 0) i_nil)) i_nil))) i_nil) (g_nm 3 sc__law_bag.nd)
  (s_cons (s_set 5 (i_callB call_abs d_abs (by rfl) T.f_abs bi_abs (i_cons (i_callTy call_int1 d_int (by rfl) T.f_int bi_int (i_cons (i_ix ix_seq d_ix (i_var 0) (i_var 3)) i_nil)) i_nil)) sc__law_bag.nd)
  (s_cons (s_set 2 (i_bin op_modN d_mod (i_callTy call_int1 d_int (by rfl) T.f_int bi_int (i_cons (i_bin o_add d_add (i_bin o_add d_add (i_bin o_mul d_mul (i_var 2) i_int) (i_var 5)) (i_bin o_mul d_mul i_int (i_var 3))) i_nil)) i_int) sc__law_bag.nd)
  (s_one (s_if (i_tcmp o_lt d_ord (i_var 5) (i_bin op_pow d_pow i_int i_int))
  (s_one (s_range1 hp (by rfl) (by rfl) T.f_range (i_cons i_int i_nil) (g_nm 4 sc__law_bag.nd)
  (s_cons (s_set 6 (i_bin op_modN d_mod (i_callTy call_int1 d_int (by rfl) T.f_int bi_int (i_cons (i_bin o_add d_add (i_bin o_add d_add (i_bin o_mul d_mul (i_var 2) i_int) (i_bin o_mul d_mul (i_var 5) (i_bin o_add d_add (i_var 4) i_int))) (i_bin o_mul d_mul i_int (i_var 4))) i_nil)) i_int) sc__law_bag.nd)
  (s_one (s_expr (i_lm PySem.F.slot_list_append PySem.F.type_list_append mt_append d_append (i_var 1) (i_cons (i_bin op_modN d_mod (i_callTy call_int1 d_int (by rfl) T.f_int bi_int (i_cons (i_bin o_add d_add (i_bin op_fdivW d_div (i_bin o_mul d_mul (i_var 6) (i_var 6)) i_int) (i_bin o_mul d_mul i_int (i_var 4))) i_nil)) i_int) i_nil)))))))
  (s_one (s_range1 hp (by rfl) (by rfl) T.f_range (i_cons i_int i_nil) (g_nm 4 sc__law_bag.nd)
  (s_one (s_if (i_tcmp o_gt d_ord (i_var 5) i_int)
  (s_cons (s_expr (i_lm PySem.F.slot_list_append PySem.F.type_list_append mt_append d_append (i_var 1) (i_cons (i_bin op_modN d_mod (i_callTy call_int1 d_int (by rfl) T.f_int bi_int (i_cons (i_var 5) i_nil)) i_int) i_nil)))
  (s_one (s_set 5 (i_bin op_fdivW d_div (i_var 5) i_int) sc__law_bag.nd)))
  s_nil)))))))))
  (s_cons (s_range2 hp (by rfl) (by rfl) T.f_range (i_cons (i_callB call_len d_len (by rfl) T.f_len bi_len (i_cons (i_var 1) i_nil)) (i_cons i_int i_nil)) (g_nm 4 sc__law_bag.nd)
  (s_cons (s_set 2 (i_bin op_modN d_mod (i_callTy call_int1 d_int (by rfl) T.f_int bi_int (i_cons (i_bin o_add d_add (i_bin o_add d_add (i_bin o_mul d_mul (i_var 2) i_int) (i_bin o_mul d_mul i_int (i_var 4))) i_int) i_nil)) i_int) sc__law_bag.nd)
  (s_one (s_expr (i_lm PySem.F.slot_list_append PySem.F.type_list_append mt_append d_append (i_var 1) (i_cons (i_bin op_modN d_mod (i_callTy call_int1 d_int (by rfl) T.f_int bi_int (i_cons (i_bin o_add d_add (i_bin op_fdivW d_div (i_bin o_mul d_mul (i_var 2) (i_var 2)) i_int) (i_var 4)) i_nil)) i_int) i_nil))))))
  (s_one (s_ret (i_rev (i_var 1))))))))) (r__law_bag)
theorem ok__law_next  {f : Addr} {fd : FuncData} (T : Tx K mg) (F : FunD K "_law_next" "_law_next" (defArgs st__law_next) (defBody st__law_next) (defScope st__law_next) [] [] f fd)   : FnOk P w K mg base (L2.CX P w) (1) f fd ["bag", "limit"] (spD ⟨K, mg⟩ F__law_next 2) :=
  fn_E (m := m__law_next ) F sc__law_next (fun cdv A outer s H E hr hp W tk =>
  (s_cons (s_if (i_tcmp (o_eq (hu_r hr)) d_eq (i_callB call_len d_len (by rfl) T.f_len bi_len (i_cons (i_var 0) i_nil)) i_int)
  (s_one (s_ret i_int))
  s_nil)
  (s_one (s_ret (i_bin op_modN d_mod (i_callTy call_int1 d_int (by rfl) T.f_int bi_int (i_cons (i_lm0 PySem.F.slot_list_pop PySem.F.type_list_pop mt_pop d_pop (i_var 0)) i_nil)) (i_var 1)))))) (r__law_next)
theorem ok__law_same (n : Nat) {f : Addr} {fd : FuncData} (T : Tx K mg) (F : FunD K "_law_same" "_law_same" (defArgs st__law_same) (defBody st__law_same) (defScope st__law_same) [] [] f fd) (D__law_same : Df P w K mg base "_law_same" ["told", "due"] (Fp_same n) n)  : FnOk P w K mg base (L2.CX P w) (n + 1) f fd ["told", "due"] (spD ⟨K, mg⟩ (Fp_same (n + 1)) 2) :=
  fn_E (m := m__law_same n) F sc__law_same (fun cdv A outer s H E hr hp W tk =>
  (s_cons (s_if (i_truth (i_isa (by simp) (by rfl) T.f_isinstance (by rfl) T.f_tuple bi_tuple (i_var 1)))
  (s_cons (s_if (i_tor (i_tnot (i_truth (i_isa (by simp) (by rfl) T.f_isinstance (by rfl) T.f_tuple bi_tuple (i_var 0)))) (i_or1 (i_tcmp (o_ne (hu_r hr)) d_ne (i_callB call_len d_len (by rfl) T.f_len bi_len (i_cons (i_var 0) i_nil)) (i_callB call_len d_len (by rfl) T.f_len bi_len (i_cons (i_var 1) i_nil))))).pt
  (s_one (s_ret i_bl))
  s_nil)
  (s_cons (s_range1 hp (by rfl) (by rfl) T.f_range (i_cons (i_callB call_len d_len (by rfl) T.f_len bi_len (i_cons (i_var 1) i_nil)) i_nil) (g_nm 2 sc__law_same.nd)
  (s_one (s_if (i_tnot (i_truth (i_call D__law_same (hr.mono (by first | decide | omega)) (by rfl) tk (i_cons (i_ix ix_seq d_ix (i_var 0) (i_var 2)) (i_cons (i_ix ix_seq d_ix (i_var 1) (i_var 2)) i_nil)))))
  (s_one (s_ret i_bl))
  s_nil)))
  (s_one (s_ret i_bl))))
  s_nil)
  (s_cons (s_if (i_truth (i_isa (by simp) (by rfl) T.f_isinstance (by rfl) T.f_bool bi_bool (i_var 1)))
  (s_one (s_ret (i_and (i_isa (by simp) (by rfl) T.f_isinstance (by rfl) T.f_bool bi_bool (i_var 0)) (i_one (i_cmp (o_eq (hu_r hr)) d_eq (i_var 0) (i_var 1))))))
  s_nil)
  (s_cons (s_if (i_truth (i_isa (by simp) (by rfl) T.f_isinstance (by rfl) T.f_int bi_int (i_var 1)))
  (s_one (s_ret (i_and (i_isa (by simp) (by rfl) T.f_isinstance (by rfl) T.f_int bi_int (i_var 0)) (i_and (i_not (i_isa (by simp) (by rfl) T.f_isinstance (by rfl) T.f_bool bi_bool (i_var 0))) (i_one (i_cmp (o_eq (hu_r hr)) d_eq (i_var 0) (i_var 1)))))))
  s_nil)
  (s_cons (s_if (i_truth (i_isa (by simp) (by rfl) T.f_isinstance (by rfl) T.f_str bi_str (i_var 1)))
  (s_one (s_ret (i_and (i_isa (by simp) (by rfl) T.f_isinstance (by rfl) T.f_str bi_str (i_var 0)) (i_one (i_cmp (o_eq (hu_r hr)) d_eq (i_var 0) (i_var 1))))))
  s_nil)
  (s_one (s_ret (i_and (i_cmp op_isN d_isN (i_var 1) i_non) (i_one (i_cmp op_isN d_isN (i_var 0) i_non)))))))))) (r__law_same n)
theorem rec__law_same {f : Addr} {fd : FuncData} (T : Tx K mg) (F : FunD K "_law_same" "_law_same" (defArgs st__law_same) (defBody st__law_same) (defScope st__law_same) [] [] f fd) (g : mg "_law_same" = some (.ref f)) (b : Binds K fd ["told", "due"] [])  : ∀ n : Nat, FnOk P w K mg base (L2.CX P w) n f fd ["told", "due"] (spD ⟨K, mg⟩ (Fp_same n) 2)
  | 0 => fnok_no
  | n + 1 => ok__law_same n T F (df_mk F g b (rec__law_same T F g b  n))
theorem ok__law_lowest  {f : Addr} {fd : FuncData} (T : Tx K mg) (F : FunD K "_law_lowest" "_law_lowest" (defArgs st__law_lowest) (defBody st__law_lowest) (defScope st__law_lowest) [] [] f fd)   : FnOk P w K mg base (L2.CX P w) (1) f fd ["over", "under"] (spD ⟨K, mg⟩ F__law_lowest 2) :=
  fn_E (m := m__law_lowest ) F sc__law_lowest (fun cdv A outer s H E hr hp W tk =>
  (s_cons (s_par 3 4 (i_cons (i_var 0) (i_cons (i_var 1) i_nil)) (by rfl) sc__law_lowest.nd)
  (s_cons (s_range1 hp (by rfl) (by rfl) T.f_range (i_cons i_int i_nil) (g_nm 2 sc__law_lowest.nd)
  (s_one (s_if (i_tcmp o_gt d_ord (i_var 4) i_int)
  (s_one (s_par 3 4 (i_cons (i_var 4) (i_cons (i_bin op_modN d_mod (i_callTy call_int1 d_int (by rfl) T.f_int bi_int (i_cons (i_var 3) i_nil)) (i_var 4)) i_nil)) (by rfl) sc__law_lowest.nd))
  s_nil)))
  (s_one (s_ret (i_tup (i_cons (i_bin op_fdivW d_div (i_var 0) (i_var 3)) (i_cons (i_bin op_fdivW d_div (i_var 1) (i_var 3)) i_nil)))))))) (r__law_lowest)
theorem ok__law_rows  {f : Addr} {fd : FuncData} (T : Tx K mg) (F : FunD K "_law_rows" "_law_rows" (defArgs st__law_rows) (defBody st__law_rows) (defScope st__law_rows) [] [] f fd)   : FnOk P w K mg base (L2.CX P w) (1) f fd ["n"] (spD ⟨K, mg⟩ F__law_rows 1) :=
  fn_E (m := m__law_rows ) F sc__law_rows (fun cdv A outer s H E hr hp W tk =>
  (s_cons (s_setLc 1 (own := [("a", 4)]) (by rfl) sc__law_rows.nd (wi_rng1 (by rfl) T.f_range (i_cons (i_bin o_add d_add (i_var 0) i_int) i_nil)) (blkOk_by (N := ["n", "rows", "row", "many", "a", "k"]) (sc := defScope st__law_rows) (by decide +kernel)) (own_nm (by decide)) (fun _ _ _ _ _ => pg_name (i := 4) sc__law_rows.nd (by rfl) (by first | exact Or.inl (by rfl) | exact Or.inr (by rfl))) (by exact fun _ _ _ _ _ => pts_yes) (by exact fun _ _ _ _ _ => (i_lst i_nil)))
  (s_cons (s_range1 hp (by rfl) (by rfl) T.f_range (i_cons (i_bin op_shl d_shl i_int (i_var 0)) i_nil) (g_nm 2 sc__law_rows.nd)
  (s_cons (s_set 3 (i_callB (cr_sum (by rfl)) d_sum (by rfl) T.f_sum bi_sum (i_cons (i_lc (own := [("k", 5)]) (by rfl) sc__law_rows.nd (wi_rng1 (by rfl) T.f_range (i_cons (i_var 0) i_nil)) (blkOk_by (N := ["n", "rows", "row", "many", "a", "k"]) (sc := defScope st__law_rows) (by decide +kernel)) (own_nm (by decide)) (fun _ _ _ _ _ => pg_name (i := 5) sc__law_rows.nd (by rfl) (by first | exact Or.inl (by rfl) | exact Or.inr (by rfl))) (by exact fun _ _ _ _ _ => pts_yes) (by exact fun _ _ _ _ _ => (i_bin op_and d_band (i_bin op_shr d_shr (i_var 2) (i_var 5)) i_int))) i_nil)) sc__law_rows.nd)
  (s_one (s_asg (i_bin o_add d_add (i_ix ix_seq d_ix (i_var 1) (i_var 3)) (i_lst (i_cons (i_var 2) i_nil))) (g_sub (W := W) (i_var 1) (i_var 3))))))
  (s_one (s_ret (i_var 1)))))) (r__law_rows)
theorem ok__law_counted  {f : Addr} {fd : FuncData} (T : Tx K mg) (F : FunD K "_law_counted" "_law_counted" (defArgs st__law_counted) (defBody st__law_counted) (defScope st__law_counted) [] [] f fd) (D__law_lowest : Df P w K mg base "_law_lowest" ["over", "under"] F__law_lowest 1)  : FnOk P w K mg base (L2.CX P w) (2) f fd ["rows", "b"] (spD ⟨K, mg⟩ F__law_counted 2) :=
  fn_E (m := m__law_counted ) F sc__law_counted (fun cdv A outer s H E hr hp W tk =>
  (s_cons (s_set 2 (i_bin op_sub d_sub (i_bin op_shl d_shl i_int (i_var 1)) i_int) sc__law_counted.nd)
  (s_one (s_ret (i_call D__law_lowest (hr.mono (by first | decide | omega)) (by rfl) tk (i_cons (i_callB call_len d_len (by rfl) T.f_len bi_len (i_cons (i_lc (own := [("row", 3)]) (by rfl) sc__law_counted.nd (wi_row (i_var 0)) (blkOk_by (N := ["rows", "b", "tried", "row"]) (sc := defScope st__law_counted) (by decide +kernel)) (own_nm (by decide)) (fun _ _ _ _ _ => pg_name (i := 3) sc__law_counted.nd (by rfl) (by first | exact Or.inl (by rfl) | exact Or.inr (by rfl))) (by exact fun _ _ _ _ _ => (pts_one (i_tcmp o_gt d_ord (i_bin op_and d_band (i_var 3) (i_var 2)) i_int))) (by exact fun _ _ _ _ _ => (i_var 3))) i_nil)) (i_cons (i_callB call_len d_len (by rfl) T.f_len bi_len (i_cons (i_var 0) i_nil)) i_nil))))))) (r__law_counted)
theorem ok__law_tries  {f : Addr} {fd : FuncData} (T : Tx K mg) (F : FunD K "_law_tries" "_law_tries" (defArgs st__law_tries) (defBody st__law_tries) (defScope st__law_tries) [] [] f fd)   : FnOk P w K mg base (L2.CX P w) (1) f fd ["chances", "over", "under"] (spD ⟨K, mg⟩ F__law_tries 3) :=
  fn_E (m := m__law_tries ) F sc__law_tries (fun cdv A outer s H E hr hp W tk =>
  (s_cons (s_range1 hp (by rfl) (by rfl) T.f_range (i_cons (i_callB call_len d_len (by rfl) T.f_len bi_len (i_cons (i_var 0) i_nil)) i_nil) (g_nm 3 sc__law_tries.nd)
  (s_one (s_if (i_tcmp o_le d_ord (i_bin o_mul d_mul (i_var 1) (i_ix ix_seq d_ix (i_ix ix_seq d_ix (i_var 0) (i_var 3)) i_int)) (i_bin o_mul d_mul (i_var 2) (i_ix ix_seq d_ix (i_ix ix_seq d_ix (i_var 0) (i_var 3)) i_int)))
  (s_one (s_ret (i_var 3)))
  s_nil)))
  (s_one (s_ret i_non)))) (r__law_tries)
theorem ok__law_split  {f : Addr} {fd : FuncData} (T : Tx K mg) (F : FunD K "_law_split" "_law_split" (defArgs st__law_split) (defBody st__law_split) (defScope st__law_split) [] [] f fd)   : FnOk P w K mg base (L2.CX P w) (1) f fd ["table", "n", "total"] (spD ⟨K, mg⟩ F__law_split 3) :=
  fn_E (m := m__law_split ) F sc__law_split (fun cdv A outer s H E hr hp W tk =>
  (s_cons (s_set 3 i_non sc__law_split.nd)
  (s_cons (s_range2 hp (by rfl) (by rfl) T.f_range (i_cons i_int (i_cons (i_bin o_add d_add (i_var 1) i_int) i_nil)) (g_nm 4 sc__law_split.nd)
  (s_cons (s_set 5 (i_bin op_sub d_sub (i_var 2) (i_var 4)) sc__law_split.nd)
  (s_one (s_if (i_tand (i_tcmp o_ge d_ord (i_var 5) i_int) (i_and1 (i_tcmp o_le d_ord (i_var 5) (i_var 1)))).pt
  (s_cons (s_asg (i_ix ix_seq d_ix (i_ix ix_seq d_ix (i_var 0) (i_var 4)) (i_var 5)) (g_tup (by rfl) (g_cons (g_nm 6 sc__law_split.nd) (g_cons (g_nm 7 sc__law_split.nd) g_nil))))
  (s_one (s_if (i_tor (i_tcmp op_isN d_isN (i_var 3) i_non) (i_or1 (i_tcmp o_gt d_ord (i_bin o_mul d_mul (i_var 6) (i_ix ix_seq d_ix (i_ix ix_seq d_ix (i_ix ix_seq d_ix (i_var 0) (i_var 3)) (i_bin op_sub d_sub (i_var 2) (i_var 3))) i_int)) (i_bin o_mul d_mul (i_ix ix_seq d_ix (i_ix ix_seq d_ix (i_ix ix_seq d_ix (i_var 0) (i_var 3)) (i_bin op_sub d_sub (i_var 2) (i_var 3))) i_int) (i_var 7))))).pt
  (s_one (s_set 3 (i_var 4) sc__law_split.nd))
  s_nil)))
  s_nil))))
  (s_one (s_ret (i_ifx (i_tcmp op_isN d_isN (i_var 3) i_non) i_non (i_tup (i_cons (i_var 3) (i_cons (i_bin op_sub d_sub (i_var 2) (i_var 3)) i_nil))))))))) (r__law_split)
theorem ok__law_whole  {f : Addr} {fd : FuncData} (T : Tx K mg) (F : FunD K "_law_whole" "_law_whole" (defArgs st__law_whole) (defBody st__law_whole) (defScope st__law_whole) [] [] f fd) (D__law_bag : Df P w K mg base "_law_bag" ["script"] F__law_bag 1) (D__law_next : Df P w K mg base "_law_next" ["bag", "limit"] F__law_next 1) (D__law_rows : Df P w K mg base "_law_rows" ["n"] F__law_rows 1) (D__law_counted : Df P w K mg base "_law_counted" ["rows", "b"] F__law_counted 2) (D__law_same : Df P w K mg base "_law_same" ["told", "due"] (Fp_same 9) 9) (D_chance : Df P w K mg base "chance" ["n", "a", "b"] F_chance 4) (D__law_tries : Df P w K mg base "_law_tries" ["chances", "over", "under"] F__law_tries 1) (D_least_tries : Df P w K mg base "least_tries" ["n", "a", "over", "under"] F_least_tries 4) (D_best_split : Df P w K mg base "best_split" ["n", "total"] F_best_split 4) (D__law_split : Df P w K mg base "_law_split" ["table", "n", "total"] F__law_split 1)  : FnOk P w K mg base (L2.CX P w) (11) f fd ["script"] (spD ⟨K, mg⟩ F__law_whole 1) :=
  fn_E (m := m__law_whole ) F sc__law_whole (fun cdv A outer s H E hr hp W tk =>
  (s_cons (s_set 1 (i_call D__law_bag (hr.mono (by first | decide | omega)) (by rfl) tk (i_cons (i_var 0) i_nil)) sc__law_whole.nd)
  (s_cons (s_set 2 (i_bin o_add d_add i_int (i_call D__law_next (hr.mono (by first | decide | omega)) (by rfl) tk (i_cons (i_var 1) (i_cons i_int i_nil)))) sc__law_whole.nd)
  (s_cons (s_set 3 (i_lst i_nil) sc__law_whole.nd)
  (s_cons (s_for hp (by rfl) (i_call D__law_rows (hr.mono (by first | decide | omega)) (by rfl) tk (i_cons (i_var 2) i_nil)) (g_nm 4 sc__law_whole.nd)
  (s_one (s_expr (i_lm PySem.F.slot_list_append PySem.F.type_list_append mt_append d_append (i_var 3) (i_cons (i_lc (own := [("b", 7)]) (by rfl) sc__law_whole.nd (wi_rng1 (by rfl) T.f_range (i_cons (i_bin o_add d_add (i_var 2) i_int) i_nil)) (blkOk_by (N := ["script", "bag", "n", "table", "rows", "a", "total", "b", "over", "under", "more", "due", "k"]) (sc := defScope st__law_whole) (by decide +kernel)) (own_nm (by decide)) (fun _ _ _ _ _ => pg_name (i := 7) sc__law_whole.nd (by rfl) (by first | exact Or.inl (by rfl) | exact Or.inr (by rfl))) (by exact fun _ _ _ _ _ => pts_yes) (by exact fun _ _ _ _ _ => (i_callI (X := cxOf (L2.CX P w) P w K mg base ["script", "bag", "n", "table", "rows", "a", "total", "b", "over", "under", "more", "due", "k"] "_law_whole" (defScope st__law_whole) f cdv A outer s H E) D__law_counted (hr.mono (by first | decide | omega)) (by rfl) tk0 (i_cons (i_var 4) (i_cons (i_var 7) i_nil))))) i_nil)))))
  (s_cons (s_range1 hp (by rfl) (by rfl) T.f_range (i_cons (i_bin o_add d_add (i_var 2) i_int) i_nil) (g_nm 5 sc__law_whole.nd)
  (s_one (s_range1 hp (by rfl) (by rfl) T.f_range (i_cons (i_bin o_add d_add (i_var 2) i_int) i_nil) (g_nm 7 sc__law_whole.nd)
  (s_one (s_if (i_tor (i_tnot (i_truth (i_call D__law_same (hr.mono (by first | decide | omega)) (by rfl) tk (i_cons (i_call D_chance (hr.mono (by first | decide | omega)) (by rfl) tk (i_cons (i_var 2) (i_cons (i_var 5) (i_cons (i_var 7) i_nil)))) (i_cons (i_ix ix_seq d_ix (i_ix ix_seq d_ix (i_var 3) (i_var 5)) (i_var 7)) i_nil))))) (i_or1 (i_tcmp (o_ne (hu_r hr)) d_ne (i_ix ix_seq d_ix (i_ix ix_seq d_ix (i_var 3) (i_var 5)) (i_var 7)) (i_ix ix_seq d_ix (i_ix ix_seq d_ix (i_var 3) (i_var 7)) (i_var 5))))).pt
  (s_one (s_ret i_bl))
  s_nil)))))
  (s_cons (s_set 5 (i_call D__law_next (hr.mono (by first | decide | omega)) (by rfl) tk (i_cons (i_var 1) (i_cons (i_bin o_add d_add (i_var 2) i_int) i_nil))) sc__law_whole.nd)
  (s_cons (s_for hp (by rfl) (i_bin o_add d_add (i_ix ix_seq d_ix (i_var 3) (i_var 5)) (i_lc (own := [("k", 12)]) (by rfl) sc__law_whole.nd (wi_rng1 (by rfl) T.f_range (i_cons i_int i_nil)) (blkOk_by (N := ["script", "bag", "n", "table", "rows", "a", "total", "b", "over", "under", "more", "due", "k"]) (sc := defScope st__law_whole) (by decide +kernel)) (own_nm (by decide)) (fun _ _ _ _ _ => pg_name (i := 12) sc__law_whole.nd (by rfl) (by first | exact Or.inl (by rfl) | exact Or.inr (by rfl))) (by exact fun _ _ _ _ _ => pts_yes) (by exact fun _ _ _ _ _ => (i_tup (i_cons (i_callI (X := cxOf (L2.CX P w) P w K mg base ["script", "bag", "n", "table", "rows", "a", "total", "b", "over", "under", "more", "due", "k"] "_law_whole" (defScope st__law_whole) f cdv A outer s H E) D__law_next (hr.mono (by first | decide | omega)) (by rfl) tk0 (i_cons (i_var 1) (i_cons i_int i_nil))) (i_cons (i_bin o_add d_add i_int (i_callI (X := cxOf (L2.CX P w) P w K mg base ["script", "bag", "n", "table", "rows", "a", "total", "b", "over", "under", "more", "due", "k"] "_law_whole" (defScope st__law_whole) f cdv A outer s H E) D__law_next (hr.mono (by first | decide | omega)) (by rfl) tk0 (i_cons (i_var 1) (i_cons i_int i_nil)))) i_nil)))))) (g_tup (by rfl) (g_cons (g_nm 8 sc__law_whole.nd) (g_cons (g_nm 9 sc__law_whole.nd) g_nil)))
  (s_one (s_for hp (by rfl) (i_tup (i_cons i_int (i_cons i_int i_nil))) (g_nm 10 sc__law_whole.nd)
  (s_cons (s_set 11 (i_call D__law_tries (hr.mono (by first | decide | omega)) (by rfl) tk (i_cons (i_ix ix_seq d_ix (i_var 3) (i_var 5)) (i_cons (i_bin o_add d_add (i_bin o_mul d_mul (i_var 8) i_int) (i_var 10)) (i_cons (i_bin o_mul d_mul (i_var 9) i_int) i_nil)))) sc__law_whole.nd)
  (s_one (s_if (i_tnot (i_truth (i_call D__law_same (hr.mono (by first | decide | omega)) (by rfl) tk (i_cons (i_call D_least_tries (hr.mono (by first | decide | omega)) (by rfl) tk (i_cons (i_var 2) (i_cons (i_var 5) (i_cons (i_bin o_add d_add (i_bin o_mul d_mul (i_var 8) i_int) (i_var 10)) (i_cons (i_bin o_mul d_mul (i_var 9) i_int) i_nil))))) (i_cons (i_var 11) i_nil)))))
  (s_one (s_ret i_bl))
  s_nil))))))
  (s_cons (s_range1 hp (by rfl) (by rfl) T.f_range (i_cons (i_bin o_add d_add (i_bin o_mul d_mul i_int (i_var 2)) i_int) i_nil) (g_nm 6 sc__law_whole.nd)
  (s_one (s_if (i_tnot (i_truth (i_call D__law_same (hr.mono (by first | decide | omega)) (by rfl) tk (i_cons (i_call D_best_split (hr.mono (by first | decide | omega)) (by rfl) tk (i_cons (i_var 2) (i_cons (i_var 6) i_nil))) (i_cons (i_call D__law_split (hr.mono (by first | decide | omega)) (by rfl) tk (i_cons (i_var 3) (i_cons (i_var 2) (i_cons (i_var 6) i_nil)))) i_nil)))))
  (s_one (s_ret i_bl))
  s_nil)))
  (s_one (s_ret i_bl))))))))))) (r__law_whole)
theorem ok_law  {f : Addr} {fd : FuncData} (T : Tx K mg) (F : FunD K "law" "law" (defArgs st_law) (defBody st_law) (defScope st_law) [] [] f fd) (D__law_whole : Df P w K mg base "_law_whole" ["script"] F__law_whole 11)  : FnOk P w K mg base (L2.CX P w) (12) f fd ["script"] (spD ⟨K, mg⟩ F_law 1) :=
  fn_E (m := m_law ) F sc_law (fun cdv A outer s H E hr hp W tk =>
  (s_one (s_try (exs := []) (by rfl) (by rfl) ⟨rfl, by decide, .inl T.g_DoorError⟩ tk T.xs_DoorError (fun W pn xe tk hp =>
  (s_one (s_ret (i_call D__law_whole (hr.mono (by first | decide | omega)) (by rfl) tk (i_cons (i_var 0) i_nil))))) (fun a pn =>
  (s_one (s_ret i_bl)))))) (r_law)
end
/-! ### the head -/
def dd (x : Str) (i : Nat) : He.DefD := ⟨(x, none), x, x, defArgs (top i), defBody (top i), defScope (top i), [], []⟩
def hfn : List He.DefD := [dd "is_int" 5, dd "is_between" 6, dd "is_from" 7, dd "check_ports" 10, dd "check_part" 11, dd "ways" 12, dd "lowest" 13, dd "chance" 14, dd "is_enough" 15, dd "least_tries" 16, dd "best_split" 17, dd "_law_bag" 19, dd "_law_next" 20, dd "_law_same" 21, dd "_law_lowest" 22, dd "_law_rows" 23, dd "_law_counted" 24, dd "_law_tries" 25, dd "_law_split" 26, dd "_law_whole" 27, dd "law" 28]
def hfa : List He.Fa := [.glo "is_int", .glo "is_between", .glo "is_from", .glo "check_ports", .glo "check_part", .glo "ways", .glo "lowest", .glo "chance", .glo "is_enough", .glo "least_tries", .glo "best_split", .glo "_law_bag", .glo "_law_next", .glo "_law_same", .glo "_law_lowest", .glo "_law_rows", .glo "_law_counted", .glo "_law_tries", .glo "_law_split", .glo "_law_whole", .glo "law", .free "abs", .free "bool", .free "int", .free "isinstance", .free "len", .free "max", .free "min", .free "range", .free "str", .free "sum", .free "tuple", .exc "BadNumber", .exc "DoorError", .glo "BadNumber", .glo "DoorError"]
def hcs : List (Str × CK) := [("MOST_PORTS", .p c_MOST_PORTS), ("comb", .b "math.comb"), ("gcd", .b "math.gcd")]
abbrev RR : PySem.W.OpenRow := PySem.W.OpenLaw.row PySem.Challenge.rw_holesmet_k52_whole_chances_by_counting
abbrev hk : PySem.W.Hook := hookX 5 hfa hfn hcs
def ob (s : PySem.W.SharedT) : AlX := obsXG 5 hfa hfn hcs (HandSHeadRun.getT s)
theorem ob_eq (s : PySem.W.SharedT) : ob s = hk.obs s.abs := obsXG_eq (HandSHeadRun.getT_eq s)
def loose : List Str := (["DoorError", "BadNumber", "MOST_PORTS", "comb", "gcd", "is_int", "is_between", "is_from", "check_ports", "check_part", "ways", "lowest", "chance", "is_enough", "least_tries", "best_split", "_law_bag", "_law_next", "_law_same", "_law_lowest", "_law_rows", "_law_counted", "_law_tries", "_law_split", "_law_whole"] : List Str)
set_option maxHeartbeats 0 in
theorem left : PySem.W.LeftO RR.prog (PySem.W.view RR.prog [28]) loose (fun s => PySem.W.xlAt (PySem.W.view RR.prog [28]) [] s && PySem.W.recOk RR.records s) hk.obs hk.val 4000 := by
  intro w
  kernel_rfl
theorem facts {P : Program} {w : World} {K : PySem.W.Frag} {h : Heap} {mg : Str → Option Value} {f : Addr} (X : K.In h) (G : h.Ns mainGlobals mg) (hfa1 : mg ("law" : Str) = some (.ref f)) (c : SaysX hfa hfn hcs K) :
    ∃ fd : FuncData, (∀ (s : Shared) (v : Value), BindsTo s fd ⟨[v], []⟩ [("script", v)]) ∧ ∀ base : Heap, K.In base → base.Ns mainGlobals mg → FnOk P w K mg base (L2.CX P w) (12) f fd ["script"] (spD ⟨K, mg⟩ F_law 1) := by
  have T : Tx K mg := ⟨(He.free_ok X G (c.d.fact 21 (f := .free "abs") rfl)),
    (He.free_ok X G (c.d.fact 22 (f := .free "bool") rfl)),
    (He.free_ok X G (c.d.fact 23 (f := .free "int") rfl)),
    (He.free_ok X G (c.d.fact 24 (f := .free "isinstance") rfl)),
    (He.free_ok X G (c.d.fact 25 (f := .free "len") rfl)),
    (He.free_ok X G (c.d.fact 26 (f := .free "max") rfl)),
    (He.free_ok X G (c.d.fact 27 (f := .free "min") rfl)),
    (He.free_ok X G (c.d.fact 28 (f := .free "range") rfl)),
    (He.free_ok X G (c.d.fact 29 (f := .free "str") rfl)),
    (He.free_ok X G (c.d.fact 30 (f := .free "sum") rfl)),
    (He.free_ok X G (c.d.fact 31 (f := .free "tuple") rfl)),
    (cB_ok X G (c.c ("MOST_PORTS", .p c_MOST_PORTS) (by simp [hcs]))),
    (cK_b X G (c.c ("comb", .b "math.comb") (by simp [hcs]))),
    (cK_b X G (c.c ("gcd", .b "math.gcd") (by simp [hcs]))),
    (exc_C X G (c.d.fact 32 (f := .exc "BadNumber") rfl) (c.d.fact 34 (f := .glo "BadNumber") rfl)),
    (exc_C X G (c.d.fact 33 (f := .exc "DoorError") rfl) (c.d.fact 35 (f := .glo "DoorError") rfl)),
    (He.glo_ok X G (c.d.fact 34 (f := .glo "BadNumber") rfl)),
    (He.glo_ok X G (c.d.fact 35 (f := .glo "DoorError") rfl)),
    (by
    intro q hq
    cases hq
    )⟩
  obtain ⟨fd0, F0⟩ := c.d.def_ 0 (d := dd "is_int" 5) rfl
  obtain ⟨fd1, F1⟩ := c.d.def_ 1 (d := dd "is_between" 6) rfl
  obtain ⟨fd2, F2⟩ := c.d.def_ 2 (d := dd "is_from" 7) rfl
  obtain ⟨fd3, F3⟩ := c.d.def_ 3 (d := dd "check_ports" 10) rfl
  obtain ⟨fd4, F4⟩ := c.d.def_ 4 (d := dd "check_part" 11) rfl
  obtain ⟨fd5, F5⟩ := c.d.def_ 5 (d := dd "ways" 12) rfl
  obtain ⟨fd6, F6⟩ := c.d.def_ 6 (d := dd "lowest" 13) rfl
  obtain ⟨fd7, F7⟩ := c.d.def_ 7 (d := dd "chance" 14) rfl
  obtain ⟨fd8, F8⟩ := c.d.def_ 8 (d := dd "is_enough" 15) rfl
  obtain ⟨fd9, F9⟩ := c.d.def_ 9 (d := dd "least_tries" 16) rfl
  obtain ⟨fd10, F10⟩ := c.d.def_ 10 (d := dd "best_split" 17) rfl
  obtain ⟨fd11, F11⟩ := c.d.def_ 11 (d := dd "_law_bag" 19) rfl
  obtain ⟨fd12, F12⟩ := c.d.def_ 12 (d := dd "_law_next" 20) rfl
  obtain ⟨fd13, F13⟩ := c.d.def_ 13 (d := dd "_law_same" 21) rfl
  obtain ⟨fd14, F14⟩ := c.d.def_ 14 (d := dd "_law_lowest" 22) rfl
  obtain ⟨fd15, F15⟩ := c.d.def_ 15 (d := dd "_law_rows" 23) rfl
  obtain ⟨fd16, F16⟩ := c.d.def_ 16 (d := dd "_law_counted" 24) rfl
  obtain ⟨fd17, F17⟩ := c.d.def_ 17 (d := dd "_law_tries" 25) rfl
  obtain ⟨fd18, F18⟩ := c.d.def_ 18 (d := dd "_law_split" 26) rfl
  obtain ⟨fd19, F19⟩ := c.d.def_ 19 (d := dd "_law_whole" 27) rfl
  obtain ⟨fd20, F20⟩ := c.d.def_ 20 (d := dd "law" 28) rfl
  have e := hfa1.symm.trans (He.glo_ok X G (c.d.fact 20 (f := .glo "law") rfl))
  cases e
  have b := FunD.bindsA (ps := ["script"]) F20 fun _ _ _ _ _ _ us hl => match us, hl with | [_], _ => rfl
  refine ⟨fd20, fun s v => b s [v] rfl, fun base hb1 hb2 => ?_⟩
  have O_is_int : FnOk P w K mg base (L2.CX P w) (1) _ fd0 ["value"] (spD ⟨K, mg⟩ F_is_int 1) := ok_is_int T F0  
  have D_is_int : Df P w K mg base "is_int" ["value"] F_is_int 1 := df_mk F0 (He.glo_ok X G (c.d.fact 0 (f := .glo "is_int") rfl)) (F0.bindsN fun _ _ _ _ _ _ us hl => match us, hl with | [_], _ => rfl) O_is_int
  have O_is_between : FnOk P w K mg base (L2.CX P w) (2) _ fd1 ["value", "least", "greatest"] (spD ⟨K, mg⟩ F_is_between 3) := ok_is_between T F1 D_is_int 
  have D_is_between : Df P w K mg base "is_between" ["value", "least", "greatest"] F_is_between 2 := df_mk F1 (He.glo_ok X G (c.d.fact 1 (f := .glo "is_between") rfl)) (F1.bindsN fun _ _ _ _ _ _ us hl => match us, hl with | [_, _, _], _ => rfl) O_is_between
  have O_is_from : FnOk P w K mg base (L2.CX P w) (2) _ fd2 ["value", "least"] (spD ⟨K, mg⟩ F_is_from 2) := ok_is_from T F2 D_is_int 
  have D_is_from : Df P w K mg base "is_from" ["value", "least"] F_is_from 2 := df_mk F2 (He.glo_ok X G (c.d.fact 2 (f := .glo "is_from") rfl)) (F2.bindsN fun _ _ _ _ _ _ us hl => match us, hl with | [_, _], _ => rfl) O_is_from
  have O_check_ports : FnOk P w K mg base (L2.CX P w) (3) _ fd3 ["n"] (spD ⟨K, mg⟩ F_check_ports 1) := ok_check_ports T F3 D_is_between 
  have D_check_ports : Df P w K mg base "check_ports" ["n"] F_check_ports 3 := df_mk F3 (He.glo_ok X G (c.d.fact 3 (f := .glo "check_ports") rfl)) (F3.bindsN fun _ _ _ _ _ _ us hl => match us, hl with | [_], _ => rfl) O_check_ports
  have O_check_part : FnOk P w K mg base (L2.CX P w) (3) _ fd4 ["n", "part"] (spD ⟨K, mg⟩ F_check_part 2) := ok_check_part T F4 D_is_between 
  have D_check_part : Df P w K mg base "check_part" ["n", "part"] F_check_part 3 := df_mk F4 (He.glo_ok X G (c.d.fact 4 (f := .glo "check_part") rfl)) (F4.bindsN fun _ _ _ _ _ _ us hl => match us, hl with | [_, _], _ => rfl) O_check_part
  have O_ways : FnOk P w K mg base (L2.CX P w) (1) _ fd5 ["n", "a", "b"] (spD ⟨K, mg⟩ F_ways 3) := ok_ways T F5  
  have D_ways : Df P w K mg base "ways" ["n", "a", "b"] F_ways 1 := df_mk F5 (He.glo_ok X G (c.d.fact 5 (f := .glo "ways") rfl)) (F5.bindsN fun _ _ _ _ _ _ us hl => match us, hl with | [_, _, _], _ => rfl) O_ways
  have O_lowest : FnOk P w K mg base (L2.CX P w) (1) _ fd6 ["over", "under"] (spD ⟨K, mg⟩ F_lowest 2) := ok_lowest T F6  
  have D_lowest : Df P w K mg base "lowest" ["over", "under"] F_lowest 1 := df_mk F6 (He.glo_ok X G (c.d.fact 6 (f := .glo "lowest") rfl)) (F6.bindsN fun _ _ _ _ _ _ us hl => match us, hl with | [_, _], _ => rfl) O_lowest
  have O_chance : FnOk P w K mg base (L2.CX P w) (4) _ fd7 ["n", "a", "b"] (spD ⟨K, mg⟩ F_chance 3) := ok_chance T F7 D_check_ports D_check_part D_ways D_lowest 
  have D_chance : Df P w K mg base "chance" ["n", "a", "b"] F_chance 4 := df_mk F7 (He.glo_ok X G (c.d.fact 7 (f := .glo "chance") rfl)) (F7.bindsN fun _ _ _ _ _ _ us hl => match us, hl with | [_, _, _], _ => rfl) O_chance
  have O_is_enough : FnOk P w K mg base (L2.CX P w) (2) _ fd8 ["n", "a", "b", "over", "under"] (spD ⟨K, mg⟩ F_is_enough 5) := ok_is_enough T F8 D_ways 
  have D_is_enough : Df P w K mg base "is_enough" ["n", "a", "b", "over", "under"] F_is_enough 2 := df_mk F8 (He.glo_ok X G (c.d.fact 8 (f := .glo "is_enough") rfl)) (F8.bindsN fun _ _ _ _ _ _ us hl => match us, hl with | [_, _, _, _, _], _ => rfl) O_is_enough
  have O_least_tries : FnOk P w K mg base (L2.CX P w) (4) _ fd9 ["n", "a", "over", "under"] (spD ⟨K, mg⟩ F_least_tries 4) := ok_least_tries T F9 D_check_ports D_check_part D_is_from D_is_enough 
  have D_least_tries : Df P w K mg base "least_tries" ["n", "a", "over", "under"] F_least_tries 4 := df_mk F9 (He.glo_ok X G (c.d.fact 9 (f := .glo "least_tries") rfl)) (F9.bindsN fun _ _ _ _ _ _ us hl => match us, hl with | [_, _, _, _], _ => rfl) O_least_tries
  have O_best_split : FnOk P w K mg base (L2.CX P w) (4) _ fd10 ["n", "total"] (spD ⟨K, mg⟩ F_best_split 2) := ok_best_split T F10 D_check_ports D_is_from 
  have D_best_split : Df P w K mg base "best_split" ["n", "total"] F_best_split 4 := df_mk F10 (He.glo_ok X G (c.d.fact 10 (f := .glo "best_split") rfl)) (F10.bindsN fun _ _ _ _ _ _ us hl => match us, hl with | [_, _], _ => rfl) O_best_split
  have O__law_bag : FnOk P w K mg base (L2.CX P w) (1) _ fd11 ["script"] (spD ⟨K, mg⟩ F__law_bag 1) := ok__law_bag T F11  
  have D__law_bag : Df P w K mg base "_law_bag" ["script"] F__law_bag 1 := df_mk F11 (He.glo_ok X G (c.d.fact 11 (f := .glo "_law_bag") rfl)) (F11.bindsN fun _ _ _ _ _ _ us hl => match us, hl with | [_], _ => rfl) O__law_bag
  have O__law_next : FnOk P w K mg base (L2.CX P w) (1) _ fd12 ["bag", "limit"] (spD ⟨K, mg⟩ F__law_next 2) := ok__law_next T F12  
  have D__law_next : Df P w K mg base "_law_next" ["bag", "limit"] F__law_next 1 := df_mk F12 (He.glo_ok X G (c.d.fact 12 (f := .glo "_law_next") rfl)) (F12.bindsN fun _ _ _ _ _ _ us hl => match us, hl with | [_, _], _ => rfl) O__law_next
  have D__law_same : Df P w K mg base "_law_same" ["told", "due"] (Fp_same 9) 9 := df_mk F13 (He.glo_ok X G (c.d.fact 13 (f := .glo "_law_same") rfl)) (F13.bindsN fun _ _ _ _ _ _ us hl => match us, hl with | [_, _], _ => rfl) (rec__law_same T F13 (He.glo_ok X G (c.d.fact 13 (f := .glo "_law_same") rfl)) (F13.bindsN fun _ _ _ _ _ _ us hl => match us, hl with | [_, _], _ => rfl)  9)
  have O__law_lowest : FnOk P w K mg base (L2.CX P w) (1) _ fd14 ["over", "under"] (spD ⟨K, mg⟩ F__law_lowest 2) := ok__law_lowest T F14  
  have D__law_lowest : Df P w K mg base "_law_lowest" ["over", "under"] F__law_lowest 1 := df_mk F14 (He.glo_ok X G (c.d.fact 14 (f := .glo "_law_lowest") rfl)) (F14.bindsN fun _ _ _ _ _ _ us hl => match us, hl with | [_, _], _ => rfl) O__law_lowest
  have O__law_rows : FnOk P w K mg base (L2.CX P w) (1) _ fd15 ["n"] (spD ⟨K, mg⟩ F__law_rows 1) := ok__law_rows T F15  
  have D__law_rows : Df P w K mg base "_law_rows" ["n"] F__law_rows 1 := df_mk F15 (He.glo_ok X G (c.d.fact 15 (f := .glo "_law_rows") rfl)) (F15.bindsN fun _ _ _ _ _ _ us hl => match us, hl with | [_], _ => rfl) O__law_rows
  have O__law_counted : FnOk P w K mg base (L2.CX P w) (2) _ fd16 ["rows", "b"] (spD ⟨K, mg⟩ F__law_counted 2) := ok__law_counted T F16 D__law_lowest 
  have D__law_counted : Df P w K mg base "_law_counted" ["rows", "b"] F__law_counted 2 := df_mk F16 (He.glo_ok X G (c.d.fact 16 (f := .glo "_law_counted") rfl)) (F16.bindsN fun _ _ _ _ _ _ us hl => match us, hl with | [_, _], _ => rfl) O__law_counted
  have O__law_tries : FnOk P w K mg base (L2.CX P w) (1) _ fd17 ["chances", "over", "under"] (spD ⟨K, mg⟩ F__law_tries 3) := ok__law_tries T F17  
  have D__law_tries : Df P w K mg base "_law_tries" ["chances", "over", "under"] F__law_tries 1 := df_mk F17 (He.glo_ok X G (c.d.fact 17 (f := .glo "_law_tries") rfl)) (F17.bindsN fun _ _ _ _ _ _ us hl => match us, hl with | [_, _, _], _ => rfl) O__law_tries
  have O__law_split : FnOk P w K mg base (L2.CX P w) (1) _ fd18 ["table", "n", "total"] (spD ⟨K, mg⟩ F__law_split 3) := ok__law_split T F18  
  have D__law_split : Df P w K mg base "_law_split" ["table", "n", "total"] F__law_split 1 := df_mk F18 (He.glo_ok X G (c.d.fact 18 (f := .glo "_law_split") rfl)) (F18.bindsN fun _ _ _ _ _ _ us hl => match us, hl with | [_, _, _], _ => rfl) O__law_split
  have O__law_whole : FnOk P w K mg base (L2.CX P w) (11) _ fd19 ["script"] (spD ⟨K, mg⟩ F__law_whole 1) := ok__law_whole T F19 D__law_bag D__law_next D__law_rows D__law_counted D__law_same D_chance D__law_tries D_least_tries D_best_split D__law_split 
  have D__law_whole : Df P w K mg base "_law_whole" ["script"] F__law_whole 11 := df_mk F19 (He.glo_ok X G (c.d.fact 19 (f := .glo "_law_whole") rfl)) (F19.bindsN fun _ _ _ _ _ _ us hl => match us, hl with | [_], _ => rfl) O__law_whole
  exact ok_law T F20 D__law_whole 

end Law
open PySem PySem.W PySem.Calls PyProof.Rows
set_option maxRecDepth 100000 in
set_option maxHeartbeats 0 in
theorem PySem.Challenge.cw_holesmet_k52_whole_chances_by_counting_holds : PySem.Challenge.rw_holesmet_k52_whole_chances_by_counting.Holds := by
  w_on; o_law
  refine PySem.W.holds_open (r := OpenLaw.row PySem.Challenge.rw_holesmet_k52_whole_chances_by_counting) (q := view (OpenLaw.row PySem.Challenge.rw_holesmet_k52_whole_chances_by_counting).prog [28]) (loose := Law.loose) (d := HandSHeadRun.topDef (OpenLaw.row PySem.Challenge.rw_holesmet_k52_whole_chances_by_counting).prog 28) (kwd := []) Law.left Law.hk.of Law.hk.keeps (fun s z => PySem.W.xl_of s (Bool.and_eq_true_iff.mp z).left) PySem.W.XL.keeps
    (by kernel_rfl) (by kernel_rfl) (by kernel_rfl) (fun s z => PySem.W.recFacts_of (Bool.and_eq_true_iff.mp z).right) (by rfl) (by first | assumption | decide +kernel) (by decide +kernel) ⟨rfl, rfl, rfl, rfl, rfl, by decide +kernel⟩ ?hw ?hc
  case hw => w_witness2
  case hc =>
    refine Fl.walk_ofXE (l := PySem.Challenge.rw_holesmet_k52_whole_chances_by_counting) (n := 63) (k := 12) (x := "script") (CX := fun w => L2.CX (PySem.Challenge.rw_holesmet_k52_whole_chances_by_counting).prog w) rfl (by decide) (by kernel_rfl) ⟨rfl, by decide, by decide⟩ ?F ?G
    case G =>
      rintro w H s e s' ⟨_, _, _, _, _, _, _, _, _, _, _, _, z⟩
      exact z
    case F =>
      intro w mg fa h Y G hmg0
      obtain ⟨K, KX, c⟩ := Y
      have hmg : mg ("law" : PySem.Str) = some (.ref fa) := by
        have e : (HandSHeadRun.topDef (OpenLaw.row PySem.Challenge.rw_holesmet_k52_whole_chances_by_counting).prog 28).name = ("law" : PySem.Str) := by kernel_rfl
        rw [← e]
        exact hmg0
      obtain ⟨fd, hb, hF⟩ := Law.facts (P := (PySem.Challenge.rw_holesmet_k52_whole_chances_by_counting).prog) (w := w) KX G hmg c
      exact ⟨K, fd, _, KX, hb, fun H a ns hl hO hS => Fl.law_spec Law.law_true H a ns hl hO hS, hF⟩
#print axioms PySem.Challenge.cw_holesmet_k52_whole_chances_by_counting_holds

