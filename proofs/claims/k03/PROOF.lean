import PyProof.Rows.All
import Wide.All
import OpenK.AllK
import Wide.FinOn
import HandS.ForMost
import HandS.ForExc
import HandS.Flow
import HandS.CallSlots
import HandS.Lambda
import HandS.Dict
import HandS.Wide
import HandS.IsInst
import HandS.TupAny
import HandS.Style
import HandS.Deep
import HandS.Defaults
import HandS.HeadEnd
import HandS.HeadHook1
import HandS.HeadHook2
import HandS.HeadHook3
import HandS.Head0
import HandS.Head1
import HandS.Head2
import HandS.Conv
import KE.KMathG
import KE.KMathGC
import HandS.FStr
import HandS.Text
import HandS.More
import PySem.Challenge.RW_holesmet_k03_lines_of_items
set_option Elab.async false
set_option linter.all false
set_option maxRecDepth 100000
/-! Fl, part A: data, what they stand for, readings over plain functions. -/
namespace Fl
open PySem PySem.Spec L2
set_option autoImplicit false

/-- pure data -/
inductive P where
  | non | bl (b : Bool) | int (i : Int) | str (x : Str) | tup (xs : List P)
/-- data: pure, a place in the store, a tuple with places in it, what a name of the module stands for -/
inductive D where
  | p (x : P) | ref (l : Nat) | tup (xs : List D) | gl (x : Str)
  /-- an exception that a suite holds; a lambda, its code object and name -/
  | exv (a : Nat) | lam (f c : Nat) (q : Str)
/-- what stands at a place -/
inductive O where
  | lst (xs : List D) | ro (xs : List D) | ins (c : Str) (fs : List (Str × D))
  /-- dicts by ints and texts, by tuples of them; the table of code objects of the def x -/
  | dk (kvs : List (L2.Key × D)) | dt (kvs : List (List L2.Key × D)) | tab (x : Str)
abbrev Env := List (Option D)
abbrev Store := List O

mutual
def RepP (K : PySem.W.Frag) (H : Hp) : P → V → Prop
  | .non, v => v = .non
  | .bl b, v => v = .bl b
  | .int i, v => v = .int i
  | .str x, v => v = .str x
  | .tup xs, v => ∃ a vs, v = .ref a ∧ SqT K H a vs ∧ RepPs K H xs vs
def RepPs (K : PySem.W.Frag) (H : Hp) : List P → List V → Prop
  | [], vs => vs = []
  | x :: xs, vs => ∃ v r, vs = v :: r ∧ RepP K H x v ∧ RepPs K H xs r
end
structure Gm where
  K : PySem.W.Frag
  mg : Str → Option Value
mutual
def Rep (G : Gm) (μ : List Addr) (H : Hp) : D → V → Prop
  | .p x, v => RepP G.K H x v
  | .ref l, v => ∃ a, μ[l]? = some a ∧ v = .ref a
  | .tup xs, v => ∃ a vs, v = .ref a ∧ SqT G.K H a vs ∧ Reps G μ H xs vs
  | .gl x, v => ∃ a, G.mg x = some (.ref a) ∧ v = .ref a
  | .exv a, v => v = .ref a
  | .lam f c q, v => v = .ref f ∧ H c = some (LamX.CodeO c q)
def Reps (G : Gm) (μ : List Addr) (H : Hp) : List D → List V → Prop
  | [], vs => vs = []
  | x :: xs, vs => ∃ v r, vs = v :: r ∧ Rep G μ H x v ∧ Reps G μ H xs r
end
def FsRep {κ : Type} (G : Gm) (μ : List Addr) (H : Hp) : List (κ × D) → List (κ × V) → Prop
  | [], gs => gs = []
  | (f, d) :: fs, gs => ∃ v r, gs = (f, v) :: r ∧ Rep G μ H d v ∧ FsRep G μ H fs r
/-- a list of the written part -/
def KL (K : PySem.W.Frag) (a : Addr) (xs : List V) : Prop :=
  ∃ (o : Obj) (its : Array Value) (n : Nat), K.lookup a = some o ∧ o.cls = .type "list" ∧ o.dict = none ∧ o.data = .seq its n ∧ its.size ≤ sizeLine ∧ Vals xs its.toList
/-- a list that is read and never changed -/
def RoL (K : PySem.W.Frag) (H : Hp) (a : Addr) (xs : List V) : Prop := (∃ o, H a = some (.frz o (.lst xs))) ∨ KL K a xs
theorem RoL.sql {K : PySem.W.Frag} {H : Hp} {a : Addr} {xs : List V} (h : RoL K H a xs) : SqL K H a xs := h.elim (fun h => .inl (.inr h)) fun h => .inr h
def O.isRo : O → Bool
  | .ro _ => true
  | _ => false
/-- the name of a lambda in the def x -/
def lamQ (x : Str) : Str := x ++ ".<locals>." ++ "<lambda>"
def ObjRep (G : Gm) (μ : List Addr) (H : Hp) (a : Addr) : O → Prop
  | .lst xs => ∃ vs, H a = some (.lst vs) ∧ Reps G μ H xs vs
  | .ro xs => ∃ vs, RoL G.K H a vs ∧ Reps G μ H xs vs
  | .ins c fs => ∃ C dx gs, G.mg c = some (.ref C) ∧ H a = some (.ins C dx gs) ∧ FsRep G μ H fs gs
  | .dk kvs => ∃ ws, H a = some (.dK ws) ∧ FsRep G μ H kvs ws
  | .dt kvs => ∃ ws, H a = some (.dT ws) ∧ FsRep G μ H kvs ws
  | .tab x => (∃ c, PySem.W.tabIn G.K x = some (c, a)) ∧ LamX.TabS H a (lamQ x)
structure SR (G : Gm) (μ : List Addr) (H : Hp) (M : Store) : Prop where
  len : μ.length = M.length
  nd : ∀ (i j : Nat) (a : Addr) (x y : O), μ[i]? = some a → μ[j]? = some a → M[i]? = some x → M[j]? = some y → x.isRo = true ∨ y.isRo = true ∨ i = j
  obj : ∀ (l : Nat) (a : Addr) (o : O), μ[l]? = some a → M[l]? = some o → ObjRep G μ H a o
structure ER (G : Gm) (μ : List Addr) (H : Hp) (ρ : Env) (σ : St) : Prop where
  len : ρ.length = σ.length
  at_ : ∀ (i : Nat) (d : D), ρ[i]? = some (some d) → ∃ v, σ[i]? = some (some v) ∧ Rep G μ H d v

/-- the heap grew or changed, tuples and locked things stay -/
structure Ext (H H' : Hp) : Prop where
  tup : ∀ a xs, H a = some (.tup xs) → H' a = some (.tup xs)
  frz : ∀ a o u, H a = some (.frz o u) → H' a = some (.frz o u)
  ext : ∀ a φ, H a = some (.ext φ) → H' a = some (.ext φ)
theorem Ext.refl (H : Hp) : Ext H H := ⟨fun _ _ h => h, fun _ _ _ h => h, fun _ _ h => h⟩
theorem Ext.trans {H H1 H2 : Hp} (a : Ext H H1) (b : Ext H1 H2) : Ext H H2 := ⟨fun c x h => b.tup c x (a.tup c x h), fun c o u h => b.frz c o u (a.frz c o u h), fun c u h => b.ext c u (a.ext c u h)⟩
theorem Ext.new {H : Hp} {p : Addr} {o : HO} (h : H p = none) : Ext H (upd H p o) :=
  ⟨fun a xs e => by rw [upd_ne (ne_of_none e h)]; exact e, fun a ob u e => by rw [upd_ne (ne_of_none e h)]; exact e, fun a u e => by rw [upd_ne (ne_of_none e h)]; exact e⟩
theorem Ext.of_ne {H : Hp} {p : Addr} {x o : HO} (h : H p = some x) (h1 : ∀ xs, x ≠ .tup xs) (h2 : ∀ ob u, x ≠ .frz ob u) (h3 : ∀ φ, x ≠ .ext φ) : Ext H (upd H p o) :=
  ⟨fun a ys e => by rw [upd_ne (ne_of e h (fun z => h1 _ z.symm))]; exact e, fun a ob u e => by rw [upd_ne (ne_of e h (fun z => h2 _ _ z.symm))]; exact e, fun a u e => by rw [upd_ne (ne_of e h (fun z => h3 _ z.symm))]; exact e⟩
theorem Ext.lst {H : Hp} {p : Addr} {xs : List V} {o : HO} (h : H p = some (.lst xs)) : Ext H (upd H p o) :=
  .of_ne h (fun _ z => by cases z) (fun _ _ z => by cases z) (fun _ z => by cases z)
theorem Ext.ins {H : Hp} {p : Addr} {C dx fs} {o : HO} (h : H p = some (.ins C dx fs)) : Ext H (upd H p o) :=
  .of_ne h (fun _ z => by cases z) (fun _ _ z => by cases z) (fun _ z => by cases z)
theorem Ext.dk {H : Hp} {p : Addr} {kvs} {o : HO} (h : H p = some (.dK kvs)) : Ext H (upd H p o) :=
  .of_ne h (fun _ z => by cases z) (fun _ _ z => by cases z) (fun _ z => by cases z)
theorem Ext.dt {H : Hp} {p : Addr} {kvs} {o : HO} (h : H p = some (.dT kvs)) : Ext H (upd H p o) :=
  .of_ne h (fun _ z => by cases z) (fun _ _ z => by cases z) (fun _ z => by cases z)
/-- all but the tables of code objects stay -/
theorem Ext.extN {H H' : Hp} (h : LamX.ExtN H H') : Ext H H' :=
  ⟨fun a xs e => h a _ e (fun ps z => by cases z), fun a o u e => h a _ e (fun ps z => by cases z), fun a u e => h a _ e (fun ps z => by cases z)⟩
theorem Ext.sqt {K : PySem.W.Frag} {H H' : Hp} (e : Ext H H') {a : Addr} {xs : List V} (h : SqT K H a xs) : SqT K H' a xs := by
  rcases h with (h | ⟨o, h⟩) | h
  · exact .inl (.inl (e.tup _ _ h))
  · exact .inl (.inr ⟨o, e.frz _ _ _ h⟩)
  · exact .inr h
section
variable {G : Gm} {μ μ' : List Addr} {H H' : Hp}
mutual
theorem RepP.ext {K : PySem.W.Frag} (e : Ext H H') : ∀ {x : P} {v : V}, RepP K H x v → RepP K H' x v
  | .non, _, h => by simpa only [RepP] using h
  | .bl _, _, h => by simpa only [RepP] using h
  | .int _, _, h => by simpa only [RepP] using h
  | .str _, _, h => by simpa only [RepP] using h
  | .tup xs, _, h => by
    simp only [RepP] at h ⊢
    obtain ⟨a, vs, rfl, h1, h2⟩ := h
    exact ⟨a, vs, rfl, e.sqt h1, RepPs.ext e h2⟩
theorem RepPs.ext {K : PySem.W.Frag} (e : Ext H H') : ∀ {xs : List P} {vs : List V}, RepPs K H xs vs → RepPs K H' xs vs
  | [], _, h => by simpa only [RepPs] using h
  | x :: xs, _, h => by
    simp only [RepPs] at h ⊢
    obtain ⟨v, r, rfl, h1, h2⟩ := h
    exact ⟨v, r, rfl, RepP.ext e h1, RepPs.ext e h2⟩
end
theorem pre_get {μ μ' : List Addr} (p : μ <+: μ') {l : Nat} {a : Addr} (h : μ[l]? = some a) : μ'[l]? = some a := by
  obtain ⟨t, rfl⟩ := p
  obtain ⟨hl, e⟩ := List.getElem?_eq_some_iff.mp h
  rw [List.getElem?_append_left hl]
  exact h
mutual
theorem Rep.ext (e : Ext H H') (p : μ <+: μ') : ∀ {x : D} {v : V}, Rep G μ H x v → Rep G μ' H' x v
  | .p x, _, h => by
    simp only [Rep] at h ⊢
    exact RepP.ext e h
  | .ref l, _, h => by
    simp only [Rep] at h ⊢
    obtain ⟨a, h1, h2⟩ := h
    exact ⟨a, pre_get p h1, h2⟩
  | .tup xs, _, h => by
    simp only [Rep] at h ⊢
    obtain ⟨a, vs, rfl, h1, h2⟩ := h
    exact ⟨a, vs, rfl, e.sqt h1, Reps.ext e p h2⟩
  | .gl x, _, h => by
    simpa only [Rep] using h
  | .exv a, _, h => by
    simpa only [Rep] using h
  | .lam f c q, _, h => by
    simp only [Rep] at h ⊢
    exact ⟨h.1, e.ext _ _ h.2⟩
theorem Reps.ext (e : Ext H H') (p : μ <+: μ') : ∀ {xs : List D} {vs : List V}, Reps G μ H xs vs → Reps G μ' H' xs vs
  | [], _, h => by simpa only [Reps] using h
  | x :: xs, _, h => by
    simp only [Reps] at h ⊢
    obtain ⟨v, r, rfl, h1, h2⟩ := h
    exact ⟨v, r, rfl, Rep.ext e p h1, Reps.ext e p h2⟩
end
theorem FsRep.ext {κ : Type} (e : Ext H H') (p : μ <+: μ') : ∀ {fs : List (κ × D)} {gs : List (κ × V)}, FsRep G μ H fs gs → FsRep G μ' H' fs gs
  | [], _, h => h
  | (f, d) :: fs, _, h => by
    obtain ⟨v, r, rfl, h1, h2⟩ := h
    exact ⟨v, r, rfl, Rep.ext e p h1, FsRep.ext e p h2⟩
theorem Reps.length : ∀ {xs : List D} {vs : List V}, Reps G μ H xs vs → xs.length = vs.length
  | [], _, h => by simp only [Reps] at h; subst h; rfl
  | x :: xs, _, h => by
    simp only [Reps] at h
    obtain ⟨v, r, rfl, h1, h2⟩ := h
    rw [List.length_cons, List.length_cons, Reps.length h2]
theorem RepPs.length {K : PySem.W.Frag} : ∀ {xs : List P} {vs : List V}, RepPs K H xs vs → xs.length = vs.length
  | [], _, h => by simp only [RepPs] at h; subst h; rfl
  | x :: xs, _, h => by
    simp only [RepPs] at h
    obtain ⟨v, r, rfl, h1, h2⟩ := h
    rw [List.length_cons, List.length_cons, RepPs.length h2]
theorem Reps.nil : Reps G μ H [] [] := by simp only [Reps]
theorem Reps.cons {x xs v vs} (h : Rep G μ H x v) (t : Reps G μ H xs vs) : Reps G μ H (x :: xs) (v :: vs) := by
  simp only [Reps]
  exact ⟨v, vs, rfl, h, t⟩
theorem Reps.inv {x xs ws} (h : Reps G μ H (x :: xs) ws) : ∃ v vs, ws = v :: vs ∧ Rep G μ H x v ∧ Reps G μ H xs vs := by
  simpa only [Reps] using h
theorem Reps.inv0 {ws} (h : Reps G μ H [] ws) : ws = [] := by
  simpa only [Reps] using h
theorem Reps.app : ∀ {xs ys : List D} {vs ws : List V}, Reps G μ H xs vs → Reps G μ H ys ws → Reps G μ H (xs ++ ys) (vs ++ ws)
  | [], _, _, _, h, t => by rw [h.inv0]; exact t
  | x :: xs, _, _, _, h, t => by
    obtain ⟨v, r, rfl, h1, h2⟩ := h.inv
    exact .cons h1 (Reps.app h2 t)
theorem Reps.get : ∀ {xs : List D} {vs : List V}, Reps G μ H xs vs → ∀ {i : Nat} {x : D}, xs[i]? = some x → ∃ v, vs[i]? = some v ∧ Rep G μ H x v
  | [], _, _, i, x, e => by simp at e
  | y :: xs, _, h, 0, x, e => by
    obtain ⟨v, r, rfl, h1, h2⟩ := h.inv
    simp at e
    subst e
    exact ⟨v, rfl, h1⟩
  | y :: xs, _, h, i + 1, x, e => by
    obtain ⟨v, r, rfl, h1, h2⟩ := h.inv
    obtain ⟨u, e1, e2⟩ := Reps.get h2 (i := i) (x := x) (by simpa using e)
    exact ⟨u, by simpa using e1, e2⟩
theorem Reps.drop : ∀ {xs : List D} {vs : List V} (n : Nat), Reps G μ H xs vs → Reps G μ H (xs.drop n) (vs.drop n)
  | _, _, 0, h => h
  | [], _, n + 1, h => by rw [h.inv0]; exact .nil
  | x :: xs, _, n + 1, h => by
    obtain ⟨v, r, rfl, h1, h2⟩ := h.inv
    exact Reps.drop n h2
theorem Reps.take : ∀ {xs : List D} {vs : List V} (n : Nat), Reps G μ H xs vs → Reps G μ H (xs.take n) (vs.take n)
  | _, _, 0, h => .nil
  | [], _, n + 1, h => by rw [h.inv0]; exact .nil
  | x :: xs, _, n + 1, h => by
    obtain ⟨v, r, rfl, h1, h2⟩ := h.inv
    exact .cons h1 (Reps.take n h2)
theorem Reps.rev : ∀ {xs : List D} {vs : List V}, Reps G μ H xs vs → Reps G μ H xs.reverse vs.reverse
  | [], _, h => by rw [h.inv0]; exact .nil
  | x :: xs, _, h => by
    obtain ⟨v, r, rfl, h1, h2⟩ := h.inv
    rw [List.reverse_cons, List.reverse_cons]
    exact Reps.app (Reps.rev h2) (.cons h1 .nil)
theorem Reps.set : ∀ {xs : List D} {vs : List V} (i : Nat) {x : D} {v : V}, Reps G μ H xs vs → Rep G μ H x v → Reps G μ H (xs.set i x) (vs.set i v)
  | [], _, _, _, _, h, _ => by rw [h.inv0]; exact .nil
  | y :: xs, _, 0, x, v, h, hx => by
    obtain ⟨u, r, rfl, h1, h2⟩ := h.inv
    exact .cons hx h2
  | y :: xs, _, i + 1, x, v, h, hx => by
    obtain ⟨u, r, rfl, h1, h2⟩ := h.inv
    exact .cons h1 (Reps.set i h2 hx)
theorem Reps.dropLast {xs : List D} {vs : List V} (h : Reps G μ H xs vs) : Reps G μ H xs.dropLast vs.dropLast := by
  rw [List.dropLast_eq_take, List.dropLast_eq_take, h.length]
  exact h.take _
theorem Reps.of_P : ∀ {xs : List P} {vs : List V}, RepPs G.K H xs vs → Reps G μ H (xs.map D.p) vs
  | [], _, h => by simp only [RepPs] at h; subst h; exact .nil
  | x :: xs, _, h => by
    simp only [RepPs] at h
    obtain ⟨v, r, rfl, h1, h2⟩ := h
    exact .cons (by simpa only [Rep] using h1) (Reps.of_P h2)
theorem Reps.to_P : ∀ {xs : List P} {vs : List V}, Reps G μ H (xs.map D.p) vs → RepPs G.K H xs vs
  | [], _, h => by rw [h.inv0]; simp only [RepPs]
  | x :: xs, _, h => by
    obtain ⟨v, r, rfl, h1, h2⟩ := h.inv
    simp only [RepPs]
    exact ⟨v, r, rfl, by simpa only [Rep] using h1, Reps.to_P h2⟩
/-- the object at a stands as it stood, or it is of the written part -/
theorem ObjRep.ext (e : Ext H H') (p : μ <+: μ') {a : Addr} {o : O} (h : ObjRep G μ H a o) (st : H' a = H a ∨ (o.isRo = true ∧ ∀ ob u, H a ≠ some (.frz ob u))) : ObjRep G μ' H' a o := by
  cases o with
  | lst xs =>
    rcases st with st | st
    · obtain ⟨vs, h1, h2⟩ := h; exact ⟨vs, by rw [st]; exact h1, h2.ext e p⟩
    · cases st.1
  | ro xs =>
    obtain ⟨vs, h1, h2⟩ := h
    refine ⟨vs, ?_, h2.ext e p⟩
    rcases h1 with ⟨ob, h1⟩ | h1
    · rcases st with st | st
      · exact .inl ⟨ob, by rw [st]; exact h1⟩
      · exact absurd h1 (st.2 _ _)
    · exact .inr h1
  | ins c fs =>
    rcases st with st | st
    · obtain ⟨C, dx, gs, h0, h1, h2⟩ := h; exact ⟨C, dx, gs, h0, by rw [st]; exact h1, h2.ext e p⟩
    · cases st.1
  | dk kvs =>
    rcases st with st | st
    · obtain ⟨ws, h1, h2⟩ := h; exact ⟨ws, by rw [st]; exact h1, h2.ext e p⟩
    · cases st.1
  | dt kvs =>
    rcases st with st | st
    · obtain ⟨ws, h1, h2⟩ := h; exact ⟨ws, by rw [st]; exact h1, h2.ext e p⟩
    · cases st.1
  | tab x =>
    rcases st with st | st
    · obtain ⟨h0, ps, h1, h2, h3⟩ := h
      refine ⟨h0, ps, by rw [st]; exact h1, h2, fun pos cv hc => ?_⟩
      obtain ⟨c, e1, e2⟩ := h3 pos cv hc
      exact ⟨c, e1, e.ext _ _ e2⟩
    · cases st.1
theorem ObjRep.some {a : Addr} {o : O} (h : ObjRep G μ H a o) (n : o.isRo = false) : ∃ u, H a = some u := by
  cases o with
  | lst xs => obtain ⟨vs, h1, h2⟩ := h; exact ⟨_, h1⟩
  | ro xs => cases n
  | ins c fs => obtain ⟨C, dx, gs, h0, h1, h2⟩ := h; exact ⟨_, h1⟩
  | dk kvs => obtain ⟨ws, h1, h2⟩ := h; exact ⟨_, h1⟩
  | dt kvs => obtain ⟨ws, h1, h2⟩ := h; exact ⟨_, h1⟩
  | tab x => obtain ⟨h0, ps, h1, h2, h3⟩ := h; exact ⟨_, h1⟩
theorem SR.at_ {M : Store} (S : SR G μ H M) {l : Nat} {a : Addr} (h : μ[l]? = some a) : ∃ o, M[l]? = some o ∧ ObjRep G μ H a o := by
  have hl : l < M.length := by
    rw [← S.len]
    exact (List.getElem?_eq_some_iff.mp h).1
  exact ⟨M[l], List.getElem?_eq_getElem hl, S.obj l a _ h (List.getElem?_eq_getElem hl)⟩
theorem SR.adr {M : Store} (S : SR G μ H M) {l : Nat} {o : O} (h : M[l]? = some o) : ∃ a, μ[l]? = some a ∧ ObjRep G μ H a o := by
  have hl : l < μ.length := by
    rw [S.len]
    exact (List.getElem?_eq_some_iff.mp h).1
  exact ⟨μ[l], List.getElem?_eq_getElem hl, S.obj l _ o (List.getElem?_eq_getElem hl) h⟩
/-- what stands at a new place: nothing but a list of the written part -/
theorem ObjRep.at_new {a p : Addr} {o : O} {u : HO} (h : ObjRep G μ H a o) (hp : H p = none) : (upd H p u) a = H a ∨ (o.isRo = true ∧ ∀ ob w, H a ≠ Option.some (.frz ob w)) := by
  by_cases e : a = p
  · subst e
    cases q : o.isRo with
    | false =>
      obtain ⟨v, hv⟩ := h.some q
      rw [hp] at hv
      cases hv
    | true => exact .inr ⟨rfl, fun ob w z => by rw [hp] at z; cases z⟩
  · exact .inl (upd_ne e)
theorem isRo_new {a : Addr} {o : O} (h : ObjRep G μ H a o) (hp : H a = none) : o.isRo = true := by
  cases q : o.isRo with
  | true => rfl
  | false =>
    obtain ⟨v, hv⟩ := h.some q
    rw [hp] at hv
    cases hv
/-- a new object of the store -/
theorem SR.new {M : Store} (S : SR G μ H M) {p : Addr} {o : O} {u : HO} (hp : H p = none) (h : ObjRep G (μ ++ [p]) (upd H p u) p o) : SR G (μ ++ [p]) (upd H p u) (M ++ [o]) := by
  have old : ∀ {l : Nat} {a : Addr} {x : O}, (μ ++ [p])[l]? = some a → (M ++ [o])[l]? = some x → (l < μ.length ∧ μ[l]? = some a ∧ M[l]? = some x) ∨ (l = μ.length ∧ a = p ∧ x = o) := fun {l a x} h1 h2 => by
    by_cases hl : l < μ.length
    · rw [List.getElem?_append_left hl] at h1
      rw [List.getElem?_append_left (by rw [← S.len]; exact hl)] at h2
      exact .inl ⟨hl, h1, h2⟩
    · have e1 : l = μ.length := by
        have := (List.getElem?_eq_some_iff.mp h1).1
        simp at this
        omega
      subst e1
      refine .inr ⟨rfl, by simpa using h1.symm, ?_⟩
      rw [S.len] at h2
      simpa using h2.symm
  refine ⟨by simp [S.len], fun i j a x y h1 h2 h3 h4 => ?_, fun l a ob h1 h2 => ?_⟩
  · rcases old h1 h3 with ⟨_, k1, k3⟩ | ⟨k0, k1, k3⟩
    · rcases old h2 h4 with ⟨_, k2, k4⟩ | ⟨_, k2, k4⟩
      · exact S.nd i j a x y k1 k2 k3 k4
      · subst k2
        exact .inl (isRo_new (S.obj i a x k1 k3) hp)
    · rcases old h2 h4 with ⟨_, k2, k4⟩ | ⟨k5, k2, k4⟩
      · subst k1
        exact .inr (.inl (isRo_new (S.obj j a y k2 k4) hp))
      · exact .inr (.inr (by rw [k0, k5]))
  · rcases old h1 h2 with ⟨_, k1, k2⟩ | ⟨_, k1, k2⟩
    · have r := S.obj l a ob k1 k2
      exact r.ext (.new hp) (List.prefix_append _ _) (r.at_new hp)
    · rw [k1, k2]
      exact h
/-- another heap with more in it -/
theorem SR.grow {M : Store} (S : SR G μ H M) {p : Addr} {u : HO} (hp : H p = none) : SR G μ (upd H p u) M :=
  ⟨S.len, S.nd, fun l a o h1 h2 => (S.obj l a o h1 h2).ext (.new hp) (List.prefix_refl _) ((S.obj l a o h1 h2).at_new hp)⟩
/-- an object of the store is changed -/
theorem SR.put {M : Store} (S : SR G μ H M) {l : Nat} {a : Addr} {o o0 : O} {u : HO} (h : μ[l]? = some a) (h0 : M[l]? = some o0) (n0 : o0.isRo = false) (n1 : o.isRo = false) (nf : ∀ ob w, H a ≠ Option.some (.frz ob w)) (e : Ext H (upd H a u)) (r : ObjRep G μ (upd H a u) a o) : SR G μ (upd H a u) (M.set l o) := by
  have hlt : l < M.length := by rw [← S.len]; exact (List.getElem?_eq_some_iff.mp h).1
  have old : ∀ {k : Nat} {x : O}, (M.set l o)[k]? = some x → (k = l ∧ x = o) ∨ (k ≠ l ∧ M[k]? = some x) := fun {k x} h2 => by
    by_cases hk : k = l
    · subst hk
      rw [List.getElem?_set_self hlt] at h2
      exact .inl ⟨rfl, (Option.some.inj h2).symm⟩
    · rw [List.getElem?_set_ne (Ne.symm hk)] at h2
      exact .inr ⟨hk, h2⟩
  refine ⟨by simp [S.len], fun i j b x y h1 h2 h3 h4 => ?_, fun k b ob h1 h2 => ?_⟩
  · rcases old h3 with ⟨k1, k2⟩ | ⟨k1, k2⟩
    · rcases old h4 with ⟨k3, k4⟩ | ⟨k3, k4⟩
      · exact .inr (.inr (by rw [k1, k3]))
      · subst k1
        rcases S.nd i j b o0 y h1 h2 h0 k4 with z | z | z
        · rw [n0] at z; cases z
        · exact .inr (.inl z)
        · exact .inr (.inr z)
    · rcases old h4 with ⟨k3, k4⟩ | ⟨k3, k4⟩
      · subst k3
        rcases S.nd i j b x o0 h1 h2 k2 h0 with z | z | z
        · exact .inl z
        · rw [n0] at z; cases z
        · exact .inr (.inr z)
      · exact S.nd i j b x y h1 h2 k2 k4
  · rcases old h2 with ⟨k1, k2⟩ | ⟨k1, k2⟩
    · subst k1
      rw [h] at h1
      cases h1
      rw [k2]
      exact r
    · refine (S.obj k b ob h1 k2).ext e (List.prefix_refl _) ?_
      by_cases z : b = a
      · subst z
        rcases S.nd k l b ob o0 h1 h k2 h0 with q | q | q
        · exact .inr ⟨q, nf⟩
        · rw [n0] at q; cases q
        · exact absurd q k1
      · exact .inl (upd_ne z)
theorem ER.ext (e : Ext H H') (p : μ <+: μ') {ρ : Env} {σ : St} (h : ER G μ H ρ σ) : ER G μ' H' ρ σ :=
  ⟨h.len, fun i d q => by
    obtain ⟨v, h1, h2⟩ := h.at_ i d q
    exact ⟨v, h1, h2.ext e p⟩⟩
theorem ER.set {ρ : Env} {σ : St} (h : ER G μ H ρ σ) (i : Nat) {d : D} {v : V} (r : Rep G μ H d v) : ER G μ H (ρ.set i (some d)) (σ.set i (some v)) :=
  ⟨by simp [h.len], fun j e q => by
    by_cases hj : j = i
    · subst hj
      have hlt : j < ρ.length := by
        have := (List.getElem?_eq_some_iff.mp q).1
        simpa using this
      rw [List.getElem?_set_self hlt] at q
      cases q
      exact ⟨v, by rw [List.getElem?_set_self (by rw [← h.len]; exact hlt)], r⟩
    · rw [List.getElem?_set_ne (Ne.symm hj)] at q ⊢
      exact h.at_ j e q⟩
end

/-! ### what comes of a piece of code -/
inductive R (α : Type) where
  | ok (a : α) (M : Store) | ex (c : Str) (fs : Option (List (Str × D))) (M : Store) | no
def R.bind {α β : Type} : R α → (α → Store → R β) → R β
  | .ok a M, g => g a M
  | .ex c fs M, _ => .ex c fs M
  | .no, _ => .no
inductive Out where
  | nx (ρ : Env) (M : Store) | rt (d : D) (M : Store) | bk (ρ : Env) (M : Store) | ct (ρ : Env) (M : Store) | ex (c : Str) (fs : Option (List (Str × D))) (ρ : Env) (M : Store) | no
def Out.bind : Out → (Env → Store → Out) → Out
  | .nx ρ M, g => g ρ M
  | o, _ => o
def R.out {α : Type} (ρ : Env) : R α → (α → Store → Out) → Out
  | .ok a M, g => g a M
  | .ex c fs M, _ => .ex c fs ρ M
  | .no, _ => .no
abbrev RX (α : Type) := Env → Store → R α
abbrev RE := RX D
abbrev RT := RX Bool
abbrev RA := RX (List D)
abbrev RS := Env → Store → Out
@[simp] theorem R.bind_ok {α β : Type} (a : α) (M : Store) (g : α → Store → R β) : (R.ok a M).bind g = g a M := (rfl)
@[simp] theorem R.bind_ex {α β : Type} (c fs M) (g : α → Store → R β) : (R.ex c fs M).bind g = .ex c fs M := (rfl)
@[simp] theorem R.bind_no {α β : Type} (g : α → Store → R β) : (R.no).bind g = .no := (rfl)
@[simp] theorem R.out_ok {α : Type} (ρ : Env) (a : α) (M : Store) (g : α → Store → Out) : (R.ok a M).out ρ g = g a M := (rfl)
@[simp] theorem R.out_ex {α : Type} (ρ : Env) (c fs M) (g : α → Store → Out) : (R.ex c fs M).out ρ g = .ex c fs ρ M := (rfl)
@[simp] theorem R.out_no {α : Type} (ρ : Env) (g : α → Store → Out) : (R.no).out ρ g = .no := (rfl)
@[simp] theorem Out.bind_nx (ρ M) (g : Env → Store → Out) : (Out.nx ρ M).bind g = g ρ M := (rfl)
@[simp] theorem Out.bind_rt (d M) (g : Env → Store → Out) : (Out.rt d M).bind g = .rt d M := (rfl)
@[simp] theorem Out.bind_bk (ρ M) (g : Env → Store → Out) : (Out.bk ρ M).bind g = .bk ρ M := (rfl)
@[simp] theorem Out.bind_ct (ρ M) (g : Env → Store → Out) : (Out.ct ρ M).bind g = .ct ρ M := (rfl)
@[simp] theorem Out.bind_ex (c fs ρ M) (g : Env → Store → Out) : (Out.ex c fs ρ M).bind g = .ex c fs ρ M := (rfl)
@[simp] theorem Out.bind_no (g : Env → Store → Out) : (Out.no).bind g = .no := (rfl)

/-- how an exception's own fields lie -/
def XR (G : Gm) (μ : List Addr) (H : Hp) : Option (List (Str × D)) → Option Addr → Prop
  | none, d => d = none
  | some fs, d => ∃ a gs, d = some a ∧ H a = some (.xd gs) ∧ FsRep G μ H fs gs
/-- the class that a name stands for -/
def cval (G : Gm) (c : Str) : Value := (G.mg c).getD .none
section
variable {α β γ ι κ : Type} (G : Gm) (rel : List Addr → Hp → α → ι → Prop) (W : WX) (μ : List Addr) (σ : St) (H : Hp) (Q : ι → Hp → Prop)
def Fin : R α → Prop
  | .ok d M => ∀ μ' v H', Ext H H' → μ <+: μ' → SR G μ' H' M → rel μ' H' d v → Q v H'
  | .ex c fs M => ∀ μ' H' dx, Ext H H' → μ <+: μ' → SR G μ' H' M → XR G μ' H' fs dx → W (cval G c) dx σ H'
  | .no => False
end
def tX {α ι : Type} (G : Gm) (rel : List Addr → Hp → α → ι → Prop) (W : WX) (f : RX α) (σ : St) (H : Hp) (Q : ι → Hp → Prop) : Prop :=
  ∃ μ ρ M, ER G μ H ρ σ ∧ SR G μ H M ∧ Fin G rel W μ σ H Q (f ρ M)
abbrev tE (G : Gm) (W : WX) (f : RE) : TE := tX G (Rep G) W f
abbrev tT (G : Gm) (W : WX) (f : RT) : TT := tX G (fun _ _ (a b : Bool) => a = b) W f
abbrev tA (G : Gm) (W : WX) (f : RA) : TA := tX G (Reps G) W f
/-- what holds behind the first part: the rest is to come -/
def Go {α β ι κ : Type} (G : Gm) (rel : List Addr → Hp → α → ι → Prop) (rel2 : List Addr → Hp → β → κ → Prop) (W : WX) (g : α → RX β) (σ : St) (Q : κ → Hp → Prop) (v : ι) (H : Hp) : Prop :=
  ∃ μ ρ M a, ER G μ H ρ σ ∧ SR G μ H M ∧ rel μ H a v ∧ Fin G rel2 W μ σ H Q (g a ρ M)
section
variable {α β γ ι κ τ : Type} {G : Gm} {rel : List Addr → Hp → α → ι → Prop} {rel2 : List Addr → Hp → β → κ → Prop} {rel3 : List Addr → Hp → γ → τ → Prop} {W : WX} {μ μ1 : List Addr} {σ : St} {H H1 : Hp} {Q : ι → Hp → Prop} {Q2 : κ → Hp → Prop}
theorem Fin.later {r : R α} (e : Ext H H1) (p : μ <+: μ1) (h : Fin G rel W μ σ H Q r) : Fin G rel W μ1 σ H1 Q r := by
  cases r with
  | ok d M => exact fun μ' v H' e' p' => h μ' v H' (e.trans e') (p.trans p')
  | ex c fs M => exact fun μ' H' dx e' p' => h μ' H' dx (e.trans e') (p.trans p')
  | no => exact h
theorem Fin.mono {r : R α} {Q' : ι → Hp → Prop} (h : Fin G rel W μ σ H Q r) (hq : ∀ v H', Q v H' → Q' v H') : Fin G rel W μ σ H Q' r := by
  cases r with
  | ok d M => exact fun μ' v H' e' p' s r => hq _ _ (h μ' v H' e' p' s r)
  | ex c fs M => exact h
  | no => exact h
theorem tX.bind {f : RX α} {g : α → RX β} (h : tX G rel2 W (fun ρ M => (f ρ M).bind fun a M1 => g a ρ M1) σ H Q2) : tX G rel W f σ H (Go G rel rel2 W g σ Q2) := by
  obtain ⟨μ, ρ, M, hE, hS, hF⟩ := h
  have hF : Fin G rel2 W μ σ H Q2 ((f ρ M).bind fun a M1 => g a ρ M1) := hF
  refine ⟨μ, ρ, M, hE, hS, ?_⟩
  cases q : f ρ M with
  | ok a M1 =>
    rw [q] at hF
    intro μ' v H' e p s r
    exact ⟨μ', ρ, M1, a, hE.ext e p, s, r, Fin.later e p hF⟩
  | ex c fs M1 =>
    rw [q] at hF
    exact hF
  | no =>
    rw [q] at hF
    exact hF
theorem tX.mono {f : RX α} {Q' : ι → Hp → Prop} (h : tX G rel W f σ H Q) (hq : ∀ v H', Q v H' → Q' v H') : tX G rel W f σ H Q' := by
  obtain ⟨μ, ρ, M, hE, hS, hF⟩ := h
  exact ⟨μ, ρ, M, hE, hS, hF.mono hq⟩
/-- what holds behind two parts -/
def Go2 (G : Gm) (rel : List Addr → Hp → α → ι → Prop) (rel2 : List Addr → Hp → β → κ → Prop) (rel3 : List Addr → Hp → γ → τ → Prop) (W : WX) (g : α → β → RX γ) (σ : St) (Q : τ → Hp → Prop) (v : ι) (u : κ) (H : Hp) : Prop :=
  ∃ μ ρ M a b, ER G μ H ρ σ ∧ SR G μ H M ∧ rel μ H a v ∧ rel2 μ H b u ∧ Fin G rel3 W μ σ H Q (g a b ρ M)
theorem Go.bind {f2 : RX β} {g : α → β → RX γ} {Q3 : τ → Hp → Prop} {v : ι} (mono : ∀ μ μ' H H' a v, Ext H H' → μ <+: μ' → rel μ H a v → rel μ' H' a v)
    (h : Go G rel rel3 W (fun a ρ M => (f2 ρ M).bind fun b M2 => g a b ρ M2) σ Q3 v H) : tX G rel2 W f2 σ H (Go2 G rel rel2 rel3 W g σ Q3 v) := by
  obtain ⟨μ, ρ, M, a, hE, hS, ra, hF⟩ := h
  have hF : Fin G rel3 W μ σ H Q3 ((f2 ρ M).bind fun b M2 => g a b ρ M2) := hF
  refine ⟨μ, ρ, M, hE, hS, ?_⟩
  cases q : f2 ρ M with
  | ok b M1 =>
    rw [q] at hF
    intro μ' v H' e p s r
    exact ⟨μ', ρ, M1, a, b, hE.ext e p, s, mono _ _ _ _ _ _ e p ra, r, Fin.later e p hF⟩
  | ex c fs M1 =>
    rw [q] at hF
    exact hF
  | no =>
    rw [q] at hF
    exact hF
end
end Fl

set_option Elab.async false
set_option linter.all false
set_option maxRecDepth 100000
/-! Fl, part B: expressions. -/
namespace Fl
open PySem PySem.Spec L2
set_option autoImplicit false

def gm (X : Cx) : Gm := ⟨X.K, X.mg⟩
theorem PEimp {X : Cx} {e : Expr} {t t' : TE} (h : PE X e t) (w : ∀ σ H Q, t' σ H Q → t σ H Q) : PE X e t' := ⟨fun pins s σ H Q I q => h.run pins s σ H Q I (w σ H Q q)⟩
theorem PTimp {X : Cx} {e : Expr} {t t' : TT} (h : PT X e t) (w : ∀ σ H Q, t' σ H Q → t σ H Q) : PT X e t' := ⟨fun pins s σ H Q I q => h.run pins s σ H Q I (w σ H Q q)⟩
theorem PAimp {X : Cx} {e : List Expr} {t t' : TA} (h : PA X e t) (w : ∀ σ H Q, t' σ H Q → t σ H Q) : PA X e t' := ⟨fun pos pins s σ H Q I q => h.run pos pins s σ H Q I (w σ H Q q)⟩
theorem PWimp {X : Cx} {e : Expr} {t t' : TT} (h : PW X e t) (w : ∀ σ H Q, t' σ H Q → t σ H Q) : PW X e t' := ⟨fun wh pins s σ H Q I q => h.run wh pins s σ H Q I (w σ H Q q)⟩

def ofO {α : Type} : Option (α × Store) → R α
  | some (a, M) => .ok a M
  | none => .no
@[simp] theorem ofO_some {α : Type} (a : α) (M : Store) : ofO (some (a, M)) = .ok a M := (rfl)
@[simp] theorem ofO_none {α : Type} : ofO (none : Option (α × Store)) = .no := (rfl)

/-! ### names, constants -/
def rVar (i : Nat) : RE := fun ρ M => match ρ[i]? with
  | some (some d) => .ok d M
  | _ => .no
def rC (d : D) : RE := fun _ M => .ok d M
section
variable {X : Cx} {W : WX}
theorem i_var (i : Nat) {x : Str} {pos : Pos} (hN : X.N[i]? = some x := by rfl) (hv : Vis X.env.scope x := by first | exact Or.inl rfl | exact Or.inr (Or.inl rfl) | exact Or.inr (Or.inr rfl)) (hd : (x == ("__debug__" : Str)) = false := by decide)
    (hcd : (x == ("__classdict__" : Str)) = false := by decide) : PE X (.Name x pos) (tE (gm X) W (rVar i)) := by
  refine PEimp (pv i hN hv hd hcd) fun σ H Q h => ?_
  obtain ⟨μ, ρ, M, hE, hS, hF⟩ := h
  unfold rVar at hF
  split at hF
  · rename_i d e
    obtain ⟨v, e1, r⟩ := hE.at_ i d e
    exact ⟨v, e1, hF μ v H (.refl H) (List.prefix_refl _) hS r⟩
  · exact hF.elim
theorem rC_of {d : D} {v : V} {σ : St} {H : Hp} {Q : VK} (h : tE (gm X) W (rC d) σ H Q) (r : ∀ μ, Rep (gm X) μ H d v) : Q v H := by
  obtain ⟨μ, ρ, M, hE, hS, hF⟩ := h
  exact hF μ v H (.refl H) (List.prefix_refl _) hS (r μ)
theorem i_int {i : Int} {j pos} : PE X (.Constant (.int i) j pos) (tE (gm X) W (rC (.p (.int i)))) := PEimp pe_int fun σ H Q h => rC_of h fun μ => by simp only [Rep, RepP]
theorem i_bl {b : Bool} {j pos} : PE X (.Constant (.bool b) j pos) (tE (gm X) W (rC (.p (.bl b)))) := PEimp pe_bl fun σ H Q h => rC_of h fun μ => by simp only [Rep, RepP]
theorem i_non {j pos} : PE X (.Constant .none j pos) (tE (gm X) W (rC (.p .non))) := PEimp pe_non fun σ H Q h => rC_of h fun μ => by simp only [Rep, RepP]
theorem i_str {x : Str} {j pos} : PE X (.Constant (.str x) j pos) (tE (gm X) W (rC (.p (.str x)))) := PEimp pe_str fun σ H Q h => rC_of h fun μ => by simp only [Rep, RepP]
/-- a name of the module that stands for the data d -/
structure Cst (G : Gm) (x : Str) (d : D) : Prop where
  is_ : ∃ v u, G.mg x = some u ∧ RelV v u ∧ ∀ μ H, Rep G μ H d v
theorem i_glob {x : Str} {d : D} {pos : Pos} (hg : Gl X x) (c : Cst (gm X) x d) (hd : (x == ("__debug__" : Str)) = false := by decide) : PE X (.Name x pos) (tE (gm X) W (rC d)) := by
  obtain ⟨v, u, h1, h2, h3⟩ := c.is_
  exact PEimp (pe_glob hg h1 h2 hd) fun σ H Q h => rC_of h fun μ => h3 μ H
end

/-! ### operators -/
def OpD (G : Gm) (op : D → D → Store → Option (D × Store)) (r : R2) : Prop :=
  ∀ (μ : List Addr) (H : Hp) (M : Store) (x y : D) (v u : V) (Q : VK) (d : D) (M' : Store), SR G μ H M → Rep G μ H x v → Rep G μ H y u → op x y M = some (d, M') →
    (∀ μ' w H', Ext H H' → μ <+: μ' → SR G μ' H' M' → Rep G μ' H' d w → Q w H') → r v u H Q
def rBin (op : D → D → Store → Option (D × Store)) (fa fb : RE) : RE := fun ρ M => (fa ρ M).bind fun x M1 => (fb ρ M1).bind fun y M2 => ofO (op x y M2)
section
variable {X : Cx} {W : WX} {a b e : Expr} {fa fb : RE} {pos : Pos}
theorem Rep.mono {G : Gm} : ∀ (μ μ' : List Addr) (H H' : Hp) (a : D) (v : V), Ext H H' → μ <+: μ' → Rep G μ H a v → Rep G μ' H' a v := fun _ _ _ _ _ _ e p h => h.ext e p
theorem Reps.mono {G : Gm} : ∀ (μ μ' : List Addr) (H H' : Hp) (a : List D) (v : List V), Ext H H' → μ <+: μ' → Reps G μ H a v → Reps G μ' H' a v := fun _ _ _ _ _ _ e p h => h.ext e p
theorem bin_in {op r} (hd : OpD (gm X) op r) {σ : St} {H : Hp} {Q : VK} (h : tE (gm X) W (rBin op fa fb) σ H Q) : tOp r (tE (gm X) W fa) (tE (gm X) W fb) σ H Q := by
  refine (tX.bind h).mono fun v H1 g1 => ?_
  refine (Go.bind Rep.mono g1).mono fun u H2 g2 => ?_
  obtain ⟨μ, ρ, M, x, y, hE, hS, rx, ry, hF⟩ := g2
  have hF : Fin (gm X) (Rep (gm X)) W μ σ H2 Q (ofO (op x y M)) := hF
  cases q : op x y M with
  | none => rw [q] at hF; exact hF.elim
  | some p =>
    obtain ⟨d, M'⟩ := p
    rw [q] at hF
    exact hd μ H2 M x y v u Q d M' hS rx ry q hF
theorem i_bin {o : Operator} {op r} (ho : OpR X (binaryOp o) r) (hd : OpD (gm X) op r) (ha : PE X a (tE (gm X) W fa)) (hb : PE X b (tE (gm X) W fb)) : PE X (.BinOp a o b pos) (tE (gm X) W (rBin op fa fb)) :=
  PEimp (pe_op ho ha hb) fun _ _ _ h => bin_in hd h
theorem i_cmp {o : CmpOp} {op r} (ho : OpR X (compareOp o) r) (hd : OpD (gm X) op r) (ha : PE X a (tE (gm X) W fa)) (hb : PE X b (tE (gm X) W fb)) (hm : behindInMarks o b = false := by first | exact nomark _ | rfl) : PE X (.Compare a [o] [b] pos) (tE (gm X) W (rBin op fa fb)) :=
  PEimp (pe_cmpR ho ha hb hm) fun _ _ _ h => bin_in hd h
/-- a[b] -/
theorem i_ix {op r} (ho : IxR X r) (hd : OpD (gm X) op r) (ha : PE X a (tE (gm X) W fa)) (hb : PE X b (tE (gm X) W fb)) (hs : PlainIx b := by exact fun _ _ => rfl) : PE X (.Subscript a b pos) (tE (gm X) W (rBin op fa fb)) :=
  PEimp (pe_ix ho ha hb hs) fun _ _ _ h => bin_in hd h
end
/-- a test of a value, without a change -/
def rTst (t : D → Store → Option Bool) (fa : RE) : RT := fun ρ M => (fa ρ M).bind fun x M1 => match t x M1 with
  | some b => .ok b M1
  | none => .no
def asBool : D → Store → Option Bool
  | .p (.bl b), _ => some b
  | _, _ => none
def OpU (G : Gm) (op : D → Store → Option (D × Store)) (r : V → Hp → VK → Prop) : Prop :=
  ∀ (μ : List Addr) (H : Hp) (M : Store) (x : D) (v : V) (Q : VK) (d : D) (M' : Store), SR G μ H M → Rep G μ H x v → op x M = some (d, M') →
    (∀ μ' w H', Ext H H' → μ <+: μ' → SR G μ' H' M' → Rep G μ' H' d w → Q w H') → r v H Q
def rUn (op : D → Store → Option (D × Store)) (fa : RE) : RE := fun ρ M => (fa ρ M).bind fun x M1 => ofO (op x M1)
section
variable {X : Cx} {W : WX} {a b e : Expr} {fa fb : RE} {pos : Pos}
theorem un_in {op r} (hd : OpU (gm X) op r) {σ : St} {H : Hp} {Q : VK} (h : tE (gm X) W (rUn op fa) σ H Q) : tUn r (tE (gm X) W fa) σ H Q := by
  refine (tX.bind h).mono fun v H1 g1 => ?_
  obtain ⟨μ, ρ, M, x, hE, hS, rx, hF⟩ := g1
  have hF : Fin (gm X) (Rep (gm X)) W μ σ H1 Q (ofO (op x M)) := hF
  cases q : op x M with
  | none => rw [q] at hF; exact hF.elim
  | some p =>
    obtain ⟨d, M'⟩ := p
    rw [q] at hF
    exact hd μ H1 M x v Q d M' hS rx q hF
theorem i_un {o : UnaryOp} {op r} (ho : UnR X (unaryOp o) r) (hd : OpU (gm X) op r) (ha : PE X a (tE (gm X) W fa)) : PE X (.UnaryOp o a pos) (tE (gm X) W (rUn op fa)) :=
  PEimp (pe_un ho ha) fun _ _ _ h => un_in hd h
end

/-! ### arithmetic of data -/
def mulOk (i j : Int) : Prop := ((-(2 ^ 64) < i ∧ i < 2 ^ 64) ∨ (-(2 ^ 64) < j ∧ j < 2 ^ 64)) ∨ i.natAbs.log2 + j.natAbs.log2 < 1000000
def divOk (j : Int) : Prop := 0 < j ∧ j.natAbs.log2 < 9000
open Classical in
noncomputable def dAdd : D → D → Store → Option (D × Store)
  | .p (.int i), .p (.int j), M => some (.p (.int (i + j)), M)
  | .p (.str x), .p (.str y), M => if x.length + y.length ≤ sizeLine then some (.p (.str (x ++ y)), M) else none
  | .p (.tup xs), .p (.tup ys), M => if xs.length + ys.length ≤ sizeLine then some (.p (.tup (xs ++ ys)), M) else none
  | .ref l, .ref k, M => (match M[l]?, M[k]? with
    | some (.lst xs), some (.lst ys) => if xs.length + ys.length ≤ sizeLine then some (.ref M.length, M ++ [.lst (xs ++ ys)]) else none
    | _, _ => none)
  | _, _, _ => none
def dSub : D → D → Store → Option (D × Store)
  | .p (.int i), .p (.int j), M => some (.p (.int (i - j)), M)
  | _, _, _ => none
open Classical in
noncomputable def dMul : D → D → Store → Option (D × Store)
  | .p (.int i), .p (.int j), M => if mulOk i j then some (.p (.int (i * j)), M) else none
  | .ref l, .p (.int k), M => (match M[l]? with
    | some (.lst xs) => if -(2 ^ 63) ≤ k ∧ k < 2 ^ 63 ∧ xs.length * k.toNat ≤ sizeLine then some (.ref M.length, M ++ [.lst (List.replicate k.toNat xs).flatten]) else none
    | _ => none)
  | _, _, _ => none
open Classical in
noncomputable def dDiv : D → D → Store → Option (D × Store)
  | .p (.int i), .p (.int j), M => if divOk j then some (.p (.int (i / j)), M) else none
  | _, _, _ => none
open Classical in
noncomputable def dMod : D → D → Store → Option (D × Store)
  | .p (.int i), .p (.int j), M => if j ≠ 0 then some (.p (.int (i.fmod j)), M) else none
  | _, _, _ => none
open Classical in
noncomputable def dPow : D → D → Store → Option (D × Store)
  | .p (.int i), .p (.int j), M => if 0 ≤ j ∧ j ≤ 1000000 ∧ i.natAbs < 2 ^ 64 then some (.p (.int (i ^ j.toNat)), M) else none
  | _, _, _ => none
def dNeg : D → Store → Option (D × Store)
  | .p (.int i), M => some (.p (.int (-i)), M)
  | _, _ => none
theorem RepPs.append {K : PySem.W.Frag} {H : Hp} : ∀ {xs ys : List P} {vs ws : List V}, RepPs K H xs vs → RepPs K H ys ws → RepPs K H (xs ++ ys) (vs ++ ws)
  | [], _, _, _, h, t => by simp only [RepPs] at h; subst h; exact t
  | x :: xs, _, _, _, h, t => by
    simp only [RepPs] at h
    obtain ⟨v, r, rfl, h1, h2⟩ := h
    show RepPs K H (x :: (xs ++ _)) (v :: (r ++ _))
    simp only [RepPs]
    exact ⟨v, _, rfl, h1, RepPs.append h2 t⟩
section
variable {G : Gm} {X : Cx}
theorem Rep.int {μ H i v} : Rep G μ H (.p (.int i)) v ↔ v = .int i := by simp only [Rep, RepP]
theorem Rep.bl {μ H b v} : Rep G μ H (.p (.bl b)) v ↔ v = .bl b := by simp only [Rep, RepP]
theorem Rep.str {μ H b v} : Rep G μ H (.p (.str b)) v ↔ v = .str b := by simp only [Rep, RepP]
theorem Rep.non {μ H v} : Rep G μ H (.p .non) v ↔ v = .non := by simp only [Rep, RepP]
theorem Rep.ptup {μ H xs v} : Rep G μ H (.p (.tup xs)) v ↔ ∃ a vs, v = .ref a ∧ SqT G.K H a vs ∧ RepPs G.K H xs vs := by simp only [Rep, RepP]
theorem Rep.ref {μ H l v} : Rep G μ H (.ref l) v ↔ ∃ a, μ[l]? = some a ∧ v = .ref a := by simp only [Rep]
theorem Rep.tup {μ H xs v} : Rep G μ H (.tup xs) v ↔ ∃ a vs, v = .ref a ∧ SqT G.K H a vs ∧ Reps G μ H xs vs := by simp only [Rep]
/-- a new tuple -/
theorem new_ptup {μ : List Addr} {H : Hp} {M : Store} {xs : List P} {vs : List V} {p : Addr} (hp : H p = none) (r : RepPs G.K H xs vs) : Rep G μ (upd H p (.tup vs)) (.p (.tup xs)) (.ref p) :=
  Rep.ptup.mpr ⟨p, vs, rfl, SqT.of upd_same, r.ext (.new hp)⟩
theorem new_ref {μ : List Addr} {H : Hp} {M : Store} (S : SR G μ H M) (p : Addr) : Rep G (μ ++ [p]) H (.ref M.length) (.ref p) :=
  Rep.ref.mpr ⟨p, by rw [← S.len]; simp, rfl⟩
theorem new_lst {μ : List Addr} {H : Hp} {M : Store} {xs : List D} {vs : List V} {p : Addr} (S : SR G μ H M) (hp : H p = none) (r : Reps G μ H xs vs) : SR G (μ ++ [p]) (upd H p (.lst vs)) (M ++ [.lst xs]) :=
  S.new hp ⟨vs, upd_same, r.ext (.new hp) (List.prefix_append _ _)⟩
theorem SR.lst {μ : List Addr} {H : Hp} {M : Store} (S : SR G μ H M) {l : Nat} {a : Addr} {xs : List D} (h : μ[l]? = some a) (e : M[l]? = some (.lst xs)) : ∃ vs, H a = some (.lst vs) ∧ Reps G μ H xs vs := S.obj l a _ h e
abbrev rAddU (K : PySem.W.Frag) : R2 := fun x y H Q => (∃ i j, x = .int i ∧ y = .int j ∧ Q (.int (i + j)) H) ∨ (∃ i j, x = .str i ∧ y = .str j ∧ i.length + j.length ≤ sizeLine ∧ Q (.str (i ++ j)) H) ∨ rCatA K x y H Q ∨ rCat x y H Q
theorem o_add : OpR X (binaryOp .Add) (rAddU X.K) := op_add.or (op_add_str.or (op_catA.or op_cat))
theorem d_add : OpD G dAdd (rAddU G.K) := by
  intro μ H M x y v u Q d M' S rx ry q k
  unfold dAdd at q
  split at q
  · cases q
    rw [Rep.int] at rx ry
    exact .inl ⟨_, _, rx, ry, k μ _ H (.refl H) (List.prefix_refl _) S (Rep.int.mpr rfl)⟩
  · split at q
    · rename_i h
      cases q
      rw [Rep.str] at rx ry
      exact .inr (.inl ⟨_, _, rx, ry, h, k μ _ H (.refl H) (List.prefix_refl _) S (Rep.str.mpr rfl)⟩)
    · cases q
  · split at q
    · rename_i h
      cases q
      rw [Rep.ptup] at rx ry
      obtain ⟨a, vs, rfl, ha, hx⟩ := rx
      obtain ⟨b, ws, rfl, hb, hy⟩ := ry
      refine .inr (.inr (.inl ⟨a, b, vs, ws, rfl, rfl, ha, hb, by rw [← hx.length, ← hy.length]; exact h, fun e => ?_, fun e e2 => ?_, fun e e2 p hp => ?_⟩))
      · subst e
        refine k μ _ H (.refl H) (List.prefix_refl _) S (Rep.ptup.mpr ⟨b, ws, rfl, hb, ?_⟩)
        rw [List.eq_nil_of_length_eq_zero hx.length]
        exact hy
      · subst e2
        refine k μ _ H (.refl H) (List.prefix_refl _) S (Rep.ptup.mpr ⟨a, vs, rfl, ha, ?_⟩)
        rw [List.eq_nil_of_length_eq_zero hy.length, List.append_nil]
        exact hx
      · exact k μ _ _ (.new hp) (List.prefix_refl _) (S.grow hp) (new_ptup (M := M) hp (hx.append hy))
    · cases q
  · rename_i l m
    split at q
    · rename_i xs ys e1 e2
      split at q
      · rename_i h
        cases q
        rw [Rep.ref] at rx ry
        obtain ⟨a, h1, rfl⟩ := rx
        obtain ⟨b, h2, rfl⟩ := ry
        obtain ⟨vs, h3, h4⟩ := S.lst h1 e1
        obtain ⟨ws, h5, h6⟩ := S.lst h2 e2
        refine .inr (.inr (.inr ⟨a, b, vs, ws, rfl, rfl, h3, h5, by rw [← h4.length, ← h6.length]; exact h, fun p hp => ?_⟩))
        exact k (μ ++ [p]) _ _ (.new hp) (List.prefix_append _ _) (new_lst S hp (h4.app h6)) (new_ref S p)
      · cases q
    · cases q
  · cases q
theorem d_sub : OpD G dSub (rI0 fun i j => .int (i - j)) := by
  intro μ H M x y v u Q d M' S rx ry q k
  unfold dSub at q
  split at q
  · cases q
    rw [Rep.int] at rx ry
    exact ⟨_, _, rx, ry, k μ _ H (.refl H) (List.prefix_refl _) S (Rep.int.mpr rfl)⟩
  · cases q
theorem o_mul : OpR X (binaryOp .Mult) (fun x y H Q => rI CMul (fun i j => .int (i * j)) x y H Q ∨ rI CMulW (fun i j => .int (i * j)) x y H Q ∨ rRep x y H Q) := op_mul.or (op_mulW.or op_rep)
theorem d_mul : OpD G dMul (fun x y H Q => rI CMul (fun i j => .int (i * j)) x y H Q ∨ rI CMulW (fun i j => .int (i * j)) x y H Q ∨ rRep x y H Q) := by
  intro μ H M x y v u Q d M' S rx ry q k
  unfold dMul at q
  split at q
  · split at q
    · rename_i h
      cases q
      rw [Rep.int] at rx ry
      rcases h with h | h
      · exact .inl ⟨_, _, rx, ry, h, k μ _ H (.refl H) (List.prefix_refl _) S (Rep.int.mpr rfl)⟩
      · exact .inr (.inl ⟨_, _, rx, ry, h, k μ _ H (.refl H) (List.prefix_refl _) S (Rep.int.mpr rfl)⟩)
    · cases q
  · split at q
    · rename_i xs e1
      split at q
      · rename_i h
        cases q
        rw [Rep.int] at ry
        rw [Rep.ref] at rx
        obtain ⟨a, h1, rfl⟩ := rx
        obtain ⟨vs, h3, h4⟩ := S.lst h1 e1
        refine .inr (.inr ⟨a, _, vs, rfl, ry, h3, h.1, h.2.1, by rw [← h4.length]; exact h.2.2, fun p hp => ?_⟩)
        have rep : ∀ n : Nat, Reps G μ H (List.replicate n xs).flatten (List.replicate n vs).flatten := fun n => by
          induction n with
          | zero => exact .nil
          | succ n ih => rw [List.replicate_succ, List.replicate_succ, List.flatten_cons, List.flatten_cons]; exact h4.app ih
        exact k (μ ++ [p]) _ _ (.new hp) (List.prefix_append _ _) (new_lst S hp (rep _)) (new_ref S p)
      · cases q
    · cases q
  · cases q
theorem d_div : OpD G dDiv (rI CDivW fun i j => .int (i / j)) := by
  intro μ H M x y v u Q d M' S rx ry q k
  unfold dDiv at q
  split at q
  · split at q
    · rename_i h
      cases q
      rw [Rep.int] at rx ry
      exact ⟨_, _, rx, ry, h, k μ _ H (.refl H) (List.prefix_refl _) S (Rep.int.mpr rfl)⟩
    · cases q
  · cases q
theorem d_mod : OpD G dMod (rI (fun _ j => j ≠ 0) fun i j => .int (i.fmod j)) := by
  intro μ H M x y v u Q d M' S rx ry q k
  unfold dMod at q
  split at q
  · split at q
    · rename_i h
      cases q
      rw [Rep.int] at rx ry
      exact ⟨_, _, rx, ry, h, k μ _ H (.refl H) (List.prefix_refl _) S (Rep.int.mpr rfl)⟩
    · cases q
  · cases q
theorem d_pow : OpD G dPow (rI CPow fun i j => .int (i ^ j.toNat)) := by
  intro μ H M x y v u Q d M' S rx ry q k
  unfold dPow at q
  split at q
  · split at q
    · rename_i h
      cases q
      rw [Rep.int] at rx ry
      exact ⟨_, _, rx, ry, h, k μ _ H (.refl H) (List.prefix_refl _) S (Rep.int.mpr rfl)⟩
    · cases q
  · cases q
theorem d_neg : OpU G dNeg (rU fun i => .int (-i)) := by
  intro μ H M x v Q d M' S rx q k
  unfold dNeg at q
  split at q
  · cases q
    rw [Rep.int] at rx
    exact ⟨_, rx, k μ _ H (.refl H) (List.prefix_refl _) S (Rep.int.mpr rfl)⟩
  · cases q
end
end Fl

set_option Elab.async false
set_option linter.all false
set_option maxRecDepth 100000
/-! Fl, part C: equality of data. -/
namespace Fl
open PySem PySem.Spec L2 PySem.SeqAt
set_option autoImplicit false

mutual
def P.eqv : P → P → Bool
  | .non, .non => true
  | .bl a, .bl b => a == b
  | .bl a, .int j => (if a then 1 else 0) == j
  | .int i, .bl b => i == (if b then 1 else 0)
  | .int i, .int j => i == j
  | .str x, .str y => x == y
  | .tup xs, .tup ys => P.eqvs xs ys
  | .non, .bl _ | .non, .int _ | .non, .str _ | .non, .tup _ => false
  | .bl _, .non | .bl _, .str _ | .bl _, .tup _ => false
  | .int _, .non | .int _, .str _ | .int _, .tup _ => false
  | .str _, .non | .str _, .bl _ | .str _, .int _ | .str _, .tup _ => false
  | .tup _, .non | .tup _, .bl _ | .tup _, .int _ | .tup _, .str _ => false
def P.eqvs : List P → List P → Bool
  | [], [] => true
  | x :: xs, y :: ys => P.eqv x y && P.eqvs xs ys
  | [], _ :: _ => false
  | _ :: _, [] => false
end
mutual
def P.depth : P → Nat
  | .tup xs => P.depths xs + 1
  | .non => 0
  | .bl _ => 0
  | .int _ => 0
  | .str _ => 0
def P.depths : List P → Nat
  | [] => 0
  | x :: xs => max (P.depth x) (P.depths xs)
end
mutual
theorem P.eqv_refl : ∀ x : P, P.eqv x x = true
  | .non => rfl
  | .bl b => by simp [P.eqv]
  | .int i => by simp [P.eqv]
  | .str x => by simp [P.eqv]
  | .tup xs => by rw [P.eqv]; exact P.eqvs_refl xs
theorem P.eqvs_refl : ∀ xs : List P, P.eqvs xs xs = true
  | [] => rfl
  | x :: xs => by rw [P.eqvs, P.eqv_refl x, P.eqvs_refl xs]; rfl
end
abbrev pairP (xs ys : List P) (j : Nat) : Bool := P.eqv (xs.getD j .non) (ys.getD j .non)
theorem P.eqvs_eq : ∀ xs ys : List P, ((List.range (min xs.length ys.length)).all (pairP xs ys) && xs.length == ys.length) = P.eqvs xs ys
  | [], [] => rfl
  | [], _ :: _ => by simp [P.eqvs]
  | _ :: _, [] => by simp [P.eqvs]
  | x :: xs, y :: ys => by
    have ih := P.eqvs_eq xs ys
    have e1 : min (x :: xs).length (y :: ys).length = min xs.length ys.length + 1 := by simp only [List.length_cons]; omega
    have e2 : ((x :: xs).length == (y :: ys).length) = (xs.length == ys.length) := by simp
    have e3 : (List.range (min xs.length ys.length + 1)).all (pairP (x :: xs) (y :: ys)) = (P.eqv x y && (List.range (min xs.length ys.length)).all (pairP xs ys)) := by
      rw [List.range_succ_eq_map, List.all_cons, List.all_map]
      first | rfl | simp [pairP, Function.comp_def]
    rw [e1, e2, e3, P.eqvs, ← ih, Bool.and_assoc]
section
variable {X : Cx} {pins : List (Addr × Obj)} {σ : St} {H : Hp} {s : Shared}
mutual
theorem RepP.inj (I : Inv X pins σ H s) : ∀ (x y : P) (v : V), RepP X.K H x v → RepP X.K H y v → x = y
  | .non, y, v, h, h' => by
    simp only [RepP] at h; subst h
    cases y <;> simp [RepP] at h'; rfl
  | .bl b, y, v, h, h' => by
    simp only [RepP] at h; subst h
    cases y <;> simp [RepP] at h'; rw [h']
  | .int b, y, v, h, h' => by
    simp only [RepP] at h; subst h
    cases y <;> simp [RepP] at h'; rw [h']
  | .str b, y, v, h, h' => by
    simp only [RepP] at h; subst h
    cases y <;> simp [RepP] at h'; rw [h']
  | .tup xs, y, v, h, h' => by
    simp only [RepP] at h
    obtain ⟨a, vs, rfl, h1, h2⟩ := h
    cases y with
    | tup ys =>
      simp only [RepP] at h'
      obtain ⟨b, ws, e, h3, h4⟩ := h'
      cases e
      rw [← I.tuple_inj h1 h3] at h4
      rw [RepPs.inj I xs ys vs h2 h4]
    | _ => simp [RepP] at h'
theorem RepPs.inj (I : Inv X pins σ H s) : ∀ (xs ys : List P) (vs : List V), RepPs X.K H xs vs → RepPs X.K H ys vs → xs = ys
  | [], ys, vs, h, h' => by
    simp only [RepPs] at h; subst h
    cases ys with
    | nil => rfl
    | cons y ys => simp [RepPs] at h'
  | x :: xs, ys, vs, h, h' => by
    simp only [RepPs] at h
    obtain ⟨v, r, rfl, h1, h2⟩ := h
    cases ys with
    | nil => simp [RepPs] at h'
    | cons y ys =>
      simp only [RepPs] at h'
      obtain ⟨v', r', e, h3, h4⟩ := h'
      cases e
      rw [RepP.inj I x y v h1 h3, RepPs.inj I xs ys r h2 h4]
end
theorem tup_at (I : Inv X pins σ H s) {a : Addr} {vs : List V} {xs : List P} (h : SqT X.K H a vs) (r : RepPs X.K H xs vs) : ∃ its : List Value, Vals vs its ∧ s.heap.IsTuple a its.toArray ∧ its.toArray.size = xs.length := by
  obtain ⟨its, rv, p, _⟩ := I.tuple h
  exact ⟨its, rv, p, by simp [← rv.length, ← r.length]⟩
theorem room1 {A : Around} {m n : Nat} (h : A.units + min (m + 1) (n + 1) < cLine) : A.units < cLine := by omega
mutual
theorem eqAt_P (I : Inv X pins σ H s) : ∀ (x y : P) (A : Around) (v u : V) (a b : Value), RepP X.K H x v → RepP X.K H y u → RelV v a → RelV u b → A.units + min x.depth y.depth < cLine → A.units < cLine → EqAt A s a b (P.eqv x y)
  | .non, y, A, v, u, a, b, hx, hy, ra, rb, hu, h0 => by
    simp only [RepP] at hx; subst hx; cases ra
    cases y with
    | non => simp only [RepP] at hy; subst hy; cases rb; exact EqAt.same _
    | bl c => simp only [RepP] at hy; subst hy; cases rb; exact EqAt.none_bool c
    | int c => simp only [RepP] at hy; subst hy; obtain ⟨t, rfl⟩ := rb; exact EqAt.none_int c t
    | str c => simp only [RepP] at hy; subst hy; obtain ⟨t, rfl⟩ := rb; exact EqAt.none_str c t
    | tup ys =>
      simp only [RepP] at hy
      obtain ⟨l, ws, rfl, k1, k2⟩ := hy
      cases rb
      obtain ⟨its, _, p, _⟩ := tup_at I k1 k2
      exact EqAt.none_tuple p h0
  | .bl x, y, A, v, u, a, b, hx, hy, ra, rb, hu, h0 => by
    simp only [RepP] at hx; subst hx; cases ra
    cases y with
    | non => simp only [RepP] at hy; subst hy; cases rb; exact EqAt.bool_none x
    | bl c => simp only [RepP] at hy; subst hy; cases rb; exact EqAt.bool_bool x c
    | int c => simp only [RepP] at hy; subst hy; obtain ⟨t, rfl⟩ := rb; exact EqAt.bool_int x c t
    | str c => simp only [RepP] at hy; subst hy; obtain ⟨t, rfl⟩ := rb; exact EqAt.bool_str x c t
    | tup ys =>
      simp only [RepP] at hy
      obtain ⟨l, ws, rfl, k1, k2⟩ := hy
      cases rb
      obtain ⟨its, _, p, _⟩ := tup_at I k1 k2
      exact EqAt.bool_tuple x p h0
  | .int x, y, A, v, u, a, b, hx, hy, ra, rb, hu, h0 => by
    simp only [RepP] at hx; subst hx; obtain ⟨tx, rfl⟩ := ra
    cases y with
    | non => simp only [RepP] at hy; subst hy; cases rb; exact EqAt.int_none x tx
    | bl c => simp only [RepP] at hy; subst hy; cases rb; exact EqAt.int_bool x tx c
    | int c => simp only [RepP] at hy; subst hy; obtain ⟨t, rfl⟩ := rb; exact EqAt.int_int x tx c t
    | str c => simp only [RepP] at hy; subst hy; obtain ⟨t, rfl⟩ := rb; exact EqAt.int_str x tx c t
    | tup ys =>
      simp only [RepP] at hy
      obtain ⟨l, ws, rfl, k1, k2⟩ := hy
      cases rb
      obtain ⟨its, _, p, _⟩ := tup_at I k1 k2
      exact EqAt.int_tuple x tx p h0
  | .str x, y, A, v, u, a, b, hx, hy, ra, rb, hu, h0 => by
    simp only [RepP] at hx; subst hx; obtain ⟨tx, rfl⟩ := ra
    cases y with
    | non => simp only [RepP] at hy; subst hy; cases rb; exact EqAt.str_none x tx
    | bl c => simp only [RepP] at hy; subst hy; cases rb; exact EqAt.str_bool x tx c
    | int c => simp only [RepP] at hy; subst hy; obtain ⟨t, rfl⟩ := rb; exact EqAt.str_int x tx c t
    | str c => simp only [RepP] at hy; subst hy; obtain ⟨t, rfl⟩ := rb; exact EqAt.str_str x tx c t
    | tup ys =>
      simp only [RepP] at hy
      obtain ⟨l, ws, rfl, k1, k2⟩ := hy
      cases rb
      obtain ⟨its, _, p, _⟩ := tup_at I k1 k2
      exact EqAt.str_tuple x tx p h0
  | .tup xs, y, A, v, u, a, b, hx, hy, ra, rb, hu, h0 => by
    simp only [RepP] at hx
    obtain ⟨l, vs, rfl, h1, h2⟩ := hx
    cases ra
    obtain ⟨its, rv, p, n1⟩ := tup_at I h1 h2
    cases y with
    | non => simp only [RepP] at hy; subst hy; cases rb; exact EqAt.tuple_none p h0
    | bl c => simp only [RepP] at hy; subst hy; cases rb; exact EqAt.tuple_bool c p h0
    | int c => simp only [RepP] at hy; subst hy; obtain ⟨t, rfl⟩ := rb; exact EqAt.tuple_int c t p h0
    | str c => simp only [RepP] at hy; subst hy; obtain ⟨t, rfl⟩ := rb; exact EqAt.tuple_str c t p h0
    | tup ys =>
      simp only [RepP] at hy
      obtain ⟨m, ws, rfl, k1, k2⟩ := hy
      cases rb
      obtain ⟨its2, rw2, p2, n2⟩ := tup_at I k1 k2
      rw [P.eqv]
      by_cases hll : l = m
      · subst hll
        rw [← I.tuple_inj h1 k1] at k2
        rw [RepPs.inj I xs ys vs h2 k2, P.eqvs_refl]
        exact EqAt.same _
      · rw [← P.eqvs_eq xs ys, ← n1, ← n2]
        have hu' : A.units + min (P.depths xs + 1) (P.depths ys + 1) < cLine := by simpa only [P.depth] using hu
        refine EqAt.of_refs hll (RcAt.tuples p p2 h0 fun j j1 j2 => ?_)
        have e1 : A.in1.units = A.units + 1 := by first | rfl | simp [Around.in1]
        have := eqAt_Ps I xs ys A.in1 vs ws its its2 h2 k2 rv rw2 (by rw [e1]; omega) (by rw [e1]; omega) j (by simpa using j1) (by simpa using j2)
        simpa using this
theorem eqAt_Ps (I : Inv X pins σ H s) : ∀ (xs ys : List P) (A : Around) (vs us : List V) (as bs : List Value), RepPs X.K H xs vs → RepPs X.K H ys us → Vals vs as → Vals us bs → A.units + min (P.depths xs) (P.depths ys) < cLine → A.units < cLine →
    ∀ j (h1 : j < as.length) (h2 : j < bs.length), EqAt A s as[j] bs[j] (pairP xs ys j)
  | [], ys, A, vs, us, as, bs, hx, hy, ra, rb, hu, h0, j, h1, h2 => by
    simp only [RepPs] at hx; subst hx; cases ra; exact absurd h1 (Nat.not_lt_zero _)
  | _ :: _, [], A, vs, us, as, bs, hx, hy, ra, rb, hu, h0, j, h1, h2 => by
    simp only [RepPs] at hy; subst hy; cases rb; exact absurd h2 (Nat.not_lt_zero _)
  | x :: xs, y :: ys, A, vs, us, as, bs, hx, hy, ra, rb, hu, h0, j, h1, h2 => by
    simp only [RepPs] at hx hy
    obtain ⟨v, r, rfl, hx1, hx2⟩ := hx
    obtain ⟨u, r', rfl, hy1, hy2⟩ := hy
    simp only [P.depths] at hu
    cases ra with
    | cons q qs =>
      cases rb with
      | cons q' qs' =>
        cases j with
        | zero => exact eqAt_P I x y A v u _ _ hx1 hy1 q q' (by omega) h0
        | succ j => exact eqAt_Ps I xs ys A r r' _ _ hx2 hy2 qs qs' (by omega) h0 j (Nat.lt_of_succ_lt_succ h1) (Nat.lt_of_succ_lt_succ h2)
end
theorem rcAt_P (I : Inv X pins σ H s) (x y : P) (A : Around) (v u : V) (a b : Value) (hx : RepP X.K H x v) (hy : RepP X.K H y u) (ra : RelV v a) (rb : RelV u b) (hu : A.units + min x.depth y.depth < cLine) (h0 : A.units < cLine) : RcAt A s a b (P.eqv x y) := by
  cases x with
  | non =>
    simp only [RepP] at hx; subst hx; cases ra
    cases y with
    | non => simp only [RepP] at hy; subst hy; cases rb; exact RcAt.none_none
    | bl c => simp only [RepP] at hy; subst hy; cases rb; exact RcAt.none_bool c
    | int c => simp only [RepP] at hy; subst hy; obtain ⟨t, rfl⟩ := rb; exact RcAt.none_int c t
    | str c => simp only [RepP] at hy; subst hy; obtain ⟨t, rfl⟩ := rb; exact RcAt.none_str c t
    | tup ys =>
      simp only [RepP] at hy
      obtain ⟨l, ws, rfl, k1, k2⟩ := hy
      cases rb
      obtain ⟨its, _, p, _⟩ := tup_at I k1 k2
      exact RcAt.none_tuple p h0
  | bl x =>
    simp only [RepP] at hx; subst hx; cases ra
    cases y with
    | non => simp only [RepP] at hy; subst hy; cases rb; exact RcAt.bool_none x
    | bl c => simp only [RepP] at hy; subst hy; cases rb; exact RcAt.bool_bool x c
    | int c => simp only [RepP] at hy; subst hy; obtain ⟨t, rfl⟩ := rb; exact RcAt.bool_int x c t
    | str c => simp only [RepP] at hy; subst hy; obtain ⟨t, rfl⟩ := rb; exact RcAt.bool_str x c t
    | tup ys =>
      simp only [RepP] at hy
      obtain ⟨l, ws, rfl, k1, k2⟩ := hy
      cases rb
      obtain ⟨its, _, p, _⟩ := tup_at I k1 k2
      exact RcAt.bool_tuple x p h0
  | int x =>
    simp only [RepP] at hx; subst hx; obtain ⟨tx, rfl⟩ := ra
    cases y with
    | non => simp only [RepP] at hy; subst hy; cases rb; exact RcAt.int_none x tx
    | bl c => simp only [RepP] at hy; subst hy; cases rb; exact RcAt.int_bool x tx c
    | int c => simp only [RepP] at hy; subst hy; obtain ⟨t, rfl⟩ := rb; exact RcAt.int_int x tx c t
    | str c => simp only [RepP] at hy; subst hy; obtain ⟨t, rfl⟩ := rb; exact RcAt.int_str x tx c t
    | tup ys =>
      simp only [RepP] at hy
      obtain ⟨l, ws, rfl, k1, k2⟩ := hy
      cases rb
      obtain ⟨its, _, p, _⟩ := tup_at I k1 k2
      exact RcAt.int_tuple x tx p h0
  | str x =>
    simp only [RepP] at hx; subst hx; obtain ⟨tx, rfl⟩ := ra
    cases y with
    | non => simp only [RepP] at hy; subst hy; cases rb; exact RcAt.str_none x tx
    | bl c => simp only [RepP] at hy; subst hy; cases rb; exact RcAt.str_bool x tx c
    | int c => simp only [RepP] at hy; subst hy; obtain ⟨t, rfl⟩ := rb; exact RcAt.str_int x tx c t
    | str c => simp only [RepP] at hy; subst hy; obtain ⟨t, rfl⟩ := rb; exact RcAt.str_str x tx c t
    | tup ys =>
      simp only [RepP] at hy
      obtain ⟨l, ws, rfl, k1, k2⟩ := hy
      cases rb
      obtain ⟨its, _, p, _⟩ := tup_at I k1 k2
      exact RcAt.str_tuple x tx p h0
  | tup xs =>
    simp only [RepP] at hx
    obtain ⟨l, vs, rfl, h1, h2⟩ := hx
    cases ra
    obtain ⟨its, rv, p, n1⟩ := tup_at I h1 h2
    cases y with
    | non => simp only [RepP] at hy; subst hy; cases rb; exact RcAt.tuple_none p h0
    | bl c => simp only [RepP] at hy; subst hy; cases rb; exact RcAt.tuple_bool c p h0
    | int c => simp only [RepP] at hy; subst hy; obtain ⟨t, rfl⟩ := rb; exact RcAt.tuple_int c t p h0
    | str c => simp only [RepP] at hy; subst hy; obtain ⟨t, rfl⟩ := rb; exact RcAt.tuple_str c t p h0
    | tup ys =>
      simp only [RepP] at hy
      obtain ⟨m, ws, rfl, k1, k2⟩ := hy
      cases rb
      obtain ⟨its2, rw2, p2, n2⟩ := tup_at I k1 k2
      have hu' : A.units + min (P.depths xs + 1) (P.depths ys + 1) < cLine := by simpa only [P.depth] using hu
      rw [P.eqv, ← P.eqvs_eq xs ys, ← n1, ← n2]
      refine RcAt.tuples p p2 h0 fun j j1 j2 => ?_
      have e1 : A.in1.units = A.units + 1 := by first | rfl | simp [Around.in1]
      have := eqAt_Ps I xs ys A.in1 vs ws its its2 h2 k2 rv rw2 (by rw [e1]; omega) (by rw [e1]; omega) j (by simpa using j1) (by simpa using j2)
      simpa using this
end
end Fl

set_option Elab.async false
set_option linter.all false
set_option maxRecDepth 100000
/-! Fl, part D: comparisons, tests, displays. -/
namespace Fl
open PySem PySem.Spec L2 PySem.SeqAt
set_option autoImplicit false
section
variable {X : Cx} {pins : List (Addr × Obj)} {σ : St} {H : Hp} {s : Shared}
theorem rcNeAt_P (I : Inv X pins σ H s) (x y : P) (A : Around) (v u : V) (a b : Value) (hx : RepP X.K H x v) (hy : RepP X.K H y u) (ra : RelV v a) (rb : RelV u b) (hu : A.units + min x.depth y.depth < cLine) (h0 : A.units < cLine) : RcNeAt A s a b (!P.eqv x y) := by
  cases x with
  | non =>
    simp only [RepP] at hx; subst hx; cases ra
    cases y with
    | non => simp only [RepP] at hy; subst hy; cases rb; exact RcNeAt.none_none
    | bl c => simp only [RepP] at hy; subst hy; cases rb; exact RcNeAt.none_bool c
    | int c => simp only [RepP] at hy; subst hy; obtain ⟨t, rfl⟩ := rb; exact RcNeAt.none_int c t
    | str c => simp only [RepP] at hy; subst hy; obtain ⟨t, rfl⟩ := rb; exact RcNeAt.none_str c t
    | tup ys =>
      simp only [RepP] at hy
      obtain ⟨l, ws, rfl, k1, k2⟩ := hy
      cases rb
      obtain ⟨its, _, p, _⟩ := tup_at I k1 k2
      exact RcNeAt.none_tuple p h0
  | bl x =>
    simp only [RepP] at hx; subst hx; cases ra
    cases y with
    | non => simp only [RepP] at hy; subst hy; cases rb; exact RcNeAt.bool_none x
    | bl c => simp only [RepP] at hy; subst hy; cases rb; exact RcNeAt.bool_bool x c
    | int c => simp only [RepP] at hy; subst hy; obtain ⟨t, rfl⟩ := rb; exact RcNeAt.bool_int x c t
    | str c => simp only [RepP] at hy; subst hy; obtain ⟨t, rfl⟩ := rb; exact RcNeAt.bool_str x c t
    | tup ys =>
      simp only [RepP] at hy
      obtain ⟨l, ws, rfl, k1, k2⟩ := hy
      cases rb
      obtain ⟨its, _, p, _⟩ := tup_at I k1 k2
      exact RcNeAt.bool_tuple x p h0
  | int x =>
    simp only [RepP] at hx; subst hx; obtain ⟨tx, rfl⟩ := ra
    cases y with
    | non => simp only [RepP] at hy; subst hy; cases rb; exact RcNeAt.int_none x tx
    | bl c => simp only [RepP] at hy; subst hy; cases rb; exact RcNeAt.int_bool x tx c
    | int c => simp only [RepP] at hy; subst hy; obtain ⟨t, rfl⟩ := rb; exact RcNeAt.int_int x tx c t
    | str c => simp only [RepP] at hy; subst hy; obtain ⟨t, rfl⟩ := rb; exact RcNeAt.int_str x tx c t
    | tup ys =>
      simp only [RepP] at hy
      obtain ⟨l, ws, rfl, k1, k2⟩ := hy
      cases rb
      obtain ⟨its, _, p, _⟩ := tup_at I k1 k2
      exact RcNeAt.int_tuple x tx p h0
  | str x =>
    simp only [RepP] at hx; subst hx; obtain ⟨tx, rfl⟩ := ra
    cases y with
    | non => simp only [RepP] at hy; subst hy; cases rb; exact RcNeAt.str_none x tx
    | bl c => simp only [RepP] at hy; subst hy; cases rb; exact RcNeAt.str_bool x tx c
    | int c => simp only [RepP] at hy; subst hy; obtain ⟨t, rfl⟩ := rb; exact RcNeAt.str_int x tx c t
    | str c => simp only [RepP] at hy; subst hy; obtain ⟨t, rfl⟩ := rb; exact RcNeAt.str_str x tx c t
    | tup ys =>
      simp only [RepP] at hy
      obtain ⟨l, ws, rfl, k1, k2⟩ := hy
      cases rb
      obtain ⟨its, _, p, _⟩ := tup_at I k1 k2
      exact RcNeAt.str_tuple x tx p h0
  | tup xs =>
    simp only [RepP] at hx
    obtain ⟨l, vs, rfl, h1, h2⟩ := hx
    cases ra
    obtain ⟨its, rv, p, n1⟩ := tup_at I h1 h2
    cases y with
    | non => simp only [RepP] at hy; subst hy; cases rb; exact RcNeAt.tuple_none p h0
    | bl c => simp only [RepP] at hy; subst hy; cases rb; exact RcNeAt.tuple_bool c p h0
    | int c => simp only [RepP] at hy; subst hy; obtain ⟨t, rfl⟩ := rb; exact RcNeAt.tuple_int c t p h0
    | str c => simp only [RepP] at hy; subst hy; obtain ⟨t, rfl⟩ := rb; exact RcNeAt.tuple_str c t p h0
    | tup ys =>
      simp only [RepP] at hy
      obtain ⟨m, ws, rfl, k1, k2⟩ := hy
      cases rb
      obtain ⟨its2, rw2, p2, n2⟩ := tup_at I k1 k2
      have hu' : A.units + min (P.depths xs + 1) (P.depths ys + 1) < cLine := by simpa only [P.depth] using hu
      rw [P.eqv, ← P.eqvs_eq xs ys, ← n1, ← n2]
      refine RcNeAt.tuples p p2 h0 fun j j1 j2 => ?_
      have e1 : A.in1.units = A.units + 1 := by first | rfl | simp [Around.in1]
      have := eqAt_Ps I xs ys A.in1 vs ws its its2 h2 k2 rv rw2 (by rw [e1]; omega) (by rw [e1]; omega) j (by simpa using j1) (by simpa using j2)
      simpa using this

/-- the item of a row that a value is -/
theorem any_P (I : Inv X pins σ H s) {x : P} {b : Value} : ∀ {xs : List P} {vs : List V} {its : List Value}, RepPs X.K H xs vs → Vals vs its →
    ∃ e : Value → Bool, its.any e = xs.any (fun z => P.eqv z x) ∧ ∀ y ∈ its, ∃ z v, z ∈ xs ∧ RepP X.K H z v ∧ RelV v y ∧ e y = P.eqv z x := by
  classical
  intro xs vs its h r
  have key : ∀ (xs : List P) (vs : List V) (its : List Value), RepPs X.K H xs vs → Vals vs its → ∀ e : Value → Bool, (∀ z v y, RepP X.K H z v → RelV v y → e y = P.eqv z x) →
      its.any e = xs.any (fun z => P.eqv z x) ∧ ∀ y ∈ its, ∃ z v, z ∈ xs ∧ RepP X.K H z v ∧ RelV v y ∧ e y = P.eqv z x := by
    intro xs
    induction xs with
    | nil =>
      intro vs its h r e he
      simp only [RepPs] at h; subst h; cases r
      exact ⟨rfl, fun y hy => nomatch hy⟩
    | cons z xs ih =>
      intro vs its h r e he
      simp only [RepPs] at h
      obtain ⟨v, vr, rfl, h1, h2⟩ := h
      cases r with
      | cons q qs =>
        obtain ⟨a1, a2⟩ := ih _ _ h2 qs e he
        refine ⟨by rw [List.any_cons, List.any_cons, a1, he z v _ h1 q], fun y hy => ?_⟩
        rcases List.mem_cons.mp hy with rfl | hy
        · exact ⟨z, v, List.mem_cons_self, h1, q, he z v _ h1 q⟩
        · obtain ⟨z', v', hz, k⟩ := a2 y hy
          exact ⟨z', v', List.mem_cons_of_mem _ hz, k⟩
  let e : Value → Bool := fun y => decide (∃ z v, RepP X.K H z v ∧ RelV v y ∧ P.eqv z x = true)
  refine ⟨e, key xs vs its h r e fun z v y h1 h2 => ?_⟩
  show decide (∃ z v, RepP X.K H z v ∧ RelV v y ∧ P.eqv z x = true) = P.eqv z x
  cases q : P.eqv z x with
  | true => exact decide_eq_true ⟨z, v, h1, h2, q⟩
  | false =>
    refine decide_eq_false ?_
    rintro ⟨z', v', g1, g2, g3⟩
    have := g2.inj h2
    subst this
    rw [RepP.inj I z' z v' g1 h1, q] at g3
    cases g3
end
/-! ### comparisons -/
def dOk (x y : P) : Prop := min x.depth y.depth ≤ 100
instance (x y : P) : Decidable (dOk x y) := by unfold dOk; infer_instance
def dEq : D → D → Store → Option (D × Store)
  | .p x, .p y, M => if dOk x y then some (.p (.bl (P.eqv x y)), M) else none
  | _, _, _ => none
def dNe : D → D → Store → Option (D × Store)
  | .p x, .p y, M => if dOk x y then some (.p (.bl (!P.eqv x y)), M) else none
  | _, _, _ => none
def rEqP (K : PySem.W.Frag) : R2 := fun v u H Q => ∃ x y, RepP K H x v ∧ RepP K H y u ∧ dOk x y ∧ Q (.bl (P.eqv x y)) H
def rNeP (K : PySem.W.Frag) : R2 := fun v u H Q => ∃ x y, RepP K H x v ∧ RepP K H y u ∧ dOk x y ∧ Q (.bl (!P.eqv x y)) H
section
variable {X : Cx} {G : Gm}
theorem o_eq (hu : X.A.units + 120 < cLine) : OpR X (compareOp .Eq) (rEqP X.K) := by
  intro pins s σ H v u a b Q I ra rb h
  obtain ⟨x, y, hx, hy, hd, q⟩ := h
  unfold dOk at hd
  exact rcAt_P I x y X.A v u a b hx hy ra rb (by omega) (by omega) _ _ _ _ ⟨.bl _, H, I, rfl, q⟩
theorem o_ne (hu : X.A.units + 120 < cLine) : OpR X (compareOp .NotEq) (rNeP X.K) := by
  intro pins s σ H v u a b Q I ra rb h
  obtain ⟨x, y, hx, hy, hd, q⟩ := h
  unfold dOk at hd
  exact rcNeAt_P I x y X.A v u a b hx hy ra rb (by omega) (by omega) _ _ _ _ ⟨.bl _, H, I, rfl, q⟩
theorem d_eq : OpD G dEq (rEqP G.K) := by
  intro μ H M x y v u Q d M' S rx ry q k
  unfold dEq at q
  split at q
  · split at q
    · rename_i h
      cases q
      simp only [Rep] at rx ry
      exact ⟨_, _, rx, ry, h, k μ _ H (.refl H) (List.prefix_refl _) S (Rep.bl.mpr rfl)⟩
    · cases q
  · cases q
theorem d_ne : OpD G dNe (rNeP G.K) := by
  intro μ H M x y v u Q d M' S rx ry q k
  unfold dNe at q
  split at q
  · split at q
    · rename_i h
      cases q
      simp only [Rep] at rx ry
      exact ⟨_, _, rx, ry, h, k μ _ H (.refl H) (List.prefix_refl _) S (Rep.bl.mpr rfl)⟩
    · cases q
  · cases q
end
/-- ints, texts -/
def dOrd (p : Int → Int → Bool) (q : List Nat → List Nat → Bool) : D → D → Store → Option (D × Store)
  | .p (.int i), .p (.int j), M => some (.p (.bl (p i j)), M)
  | .p (.str x), .p (.str y), M => some (.p (.bl (q x.cps.toList y.cps.toList)), M)
  | _, _, _ => none
abbrev rOrd (p : Int → Int → Bool) (q : List Nat → List Nat → Bool) : R2 := fun x y H Q => (∃ i j, x = .int i ∧ y = .int j ∧ Q (.bl (p i j)) H) ∨ (∃ i j, x = .str i ∧ y = .str j ∧ Q (.bl (q i.cps.toList j.cps.toList)) H)
def dLt := dOrd (fun i j => decide (i < j)) (fun x y => decide (x < y))
def dLe := dOrd (fun i j => decide (i ≤ j)) (fun x y => !decide (y < x))
def dGt := dOrd (fun i j => decide (j < i)) (fun x y => decide (y < x))
def dGe := dOrd (fun i j => decide (j ≤ i)) (fun x y => !decide (x < y))
section
variable {X : Cx} {G : Gm}
theorem d_ord {p q} : OpD G (dOrd p q) (rOrd p q) := by
  intro μ H M x y v u Q d M' S rx ry e k
  unfold dOrd at e
  split at e
  · cases e
    rw [Rep.int] at rx ry
    exact .inl ⟨_, _, rx, ry, k μ _ H (.refl H) (List.prefix_refl _) S (Rep.bl.mpr rfl)⟩
  · cases e
    rw [Rep.str] at rx ry
    exact .inr ⟨_, _, rx, ry, k μ _ H (.refl H) (List.prefix_refl _) S (Rep.bl.mpr rfl)⟩
  · cases e
theorem o_lt : OpR X (compareOp .Lt) (rOrd (fun i j => decide (i < j)) (fun x y => decide (x < y))) := op_lt.or op_lt_str
theorem o_le : OpR X (compareOp .LtE) (rOrd (fun i j => decide (i ≤ j)) (fun x y => !decide (y < x))) := op_le.or op_le_str
theorem o_gt : OpR X (compareOp .Gt) (rOrd (fun i j => decide (j < i)) (fun x y => decide (y < x))) := op_gt.or op_gt_str
theorem o_ge : OpR X (compareOp .GtE) (rOrd (fun i j => decide (j ≤ i)) (fun x y => !decide (x < y))) := op_ge.or op_ge_str
end
/-- x is None -/
def isNon : D → Bool
  | .p .non => true
  | _ => false
def dIsN : D → D → Store → Option (D × Store)
  | x, .p .non, M => some (.p (.bl (isNon x)), M)
  | _, _, _ => none
def dNotN : D → D → Store → Option (D × Store)
  | x, .p .non, M => some (.p (.bl (!isNon x)), M)
  | _, _, _ => none
section
variable {X : Cx} {G : Gm}
theorem isNon_ok {μ H} {x : D} {v : V} (r : Rep G μ H x v) : isNon x = decide (v = .non) := by
  cases x with
  | p x =>
    cases x with
    | non => rw [Rep.non] at r; subst r; rfl
    | bl b => rw [Rep.bl] at r; subst r; rfl
    | int b => rw [Rep.int] at r; subst r; rfl
    | str b => rw [Rep.str] at r; subst r; rfl
    | tup b => rw [Rep.ptup] at r; obtain ⟨_, _, rfl, _⟩ := r; rfl
  | ref l => rw [Rep.ref] at r; obtain ⟨_, _, rfl⟩ := r; rfl
  | tup b => rw [Rep.tup] at r; obtain ⟨_, _, rfl, _⟩ := r; rfl
  | gl x => simp only [Rep] at r; obtain ⟨_, _, rfl⟩ := r; rfl
  | exv a => simp only [Rep] at r; subst r; rfl
  | lam f c q => simp only [Rep] at r; obtain ⟨rfl, _⟩ := r; rfl
theorem d_isN : OpD G dIsN (fun x y H Q => y = .non ∧ Q (.bl (decide (x = .non))) H) := by
  intro μ H M x y v u Q d M' S rx ry e k
  unfold dIsN at e
  split at e
  · cases e
    rw [Rep.non] at ry
    refine ⟨ry, ?_⟩
    rw [← isNon_ok rx]
    exact k μ _ H (.refl H) (List.prefix_refl _) S (Rep.bl.mpr rfl)
  · cases e
theorem d_notN : OpD G dNotN (fun x y H Q => y = .non ∧ Q (.bl (!decide (x = .non))) H) := by
  intro μ H M x y v u Q d M' S rx ry e k
  unfold dNotN at e
  split at e
  · cases e
    rw [Rep.non] at ry
    refine ⟨ry, ?_⟩
    rw [← isNon_ok rx]
    exact k μ _ H (.refl H) (List.prefix_refl _) S (Rep.bl.mpr rfl)
  · cases e
end
/-! ### membership -/
def allP : List D → Option (List P)
  | [] => some []
  | .p x :: xs => (allP xs).map fun r => x :: r
  | _ :: _ => none
theorem allP_map (xs : List P) : allP (xs.map D.p) = some xs := by
  induction xs with
  | nil => rfl
  | cons x xs ih => rw [List.map_cons, allP, ih]; rfl
theorem allP_eq : ∀ {xs : List D} {ys : List P}, allP xs = some ys → xs = ys.map D.p
  | [], ys, h => by simp only [allP, Option.some.injEq] at h; subst h; rfl
  | .p x :: xs, ys, h => by
    simp only [allP, Option.map_eq_some_iff] at h
    obtain ⟨r, h1, rfl⟩ := h
    rw [allP_eq h1]
    rfl
  | .ref _ :: _, _, h => by simp [allP] at h
  | .tup _ :: _, _, h => by simp [allP] at h
  | .gl _ :: _, _, h => by simp [allP] at h
  | .exv _ :: _, _, h => by simp [allP] at h
  | .lam _ _ _ :: _, _, h => by simp [allP] at h
/-- the items of a pure tuple, of a list of pure things -/
def rowP : D → Store → Option (List P)
  | .p (.tup xs), _ => some xs
  | .ref l, M => (match M[l]? with
    | some (.lst xs) => allP xs
    | some (.ro xs) => allP xs
    | _ => none)
  | _, _ => none
def dIn : D → D → Store → Option (D × Store)
  | .p x, c, M => (match rowP c M with
    | some xs => if x.depth ≤ 100 then some (.p (.bl (xs.any fun z => P.eqv z x)), M) else none
    | none => none)
  | _, _, _ => none
def dNotIn : D → D → Store → Option (D × Store)
  | .p x, c, M => (match rowP c M with
    | some xs => if x.depth ≤ 100 then some (.p (.bl (!xs.any fun z => P.eqv z x)), M) else none
    | none => none)
  | _, _, _ => none
def rInP (K : PySem.W.Frag) (neg : Bool) : R2 := fun v u H Q => ∃ x a vs xs, RepP K H x v ∧ u = .ref a ∧ (SqT K H a vs ∨ SqL K H a vs) ∧ RepPs K H xs vs ∧ x.depth ≤ 100 ∧ Q (.bl (if neg then !xs.any fun z => P.eqv z x else xs.any fun z => P.eqv z x)) H
section
variable {X : Cx} {G : Gm}
theorem rowP_ok {μ H M} {c : D} {u : V} {xs : List P} (S : SR G μ H M) (r : Rep G μ H c u) (h : rowP c M = some xs) : ∃ a vs, u = .ref a ∧ (SqT G.K H a vs ∨ SqL G.K H a vs) ∧ RepPs G.K H xs vs := by
  unfold rowP at h
  split at h
  · cases h
    rw [Rep.ptup] at r
    obtain ⟨a, vs, rfl, h1, h2⟩ := r
    exact ⟨a, vs, rfl, .inl h1, h2⟩
  · rw [Rep.ref] at r
    obtain ⟨a, h1, rfl⟩ := r
    split at h
    · rename_i ys e
      obtain ⟨vs, h2, h3⟩ := S.lst h1 e
      rw [allP_eq h] at h3
      exact ⟨a, vs, rfl, .inr (SqL.of h2), h3.to_P⟩
    · rename_i ys e
      obtain ⟨vs, h2, h3⟩ := S.obj _ a _ h1 e
      rw [allP_eq h] at h3
      exact ⟨a, vs, rfl, .inr h2.sql, h3.to_P⟩
    · cases h
  · cases h
theorem d_in : OpD G dIn (rInP G.K false) := by
  intro μ H M x y v u Q d M' S rx ry e k
  unfold dIn at e
  split at e
  · split at e
    · rename_i xs h
      split at e
      · rename_i hd
        cases e
        obtain ⟨a, vs, h1, h2, h3⟩ := rowP_ok S ry h
        simp only [Rep] at rx
        exact ⟨_, a, vs, xs, rx, h1, h2, h3, hd, k μ _ H (.refl H) (List.prefix_refl _) S (Rep.bl.mpr rfl)⟩
      · cases e
    · cases e
  · cases e
theorem d_notIn : OpD G dNotIn (rInP G.K true) := by
  intro μ H M x y v u Q d M' S rx ry e k
  unfold dNotIn at e
  split at e
  · split at e
    · rename_i xs h
      split at e
      · rename_i hd
        cases e
        obtain ⟨a, vs, h1, h2, h3⟩ := rowP_ok S ry h
        simp only [Rep] at rx
        exact ⟨_, a, vs, xs, rx, h1, h2, h3, hd, k μ _ H (.refl H) (List.prefix_refl _) S (Rep.bl.mpr rfl)⟩
      · cases e
    · cases e
  · cases e
theorem o_in_aux (hu : X.A.units + 120 < cLine) {pins : List (Addr × Obj)} {s : Shared} {σ : St} {H : Hp} (I : Inv X pins σ H s) {x : P} {v : V} {b : Value} {vs : List V} {xs : List P} {its : List Value} (hx : RepP X.K H x v) (rb : RelV v b) (hxs : RepPs X.K H xs vs) (r : Vals vs its) (hd : x.depth ≤ 100) :
    ∃ e : Value → Bool, its.toArray.any e = xs.any (fun z => P.eqv z x) ∧ ∀ y, y ∈ its.toArray → EqAt X.A.in1 s y b (e y) := by
  obtain ⟨e, h1, h2⟩ := any_P (b := b) (x := x) I hxs r
  refine ⟨e, by simpa using h1, fun y hy => ?_⟩
  obtain ⟨z, w, hz, g1, g2, g3⟩ := h2 y (by simpa using hy)
  rw [g3]
  have e1 : X.A.in1.units = X.A.units + 1 := by first | rfl | simp [Around.in1]
  exact eqAt_P I z x X.A.in1 w v y b g1 hx g2 rb (by rw [e1]; omega) (by rw [e1]; omega)
theorem o_in (hu : X.A.units + 120 < cLine) : OpR X (compareOp .In) (rInP X.K false) := by
  intro pins s σ H v u b c Q I rb rc h
  obtain ⟨x, a, vs, xs, hx, rfl, hq, hxs, hd, q⟩ := h
  cases rc
  rcases hq with hq | hq
  · obtain ⟨its, r, p, _⟩ := I.tuple hq
    obtain ⟨e, h1, h2⟩ := o_in_aux hu I hx rb hxs r hd
    exact in_tupleAt e (show s.heap.IsTuple a its.toArray from p) h2 (by rw [h1]; exact ⟨.bl _, H, I, rfl, q⟩)
  · obtain ⟨its, r, p, _⟩ := I.list hq
    obtain ⟨e, h1, h2⟩ := o_in_aux hu I hx rb hxs r hd
    exact in_listAt e p.isList h2 (by rw [h1]; exact ⟨.bl _, H, I, rfl, q⟩)
theorem o_notIn (hu : X.A.units + 120 < cLine) : OpR X (compareOp .NotIn) (rInP X.K true) := by
  intro pins s σ H v u b c Q I rb rc h
  obtain ⟨x, a, vs, xs, hx, rfl, hq, hxs, hd, q⟩ := h
  cases rc
  rcases hq with hq | hq
  · obtain ⟨its, r, p, _⟩ := I.tuple hq
    obtain ⟨e, h1, h2⟩ := o_in_aux hu I hx rb hxs r hd
    exact notIn_tupleAt e (show s.heap.IsTuple a its.toArray from p) h2 (by rw [h1]; exact ⟨.bl _, H, I, rfl, q⟩)
  · obtain ⟨its, r, p, _⟩ := I.list hq
    obtain ⟨e, h1, h2⟩ := o_in_aux hu I hx rb hxs r hd
    exact notIn_listAt e p.isList h2 (by rw [h1]; exact ⟨.bl _, H, I, rfl, q⟩)
end
end Fl

set_option Elab.async false
set_option linter.all false
set_option maxRecDepth 100000
/-! Fl, part E: tests, displays, arguments, calls, items, slices, methods. -/
namespace Fl
open PySem PySem.Spec L2
set_option autoImplicit false

/-! ### truth -/
def truthD : D → Store → Option Bool
  | .p .non, _ => some false
  | .p (.bl b), _ => some b
  | .p (.int i), _ => some (i != 0)
  | .p (.str x), _ => if x.length ≤ sizeLine then some ((x.length : Int) != 0) else none
  | .p (.tup xs), _ => some (!xs.isEmpty)
  | .tup xs, _ => some (!xs.isEmpty)
  | .ref l, M => (match M[l]? with
    | some (.lst xs) => some (!xs.isEmpty)
    | some (.ro xs) => some (!xs.isEmpty)
    | _ => none)
  | .gl _, _ => none
  | .exv _, _ => none
  | .lam _ _ _, _ => none
theorem isE_len {α β : Type} {xs : List α} {ys : List β} (h : xs.length = ys.length) : xs.isEmpty = ys.isEmpty := by
  cases xs <;> cases ys <;> simp_all
section
variable {X : Cx} {G : Gm} {W : WX} {a b e c : Expr} {fa fb fc : RE} {ta tb : RT} {pos : Pos} {rest : List Expr}
theorem truthD_ok {μ H M} {x : D} {v : V} {k : Bool} (S : SR G μ H M) (r : Rep G μ H x v) (h : truthD x M = some k) : TruV G.K v H k := by
  cases x with
  | p x =>
    cases x with
    | non => rw [Rep.non] at r; subst r; cases h; rfl
    | bl b => rw [Rep.bl] at r; subst r; cases h; rfl
    | int b => rw [Rep.int] at r; subst r; cases h; rfl
    | str b =>
      rw [Rep.str] at r; subst r
      have h : (if b.length ≤ sizeLine then some ((b.length : Int) != 0) else none) = some k := h
      split at h
      · rename_i hl; cases h; exact ⟨hl, rfl⟩
      · cases h
    | tup b =>
      rw [Rep.ptup] at r; obtain ⟨_, vs, rfl, h1, h2⟩ := r
      cases h
      exact .inr (.inl ⟨vs, h1, by rw [isE_len h2.length]⟩)
  | ref l =>
    rw [Rep.ref] at r; obtain ⟨p, h1, rfl⟩ := r
    have h : (match M[l]? with
      | some (.lst xs) => some (!xs.isEmpty)
      | some (.ro xs) => some (!xs.isEmpty)
      | _ => none) = some k := h
    split at h
    · rename_i xs e
      obtain ⟨vs, h2, h3⟩ := S.lst h1 e
      cases h
      exact .inl ⟨vs, SqL.of h2, by rw [isE_len h3.length]⟩
    · rename_i xs e
      obtain ⟨vs, h2, h3⟩ := S.obj _ p _ h1 e
      cases h
      exact .inl ⟨vs, h2.sql, by rw [isE_len h3.length]⟩
    · cases h
  | tup b =>
    rw [Rep.tup] at r; obtain ⟨_, vs, rfl, h1, h2⟩ := r
    cases h
    exact .inr (.inl ⟨vs, h1, by rw [isE_len h2.length]⟩)
  | gl x => cases h
  | exv x => cases h
  | lam f c q => cases h
theorem tst_in {t : D → Store → Option Bool} {σ : St} {H : Hp} {Q : Bool → Hp → Prop} (h : tT (gm X) W (rTst t fa) σ H Q) :
    tE (gm X) W fa σ H fun v H1 => ∃ μ M x k, SR (gm X) μ H1 M ∧ Rep (gm X) μ H1 x v ∧ t x M = some k ∧ Q k H1 := by
  refine (tX.bind h).mono fun v H1 g1 => ?_
  obtain ⟨μ, ρ, M, x, hE, hS, rx, hF⟩ := g1
  have hF : Fin (gm X) (fun _ _ (a b : Bool) => a = b) W μ σ H1 Q (match t x M with | some b => .ok b M | none => .no) := hF
  cases q : t x M with
  | none => rw [q] at hF; exact hF.elim
  | some k =>
    rw [q] at hF
    exact ⟨μ, M, x, k, hS, rx, q, hF μ k H1 (.refl _) (List.prefix_refl _) hS rfl⟩
/-- if x: -/
theorem i_truth (ha : PE X a (tE (gm X) W fa)) (he : ∀ whole, isTrue a X.env whole = (do let v ← whole; standAt a.pos; holding [v] (truthy v)) := by exact fun _ => rfl) : PT X a (tT (gm X) W (rTst truthD fa)) :=
  PTimp (pt_truth ha he) fun σ H Q h => (tst_in h).mono fun v H1 ⟨μ, M, x, k, hS, rx, q, w⟩ => ⟨k, truthD_ok hS rx q, w⟩
theorem asBool_ok {x : D} {M : Store} {k : Bool} (h : asBool x M = some k) : x = .p (.bl k) := by
  unfold asBool at h
  split at h
  · cases h; rfl
  · cases h
/-- if x < y: -/
theorem i_tcmp {o : CmpOp} {op r} (ho : OpR X (compareOp o) r) (hd : OpD (gm X) op r) (ha : PE X a (tE (gm X) W fa)) (hb : PE X b (tE (gm X) W fb)) (hm : behindInMarks o b = false := by first | exact nomark _ | rfl) :
    PT X (.Compare a [o] [b] pos) (tT (gm X) W (rTst asBool (rBin op fa fb))) :=
  PTimp (pt_cmpR ho ha hb hm) fun σ H Q h => by
    have h1 : tE (gm X) W (rBin op fa fb) σ H fun v H1 => ∃ k, v = .bl k ∧ Q k H1 := (tst_in h).mono fun v H1 ⟨μ, M, x, k, hS, rx, q, w⟩ => by
      rw [asBool_ok q, Rep.bl] at rx
      exact ⟨k, rx, w⟩
    exact bin_in (X := X) hd h1
/-! ### and, or, not -/
def rtAnd (f g : RT) : RT := fun ρ M => (f ρ M).bind fun b M1 => match b with
  | true => g ρ M1
  | false => .ok false M1
def rtOr (f g : RT) : RT := fun ρ M => (f ρ M).bind fun b M1 => match b with
  | true => .ok true M1
  | false => g ρ M1
def rtNot (f : RT) : RT := fun ρ M => (f ρ M).bind fun b M1 => .ok (!b) M1
/-- behind a test: the test's answer is known -/
theorem tT_bind {β κ : Type} {rel2 : List Addr → Hp → β → κ → Prop} {f : RT} {g : Bool → RX β} {σ : St} {H : Hp} {Q : κ → Hp → Prop} (h : tX G rel2 W (fun ρ M => (f ρ M).bind fun b M1 => g b ρ M1) σ H Q) :
    tT G W f σ H fun b H1 => tX G rel2 W (g b) σ H1 Q :=
  (tX.bind h).mono fun b H1 ⟨μ, ρ, M, c, hE, hS, e, hF⟩ => by
    subst e
    exact ⟨μ, ρ, M, hE, hS, hF⟩
theorem tT_ok {f : RT} {σ : St} {H : Hp} {Q : Bool → Hp → Prop} {k : Bool} (h : tT G W (fun _ M => .ok k M) σ H Q) : Q k H := by
  obtain ⟨μ, ρ, M, hE, hS, hF⟩ := h
  exact hF μ k H (.refl H) (List.prefix_refl _) hS rfl
theorem i_and1 (ha : PT X a (tT (gm X) W ta)) : PW X (.BoolOp .And [a] pos) (tT (gm X) W ta) := pw_and1 ha
theorem i_or1 (ha : PT X a (tT (gm X) W ta)) : PW X (.BoolOp .Or [a] pos) (tT (gm X) W ta) := pw_or1 ha
theorem i_tand (ha : PT X a (tT (gm X) W ta)) (hb : PW X (.BoolOp .And (b :: rest) pos) (tT (gm X) W tb)) : PW X (.BoolOp .And (a :: b :: rest) pos) (tT (gm X) W (rtAnd ta tb)) :=
  PWimp (pw_and ha hb) fun σ H Q h => by
    have h1 := tT_bind (g := fun b ρ M1 => match b with | true => tb ρ M1 | false => .ok false M1) h
    refine h1.mono fun k H1 w => ?_
    cases k with
    | true => exact w
    | false => exact tT_ok (f := ta) w
theorem i_tor (ha : PT X a (tT (gm X) W ta)) (hb : PW X (.BoolOp .Or (b :: rest) pos) (tT (gm X) W tb)) : PW X (.BoolOp .Or (a :: b :: rest) pos) (tT (gm X) W (rtOr ta tb)) :=
  PWimp (pw_or ha hb) fun σ H Q h => by
    have h1 := tT_bind (g := fun b ρ M1 => match b with | true => .ok true M1 | false => tb ρ M1) h
    refine h1.mono fun k H1 w => ?_
    cases k with
    | true => exact tT_ok (f := ta) w
    | false => exact w
theorem i_tnot (ha : PT X a (tT (gm X) W ta)) : PT X (.UnaryOp .Not a pos) (tT (gm X) W (rtNot ta)) :=
  PTimp (pt_not ha) fun σ H Q h => by
    have h1 := tT_bind (g := fun b ρ M1 => .ok (!b) M1) h
    exact h1.mono fun k H1 w => tT_ok (f := ta) w
/-- as values -/
def rNot (f : RT) : RE := fun ρ M => (f ρ M).bind fun b M1 => .ok (.p (.bl (!b))) M1
def rIf (t : RT) (f g : RE) : RE := fun ρ M => (t ρ M).bind fun b M1 => match b with
  | true => f ρ M1
  | false => g ρ M1
def rAnd (f g : RE) : RE := fun ρ M => (f ρ M).bind fun x M1 => match truthD x M1 with
  | some true => g ρ M1
  | some false => .ok x M1
  | none => .no
def rOr (f g : RE) : RE := fun ρ M => (f ρ M).bind fun x M1 => match truthD x M1 with
  | some true => .ok x M1
  | some false => g ρ M1
  | none => .no
theorem i_one {op : BoolOp} (ha : PE X a (tE (gm X) W fa)) : PE X (.BoolOp op [a] pos) (tE (gm X) W fa) := pe_one ha
theorem i_and (ha : PE X a (tE (gm X) W fa)) (hb : PE X (.BoolOp .And (b :: rest) pos) (tE (gm X) W fb)) : PE X (.BoolOp .And (a :: b :: rest) pos) (tE (gm X) W (rAnd fa fb)) :=
  PEimp (pe_andT ha hb) fun σ H Q h => by
    refine (tX.bind (g := fun x ρ M1 => match truthD x M1 with | some true => fb ρ M1 | some false => .ok x M1 | none => .no) h).mono fun v H1 ⟨μ, ρ, M, x, hE, hS, rx, hF⟩ => ?_
    have hF : Fin (gm X) (Rep (gm X)) W μ σ H1 Q (match truthD x M with | some true => fb ρ M | some false => .ok x M | none => .no) := hF
    cases q : truthD x M with
    | none => rw [q] at hF; exact hF.elim
    | some k =>
      rw [q] at hF
      refine ⟨k, truthD_ok hS rx q, ?_⟩
      cases k with
      | true => exact iteT ⟨μ, ρ, M, hE, hS, hF⟩
      | false => exact iteF (hF μ v H1 (.refl _) (List.prefix_refl _) hS rx)
theorem i_or (ha : PE X a (tE (gm X) W fa)) (hb : PE X (.BoolOp .Or (b :: rest) pos) (tE (gm X) W fb)) : PE X (.BoolOp .Or (a :: b :: rest) pos) (tE (gm X) W (rOr fa fb)) :=
  PEimp (pe_orT ha hb) fun σ H Q h => by
    refine (tX.bind (g := fun x ρ M1 => match truthD x M1 with | some true => .ok x M1 | some false => fb ρ M1 | none => .no) h).mono fun v H1 ⟨μ, ρ, M, x, hE, hS, rx, hF⟩ => ?_
    have hF : Fin (gm X) (Rep (gm X)) W μ σ H1 Q (match truthD x M with | some true => .ok x M | some false => fb ρ M | none => .no) := hF
    cases q : truthD x M with
    | none => rw [q] at hF; exact hF.elim
    | some k =>
      rw [q] at hF
      refine ⟨k, truthD_ok hS rx q, ?_⟩
      cases k with
      | true => exact iteT (hF μ v H1 (.refl _) (List.prefix_refl _) hS rx)
      | false => exact iteF ⟨μ, ρ, M, hE, hS, hF⟩
/-- not x as a value -/
theorem i_not (ha : PE X a (tE (gm X) W fa)) : PE X (.UnaryOp .Not a pos) (tE (gm X) W (rNot (rTst truthD fa))) :=
  PEimp (pe_notT ha) fun σ H Q h => by
    have h1 : tT (gm X) W (rTst truthD fa) σ H _ := tT_bind (rel2 := Rep (gm X)) (g := fun b ρ M1 => R.ok (D.p (P.bl (!b))) M1) h
    refine (tst_in h1).mono fun v H1 ⟨μ, M, x, k, hS, rx, q, w⟩ => ⟨k, truthD_ok hS rx q, ?_⟩
    obtain ⟨μ, ρ, M, hE, hS, hF⟩ := w
    exact hF μ _ H1 (.refl _) (List.prefix_refl _) hS (Rep.bl.mpr rfl)
theorem i_ifx (hc : PT X c (tT (gm X) W ta)) (ha : PE X a (tE (gm X) W fa)) (hb : PE X b (tE (gm X) W fb)) : PE X (.IfExp c a b pos) (tE (gm X) W (rIf ta fa fb)) :=
  PEimp (pe_ifExp hc ha hb) fun σ H Q h => by
    have h1 := tT_bind (g := fun b ρ M1 => match b with | true => fa ρ M1 | false => fb ρ M1) h
    refine h1.mono fun k H1 w => ?_
    cases k with
    | true => exact iteT w
    | false => exact iteF w
/-! ### chains a < b < c -/
def rChain (op op' : D → D → Store → Option (D × Store)) (fa fb fc : RE) : RE := fun ρ M => (fa ρ M).bind fun x M1 => (fb ρ M1).bind fun y M2 => match op x y M2 with
  | some (.p (.bl true), M3) => (fc ρ M3).bind fun z M4 => ofO (op' y z M4)
  | some (.p (.bl false), M3) => .ok (.p (.bl false)) M3
  | _ => .no
theorem chain_in {op op' r r'} (hd : OpD (gm X) op r) (hd' : OpD (gm X) op' r') {σ : St} {H : Hp} {Q : VK} (h : tE (gm X) W (rChain op op' fa fb fc) σ H Q) : tChain r r' (tE (gm X) W fa) (tE (gm X) W fb) (tE (gm X) W fc) σ H Q := by
  refine (tX.bind h).mono fun v H1 g1 => ?_
  refine (Go.bind Rep.mono g1).mono fun u H2 g2 => ?_
  obtain ⟨μ, ρ, M, x, y, hE, hS, rx, ry, hF⟩ := g2
  have hF : Fin (gm X) (Rep (gm X)) W μ σ H2 Q (match op x y M with
    | some (.p (.bl true), M3) => (fc ρ M3).bind fun z M4 => ofO (op' y z M4)
    | some (.p (.bl false), M3) => .ok (.p (.bl false)) M3
    | _ => .no) := hF
  cases q : op x y M with
  | none => rw [q] at hF; exact hF.elim
  | some p =>
    obtain ⟨d, M'⟩ := p
    rw [q] at hF
    refine hd μ H2 M x y v u _ d M' hS rx ry q fun μ3 w H3 e3 p3 S3 r3 => ?_
    split at hF
    · rename_i M3 e
      cases e
      rw [Rep.bl] at r3
      refine ⟨true, r3, iteT ?_⟩
      have g3 : Go (gm X) (Rep (gm X)) (Rep (gm X)) W (fun y ρ M3 => (fc ρ M3).bind fun z M4 => ofO (op' y z M4)) σ Q u H3 := ⟨μ3, ρ, M', y, hE.ext e3 p3, S3, ry.ext e3 p3, Fin.later e3 p3 hF⟩
      refine (Go.bind Rep.mono g3).mono fun t H4 g4 => ?_
      obtain ⟨μ4, ρ4, M4, y4, z4, hE4, hS4, ry4, rz4, hF4⟩ := g4
      have hF4 : Fin (gm X) (Rep (gm X)) W μ4 σ H4 Q (ofO (op' y4 z4 M4)) := hF4
      cases q4 : op' y4 z4 M4 with
      | none => rw [q4] at hF4; exact hF4.elim
      | some p4 =>
        obtain ⟨d4, M5⟩ := p4
        rw [q4] at hF4
        exact hd' μ4 H4 M4 y4 z4 u t Q d4 M5 hS4 ry4 rz4 q4 hF4
    · rename_i M3 e
      cases e
      rw [Rep.bl] at r3
      exact ⟨false, r3, iteF (hF μ3 _ H3 e3 p3 S3 (Rep.bl.mpr rfl))⟩
    · exact hF.elim
theorem i_chain {o o' : CmpOp} {op op' r r'} (ho : OpR X (compareOp o) r) (hd : OpD (gm X) op r) (ho' : OpR X (compareOp o') r') (hd' : OpD (gm X) op' r') (ha : PE X a (tE (gm X) W fa)) (hb : PE X b (tE (gm X) W fb)) (hc : PE X c (tE (gm X) W fc))
    (hm : lastMarks [o, o'] [b, c] = false := by with_unfolding_all rfl) : PE X (.Compare a [o, o'] [b, c] pos) (tE (gm X) W (rChain op op' fa fb fc)) :=
  PEimp (pe_chain ho ho' ha hb hc hm) fun _ _ _ h => chain_in hd hd' h
theorem i_tchain {o o' : CmpOp} {op op' r r'} (ho : OpR X (compareOp o) r) (hd : OpD (gm X) op r) (ho' : OpR X (compareOp o') r') (hd' : OpD (gm X) op' r') (ha : PE X a (tE (gm X) W fa)) (hb : PE X b (tE (gm X) W fb)) (hc : PE X c (tE (gm X) W fc))
    (hm : lastMarks [o, o'] [b, c] = false := by with_unfolding_all rfl) : PT X (.Compare a [o, o'] [b, c] pos) (tT (gm X) W (rTst asBool (rChain op op' fa fb fc))) :=
  PTimp (pt_chain ho ho' ha hb hc hm) fun σ H Q h => by
    have h1 : tE (gm X) W (rChain op op' fa fb fc) σ H fun v H1 => ∃ k, v = .bl k ∧ Q k H1 := (tst_in h).mono fun v H1 ⟨μ, M, x, k, hS, rx, q, w⟩ => by
      rw [asBool_ok q, Rep.bl] at rx
      exact ⟨k, rx, w⟩
    exact chain_in (X := X) hd hd' h1
end
/-! ### arguments, displays -/
def rNil : RA := fun _ M => .ok [] M
def rCons (f : RE) (g : RA) : RA := fun ρ M => (f ρ M).bind fun x M1 => (g ρ M1).bind fun xs M2 => .ok (x :: xs) M2
def mkTup (xs : List D) : D := match allP xs with
  | some ys => .p (.tup ys)
  | none => .tup xs
def rTup (f : RA) : RE := fun ρ M => (f ρ M).bind fun xs M1 => if xs.length ≤ 1000 then .ok (mkTup xs) M1 else .no
def rLst (f : RA) : RE := fun ρ M => (f ρ M).bind fun xs M1 => if xs.length ≤ 1000 then .ok (.ref M1.length) (M1 ++ [.lst xs]) else .no
theorem small_line {n : Nat} (h : n ≤ 1000) : n ≤ sizeLine := by rw [sizeLine_eq]; omega
section
variable {X : Cx} {G : Gm} {W : WX} {a b e c : Expr} {fa fb fc : RE} {fs : RA} {pos : Pos} {es : List Expr}
theorem mkTup_ok {μ H} {xs : List D} {vs : List V} {p : Addr} (h : SqT G.K H p vs) (r : Reps G μ H xs vs) : Rep G μ H (mkTup xs) (.ref p) := by
  unfold mkTup
  split
  · rename_i ys e
    rw [allP_eq e] at r
    exact Rep.ptup.mpr ⟨p, vs, rfl, h, r.to_P⟩
  · exact Rep.tup.mpr ⟨p, vs, rfl, h, r⟩
theorem i_nil : PA X [] (tA (gm X) W rNil) := PAimp pa_nil fun σ H Q h => by
  obtain ⟨μ, ρ, M, hE, hS, hF⟩ := h
  exact hF μ [] H (.refl _) (List.prefix_refl _) hS .nil
theorem i_cons (ha : PE X e (tE (gm X) W fa)) (hr : PA X es (tA (gm X) W fs)) (hs : starEach (e :: es) X.env = (false, eval e X.env) :: starEach es X.env := by rfl) : PA X (e :: es) (tA (gm X) W (rCons fa fs)) :=
  PAimp (pa_cons ha hr hs) fun σ H Q h => by
    refine (tX.bind h).mono fun v H1 g1 => ?_
    refine (Go.bind Rep.mono g1).mono fun vs H2 ⟨μ, ρ, M, x, xs, hE, hS, rx, rxs, hF⟩ => ?_
    exact hF μ (v :: vs) H2 (.refl _) (List.prefix_refl _) hS (.cons rx rxs)
theorem i_tup {x1 : Nat} (h : PA X es (tA (gm X) W fs)) : PE X (.Tuple es x1 pos) (tE (gm X) W (rTup fs)) :=
  PEimp (pe_tup h) fun σ H Q h => by
    refine (tX.bind h).mono fun vs H1 ⟨μ, ρ, M, xs, hE, hS, rx, hF⟩ => ?_
    have hF : Fin (gm X) (Rep (gm X)) W μ σ H1 Q (if xs.length ≤ 1000 then .ok (mkTup xs) M else .no) := hF
    split at hF
    · rename_i hl
      refine ⟨by rw [← rx.length]; exact small_line hl, fun p hp => ?_⟩
      exact hF μ _ _ (.new hp) (List.prefix_refl _) (hS.grow hp) (mkTup_ok (SqT.of upd_same) (rx.ext (.new hp) (List.prefix_refl _)))
    · exact hF.elim
theorem i_lst (h : PA X es (tA (gm X) W fs)) : PE X (.List es pos) (tE (gm X) W (rLst fs)) :=
  PEimp (pe_lst h) fun σ H Q h => by
    refine (tX.bind h).mono fun vs H1 ⟨μ, ρ, M, xs, hE, hS, rx, hF⟩ => ?_
    have hF : Fin (gm X) (Rep (gm X)) W μ σ H1 Q (if xs.length ≤ 1000 then .ok (.ref M.length) (M ++ [.lst xs]) else .no) := hF
    split at hF
    · rename_i hl
      refine ⟨by rw [← rx.length]; exact small_line hl, fun p hp => ?_⟩
      exact hF (μ ++ [p]) _ _ (.new hp) (List.prefix_append _ _) (new_lst hS hp rx) (new_ref hS p)
    · exact hF.elim
end
/-! ### calls of built-ins by name -/
def CallD (G : Gm) (op : List D → Store → Option (D × Store)) (r : List V → Hp → VK → Prop) : Prop :=
  ∀ (μ : List Addr) (H : Hp) (M : Store) (xs : List D) (vs : List V) (Q : VK) (d : D) (M' : Store), SR G μ H M → Reps G μ H xs vs → op xs M = some (d, M') →
    (∀ μ' w H', Ext H H' → μ <+: μ' → SR G μ' H' M' → Rep G μ' H' d w → Q w H') → r vs H Q
def rCB (op : List D → Store → Option (D × Store)) (fs : RA) : RE := fun ρ M => (fs ρ M).bind fun xs M1 => ofO (op xs M1)
section
variable {X : Cx} {G : Gm} {W : WX} {a b e c : Expr} {fa fb fc : RE} {fs : RA} {p pos : Pos} {es : List Expr}
theorem cb_in {op r} (hd : CallD (gm X) op r) {σ : St} {H : Hp} {Q : VK} (h : tE (gm X) W (rCB op fs) σ H Q) : tCB r (tA (gm X) W fs) σ H Q := by
  refine (tX.bind h).mono fun vs H1 ⟨μ, ρ, M, xs, hE, hS, rx, hF⟩ => ?_
  have hF : Fin (gm X) (Rep (gm X)) W μ σ H1 Q (ofO (op xs M)) := hF
  cases q : op xs M with
  | none => rw [q] at hF; exact hF.elim
  | some p =>
    obtain ⟨d, M'⟩ := p
    rw [q] at hF
    exact hd μ H1 M xs vs Q d M' hS rx q hF
theorem i_callB {x : Str} {id : String} {op r} (hc : CallR X (.builtin id) r) (hd : CallD (gm X) op r) (hg : Gl X x) (hm : X.mg x = none) (hv : bootBuiltins x = some (.builtin id)) (ha : PA X (e :: es) (tA (gm X) W fs))
    (hn : x ≠ "__name__" := by decide) (hdb : (x == ("__debug__" : Str)) = false := by decide) (he : starEach (e :: es) X.env = (false, eval e X.env) :: starEach es X.env := by rfl) (hpl : (backTo pos (starEach es X.env)).any (·.1) = false := by rfl) :
    PE X (.Call (.Name x p) (e :: es) [] pos) (tE (gm X) W (rCB op fs)) :=
  PEimp (pe_callB hc hg hm hv ha hn hdb he hpl) fun _ _ _ h => cb_in hd h
theorem i_callTy {x : Str} {T : String} {op r} (hc : CallR X (.type T) r) (hd : CallD (gm X) op r) (hg : Gl X x) (hm : X.mg x = none) (hv : bootBuiltins x = some (.type T)) (ha : PA X (e :: es) (tA (gm X) W fs))
    (hn : x ≠ "__name__" := by decide) (hdb : (x == ("__debug__" : Str)) = false := by decide) (he : starEach (e :: es) X.env = (false, eval e X.env) :: starEach es X.env := by rfl) (hpl : (backTo pos (starEach es X.env)).any (·.1) = false := by rfl) :
    PE X (.Call (.Name x p) (e :: es) [] pos) (tE (gm X) W (rCB op fs)) :=
  PEimp (pe_callTy hc hg hm hv ha hn hdb he hpl) fun _ _ _ h => cb_in hd h
end
end Fl

set_option Elab.async false
set_option linter.all false
set_option maxRecDepth 100000
/-! Fl, part F: built-ins, items, slices, methods of lists, calls of defs. -/
namespace Fl
open PySem PySem.Spec L2
set_option autoImplicit false
section
variable {X : Cx} {G : Gm} {W : WX}
theorem Reps.inv1 {μ : List Addr} {H : Hp} {x : D} {vs : List V} (h : Reps G μ H [x] vs) : ∃ v, vs = [v] ∧ Rep G μ H x v := by
  obtain ⟨v, r, rfl, h1, h2⟩ := h.inv
  rw [h2.inv0]
  exact ⟨v, rfl, h1⟩
theorem Reps.inv2 {μ : List Addr} {H : Hp} {x y : D} {vs : List V} (h : Reps G μ H [x, y] vs) : ∃ v u, vs = [v, u] ∧ Rep G μ H x v ∧ Rep G μ H y u := by
  obtain ⟨v, r, rfl, h1, h2⟩ := h.inv
  obtain ⟨u, rfl, h3⟩ := h2.inv1
  exact ⟨v, u, rfl, h1, h3⟩
/-! ### len, int, abs, min, max -/
def lenD : D → Store → Option Nat
  | .p (.str x), _ => if x.length ≤ sizeLine then some x.length else none
  | .p (.tup xs), _ => some xs.length
  | .tup xs, _ => some xs.length
  | .ref l, M => (match M[l]? with
    | some (.lst xs) => some xs.length
    | some (.ro xs) => some xs.length
    | _ => none)
  | _, _ => none
def cLen : List D → Store → Option (D × Store)
  | [x], M => (lenD x M).map fun (n : Nat) => (.p (.int (n : Int)), M)
  | _, _ => none
theorem lenD_ok {μ H M} {x : D} {v : V} {n : Nat} (S : SR G μ H M) (r : Rep G μ H x v) (h : lenD x M = some n) : LenV G.K v H n := by
  cases x with
  | p x =>
    cases x with
    | str b =>
      rw [Rep.str] at r; subst r
      have h : (if b.length ≤ sizeLine then some b.length else none) = some n := h
      split at h
      · rename_i hl; cases h; exact ⟨hl, rfl⟩
      · cases h
    | tup b =>
      rw [Rep.ptup] at r; obtain ⟨_, vs, rfl, h1, h2⟩ := r
      cases h
      exact .inr ⟨vs, h1, h2.length⟩
    | _ => cases h
  | ref l =>
    rw [Rep.ref] at r; obtain ⟨p, h1, rfl⟩ := r
    have h : (match M[l]? with
      | some (.lst xs) => some xs.length
      | some (.ro xs) => some xs.length
      | _ => none) = some n := h
    split at h
    · rename_i xs e
      obtain ⟨vs, h2, h3⟩ := S.lst h1 e
      cases h
      exact .inl ⟨vs, SqL.of h2, h3.length⟩
    · rename_i xs e
      obtain ⟨vs, h2, h3⟩ := S.obj _ p _ h1 e
      cases h
      exact .inl ⟨vs, h2.sql, h3.length⟩
    · cases h
  | tup b =>
    rw [Rep.tup] at r; obtain ⟨_, vs, rfl, h1, h2⟩ := r
    cases h
    exact .inr ⟨vs, h1, h2.length⟩
  | gl x => cases h
  | exv x => cases h
  | lam f c q => cases h
theorem d_len : CallD G cLen (fun xs H Q => ∃ (x : V) (n : Nat), xs = [x] ∧ LenV G.K x H n ∧ Q (.int (n : Int)) H) := by
  intro μ H M xs vs Q d M' S r q k
  unfold cLen at q
  split at q
  · rename_i x
    obtain ⟨n, h1, h2⟩ := Option.map_eq_some_iff.mp q
    cases h2
    obtain ⟨v, rfl, r1⟩ := r.inv1
    exact ⟨v, n, rfl, lenD_ok S r1 h1, k μ _ H (.refl _) (List.prefix_refl _) S (Rep.int.mpr rfl)⟩
  · cases q
def cInt : List D → Store → Option (D × Store)
  | [.p (.int i)], M => some (.p (.int i), M)
  | [.p (.bl b)], M => some (.p (.int (if b then 1 else 0)), M)
  | _, _ => none
theorem d_int : CallD G cInt (fun xs H Q => (∃ i, xs = [.int i] ∧ Q (.int i) H) ∨ ∃ k, xs = [.bl k] ∧ Q (.int (if k then 1 else 0)) H) := by
  intro μ H M xs vs Q d M' S r q k
  unfold cInt at q
  split at q
  · cases q
    obtain ⟨v, rfl, r1⟩ := r.inv1
    rw [Rep.int] at r1
    subst r1
    exact .inl ⟨_, rfl, k μ _ H (.refl _) (List.prefix_refl _) S (Rep.int.mpr rfl)⟩
  · cases q
    obtain ⟨v, rfl, r1⟩ := r.inv1
    rw [Rep.bl] at r1
    subst r1
    exact .inr ⟨_, rfl, k μ _ H (.refl _) (List.prefix_refl _) S (Rep.int.mpr rfl)⟩
  · cases q
def cAbs : List D → Store → Option (D × Store)
  | [.p (.int i)], M => some (.p (.int (if i < 0 then -i else i)), M)
  | _, _ => none
theorem d_abs : CallD G cAbs (fun xs H Q => ∃ i, xs = [.int i] ∧ Q (.int (if i < 0 then -i else i)) H) := by
  intro μ H M xs vs Q d M' S r q k
  unfold cAbs at q
  split at q
  · cases q
    obtain ⟨v, rfl, r1⟩ := r.inv1
    rw [Rep.int] at r1
    subst r1
    exact ⟨_, rfl, k μ _ H (.refl _) (List.prefix_refl _) S (Rep.int.mpr rfl)⟩
  · cases q
def cMax2 : List D → Store → Option (D × Store)
  | [.p (.int i), .p (.int j)], M => some (.p (.int (if j > i then j else i)), M)
  | _, _ => none
def cMin2 : List D → Store → Option (D × Store)
  | [.p (.int i), .p (.int j)], M => some (.p (.int (if j < i then j else i)), M)
  | _, _ => none
theorem d_max2 : CallD G cMax2 (fun xs H Q => ∃ i j, xs = [.int i, .int j] ∧ Q (.int (if j > i then j else i)) H) := by
  intro μ H M xs vs Q d M' S r q k
  unfold cMax2 at q
  split at q
  · cases q
    obtain ⟨v, u, rfl, r1, r2⟩ := r.inv2
    rw [Rep.int] at r1 r2
    subst r1 r2
    exact ⟨_, _, rfl, k μ _ H (.refl _) (List.prefix_refl _) S (Rep.int.mpr rfl)⟩
  · cases q
theorem d_min2 : CallD G cMin2 (fun xs H Q => ∃ i j, xs = [.int i, .int j] ∧ Q (.int (if j < i then j else i)) H) := by
  intro μ H M xs vs Q d M' S r q k
  unfold cMin2 at q
  split at q
  · cases q
    obtain ⟨v, u, rfl, r1, r2⟩ := r.inv2
    rw [Rep.int] at r1 r2
    subst r1 r2
    exact ⟨_, _, rfl, k μ _ H (.refl _) (List.prefix_refl _) S (Rep.int.mpr rfl)⟩
  · cases q
/-! ### isinstance(x, T), T a built-in type -/
/-- the type of a value, by its name -/
def tyD : D → Store → Option String
  | .p .non, _ => some "NoneType"
  | .p (.bl _), _ => some "bool"
  | .p (.int _), _ => some "int"
  | .p (.str _), _ => some "str"
  | .p (.tup _), _ => some "tuple"
  | .tup _, _ => some "tuple"
  | .ref l, M => (match M[l]? with
    | some (.lst _) => some "list"
    | some (.ro _) => some "list"
    | _ => none)
  | _, _ => none
theorem tyD_ok {μ H M} {x : D} {v : V} {t : String} (S : SR G μ H M) (r : Rep G μ H x v) (h : tyD x M = some t) : TyX G.K H v (.type t) := by
  have tupc : ∀ {p : Addr} {vs : List V}, SqT G.K H p vs → TyX G.K H (.ref p) (.type "tuple") := fun {p vs} h1 => by
    rcases h1 with (h1 | ⟨o, h1⟩) | ⟨o, its, n, h1, h2, _⟩
    · exact .base (.tup h1)
    · exact .fTuple h1
    · exact .kTuple h1 h2
  cases x with
  | p x =>
    cases x with
    | non => rw [Rep.non] at r; subst r; cases h; exact .base .non
    | bl b => rw [Rep.bl] at r; subst r; cases h; exact .base (.bl b)
    | int b => rw [Rep.int] at r; subst r; cases h; exact .base (.int b)
    | str b => rw [Rep.str] at r; subst r; cases h; exact .base (.str b)
    | tup b =>
      rw [Rep.ptup] at r; obtain ⟨p, vs, rfl, h1, h2⟩ := r
      cases h
      exact tupc h1
  | ref l =>
    rw [Rep.ref] at r; obtain ⟨p, h1, rfl⟩ := r
    have h : (match M[l]? with
      | some (.lst _) => some "list"
      | some (.ro _) => some "list"
      | _ => none) = some t := h
    split at h
    · rename_i xs e
      obtain ⟨vs, h2, h3⟩ := S.lst h1 e
      cases h
      exact .base (.lst h2)
    · rename_i xs e
      obtain ⟨vs, h2, h3⟩ := S.obj _ p _ h1 e
      cases h
      rcases h2 with ⟨o, h2⟩ | ⟨o, its, n, h2, h4, _⟩
      · exact .base (.frz h2)
      · exact .kList h2 h4
    · cases h
  | tup b =>
    rw [Rep.tup] at r; obtain ⟨p, vs, rfl, h1, h2⟩ := r
    cases h
    exact tupc h1
  | gl x => cases h
  | exv x => cases h
  | lam f c q => cases h
/-- is a value of the type t one of T: for the built-in types that are told here -/
def isaT (t T : String) : Bool := t == T || (t == "bool" && T == "int")
theorem isaT_ok (t T : String) (ht : t = "NoneType" ∨ t = "bool" ∨ t = "int" ∨ t = "str" ∨ t = "tuple" ∨ t = "list" ∨ t = "dict") (hT : T = "int" ∨ T = "bool" ∨ T = "str" ∨ T = "tuple" ∨ T = "list" ∨ T = "dict") :
    kitB t T = some (isaT t T) := by
  rcases ht with rfl | rfl | rfl | rfl | rfl | rfl | rfl <;> rcases hT with rfl | rfl | rfl | rfl | rfl | rfl <;> decide +kernel
theorem tyD_names {x : D} {M : Store} {t : String} (h : tyD x M = some t) : t = "NoneType" ∨ t = "bool" ∨ t = "int" ∨ t = "str" ∨ t = "tuple" ∨ t = "list" ∨ t = "dict" := by
  unfold tyD at h
  split at h
  all_goals first
    | (cases h; simp; done)
    | (cases h; done)
    | (split at h <;> first | (cases h; simp; done) | (cases h; done))
def cIsa (T : String) : D → Store → Option (D × Store) := fun x M => (tyD x M).map fun t => (.p (.bl (isaT t T)), M)
/-- isinstance(e, T) -/
def rIsa (T : String) (f : RE) : RE := rUn (cIsa T) f
theorem i_isa {e : Expr} {f : RE} {T : String} {x : Str} {p p2 pos : Pos} (hT : T = "int" ∨ T = "bool" ∨ T = "str" ∨ T = "tuple" ∨ T = "list" ∨ T = "dict") (hg : Gl X "isinstance") (hm : X.mg "isinstance" = none) (hg2 : Gl X x) (hm2 : X.mg x = none) (hv2 : bootBuiltins x = some (.type T))
    (ha : PE X e (tE (gm X) W f)) (hn2 : x ≠ "__name__" := by decide) (hd2 : (x == ("__debug__" : Str)) = false := by decide)
    (hs : starEach [e, .Name x p2] X.env = (false, eval e X.env) :: starEach [.Name x p2] X.env := by rfl) (hs2 : starEach [.Name x p2] X.env = (false, eval (.Name x p2) X.env) :: starEach [] X.env := by rfl) (hpl : (backTo pos (starEach [.Name x p2] X.env)).any (·.1) = false := by rfl) :
    PE X (.Call (.Name "isinstance" p) [e, .Name x p2] [] pos) (tE (gm X) W (rIsa T f)) := by
  refine PEimp (pe_callB call_isi hg hm PyProof.Rows.boot_isinstance (pa_cons ha (pa_cons (pe_bltn (v := .ty T) hg2 hm2 hv2 rfl hn2 hd2) pa_nil hs2) hs) (by decide) (by decide) hs hpl) fun σ H Q h => ?_
  refine (tX.bind h).mono fun v H1 ⟨μ, ρ, M, x, hE, hS, rx, hF⟩ => ?_
  have hF : Fin (gm X) (Rep (gm X)) W μ σ H1 Q (ofO (cIsa T x M)) := hF
  cases q : tyD x M with
  | none =>
    unfold cIsa at hF
    rw [q] at hF
    exact hF.elim
  | some t =>
    unfold cIsa at hF
    rw [q] at hF
    exact ⟨v, .ty T, .type t, .type T, isaT t T, rfl, .ty T, tyD_ok hS rx q, kit_ty (isaT_ok t T (tyD_names q) hT), hF μ _ H1 (.refl _) (List.prefix_refl _) hS (Rep.bl.mpr rfl)⟩
/-! ### tuple(x), list(x) -/
/-- the items of a row -/
def rowD : D → Store → Option (List D)
  | .p (.tup xs), _ => some (xs.map D.p)
  | .tup xs, _ => some xs
  | .ref l, M => (match M[l]? with
    | some (.lst xs) => some xs
    | some (.ro xs) => some xs
    | _ => none)
  | _, _ => none
theorem rowD_ok {μ H M} {c : D} {u : V} {xs : List D} (S : SR G μ H M) (r : Rep G μ H c u) (h : rowD c M = some xs) : ∃ a vs, u = .ref a ∧ (SqT G.K H a vs ∨ SqL G.K H a vs) ∧ Reps G μ H xs vs := by
  unfold rowD at h
  split at h
  · cases h
    rw [Rep.ptup] at r
    obtain ⟨a, vs, rfl, h1, h2⟩ := r
    exact ⟨a, vs, rfl, .inl h1, Reps.of_P h2⟩
  · cases h
    rw [Rep.tup] at r
    obtain ⟨a, vs, rfl, h1, h2⟩ := r
    exact ⟨a, vs, rfl, .inl h1, h2⟩
  · rw [Rep.ref] at r
    obtain ⟨a, h1, rfl⟩ := r
    split at h
    · rename_i ys e
      cases h
      obtain ⟨vs, h2, h3⟩ := S.lst h1 e
      exact ⟨a, vs, rfl, .inr (SqL.of h2), h3⟩
    · rename_i ys e
      cases h
      obtain ⟨vs, h2, h3⟩ := S.obj _ a _ h1 e
      exact ⟨a, vs, rfl, .inr h2.sql, h3⟩
    · cases h
  · cases h
def cTuple : List D → Store → Option (D × Store)
  | [.p (.tup xs)], M => some (.p (.tup xs), M)
  | [.tup xs], M => some (.tup xs, M)
  | [.ref l], M => (rowD (.ref l) M).map fun xs => (mkTup xs, M)
  | _, _ => none
def cList : List D → Store → Option (D × Store)
  | [x], M => (rowD x M).map fun xs => (.ref M.length, M ++ [.lst xs])
  | _, _ => none
abbrev rTupleU (K : PySem.W.Frag) : List V → Hp → VK → Prop := fun xs H Q => (∃ a ys, xs = [.ref a] ∧ SqT K H a ys ∧ Q (.ref a) H) ∨ (∃ p ys, xs = [.ref p] ∧ (SqL K H p ys ∧ ∀ l, H l = none → Q (.ref l) (upd H l (.tup ys))))
theorem o_tuple : CallR X (.type "tuple") (rTupleU X.K) := by
  intro pins s σ H xs us Q I r h
  rcases h with h | ⟨p, ys, e, h1, h2⟩
  · exact call_tupleT pins s σ H xs us Q I r h
  · exact call_tuple_of pins s σ H xs us Q I r ⟨p, ys, e, .inl ⟨h1, h2⟩⟩
theorem d_tuple : CallD G cTuple (rTupleU G.K) := by
  intro μ H M xs vs Q d M' S r q k
  unfold cTuple at q
  split at q
  · cases q
    obtain ⟨v, rfl, r1⟩ := r.inv1
    obtain ⟨a, ws, e, h1, h2⟩ := Rep.ptup.mp r1
    subst e
    exact .inl ⟨a, ws, rfl, h1, k μ _ H (.refl _) (List.prefix_refl _) S r1⟩
  · cases q
    obtain ⟨v, rfl, r1⟩ := r.inv1
    obtain ⟨a, ws, e, h1, h2⟩ := Rep.tup.mp r1
    subst e
    exact .inl ⟨a, ws, rfl, h1, k μ _ H (.refl _) (List.prefix_refl _) S r1⟩
  · rename_i l
    obtain ⟨ys, h1, h2⟩ := Option.map_eq_some_iff.mp q
    cases h2
    obtain ⟨v, rfl, r1⟩ := r.inv1
    obtain ⟨a, ha, e⟩ := Rep.ref.mp r1
    subst e
    have h : ∃ ws, SqL G.K H a ws ∧ Reps G μ H ys ws := by
      have h1 : (match M[l]? with
        | some (.lst xs) => some xs
        | some (.ro xs) => some xs
        | _ => none) = some ys := h1
      split at h1
      · rename_i zs e
        cases h1
        obtain ⟨ws, h2, h3⟩ := S.lst ha e
        exact ⟨ws, SqL.of h2, h3⟩
      · rename_i zs e
        cases h1
        obtain ⟨ws, h2, h3⟩ := S.obj _ a _ ha e
        exact ⟨ws, h2.sql, h3⟩
      · cases h1
    obtain ⟨ws, h2, h3⟩ := h
    exact .inr ⟨a, ws, rfl, h2, fun p hp => k μ _ _ (.new hp) (List.prefix_refl _) (S.grow hp) (mkTup_ok (SqT.of upd_same) (h3.ext (.new hp) (List.prefix_refl _)))⟩
  · cases q
theorem d_list : CallD G cList (fun xs H Q => ∃ p ys, xs = [.ref p] ∧ (SqL G.K H p ys ∨ SqT G.K H p ys) ∧ ∀ l, H l = none → Q (.ref l) (upd H l (.lst ys))) := by
  intro μ H M xs vs Q d M' S r q k
  unfold cList at q
  split at q
  · obtain ⟨ys, h1, h2⟩ := Option.map_eq_some_iff.mp q
    cases h2
    obtain ⟨v, rfl, r1⟩ := r.inv1
    obtain ⟨a, ws, rfl, h2, h3⟩ := rowD_ok S r1 h1
    exact ⟨a, ws, rfl, h2.symm, fun p hp => k (μ ++ [p]) _ _ (.new hp) (List.prefix_append _ _) (new_lst S hp h3) (new_ref S p)⟩
  · cases q
/-! ### items -/
def dIx : D → D → Store → Option (D × Store)
  | .p (.str z), .p (.int i), M => if z.length ≤ sizeLine then (atI z.cps.toList i).map fun c => (.p (.str ⟨#[c]⟩), M) else none
  | c, .p (.int i), M => (match rowD c M with
    | some xs => (atI xs i).map fun x => (x, M)
    | none => none)
  | _, _, _ => none
theorem Reps.atI {μ : List Addr} {H : Hp} {xs : List D} {vs : List V} (h : Reps G μ H xs vs) {i : Int} {x : D} (e : L2.atI xs i = some x) : ∃ v, L2.atI vs i = some v ∧ Rep G μ H x v := by
  unfold L2.atI at e ⊢
  rw [← h.length]
  cases q : ixN xs.length i with
  | none => rw [q] at e; cases e
  | some j =>
    rw [q] at e
    exact h.get (show xs[j]? = some x from e)
theorem d_ix : OpD G dIx (rIx G.K) := by
  intro μ H M x y v u Q d M' S rx ry q k
  unfold dIx at q
  split at q
  · split at q
    · rename_i hz
      obtain ⟨c, h1, h2⟩ := Option.map_eq_some_iff.mp q
      cases h2
      rw [Rep.str] at rx
      rw [Rep.int] at ry
      exact .inr (.inr ⟨_, _, c, rx, ry, hz, h1, k μ _ H (.refl _) (List.prefix_refl _) S (Rep.str.mpr rfl)⟩)
    · cases q
  · split at q
    · rename_i xs h0
      obtain ⟨c, h1, h2⟩ := Option.map_eq_some_iff.mp q
      cases h2
      rw [Rep.int] at ry
      obtain ⟨a, vs, rfl, h3, h4⟩ := rowD_ok S rx h0
      obtain ⟨w, h5, h6⟩ := h4.atI h1
      have fin := k μ _ H (.refl _) (List.prefix_refl _) S h6
      rcases h3 with h3 | h3
      · exact .inr (.inl ⟨a, vs, _, w, rfl, ry, h3, h5, fin⟩)
      · exact .inl ⟨a, vs, _, w, rfl, ry, h3, h5, fin⟩
    · cases q
  · cases q
end
end Fl

set_option Elab.async false
set_option linter.all false
set_option maxRecDepth 100000
/-! Fl, part G: slices, methods of lists, calls of defs. -/
namespace Fl
open PySem PySem.Spec L2
set_option autoImplicit false
/-! ### slices -/
def cutL {α : Type} (xs : List α) (lo hi : Option Int) : List α := (xs.drop (HT.sIx xs.length 0 lo)).take (HT.sIx xs.length xs.length hi - HT.sIx xs.length 0 lo)
def rNoPart : RX (Option Int) := fun _ M => .ok none M
def asPart : D → Store → Option (Option Int × Store)
  | .p (.int i), M => some (some i, M)
  | _, _ => none
def rPart (f : RE) : RX (Option Int) := fun ρ M => (f ρ M).bind fun x M1 => ofO (asPart x M1)
abbrev tPt (G : Gm) (W : WX) (f : RX (Option Int)) : St → Hp → (Option Int → Hp → Prop) → Prop := tX G (fun _ _ (a b : Option Int) => a = b) W f
def dSl (x : D) (lo hi : Option Int) (M : Store) : Option (D × Store) := match x with
  | .p (.str z) => if z.length ≤ sizeLine then some (.p (.str (cutS z lo hi)), M) else none
  | .p (.tup xs) => some (.p (.tup (cutL xs lo hi)), M)
  | .tup xs => some (mkTup (cutL xs lo hi), M)
  | .ref l => (match M[l]? with
    | some (.lst xs) => some (.ref M.length, M ++ [.lst (cutL xs lo hi)])
    | some (.ro xs) => some (.ref M.length, M ++ [.lst (cutL xs lo hi)])
    | _ => none)
  | _ => none
def rSl (f : RE) (lo hi : RX (Option Int)) : RE := fun ρ M => (f ρ M).bind fun x M1 => (lo ρ M1).bind fun a M2 => (hi ρ M2).bind fun b M3 => ofO (dSl x a b M3)
abbrev rSlU (K : PySem.W.Frag) : V → Option Int → Option Int → Hp → VK → Prop := fun x lo hi H Q => rSlS x lo hi H Q ∨ rSlA K x lo hi H Q ∨ rSlL K x lo hi H Q
def dRev : D → Store → Option (D × Store)
  | .ref l, M => (match M[l]? with
    | some (.lst xs) => some (.ref M.length, M ++ [.lst xs.reverse])
    | _ => none)
  | _, _ => none
def rRev (f : RE) : RE := rUn dRev f
section
variable {X : Cx} {G : Gm} {W : WX} {e : Expr} {fe fa : RE}
theorem o_sl : SlR X (rSlU X.K) := sl_str.or (sl_tupA.or sl_list)
theorem Reps.cut {μ H} {xs : List D} {vs : List V} (h : Reps G μ H xs vs) (lo hi : Option Int) : Reps G μ H (cutL xs lo hi) (cutV vs lo hi) := by
  unfold cutL cutV
  rw [h.length]
  exact (h.drop _).take _
theorem cutL_map {α β : Type} (f : α → β) (xs : List α) (lo hi : Option Int) : cutL (xs.map f) lo hi = (cutL xs lo hi).map f := by
  unfold cutL
  rw [List.length_map, List.map_take, List.map_drop]
theorem cutV_whole {xs : List V} {lo hi : Option Int} (h : HT.sIx xs.length 0 lo = 0 ∧ HT.sIx xs.length xs.length hi = xs.length) : cutV xs lo hi = xs := by
  unfold cutV
  rw [h.1, h.2]
  simp
theorem d_sl {μ H M} {x : D} {v : V} {lo hi : Option Int} {Q : VK} {d : D} {M' : Store} (S : SR G μ H M) (r : Rep G μ H x v) (q : dSl x lo hi M = some (d, M'))
    (k : ∀ μ' w H', Ext H H' → μ <+: μ' → SR G μ' H' M' → Rep G μ' H' d w → Q w H') : rSlU G.K v lo hi H Q := by
  unfold dSl at q
  split at q
  · split at q
    · rename_i hz
      cases q
      rw [Rep.str] at r
      exact .inl ⟨_, r, hz, k μ _ H (.refl _) (List.prefix_refl _) S (Rep.str.mpr rfl)⟩
    · cases q
  · rename_i xs
    cases q
    obtain ⟨a, vs, rfl, h1, h2⟩ := Rep.ptup.mp r
    have h3 : RepPs G.K H (cutL xs lo hi) (cutV vs lo hi) := by
      have h4 := (Reps.of_P (G := G) (μ := μ) h2).cut lo hi
      rw [cutL_map] at h4
      exact h4.to_P
    refine .inr (.inl ⟨a, vs, rfl, h1, fun hw => ?_, fun hw p hp => ?_⟩)
    · rw [cutV_whole hw] at h3
      exact k μ _ H (.refl _) (List.prefix_refl _) S (Rep.ptup.mpr ⟨a, vs, rfl, h1, h3⟩)
    · exact k μ _ _ (.new hp) (List.prefix_refl _) (S.grow hp) (new_ptup (M := M) hp h3)
  · rename_i xs
    cases q
    obtain ⟨a, vs, rfl, h1, h2⟩ := Rep.tup.mp r
    have h3 := h2.cut lo hi
    refine .inr (.inl ⟨a, vs, rfl, h1, fun hw => ?_, fun hw p hp => ?_⟩)
    · rw [cutV_whole hw] at h3
      exact k μ _ H (.refl _) (List.prefix_refl _) S (mkTup_ok h1 h3)
    · exact k μ _ _ (.new hp) (List.prefix_refl _) (S.grow hp) (mkTup_ok (SqT.of upd_same) (h3.ext (.new hp) (List.prefix_refl _)))
  · rename_i l
    obtain ⟨a, h1, rfl⟩ := Rep.ref.mp r
    split at q
    · rename_i xs e
      cases q
      obtain ⟨vs, h2, h3⟩ := S.lst h1 e
      exact .inr (.inr ⟨a, vs, rfl, SqL.of h2, fun p hp => k (μ ++ [p]) _ _ (.new hp) (List.prefix_append _ _) (new_lst S hp (h3.cut lo hi)) (new_ref S p)⟩)
    · rename_i xs e
      cases q
      obtain ⟨vs, h2, h3⟩ := S.obj _ a _ h1 e
      exact .inr (.inr ⟨a, vs, rfl, h2.sql, fun p hp => k (μ ++ [p]) _ _ (.new hp) (List.prefix_append _ _) (new_lst S hp (h3.cut lo hi)) (new_ref S p)⟩)
    · cases q
  · cases q
theorem i_nopart : PO X none (tPt (gm X) W rNoPart) := ⟨fun pins s σ H Q I h => po_none.run pins s σ H Q I (by
  obtain ⟨μ, ρ, M, hE, hS, hF⟩ := h
  exact hF μ none H (.refl _) (List.prefix_refl _) hS rfl)⟩
theorem i_part (ha : PE X e (tE (gm X) W fa)) : PO X (some e) (tPt (gm X) W (rPart fa)) := ⟨fun pins s σ H Q I h => (po_some ha).run pins s σ H Q I (by
  refine (tX.bind h).mono fun v H1 ⟨μ, ρ, M, x, hE, hS, rx, hF⟩ => ?_
  have hF : Fin (gm X) (fun _ _ (a b : Option Int) => a = b) W μ σ H1 Q (ofO (asPart x M)) := hF
  cases q : asPart x M with
  | none => rw [q] at hF; exact hF.elim
  | some p =>
    obtain ⟨o, M'⟩ := p
    rw [q] at hF
    unfold asPart at q
    split at q
    · rename_i i
      cases q
      rw [Rep.int] at rx
      exact ⟨i, rx, hF μ (some i) H1 (.refl _) (List.prefix_refl _) hS rfl⟩
    · cases q)⟩
theorem i_slice {lo hi : Option Expr} {fl fh : RX (Option Int)} {p2 pos : Pos} (he : PE X e (tE (gm X) W fe)) (hl : PO X lo (tPt (gm X) W fl)) (hu : PO X hi (tPt (gm X) W fh)) : PE X (.Subscript e (.Slice lo hi none p2) pos) (tE (gm X) W (rSl fe fl fh)) :=
  PEimp (pe_slice o_sl he hl hu) fun σ H Q h => by
    refine (tX.bind h).mono fun v H1 g1 => ?_
    refine (Go.bind (rel2 := fun _ _ (a b : Option Int) => a = b) Rep.mono g1).mono fun a H2 g2 => ?_
    obtain ⟨μ, ρ, M, x, a', hE, hS, rx, ea, hF⟩ := g2
    subst ea
    have g3 : Go (gm X) (Rep (gm X)) (Rep (gm X)) W (fun x ρ M2 => (fh ρ M2).bind fun b M3 => ofO (dSl x a' b M3)) σ Q v H2 := ⟨μ, ρ, M, x, hE, hS, rx, hF⟩
    refine (Go.bind (rel2 := fun _ _ (a b : Option Int) => a = b) Rep.mono g3).mono fun b H3 g4 => ?_
    obtain ⟨μ4, ρ4, M4, x4, b', hE4, hS4, rx4, eb, hF4⟩ := g4
    subst eb
    have hF4 : Fin (gm X) (Rep (gm X)) W μ4 σ H3 Q (ofO (dSl x4 a' b' M4)) := hF4
    cases q : dSl x4 a' b' M4 with
    | none => rw [q] at hF4; exact hF4.elim
    | some p =>
      obtain ⟨d, M'⟩ := p
      rw [q] at hF4
      exact d_sl hS4 rx4 q hF4
/-- xs[::-1] -/
theorem i_rev {k : Nat} {p1 p2 p3 pos : Pos} (he : PE X e (tE (gm X) W fe)) : PE X (.Subscript e (.Slice none none (some (.UnaryOp .USub (.Constant (.int 1) k p1) p2)) p3) pos) (tE (gm X) W (rRev fe)) :=
  PEimp (pe_revL he) fun σ H Q h => by
    refine (tX.bind h).mono fun v H1 ⟨μ, ρ, M, x, hE, hS, rx, hF⟩ => ?_
    have hF : Fin (gm X) (Rep (gm X)) W μ σ H1 Q (ofO (dRev x M)) := hF
    cases q : dRev x M with
    | none => rw [q] at hF; exact hF.elim
    | some p =>
      obtain ⟨o, M'⟩ := p
      rw [q] at hF
      unfold dRev at q
      split at q
      · rename_i l
        split at q
        · rename_i xs e
          cases q
          obtain ⟨a, h1, rfl⟩ := Rep.ref.mp rx
          obtain ⟨vs, h2, h3⟩ := hS.lst h1 e
          exact ⟨a, vs, rfl, SqL.of h2, fun p hp => hF (μ ++ [p]) _ _ (.new hp) (List.prefix_append _ _) (new_lst hS hp h3.rev) (new_ref hS p)⟩
        · cases q
      · cases q
end
/-! ### methods of lists -/
def isLst : D → Store → Bool
  | .ref l, M => (match M[l]? with
    | some (.lst _) => true
    | _ => false)
  | _, _ => false
def MtD (G : Gm) (op : D → List D → Store → Option (D × Store)) (r : V → List V → Hp → VK → Prop) : Prop :=
  ∀ (μ : List Addr) (H : Hp) (M : Store) (x : D) (xs : List D) (v : V) (vs : List V) (Q : VK) (d : D) (M' : Store), SR G μ H M → Rep G μ H x v → Reps G μ H xs vs → op x xs M = some (d, M') →
    (∀ μ' w H', Ext H H' → μ <+: μ' → SR G μ' H' M' → Rep G μ' H' d w → Q w H') → r v vs H Q
def rLM (op : D → List D → Store → Option (D × Store)) (fo : RE) (fs : RA) : RE := fun ρ M => (fo ρ M).bind fun x M1 => match isLst x M1 with
  | true => (fs ρ M1).bind fun xs M2 => ofO (op x xs M2)
  | false => .no
def rLM0 (op : D → List D → Store → Option (D × Store)) (fo : RE) : RE := fun ρ M => (fo ρ M).bind fun x M1 => match isLst x M1 with
  | true => ofO (op x [] M1)
  | false => .no
section
variable {X : Cx} {G : Gm} {W : WX} {o e : Expr} {es : List Expr} {fo : RE} {fs : RA} {name : Str} {apos cpos : Pos} {id : String} {r : V → List V → Hp → VK → Prop} {op : D → List D → Store → Option (D × Store)}
theorem isLst_ok {μ H M} {x : D} {v : V} (S : SR G μ H M) (r : Rep G μ H x v) (h : isLst x M = true) : tyV G.K "list" v H := by
  unfold isLst at h
  split at h
  · rename_i l
    split at h
    · rename_i xs e
      obtain ⟨a, h1, rfl⟩ := Rep.ref.mp r
      obtain ⟨vs, h2, h3⟩ := S.lst h1 e
      exact .inl ⟨rfl, vs, SqL.of h2⟩
    · cases h
  · cases h
theorem i_lm (slot : Slot "list" name id) (hty : typeOf (.builtin id) = pure (.type "method_descriptor")) (hm : MtR X id r) (hd : MtD (gm X) op r) (ho : PE X o (tE (gm X) W fo)) (ha : PA X (e :: es) (tA (gm X) W fs))
    (hbase : attributeBase o name X.env (eval o X.env) = eval o X.env := by rfl)
    (hfew : ((backTo cpos (starEach (e :: es) X.env)).all (fun x => !x.1) && (backToKw cpos (keywordEach [] X.env)).all (fun x => x.1.isSome)
      && decide ((e :: es).length + ([] : List Keyword).length + (if ([] : List Keyword).isEmpty then 0 else 1) < 30)) = true := by rfl)
    (hline : (apos.endLine == cpos.line) = true := by rfl) (hs : starEach (e :: es) X.env = (false, eval e X.env) :: starEach es X.env := by rfl) (hplain : (backTo cpos (starEach es X.env)).any (·.1) = false := by rfl) :
    PE X (.Call (.Attribute o name apos) (e :: es) [] cpos) (tE (gm X) W (rLM op fo fs)) :=
  PEimp (pe_bm PySem.F.plainAttrs_list slot hty hm ho ha hbase hfew hline hs hplain) fun σ H Q h => by
    refine (tX.bind h).mono fun v H1 ⟨μ, ρ, M, x, hE, hS, rx, hF⟩ => ?_
    have hF : Fin (gm X) (Rep (gm X)) W μ σ H1 Q (match isLst x M with
      | true => (fs ρ M).bind fun xs M2 => ofO (op x xs M2)
      | false => .no) := hF
    cases q : isLst x M with
    | false => rw [q] at hF; exact hF.elim
    | true =>
      rw [q] at hF
      refine ⟨isLst_ok hS rx q, ?_⟩
      have g1 : Go (gm X) (Rep (gm X)) (Rep (gm X)) W (fun x ρ M => (fs ρ M).bind fun xs M2 => ofO (op x xs M2)) σ Q v H1 := ⟨μ, ρ, M, x, hE, hS, rx, hF⟩
      refine (Go.bind Rep.mono g1).mono fun vs H2 ⟨μ2, ρ2, M2, x2, xs, hE2, hS2, rx2, rxs, hF2⟩ => ?_
      have hF2 : Fin (gm X) (Rep (gm X)) W μ2 σ H2 Q (ofO (op x2 xs M2)) := hF2
      cases q2 : op x2 xs M2 with
      | none => rw [q2] at hF2; exact hF2.elim
      | some p =>
        obtain ⟨d, M'⟩ := p
        rw [q2] at hF2
        exact hd μ2 H2 M2 x2 xs v vs Q d M' hS2 rx2 rxs q2 hF2
theorem i_lm0 (slot : Slot "list" name id) (hty : typeOf (.builtin id) = pure (.type "method_descriptor")) (hm : MtR X id r) (hd : MtD (gm X) op r) (ho : PE X o (tE (gm X) W fo))
    (hbase : attributeBase o name X.env (eval o X.env) = eval o X.env := by rfl) (hline : (apos.endLine == cpos.line) = true := by rfl) :
    PE X (.Call (.Attribute o name apos) [] [] cpos) (tE (gm X) W (rLM0 op fo)) :=
  PEimp (pe_bm0 PySem.F.plainAttrs_list slot hty hm ho hbase hline) fun σ H Q h => by
    refine (tX.bind h).mono fun v H1 ⟨μ, ρ, M, x, hE, hS, rx, hF⟩ => ?_
    have hF : Fin (gm X) (Rep (gm X)) W μ σ H1 Q (match isLst x M with
      | true => ofO (op x [] M)
      | false => .no) := hF
    cases q : isLst x M with
    | false => rw [q] at hF; exact hF.elim
    | true =>
      rw [q] at hF
      refine ⟨isLst_ok hS rx q, ?_⟩
      have hF2 : Fin (gm X) (Rep (gm X)) W μ σ H1 Q (ofO (op x [] M)) := hF
      cases q2 : op x [] M with
      | none => rw [q2] at hF2; exact hF2.elim
      | some p =>
        obtain ⟨d, M'⟩ := p
        rw [q2] at hF2
        exact hd μ H1 M x [] v [] Q d M' hS rx .nil q2 hF2
def mAppend : D → List D → Store → Option (D × Store)
  | .ref l, [y], M => (match M[l]? with
    | some (.lst xs) => if xs.length < sizeLine then some (.p .non, M.set l (.lst (xs ++ [y]))) else none
    | _ => none)
  | _, _, _ => none
theorem d_append : MtD G mAppend rAppend := by
  intro μ H M x xs v vs Q d M' S rx rxs q k
  unfold mAppend at q
  split at q
  · rename_i l y
    split at q
    · rename_i ys e
      split at q
      · rename_i hl
        cases q
        obtain ⟨a, h1, rfl⟩ := Rep.ref.mp rx
        obtain ⟨ws, h2, h3⟩ := S.lst h1 e
        obtain ⟨w, rfl, h4⟩ := rxs.inv1
        refine ⟨a, ws, w, rfl, rfl, h2, by rw [← h3.length]; exact hl, ?_⟩
        have ex := Ext.lst (o := .lst (ws ++ [w])) h2
        exact k μ _ _ ex (List.prefix_refl _) (S.put h1 e rfl rfl (fun ob w z => by rw [h2] at z; cases z) ex ⟨_, upd_same, (h3.app (.cons h4 .nil)).ext ex (List.prefix_refl _)⟩) (Rep.non.mpr rfl)
      · cases q
    · cases q
  · cases q
def mPop : D → List D → Store → Option (D × Store)
  | .ref l, [], M => (match M[l]? with
    | some (.lst xs) => (match xs[xs.length - 1]? with
      | some y => some (y, M.set l (.lst xs.dropLast))
      | none => none)
    | _ => none)
  | _, _, _ => none
theorem d_pop : MtD G mPop rPop := by
  intro μ H M x xs v vs Q d M' S rx rxs q k
  unfold mPop at q
  split at q
  · rename_i l
    split at q
    · rename_i ys e
      split at q
      · rename_i y hy
        cases q
        obtain ⟨a, h1, rfl⟩ := Rep.ref.mp rx
        obtain ⟨ws, h2, h3⟩ := S.lst h1 e
        obtain ⟨w, h4, h5⟩ := h3.get hy
        have e0 := rxs.inv0
        subst e0
        refine ⟨a, ws, w, rfl, rfl, h2, by rw [← h3.length]; exact h4, ?_⟩
        have ex := Ext.lst (o := .lst ws.dropLast) h2
        exact k μ _ _ ex (List.prefix_refl _) (S.put h1 e rfl rfl (fun ob w z => by rw [h2] at z; cases z) ex ⟨_, upd_same, h3.dropLast.ext ex (List.prefix_refl _)⟩) (h5.ext ex (List.prefix_refl _))
      · cases q
    · cases q
  · cases q
end
/-! ### calls of defs -/
def FinC (G : Gm) (E : XK) (μ : List Addr) (H : Hp) (Q : VK) (r : R D) : Prop := Fin G (Rep G) (fun c d _ H => E c d H) μ [] H Q r
/-- the promise: F tells what comes -/
def spD (G : Gm) (F : List D → Store → R D) (n : Nat) : Sp := fun vs H Q E => ∃ μ ds M, vs.length = n ∧ Reps G μ H ds vs ∧ SR G μ H M ∧ FinC G E μ H Q (F ds M)
/-- a def that keeps it stands under the name x -/
structure Df (P : Program) (w : World) (K : PySem.W.Frag) (mg : Str → Option Value) (base : Heap) (x : Str) (ps : List Str) (F : List D → Store → R D) (k : Nat) : Prop where
  is_ : ∃ f fd, mg x = some (.ref f) ∧ PySem.W.keepIn K (.ref f) = true ∧ Binds K fd ps [] ∧ FnOk P w K mg base (L2.CX P w) k f fd ps (spD ⟨K, mg⟩ F ps.length)
section
variable {X : Cx} {W : WX} {x : Str} {ps : List Str} {F : List D → Store → R D} {k j : Nat} {e : Expr} {es : List Expr} {fs : RA} {p pos : Pos}
theorem Df.mono (D : Df X.prog X.w X.K X.mg X.base x ps F k) (h : k ≤ j) : Df X.prog X.w X.K X.mg X.base x ps F j := by
  obtain ⟨f, fd, h1, h2, h3, h4⟩ := D.is_
  exact ⟨f, fd, h1, h2, h3, h4.mono h⟩
theorem Reps.len_eq {G : Gm} {μ : List Addr} {H : Hp} {ds : List D} {vs : List V} (r : Reps G μ H ds vs) : vs.length = ds.length := r.length.symm
theorem FinC_of {σ : St} {μ : List Addr} {H : Hp} {Q : VK} {r : R D} (h : Fin (gm X) (Rep (gm X)) W μ σ H Q r) : FinC (gm X) (WE W σ) μ H Q r := by
  cases r with
  | ok d M' => exact h
  | ex c gs M' => exact h
  | no => exact h
/-- the arguments are as many as the parameters -/
def rCallN (n : Nat) (F : List D → Store → R D) (fs : RA) : RE := fun ρ M => (fs ρ M).bind fun ds M1 => if ds.length = n then F ds M1 else .no
theorem call_in {n : Nat} {σ : St} {H : Hp} {Q : VK} (h : tE (gm X) W (rCallN n F fs) σ H Q) : tA (gm X) W fs σ H fun vs H1 => spD (gm X) F n vs H1 Q (WE W σ) := by
  refine (tX.bind (g := fun ds _ M => if ds.length = n then F ds M else .no) h).mono fun vs H1 ⟨μ, ρ, M, ds, hE, hS, rx, hF⟩ => ?_
  have hF : Fin (gm X) (Rep (gm X)) W μ σ H1 Q (if ds.length = n then F ds M else .no) := hF
  split at hF
  · rename_i hn
    exact ⟨μ, ds, M, by rw [rx.len_eq]; exact hn, rx, hS, FinC_of hF⟩
  · exact hF.elim
/-- f(e, ..) -/
theorem i_call (D : Df X.prog X.w X.K X.mg X.base x ps F k) (hr : Room k X.A) (hg : Gl X x) (tk : Takes X W) (ha : PA X (e :: es) (tA (gm X) W fs)) (hdb : (x == ("__debug__" : Str)) = false := by decide)
    (he : starEach (e :: es) X.env = (false, eval e X.env) :: starEach es X.env := by rfl) (hpl : (backTo pos (starEach es X.env)).any (·.1) = false := by rfl) : PE X (.Call (.Name x p) (e :: es) [] pos) (tE (gm X) W (rCallN ps.length F fs)) := by
  obtain ⟨f, fd, h1, h2, h3, h4⟩ := D.is_
  refine PEimp (pe_callSD (E := WE W) (dvs := []) h4 hr hg h1 h2 h3 .nil (fun σ => passAt tk σ) ha hdb he hpl) fun σ H Q h => ?_
  refine (call_in h).mono fun vs H1 q => ?_
  rw [List.append_nil]
  exact q
/-- f() -/
theorem i_call0 (D : Df X.prog X.w X.K X.mg X.base x [] F k) (hr : Room k X.A) (hg : Gl X x) (tk : Takes X W) (hdb : (x == ("__debug__" : Str)) = false := by decide) : PE X (.Call (.Name x p) [] [] pos) (tE (gm X) W (rCallN 0 F rNil)) := by
  obtain ⟨f, fd, h1, h2, h3, h4⟩ := D.is_
  refine ⟨fun pins s σ H Q I h => ?_⟩
  obtain ⟨μ, ρ, M, hE, hS, hF⟩ := h
  have hF : Fin (gm X) (Rep (gm X)) W μ σ H Q (F [] M) := hF
  refine wpAny_Call_Name_kw (ld_glob I hg h1 ?_ hdb)
  exact PySem.W.callWith_K0 I.kIn h2 (run_fnSD (us := []) (dvs := []) (E := WE W) h4 hr h3 .nil (passAt tk σ) I .nil ⟨μ, [], M, rfl, .nil, hS, FinC_of hF⟩)
end
end Fl

set_option Elab.async false
set_option linter.all false
set_option maxRecDepth 100000
/-! Fl, part H: statements. -/
namespace Fl
open PySem PySem.Spec L2
set_option autoImplicit false
theorem PSimp {X : Cx} {e : Stmt} {t t' : TS} (h : PS X e t) (w : ∀ D σ H, t' D σ H → t D σ H) : PS X e t' := ⟨fun pins s σ H D I q => h.run pins s σ H D I (w D σ H q)⟩
theorem PSsimp {X : Cx} {e : List Stmt} {t t' : TS} (h : PSs X e t) (w : ∀ D σ H, t' D σ H → t D σ H) : PSs X e t' := ⟨fun pins s σ H D I q => h.run pins s σ H D I (w D σ H q)⟩
theorem PGimp {X : Cx} {e : Expr} {t t' : TG} (h : PG X e t) (w : ∀ v σ H Q, t' v σ H Q → t v σ H Q) : PG X e t' := ⟨fun pins s σ H v u Q I r q => h.run pins s σ H v u Q I r (w v σ H Q q)⟩
theorem PGsimp {X : Cx} {e : List Expr} {t t' : TGs} (h : PGs X e t) (w : ∀ v σ H Q, t' v σ H Q → t v σ H Q) : PGs X e t' := ⟨fun pins s σ H v u Q I r q => h.run pins s σ H v u Q I r (w v σ H Q q)⟩
theorem PIimp {X : Cx} {tg e : Expr} {t t' : TI} (h : PI X tg e t) (w : ∀ σ H Q, t' σ H Q → t σ H Q) : PI X tg e t' := ⟨fun pins s σ H Q I q => h.run pins s σ H Q I (w σ H Q q)⟩

def FinS (G : Gm) (W : WX) (D : Ends) (μ : List Addr) (H : Hp) : Out → Prop
  | .nx ρ M => ∀ μ' σ' H', Ext H H' → μ <+: μ' → ER G μ' H' ρ σ' → SR G μ' H' M → D.nx σ' H'
  | .rt d M => ∀ μ' v H', Ext H H' → μ <+: μ' → SR G μ' H' M → Rep G μ' H' d v → D.rt v H'
  | .bk ρ M => ∀ μ' σ' H', Ext H H' → μ <+: μ' → ER G μ' H' ρ σ' → SR G μ' H' M → D.bk σ' H'
  | .ct ρ M => ∀ μ' σ' H', Ext H H' → μ <+: μ' → ER G μ' H' ρ σ' → SR G μ' H' M → D.ct σ' H'
  | .ex c fs ρ M => ∀ μ' σ' H' dx, Ext H H' → μ <+: μ' → ER G μ' H' ρ σ' → SR G μ' H' M → XR G μ' H' fs dx → W (cval G c) dx σ' H'
  | .no => False
def tS (G : Gm) (W : WX) (m : RS) : TS := fun D σ H => ∃ μ ρ M, ER G μ H ρ σ ∧ SR G μ H M ∧ FinS G W D μ H (m ρ M)
section
variable {G : Gm} {W : WX} {D : Ends} {μ μ1 : List Addr} {H H1 : Hp}
theorem FinS.later {r : Out} (e : Ext H H1) (p : μ <+: μ1) (h : FinS G W D μ H r) : FinS G W D μ1 H1 r := by
  cases r with
  | nx ρ M => exact fun μ' σ' H' e' p' => h μ' σ' H' (e.trans e') (p.trans p')
  | rt d M => exact fun μ' v H' e' p' => h μ' v H' (e.trans e') (p.trans p')
  | bk ρ M => exact fun μ' σ' H' e' p' => h μ' σ' H' (e.trans e') (p.trans p')
  | ct ρ M => exact fun μ' σ' H' e' p' => h μ' σ' H' (e.trans e') (p.trans p')
  | ex c fs ρ M => exact fun μ' σ' H' dx e' p' => h μ' σ' H' dx (e.trans e') (p.trans p')
  | no => exact h
/-- an expression, then the rest -/
theorem tX.out {α ι : Type} {rel : List Addr → Hp → α → ι → Prop} {f : RX α} {g : α → Env → Store → Out} {σ : St} (h : tS G W (fun ρ M => (f ρ M).out ρ fun a M1 => g a ρ M1) D σ H) :
    tX G rel W f σ H fun v H1 => ∃ μ ρ M a, ER G μ H1 ρ σ ∧ SR G μ H1 M ∧ rel μ H1 a v ∧ FinS G W D μ H1 (g a ρ M) := by
  obtain ⟨μ, ρ, M, hE, hS, hF⟩ := h
  have hF : FinS G W D μ H ((f ρ M).out ρ fun a M1 => g a ρ M1) := hF
  refine ⟨μ, ρ, M, hE, hS, ?_⟩
  cases q : f ρ M with
  | ok a M1 =>
    rw [q] at hF
    intro μ' v H' e p s r
    exact ⟨μ', ρ, M1, a, hE.ext e p, s, r, FinS.later e p hF⟩
  | ex c fs M1 =>
    rw [q] at hF
    exact fun μ' H' dx e p s x => hF μ' σ H' dx e p (hE.ext e p) s x
  | no =>
    rw [q] at hF
    exact hF
end
/-! ### blocks, small statements -/
def rSkip : RS := fun ρ M => .nx ρ M
def rSeq (a b : RS) : RS := fun ρ M => (a ρ M).bind b
def rExpr (f : RE) : RS := fun ρ M => (f ρ M).out ρ fun _ M1 => .nx ρ M1
def rRet (f : RE) : RS := fun ρ M => (f ρ M).out ρ fun d M1 => .rt d M1
def rRetN : RS := fun _ M => .rt (.p .non) M
def rBreak : RS := fun ρ M => .bk ρ M
def rCont : RS := fun ρ M => .ct ρ M
def rIfS (t : RT) (a b : RS) : RS := fun ρ M => (t ρ M).out ρ fun k M1 => match k with
  | true => a ρ M1
  | false => b ρ M1
section
variable {X : Cx} {W : WX} {e c : Expr} {st : Stmt} {rest sa sb : List Stmt} {a b : RS} {fe : RE} {tc : RT} {pos : Pos}
theorem s_nil : PSs X [] (tS (gm X) W rSkip) := PSsimp pss_nil fun D σ H h => by
  obtain ⟨μ, ρ, M, hE, hS, hF⟩ := h
  exact hF μ σ H (.refl _) (List.prefix_refl _) hE hS
theorem tS_seq {D : Ends} {σ : St} {H : Hp} (h : tS (gm X) W (rSeq a b) D σ H) : tSeq (tS (gm X) W a) (tS (gm X) W b) D σ H := by
  obtain ⟨μ, ρ, M, hE, hS, hF⟩ := h
  have hF : FinS (gm X) W D μ H ((a ρ M).bind b) := hF
  refine ⟨μ, ρ, M, hE, hS, ?_⟩
  cases q : a ρ M with
  | nx ρ' M' =>
    rw [q] at hF
    intro μ' σ' H' e p hE' hS'
    exact ⟨μ', ρ', M', hE', hS', FinS.later e p hF⟩
  | rt d M' => rw [q] at hF; exact hF
  | bk ρ' M' => rw [q] at hF; exact hF
  | ct ρ' M' => rw [q] at hF; exact hF
  | ex c fs ρ' M' => rw [q] at hF; exact hF
  | no => rw [q] at hF; exact hF
theorem s_cons (h1 : PS X st (tS (gm X) W a)) (h2 : PSs X rest (tS (gm X) W b)) : PSs X (st :: rest) (tS (gm X) W (rSeq a b)) := PSsimp (pss_cons h1 h2) fun _ _ _ h => tS_seq h
theorem s_one (h1 : PS X st (tS (gm X) W a)) : PSs X [st] (tS (gm X) W a) := pss_one h1
theorem s_pass : PS X (.Pass pos) (tS (gm X) W rSkip) := PSimp ps_pass fun D σ H h => by
  obtain ⟨μ, ρ, M, hE, hS, hF⟩ := h
  exact hF μ σ H (.refl _) (List.prefix_refl _) hE hS
theorem s_break : PS X (.Break pos) (tS (gm X) W rBreak) := PSimp ps_break fun D σ H h => by
  obtain ⟨μ, ρ, M, hE, hS, hF⟩ := h
  exact hF μ σ H (.refl _) (List.prefix_refl _) hE hS
theorem s_cont : PS X (.Continue pos) (tS (gm X) W rCont) := PSimp ps_continue fun D σ H h => by
  obtain ⟨μ, ρ, M, hE, hS, hF⟩ := h
  exact hF μ σ H (.refl _) (List.prefix_refl _) hE hS
theorem s_expr (he : PE X e (tE (gm X) W fe)) (hs : swapsWith e none pos.line X.env = pure false := by rfl) : PS X (.Expr e pos) (tS (gm X) W (rExpr fe)) :=
  PSimp (ps_expr he hs) fun D σ H h => (tX.out h).mono fun v H1 ⟨μ, ρ, M, x, hE, hS, rx, hF⟩ => hF μ σ H1 (.refl _) (List.prefix_refl _) hE hS
theorem s_ret (he : PE X e (tE (gm X) W fe)) : PS X (.Return (some e) pos) (tS (gm X) W (rRet fe)) :=
  PSimp (ps_ret he) fun D σ H h => (tX.out h).mono fun v H1 ⟨μ, ρ, M, x, hE, hS, rx, hF⟩ => hF μ v H1 (.refl _) (List.prefix_refl _) hS rx
theorem s_retN : PS X (.Return none pos) (tS (gm X) W rRetN) := PSimp ps_retN fun D σ H h => by
  obtain ⟨μ, ρ, M, hE, hS, hF⟩ := h
  exact hF μ .non H (.refl _) (List.prefix_refl _) hS (Rep.non.mpr rfl)
theorem s_if (hc : PT X c (tT (gm X) W tc)) (ha : PSs X sa (tS (gm X) W a)) (hb : PSs X sb (tS (gm X) W b)) : PS X (.If c sa sb pos) (tS (gm X) W (rIfS tc a b)) :=
  PSimp (ps_if hc ha hb) fun D σ H h => by
    refine (tX.out (rel := fun _ _ (a b : Bool) => a = b) (g := fun k ρ M => match k with | true => a ρ M | false => b ρ M) h).mono fun k H1 ⟨μ, ρ, M, x, hE, hS, rx, hF⟩ => ?_
    subst rx
    cases x with
    | true => exact iteT ⟨μ, ρ, M, hE, hS, hF⟩
    | false => exact iteF ⟨μ, ρ, M, hE, hS, hF⟩
end
/-! ### targets -/
abbrev RG := D → Env → Store → Option (Env × Store)
def FinG (G : Gm) (μ : List Addr) (H : Hp) (Q : St → Hp → Prop) : Option (Env × Store) → Prop
  | some (ρ, M) => ∀ μ' σ' H', Ext H H' → μ <+: μ' → ER G μ' H' ρ σ' → SR G μ' H' M → Q σ' H'
  | none => False
def tG (G : Gm) (g : RG) : TG := fun v σ H Q => ∃ μ ρ M d, ER G μ H ρ σ ∧ SR G μ H M ∧ Rep G μ H d v ∧ FinG G μ H Q (g d ρ M)
abbrev RGs := List D → Env → Store → Option (Env × Store)
def tGs (G : Gm) (g : RGs) : TGs := fun vs σ H Q => ∃ μ ρ M ds, ER G μ H ρ σ ∧ SR G μ H M ∧ Reps G μ H ds vs ∧ FinG G μ H Q (g ds ρ M)
theorem FinG.later {G : Gm} {μ μ1 : List Addr} {H H1 : Hp} {Q : St → Hp → Prop} {r : Option (Env × Store)} (e : Ext H H1) (p : μ <+: μ1) (h : FinG G μ H Q r) : FinG G μ1 H1 Q r := by
  cases r with
  | some q => obtain ⟨ρ, M⟩ := q; exact fun μ' σ' H' e' p' => h μ' σ' H' (e.trans e') (p.trans p')
  | none => exact h
def gNm (i : Nat) : RG := fun d ρ M => some (ρ.set i (some d), M)
def gNi : RGs := fun ds ρ M => match ds with
  | [] => some (ρ, M)
  | _ :: _ => none
def gCo (g : RG) (gs : RGs) : RGs := fun ds ρ M => match ds with
  | [] => none
  | d :: r => (match g d ρ M with
    | some (ρ1, M1) => gs r ρ1 M1
    | none => none)
/-- the items of a tuple -/
def tupD : D → Option (List D)
  | .p (.tup xs) => some (xs.map D.p)
  | .tup xs => some xs
  | _ => none
def gTp (n : Nat) (gs : RGs) : RG := fun d ρ M => match tupD d with
  | some xs => if xs.length = n then gs xs ρ M else none
  | none => none
def rAsg (f : RE) (g : RG) : RS := fun ρ M => (f ρ M).out ρ fun d M1 => match g d ρ M1 with
  | some (ρ2, M2) => .nx ρ2 M2
  | none => .no
def rSet (i : Nat) (f : RE) : RS := fun ρ M => (f ρ M).out ρ fun d M1 => .nx (ρ.set i (some d)) M1
def rPar (i j : Nat) (f : RA) : RS := fun ρ M => (f ρ M).out ρ fun ds M1 => match ds with
  | [x, y] => .nx ((ρ.set i (some x)).set j (some y)) M1
  | _ => .no
section
variable {X : Cx} {W : WX} {e tg : Expr} {es : List Expr} {fe : RE} {g : RG} {gs : RGs} {fs : RA} {pos : Pos}
theorem tupD_ok {G : Gm} {μ : List Addr} {H : Hp} {d : D} {v : V} {xs : List D} (r : Rep G μ H d v) (h : tupD d = some xs) : ∃ a vs, v = .ref a ∧ SqT G.K H a vs ∧ Reps G μ H xs vs := by
  unfold tupD at h
  split at h
  · cases h
    obtain ⟨a, vs, rfl, h1, h2⟩ := Rep.ptup.mp r
    exact ⟨a, vs, rfl, h1, Reps.of_P h2⟩
  · cases h
    exact Rep.tup.mp r
  · cases h
theorem g_nm (i : Nat) {x : Str} (hN : X.N.Nodup) (hi : X.N[i]? = some x := by rfl) (hx : Loc X.env.scope x := by first | exact Or.inl rfl | exact Or.inr rfl) (hf : X.fn x = true ∨ X.env.scope.names.lookup x = some .local := by first | exact .inl rfl | exact .inr rfl | assumption) : PG X (.Name x pos) (tG (gm X) (gNm i)) :=
  PGimp (pg_name hN hi hx hf) fun v σ H Q h => by
    obtain ⟨μ, ρ, M, d, hE, hS, r, hF⟩ := h
    exact hF μ _ H (.refl _) (List.prefix_refl _) (hE.set i r) hS
theorem g_nil : PGs X [] (tGs (gm X) gNi) := PGsimp pgs_nil fun v σ H Q h => by
  obtain ⟨μ, ρ, M, ds, hE, hS, r, hF⟩ := h
  cases ds with
  | nil => exact ⟨r.inv0, hF μ _ H (.refl _) (List.prefix_refl _) hE hS⟩
  | cons d ds => exact hF.elim
theorem g_cons (h1 : PG X e (tG (gm X) g)) (h2 : PGs X es (tGs (gm X) gs)) (hs : (assignEach (e :: es) X.env).map (·.2) = assign e X.env :: (assignEach es X.env).map (·.2) := by rfl) : PGs X (e :: es) (tGs (gm X) (gCo g gs)) :=
  PGsimp (pgs_cons h1 h2 hs) fun v σ H Q h => by
    obtain ⟨μ, ρ, M, ds, hE, hS, r, hF⟩ := h
    cases ds with
    | nil => exact hF.elim
    | cons d ds =>
      obtain ⟨v, vr, rfl, r1, r2⟩ := r.inv
      refine ⟨v, vr, rfl, μ, ρ, M, d, hE, hS, r1, ?_⟩
      have hF : FinG (gm X) μ H Q (match g d ρ M with
        | some (ρ1, M1) => gs ds ρ1 M1
        | none => none) := hF
      cases q : g d ρ M with
      | none => rw [q] at hF; exact hF.elim
      | some p =>
        obtain ⟨ρ1, M1⟩ := p
        rw [q] at hF
        exact fun μ' σ' H' e p hE' hS' => ⟨μ', ρ1, M1, ds, hE', hS', r2.ext e p, FinG.later e p hF⟩
theorem g_tup {k n : Nat} (hc : X.calm = true) (h : PGs X es (tGs (gm X) gs)) (hn : (assignEach es X.env).length = n := by rfl) (hst : (assignEach es X.env).findIdx? (·.1) = none := by rfl) : PG X (.Tuple es k pos) (tG (gm X) (gTp n gs)) :=
  PGimp (pg_tup hc h hn hst) fun v σ H Q h => by
    obtain ⟨μ, ρ, M, d, hE, hS, r, hF⟩ := h
    have hF : FinG (gm X) μ H Q (match tupD d with
      | some xs => if xs.length = n then gs xs ρ M else none
      | none => none) := hF
    cases q : tupD d with
    | none => rw [q] at hF; exact hF.elim
    | some xs =>
      rw [q] at hF
      obtain ⟨a, vs, rfl, h1, h2⟩ := tupD_ok r q
      have hF : FinG (gm X) μ H Q (if xs.length = n then gs xs ρ M else none) := hF
      split at hF
      · rename_i hl
        exact ⟨a, vs, rfl, h1, by rw [h2.len_eq]; exact hl, μ, ρ, M, xs, hE, hS, h2, hF⟩
      · exact hF.elim
theorem s_asg (he : PE X e (tE (gm X) W fe)) (hg : PG X tg (tG (gm X) g)) (hs : swapsWithSole [tg] e pos.line X.env = pure false := by rfl) (hw : swappedStores [tg] e X.env = pure none := by rfl)
    (h1 : (assignEach [tg] X.env).map (·.2) = [assign tg X.env] := by rfl) : PS X (.Assign [tg] e pos) (tS (gm X) W (rAsg fe g)) :=
  PSimp (ps_asg he hg hs hw h1) fun D σ H h => by
    refine (tX.out (g := fun d ρ M => match g d ρ M with | some (ρ2, M2) => .nx ρ2 M2 | none => .no) h).mono fun v H1 ⟨μ, ρ, M, x, hE, hS, rx, hF⟩ => ⟨μ, ρ, M, x, hE, hS, rx, ?_⟩
    have hF : FinS (gm X) W D μ H1 (match g x ρ M with | some (ρ2, M2) => .nx ρ2 M2 | none => .no) := hF
    cases q : g x ρ M with
    | none => rw [q] at hF; exact hF.elim
    | some p => rw [q] at hF; exact hF
theorem s_set (i : Nat) {x : Str} {pos' : Pos} (he : PE X e (tE (gm X) W fe)) (hN : X.N.Nodup) (hi : X.N[i]? = some x := by rfl) (hx : Loc X.env.scope x := by first | exact Or.inl rfl | exact Or.inr rfl)
    (hs : swapsWith e (some (.Name x pos')) pos.line X.env = pure false := by rfl) (hf : X.fn x = true ∨ X.env.scope.names.lookup x = some .local := by first | exact .inl rfl | exact .inr rfl | assumption) :
    PS X (.Assign [.Name x pos'] e pos) (tS (gm X) W (rSet i fe)) :=
  PSimp (ps_set hN hi hx he hs hf) fun D σ H h => (tX.out h).mono fun v H1 ⟨μ, ρ, M, x, hE, hS, rx, hF⟩ => hF μ _ H1 (.refl _) (List.prefix_refl _) (hE.set i rx) hS
/-- a, b = x, y -/
theorem s_par (i j : Nat) {x y : Str} {a b : Expr} {px py pt : Pos} {kt k2 : Nat} {pt2 : Pos} (ha : PA X [a, b] (tA (gm X) W fs)) (hc : X.calm = true) (hN : X.N.Nodup) (hi : X.N[i]? = some x := by rfl) (hj : X.N[j]? = some y := by rfl) (hij : i ≠ j := by decide)
    (hx : X.env.scope.names.lookup x = some .local := by rfl) (hy : X.env.scope.names.lookup y = some .local := by rfl)
    (hw : swappedStores [.Tuple [.Name x px, .Name y py] kt pt] (.Tuple [a, b] k2 pt2) X.env = pure (some [x, y]) := by rfl)
    (hs : swapsWithSole [.Tuple [.Name x px, .Name y py] kt pt] (.Tuple [a, b] k2 pt2) pos.line X.env = pure false := by rfl) :
    PS X (.Assign [.Tuple [.Name x px, .Name y py] kt pt] (.Tuple [a, b] k2 pt2) pos) (tS (gm X) W (rPar i j fs)) :=
  PSimp (ps_par hc hN hi hj hij hx hy ha hw hs) fun D σ H h => by
    refine (tX.out (rel := Reps (gm X)) (g := fun ds ρ M1 => match ds with | [x, y] => .nx ((ρ.set i (some x)).set j (some y)) M1 | _ => .no) h).mono fun vs H1 ⟨μ, ρ, M, ds, hE, hS, rx, hF⟩ => ?_
    match ds, rx, hF with
    | [], _, hF => exact hF.elim
    | [_], _, hF => exact hF.elim
    | [d1, d2], rx, hF =>
      obtain ⟨v, u, rfl, r1, r2⟩ := rx.inv2
      exact ⟨v, u, rfl, hF μ _ H1 (.refl _) (List.prefix_refl _) ((hE.set i r1).set j r2) hS⟩
    | _ :: _ :: _ :: _, _, hF => exact hF.elim
end
/-! ### x op= e -/
def rAug (i : Nat) (op : D → D → Store → Option (D × Store)) (f : RE) : RS := fun ρ M => match ρ[i]? with
  | some (some x) => (f ρ M).out ρ fun y M1 => (match op x y M1 with
    | some (z, M2) => .nx (ρ.set i (some z)) M2
    | none => .no)
  | _ => .no
section
variable {X : Cx} {W : WX} {e : Expr} {fe : RE} {pos : Pos}
theorem s_aug (i : Nat) {x : Str} {o : Operator} {op r} {pos' : Pos} (ho : OpR X (inplaceOp o) r) (hd : OpD (gm X) op r) (he : PE X e (tE (gm X) W fe)) (hN : X.N.Nodup) (hi : X.N[i]? = some x := by rfl) (hx : Loc X.env.scope x := by first | exact Or.inl rfl | exact Or.inr rfl)
    (hf : X.fn x = true ∨ X.env.scope.names.lookup x = some .local := by first | exact .inl rfl | exact .inr rfl | assumption) : PS X (.AugAssign (.Name x pos') o e pos) (tS (gm X) W (rAug i op fe)) :=
  PSimp (ps_aug hN hi hx he (show PIp X o r from fun pins s σ H x y v u Q I r1 r2 h => ho pins s σ H x y v u Q I r1 r2 h) hf) fun D σ H h => by
    obtain ⟨μ, ρ, M, hE, hS, hF⟩ := h
    unfold rAug at hF
    split at hF
    · rename_i x e0
      obtain ⟨v, e1, r1⟩ := hE.at_ i x e0
      refine ⟨v, e1, ?_⟩
      refine ⟨μ, ρ, M, hE, hS, ?_⟩
      cases q : fe ρ M with
      | ok y M1 =>
        rw [q] at hF
        intro μ' u H' e p s r2
        have hF : FinS (gm X) W D μ H (match op x y M1 with
          | some (z, M2) => .nx (ρ.set i (some z)) M2
          | none => .no) := hF
        cases q2 : op x y M1 with
        | none => rw [q2] at hF; exact hF.elim
        | some zz =>
          obtain ⟨z, M2⟩ := zz
          rw [q2] at hF
          refine hd μ' H' M1 x y v u _ z M2 s (r1.ext e p) r2 q2 fun μ3 w H3 e3 p3 s3 r3 => ?_
          exact hF μ3 _ H3 (e.trans e3) (p.trans p3) ((hE.ext (e.trans e3) (p.trans p3)).set i r3) s3
      | ex c fs M1 =>
        rw [q] at hF
        exact fun μ' H' dx e p s x => hF μ' σ H' dx e p (hE.ext e p) s x
      | no =>
        rw [q] at hF
        exact hF
    · exact hF.elim
abbrev rAddI : R2 := fun x y H Q => (∃ i j, x = .int i ∧ y = .int j ∧ Q (.int (i + j)) H) ∨ (∃ i j, x = .str i ∧ y = .str j ∧ i.length + j.length ≤ sizeLine ∧ Q (.str (i ++ j)) H)
def dAddI : D → D → Store → Option (D × Store)
  | .p (.int i), .p (.int j), M => some (.p (.int (i + j)), M)
  | .p (.str x), .p (.str y), M => if x.length + y.length ≤ sizeLine then some (.p (.str (x ++ y)), M) else none
  | _, _, _ => none
theorem o_iadd : OpR X (inplaceOp .Add) rAddI := iop_add.or iop_add_str
theorem o_isub : OpR X (inplaceOp .Sub) (rI0 fun i j => .int (i - j)) := iop_sub
theorem o_imul : OpR X (inplaceOp .Mult) (rI CMul fun i j => .int (i * j)) := iop_mul
theorem d_iadd {G : Gm} : OpD G dAddI rAddI := by
  intro μ H M x y v u Q d M' S rx ry q k
  unfold dAddI at q
  split at q
  · cases q
    rw [Rep.int] at rx ry
    exact .inl ⟨_, _, rx, ry, k μ _ H (.refl H) (List.prefix_refl _) S (Rep.int.mpr rfl)⟩
  · split at q
    · rename_i h
      cases q
      rw [Rep.str] at rx ry
      exact .inr ⟨_, _, rx, ry, h, k μ _ H (.refl H) (List.prefix_refl _) S (Rep.str.mpr rfl)⟩
    · cases q
  · cases q
end
end Fl

set_option Elab.async false
set_option linter.all false
set_option maxRecDepth 100000
/-! Fl, part I: loops, raise, try, a def's promise. -/
namespace Fl
open PySem PySem.Spec L2
set_option autoImplicit false
/-! ### for -/
/-- what must stand as it stood while a loop walks: nothing, or an object of the store -/
def chk : Option (Nat × O) → Store → Prop
  | none, _ => True
  | some (l, o), M => M[l]? = some o
open Classical in
noncomputable def forL (k : Option (Nat × O)) (g : RG) (body : RS) : List D → Env → Store → Out
  | [], ρ, M => if chk k M then .nx ρ M else .no
  | x :: xs, ρ, M => if chk k M then (match g x ρ M with
      | some (ρ1, M1) => (match body ρ1 M1 with
        | .nx ρ2 M2 => forL k g body xs ρ2 M2
        | .ct ρ2 M2 => forL k g body xs ρ2 M2
        | .bk ρ2 M2 => .nx ρ2 M2
        | o => o)
      | none => .no) else .no
/-- the items of what is walked, and what must stand -/
def walkD : D → Store → Option (List D × Option (Nat × O))
  | .p (.tup xs), _ => some (xs.map D.p, none)
  | .tup xs, _ => some (xs, none)
  | .ref l, M => (match M[l]? with
    | some (.lst xs) => some (xs, some (l, .lst xs))
    | some (.ro xs) => some (xs, some (l, .ro xs))
    | _ => none)
  | _, _ => none
noncomputable def rFor (f : RE) (g : RG) (body : RS) : RS := fun ρ M => (f ρ M).out ρ fun d M1 => match walkD d M1 with
  | some (xs, k) => forL k g body xs ρ M1
  | none => .no
def intsD (lo : Int) (n : Nat) : List D := (List.range n).map fun (i : Nat) => D.p (.int (lo + (i : Int)))
def rng1 : List D → Option (Int × Nat)
  | [.p (.int j)] => if -(2 ^ 62) ≤ j ∧ j < 2 ^ 62 then some (0, j.toNat) else none
  | _ => none
def rng2 : List D → Option (Int × Nat)
  | [.p (.int i), .p (.int j)] => if -(2 ^ 62) ≤ i ∧ i < 2 ^ 62 ∧ -(2 ^ 62) ≤ j ∧ j < 2 ^ 62 then some (i, (j - i).toNat) else none
  | _ => none
noncomputable def rForR (rg : List D → Option (Int × Nat)) (f : RA) (g : RG) (body : RS) : RS := fun ρ M => (f ρ M).out ρ fun ds M1 => match rg ds with
  | some (lo, n) => forL none g body (intsD lo n) ρ M1
  | none => .no
section
variable {X : Cx} {W : WX} {e tg : Expr} {fe : RE} {g : RG} {body : RS} {fs : RA} {pos : Pos} {sb : List Stmt}
/-- a row, walked: a list or a tuple -/
def iRow (K : PySem.W.Frag) (tl : TE) : TI := fun σ H R => tl σ H fun x H1 => ∃ a, x = .ref a ∧ (((∃ xs, SqL K H1 a xs) ∧ R (Itl K a) H1) ∨ ((∃ xs, SqT K H1 a xs) ∧ R (Itt K a) H1))
theorem pi_row {l : Expr} {tl : TE} (hl : PE X l tl) : PI X tg l (iRow X.K tl) := by
  refine ⟨fun pins s σ H R I h => ?_⟩
  refine thn (hl.run pins s σ H _ I h) fun v s1 ⟨x, H1, I1, r1, q1⟩ => ?_
  obtain ⟨a, e, q1⟩ := q1
  subst e
  cases r1
  rcases q1 with ⟨⟨xs, hq⟩, q⟩ | ⟨⟨xs, hq⟩, q⟩
  · obtain ⟨its, rv, p, hz⟩ := I1.list hq
    refine wpAny_pyIter_list p.isList ?_
    refine ⟨s1.heap.objs.size, [s1.heap.objs.size], _, _, H1, rfl, I1.kept (t' := s1.toks) fun b o e => Heap.get?_push_of_some _ e, turn_list a _, ⟨_, Heap.get?_push_size _ rfl, rfl, rfl⟩, fun b hb => ?_, q⟩
    have e : b = s1.heap.objs.size := by simpa using hb
    subst e
    exact I1.fpOk (Nat.le_refl _) (I1.hok.fresh (Nat.le_refl _))
  · obtain ⟨its, rv, p, hz⟩ := I1.tuple hq
    refine wpAny_pyIter_tuple (show s1.heap.IsTuple a its.toArray from p) ?_
    refine ⟨s1.heap.objs.size, [s1.heap.objs.size], _, _, H1, rfl, I1.kept (t' := s1.toks) fun b o e => Heap.get?_push_of_some _ e, turn_tuple a _, ⟨_, Heap.get?_push_size _ rfl, rfl, rfl⟩, fun b hb => ?_, q⟩
    have e : b = s1.heap.objs.size := by simpa using hb
    subst e
    exact I1.fpOk (Nat.le_refl _) (I1.hok.fresh (Nat.le_refl _))
theorem loop_by {J : It} {g : TG} {tb : TS} {D : Ends} {σ : St} {H : Hp} (n : Nat) (Pv : Nat → St → Hp → Prop) (h0 : Pv 0 σ H) (hgo : ∀ i σ H, i < n → Pv i σ H → J.go i H) (hstop : ∀ σ H, Pv n σ H → J.stop n H)
    (hs : ∀ i x σ H H', i < n → Pv i σ H → J.yld i H x H' → g x σ H' fun σ2 H2 => tb { D with nx := Pv (i + 1), ct := Pv (i + 1), bk := D.nx } σ2 H2) (hd : ∀ σ H, Pv n σ H → D.nx σ H) :
    ∃ W : Nat → Nat → St → Hp → Prop, (∃ m, W 0 m σ H) ∧ ∀ i m σ H, W i m σ H →
      (J.stop i H ∧ D.nx σ H) ∨ (J.go i H ∧ ∃ N : St → Hp → Prop, (∀ σ' H', N σ' H' → ∃ m', m' < m ∧ W (i + 1) m' σ' H') ∧ ∀ x H', J.yld i H x H' → g x σ H' fun σ2 H2 => tb { D with nx := N, ct := N, bk := D.nx } σ2 H2) := by
  refine ⟨fun i m σ H => m = n - i ∧ i ≤ n ∧ Pv i σ H, ⟨n, by simp, Nat.zero_le _, h0⟩, ?_⟩
  rintro i m σ H ⟨rfl, hi, p⟩
  by_cases hlt : i < n
  · exact .inr ⟨hgo i σ H hlt p, Pv (i + 1), fun σ' H' p' => ⟨n - (i + 1), by omega, rfl, hlt, p'⟩, fun x H' y => hs i x σ H H' hlt p y⟩
  · have e : i = n := by omega
    rw [e] at p ⊢
    exact .inl ⟨hstop σ H p, hd σ H p⟩
theorem loop_chk {D : Ends} {k} {μ : List Addr} {H : Hp} {xs : List Fl.D} {ρ : Env} {M : Store} (h : FinS (gm X) W D μ H (forL k g body xs ρ M)) : chk k M := by
  cases xs with
  | nil =>
    unfold forL at h
    split at h
    · assumption
    · exact h.elim
  | cons x xs =>
    unfold forL at h
    split at h
    · assumption
    · exact h.elim
/-- a walk whose items stand for xs: B tells what stays of it -/
theorem loop_gen {J : It} {D : Ends} {k : Option (Nat × O)} {xs : List Fl.D} {μ : List Addr} {ρ : Env} {M : Store} {σ : St} {H : Hp} (B : List Addr → Hp → Prop) (mono : ∀ μ μ' H H', Ext H H' → μ <+: μ' → B μ H → B μ' H')
    (hgo : ∀ i μ H M, i < xs.length → SR (gm X) μ H M → B μ H → chk k M → J.go i H) (hstop : ∀ μ H M, SR (gm X) μ H M → B μ H → chk k M → J.stop xs.length H)
    (hyld : ∀ i μ H M v H', i < xs.length → SR (gm X) μ H M → B μ H → chk k M → J.yld i H v H' → ∃ d, xs[i]? = some d ∧ Ext H H' ∧ SR (gm X) μ H' M ∧ Rep (gm X) μ H' d v)
    (hE : ER (gm X) μ H ρ σ) (hS : SR (gm X) μ H M) (hB : B μ H) (hF : FinS (gm X) W D μ H (forL k g body xs ρ M)) :
    ∃ W' : Nat → Nat → St → Hp → Prop, (∃ m, W' 0 m σ H) ∧ ∀ i m σ H, W' i m σ H →
      (J.stop i H ∧ D.nx σ H) ∨ (J.go i H ∧ ∃ N : St → Hp → Prop, (∀ σ' H', N σ' H' → ∃ m', m' < m ∧ W' (i + 1) m' σ' H') ∧ ∀ x H', J.yld i H x H' → tG (gm X) g x σ H' fun σ2 H2 => tS (gm X) W body { D with nx := N, ct := N, bk := D.nx } σ2 H2) := by
  refine loop_by xs.length (fun i σ H => ∃ μ ρ M, ER (gm X) μ H ρ σ ∧ SR (gm X) μ H M ∧ B μ H ∧ FinS (gm X) W D μ H (forL k g body (xs.drop i) ρ M)) ⟨μ, ρ, M, hE, hS, hB, hF⟩ ?_ ?_ ?_ ?_
  · rintro i σ H hi ⟨μ, ρ, M, hE, hS, hB, hF⟩
    exact hgo i μ H M hi hS hB (loop_chk hF)
  · rintro σ H ⟨μ, ρ, M, hE, hS, hB, hF⟩
    exact hstop μ H M hS hB (loop_chk hF)
  · rintro i v σ H H1 hi ⟨μ, ρ, M, hE, hS, hB, hF⟩ y
    obtain ⟨x, hx, ex, hS1, r⟩ := hyld i μ H M v H1 hi hS hB (loop_chk hF) y
    have hE1 := hE.ext ex (List.prefix_refl _)
    have hB1 := mono _ _ _ _ ex (List.prefix_refl _) hB
    have hF := FinS.later ex (List.prefix_refl _) hF
    obtain ⟨hi', e⟩ := List.getElem?_eq_some_iff.mp hx
    rw [List.drop_eq_getElem_cons hi', e] at hF
    unfold forL at hF
    split at hF
    · refine ⟨μ, ρ, M, x, hE1, hS1, r, ?_⟩
      cases q : g x ρ M with
      | none => rw [q] at hF; exact hF.elim
      | some p =>
        obtain ⟨ρ1, M1⟩ := p
        rw [q] at hF
        intro μ' σ' H' ex pr hE' hS'
        refine ⟨μ', ρ1, M1, hE', hS', ?_⟩
        have hF : FinS (gm X) W D μ H1 (match body ρ1 M1 with
          | .nx ρ2 M2 => forL k g body (xs.drop (i + 1)) ρ2 M2
          | .ct ρ2 M2 => forL k g body (xs.drop (i + 1)) ρ2 M2
          | .bk ρ2 M2 => .nx ρ2 M2
          | o => o) := hF
        cases q2 : body ρ1 M1 with
        | nx ρ2 M2 => rw [q2] at hF; exact fun μ3 σ3 H3 e3 p3 E3 S3 => ⟨μ3, ρ2, M2, E3, S3, mono _ _ _ _ (ex.trans e3) (pr.trans p3) hB1, FinS.later (ex.trans e3) (pr.trans p3) hF⟩
        | ct ρ2 M2 => rw [q2] at hF; exact fun μ3 σ3 H3 e3 p3 E3 S3 => ⟨μ3, ρ2, M2, E3, S3, mono _ _ _ _ (ex.trans e3) (pr.trans p3) hB1, FinS.later (ex.trans e3) (pr.trans p3) hF⟩
        | bk ρ2 M2 => rw [q2] at hF; exact fun μ3 σ3 H3 e3 p3 => hF μ3 σ3 H3 (ex.trans e3) (pr.trans p3)
        | rt d M2 => rw [q2] at hF; exact fun μ3 v3 H3 e3 p3 => hF μ3 v3 H3 (ex.trans e3) (pr.trans p3)
        | ex c fs ρ2 M2 => rw [q2] at hF; exact fun μ3 σ3 H3 dx e3 p3 => hF μ3 σ3 H3 dx (ex.trans e3) (pr.trans p3)
        | no => rw [q2] at hF; exact hF.elim
    · exact hF.elim
  · rintro σ H ⟨μ, ρ, M, hE, hS, hB, hF⟩
    rw [List.drop_length] at hF
    unfold forL at hF
    split at hF
    · exact hF μ σ H (.refl _) (List.prefix_refl _) hE hS
    · exact hF.elim
theorem SR.list_at {G : Gm} {μ : List Addr} {H : Hp} {M : Store} {l : Nat} {a : Addr} {o : O} {xs : List Fl.D} (S : SR G μ H M) (ha : μ[l]? = some a) (e : M[l]? = some o) (h : o = .lst xs ∨ o = .ro xs) : ∃ vs, SqL G.K H a vs ∧ Reps G μ H xs vs := by
  rcases h with h | h
  · subst h
    obtain ⟨vs, h1, h2⟩ := S.obj l a _ ha e
    exact ⟨vs, SqL.of h1, h2⟩
  · subst h
    obtain ⟨vs, h1, h2⟩ := S.obj l a _ ha e
    exact ⟨vs, h1.sql, h2⟩
abbrev LoopW (X : Cx) (W : WX) (g : RG) (body : RS) (J : It) (D : Ends) (σ : St) (H : Hp) : Prop := ∃ W' : Nat → Nat → St → Hp → Prop, (∃ m, W' 0 m σ H) ∧ ∀ i m σ H, W' i m σ H →
      (J.stop i H ∧ D.nx σ H) ∨ (J.go i H ∧ ∃ N : St → Hp → Prop, (∀ σ' H', N σ' H' → ∃ m', m' < m ∧ W' (i + 1) m' σ' H') ∧ ∀ x H', J.yld i H x H' → tG (gm X) g x σ H' fun σ2 H2 => tS (gm X) W body { D with nx := N, ct := N, bk := D.nx } σ2 H2)
theorem tup_loop {D : Ends} {μ : List Addr} {ρ : Env} {M : Store} {σ : St} {H1 : Hp} {xs : List Fl.D} {a : Addr} {vs : List V} (hE : ER (gm X) μ H1 ρ σ) (hS : SR (gm X) μ H1 M) (h1 : SqT X.K H1 a vs) (h2 : Reps (gm X) μ H1 xs vs) (hF : FinS (gm X) W D μ H1 (forL none g body xs ρ M)) : LoopW X W g body (Itt X.K a) D σ H1 := by
  refine loop_gen (X := X) (W := W) (J := Itt X.K a) (k := none) (xs := xs) (fun μ H => SqT X.K H a vs ∧ Reps (gm X) μ H xs vs) (fun _ _ _ _ e p z => ⟨e.sqt z.1, z.2.ext e p⟩) ?_ ?_ ?_ hE hS ⟨h1, h2⟩ hF
  · rintro i μ H M hi _ ⟨z1, z2⟩ _
    obtain ⟨w, hw, _⟩ := z2.get (List.getElem?_eq_getElem hi)
    exact ⟨vs, w, z1, hw⟩
  · rintro μ H M _ ⟨z1, z2⟩ _
    exact ⟨vs, z1, by rw [z2.len_eq]; exact Nat.le_refl _⟩
  · rintro i μ H M w H' hi S ⟨z1, z2⟩ _ ⟨rfl, y⟩
    obtain ⟨w', hw, r⟩ := z2.get (List.getElem?_eq_getElem hi)
    have := (y vs z1).symm.trans hw
    cases this
    exact ⟨_, List.getElem?_eq_getElem hi, .refl _, S, r⟩
theorem lst_loop {D : Ends} {μ : List Addr} {ρ : Env} {M : Store} {σ : St} {H1 : Hp} {xs : List Fl.D} {a : Addr} {l : Nat} {o : O} (hE : ER (gm X) μ H1 ρ σ) (hS : SR (gm X) μ H1 M) (ha : μ[l]? = some a) (hk : o = .lst xs ∨ o = .ro xs) (hF : FinS (gm X) W D μ H1 (forL (some (l, o)) g body xs ρ M)) : LoopW X W g body (Itl X.K a) D σ H1 := by
  refine loop_gen (X := X) (W := W) (J := Itl X.K a) (k := some (l, o)) (xs := xs) (fun μ H => μ[l]? = some a) (fun _ _ _ _ e p z => pre_get p z) ?_ ?_ ?_ hE hS ha hF
  · rintro i μ H M hi S z c
    obtain ⟨vs, z1, z2⟩ := SR.list_at S z c hk
    obtain ⟨w, hw, _⟩ := z2.get (List.getElem?_eq_getElem hi)
    exact ⟨vs, w, z1, hw⟩
  · rintro μ H M S z c
    obtain ⟨vs, z1, z2⟩ := SR.list_at S z c hk
    exact ⟨vs, z1, by rw [z2.len_eq]; exact Nat.le_refl _⟩
  · rintro i μ H M w H' hi S z c ⟨rfl, y⟩
    obtain ⟨vs, z1, z2⟩ := SR.list_at S z c hk
    obtain ⟨w', hw, r⟩ := z2.get (List.getElem?_eq_getElem hi)
    have := (y vs z1).symm.trans hw
    cases this
    exact ⟨_, List.getElem?_eq_getElem hi, .refl _, S, r⟩
theorem s_for (hp : PassesOwn (model X.prog X.w) X.A X.env X.xe) (hc : X.calm = true) (he : PE X e (tE (gm X) W fe)) (hg : PG X tg (tG (gm X) g)) (hb : PSs X sb (tS (gm X) W body))
    (hs : ∀ x, foldedSetIterable e X.env x = pure x := by intro _; rfl) : PS X (.For tg e sb [] pos) (tS (gm X) W (rFor fe g body)) :=
  PSimp (ps_for hp hc (pi_row he) hg hb hs) fun D σ H h => by
    refine (tX.out (g := fun d ρ M => match walkD d M with | some (xs, k) => forL k g body xs ρ M | none => .no) h).mono fun v H1 ⟨μ, ρ, M, d, hE, hS, rd, hF⟩ => ?_
    have hF : FinS (gm X) W D μ H1 (match walkD d M with | some (xs, k) => forL k g body xs ρ M | none => .no) := hF
    cases q : walkD d M with
    | none => rw [q] at hF; exact hF.elim
    | some p =>
      obtain ⟨xs, k⟩ := p
      rw [q] at hF
      have hF : FinS (gm X) W D μ H1 (forL k g body xs ρ M) := hF
      unfold walkD at q
      split at q
      · cases q
        obtain ⟨a, vs, e1, h1, h2⟩ := Rep.ptup.mp rd
        exact ⟨a, e1, .inr ⟨⟨vs, h1⟩, tup_loop hE hS h1 (Reps.of_P h2) hF⟩⟩
      · cases q
        obtain ⟨a, vs, e1, h1, h2⟩ := Rep.tup.mp rd
        exact ⟨a, e1, .inr ⟨⟨vs, h1⟩, tup_loop hE hS h1 h2 hF⟩⟩
      · obtain ⟨a, ha, e1⟩ := Rep.ref.mp rd
        split at q
        · rename_i ys e2
          cases q
          obtain ⟨vs, z1, z2⟩ := SR.list_at hS ha e2 (.inl rfl)
          exact ⟨a, e1, .inl ⟨⟨vs, z1⟩, lst_loop hE hS ha (.inl rfl) hF⟩⟩
        · rename_i ys e2
          cases q
          obtain ⟨vs, z1, z2⟩ := SR.list_at hS ha e2 (.inr rfl)
          exact ⟨a, e1, .inl ⟨⟨vs, z1⟩, lst_loop hE hS ha (.inr rfl) hF⟩⟩
        · cases q
      · cases q
theorem intsD_len (lo : Int) (n : Nat) : (intsD lo n).length = n := by simp [intsD]
theorem intsD_get (lo : Int) (n i : Nat) (h : i < n) : (intsD lo n)[i]? = some (.p (.int (lo + (i : Int)))) := by simp [intsD, h]
theorem range_loop {D : Ends} {lo : Int} {n : Nat} {μ : List Addr} {ρ : Env} {M : Store} {σ : St} {H : Hp} (hE : ER (gm X) μ H ρ σ) (hS : SR (gm X) μ H M) (hF : FinS (gm X) W D μ H (forL none g body (intsD lo n) ρ M)) : LoopW X W g body (Itr lo n) D σ H := by
  refine loop_gen (X := X) (W := W) (J := Itr lo n) (k := none) (xs := intsD lo n) (fun _ _ => True) (fun _ _ _ _ _ _ z => z) ?_ ?_ ?_ hE hS trivial hF
  · rintro i μ H M hi _ _ _
    rw [intsD_len] at hi
    exact hi
  · rintro μ H M _ _ _
    rw [intsD_len]
    exact Nat.le_refl _
  · rintro i μ H M w H' hi S _ _ ⟨rfl, rfl⟩
    rw [intsD_len] at hi
    exact ⟨_, intsD_get lo n i hi, .refl _, S, Rep.int.mpr rfl⟩
theorem s_range1 {a : Expr} {p pos' : Pos} (hp : PassesOwn (model X.prog X.w) X.A X.env X.xe) (hc : X.calm = true) (hgl : Gl X "range") (hm : X.mg "range" = none) (ha : PA X [a] (tA (gm X) W fs)) (hg : PG X tg (tG (gm X) g)) (hb : PSs X sb (tS (gm X) W body))
    (hs1 : starEach [a] X.env = [(false, eval a X.env)] := by rfl) (hs : ∀ x, foldedSetIterable (.Call (.Name "range" p) [a] [] pos') X.env x = pure x := by intro _; rfl) : PS X (.For tg (.Call (.Name "range" p) [a] [] pos') sb [] pos) (tS (gm X) W (rForR rng1 fs g body)) :=
  PSimp (ps_for hp hc (pi_range1 hgl hm ha hs1) hg hb hs) fun D σ H h => by
    refine (tX.out (rel := Reps (gm X)) (g := fun ds ρ M1 => match rng1 ds with | some (lo, n) => forL none g body (intsD lo n) ρ M1 | none => .no) h).mono fun vs H1 ⟨μ, ρ, M, ds, hE, hS, rd, hF⟩ => ?_
    have hF : FinS (gm X) W D μ H1 (match rng1 ds with | some (lo, n) => forL none g body (intsD lo n) ρ M | none => .no) := hF
    cases q : rng1 ds with
    | none => rw [q] at hF; exact hF.elim
    | some p =>
      obtain ⟨lo, n⟩ := p
      rw [q] at hF
      have hF : FinS (gm X) W D μ H1 (forL none g body (intsD lo n) ρ M) := hF
      unfold rng1 at q
      split at q
      · split at q
        · rename_i j hj
          cases q
          obtain ⟨v, rfl, r⟩ := rd.inv1
          rw [Rep.int] at r
          subst r
          exact ⟨j, rfl, hj.1, hj.2, range_loop hE hS hF⟩
        · cases q
      · cases q
theorem s_range2 {a b : Expr} {p pos' : Pos} (hp : PassesOwn (model X.prog X.w) X.A X.env X.xe) (hc : X.calm = true) (hgl : Gl X "range") (hm : X.mg "range" = none) (ha : PA X [a, b] (tA (gm X) W fs)) (hg : PG X tg (tG (gm X) g)) (hb : PSs X sb (tS (gm X) W body))
    (hs1 : starEach [a, b] X.env = [(false, eval a X.env), (false, eval b X.env)] := by rfl) (hs2 : starEach [b] X.env = [(false, eval b X.env)] := by rfl) (hs : ∀ x, foldedSetIterable (.Call (.Name "range" p) [a, b] [] pos') X.env x = pure x := by intro _; rfl) :
    PS X (.For tg (.Call (.Name "range" p) [a, b] [] pos') sb [] pos) (tS (gm X) W (rForR rng2 fs g body)) :=
  PSimp (ps_for hp hc (pi_range2 hgl hm ha hs1 hs2) hg hb hs) fun D σ H h => by
    refine (tX.out (rel := Reps (gm X)) (g := fun ds ρ M1 => match rng2 ds with | some (lo, n) => forL none g body (intsD lo n) ρ M1 | none => .no) h).mono fun vs H1 ⟨μ, ρ, M, ds, hE, hS, rd, hF⟩ => ?_
    have hF : FinS (gm X) W D μ H1 (match rng2 ds with | some (lo, n) => forL none g body (intsD lo n) ρ M | none => .no) := hF
    cases q : rng2 ds with
    | none => rw [q] at hF; exact hF.elim
    | some p =>
      obtain ⟨lo, n⟩ := p
      rw [q] at hF
      have hF : FinS (gm X) W D μ H1 (forL none g body (intsD lo n) ρ M) := hF
      unfold rng2 at q
      split at q
      · split at q
        · rename_i i j hj
          cases q
          obtain ⟨v, u, rfl, r1, r2⟩ := rd.inv2
          rw [Rep.int] at r1 r2
          subst r1 r2
          exact ⟨_, _, rfl, hj, range_loop hE hS hF⟩
        · cases q
      · cases q
end
end Fl

set_option Elab.async false
set_option linter.all false
set_option maxRecDepth 100000
/-! Fl, part J: while, raise, try, a def's promise, the law's end. -/
namespace Fl
open PySem PySem.Spec L2
set_option autoImplicit false
/-! ### while -/
def whileN (c : RT) (b : RS) : Nat → Env → Store → Option Out
  | 0, _, _ => none
  | n + 1, ρ, M => match c ρ M with
    | .ok true M1 => (match b ρ M1 with
      | .nx ρ2 M2 => whileN c b n ρ2 M2
      | .ct ρ2 M2 => whileN c b n ρ2 M2
      | .bk ρ2 M2 => some (.nx ρ2 M2)
      | o => some o)
    | .ok false M1 => some (.nx ρ M1)
    | .ex x fs M1 => some (.ex x fs ρ M1)
    | .no => some .no
theorem whileN_succ {c : RT} {b : RS} : ∀ {n : Nat} {ρ : Env} {M : Store} {o : Out}, whileN c b n ρ M = some o → whileN c b (n + 1) ρ M = some o
  | 0, _, _, _, h => by cases h
  | n + 1, ρ, M, o, h => by
    unfold whileN at h ⊢
    cases q : c ρ M with
    | ok k M1 =>
      simp only [q] at h ⊢
      cases k with
      | false => exact h
      | true =>
        cases q2 : b ρ M1 with
        | nx ρ2 M2 => simp only [q2] at h ⊢; exact whileN_succ h
        | ct ρ2 M2 => simp only [q2] at h ⊢; exact whileN_succ h
        | bk ρ2 M2 => simp only [q2] at h ⊢; exact h
        | rt d M2 => simp only [q2] at h ⊢; exact h
        | ex x fs ρ2 M2 => simp only [q2] at h ⊢; exact h
        | no => simp only [q2] at h ⊢; exact h
    | ex x fs M1 => simp only [q] at h ⊢; exact h
    | no => simp only [q] at h ⊢; exact h
theorem whileN_mono {c : RT} {b : RS} {n m : Nat} {ρ : Env} {M : Store} {o : Out} (h : whileN c b n ρ M = some o) (k : n ≤ m) : whileN c b m ρ M = some o := by
  induction k with
  | refl => exact h
  | step _ ih => exact whileN_succ ih
theorem whileN_det {c : RT} {b : RS} {n m : Nat} {ρ : Env} {M : Store} {o o' : Out} (h : whileN c b n ρ M = some o) (h' : whileN c b m ρ M = some o') : o = o' := by
  have h1 := whileN_mono h (Nat.le_max_left n m)
  have h2 := whileN_mono h' (Nat.le_max_right n m)
  exact Option.some.inj (h1.symm.trans h2)
open Classical in
noncomputable def rWh (c : RT) (b : RS) : RS := fun ρ M => if h : ∃ o n, whileN c b n ρ M = some o then h.choose else .no
theorem rWh_of {c : RT} {b : RS} {n : Nat} {ρ : Env} {M : Store} {o : Out} (h : whileN c b n ρ M = some o) : rWh c b ρ M = o := by
  unfold rWh
  have q : ∃ o n, whileN c b n ρ M = some o := ⟨o, n, h⟩
  rw [dif_pos q]
  obtain ⟨m, hm⟩ := q.choose_spec
  exact whileN_det hm h
section
variable {X : Cx} {W : WX} {e c : Expr} {b : RS} {tc : RT} {pos : Pos} {sb : List Stmt}
theorem s_while (hp : PassesOwn (model X.prog X.w) X.A X.env X.xe) (hc : PT X c (tT (gm X) W tc)) (hb : PSs X sb (tS (gm X) W b)) : PS X (.While c sb [] pos) (tS (gm X) W (rWh tc b)) :=
  PSimp (ps_while hp hc hb) fun D σ H h => by
    obtain ⟨μ, ρ, M, hE, hS, hF⟩ := h
    have hq : ∃ o n, whileN tc b n ρ M = some o := by
      apply Classical.byContradiction
      intro hn
      unfold rWh at hF
      rw [dif_neg hn] at hF
      exact hF
    obtain ⟨o, n, hn⟩ := hq
    rw [rWh_of hn] at hF
    refine ⟨fun m σ H => ∃ μ ρ M o, ER (gm X) μ H ρ σ ∧ SR (gm X) μ H M ∧ whileN tc b m ρ M = some o ∧ FinS (gm X) W D μ H o, ⟨n, μ, ρ, M, o, hE, hS, hn, hF⟩, ?_⟩
    rintro m σ H ⟨μ, ρ, M, o, hE, hS, hn, hF⟩
    cases m with
    | zero => cases hn
    | succ m =>
      unfold whileN at hn
      refine ⟨μ, ρ, M, hE, hS, ?_⟩
      cases q : tc ρ M with
      | ok k M1 =>
        rw [q] at hn
        intro μ' v H' e p s r
        subst r
        cases k with
        | false =>
          cases hn
          exact iteF (hF μ' σ H' e p (hE.ext e p) s)
        | true =>
          refine iteT ⟨fun σ' H' => ∃ μ ρ M o, ER (gm X) μ H' ρ σ' ∧ SR (gm X) μ H' M ∧ whileN tc b m ρ M = some o ∧ FinS (gm X) W D μ H' o, fun σ' H' z => ⟨m, Nat.lt_succ_self _, z⟩, ⟨μ', ρ, M1, hE.ext e p, s, ?_⟩⟩
          cases q2 : b ρ M1 with
          | nx ρ2 M2 => simp only [q2] at hn; exact fun μ3 σ3 H3 e3 p3 E3 S3 => ⟨μ3, ρ2, M2, o, E3, S3, hn, FinS.later (e.trans e3) (p.trans p3) hF⟩
          | ct ρ2 M2 => simp only [q2] at hn; exact fun μ3 σ3 H3 e3 p3 E3 S3 => ⟨μ3, ρ2, M2, o, E3, S3, hn, FinS.later (e.trans e3) (p.trans p3) hF⟩
          | bk ρ2 M2 => simp only [q2] at hn; cases hn; exact fun μ3 σ3 H3 e3 p3 => hF μ3 σ3 H3 (e.trans e3) (p.trans p3)
          | rt d M2 => simp only [q2] at hn; cases hn; exact fun μ3 v3 H3 e3 p3 => hF μ3 v3 H3 (e.trans e3) (p.trans p3)
          | ex c fs ρ2 M2 => simp only [q2] at hn; cases hn; exact fun μ3 σ3 H3 dx e3 p3 => hF μ3 σ3 H3 dx (e.trans e3) (p.trans p3)
          | no => simp only [q2] at hn; cases hn; exact hF
      | ex c fs M1 =>
        rw [q] at hn
        cases hn
        exact fun μ' H' dx e p s x => hF μ' σ H' dx e p (hE.ext e p) s x
      | no =>
        rw [q] at hn
        cases hn
        exact hF
end
/-! ### raise X("..") of an own class without __init__ -/
structure ExC (G : Gm) (c : Str) (C : Addr) : Prop where
  mgC : G.mg c = some (.ref C)
  exc : PySem.W.excIn G.K C He.veBase "ValueError.__new__" = true
  kp : PySem.W.keepIn G.K (.ref C) = true
  sub : PySem.W.subIn G.K (.ref C) (.type "BaseException") = some true
  ty : PySem.W.typeIn G.K (.ref C) = some (.type "type")
def rRaise (c : Str) : RS := fun ρ M => .ex c none ρ M
section
variable {X : Cx} {W Wout : WX} {pos : Pos}
theorem s_raise {c m : Str} {C : Addr} {j : Nat} {p p2 pos' : Pos} (h : ExC (gm X) c C) (hc : X.calm = true) (tk : Takes X W) (hg : Gl X c) (hdb : (c == ("__debug__" : Str)) = false := by decide) :
    PS X (.Raise (some (.Call (.Name c p) [.Constant (.str m) j p2] [] pos')) none pos) (tS (gm X) W (rRaise c)) :=
  PSimp (ps_raise hc tk (pmk_own PySem.F.excBase_ValueError h.exc h.mgC h.kp (raises_own h.sub h.ty) hg hdb)) fun D σ H q => by
    obtain ⟨μ, ρ, M, hE, hS, hF⟩ := q
    have z := hF μ σ H none (.refl _) (List.prefix_refl _) hE hS rfl
    unfold cval at z
    rw [h.mgC] at z
    exact z
/-! ### try .. except X: suite -/
def noEx : Out → Out
  | .ex _ _ _ _ => .no
  | o => o
theorem noEx_fin {G : Gm} {W W' : WX} {D : Ends} {μ : List Addr} {H : Hp} {o : Out} (h : FinS G W D μ H (noEx o)) : FinS G W' D μ H o := by
  cases o with
  | ex c fs ρ1 M1 => exact h.elim
  | nx ρ1 M1 => exact h
  | rt d M1 => exact h
  | bk ρ1 M1 => exact h
  | ct ρ1 M1 => exact h
  | no => exact h
/-- exs: the classes that may come, and whether the clause takes them -/
def rTry (exs : List (Str × Bool)) (body suite : RS) : RS := fun ρ M => match body ρ M with
  | .ex c fs ρ1 M1 => (match exs.lookup c with
    | some true => noEx (suite ρ1 M1)
    | some false => .ex c fs ρ1 M1
    | none => .no)
  | o => o
theorem lookup_mem {α : Type} {c : Str} {b : α} : ∀ {l : List (Str × α)}, l.lookup c = some b → (c, b) ∈ l
  | [], h => by cases h
  | (d, x) :: l, h => by
    rw [List.lookup_cons] at h
    split at h
    · rename_i e
      have e1 : c = d := by simpa using e
      cases h
      rw [e1]
      exact List.mem_cons_self
    · exact List.mem_cons_of_mem _ (lookup_mem h)
theorem s_try {x : Str} {xc : Value} {exs : List (Str × Bool)} {body suite : RS} {sb sc : List Stmt} {b0 : Stmt} {np pos' : Pos} (hs : X.stack = X.env :: X.outer) (hf : X.env.frame = some X.env.locals) (hc : Names X x xc) (tk : Takes X Wout)
    (hx : ∀ q ∈ exs, PySem.W.exmOne X.K (cval (gm X) q.1) xc = some q.2)
    (hb : ∀ (W : WX) (pn : List (Addr × Obj)) (xe : Value → Shared → Prop), Takes (X.tr pn xe) W → PassesOwn (model X.prog X.w) X.A X.env xe → PSs (X.tr pn xe) sb (tS (gm X) W body))
    (hsu : ∀ (a : Addr) (pn : List (Addr × Obj)), PSs (X.suite a pn) (b0 :: sc) (tS (gm X) (fun _ _ _ _ => False) suite)) :
    PS X (.Try sb [.ExceptHandler (some (.Name x np)) none (b0 :: sc) pos'] [] [] pos) (tS (gm X) Wout (rTry exs body suite)) :=
  PSimp (ps_try_only (tb := fun W => tS (gm X) W body) (ts := fun _ _ _ => tS (gm X) (fun _ _ _ _ => False) suite) hs hf hc tk (fun W pn xe h1 h2 => hb W pn xe h1 h2) (fun a oe cls d pn _ _ => hsu a _)) fun D σ H h => by
    obtain ⟨μ, ρ, M, hE, hS, hF⟩ := h
    refine ⟨μ, ρ, M, hE, hS, ?_⟩
    have hF : FinS (gm X) Wout D μ H (match body ρ M with
      | .ex c fs ρ1 M1 => (match exs.lookup c with
        | some true => noEx (suite ρ1 M1)
        | some false => .ex c fs ρ1 M1
        | none => .no)
      | o => o) := hF
    cases q : body ρ M with
    | ex c fs ρ1 M1 =>
      rw [q] at hF
      have hF : FinS (gm X) Wout D μ H (match exs.lookup c with
        | some true => noEx (suite ρ1 M1)
        | some false => .ex c fs ρ1 M1
        | none => .no) := hF
      intro μ' σ' H' dx e p hE' hS' xr
      cases q2 : exs.lookup c with
      | none => rw [q2] at hF; exact hF.elim
      | some k =>
        rw [q2] at hF
        refine ⟨k, hx (c, k) (lookup_mem q2), fun hk a _ => ?_, fun hk => ?_⟩
        · subst hk
          have hF : FinS (gm X) Wout D μ H (noEx (suite ρ1 M1)) := hF
          exact ⟨μ', ρ1, M1, hE', hS', FinS.later e p (noEx_fin hF)⟩
        · subst hk
          exact hF μ' σ' H' dx e p hE' hS' xr
    | nx ρ1 M1 => rw [q] at hF; exact hF
    | rt d M1 => rw [q] at hF; exact hF
    | bk ρ1 M1 => rw [q] at hF; exact hF
    | ct ρ1 M1 => rw [q] at hF; exact hF
    | no => rw [q] at hF; exact hF
end
/-! ### a def's promise -/
/-- what comes of a body as a def's answer: the objects that were made and are not handed out may be forgotten -/
def bodyR : Out → R D
  | .nx _ M => .ok (.p .non) M
  | .rt d M => .ok d M
  | .ex c fs _ M => .ex c fs M
  | _ => .no
mutual
def D.clo (n : Nat) : D → Bool
  | .p _ => true
  | .ref l => decide (l < n)
  | .tup xs => D.clos n xs
  | .gl _ => true
  | .exv _ => true
  | .lam _ _ _ => true
def D.clos (n : Nat) : List D → Bool
  | [] => true
  | x :: xs => D.clo n x && D.clos n xs
end
def O.clo (n : Nat) : O → Bool
  | .lst xs => D.clos n xs
  | .ro xs => D.clos n xs
  | .ins _ fs => fs.all fun q => q.2.clo n
  | .dk fs => fs.all fun q => q.2.clo n
  | .dt fs => fs.all fun q => q.2.clo n
  | .tab _ => true
def Store.clo (M : Store) : Prop := ∀ o ∈ M, o.clo M.length = true
/-- r is told, s is what comes: the same, but for objects behind the told ones -/
def Tells (r s : R D) : Prop := match r with
  | .ok d M => ∃ ext, s = .ok d (M ++ ext) ∧ (ext = [] ∨ (d.clo M.length = true ∧ Store.clo M))
  | .ex c fs M => fs = none ∧ ∃ ext, s = .ex c none (M ++ ext) ∧ (ext = [] ∨ Store.clo M)
  | .no => True
section
variable {G : Gm} {μ : List Addr} {H : Hp} {n : Nat}
mutual
theorem Rep.cut : ∀ {d : D} {v : V}, Rep G μ H d v → d.clo n = true → Rep G (μ.take n) H d v
  | .p x, v, r, h => by simpa only [Rep] using r
  | .ref l, v, r, h => by
    obtain ⟨a, h1, h2⟩ := Rep.ref.mp r
    have hl : l < n := by simpa [D.clo] using h
    exact Rep.ref.mpr ⟨a, by rw [List.getElem?_take_of_lt hl]; exact h1, h2⟩
  | .tup xs, v, r, h => by
    obtain ⟨a, vs, h1, h2, h3⟩ := Rep.tup.mp r
    exact Rep.tup.mpr ⟨a, vs, h1, h2, Reps.cutn h3 (by simpa [D.clo] using h)⟩
  | .gl x, v, r, h => by simpa only [Rep] using r
  | .exv x, v, r, h => by simpa only [Rep] using r
  | .lam f c q, v, r, h => by simpa only [Rep] using r
theorem Reps.cutn : ∀ {ds : List D} {vs : List V}, Reps G μ H ds vs → D.clos n ds = true → Reps G (μ.take n) H ds vs
  | [], vs, r, h => by rw [r.inv0]; exact .nil
  | d :: ds, vs, r, h => by
    obtain ⟨v, w, rfl, r1, r2⟩ := r.inv
    have h' : d.clo n = true ∧ D.clos n ds = true := by simpa [D.clos] using h
    exact .cons (Rep.cut r1 h'.1) (Reps.cutn r2 h'.2)
end
theorem FsRep.cut {κ : Type} : ∀ {fs : List (κ × D)} {gs : List (κ × V)}, FsRep G μ H fs gs → (fs.all fun q => q.2.clo n) = true → FsRep G (μ.take n) H fs gs
  | [], gs, r, h => r
  | (f, d) :: fs, gs, r, h => by
    obtain ⟨v, w, rfl, r1, r2⟩ := r
    have h' : d.clo n = true ∧ (fs.all fun q => q.2.clo n) = true := by simpa using h
    exact ⟨v, w, rfl, Rep.cut r1 h'.1, FsRep.cut r2 (by simpa using h'.2)⟩
theorem ObjRep.cut {a : Addr} {o : O} (r : ObjRep G μ H a o) (h : o.clo n = true) : ObjRep G (μ.take n) H a o := by
  cases o with
  | lst xs => obtain ⟨vs, h1, h2⟩ := r; exact ⟨vs, h1, h2.cutn (by simpa [O.clo] using h)⟩
  | ro xs => obtain ⟨vs, h1, h2⟩ := r; exact ⟨vs, h1, h2.cutn (by simpa [O.clo] using h)⟩
  | ins c fs => obtain ⟨C, dx, gs, h0, h1, h2⟩ := r; exact ⟨C, dx, gs, h0, h1, h2.cut (by simpa only [O.clo] using h)⟩
  | dk fs => obtain ⟨gs, h1, h2⟩ := r; exact ⟨gs, h1, h2.cut (by simpa only [O.clo] using h)⟩
  | dt fs => obtain ⟨gs, h1, h2⟩ := r; exact ⟨gs, h1, h2.cut (by simpa only [O.clo] using h)⟩
  | tab x => exact r
theorem SR.cut {M ext : Store} (S : SR G μ H (M ++ ext)) (h : Store.clo M) : SR G (μ.take M.length) H M := by
  have hl : μ.length = M.length + ext.length := by rw [S.len, List.length_append]
  have lt : ∀ {l : Nat} {o : O}, M[l]? = some o → l < M.length := fun h => (List.getElem?_eq_some_iff.mp h).1
  refine ⟨by rw [List.length_take]; omega, fun i j a x y h1 h2 h3 h4 => ?_, fun l a o h1 h2 => ?_⟩
  · rw [List.getElem?_take_of_lt (lt h3)] at h1
    rw [List.getElem?_take_of_lt (lt h4)] at h2
    exact S.nd i j a x y h1 h2 (by rw [List.getElem?_append_left (lt h3)]; exact h3) (by rw [List.getElem?_append_left (lt h4)]; exact h4)
  have hlt : l < M.length := (List.getElem?_eq_some_iff.mp h2).1
  rw [List.getElem?_take_of_lt hlt] at h1
  exact (S.obj l a o h1 (by rw [List.getElem?_append_left hlt]; exact h2)).cut (h o (List.mem_of_getElem? h2))
theorem pre_take {μ0 : List Addr} {k : Nat} (p : μ0 <+: μ) (h : μ0.length ≤ k) : μ0 <+: μ.take k := by
  obtain ⟨t, rfl⟩ := p
  rw [List.take_append]
  rw [List.take_of_length_le h]
  exact List.prefix_append _ _
end
/-- every object of the store in the told one stands (the told store is not shorter than the one ahead) -/
def Grows (M : Store) : R D → Prop
  | .ok _ M' => M.length ≤ M'.length
  | .ex _ _ M' => M.length ≤ M'.length
  | .no => True
theorem FinC_tells {G : Gm} {E : XK} {μ : List Addr} {H : Hp} {Q : VK} {M : Store} {r s : R D} (hl : μ.length = M.length) (g : Grows M r) (t : Tells r s) (h : FinC G E μ H Q r) : FinC G E μ H Q s := by
  cases r with
  | no => exact h.elim
  | ok d M' =>
    obtain ⟨ext, rfl, c⟩ := t
    intro μ' v H' e p S r
    rcases c with rfl | ⟨c1, c2⟩
    · rw [List.append_nil] at S
      exact h μ' v H' e p S r
    · exact h (μ'.take M'.length) v H' e (pre_take p (by rw [hl]; exact g)) (S.cut c2) (r.cut c1)
  | ex c fs M' =>
    obtain ⟨rfl, ext, rfl, c⟩ := t
    intro μ' H' dx e p S x
    rcases c with rfl | c2
    · rw [List.append_nil] at S
      exact h μ' H' dx e p S x
    · exact h (μ'.take M'.length) H' dx e (pre_take p (by rw [hl]; exact g)) (S.cut c2) x
def startD (n : Nat) (ds : List D) : Env := ds.map some ++ List.replicate (n - ds.length) none
theorem startD_ok {G : Gm} {μ : List Addr} {H : Hp} {N : List Str} {ds : List D} {vs : List V} (r : Reps G μ H ds vs) : ER G μ H (startD N.length ds) (L2.start N vs) := by
  have hl := r.length
  refine ⟨by simp [startD, L2.start, hl], fun i d e => ?_⟩
  unfold startD at e
  by_cases hi : i < ds.length
  · rw [List.getElem?_append_left (by simpa using hi), List.getElem?_map] at e
    cases q : ds[i]? with
    | none => rw [q] at e; cases e
    | some d' =>
      rw [q] at e
      have e2 : d' = d := by simpa using e
      subst e2
      obtain ⟨v, h1, h2⟩ := r.get q
      refine ⟨v, ?_, h2⟩
      unfold L2.start
      rw [List.getElem?_append_left (by rw [List.length_map, ← hl]; exact hi), List.getElem?_map, h1]
      rfl
  · rw [List.getElem?_append_right (by simpa using hi), List.getElem?_replicate] at e
    split at e
    · cases e
    · cases e
section
variable {P : Program} {w : World} {K : PySem.W.Frag} {mg : Str → Option Value} {base : Heap}
/-- THE RULE for a def: m is its body's reading; F is told of it -/
theorem fn_D {x qual : Str} {params : Arguments} {body : List Stmt} {scope : Scope} {dvs : List V} {kws : List (Str × V)} {f : Addr} {fd : FuncData} {N ps : List Str} {k : Nat} {m : RS} {F : List D → Store → R D}
    (Fu : FunD K x qual params body scope dvs kws f fd) (S : FnScope N ps scope)
    (hb : ∀ (cdv : Value) (A : Around) (outer : List PySem.Env) (s : Shared) (H : Hp) (E : XK), Room k (A.deeper (PyProof.Rows.envOfC qual scope s.heap.objs.size f cdv)) →
      ∀ W : WX, Takes (cxOf (L2.CX P w) P w K mg base N qual scope f cdv A outer s H E) W → PSs (cxOf (L2.CX P w) P w K mg base N qual scope f cdv A outer s H E) body (tS ⟨K, mg⟩ W m))
    (hF : ∀ ds M, ds.length = ps.length → Grows M (F ds M) ∧ Tells (F ds M) (bodyR (m (startD N.length ds) M))) :
    FnOk P w K mg base (L2.CX P w) (k + 1) f fd ps (spD ⟨K, mg⟩ F ps.length) := by
  refine Fu.ok S (fun vs H Q E h => h.choose_spec.choose_spec.choose_spec.1) fun cdv A outer s H vs Q E hr h => ?_
  obtain ⟨μ, ds, M, hn, hds, hS, hQ⟩ := h
  have tk : Takes (cxOf (L2.CX P w) P w K mg base N qual scope f cdv A outer s H E) (fun c d _ H' => E c d H') := takes_of rfl rfl rfl rfl
  refine ⟨_, hb cdv A outer s H E hr _ tk, μ, startD N.length ds, M, startD_ok hds, hS, ?_⟩
  obtain ⟨g, t⟩ := hF ds M (by rw [hds.length]; exact hn)
  have hq := FinC_tells hS.len g t hQ
  cases q : m (startD N.length ds) M with
  | nx ρ M' => rw [q] at hq; exact fun μ' σ' H' e p _ s => hq μ' .non H' e p s (Rep.non.mpr rfl)
  | rt d M' => rw [q] at hq; exact fun μ' v H' e p s r => hq μ' v H' e p s r
  | bk ρ M' => rw [q] at hq; exact hq.elim
  | ct ρ M' => rw [q] at hq; exact hq.elim
  | ex c fs ρ M' => rw [q] at hq; exact fun μ' σ' H' dx e p _ s x => hq μ' H' dx e p s x
  | no => rw [q] at hq; exact hq.elim
end
end Fl

set_option Elab.async false
set_option linter.all false
set_option maxRecDepth 100000
/-! Fl, part K: calls with keywords; facts of the head; the law's end. -/
namespace Fl
open PySem PySem.Spec L2
set_option autoImplicit false
/-! ### f(e, .., k = v, ..) -/
def pick {α : Type} (ix : List (Bool × Nat)) (us ws : List α) : List α := ix.filterMap fun q => if q.1 then ws[q.2]? else us[q.2]?
theorem Reps.pick {G : Gm} {μ : List Addr} {H : Hp} {ds zs : List D} {vs ws : List V} (r : Reps G μ H ds vs) (q : Reps G μ H zs ws) : ∀ ix : List (Bool × Nat), Reps G μ H (Fl.pick ix ds zs) (Fl.pick ix vs ws)
  | [] => .nil
  | (b, i) :: ix => by
    have ih := Reps.pick r q ix
    unfold Fl.pick at ih ⊢
    rw [List.filterMap_cons, List.filterMap_cons]
    have key : ∀ {as : List D} {us : List V}, Reps G μ H as us → (as[i]? = none ∧ us[i]? = none) ∨ ∃ d v, as[i]? = some d ∧ us[i]? = some v ∧ Rep G μ H d v := fun {as us} r => by
      cases e : as[i]? with
      | none =>
        have h1 : as.length ≤ i := List.getElem?_eq_none_iff.mp e
        exact .inl ⟨rfl, List.getElem?_eq_none_iff.mpr (by rw [← r.length]; exact h1)⟩
      | some d =>
        obtain ⟨v, h1, h2⟩ := r.get e
        exact .inr ⟨d, v, rfl, h1, h2⟩
    cases b with
    | true =>
      rcases key q with ⟨h1, h2⟩ | ⟨d, v, h1, h2, h3⟩
      · simp only [if_true, h1, h2]; exact ih
      · simp only [if_true, h1, h2]; exact .cons h3 ih
    | false =>
      rcases key r with ⟨h1, h2⟩ | ⟨d, v, h1, h2, h3⟩
      · simp only [Bool.false_eq_true, if_false, h1, h2]; exact ih
      · simp only [Bool.false_eq_true, if_false, h1, h2]; exact .cons h3 ih
theorem Vals.pick {vs zs : List V} {us ws : List Value} (r : Vals vs us) (q : Vals zs ws) : ∀ ix : List (Bool × Nat), Vals (Fl.pick ix vs zs) (Fl.pick ix us ws)
  | [] => .nil
  | (b, i) :: ix => by
    have ih := Vals.pick r q ix
    unfold Fl.pick at ih ⊢
    rw [List.filterMap_cons, List.filterMap_cons]
    have key : ∀ {as : List V} {us : List Value}, Vals as us → (as[i]? = none ∧ us[i]? = none) ∨ ∃ d v, as[i]? = some d ∧ us[i]? = some v ∧ RelV d v := fun {as us} r => by
      cases e : as[i]? with
      | none => exact .inl ⟨rfl, r.none_of e⟩
      | some d =>
        obtain ⟨v, h1, h2⟩ := r.get e
        exact .inr ⟨d, v, rfl, h1, h2⟩
    cases b with
    | true =>
      rcases key q with ⟨h1, h2⟩ | ⟨d, v, h1, h2, h3⟩
      · simp only [if_true, h1, h2]; exact ih
      · simp only [if_true, h1, h2]; exact .cons h3 ih
    | false =>
      rcases key r with ⟨h1, h2⟩ | ⟨d, v, h1, h2, h3⟩
      · simp only [Bool.false_eq_true, if_false, h1, h2]; exact ih
      · simp only [Bool.false_eq_true, if_false, h1, h2]; exact .cons h3 ih
structure DfK (P : Program) (w : World) (K : PySem.W.Frag) (mg : Str → Option Value) (base : Heap) (x : Str) (ps : List Str) (F : List D → Store → R D) (k n : Nat) (ks : List Str) (ix : List (Bool × Nat)) : Prop where
  is_ : ∃ f fd, mg x = some (.ref f) ∧ PySem.W.keepIn K (.ref f) = true ∧ (∀ (s : Shared) (us ws : List Value), us.length = n → ws.length = ks.length → BindsTo s fd ⟨us, ks.zip ws⟩ (ps.zip (pick ix us ws))) ∧ FnOk P w K mg base (L2.CX P w) k f fd ps (spD ⟨K, mg⟩ F ps.length)
def rCallK (n m : Nat) (ix : List (Bool × Nat)) (p : Nat) (F : List D → Store → R D) (fa fk : RA) : RE := fun ρ M => (fa ρ M).bind fun ds M1 => (fk ρ M1).bind fun zs M2 => if ds.length = n ∧ zs.length = m ∧ (pick ix ds zs).length = p then F (pick ix ds zs) M2 else .no
section
variable {X : Cx} {W : WX} {x : Str} {ps ks : List Str} {F : List D → Store → R D} {k n : Nat} {ix : List (Bool × Nat)} {e : Expr} {es : List Expr} {kws : List Keyword} {fs fk : RA} {p pos kpos : Pos} {nm : Option Str} {fe : RE}
theorem k_nil : PK X [] (tA (gm X) W rNil) := ⟨fun pos pins s σ H Q I h => pk_nil.run pos pins s σ H Q I (by
  obtain ⟨μ, ρ, M, hE, hS, hF⟩ := h
  exact hF μ [] H (.refl _) (List.prefix_refl _) hS .nil)⟩
theorem k_cons (ha : PE X e (tE (gm X) W fe)) (hr : PK X kws (tA (gm X) W fk)) : PK X (⟨nm, e, kpos⟩ :: kws) (tA (gm X) W (rCons fe fk)) := ⟨fun pos pins s σ H Q I h => (pk_cons ha hr).run pos pins s σ H Q I (by
  refine (tX.bind h).mono fun v H1 g1 => ?_
  refine (Go.bind Rep.mono g1).mono fun vs H2 ⟨μ, ρ, M, x, xs, hE, hS, rx, rxs, hF⟩ => ?_
  exact hF μ (v :: vs) H2 (.refl _) (List.prefix_refl _) hS (.cons rx rxs))⟩
theorem callK_in {σ : St} {H : Hp} {Q : VK} {m q : Nat} (h : tE (gm X) W (rCallK n m ix q F fs fk) σ H Q) : tA (gm X) W fs σ H fun vs H1 => tA (gm X) W fk σ H1 fun zs H2 => vs.length = n ∧ zs.length = m ∧ spD (gm X) F q (pick ix vs zs) H2 Q (WE W σ) := by
  refine (tX.bind h).mono fun vs H1 g1 => ?_
  refine (Go.bind Reps.mono g1).mono fun zs H2 ⟨μ, ρ, M, ds, es, hE, hS, rx, rxs, hF⟩ => ?_
  have hF : Fin (gm X) (Rep (gm X)) W μ σ H2 Q (if ds.length = n ∧ es.length = m ∧ (pick ix ds es).length = q then F (pick ix ds es) M else .no) := hF
  split at hF
  · rename_i hn
    have r := rx.pick rxs ix
    exact ⟨by rw [rx.len_eq]; exact hn.1, by rw [rxs.len_eq]; exact hn.2.1, μ, pick ix ds es, M, by rw [r.len_eq]; exact hn.2.2, r, hS, FinC_of hF⟩
  · exact hF.elim
theorem runK {pins : List (Addr × Obj)} {σ : St} {H : Hp} {s : Shared} {Q : VK} {us ws : List Value} {vs zs : List V} {f : Addr} {fd : FuncData} (h4 : FnOk X.prog X.w X.K X.mg X.base (L2.CX X.prog X.w) k f fd ps (spD (gm X) F ps.length)) (hr : Room k X.A) (tk : Takes X W)
    (hb : ∀ (s : Shared) (us ws : List Value), us.length = n → ws.length = ks.length → BindsTo s fd ⟨us, ks.zip ws⟩ (ps.zip (pick ix us ws))) (I : Inv X pins σ H s) (r : Vals vs us) (rz : Vals zs ws) (l1 : vs.length = n) (l2 : zs.length = ks.length) (h : spD (gm X) F ps.length (pick ix vs zs) H Q (WE W σ)) :
    wpAny (model X.prog X.w) X.A (call (.ref f) us (ks.zip ws)) (EP X pins σ Q) X.xe s := by
  refine wpAny_call (codeAny_mono (h4.run X.A X.stack s H ⟨us, ks.zip ws⟩ (pick ix us ws) (pick ix vs zs) Q (WE W σ) hr I.env0 (hb s us ws (by rw [← r.length]; exact l1) (by rw [← rz.length]; exact l2)) (Vals.pick r rz ix) h) fun r s' hq => ?_)
  cases r with
  | error e => exact passAt tk σ pins H s e s' I hq
  | ok fl =>
    cases fl with
    | ret u => exact I.after hq
    | next => exact False.elim hq
    | brk => exact False.elim hq
    | cont => exact False.elim hq
/-- keywords alone -/
theorem i_callK0 (D : DfK X.prog X.w X.K X.mg X.base x ps F k 0 ks ix) (hr : Room k X.A) (hg : Gl X x) (tk : Takes X W) (hkw : PK X kws (tA (gm X) W fk)) (hall : (backToKw pos (keywordEach kws X.env)).all (·.1.isSome) = true := by rfl) (hks : (backToKw pos (keywordEach kws X.env)).filterMap (·.1) = ks := by rfl)
    (hdb : (x == ("__debug__" : Str)) = false := by decide) (hpl : ((backTo pos (starEach [] X.env)).any (·.1) || (backToKw pos (keywordEach kws X.env)).any (·.1.isNone)) = false := by rfl) :
    PE X (.Call (.Name x p) [] kws pos) (tE (gm X) W (rCallK 0 ks.length ix ps.length F rNil fk)) := by
  obtain ⟨f, fd, h1, h2, h3, h4⟩ := D.is_
  refine ⟨fun pins s σ H Q I h => ?_⟩
  have h0 := callK_in h
  have h0' : tA (gm X) W fk σ H fun zs H2 => zs.length = ks.length ∧ spD (gm X) F ps.length (pick ix [] zs) H2 Q (WE W σ) := by
    obtain ⟨μ, ρ, M, hE, hS, hF⟩ := h0
    have := hF μ [] H (.refl _) (List.prefix_refl _) hS .nil
    exact this.mono fun zs H2 z => ⟨z.2.1, z.2.2⟩
  refine wpAny_Call_Name_kw (ld_glob I hg h1 ?_ hdb)
  refine PySem.W.callWith_KW0 (h₀ := X.base) I.ok.mod.kin h2 hall (thn (hkw.run pos pins s σ H _ I h0') fun ws s2 ⟨zs, H2, I2, rz, q2⟩ => ⟨I2.kIn, ?_⟩) hpl
  rw [hks]
  exact runK h4 hr tk h3 I2 .nil rz rfl q2.1 q2.2
/-- positional ones and keywords -/
theorem i_callK (D : DfK X.prog X.w X.K X.mg X.base x ps F k n ks ix) (hr : Room k X.A) (hg : Gl X x) (tk : Takes X W) (ha : PA X (e :: es) (tA (gm X) W fs)) (hkw : PK X kws (tA (gm X) W fk)) (hall : (backToKw pos (keywordEach kws X.env)).all (·.1.isSome) = true := by rfl) (hks : (backToKw pos (keywordEach kws X.env)).filterMap (·.1) = ks := by rfl)
    (hdb : (x == ("__debug__" : Str)) = false := by decide) (he : starEach (e :: es) X.env = (false, eval e X.env) :: starEach es X.env := by rfl) (hpl : ((backTo pos (starEach (e :: es) X.env)).any (·.1) || (backToKw pos (keywordEach kws X.env)).any (·.1.isNone)) = false := by rfl) :
    PE X (.Call (.Name x p) (e :: es) kws pos) (tE (gm X) W (rCallK n ks.length ix ps.length F fs fk)) := by
  obtain ⟨f, fd, h1, h2, h3, h4⟩ := D.is_
  refine ⟨fun pins s σ H Q I h => ?_⟩
  refine wpAny_Call_Name_kw (ld_glob I hg h1 ?_ hdb)
  refine PySem.W.callWith_KW (h₀ := X.base) I.ok.mod.kin h2 hall (thn (ha.run pos pins s σ H _ I (callK_in h)) fun us s1 ⟨vs, H1, I1, r, q⟩ => ?_) hpl he
  refine thn (hkw.run pos pins s1 σ H1 _ I1 q) fun ws s2 ⟨zs, H2, I2, rz, q2⟩ => ⟨I2.kIn, ?_⟩
  rw [hks]
  exact runK h4 hr tk h3 I2 r rz q2.1 q2.2.1 q2.2.2
end
/-! ### facts of the head -/
/-! the value u is the data x, in the written part -/
mutual
def pB (K : PySem.W.Frag) : P → Value → Bool
  | .non, .none => true
  | .bl b, .bool c => b == c
  | .int i, .int j _ => decide (i = j)
  | .str x, .str y _ => decide (x = y)
  | .tup xs, .ref a => (match K.lookup a with
    | some ⟨.type c, _, .seq its _, _⟩ => decide (c = "tuple") && (decide (its.size ≤ sizeLine) && pBs K xs its.toList)
    | _ => false)
  | _, _ => false
def pBs (K : PySem.W.Frag) : List P → List Value → Bool
  | [], [] => true
  | x :: xs, u :: us => pB K x u && pBs K xs us
  | _, _ => false
end
mutual
theorem pB_ok {K : PySem.W.Frag} : ∀ {x : P} {u : Value}, pB K x u = true → ∃ v, RelV v u ∧ ∀ H, RepP K H x v
  | .non, u, h => by
    cases u with
    | none => exact ⟨.non, rfl, fun H => by simp only [RepP]⟩
    | _ => simp [pB] at h
  | .bl b, u, h => by
    cases u with
    | bool c =>
      have e : b = c := by simpa [pB] using h
      exact ⟨.bl c, rfl, fun H => by simp only [RepP, e]⟩
    | _ => simp [pB] at h
  | .int i, u, h => by
    cases u with
    | int j t =>
      have e : i = j := by simpa [pB] using h
      exact ⟨.int j, ⟨t, rfl⟩, fun H => by simp only [RepP, e]⟩
    | _ => simp [pB] at h
  | .str i, u, h => by
    cases u with
    | str j t =>
      have e : i = j := by simpa [pB] using h
      exact ⟨.str j, ⟨t, rfl⟩, fun H => by simp only [RepP, e]⟩
    | _ => simp [pB] at h
  | .tup xs, u, h => by
    cases u with
    | ref a =>
      simp only [pB] at h
      split at h
      · rename_i c od its n sl e
        simp only [Bool.and_eq_true, decide_eq_true_eq] at h
        obtain ⟨h1, h2, h3⟩ := h
        obtain ⟨vs, r1, r2⟩ := pBs_ok h3
        refine ⟨.ref a, rfl, fun H => ?_⟩
        simp only [RepP]
        exact ⟨a, vs, rfl, .inr ⟨_, its, n, e, by rw [h1], rfl, h2, r1⟩, r2 H⟩
      · cases h
    | _ => simp [pB] at h
theorem pBs_ok {K : PySem.W.Frag} : ∀ {xs : List P} {us : List Value}, pBs K xs us = true → ∃ vs, Vals vs us ∧ ∀ H, RepPs K H xs vs
  | [], [], _ => ⟨[], .nil, fun H => by simp only [RepPs]⟩
  | [], _ :: _, h => by simp [pBs] at h
  | _ :: _, [], h => by simp [pBs] at h
  | x :: xs, u :: us, h => by
    simp only [pBs, Bool.and_eq_true] at h
    obtain ⟨v, r1, r2⟩ := pB_ok h.1
    obtain ⟨vs, r3, r4⟩ := pBs_ok h.2
    exact ⟨v :: vs, .cons r1 r3, fun H => by simp only [RepPs]; exact ⟨v, vs, rfl, r2 H, r4 H⟩⟩
end
/-- the module's name x stands for the data d -/
def cB (K : PySem.W.Frag) (x : Str) (d : P) : Bool := match PySem.W.nsIn K mainGlobals x with
  | some (some u) => pB K d u
  | _ => false
theorem cB_ok {K : PySem.W.Frag} {mg : Str → Option Value} {h : Heap} {x : Str} {d : P} (X : K.In h) (G : h.Ns mainGlobals mg) (c : cB K x d = true) : Cst ⟨K, mg⟩ x (.p d) := by
  unfold cB at c
  split at c
  · rename_i u e
    obtain ⟨v, r1, r2⟩ := pB_ok c
    exact ⟨v, u, PySem.W.mg_of X G e, r1, fun μ H => by simpa only [Rep] using r2 H⟩
  · cases c
/-- what a name of the top is asked for: data, or a builtin -/
inductive CK where
  | p : P → CK
  | b : String → CK
def cK (K : PySem.W.Frag) (x : Str) : CK → Bool
  | .p d => cB K x d
  | .b id => match PySem.W.nsIn K mainGlobals x with
    | some (some (.builtin j)) => decide (j = id)
    | _ => false
theorem cK_b {K : PySem.W.Frag} {mg : Str → Option Value} {h : Heap} {x : Str} {id : String} (X : K.In h) (G : h.Ns mainGlobals mg) (c : cK K x (.b id) = true) : mg x = some (.builtin id) := by
  unfold cK at c
  dsimp only at c
  split at c
  · rename_i j e
    have e2 : j = id := by simpa using c
    subst e2
    exact PySem.W.mg_of X G e
  · cases c
abbrev AlX : Type := He.AlD × Bool
def obsX (fa : List He.Fa) (fn : List He.DefD) (cs : List (Str × CK)) (K : PySem.W.Frag) : AlX := (He.obsD fa fn K, cs.all fun q => cK K q.1 q.2)
def valX (fn : List He.DefD) : AlX := (He.valD fn, true)
def obsXG (n : Nat) (fa : List He.Fa) (fn : List He.DefD) (cs : List (Str × CK)) (g : Addr → Option Obj) : AlX := obsX fa fn cs (He.frG g (He.asD g n))
structure SaysX (fa : List He.Fa) (fn : List He.DefD) (cs : List (Str × CK)) (K : PySem.W.Frag) : Prop where
  d : He.SaysD fa fn K
  c : ∀ q ∈ cs, cK K q.1 q.2 = true
def hookX (n : Nat) (fa : List He.Fa) (fn : List He.DefD) (cs : List (Str × CK)) : PySem.W.Hook where
  α := AlX
  obs := fun s => obsXG n fa fn cs s.heap.get?
  val := fun _ => valX fn
  says := fun _ h => ∃ K : PySem.W.Frag, K.In h ∧ SaysX fa fn cs K
  of := fun _ _ e => ⟨_, He.frG_in, congrArg (fun z : AlX => z.1) e, List.all_eq_true.mp (congrArg (fun z : AlX => z.2) e)⟩
  keeps := fun _ _ _ ⟨K, hK, c⟩ k => ⟨K, PySem.W.Frag.In.keeps hK k, c⟩
theorem obsXG_eq {n : Nat} {fa : List He.Fa} {fn : List He.DefD} {cs : List (Str × CK)} {g : Addr → Option Obj} {s : Shared} (h : ∀ a, g a = s.heap.get? a) : obsXG n fa fn cs g = (hookX n fa fn cs).obs s := by
  have e : g = s.heap.get? := funext h
  rw [e] <;> rfl
theorem exc_C {K : PySem.W.Frag} {mg : Str → Option Value} {h : Heap} {x : Str} (X : K.In h) (G : h.Ns mainGlobals mg) (c : (He.Fa.exc x).ok K = true) (g : (He.Fa.glo x).ok K = true) : ExC ⟨K, mg⟩ x (He.ga K x) := by
  obtain ⟨h1, h2, h3, h4⟩ := He.exc_ok c
  exact ⟨He.glo_ok X G g, h1, h2, h3, h4⟩
theorem exm_C {K : PySem.W.Frag} {mg : Str → Option Value} {h : Heap} {x y : Str} {b : Bool} (X : K.In h) (G : h.Ns mainGlobals mg) (c : (He.Fa.exm x y b).ok K = true) (g : (He.Fa.glo x).ok K = true) : PySem.W.exmOne K (cval ⟨K, mg⟩ x) (.ref (He.ga K y)) = some b := by
  have e : cval ⟨K, mg⟩ x = .ref (He.ga K x) := by
    unfold cval
    show (mg x).getD .none = _
    rw [He.glo_ok X G g]
    rfl
  rw [e]
  exact He.exm_ok c
theorem hu_r {A : Around} {k : Nat} (r : Room k A) : A.units + 120 < cLine := by have := r.un; omega
theorem df_mk {P : Program} {w : World} {K : PySem.W.Frag} {mg : Str → Option Value} {base : Heap} {x qual : Str} {params : Arguments} {body : List Stmt} {scope : Scope} {f : Addr} {fd : FuncData} {ps : List Str} {F : List D → Store → R D} {k : Nat}
    (Fu : FunD K x qual params body scope [] [] f fd) (g : mg x = some (.ref f)) (b : Binds K fd ps []) (h : FnOk P w K mg base (L2.CX P w) k f fd ps (spD ⟨K, mg⟩ F ps.length)) : Df P w K mg base x ps F k := ⟨f, fd, g, Fu.kp, b, h⟩
/-- the law's end: F tells True of every script -/
theorem law_spec {K : PySem.W.Frag} {mg : Str → Option Value} {F : List D → Store → R D} {n : Nat} (hF : ∀ ns : List Int, ns.length ≤ n → ∃ M, F [.ref 0] [.ro (ns.map fun i => .p (.int i))] = .ok (.p (.bl true)) M) :
    ∀ (H : Hp) (a : Addr) (ns : List Int), ns.length ≤ n → Only H → SqL K H a (ns.map V.int) → spD ⟨K, mg⟩ F 1 [.ref a] H (fun v _ => v = .bl true) fun _ _ _ => False := by
  intro H a ns hl hO hq
  have ha : RoL K H a (ns.map V.int) := by
    rcases hq with (hq | hq) | hq
    · rcases hO a with z | ⟨o, xs, z⟩
      · rw [z] at hq; cases hq
      · rw [z] at hq; cases hq
    · exact .inl hq
    · exact .inr hq
  obtain ⟨M, e⟩ := hF ns hl
  refine ⟨[a], [.ref 0], [.ro (ns.map fun i => .p (.int i))], rfl, .cons (Rep.ref.mpr ⟨a, rfl, rfl⟩) .nil, ?_, ?_⟩
  · refine ⟨rfl, fun i j b x y h1 h2 h3 h4 => ?_, fun l b ob h1 h2 => ?_⟩
    · cases i with
      | zero => cases h3; exact .inl rfl
      | succ i => simp at h3
    cases l with
    | zero =>
      cases h1
      cases h2
      refine ⟨ns.map V.int, ha, ?_⟩
      clear ha hl e hq
      induction ns with
      | nil => exact .nil
      | cons x xs ih => exact .cons (Rep.int.mpr rfl) ih
    | succ l => simp at h1
  · rw [e]
    exact fun μ' v H' _ _ _ r => Rep.bl.mp r
/-- a law: F gives the written part, the function object, the promise over every base; what leaves may hang on the world -/
theorem walk_ofXE {l : PySem.W.OpenLaw} {n k : Nat} {q : Program} {loose : List Str} {XP : (Str → Option Value) → Heap → Prop} {YP : World → Heap → Prop} {d : DefRec} {CX : World → CXT} {x : Str}
    (hn : l.most = some n) (hn2 : n ≤ sizeLine) (hdf : d.params.defaults = []) (hr : Room k callerA)
    (F : ∀ (w : World) (mg : Str → Option Value) (fa : Addr) (h : Heap), YP w h → h.Ns mainGlobals mg → mg d.name = some (.ref fa) →
      ∃ (K : PySem.W.Frag) (fd : FuncData) (sp : Sp), K.In h ∧ (∀ (s : Shared) (u : Value), BindsTo s fd ⟨[u], []⟩ [(x, u)]) ∧
        (∀ (H : Hp) (a : Addr) (ns : List Int), ns.length ≤ n → Only H → SqL K H a (ns.map V.int) → sp [.ref a] H (fun v _ => v = .bl true) fun _ _ _ => False) ∧
        ∀ base : Heap, K.In base → base.Ns mainGlobals mg → FnOk l.prog w K mg base (CX w) k fa fd [x] sp)
    (hCX : ∀ (w : World) (H : Hp) (s : Shared) (e : Value) (s' : Shared), CX w [] H s (fun _ _ _ => False) e s' → False) :
    PySem.W.WalkO q loose XP YP l.row.toRowW d [] (fun f vs => PySem.call f vs) := by
  refine Att.attach_call hn hdf fun w s₀ s₁ mg mb fa o pm cd doc a vs ns G Y ho hd hcd hmg hobj hints hlen hg => ?_
  obtain ⟨K, fd, sp, KX, hb, hsp, hF⟩ := F w mg fa _ Y G.T.g hmg
  exact law_call KX G.T.g G.T.b G.T.builtins G.T.nolimit hg hobj hints (Nat.le_trans hlen hn2) hr hF hb (fun H hO hS => hsp H a ns hlen hO hS) fun H e s' => hCX w H s₁ e s'
theorem bi_len : bootBuiltins "len" = some (.builtin "len") := by decide +kernel
theorem bi_abs : bootBuiltins "abs" = some (.builtin "abs") := by decide +kernel
theorem bi_min : bootBuiltins "min" = some (.builtin "min") := by decide +kernel
theorem bi_max : bootBuiltins "max" = some (.builtin "max") := by decide +kernel
theorem bi_sorted : bootBuiltins "sorted" = some (.builtin "sorted") := by decide +kernel
theorem bi_int : bootBuiltins "int" = some (.type "int") := by decide +kernel
theorem bi_bool : bootBuiltins "bool" = some (.type "bool") := by decide +kernel
theorem bi_str : bootBuiltins "str" = some (.type "str") := by decide +kernel
theorem bi_list : bootBuiltins "list" = some (.type "list") := by decide +kernel
theorem bi_tuple : bootBuiltins "tuple" = some (.type "tuple") := by decide +kernel
theorem bi_dict : bootBuiltins "dict" = some (.type "dict") := by decide +kernel
/-- F is told of a body's reading -/
def Ref (n N : Nat) (F : List D → Store → R D) (m : RS) : Prop := ∀ ds M, ds.length = n → Grows M (F ds M) ∧ Tells (F ds M) (bodyR (m (startD N ds) M))
/-- nothing is promised -/
theorem fnok_no {P : Program} {w : World} {K : PySem.W.Frag} {mg : Str → Option Value} {base : Heap} {G : Gm} {k n : Nat} {f : Addr} {fd : FuncData} {ps : List Str} : FnOk P w K mg base (L2.CX P w) k f fd ps (spD G (fun _ _ => .no) n) :=
  ⟨fun _ _ _ _ ⟨_, _, _, _, _, _, z⟩ => z.elim, fun _ _ _ _ _ _ _ _ _ _ _ _ _ ⟨_, _, _, _, _, _, z⟩ => z.elim⟩
end Fl

set_option Elab.async false
set_option linter.all false
set_option maxRecDepth 100000
/-! Fl, part S: readings are reckoned by simp; loops by folds and invariants. -/
namespace Fl
open PySem PySem.Spec L2
set_option autoImplicit false
def oK {α β : Type} (o : Option (α × β)) (f : α → β → Out) : Out := match o with
  | some (a, b) => f a b
  | none => .no
@[simp] theorem oK_some {α β : Type} (a : α) (b : β) (f : α → β → Out) : oK (some (a, b)) f = f a b := (rfl)
@[simp] theorem oK_none {α β : Type} (f : α → β → Out) : oK (none : Option (α × β)) f = .no := (rfl)
section
variable {ρ : Env} {M : Store}
@[simp] theorem e_var (i : Nat) : rVar i ρ M = (match ρ[i]? with
  | some (some d) => .ok d M
  | _ => .no) := (rfl)
@[simp] theorem e_C (d : D) : rC d ρ M = .ok d M := (rfl)
@[simp] theorem e_bin (op fa fb) : rBin op fa fb ρ M = (fa ρ M).bind fun x M1 => (fb ρ M1).bind fun y M2 => ofO (op x y M2) := (rfl)
@[simp] theorem e_un (op fa) : rUn op fa ρ M = (fa ρ M).bind fun x M1 => ofO (op x M1) := (rfl)
def tsK (o : Option Bool) (M : Store) : R Bool := match o with
  | some b => .ok b M
  | none => .no
@[simp] theorem tsK_some (b : Bool) : tsK (some b) M = .ok b M := (rfl)
@[simp] theorem e_tst (t fa) : rTst t fa ρ M = (fa ρ M).bind fun x M1 => tsK (t x M1) M1 := (rfl)
@[simp] theorem e_tand (f g : RT) : rtAnd f g ρ M = (f ρ M).bind fun b M1 => if b = true then g ρ M1 else .ok false M1 := by
  unfold rtAnd; congr; funext b M1; cases b <;> simp
@[simp] theorem e_tor (f g : RT) : rtOr f g ρ M = (f ρ M).bind fun b M1 => if b = true then .ok true M1 else g ρ M1 := by
  unfold rtOr; congr; funext b M1; cases b <;> simp
@[simp] theorem e_tnot (f : RT) : rtNot f ρ M = (f ρ M).bind fun b M1 => .ok (!b) M1 := (rfl)
@[simp] theorem e_not (f : RT) : rNot f ρ M = (f ρ M).bind fun b M1 => .ok (.p (.bl (!b))) M1 := (rfl)
@[simp] theorem e_if (t : RT) (f g : RE) : rIf t f g ρ M = (t ρ M).bind fun b M1 => if b = true then f ρ M1 else g ρ M1 := by
  unfold rIf; congr; funext b M1; cases b <;> simp
def chK (o : Option (D × Store)) (f : Store → R D) : R D := match o with
  | some (.p (.bl true), M3) => f M3
  | some (.p (.bl false), M3) => .ok (.p (.bl false)) M3
  | _ => .no
@[simp] theorem chK_bl (b : Bool) (M : Store) (f : Store → R D) : chK (some (.p (.bl b), M)) f = if b = true then f M else .ok (.p (.bl false)) M := by cases b <;> rfl
@[simp] theorem e_chain (op op' fa fb fc) : rChain op op' fa fb fc ρ M = (fa ρ M).bind fun x M1 => (fb ρ M1).bind fun y M2 => chK (op x y M2) fun M3 => (fc ρ M3).bind fun z M4 => ofO (op' y z M4) := (rfl)
def trK {α : Type} (o : Option Bool) (f g : R α) : R α := match o with
  | some true => f
  | some false => g
  | none => .no
@[simp] theorem trK_some {α : Type} (b : Bool) (f g : R α) : trK (some b) f g = if b = true then f else g := by cases b <;> rfl
@[simp] theorem e_and (f g : RE) : rAnd f g ρ M = (f ρ M).bind fun x M1 => trK (truthD x M1) (g ρ M1) (.ok x M1) := (rfl)
@[simp] theorem e_or (f g : RE) : rOr f g ρ M = (f ρ M).bind fun x M1 => trK (truthD x M1) (.ok x M1) (g ρ M1) := (rfl)
@[simp] theorem e_nil : rNil ρ M = .ok [] M := (rfl)
@[simp] theorem e_cons (f g) : rCons f g ρ M = (f ρ M).bind fun x M1 => (g ρ M1).bind fun xs M2 => .ok (x :: xs) M2 := (rfl)
@[simp] theorem e_tup (f) : rTup f ρ M = (f ρ M).bind fun xs M1 => if xs.length ≤ 1000 then .ok (mkTup xs) M1 else .no := (rfl)
@[simp] theorem e_lst (f) : rLst f ρ M = (f ρ M).bind fun xs M1 => if xs.length ≤ 1000 then .ok (.ref M1.length) (M1 ++ [.lst xs]) else .no := (rfl)
@[simp] theorem e_CB (op f) : rCB op f ρ M = (f ρ M).bind fun xs M1 => ofO (op xs M1) := (rfl)
@[simp] theorem e_isa (T f) : rIsa T f ρ M = (f ρ M).bind fun x M1 => ofO (cIsa T x M1) := (rfl)
@[simp] theorem e_nopart : rNoPart ρ M = .ok none M := (rfl)
@[simp] theorem e_part (f) : rPart f ρ M = (f ρ M).bind fun x M1 => ofO (asPart x M1) := (rfl)
@[simp] theorem e_sl (f lo hi) : rSl f lo hi ρ M = (f ρ M).bind fun x M1 => (lo ρ M1).bind fun a M2 => (hi ρ M2).bind fun b M3 => ofO (dSl x a b M3) := (rfl)
@[simp] theorem e_rev (f) : rRev f ρ M = (f ρ M).bind fun x M1 => ofO (dRev x M1) := (rfl)
@[simp] theorem e_LM (op fo fs) : rLM op fo fs ρ M = (fo ρ M).bind fun x M1 => if isLst x M1 = true then (fs ρ M1).bind fun xs M2 => ofO (op x xs M2) else .no := by
  unfold rLM; congr; funext x M1; cases isLst x M1 <;> simp
@[simp] theorem e_LM0 (op fo) : rLM0 op fo ρ M = (fo ρ M).bind fun x M1 => if isLst x M1 = true then ofO (op x [] M1) else .no := by
  unfold rLM0; congr; funext x M1; cases isLst x M1 <;> simp
@[simp] theorem e_callN (n F fs) : rCallN n F fs ρ M = (fs ρ M).bind fun ds M1 => if ds.length = n then F ds M1 else .no := (rfl)
@[simp] theorem e_callK (n m ix p F fa fk) : rCallK n m ix p F fa fk ρ M = (fa ρ M).bind fun ds M1 => (fk ρ M1).bind fun zs M2 => if ds.length = n ∧ zs.length = m ∧ (pick ix ds zs).length = p then F (pick ix ds zs) M2 else .no := (rfl)
@[simp] theorem e_skip : rSkip ρ M = .nx ρ M := (rfl)
@[simp] theorem e_seq (a b) : rSeq a b ρ M = (a ρ M).bind b := (rfl)
@[simp] theorem e_expr (f) : rExpr f ρ M = (f ρ M).out ρ fun _ M1 => .nx ρ M1 := (rfl)
@[simp] theorem e_ret (f) : rRet f ρ M = (f ρ M).out ρ fun d M1 => .rt d M1 := (rfl)
@[simp] theorem e_retN : rRetN ρ M = .rt (.p .non) M := (rfl)
@[simp] theorem e_break : rBreak ρ M = .bk ρ M := (rfl)
@[simp] theorem e_cont : rCont ρ M = .ct ρ M := (rfl)
@[simp] theorem e_ifS (t a b) : rIfS t a b ρ M = (t ρ M).out ρ fun k M1 => if k = true then a ρ M1 else b ρ M1 := by
  unfold rIfS; congr; funext k M1; cases k <;> simp
@[simp] theorem e_set (i f) : rSet i f ρ M = (f ρ M).out ρ fun d M1 => .nx (ρ.set i (some d)) M1 := (rfl)
@[simp] theorem e_asg (f g) : rAsg f g ρ M = (f ρ M).out ρ fun d M1 => oK (g d ρ M1) fun ρ2 M2 => .nx ρ2 M2 := by
  unfold rAsg; congr; funext ds M1; rcases g ds ρ M1 with _ | ⟨a, b⟩ <;> rfl
@[simp] theorem e_par (i j f) : rPar i j f ρ M = (f ρ M).out ρ fun ds M1 => match ds with
  | [x, y] => .nx ((ρ.set i (some x)).set j (some y)) M1
  | _ => .no := (rfl)
@[simp] theorem e_gNm (i d) : gNm i d ρ M = some (ρ.set i (some d), M) := (rfl)
@[simp] theorem e_gNi : gNi [] ρ M = some (ρ, M) := (rfl)
@[simp] theorem e_gCo (g gs d r) : gCo g gs (d :: r) ρ M = (match g d ρ M with
  | some (ρ1, M1) => gs r ρ1 M1
  | none => none) := (rfl)
@[simp] theorem e_gTp (n gs d) : gTp n gs d ρ M = (match tupD d with
  | some xs => if xs.length = n then gs xs ρ M else none
  | none => none) := (rfl)
def vK (o : Option (Option D)) (f : D → Out) : Out := match o with
  | some (some x) => f x
  | _ => .no
@[simp] theorem vK_some (x : D) (f : D → Out) : vK (some (some x)) f = f x := (rfl)
@[simp] theorem e_aug (i op f) : rAug i op f ρ M = vK ρ[i]? fun x => (f ρ M).out ρ fun y M1 => oK (op x y M1) fun z M2 => .nx (ρ.set i (some z)) M2 := by
  unfold rAug; rcases ρ[i]? with _ | _ | x
  · rfl
  · rfl
  · show (f ρ M).out ρ _ = (f ρ M).out ρ _; congr; funext y M1; rcases op x y M1 with _ | ⟨a, b⟩ <;> rfl
@[simp] theorem e_forR (rg f g body) : rForR rg f g body ρ M = (f ρ M).out ρ fun ds M1 => oK (rg ds) fun lo n => forL none g body (intsD lo n) ρ M1 := by
  unfold rForR; congr; funext ds M1; rcases rg ds with _ | ⟨a, b⟩ <;> rfl
@[simp] theorem e_for (f g body) : rFor f g body ρ M = (f ρ M).out ρ fun d M1 => oK (walkD d M1) fun xs k => forL k g body xs ρ M1 := by
  unfold rFor; congr; funext ds M1; rcases walkD ds M1 with _ | ⟨a, b⟩ <;> rfl
@[simp] theorem e_raise (c) : rRaise c ρ M = .ex c none ρ M := (rfl)
@[simp] theorem e_try (exs a b) : rTry exs a b ρ M = (match a ρ M with
  | .ex c fs ρ1 M1 => (match exs.lookup c with
    | some true => noEx (b ρ1 M1)
    | some false => .ex c fs ρ1 M1
    | none => .no)
  | o => o) := (rfl)
@[simp] theorem e_noEx_nx : noEx (.nx ρ M) = .nx ρ M := (rfl)
@[simp] theorem e_noEx_rt (d) : noEx (.rt d M) = .rt d M := (rfl)
@[simp] theorem e_body_nx : bodyR (.nx ρ M) = .ok (.p .non) M := (rfl)
@[simp] theorem e_body_rt (d) : bodyR (.rt d M) = .ok d M := (rfl)
@[simp] theorem e_body_ex (c fs) : bodyR (.ex c fs ρ M) = .ex c fs M := (rfl)
@[simp] theorem e_body_no : bodyR .no = .no := (rfl)
end
@[simp] theorem mkTup_nil : mkTup [] = .p (.tup []) := (rfl)
theorem mkTup_map (xs : List P) : mkTup (xs.map D.p) = .p (.tup xs) := by unfold mkTup; rw [allP_map]
@[simp] theorem mkTup_1 (a : P) : mkTup [.p a] = .p (.tup [a]) := (rfl)
@[simp] theorem mkTup_2 (a b : P) : mkTup [.p a, .p b] = .p (.tup [a, b]) := (rfl)
@[simp] theorem mkTup_3 (a b c : P) : mkTup [.p a, .p b, .p c] = .p (.tup [a, b, c]) := (rfl)
@[simp] theorem mkTup_4 (a b c d : P) : mkTup [.p a, .p b, .p c, .p d] = .p (.tup [a, b, c, d]) := (rfl)
@[simp] theorem mkTup_5 (a b c d e : P) : mkTup [.p a, .p b, .p c, .p d, .p e] = .p (.tup [a, b, c, d, e]) := (rfl)
@[simp] theorem mkTup_8 (a b c d e f g h : P) : mkTup [.p a, .p b, .p c, .p d, .p e, .p f, .p g, .p h] = .p (.tup [a, b, c, d, e, f, g, h]) := (rfl)
@[simp] theorem tells_no (s : R D) : Tells .no s := trivial
@[simp] theorem grows_no (M : Store) : Grows M .no := trivial
@[simp] theorem tells_same (d : D) (M : Store) : Tells (.ok d M) (.ok d M) := ⟨[], by simp, .inl rfl⟩
@[simp] theorem tells_same_ex (c : Str) (M : Store) : Tells (.ex c none M) (.ex c none M) := ⟨rfl, [], by simp, .inl rfl⟩
@[simp] theorem grows_ok (M M' : Store) (d : D) : Grows M (.ok d M') = (M.length ≤ M'.length) := (rfl)
@[simp] theorem grows_ex (M M' : Store) (c fs) : Grows M (.ex c fs M') = (M.length ≤ M'.length) := (rfl)
@[simp] theorem start_n0 (n : Nat) (ds : List D) : startD n ds = ds.map some ++ List.replicate (n - ds.length) none := (rfl)
/-! ### values -/
@[simp] theorem v_asBool (b M) : asBool (.p (.bl b)) M = some b := (rfl)
@[simp] theorem v_tr_bl (b M) : truthD (.p (.bl b)) M = some b := (rfl)
@[simp] theorem v_tr_int (b M) : truthD (.p (.int b)) M = some (b != 0) := (rfl)
@[simp] theorem v_tr_non (M) : truthD (.p .non) M = some false := (rfl)
@[simp] theorem v_tr_tup (xs M) : truthD (.p (.tup xs)) M = some (!xs.isEmpty) := (rfl)
@[simp] theorem v_add (i j M) : dAdd (.p (.int i)) (.p (.int j)) M = some (.p (.int (i + j)), M) := by simp [dAdd]
@[simp] theorem v_sub (i j M) : dSub (.p (.int i)) (.p (.int j)) M = some (.p (.int (i - j)), M) := (rfl)
theorem v_mul (i j M) (h : mulOk i j) : dMul (.p (.int i)) (.p (.int j)) M = some (.p (.int (i * j)), M) := by simp [dMul, h]
theorem v_div (i j M) (h : divOk j) : dDiv (.p (.int i)) (.p (.int j)) M = some (.p (.int (i / j)), M) := by simp [dDiv, h]
theorem v_mod (i j M) (h : 0 < j) : dMod (.p (.int i)) (.p (.int j)) M = some (.p (.int (i % j)), M) := by
  have h0 : j ≠ 0 := by omega
  simp [dMod, h0, Int.fmod_eq_emod_of_nonneg _ (Int.le_of_lt h)]
theorem v_pow (i j M) (h : 0 ≤ j ∧ j ≤ 1000000 ∧ i.natAbs < 2 ^ 64) : dPow (.p (.int i)) (.p (.int j)) M = some (.p (.int (i ^ j.toNat)), M) := by simp [dPow, h]
@[simp] theorem v_neg (i M) : dNeg (.p (.int i)) M = some (.p (.int (-i)), M) := (rfl)
@[simp] theorem v_lt (i j M) : dLt (.p (.int i)) (.p (.int j)) M = some (.p (.bl (decide (i < j))), M) := (rfl)
@[simp] theorem v_le (i j M) : dLe (.p (.int i)) (.p (.int j)) M = some (.p (.bl (decide (i ≤ j))), M) := (rfl)
@[simp] theorem v_gt (i j M) : dGt (.p (.int i)) (.p (.int j)) M = some (.p (.bl (decide (j < i))), M) := (rfl)
@[simp] theorem v_ge (i j M) : dGe (.p (.int i)) (.p (.int j)) M = some (.p (.bl (decide (j ≤ i))), M) := (rfl)
@[simp] theorem v_eq_i (x : P) (j M) : dEq (.p x) (.p (.int j)) M = some (.p (.bl (P.eqv x (.int j))), M) := by simp [dEq, dOk, P.depth]
@[simp] theorem v_ne_i (x : P) (j M) : dNe (.p x) (.p (.int j)) M = some (.p (.bl (!P.eqv x (.int j))), M) := by simp [dNe, dOk, P.depth]
@[simp] theorem v_eq_s (x : P) (j M) : dEq (.p x) (.p (.str j)) M = some (.p (.bl (P.eqv x (.str j))), M) := by simp [dEq, dOk, P.depth]
@[simp] theorem v_ne_s (x : P) (j M) : dNe (.p x) (.p (.str j)) M = some (.p (.bl (!P.eqv x (.str j))), M) := by simp [dNe, dOk, P.depth]
@[simp] theorem v_eqv_ii (i j) : P.eqv (.int i) (.int j) = decide (i = j) := by rw [P.eqv]; exact (Bool.eq_iff_iff.mpr (by simp))
@[simp] theorem v_eqv_ss (i j : Str) : P.eqv (.str i) (.str j) = decide (i = j) := by rw [P.eqv]; exact (Bool.eq_iff_iff.mpr (by simp))
@[simp] theorem v_eqv_bb (i j) : P.eqv (.bl i) (.bl j) = decide (i = j) := by rw [P.eqv]; exact (Bool.eq_iff_iff.mpr (by simp))
@[simp] theorem v_isN (x : D) (M) : dIsN x (.p .non) M = some (.p (.bl (isNon x)), M) := (rfl)
@[simp] theorem v_notN (x : D) (M) : dNotN x (.p .non) M = some (.p (.bl (!isNon x)), M) := (rfl)
@[simp] theorem v_isNon : isNon (.p .non) = true := (rfl)
@[simp] theorem v_isNon_i (i) : isNon (.p (.int i)) = false := (rfl)
@[simp] theorem v_isNon_t (i) : isNon (.p (.tup i)) = false := (rfl)
@[simp] theorem v_isNon_s (i) : isNon (.p (.str i)) = false := (rfl)
@[simp] theorem v_isNon_b (i) : isNon (.p (.bl i)) = false := (rfl)
@[simp] theorem v_int (i M) : cInt [.p (.int i)] M = some (.p (.int i), M) := (rfl)
@[simp] theorem v_int_b (b M) : cInt [.p (.bl b)] M = some (.p (.int (if b then 1 else 0)), M) := (rfl)
@[simp] theorem v_abs (i M) : cAbs [.p (.int i)] M = some (.p (.int (if i < 0 then -i else i)), M) := (rfl)
@[simp] theorem v_max (i j M) : cMax2 [.p (.int i), .p (.int j)] M = some (.p (.int (max i j)), M) := by
  have e : (if j > i then j else i) = max i j := by omega
  simp only [cMax2, e]
@[simp] theorem v_min (i j M) : cMin2 [.p (.int i), .p (.int j)] M = some (.p (.int (min i j)), M) := by
  have e : (if j < i then j else i) = min i j := by omega
  simp only [cMin2, e]
@[simp] theorem v_isa_i (T : String) (i M) : cIsa T (.p (.int i)) M = some (.p (.bl (isaT "int" T)), M) := (rfl)
@[simp] theorem v_isa_b (T : String) (i M) : cIsa T (.p (.bl i)) M = some (.p (.bl (isaT "bool" T)), M) := (rfl)
@[simp] theorem v_isa_s (T : String) (i M) : cIsa T (.p (.str i)) M = some (.p (.bl (isaT "str" T)), M) := (rfl)
@[simp] theorem v_isa_t (T : String) (i M) : cIsa T (.p (.tup i)) M = some (.p (.bl (isaT "tuple" T)), M) := (rfl)
@[simp] theorem v_isa_n (T : String) (M) : cIsa T (.p .non) M = some (.p (.bl (isaT "NoneType" T)), M) := (rfl)
@[simp] theorem v_len_t (xs M) : cLen [.p (.tup xs)] M = some (.p (.int (xs.length : Int)), M) := (rfl)
@[simp] theorem v_ix_t (xs : List P) (i M) : dIx (.p (.tup xs)) (.p (.int i)) M = (atI (xs.map D.p) i).map fun x => (x, M) := by
  simp only [dIx, rowD]
@[simp] theorem v_tupD (xs : List P) : tupD (.p (.tup xs)) = some (xs.map D.p) := (rfl)
@[simp] theorem v_walk_t (xs : List P) (M) : walkD (.p (.tup xs)) M = some (xs.map D.p, none) := (rfl)
theorem atI_map {α β : Type} (f : α → β) (xs : List α) (i : Int) : atI (xs.map f) i = (atI xs i).map f := by
  unfold atI
  rw [List.length_map]
  cases ixN xs.length i with
  | none => rfl
  | some j => simp
/-! ### loops -/
theorem forL_fold {σ : Type} {k : Option (Nat × O)} {g : RG} {body : RS} (st : σ → Env × Store) (f : σ → D → σ) (I : σ → Prop) : ∀ (xs : List D) (s : σ), I s → (∀ s, I s → chk k (st s).2) →
    (∀ s x, x ∈ xs → I s → I (f s x) ∧ ∃ ρ1 M1, g x (st s).1 (st s).2 = some (ρ1, M1) ∧ (body ρ1 M1 = .nx (st (f s x)).1 (st (f s x)).2 ∨ body ρ1 M1 = .ct (st (f s x)).1 (st (f s x)).2)) →
    forL k g body xs (st s).1 (st s).2 = .nx (st (xs.foldl f s)).1 (st (xs.foldl f s)).2 ∧ I (xs.foldl f s)
  | [], s, hs, hc, h => by
    refine ⟨?_, hs⟩
    unfold forL
    rw [if_pos (hc s hs)]
    rfl
  | x :: xs, s, hs, hc, h => by
    obtain ⟨h1, ρ1, M1, h2, h3⟩ := h s x List.mem_cons_self hs
    have ih := forL_fold st f I xs (f s x) h1 hc fun s y hy => h s y (List.mem_cons_of_mem _ hy)
    refine ⟨?_, ih.2⟩
    unfold forL
    rw [if_pos (hc s hs), h2]
    rcases h3 with h3 | h3
    · simp only [h3]; exact ih.1
    · simp only [h3]; exact ih.1
theorem forL_inv {k : Option (Nat × O)} {g : RG} {body : RS} (xs : List D) (I : Nat → Env → Store → Prop) (hc : ∀ i ρ M, I i ρ M → chk k M)
    (h : ∀ i x ρ M, xs[i]? = some x → I i ρ M → ∃ ρ1 M1 ρ2 M2, g x ρ M = some (ρ1, M1) ∧ (body ρ1 M1 = .nx ρ2 M2 ∨ body ρ1 M1 = .ct ρ2 M2) ∧ I (i + 1) ρ2 M2) :
    ∀ {ρ M}, I 0 ρ M → ∃ ρ' M', forL k g body xs ρ M = .nx ρ' M' ∧ I xs.length ρ' M' := by
  have go : ∀ (n i : Nat) (ρ M), n = xs.length - i → i ≤ xs.length → I i ρ M → ∃ ρ' M', forL k g body (xs.drop i) ρ M = .nx ρ' M' ∧ I xs.length ρ' M' := by
    intro n
    induction n with
    | zero =>
      intro i ρ M hn hi hI
      have e : i = xs.length := by omega
      subst e
      refine ⟨ρ, M, ?_, hI⟩
      rw [List.drop_length]
      unfold forL
      rw [if_pos (hc _ _ _ hI)]
    | succ n ih =>
      intro i ρ M hn hi hI
      have hlt : i < xs.length := by omega
      obtain ⟨ρ1, M1, ρ2, M2, h1, h2, h3⟩ := h i xs[i] ρ M (List.getElem?_eq_getElem hlt) hI
      obtain ⟨ρ', M', h4, h5⟩ := ih (i + 1) ρ2 M2 (by omega) (by omega) h3
      refine ⟨ρ', M', ?_, h5⟩
      rw [List.drop_eq_getElem_cons hlt]
      unfold forL
      rw [if_pos (hc _ _ _ hI), h1]
      rcases h2 with h2 | h2
      · simp only [h2]; exact h4
      · simp only [h2]; exact h4
  intro ρ M hI
  exact go _ 0 ρ M rfl (Nat.zero_le _) hI
/-- some turn may return -/
theorem forL_find {k : Option (Nat × O)} {g : RG} {body : RS} (xs : List D) (I : Nat → Env → Store → Prop) (Q : Out → Prop) (hc : ∀ i ρ M, I i ρ M → chk k M)
    (h : ∀ i x ρ M, xs[i]? = some x → I i ρ M → ∃ ρ1 M1, g x ρ M = some (ρ1, M1) ∧ ((∃ ρ2 M2, (body ρ1 M1 = .nx ρ2 M2 ∨ body ρ1 M1 = .ct ρ2 M2) ∧ I (i + 1) ρ2 M2) ∨ (∃ ρ2 M2, body ρ1 M1 = .bk ρ2 M2 ∧ Q (.nx ρ2 M2)) ∨ (∃ d M2, body ρ1 M1 = .rt d M2 ∧ Q (.rt d M2)) ∨ ∃ c fs ρ2 M2, body ρ1 M1 = .ex c fs ρ2 M2 ∧ Q (.ex c fs ρ2 M2)))
    (hd : ∀ ρ M, I xs.length ρ M → Q (.nx ρ M)) : ∀ {ρ M}, I 0 ρ M → Q (forL k g body xs ρ M) := by
  have go : ∀ (n i : Nat) (ρ M), n = xs.length - i → i ≤ xs.length → I i ρ M → Q (forL k g body (xs.drop i) ρ M) := by
    intro n
    induction n with
    | zero =>
      intro i ρ M hn hi hI
      have e : i = xs.length := by omega
      subst e
      rw [List.drop_length]
      unfold forL
      rw [if_pos (hc _ _ _ hI)]
      exact hd _ _ hI
    | succ n ih =>
      intro i ρ M hn hi hI
      have hlt : i < xs.length := by omega
      obtain ⟨ρ1, M1, h1, h2⟩ := h i xs[i] ρ M (List.getElem?_eq_getElem hlt) hI
      rw [List.drop_eq_getElem_cons hlt]
      unfold forL
      rw [if_pos (hc _ _ _ hI), h1]
      rcases h2 with ⟨ρ2, M2, h2, h3⟩ | ⟨ρ2, M2, h2, h3⟩ | ⟨d, M2, h2, h3⟩ | ⟨c, fs, ρ2, M2, h2, h3⟩
      · have ih' := ih (i + 1) ρ2 M2 (by omega) (by omega) h3
        rcases h2 with h2 | h2
        · simp only [h2]; exact ih'
        · simp only [h2]; exact ih'
      · simp only [h2]; exact h3
      · simp only [h2]; exact h3
      · simp only [h2]; exact h3
  intro ρ M hI
  exact go _ 0 ρ M rfl (Nat.zero_le _) hI
/-- a def that is told by its own reading -/
def tellOk (M : Store) (r : R D) : R D := match r with
  | .ok d M' => if M.length ≤ M'.length then .ok d M' else .no
  | .ex c none M' => if M.length ≤ M'.length then .ex c none M' else .no
  | _ => .no
def selfF (N : Nat) (m : RS) : List D → Store → R D := fun ds M => tellOk M (bodyR (m (startD N ds) M))
theorem ref_self (n N : Nat) (m : RS) : Ref n N (selfF N m) m := by
  intro ds M _
  unfold selfF tellOk
  split
  · rename_i d M' e
    split
    · rename_i h
      exact ⟨h, by rw [e]; exact tells_same d M'⟩
    · exact ⟨trivial, trivial⟩
  · rename_i c M' e
    split
    · rename_i h
      exact ⟨h, by rw [e]; exact tells_same_ex c M'⟩
    · exact ⟨trivial, trivial⟩
  · exact ⟨trivial, trivial⟩
theorem selfF_ok {N : Nat} {m : RS} {ds : List D} {M M' : Store} {d : D} (h : bodyR (m (startD N ds) M) = .ok d M') (hl : M.length ≤ M'.length) : selfF N m ds M = .ok d M' := by
  unfold selfF tellOk
  rw [h]
  exact if_pos hl
theorem selfF_ex {N : Nat} {m : RS} {ds : List D} {M M' : Store} {c : Str} (h : bodyR (m (startD N ds) M) = .ex c none M') (hl : M.length ≤ M'.length) : selfF N m ds M = .ex c none M' := by
  unfold selfF tellOk
  rw [h]
  exact if_pos hl
/-- an answer that does not shrink the store -/
def Gr (M : Store) (r : R D) : Prop := match r with
  | .ok _ M' => M.length ≤ M'.length
  | .ex _ none M' => M.length ≤ M'.length
  | _ => False
theorem selfF_eq {N : Nat} {m : RS} {ds : List D} {M : Store} {r : R D} (h : bodyR (m (startD N ds) M) = r) (hl : Gr M r) : selfF N m ds M = r := by
  unfold selfF tellOk
  rw [h]
  match r, hl with
  | .ok _ M', hl => exact if_pos hl
  | .ex _ none M', hl => exact if_pos hl
theorem mul_small {i j : Int} (h1 : -(2 ^ 64) < j) (h2 : j < 2 ^ 64) : mulOk i j := .inl (.inr ⟨h1, h2⟩)
theorem mul_small' {i j : Int} (h1 : -(2 ^ 64) < i) (h2 : i < 2 ^ 64) : mulOk i j := .inl (.inl ⟨h1, h2⟩)
theorem div_small {j : Int} (h1 : 0 < j) (h2 : j < 2 ^ 1000) : divOk j := wide_div (i := 0) h1 (b := 1000) (by have h3 : (j.natAbs : Int) = j := Int.natAbs_of_nonneg (Int.le_of_lt h1); exact Int.ofNat_lt.mp (by rw [h3]; exact_mod_cast h2)) (by decide) (by decide)
theorem rng1_ok (j : Int) (h0 : 0 ≤ j) (h : j ≤ 1000000000) : rng1 [.p (.int j)] = some (0, j.toNat) := by
  have h1 : -(2 ^ 62) ≤ j ∧ j < 2 ^ 62 := by
    constructor
    · have : (-(2 ^ 62) : Int) ≤ 0 := by decide
      omega
    · have : (1000000000 : Int) < 2 ^ 62 := by decide
      omega
  unfold rng1
  exact if_pos h1
theorem rng2_ok (i j : Int) (h0 : -1000000000 ≤ i) (h1 : i ≤ 1000000000) (h2 : -1000000000 ≤ j) (h3 : j ≤ 1000000000) : rng2 [.p (.int i), .p (.int j)] = some (i, (j - i).toNat) := by
  have a : (-(2 ^ 62) : Int) ≤ -1000000000 := by decide
  have b : (1000000000 : Int) < 2 ^ 62 := by decide
  have h : -(2 ^ 62) ≤ i ∧ i < 2 ^ 62 ∧ -(2 ^ 62) ≤ j ∧ j < 2 ^ 62 := ⟨by omega, by omega, by omega, by omega⟩
  unfold rng2
  exact if_pos h
theorem rng1_len (n : Nat) (h : n ≤ 1000000) : rng1 [.p (.int (n : Int))] = some (0, n) := by
  have e := rng1_ok (n : Int) (by omega) (by omega)
  simpa using e
section
variable {P : Program} {w : World} {K : PySem.W.Frag} {mg : Str → Option Value} {base : Heap}
/-- `fn_D`, with the way out told -/
theorem fn_E {x qual : Str} {params : Arguments} {body : List Stmt} {scope : Scope} {dvs : List V} {kws : List (Str × V)} {f : Addr} {fd : FuncData} {N ps : List Str} {k : Nat} {m : RS} {F : List D → Store → R D}
    (Fu : FunD K x qual params body scope dvs kws f fd) (S : FnScope N ps scope)
    (hb : ∀ (cdv : Value) (A : Around) (outer : List PySem.Env) (s : Shared) (H : Hp) (E : XK), Room k (A.deeper (PyProof.Rows.envOfC qual scope s.heap.objs.size f cdv)) →
      PassesOwn (model P w) (cxOf (L2.CX P w) P w K mg base N qual scope f cdv A outer s H E).A (cxOf (L2.CX P w) P w K mg base N qual scope f cdv A outer s H E).env (cxOf (L2.CX P w) P w K mg base N qual scope f cdv A outer s H E).xe →
      ∀ W : WX, Takes (cxOf (L2.CX P w) P w K mg base N qual scope f cdv A outer s H E) W → PSs (cxOf (L2.CX P w) P w K mg base N qual scope f cdv A outer s H E) body (tS ⟨K, mg⟩ W m))
    (hF : ∀ ds M, ds.length = ps.length → Grows M (F ds M) ∧ Tells (F ds M) (bodyR (m (startD N.length ds) M))) :
    FnOk P w K mg base (L2.CX P w) (k + 1) f fd ps (spD ⟨K, mg⟩ F ps.length) :=
  fn_D Fu S (fun cdv A outer s H E hr W tk => hb cdv A outer s H E hr (passes_of rfl) W tk) hF
end
end Fl

set_option Elab.async false
set_option linter.all false
set_option maxRecDepth 100000
/-! Fl, part T: builtins under a name of the top; comb and gcd. -/
namespace Fl
open PySem PySem.Spec L2
set_option autoImplicit false
section
variable {X : Cx} {W : WX} {e : Expr} {es : List Expr} {fs : RA} {p pos : Pos}
theorem pe_callM {x : Str} {t : TA} {id : String} {r : List V → Hp → VK → Prop} (hc : CallR X (.builtin id) r) (hg : Gl X x) (hm : X.mg x = some (.builtin id)) (ha : PA X (e :: es) t)
    (hdb : (x == ("__debug__" : Str)) = false := by decide) (he : starEach (e :: es) X.env = (false, eval e X.env) :: starEach es X.env := by rfl) (hpl : (backTo pos (starEach es X.env)).any (·.1) = false := by rfl) :
    PE X (.Call (.Name x p) (e :: es) [] pos) (tCB r t) :=
  ⟨fun pins s σ H Q I h => wpAny_Call_Name_kw (ld_glob I hg hm (PyProof.Rows.callWith_builtin1 (thn (ha.run pos pins s σ H (fun vs H1 => r vs H1 Q) I h) fun us s1 x => match x with
    | ⟨vs, H1, I1, r1, q1⟩ => hc pins s1 σ H1 vs us Q I1 r1 q1) he hpl) hdb)⟩
theorem i_callM {x : Str} {id : String} {op r} (hc : CallR X (.builtin id) r) (hd : CallD (gm X) op r) (hg : Gl X x) (hm : X.mg x = some (.builtin id)) (ha : PA X (e :: es) (tA (gm X) W fs))
    (hdb : (x == ("__debug__" : Str)) = false := by decide) (he : starEach (e :: es) X.env = (false, eval e X.env) :: starEach es X.env := by rfl) (hpl : (backTo pos (starEach es X.env)).any (·.1) = false := by rfl) :
    PE X (.Call (.Name x p) (e :: es) [] pos) (tE (gm X) W (rCB op fs)) :=
  PEimp (pe_callM hc hg hm ha hdb he hpl) fun _ _ _ h => cb_in hd h
theorem vals2 {a b : Int} {us : List Value} (h : Vals [.int a, .int b] us) : ∃ t u, us = [.int a t, .int b u] := by
  cases h with
  | cons h1 h2 =>
    cases h2 with
    | cons h2 h3 =>
      cases h3
      obtain ⟨t, rfl⟩ := h1
      obtain ⟨u, rfl⟩ := h2
      exact ⟨t, u, rfl⟩
def combOk (a b : Int) : Prop := 0 ≤ a ∧ 0 ≤ b ∧ a < 2 ^ 64 ∧ (b ≤ 9000 ∨ a ≤ 18000)
theorem call_comb : CallR X (.builtin "math.comb") (fun xs H Q => ∃ a b, xs = [.int a, .int b] ∧ combOk a b ∧ Q (.int (PySem.W.mcComb a b)) H) := by
  intro pins s σ H xs us Q I vs h
  obtain ⟨a, b, rfl, ⟨h1, h2, h3, h4⟩, hq⟩ := h
  obtain ⟨t, u, rfl⟩ := vals2 vs
  exact PySem.W.mc_comb h1 h2 h3 h4 fun _ => ⟨.int _, H, I.tok _, ⟨_, rfl⟩, hq⟩
theorem call_gcd : CallR X (.builtin "math.gcd") (fun xs H Q => ∃ a b, xs = [.int a, .int b] ∧ Q (.int (Nat.gcd a.natAbs b.natAbs : Nat)) H) := by
  intro pins s σ H xs us Q I vs h
  obtain ⟨a, b, rfl, hq⟩ := h
  obtain ⟨t, u, rfl⟩ := vals2 vs
  exact PySem.W.mg_gcd fun _ => ⟨.int _, H, I.tok _, ⟨_, rfl⟩, hq⟩
end
open Classical in
noncomputable def cComb : List D → Store → Option (D × Store)
  | [.p (.int a), .p (.int b)], M => if combOk a b then some (.p (.int (PySem.W.mcComb a b)), M) else none
  | _, _ => none
def cGcd : List D → Store → Option (D × Store)
  | [.p (.int a), .p (.int b)], M => some (.p (.int (Nat.gcd a.natAbs b.natAbs : Nat)), M)
  | _, _ => none
section
variable {G : Gm}
theorem d_comb : CallD G cComb (fun xs H Q => ∃ a b, xs = [.int a, .int b] ∧ combOk a b ∧ Q (.int (PySem.W.mcComb a b)) H) := by
  intro μ H M xs vs Q d M' S r q k
  unfold cComb at q
  split at q
  · split at q
    · rename_i h
      cases q
      obtain ⟨v, u, rfl, r1, r2⟩ := r.inv2
      rw [Rep.int] at r1 r2
      subst r1 r2
      exact ⟨_, _, rfl, h, k μ _ H (.refl _) (List.prefix_refl _) S (Rep.int.mpr rfl)⟩
    · cases q
  · cases q
theorem d_gcd : CallD G cGcd (fun xs H Q => ∃ a b, xs = [.int a, .int b] ∧ Q (.int (Nat.gcd a.natAbs b.natAbs : Nat)) H) := by
  intro μ H M xs vs Q d M' S r q k
  unfold cGcd at q
  split at q
  · cases q
    obtain ⟨v, u, rfl, r1, r2⟩ := r.inv2
    rw [Rep.int] at r1 r2
    subst r1 r2
    exact ⟨_, _, rfl, k μ _ H (.refl _) (List.prefix_refl _) S (Rep.int.mpr rfl)⟩
  · cases q
end
theorem v_comb (a b : Int) (M : Store) (h : combOk a b) : cComb [.p (.int a), .p (.int b)] M = some (.p (.int (PySem.W.mcComb a b)), M) := by simp [cComb, h]
@[simp] theorem v_gcd (a b : Int) (M : Store) : cGcd [.p (.int a), .p (.int b)] M = some (.p (.int (Nat.gcd a.natAbs b.natAbs : Nat)), M) := (rfl)
/-! ### o[i] = v, o a list -/
def kOk (r : R D) (f : D → Store → Option (Env × Store)) : Option (Env × Store) := match r with
  | .ok d M => f d M
  | _ => none
@[simp] theorem kOk_ok (d M) (f : D → Store → Option (Env × Store)) : kOk (.ok d M) f = f d M := (rfl)
def gSu (fo fi : RE) (op : D → D → D → Store → Option Store) : RG := fun v ρ M => kOk (fo ρ M) fun o M1 => kOk (fi ρ M1) fun i M2 => (op o i v M2).map fun M3 => (ρ, M3)
def setD : D → D → D → Store → Option Store
  | .ref l, .p (.int k), v, M => (match M[l]? with
    | some (.lst xs) => (ixN xs.length k).map fun j => M.set l (.lst (xs.set j v))
    | _ => none)
  | _, _, _, _ => none
section
variable {X : Cx} {W : WX} {o i : Expr} {fo fi : RE} {pos : Pos}
theorem g_sub (ho : PE X o (tE (gm X) W fo)) (hi : PE X i (tE (gm X) W fi)) (hs : ∀ (v : Value), assign (o.Subscript i pos) X.env v = (do
      let ov ← holding [v] (eval o X.env)
      let iv ← holding [v, ov] (eval i X.env)
      standAt pos
      holding [v, ov, iv] (setItem ov iv v)
      release [v, ov, iv] []) := by exact fun _ => rfl) : PG X (.Subscript o i pos) (tG (gm X) (gSu fo fi setD)) :=
  PGimp (pg_sub ho hi set_list hs) fun v σ H Q h => by
    obtain ⟨μ, ρ, M, d, hE, hS, r, hF⟩ := h
    have hF : FinG (gm X) μ H Q (kOk (fo ρ M) fun o M1 => kOk (fi ρ M1) fun i M2 => (setD o i d M2).map fun M3 => (ρ, M3)) := hF
    refine ⟨μ, ρ, M, hE, hS, ?_⟩
    cases q : fo ρ M with
    | no => rw [q] at hF; exact hF.elim
    | ex c fs M1 => rw [q] at hF; exact hF.elim
    | ok x M1 =>
      rw [q, kOk_ok] at hF
      intro μ1 vo H1 e1 p1 s1 r1
      refine ⟨μ1, ρ, M1, hE.ext e1 p1, s1, ?_⟩
      cases q2 : fi ρ M1 with
      | no => rw [q2] at hF; exact hF.elim
      | ex c fs M2 => rw [q2] at hF; exact hF.elim
      | ok y M2 =>
        rw [q2, kOk_ok] at hF
        intro μ2 vi H2 e2 p2 s2 r2
        unfold setD at hF
        split at hF
        · rename_i l k
          split at hF
          · rename_i xs e
            cases q3 : ixN xs.length k with
            | none => rw [q3] at hF; exact hF.elim
            | some j =>
              rw [q3] at hF
              obtain ⟨a, h1, rfl⟩ := Rep.ref.mp (r1.ext e2 p2)
              rw [Rep.int] at r2
              subst r2
              obtain ⟨ws, h2, h3⟩ := s2.lst h1 e
              have rv := (r.ext e1 p1).ext e2 p2
              refine ⟨a, ws, k, j, rfl, rfl, h2, by rw [← h3.length]; exact q3, ?_⟩
              have ex := Ext.lst (o := .lst (ws.set j v)) h2
              exact hF μ2 σ _ ((e1.trans e2).trans ex) (p1.trans p2) ((hE.ext e1 p1).ext (e2.trans ex) p2) (s2.put h1 e rfl rfl (fun ob w z => by rw [h2] at z; cases z) ex ⟨_, upd_same, (h3.set j rv).ext ex (List.prefix_refl _)⟩)
          · exact hF.elim
        · exact hF.elim
end
@[simp] theorem e_gSu (fo fi : RE) (op) (v ρ M) : gSu fo fi op v ρ M = kOk (fo ρ M) fun o M1 => kOk (fi ρ M1) fun i M2 => (op o i v M2).map fun M3 => (ρ, M3) := (rfl)
/-- a while with a measure -/
theorem rWh_find {c : RT} {b : RS} (I : Nat → Env → Store → Prop) (Q : Out → Prop)
    (h : ∀ n ρ M, I n ρ M → (∃ M1, c ρ M = .ok false M1 ∧ Q (.nx ρ M1)) ∨ (∃ M1, c ρ M = .ok true M1 ∧ ((∃ ρ2 M2 m, (b ρ M1 = .nx ρ2 M2 ∨ b ρ M1 = .ct ρ2 M2) ∧ m < n ∧ I m ρ2 M2) ∨ (∃ ρ2 M2, b ρ M1 = .bk ρ2 M2 ∧ Q (.nx ρ2 M2)) ∨ ∃ d M2, b ρ M1 = .rt d M2 ∧ Q (.rt d M2)))) :
    ∀ n ρ M, I n ρ M → Q (rWh c b ρ M) := by
  have go : ∀ n ρ M, I n ρ M → ∃ k o, whileN c b k ρ M = some o ∧ Q o := by
    intro n
    induction n using Nat.strongRecOn with
    | ind n ih =>
      intro ρ M hI
      rcases h n ρ M hI with ⟨M1, h1, h2⟩ | ⟨M1, h1, ⟨ρ2, M2, m, h2, h3, h4⟩ | ⟨ρ2, M2, h2, h3⟩ | ⟨d, M2, h2, h3⟩⟩
      · exact ⟨1, _, by unfold whileN; rw [h1], h2⟩
      · obtain ⟨k, o, h5, h6⟩ := ih m h3 ρ2 M2 h4
        refine ⟨k + 1, o, ?_, h6⟩
        unfold whileN
        rcases h2 with h2 | h2
        · simp only [h1, h2]; exact h5
        · simp only [h1, h2]; exact h5
      · exact ⟨1, _, by unfold whileN; simp only [h1, h2], h3⟩
      · exact ⟨1, _, by unfold whileN; simp only [h1, h2], h3⟩
  intro n ρ M hI
  obtain ⟨k, o, h1, h2⟩ := go n ρ M hI
  rw [rWh_of h1]
  exact h2
/-- small enough to be multiplied -/
def Sm (i : Int) : Prop := ∃ k : Nat, k ≤ 20000 ∧ i.natAbs < 2 ^ k
theorem Sm.log {i : Int} (h : Sm i) : i.natAbs.log2 ≤ 20000 := by
  obtain ⟨k, hk, h⟩ := h
  by_cases e : i.natAbs = 0
  · rw [e]; simp
  · have := (Nat.log2_lt e).mpr h
    omega
theorem Sm.mulOk {i j : Int} (h1 : Sm i) (h2 : Sm j) : mulOk i j := .inr (by have := h1.log; have := h2.log; omega)
theorem Sm.divOk {j : Int} (k : Nat) (h : 0 < j) (hk : k ≤ 9000) (h2 : j.natAbs < 2 ^ k) : divOk j := ⟨h, (Nat.log2_lt (by omega)).mpr (Nat.lt_of_lt_of_le h2 (Nat.pow_le_pow_right (by decide) hk))⟩
theorem Sm.le {i j : Int} (h : Sm j) (k : i.natAbs ≤ j.natAbs) : Sm i := by
  obtain ⟨n, hn, h⟩ := h
  exact ⟨n, hn, by omega⟩
end Fl

set_option Elab.async false
set_option linter.all false
set_option maxRecDepth 100000
/-! Fl, part U: walks in general; list comprehensions. -/
namespace Fl
open PySem PySem.Spec L2
set_option autoImplicit false
/-- J walks xs; k: what must stand -/
def Wk (G : Gm) (J : It) (k : Option (Nat × O)) (xs : List D) (μ : List Addr) (H : Hp) : Prop :=
  ∃ B : List Addr → Hp → Prop, (∀ μ μ' H H', Ext H H' → μ <+: μ' → B μ H → B μ' H') ∧
    (∀ i μ H M, i < xs.length → SR G μ H M → B μ H → chk k M → J.go i H) ∧ (∀ μ H M, SR G μ H M → B μ H → chk k M → J.stop xs.length H) ∧
    (∀ i μ H M v H', i < xs.length → SR G μ H M → B μ H → chk k M → J.yld i H v H' → ∃ d, xs[i]? = some d ∧ Ext H H' ∧ SR G μ H' M ∧ Rep G μ H' d v) ∧ B μ H
abbrev RW := RX (List D × Option (Nat × O))
abbrev tW (G : Gm) (W : WX) (f : RW) : TI := fun σ H R => tX G (fun μ H (a : List D × Option (Nat × O)) J => Wk G J a.2 a.1 μ H) W f σ H R
theorem wk_tup {G : Gm} {a : Addr} {xs : List D} {vs : List V} {μ : List Addr} {H : Hp} (h1 : SqT G.K H a vs) (h2 : Reps G μ H xs vs) : Wk G (Itt G.K a) none xs μ H := by
  refine ⟨fun μ H => SqT G.K H a vs ∧ Reps G μ H xs vs, fun _ _ _ _ e p z => ⟨e.sqt z.1, z.2.ext e p⟩, ?_, ?_, ?_, h1, h2⟩
  · rintro i μ H M hi _ ⟨z1, z2⟩ _
    obtain ⟨w, hw, _⟩ := z2.get (List.getElem?_eq_getElem hi)
    exact ⟨vs, w, z1, hw⟩
  · rintro μ H M _ ⟨z1, z2⟩ _
    exact ⟨vs, z1, by rw [z2.len_eq]; exact Nat.le_refl _⟩
  · rintro i μ H M w H' hi S ⟨z1, z2⟩ _ ⟨rfl, y⟩
    obtain ⟨w', hw, r⟩ := z2.get (List.getElem?_eq_getElem hi)
    have := (y vs z1).symm.trans hw
    cases this
    exact ⟨_, List.getElem?_eq_getElem hi, .refl _, S, r⟩
theorem wk_lst {G : Gm} {a : Addr} {l : Nat} {o : O} {xs : List D} {μ : List Addr} {H : Hp} (ha : μ[l]? = some a) (hk : o = .lst xs ∨ o = .ro xs) : Wk G (Itl G.K a) (some (l, o)) xs μ H := by
  refine ⟨fun μ H => μ[l]? = some a, fun _ _ _ _ e p z => pre_get p z, ?_, ?_, ?_, ha⟩
  · rintro i μ H M hi S z c
    obtain ⟨vs, z1, z2⟩ := SR.list_at S z c hk
    obtain ⟨w, hw, _⟩ := z2.get (List.getElem?_eq_getElem hi)
    exact ⟨vs, w, z1, hw⟩
  · rintro μ H M S z c
    obtain ⟨vs, z1, z2⟩ := SR.list_at S z c hk
    exact ⟨vs, z1, by rw [z2.len_eq]; exact Nat.le_refl _⟩
  · rintro i μ H M w H' hi S z c ⟨rfl, y⟩
    obtain ⟨vs, z1, z2⟩ := SR.list_at S z c hk
    obtain ⟨w', hw, r⟩ := z2.get (List.getElem?_eq_getElem hi)
    have := (y vs z1).symm.trans hw
    cases this
    exact ⟨_, List.getElem?_eq_getElem hi, .refl _, S, r⟩
theorem wk_rng {G : Gm} {lo : Int} {n : Nat} {μ : List Addr} {H : Hp} : Wk G (Itr lo n) none (intsD lo n) μ H := by
  refine ⟨fun _ _ => True, fun _ _ _ _ _ _ z => z, ?_, ?_, ?_, trivial⟩
  · rintro i μ H M hi _ _ _
    rw [intsD_len] at hi
    exact hi
  · rintro μ H M _ _ _
    rw [intsD_len]
    exact Nat.le_refl _
  · rintro i μ H M w H' hi S _ _ ⟨rfl, rfl⟩
    rw [intsD_len] at hi
    exact ⟨_, intsD_get lo n i hi, .refl _, S, Rep.int.mpr rfl⟩
def ofW : Option (List D × Option (Nat × O)) → Store → R (List D × Option (Nat × O))
  | some q, M => .ok q M
  | none, _ => .no
/-- the walk of a list or a tuple -/
def wRow (f : RE) : RW := fun ρ M => (f ρ M).bind fun d M1 => ofW (walkD d M1) M1
/-- the walk of a range -/
def wRng (rg : List D → Option (Int × Nat)) (f : RA) : RW := fun ρ M => (f ρ M).bind fun ds M1 => ofW ((rg ds).map fun q => (intsD q.1 q.2, none)) M1
section
variable {X : Cx} {W : WX} {e tg : Expr} {fe : RE} {fs : RA} {pos : Pos}
theorem wi_row (he : PE X e (tE (gm X) W fe)) : PI X tg e (tW (gm X) W (wRow fe)) :=
  PIimp (pi_row he) fun σ H R h => by
    refine (tX.bind (f := fe) (g := fun d ρ M1 => ofW (walkD d M1) M1) (rel := Rep (gm X)) h).mono fun v H1 ⟨μ, ρ, M, d, hE, hS, rd, hF⟩ => ?_
    have hF : Fin (gm X) _ W μ σ H1 R (ofW (walkD d M) M) := hF
    cases q : walkD d M with
    | none => rw [q] at hF; exact hF.elim
    | some p =>
      obtain ⟨xs, k⟩ := p
      rw [q] at hF
      unfold walkD at q
      split at q
      · cases q
        obtain ⟨a, vs, e1, h1, h2⟩ := Rep.ptup.mp rd
        exact ⟨a, e1, .inr ⟨⟨vs, h1⟩, hF μ _ H1 (.refl _) (List.prefix_refl _) hS (wk_tup h1 (Reps.of_P h2))⟩⟩
      · cases q
        obtain ⟨a, vs, e1, h1, h2⟩ := Rep.tup.mp rd
        exact ⟨a, e1, .inr ⟨⟨vs, h1⟩, hF μ _ H1 (.refl _) (List.prefix_refl _) hS (wk_tup h1 h2)⟩⟩
      · obtain ⟨a, ha, e1⟩ := Rep.ref.mp rd
        split at q
        · rename_i ys e2
          cases q
          obtain ⟨vs, z1, z2⟩ := SR.list_at hS ha e2 (.inl rfl)
          exact ⟨a, e1, .inl ⟨⟨vs, z1⟩, hF μ _ H1 (.refl _) (List.prefix_refl _) hS (wk_lst ha (.inl rfl))⟩⟩
        · rename_i ys e2
          cases q
          obtain ⟨vs, z1, z2⟩ := SR.list_at hS ha e2 (.inr rfl)
          exact ⟨a, e1, .inl ⟨⟨vs, z1⟩, hF μ _ H1 (.refl _) (List.prefix_refl _) hS (wk_lst ha (.inr rfl))⟩⟩
        · cases q
      · cases q
end
/-! ### list comprehensions -/
theorem wipe_get (σ : St) (k : Nat) : ∀ vs : List Nat, (L2.wipe σ vs)[k]? = if k ∈ vs ∧ k < σ.length then some none else σ[k]?
  | [] => by simp [L2.wipe]
  | i :: is => by
    have ih := wipe_get σ k is
    have il : (L2.wipe σ is).length = σ.length := L2.wipe_length ..
    unfold L2.wipe
    by_cases e : i = k
    · subst e
      by_cases hk : i < σ.length
      · rw [List.getElem?_set_self (by rw [il]; exact hk), if_pos ⟨List.mem_cons_self, hk⟩]
      · rw [if_neg (fun h => hk h.2), List.getElem?_eq_none (by rw [List.length_set, il]; omega), List.getElem?_eq_none (by omega)]
    · rw [List.getElem?_set_ne e, ih]
      have e' : ¬ k = i := fun z => e z.symm
      simp only [List.mem_cons, e', false_or]
theorem wipe_set (σ : St) (i : Nat) (x : Option V) (vs : List Nat) (h : i ∈ vs) : L2.wipe (σ.set i x) vs = L2.wipe σ vs := by
  apply List.ext_getElem?
  intro k
  rw [wipe_get, wipe_get, List.length_set]
  by_cases e : k ∈ vs ∧ k < σ.length
  · rw [if_pos e, if_pos e]
  · rw [if_neg e, if_neg e]
    by_cases e2 : i = k
    · subst e2
      have : ¬ i < σ.length := fun z => e ⟨h, z⟩
      rw [List.getElem?_eq_none (by rw [List.length_set]; omega), List.getElem?_eq_none (by omega)]
    · rw [List.getElem?_set_ne e2]
def wipeE (ρ : Env) : List Nat → Env
  | [] => ρ
  | i :: is => (wipeE ρ is).set i none
theorem ER.unset {G : Gm} {μ : List Addr} {H : Hp} {ρ : Env} {σ : St} (h : ER G μ H ρ σ) (i : Nat) : ER G μ H (ρ.set i none) (σ.set i none) := by
  refine ⟨by simp [h.len], fun j d hj => ?_⟩
  by_cases e : i = j
  · subst e
    by_cases hl : i < ρ.length
    · rw [List.getElem?_set_self hl] at hj
      cases hj
    · rw [List.getElem?_eq_none (by rw [List.length_set]; omega)] at hj
      cases hj
  · rw [List.getElem?_set_ne e] at hj ⊢
    exact h.at_ j d hj
theorem ER.wipe {G : Gm} {μ : List Addr} {H : Hp} {ρ : Env} {σ : St} (h : ER G μ H ρ σ) : ∀ vs : List Nat, ER G μ H (wipeE ρ vs) (L2.wipe σ vs)
  | [] => h
  | i :: is => by
    unfold wipeE L2.wipe
    exact (ER.wipe h is).unset i
open Classical in
noncomputable def lcL (l : Nat) (k : Option (Nat × O)) (g : RG) (tt : RT) (te : RE) (ρ : Env) : List D → Store → R D
  | [], M => if chk k M then .ok (.ref l) M else .no
  | x :: xs, M => if chk k M then (match g x ρ M with
    | some (ρ1, M1) => (match tt ρ1 M1 with
      | .ok true M2 => (match te ρ1 M2 with
        | .ok y M3 => (match M3[l]? with
          | some (.lst acc) => if acc.length < sizeLine then lcL l k g tt te ρ xs (M3.set l (.lst (acc ++ [y]))) else .no
          | _ => .no)
        | _ => .no)
      | .ok false M2 => lcL l k g tt te ρ xs M2
      | _ => .no)
    | none => .no) else .no
noncomputable def rLC (fw : RW) (g : RG) (tt : RT) (te : RE) (vs : List Nat) : RE := fun ρ M => (fw ρ M).bind fun q M1 => lcL M1.length q.2 g tt te (wipeE ρ vs) q.1 (M1 ++ [.lst []])
/-- the targets of a comprehension: names of its own -/
def Own (G : Gm) (vs : List Nat) (g : RG) (graw : TG) : Prop := ∀ (d : D) (v : V) (μ : List Addr) (H : Hp) (M : Store) (σ : St) (ρ ρ1 : Env) (M1 : Store) (Q : St → Hp → Prop), ER G μ H ρ σ → Rep G μ H d v → g d ρ M = some (ρ1, M1) →
  (∀ σ1, M1 = M → ER G μ H ρ1 σ1 → L2.wipe σ1 vs = L2.wipe σ vs → Q σ1 H) → graw v σ H Q
theorem own_nm {G : Gm} {vs : List Nat} {i : Nat} (h : i ∈ vs) : Own G vs (gNm i) (gName i) := by
  intro d v μ H M σ ρ ρ1 M1 Q hE r e k
  cases e
  exact k _ rfl (hE.set i r) (wipe_set σ i _ vs h)
def W0 : WX := fun _ _ _ _ => False
def rYes : RT := fun _ M => .ok true M
section
variable {X : Cx} {W : WX} {e tg iter elt : Expr} {ifs : List Expr} {scope : Scope} {own : List (Str × Nat)} {fw : RW} {g : RG} {graw : TG} {tt : RT} {te : RE} {pos : Pos}
theorem pts_yes : PTs X [] (tT (gm X) W rYes) :=
  ⟨fun pins s σ H Q I h => pts_nil.run pins s σ H Q I (by
    obtain ⟨μ, ρ, M, hE, hS, hF⟩ := h
    exact hF μ true H (.refl _) (List.prefix_refl _) hS rfl)⟩
theorem lc_in {X : Cx} {W : WX} {fw : RW} {g : RG} {graw : TG} {tt : RT} {te : RE} {vs : List Nat} (ho : Own (gm X) vs g graw) {σ : St} {H : Hp} {Q : VK} (h : tE (gm X) W (rLC fw g tt te vs) σ H Q) :
    tLc (tW (gm X) W fw) graw (tT (gm X) W0 tt) (tE (gm X) W0 te) vs σ H Q := by
  refine (tX.bind (f := fw) (g := fun q ρ M1 => lcL M1.length q.2 g tt te (wipeE ρ vs) q.1 (M1 ++ [.lst []])) (rel := fun μ H (a : List D × Option (Nat × O)) J => Wk (gm X) J a.2 a.1 μ H) h).mono fun J H1 ⟨μ, ρ, M, q, hE, hS, hW, hF⟩ => ?_
  obtain ⟨xs, k⟩ := q
  obtain ⟨B, mono, hgo, hstop, hyld, hB⟩ := hW
  have hF : Fin (gm X) (Rep (gm X)) W μ σ H1 Q (lcL M.length k g tt te (wipeE ρ vs) xs (M ++ [.lst []])) := hF
  intro D hD
  have exD : Ext H1 (upd H1 D (.lst [])) := .new hD
  have hS1 : SR (gm X) (μ ++ [D]) (upd H1 D (.lst [])) (M ++ [.lst []]) := hS.new hD ⟨[], upd_same, .nil⟩
  have hl : (μ ++ [D])[M.length]? = some D := by rw [← hS.len]; simp
  generalize M.length = l at hF hl
  have hchk : ∀ {xs M}, Fin (gm X) (Rep (gm X)) W μ σ H1 Q (lcL l k g tt te (wipeE ρ vs) xs M) → True := fun _ => trivial
  refine ⟨fun i m H => m = xs.length - i ∧ i ≤ xs.length ∧ ∃ μ M, ER (gm X) μ H ρ σ ∧ SR (gm X) μ H M ∧ B μ H ∧ μ[l]? = some D ∧ Fin (gm X) (Rep (gm X)) W μ σ H Q (lcL l k g tt te (wipeE ρ vs) (xs.drop i) M), ⟨_, rfl, Nat.zero_le _, μ ++ [D], M ++ [.lst []], hE.ext exD (List.prefix_append _ _), hS1, mono _ _ _ _ exD (List.prefix_append _ _) hB, hl, (by rw [List.drop_zero]; exact Fin.later exD (List.prefix_append _ _) hF)⟩, ?_⟩
  rintro i m H ⟨rfl, hi, μ, M, hE, hS, hB, hl, hF⟩
  by_cases hlt : i < xs.length
  · rw [List.drop_eq_getElem_cons hlt] at hF
    unfold lcL at hF
    split at hF
    · rename_i hk
      refine .inr ⟨hgo i μ H M hlt hS hB hk, fun H' => (∃ μ M, ER (gm X) μ H' ρ σ ∧ SR (gm X) μ H' M ∧ B μ H' ∧ μ[l]? = some D ∧ Fin (gm X) (Rep (gm X)) W μ σ H' Q (lcL l k g tt te (wipeE ρ vs) (xs.drop (i + 1)) M)), fun H' h => ⟨_, by omega, rfl, hlt, h⟩, ?_⟩
      intro x H2 hy
      obtain ⟨d, hd, ex2, hS2, rd⟩ := hyld i μ H M x H2 hlt hS hB hk hy
      have e0 : d = xs[i] := by
        rw [List.getElem?_eq_getElem hlt] at hd
        exact (Option.some.inj hd).symm
      subst e0
      have hE2 := hE.ext ex2 (List.prefix_refl _)
      have hB2 := mono _ _ _ _ ex2 (List.prefix_refl _) hB
      cases q1 : g xs[i] (wipeE ρ vs) M with
      | none => rw [q1] at hF; exact hF.elim
      | some p =>
        obtain ⟨ρ1, M1⟩ := p
        rw [q1] at hF
        refine ho _ x μ H2 M _ (wipeE ρ vs) ρ1 M1 _ (hE2.wipe vs) rd q1 fun σ2 eM hE3 hw => ⟨hw.trans ?_, ?_⟩
        · apply List.ext_getElem?
          intro k
          rw [wipe_get, wipe_get, L2.wipe_length]
          split
          · rfl
          · rfl
        · subst eM
          refine ⟨μ, ρ1, M1, hE3, hS2, ?_⟩
          cases q2 : tt ρ1 M1 with
          | no => simp only [q2] at hF; exact hF.elim
          | ex c fs M2 => simp only [q2] at hF; exact hF.elim
          | ok b M2 =>
            intro μ3 b' H3 ex3 p3 hS3 eb
            cases eb
            cases b with
            | false =>
              simp only [q2] at hF
              show ∃ μ M, _
              exact ⟨μ3, M2, hE2.ext ex3 p3, hS3, mono _ _ _ _ ex3 p3 hB2, pre_get p3 hl, Fin.later (ex2.trans ex3) p3 hF⟩
            | true =>
              simp only [q2] at hF
              show tE (gm X) W0 te _ _ _
              refine ⟨μ3, ρ1, M2, hE3.ext ex3 p3, hS3, ?_⟩
              cases q3 : te ρ1 M2 with
              | no => simp only [q3] at hF; exact hF.elim
              | ex c fs M3 => simp only [q3] at hF; exact hF.elim
              | ok y M3 =>
                simp only [q3] at hF
                intro μ4 v H4 ex4 p4 hS4 rv
                split at hF
                · rename_i acc eacc
                  split at hF
                  · rename_i hlen
                    have hl4 := pre_get p4 (pre_get p3 hl)
                    obtain ⟨ws, h2, h3⟩ := hS4.lst hl4 eacc
                    have ex := Ext.lst (o := .lst (ws ++ [v])) h2
                    refine ⟨ws, h2, by rw [← h3.length]; exact hlen, μ4, _, hE2.ext (ex3.trans (ex4.trans ex)) (p3.trans p4), hS4.put (o := .lst (acc ++ [y])) hl4 eacc rfl rfl (fun ob w z => by rw [h2] at z; cases z) ex ⟨_, upd_same, (h3.app (.cons rv .nil)).ext ex (List.prefix_refl _)⟩, mono _ _ _ _ (ex3.trans (ex4.trans ex)) (p3.trans p4) hB2, hl4, Fin.later (ex2.trans (ex3.trans (ex4.trans ex))) (p3.trans p4) hF⟩
                  · exact hF.elim
                · exact hF.elim
    · exact hF.elim
  · have e0 : i = xs.length := by omega
    subst e0
    rw [List.drop_length] at hF
    unfold lcL at hF
    split at hF
    · rename_i hk
      exact .inl ⟨hstop μ H M hS hB hk, hF μ _ H (.refl _) (List.prefix_refl _) hS (Rep.ref.mpr ⟨D, hl, rfl⟩)⟩
    · exact hF.elim
theorem i_lc (hc : X.calm = true) (hN : X.N.Nodup) (hi : PI X tg iter (tW (gm X) W fw)) (ok : BlkOk X.N X.env.scope scope own) (ho : Own (gm X) (own.map (·.2)) g graw)
    (hg : ∀ (s : Shared) (H : Hp) (C : Addr) (cl : List (Str × Addr)) (fp : List Addr), PG (X.blk s H scope (compEnvC scope cl C X.env) fp) tg graw)
    (ht : ∀ (s : Shared) (H : Hp) (C : Addr) (cl : List (Str × Addr)) (fp : List Addr), PTs (X.blk s H scope (compEnvC scope cl C X.env) fp) ifs (tT (gm X) W0 tt))
    (he : ∀ (s : Shared) (H : Hp) (C : Addr) (cl : List (Str × Addr)) (fp : List Addr), PE (X.blk s H scope (compEnvC scope cl C X.env) fp) elt (tE (gm X) W0 te))
    (hs : ∀ (x : Value), foldedSetIterable iter X.env x = pure x := by exact fun _ => rfl) :
    PE X (.ListComp elt [{ target := tg, iter := iter, ifs := ifs, is_async := 0 }] scope pos) (tE (gm X) W (rLC fw g tt te (own.map (·.2)))) :=
  PEimp (pe_lc hc hN hi ok hg ht he hs) fun σ H Q h => lc_in ho h
/-- y = [..] -/
theorem s_setLc (i : Nat) {y : Str} {py spos : Pos} (hc : X.calm = true) (hN : X.N.Nodup) (hi : PI X tg iter (tW (gm X) W fw)) (ok : BlkOk X.N X.env.scope scope own) (ho : Own (gm X) (own.map (·.2)) g graw)
    (hg : ∀ (s : Shared) (H : Hp) (C : Addr) (cl : List (Str × Addr)) (fp : List Addr), PG (X.blk s H scope (compEnvC scope cl C X.env) fp) tg graw)
    (ht : ∀ (s : Shared) (H : Hp) (C : Addr) (cl : List (Str × Addr)) (fp : List Addr), PTs (X.blk s H scope (compEnvC scope cl C X.env) fp) ifs (tT (gm X) W0 tt))
    (he : ∀ (s : Shared) (H : Hp) (C : Addr) (cl : List (Str × Addr)) (fp : List Addr), PE (X.blk s H scope (compEnvC scope cl C X.env) fp) elt (tE (gm X) W0 te))
    (hy : X.N[i]? = some y := by rfl) (hl : X.env.scope.names.lookup y = some .local := by rfl)
    (hw : swapsWith (elt.ListComp [{ target := tg, iter := iter, ifs := ifs, is_async := 0 }] scope pos) (some (Expr.Name y py)) spos.line X.env = pure true := by exact sw_true rfl rfl rfl (by decide +kernel))
    (hs : ∀ (x : Value), foldedSetIterable iter X.env x = pure x := by exact fun _ => rfl) :
    PS X (.Assign [.Name y py] (.ListComp elt [{ target := tg, iter := iter, ifs := ifs, is_async := 0 }] scope pos) spos) (tS (gm X) W (rSet i (rLC fw g tt te (own.map (·.2))))) :=
  PSimp (ps_setLc hc hN hy hl hw hi ok hg ht he hs) fun D σ H h => lc_in ho ((tX.out h).mono fun v H1 ⟨μ, ρ, M, x, hE, hS, rx, hF⟩ => hF μ _ H1 (.refl _) (List.prefix_refl _) (hE.set i rx) hS)
end
/-! ### for over any walk -/
noncomputable def rForW (fw : RW) (g : RG) (body : RS) : RS := fun ρ M => (fw ρ M).out ρ fun q M1 => forL q.2 g body q.1 ρ M1
def enumD (xs : List D) : List D := (List.range xs.length).map fun (i : Nat) => mkTup [.p (.int (i : Int)), xs.getD i (.p .non)]
theorem enumD_get {xs : List D} {i : Nat} (h : i < xs.length) : (enumD xs)[i]? = some (mkTup [.p (.int (i : Int)), xs[i]]) := by
  simp [enumD, h]
theorem enumD_len (xs : List D) : (enumD xs).length = xs.length := by simp [enumD]
/-- enumerate of a list -/
def enumK (ds : List D) (M1 : Store) : R (List D × Option (Nat × O)) := match ds with
  | [.ref l] => (match M1[l]? with
    | some (.lst xs) => .ok (enumD xs, some (l, .lst xs)) M1
    | some (.ro xs) => .ok (enumD xs, some (l, .ro xs)) M1
    | _ => .no)
  | _ => .no
def wEnum (f : RA) : RW := fun ρ M => (f ρ M).bind enumK
theorem wk_enum {G : Gm} {a : Addr} {l : Nat} {o : O} {xs : List D} {μ : List Addr} {H : Hp} (ha : μ[l]? = some a) (hk : o = .lst xs ∨ o = .ro xs) : Wk G (Ite G.K a) (some (l, o)) (enumD xs) μ H := by
  refine ⟨fun μ H => μ[l]? = some a, fun _ _ _ _ e p z => pre_get p z, ?_, ?_, ?_, ha⟩
  · rintro i μ H M hi S z c
    rw [enumD_len] at hi
    obtain ⟨vs, z1, z2⟩ := SR.list_at S z c hk
    obtain ⟨w, hw, _⟩ := z2.get (List.getElem?_eq_getElem hi)
    exact ⟨vs, w, z1, hw⟩
  · rintro μ H M S z c
    obtain ⟨vs, z1, z2⟩ := SR.list_at S z c hk
    exact ⟨vs, z1, by rw [enumD_len, z2.len_eq]; exact Nat.le_refl _⟩
  · rintro i μ H M w H' hi S z c ⟨T, x, rfl, hT, rfl, y⟩
    rw [enumD_len] at hi
    obtain ⟨vs, z1, z2⟩ := SR.list_at S z c hk
    obtain ⟨w', hw, r⟩ := z2.get (List.getElem?_eq_getElem hi)
    have := (y vs z1).symm.trans hw
    cases this
    have ex : Ext H (upd H T (.tup [.int i, x])) := .new hT
    exact ⟨_, enumD_get hi, ex, S.grow hT, mkTup_ok (SqT.of upd_same) (.cons (Rep.int.mpr rfl) (.cons (r.ext ex (List.prefix_refl _)) .nil))⟩
section
variable {X : Cx} {W : WX} {e tg : Expr} {fs : RA} {fw : RW} {g : RG} {body : RS} {pos p tpos : Pos} {sb : List Stmt}
theorem s_forW (hp : PassesOwn (model X.prog X.w) X.A X.env X.xe) (hc : X.calm = true) (hi : PI X tg e (tW (gm X) W fw)) (hg : PG X tg (tG (gm X) g)) (hb : PSs X sb (tS (gm X) W body))
    (hs : ∀ x, foldedSetIterable e X.env x = pure x := by intro _; rfl) : PS X (.For tg e sb [] pos) (tS (gm X) W (rForW fw g body)) :=
  PSimp (ps_for hp hc hi hg hb hs) fun D σ H h => by
    refine (tX.out (f := fw) (rel := fun μ H (a : List Fl.D × Option (Nat × O)) J => Wk (gm X) J a.2 a.1 μ H) (g := fun q ρ M => forL q.2 g body q.1 ρ M) h).mono fun J H1 ⟨μ, ρ, M, q, hE, hS, hW, hF⟩ => ?_
    obtain ⟨B, mono, hgo, hstop, hyld, hB⟩ := hW
    exact loop_gen (X := X) (W := W) (J := J) (k := q.2) (xs := q.1) B mono hgo hstop hyld hE hS hB hF
theorem wi_enum {elts : List Expr} {kk : Nat} (hgl : Gl X "enumerate") (hm : X.mg "enumerate" = none) (ha : PA X [e] (tA (gm X) W fs)) (hs1 : starEach [e] X.env = [(false, eval e X.env)] := by rfl) :
    PI X (.Tuple elts kk tpos) (.Call (.Name "enumerate" p) [e] [] pos) (tW (gm X) W (wEnum fs)) :=
  PIimp (pi_enum hgl hm ha hs1) fun σ H R h => by
    refine (tX.bind (f := fs) (g := fun ds ρ M1 => enumK ds M1) (rel := Reps (gm X)) h).mono fun vs H1 ⟨μ, ρ, M, ds, hE, hS, rd, hF⟩ => ?_
    have hF : Fin (gm X) (fun μ H (a : List Fl.D × Option (Nat × O)) J => Wk (gm X) J a.2 a.1 μ H) W μ σ H1 R (enumK ds M) := hF
    unfold enumK at hF
    split at hF
    · rename_i l
      obtain ⟨v, rfl, r⟩ := rd.inv1
      obtain ⟨a, ha, rfl⟩ := Rep.ref.mp r
      split at hF
      · rename_i ys e2
        obtain ⟨vs, z1, z2⟩ := SR.list_at hS ha e2 (.inl rfl)
        exact ⟨a, vs, rfl, z1, hF μ _ H1 (.refl _) (List.prefix_refl _) hS (wk_enum ha (.inl rfl))⟩
      · rename_i ys e2
        obtain ⟨vs, z1, z2⟩ := SR.list_at hS ha e2 (.inr rfl)
        exact ⟨a, vs, rfl, z1, hF μ _ H1 (.refl _) (List.prefix_refl _) hS (wk_enum ha (.inr rfl))⟩
      · exact hF.elim
    · exact hF.elim
theorem wi_rng1 {a : Expr} (hgl : Gl X "range") (hm : X.mg "range" = none) (ha : PA X [a] (tA (gm X) W fs)) (hs1 : starEach [a] X.env = [(false, eval a X.env)] := by rfl) :
    PI X tg (.Call (.Name "range" p) [a] [] pos) (tW (gm X) W (wRng rng1 fs)) :=
  PIimp (pi_range1 hgl hm ha hs1) fun σ H R h => by
    refine (tX.bind (f := fs) (g := fun ds ρ M1 => ofW ((rng1 ds).map fun q => (intsD q.1 q.2, none)) M1) (rel := Reps (gm X)) h).mono fun vs H1 ⟨μ, ρ, M, ds, hE, hS, rd, hF⟩ => ?_
    have hF : Fin (gm X) (fun μ H (a : List Fl.D × Option (Nat × O)) J => Wk (gm X) J a.2 a.1 μ H) W μ σ H1 R (ofW ((rng1 ds).map fun q => (intsD q.1 q.2, none)) M) := hF
    cases q : rng1 ds with
    | none => rw [q] at hF; exact hF.elim
    | some r =>
      obtain ⟨lo, n⟩ := r
      rw [q] at hF
      unfold rng1 at q
      split at q
      · split at q
        · rename_i j hj
          cases q
          obtain ⟨v, rfl, r⟩ := rd.inv1
          rw [Rep.int] at r
          subst r
          exact ⟨j, rfl, hj.1, hj.2, hF μ _ H1 (.refl _) (List.prefix_refl _) hS wk_rng⟩
        · cases q
      · cases q
theorem wi_rng2 {a b : Expr} (hgl : Gl X "range") (hm : X.mg "range" = none) (ha : PA X [a, b] (tA (gm X) W fs)) (hs1 : starEach [a, b] X.env = [(false, eval a X.env), (false, eval b X.env)] := by rfl) (hs2 : starEach [b] X.env = [(false, eval b X.env)] := by rfl) :
    PI X tg (.Call (.Name "range" p) [a, b] [] pos) (tW (gm X) W (wRng rng2 fs)) :=
  PIimp (pi_range2 hgl hm ha hs1 hs2) fun σ H R h => by
    refine (tX.bind (f := fs) (g := fun ds ρ M1 => ofW ((rng2 ds).map fun q => (intsD q.1 q.2, none)) M1) (rel := Reps (gm X)) h).mono fun vs H1 ⟨μ, ρ, M, ds, hE, hS, rd, hF⟩ => ?_
    have hF : Fin (gm X) (fun μ H (a : List Fl.D × Option (Nat × O)) J => Wk (gm X) J a.2 a.1 μ H) W μ σ H1 R (ofW ((rng2 ds).map fun q => (intsD q.1 q.2, none)) M) := hF
    cases q : rng2 ds with
    | none => rw [q] at hF; exact hF.elim
    | some r =>
      obtain ⟨lo, n⟩ := r
      rw [q] at hF
      unfold rng2 at q
      split at q
      · split at q
        · rename_i i j hj
          cases q
          obtain ⟨v, u, rfl, r1, r2⟩ := rd.inv2
          rw [Rep.int] at r1 r2
          subst r1 r2
          exact ⟨_, _, rfl, hj, hF μ _ H1 (.refl _) (List.prefix_refl _) hS wk_rng⟩
        · cases q
      · cases q
end
end Fl

set_option Elab.async false
set_option linter.all false
set_option maxRecDepth 100000
/-! Fl, part V: words within a comprehension; bits; sum. -/
namespace Fl
open PySem PySem.Spec L2
set_option autoImplicit false
theorem tk0 {X : Cx} : Takes X W0 := fun u s' h => by
  obtain ⟨_, _, _, _, _, _, _, _, _, _, _, _, _, _, _, _, z⟩ := h
  exact (z : False).elim
open Classical in
noncomputable def dShl : D → D → Store → Option (D × Store)
  | .p (.int i), .p (.int j), M => if CPow i j then some (.p (.int (i * 2 ^ j.toNat)), M) else none
  | _, _, _ => none
def dShr : D → D → Store → Option (D × Store)
  | .p (.int i), .p (.int j), M => if 0 ≤ j then some (.p (.int (i / 2 ^ j.toNat)), M) else none
  | _, _, _ => none
def dBAnd : D → D → Store → Option (D × Store)
  | .p (.int i), .p (.int j), M => some (.p (.int (Builtin.bitAnd i j)), M)
  | _, _, _ => none
section
variable {G : Gm}
theorem d_shl : OpD G dShl (rI CPow fun i j => .int (i * 2 ^ j.toNat)) := by
  intro μ H M x y v u Q d M' S rx ry q k
  unfold dShl at q
  split at q
  · split at q
    · rename_i h
      cases q
      rw [Rep.int] at rx ry
      exact ⟨_, _, rx, ry, h, k μ _ H (.refl H) (List.prefix_refl _) S (Rep.int.mpr rfl)⟩
    · cases q
  · cases q
theorem d_shr : OpD G dShr (rI (fun x j => 0 ≤ j) fun i j => .int (i / 2 ^ j.toNat)) := by
  intro μ H M x y v u Q d M' S rx ry q k
  unfold dShr at q
  split at q
  · split at q
    · rename_i h
      cases q
      rw [Rep.int] at rx ry
      exact ⟨_, _, rx, ry, h, k μ _ H (.refl H) (List.prefix_refl _) S (Rep.int.mpr rfl)⟩
    · cases q
  · cases q
theorem d_band : OpD G dBAnd (rI0 fun i j => .int (Builtin.bitAnd i j)) := by
  intro μ H M x y v u Q d M' S rx ry q k
  unfold dBAnd at q
  split at q
  · cases q
    rw [Rep.int] at rx ry
    exact ⟨_, _, rx, ry, k μ _ H (.refl H) (List.prefix_refl _) S (Rep.int.mpr rfl)⟩
  · cases q
end
def intsOf : List D → Option (List Int)
  | [] => some []
  | .p (.int i) :: r => (intsOf r).map fun s => i :: s
  | _ :: _ => none
theorem intsOf_eq : ∀ {xs : List D} {ns : List Int}, intsOf xs = some ns → xs = ns.map fun i => .p (.int i)
  | [], ns, h => by cases h; rfl
  | .p (.int i) :: r, ns, h => by
    obtain ⟨s, h1, rfl⟩ := Option.map_eq_some_iff.mp h
    rw [intsOf_eq h1]
    rfl
  | .p .non :: _, _, h => by cases h
  | .p (.bl _) :: _, _, h => by cases h
  | .p (.str _) :: _, _, h => by cases h
  | .p (.tup _) :: _, _, h => by cases h
  | .ref _ :: _, _, h => by cases h
  | .tup _ :: _, _, h => by cases h
  | .gl _ :: _, _, h => by cases h
  | .exv _ :: _, _, h => by cases h
  | .lam _ _ _ :: _, _, h => by cases h
theorem intsOf_map (ns : List Int) : intsOf (ns.map fun i => D.p (.int i)) = some ns := by
  induction ns with
  | nil => rfl
  | cons n ns ih => show (intsOf (ns.map _)).map _ = _; rw [ih]; rfl
theorem Reps.ints {G : Gm} {μ : List Addr} {H : Hp} : ∀ {ns : List Int} {vs : List V}, Reps G μ H (ns.map fun i => D.p (.int i)) vs → vs = ns.map V.int
  | [], vs, h => h.inv0
  | n :: ns, vs, h => by
    obtain ⟨v, ws, rfl, r, t⟩ := h.inv
    rw [Rep.int] at r
    subst r
    rw [Reps.ints t]
    rfl
/-- sum of a list of ints -/
def cSum : List D → Store → Option (D × Store)
  | [.ref l], M => (match M[l]? with
    | some (.lst xs) => (intsOf xs).map fun ns => (.p (.int ns.sum), M)
    | _ => none)
  | _, _ => none
theorem d_sum {G : Gm} : CallD G cSum (rSum G.K) := by
  intro μ H M xs vs Q d M' S r q k
  unfold cSum at q
  split at q
  · rename_i l
    obtain ⟨v, rfl, r1⟩ := r.inv1
    obtain ⟨a, ha, rfl⟩ := Rep.ref.mp r1
    split at q
    · rename_i ys e
      obtain ⟨ns, h1, h2⟩ := Option.map_eq_some_iff.mp q
      cases h2
      obtain ⟨ws, z1, z2⟩ := SR.list_at S ha e (.inl rfl)
      rw [intsOf_eq h1] at z2
      rw [z2.ints] at z1
      exact ⟨a, ns, rfl, z1, k μ _ H (.refl _) (List.prefix_refl _) S (Rep.int.mpr rfl)⟩
    · cases q
  · cases q
theorem bi_sum : bootBuiltins "sum" = some (.builtin "sum") := by decide +kernel
section
variable {X : Cx} {s : Shared} {H : Hp} {scope : Scope} {cenv : PySem.Env} {fp : List Addr} {x : Str} {ps : List Str} {F : List D → Store → R D} {k : Nat} {e : Expr} {es : List Expr} {fs : RA} {p pos : Pos}
/-- a def called within a comprehension -/
theorem i_callI (D : Df X.prog X.w X.K X.mg X.base x ps F k) (hr : Room k X.A) (hg : Gl (X.blk s H scope cenv fp) x) (tk : Takes (X.blk s H scope cenv fp) W0) (ha : PA (X.blk s H scope cenv fp) (e :: es) (tA (gm X) W0 fs)) (hdb : (x == ("__debug__" : Str)) = false := by decide)
    (he : starEach (e :: es) (X.blk s H scope cenv fp).env = (false, eval e (X.blk s H scope cenv fp).env) :: starEach es (X.blk s H scope cenv fp).env := by rfl) (hpl : (backTo pos (starEach es (X.blk s H scope cenv fp).env)).any (·.1) = false := by rfl) :
    PE (X.blk s H scope cenv fp) (.Call (.Name x p) (e :: es) [] pos) (tE (gm X) W0 (rCallN ps.length F fs)) :=
  i_call (X := X.blk s H scope cenv fp) D hr hg tk ha hdb he hpl
end
/-! ### comprehensions whose turns leave the store alone -/
@[simp] theorem e_lc (fw g tt te vs ρ M) : rLC fw g tt te vs ρ M = (fw ρ M).bind fun q M1 => lcL M1.length q.2 g tt te (wipeE ρ vs) q.1 (M1 ++ [.lst []]) := (rfl)
@[simp] theorem e_yes (ρ : Env) (M : Store) : rYes ρ M = .ok true M := (rfl)
@[simp] theorem e_ofW_some (q M) : ofW (some q) M = .ok q M := (rfl)
@[simp] theorem e_wRow (f : RE) (ρ : Env) (M : Store) : wRow f ρ M = (f ρ M).bind fun d M1 => ofW (walkD d M1) M1 := (rfl)
@[simp] theorem e_wRng (rg f) (ρ : Env) (M : Store) : wRng rg f ρ M = (f ρ M).bind fun ds M1 => ofW ((rg ds).map fun q => (intsD q.1 q.2, none)) M1 := (rfl)
@[simp] theorem e_forW (fw g body) (ρ : Env) (M : Store) : rForW fw g body ρ M = (fw ρ M).out ρ fun q M1 => forL q.2 g body q.1 ρ M1 := (rfl)
@[simp] theorem e_wEnum (f : RA) (ρ : Env) (M : Store) : wEnum f ρ M = (f ρ M).bind enumK := (rfl)
theorem set_set {α : Type} (M : List α) (l : Nat) (x y : α) : (M.set l x).set l y = M.set l y := by simp
theorem lc_pure {l : Nat} {k : Option (Nat × O)} {g : RG} {tt : RT} {te : RE} {ρ : Env} (p : D → Bool) (f : D → D) (M : Store) (hl : l < M.length) (hk : ∀ ys, chk k (M.set l (.lst ys))) : ∀ (xs acc : List D), acc.length + xs.length < sizeLine →
    (∀ x ∈ xs, ∀ ys, ∃ ρ1, g x ρ (M.set l (.lst ys)) = some (ρ1, M.set l (.lst ys)) ∧ tt ρ1 (M.set l (.lst ys)) = .ok (p x) (M.set l (.lst ys)) ∧ (p x = true → te ρ1 (M.set l (.lst ys)) = .ok (f x) (M.set l (.lst ys)))) →
    lcL l k g tt te ρ xs (M.set l (.lst acc)) = .ok (.ref l) (M.set l (.lst (acc ++ (xs.filter p).map f)))
  | [], acc, _, _ => by
    unfold lcL
    rw [if_pos (hk acc)]
    simp
  | x :: xs, acc, hlen, h => by
    obtain ⟨ρ1, h1, h2, h3⟩ := h x List.mem_cons_self acc
    have hr : ∀ y ∈ xs, _ := fun y hy => h y (List.mem_cons_of_mem _ hy)
    unfold lcL
    rw [if_pos (hk acc), h1]
    dsimp only
    rw [h2]
    cases q : p x with
    | false =>
      dsimp only
      rw [lc_pure p f M hl hk xs acc (by simp only [List.length_cons] at hlen; omega) hr, List.filter_cons_of_neg (by simp [q])]
    | true =>
      dsimp only
      rw [h3 q]
      dsimp only
      rw [List.getElem?_set_self hl]
      dsimp only
      rw [if_pos (by simp only [List.length_cons] at hlen; omega), set_set, lc_pure p f M hl hk xs (acc ++ [f x]) (by simp only [List.length_cons, List.length_append, List.length_nil] at hlen ⊢; omega) hr, List.filter_cons_of_pos (by simp [q])]
      simp
/-! ### a, b, c = x, y, z -/
def rPar3 (i j l : Nat) (f : RA) : RS := fun ρ M => (f ρ M).out ρ fun ds M1 => match ds with
  | [x, y, z] => .nx (((ρ.set i (some x)).set j (some y)).set l (some z)) M1
  | _ => .no
@[simp] theorem e_par3 (i j l f) (ρ : Env) (M : Store) : rPar3 i j l f ρ M = (f ρ M).out ρ fun ds M1 => match ds with
  | [x, y, z] => .nx (((ρ.set i (some x)).set j (some y)).set l (some z)) M1
  | _ => .no := (rfl)
section
variable {X : Cx} {W : WX} {fs : RA} {pos : Pos}
theorem s_par3 (i j l : Nat) {x y z : Str} {a b c : Expr} {px py pz pt : Pos} {kt k2 : Nat} {pt2 : Pos} (ha : PA X [a, b, c] (tA (gm X) W fs)) (hc : X.calm = true) (hN : X.N.Nodup) (hi : X.N[i]? = some x := by rfl) (hj : X.N[j]? = some y := by rfl) (hl : X.N[l]? = some z := by rfl) (hij : i ≠ j := by decide) (hil : i ≠ l := by decide) (hjl : j ≠ l := by decide)
    (hx : X.env.scope.names.lookup x = some .local := by rfl) (hy : X.env.scope.names.lookup y = some .local := by rfl) (hz : X.env.scope.names.lookup z = some .local := by rfl)
    (hw : swappedStores [.Tuple [.Name x px, .Name y py, .Name z pz] kt pt] (.Tuple [a, b, c] k2 pt2) X.env = pure (some [x, y, z]) := by rfl)
    (hs : swapsWithSole [.Tuple [.Name x px, .Name y py, .Name z pz] kt pt] (.Tuple [a, b, c] k2 pt2) pos.line X.env = pure false := by rfl) :
    PS X (.Assign [.Tuple [.Name x px, .Name y py, .Name z pz] kt pt] (.Tuple [a, b, c] k2 pt2) pos) (tS (gm X) W (rPar3 i j l fs)) :=
  PSimp (ps_par3 hc hN hi hj hl hij hil hjl hx hy hz ha hw hs) fun D σ H h => by
    refine (tX.out (rel := Reps (gm X)) (g := fun ds ρ M1 => match ds with | [x, y, z] => .nx (((ρ.set i (some x)).set j (some y)).set l (some z)) M1 | _ => .no) h).mono fun vs H1 ⟨μ, ρ, M, ds, hE, hS, rx, hF⟩ => ?_
    match ds, rx, hF with
    | [], _, hF => exact hF.elim
    | [_], _, hF => exact hF.elim
    | [_, _], _, hF => exact hF.elim
    | [d1, d2, d3], rx, hF =>
      obtain ⟨v1, w1, rfl, r1, t1⟩ := rx.inv
      obtain ⟨v2, w2, rfl, r2, t2⟩ := t1.inv
      obtain ⟨v3, w3, rfl, r3, t3⟩ := t2.inv
      have e := t3.inv0
      subst e
      exact ⟨v1, v2, v3, rfl, hF μ _ H1 (.refl _) (List.prefix_refl _) (((hE.set i r1).set j r2).set l r3) hS⟩
    | _ :: _ :: _ :: _ :: _, _, hF => exact hF.elim
end
/-! ### isinstance(e, (S, T)) -/
def cIsa2 (T1 T2 : String) : D → Store → Option (D × Store) := fun x M => (tyD x M).map fun t => (.p (.bl (isaT t T1 || isaT t T2)), M)
/-- isinstance(e, (T1, T2)) -/
def rIsa2 (T1 T2 : String) (f : RE) : RE := rUn (cIsa2 T1 T2) f
section
variable {X : Cx} {W : WX}
theorem i_isa2 {e : Expr} {f : RE} {T1 T2 : String} {x1 x2 : Str} {p p1 p2 pt pos : Pos} {kk : Nat} (hT1 : T1 = "int" ∨ T1 = "bool" ∨ T1 = "str" ∨ T1 = "tuple" ∨ T1 = "list" ∨ T1 = "dict") (hT2 : T2 = "int" ∨ T2 = "bool" ∨ T2 = "str" ∨ T2 = "tuple" ∨ T2 = "list" ∨ T2 = "dict") (hg : Gl X "isinstance") (hm : X.mg "isinstance" = none)
    (hg1 : Gl X x1) (hm1 : X.mg x1 = none) (hv1 : bootBuiltins x1 = some (.type T1)) (hg2 : Gl X x2) (hm2 : X.mg x2 = none) (hv2 : bootBuiltins x2 = some (.type T2))
    (ha : PE X e (tE (gm X) W f)) (hn1 : x1 ≠ "__name__" := by decide) (hd1 : (x1 == ("__debug__" : Str)) = false := by decide) (hn2 : x2 ≠ "__name__" := by decide) (hd2 : (x2 == ("__debug__" : Str)) = false := by decide)
    (hs : starEach [e, .Tuple [.Name x1 p1, .Name x2 p2] kk pt] X.env = (false, eval e X.env) :: starEach [.Tuple [.Name x1 p1, .Name x2 p2] kk pt] X.env := by rfl) (hs2 : starEach [.Tuple [.Name x1 p1, .Name x2 p2] kk pt] X.env = (false, eval (.Tuple [.Name x1 p1, .Name x2 p2] kk pt) X.env) :: starEach [] X.env := by rfl)
    (hs3 : starEach [.Name x1 p1, .Name x2 p2] X.env = (false, eval (.Name x1 p1) X.env) :: starEach [.Name x2 p2] X.env := by rfl) (hs4 : starEach [.Name x2 p2] X.env = (false, eval (.Name x2 p2) X.env) :: starEach [] X.env := by rfl)
    (hpl : (backTo pos (starEach [.Tuple [.Name x1 p1, .Name x2 p2] kk pt] X.env)).any (·.1) = false := by rfl) :
    PE X (.Call (.Name "isinstance" p) [e, .Tuple [.Name x1 p1, .Name x2 p2] kk pt] [] pos) (tE (gm X) W (rIsa2 T1 T2 f)) := by
  refine PEimp (pe_callB call_isiT hg hm PyProof.Rows.boot_isinstance (pa_cons ha (pa_cons (pe_tup (pa_cons (pe_bltn (v := .ty T1) hg1 hm1 hv1 rfl hn1 hd1) (pa_cons (pe_bltn (v := .ty T2) hg2 hm2 hv2 rfl hn2 hd2) pa_nil hs4) hs3)) pa_nil hs2) hs) (by decide) (by decide) hs hpl) fun σ H Q h => ?_
  refine (tX.bind h).mono fun v H1 ⟨μ, ρ, M, x, hE, hS, rx, hF⟩ => ?_
  have hF : Fin (gm X) (Rep (gm X)) W μ σ H1 Q (ofO (cIsa2 T1 T2 x M)) := hF
  cases q : tyD x M with
  | none =>
    unfold cIsa2 at hF
    rw [q] at hF
    exact hF.elim
  | some t =>
    unfold cIsa2 at hF
    rw [q] at hF
    refine ⟨(by decide : 2 ≤ sizeLine), fun a ha0 => ?_⟩
    have ex : Ext H1 (upd H1 a (.tup [.ty T1, .ty T2])) := .new ha0
    have hk : PySem.W.kitAny X.K (.type t) [.type T1, .type T2] = some (isaT t T1 || isaT t T2) := by
      have k1 := kit_ty (K := X.K) (isaT_ok t T1 (tyD_names q) hT1)
      have k2 := kit_ty (K := X.K) (isaT_ok t T2 (tyD_names q) hT2)
      simp only [PySem.W.kitAny, k1, k2]
      cases isaT t T1 <;> cases isaT t T2 <;> rfl
    exact ⟨v, a, [.ty T1, .ty T2], .type t, [.type T1, .type T2], _, rfl, upd_same, .cons (.ty T1) (.cons (.ty T2) .nil), tyD_ok (hS.grow ha0) (rx.ext ex (List.prefix_refl _)) q, hk, hF μ _ _ ex (List.prefix_refl _) (hS.grow ha0) (Rep.bl.mpr rfl)⟩
end
@[simp] theorem e_isa2 (T1 T2 f) (ρ : Env) (M : Store) : rIsa2 T1 T2 f ρ M = (f ρ M).bind fun x M1 => ofO (cIsa2 T1 T2 x M1) := (rfl)
/-! ### more methods of lists -/
def mReverse : D → List D → Store → Option (D × Store)
  | .ref l, [], M => (match M[l]? with
    | some (.lst xs) => some (.p .non, M.set l (.lst xs.reverse))
    | _ => none)
  | _, _, _ => none
def mInsert : D → List D → Store → Option (D × Store)
  | .ref l, [.p (.int i), y], M => (match M[l]? with
    | some (.lst xs) => if xs.length < sizeLine ∧ 0 ≤ i ∧ i < 2 ^ 63 then some (.p .non, M.set l (.lst (xs.take i.toNat ++ [y] ++ xs.drop i.toNat))) else none
    | _ => none)
  | _, _, _ => none
section
variable {G : Gm}
theorem d_reverse : MtD G mReverse rReverse := by
  intro μ H M x xs v vs Q d M' S rx rxs q k
  unfold mReverse at q
  split at q
  · rename_i l
    split at q
    · rename_i ys e
      cases q
      obtain ⟨a, h1, rfl⟩ := Rep.ref.mp rx
      obtain ⟨ws, h2, h3⟩ := S.lst h1 e
      have e0 := rxs.inv0
      subst e0
      have ex := Ext.lst (o := .lst ws.reverse) h2
      exact ⟨a, ws, rfl, rfl, h2, k μ _ _ ex (List.prefix_refl _) (S.put (o := .lst ys.reverse) h1 e rfl rfl (fun ob w z => by rw [h2] at z; cases z) ex ⟨_, upd_same, h3.rev.ext ex (List.prefix_refl _)⟩) (Rep.non.mpr rfl)⟩
    · cases q
  · cases q
theorem d_insert : MtD G mInsert (fun x vs H Q => ∃ l xs i y, x = V.ref l ∧ vs = [V.int i, y] ∧ H l = some (HO.lst xs) ∧ xs.length < sizeLine ∧ 0 ≤ i ∧ i < 2 ^ 63 ∧ Q V.non (upd H l (HO.lst (List.take i.toNat xs ++ [y] ++ List.drop i.toNat xs)))) := by
  intro μ H M x xs v vs Q d M' S rx rxs q k
  unfold mInsert at q
  split at q
  · rename_i l i y
    split at q
    · rename_i ys e
      split at q
      · rename_i hl
        cases q
        obtain ⟨a, h1, rfl⟩ := Rep.ref.mp rx
        obtain ⟨ws, h2, h3⟩ := S.lst h1 e
        obtain ⟨w1, w, rfl, r1, h4⟩ := rxs.inv2
        rw [Rep.int] at r1
        subst r1
        have ex := Ext.lst (o := .lst (ws.take i.toNat ++ [w] ++ ws.drop i.toNat)) h2
        exact ⟨a, ws, i, w, rfl, rfl, h2, by rw [← h3.length]; exact hl.1, hl.2.1, hl.2.2, k μ _ _ ex (List.prefix_refl _) (S.put (o := .lst (ys.take i.toNat ++ [y] ++ ys.drop i.toNat)) h1 e rfl rfl (fun ob w z => by rw [h2] at z; cases z) ex ⟨_, upd_same, (((h3.take _).app (.cons h4 .nil)).app (h3.drop _)).ext ex (List.prefix_refl _)⟩) (Rep.non.mpr rfl)⟩
      · cases q
    · cases q
  · cases q
end
/-! ### a comprehension, turn by turn -/
@[simp] theorem lcL_nil {l : Nat} {g : RG} {tt : RT} {te : RE} {ρ : Env} {M : Store} : lcL l none g tt te ρ [] M = .ok (.ref l) M := by
  unfold lcL
  exact if_pos True.intro
/-- one turn that is kept -/
theorem lcL_keep {l : Nat} {k : Option (Nat × O)} {g : RG} {tt : RT} {te : RE} {ρ ρ1 : Env} {x y : D} {xs acc : List D} {M M1 M2 M3 : Store} (hk : chk k M) (h1 : g x ρ M = some (ρ1, M1)) (h2 : tt ρ1 M1 = .ok true M2) (h3 : te ρ1 M2 = .ok y M3) (h4 : M3[l]? = some (.lst acc)) (h5 : acc.length < sizeLine) :
    lcL l k g tt te ρ (x :: xs) M = lcL l k g tt te ρ xs (M3.set l (.lst (acc ++ [y]))) := by
  conv => lhs; unfold lcL
  rw [if_pos hk, h1]
  dsimp only
  rw [h2]
  dsimp only
  rw [h3]
  dsimp only
  rw [h4]
  dsimp only
  rw [if_pos h5]
theorem lcL_skip {l : Nat} {k : Option (Nat × O)} {g : RG} {tt : RT} {te : RE} {ρ ρ1 : Env} {x : D} {xs : List D} {M M1 M2 : Store} (hk : chk k M) (h1 : g x ρ M = some (ρ1, M1)) (h2 : tt ρ1 M1 = .ok false M2) :
    lcL l k g tt te ρ (x :: xs) M = lcL l k g tt te ρ xs M2 := by
  conv => lhs; unfold lcL
  rw [if_pos hk, h1]
  dsimp only
  rw [h2]
/-- an invariant of a comprehension that keeps every item -/
theorem lcL_inv {l : Nat} {k : Option (Nat × O)} {g : RG} {te : RE} {ρ : Env} (xs : List D) (I : Nat → Store → Prop) (hc : ∀ i M, I i M → chk k M)
    (h : ∀ i x M, xs[i]? = some x → I i M → ∃ ρ1 y M3 acc, g x ρ M = some (ρ1, M) ∧ te ρ1 M = .ok y M3 ∧ M3[l]? = some (.lst acc) ∧ acc.length < sizeLine ∧ I (i + 1) (M3.set l (.lst (acc ++ [y])))) :
    ∀ {M}, I 0 M → ∃ M', lcL l k g rYes te ρ xs M = .ok (.ref l) M' ∧ I xs.length M' := by
  have go : ∀ (n i : Nat) (M), n = xs.length - i → i ≤ xs.length → I i M → ∃ M', lcL l k g rYes te ρ (xs.drop i) M = .ok (.ref l) M' ∧ I xs.length M' := by
    intro n
    induction n with
    | zero =>
      intro i M hn hi hI
      have e : i = xs.length := by omega
      subst e
      refine ⟨M, ?_, hI⟩
      rw [List.drop_length]
      unfold lcL
      exact if_pos (hc _ _ hI)
    | succ n ih =>
      intro i M hn hi hI
      have hlt : i < xs.length := by omega
      obtain ⟨ρ1, y, M3, acc, h1, h2, h3, h4, h5⟩ := h i xs[i] M (List.getElem?_eq_getElem hlt) hI
      obtain ⟨M', h6, h7⟩ := ih (i + 1) _ (by omega) (by omega) h5
      refine ⟨M', ?_, h7⟩
      rw [List.drop_eq_getElem_cons hlt, lcL_keep (hc _ _ hI) h1 rfl h2 h3 h4]
      exact h6
  intro M hI
  exact go _ 0 M rfl (Nat.zero_le _) hI
end Fl

set_option Elab.async false
set_option linter.all false
set_option maxRecDepth 100000
/-! Fl, part W: what stays in the store. -/
namespace Fl
open PySem PySem.Spec L2
set_option autoImplicit false
theorem pfx_get {α : Type} {M M' : List α} (p : M <+: M') {l : Nat} {o : α} (h : M[l]? = some o) : M'[l]? = some o := by
  obtain ⟨t, rfl⟩ := p
  obtain ⟨hl, e⟩ := List.getElem?_eq_some_iff.mp h
  rw [List.getElem?_append_left hl]
  exact h
theorem pfx_app {α : Type} {M M' : List α} (p : M <+: M') (x : List α) : M <+: M' ++ x := p.trans (List.prefix_append _ _)
theorem pfx_set {α : Type} {M M' : List α} (p : M <+: M') {l : Nat} (h : M.length ≤ l) (x : α) : M <+: M'.set l x := by
  obtain ⟨t, rfl⟩ := p
  rw [List.set_append_right _ _ h]
  exact List.prefix_append _ _
theorem pfx_len {α : Type} {M M' : List α} (p : M <+: M') : M.length ≤ M'.length := p.length_le
theorem get_app {α : Type} {M : List α} {l : Nat} {o : α} (h : M[l]? = some o) (x : List α) : (M ++ x)[l]? = some o := pfx_get (List.prefix_append _ _) h
theorem get_new {α : Type} (M : List α) (o : α) : (M ++ [o])[M.length]? = some o := by simp
theorem get_lt {α : Type} {M : List α} {l : Nat} {o : α} (h : M[l]? = some o) : l < M.length := (List.getElem?_eq_some_iff.mp h).1
theorem get_set_ne {α : Type} {M : List α} {l k : Nat} {o x : α} (h : M[l]? = some o) (n : k ≠ l) : (M.set k x)[l]? = some o := by rw [List.getElem?_set_ne n]; exact h
theorem get_set_same {α : Type} {M : List α} {l : Nat} {x : α} (h : l < M.length) : (M.set l x)[l]? = some x := List.getElem?_set_self h
theorem chk_some {l : Nat} {o : O} {M : Store} (h : M[l]? = some o) : chk (some (l, o)) M := h
theorem v_len_l (l : Nat) (xs : List D) (M : Store) (h : M[l]? = some (.lst xs)) : cLen [.ref l] M = some (.p (.int (xs.length : Nat)), M) := by simp [cLen, lenD, h]
theorem v_ix_l (l : Nat) (xs : List D) (i : Nat) (d : D) (M : Store) (h : M[l]? = some (.lst xs)) (hi : xs[i]? = some d) : dIx (.ref l) (.p (.int i)) M = some (d, M) := by
  simp only [dIx, rowD, h, atI_nat hi, Option.map_some]
theorem v_cat (l k : Nat) (xs ys : List D) (M : Store) (h : M[l]? = some (.lst xs)) (h2 : M[k]? = some (.lst ys)) (hl : xs.length + ys.length ≤ sizeLine) : dAdd (.ref l) (.ref k) M = some (.ref M.length, M ++ [.lst (xs ++ ys)]) := by
  simp [dAdd, h, h2, hl]
theorem v_set (l : Nat) (xs : List D) (i : Nat) (d : D) (M : Store) (h : M[l]? = some (.lst xs)) (hi : i < xs.length) : setD (.ref l) (.p (.int i)) d M = some (M.set l (.lst (xs.set i d))) := by
  have e : ixN xs.length (i : Int) = some i := by
    unfold ixN
    rw [if_pos (by omega), if_pos (by omega)]
    simp
  simp only [setD, h, e, Option.map_some]
theorem v_append (l : Nat) (xs : List D) (d : D) (M : Store) (h : M[l]? = some (.lst xs)) (hl : xs.length < sizeLine) : mAppend (.ref l) [d] M = some (.p .non, M.set l (.lst (xs ++ [d]))) := by
  simp [mAppend, h, hl]
theorem isLst_ref (l : Nat) (xs : List D) (M : Store) (h : M[l]? = some (.lst xs)) : isLst (.ref l) M = true := by simp [isLst, h]
theorem walk_ref (l : Nat) (xs : List D) (M : Store) (h : M[l]? = some (.lst xs)) : walkD (.ref l) M = some (xs, some (l, .lst xs)) := by simp [walkD, h]
theorem lt_line {n : Nat} (h : n ≤ 1000000) : n < sizeLine := by rw [sizeLine_eq]; omega
theorem le_line {n : Nat} (h : n ≤ 1000000) : n ≤ sizeLine := by rw [sizeLine_eq]; omega
/-- a comprehension that reads alone: filter and map -/
theorem lc_new {k : Option (Nat × O)} {g : RG} {tt : RT} {te : RE} {ρ : Env} (p : D → Bool) (f : D → D) (M : Store) (hk : ∀ ys, chk k (M ++ [.lst ys])) (xs : List D) (hl : xs.length ≤ 1000000)
    (h : ∀ x ∈ xs, ∀ ys, ∃ ρ1, g x ρ (M ++ [.lst ys]) = some (ρ1, M ++ [.lst ys]) ∧ tt ρ1 (M ++ [.lst ys]) = .ok (p x) (M ++ [.lst ys]) ∧ (p x = true → te ρ1 (M ++ [.lst ys]) = .ok (f x) (M ++ [.lst ys]))) :
    lcL M.length k g tt te ρ xs (M ++ [.lst []]) = .ok (.ref M.length) (M ++ [.lst ((xs.filter p).map f)]) := by
  have hset : ∀ ys, (M ++ [O.lst []]).set M.length (.lst ys) = M ++ [.lst ys] := fun ys => by simp
  have key := lc_pure (l := M.length) (k := k) (g := g) (tt := tt) (te := te) (ρ := ρ) p f (M ++ [.lst []]) (by simp) (fun ys => by rw [hset]; exact hk ys) xs [] (by simpa using lt_line hl) (fun x hx ys => by rw [hset]; exact h x hx ys)
  rw [hset, hset, List.nil_append] at key
  exact key
/-- the same without a test -/
theorem lc_map {k : Option (Nat × O)} {g : RG} {te : RE} {ρ : Env} (f : D → D) (M : Store) (hk : ∀ ys, chk k (M ++ [.lst ys])) (xs : List D) (hl : xs.length ≤ 1000000)
    (h : ∀ x ∈ xs, ∀ ys, ∃ ρ1, g x ρ (M ++ [.lst ys]) = some (ρ1, M ++ [.lst ys]) ∧ te ρ1 (M ++ [.lst ys]) = .ok (f x) (M ++ [.lst ys])) :
    lcL M.length k g rYes te ρ xs (M ++ [.lst []]) = .ok (.ref M.length) (M ++ [.lst (xs.map f)]) := by
  have key := lc_new (k := k) (g := g) (tt := rYes) (te := te) (ρ := ρ) (fun _ => true) f M hk xs hl (fun x hx ys => by
    obtain ⟨ρ1, h1, h2⟩ := h x hx ys
    exact ⟨ρ1, h1, rfl, fun _ => h2⟩)
  have e : xs.filter (fun _ => true) = xs := List.filter_eq_self.mpr fun _ _ => rfl
  rw [e] at key
  exact key
theorem chk_app {l : Nat} {o : O} {M : Store} (h : M[l]? = some o) (ys : List O) : chk (some (l, o)) (M ++ ys) := get_app h ys
end Fl

set_option Elab.async false
set_option linter.all false
set_option maxRecDepth 100000
/-! Fl, part X: texts, f-strings, written tables, is of bools. -/
namespace Fl
open PySem PySem.Spec L2 PyProof.Rows
set_option autoImplicit false
/-! ### is of bools -/
def isBl : D → Bool → Bool
  | .p (.bl a), b => a == b
  | _, _ => false
def dIsB : D → D → Store → Option (D × Store)
  | x, .p (.bl b), M => some (.p (.bl (isBl x b)), M)
  | _, _, _ => none
section
variable {X : Cx}
theorem op_isB : OpR X (compareOp .Is) (fun x y H Q => ∃ b, y = .bl b ∧ Q (.bl (decide (x = .bl b))) H) := by
  intro pins s σ H x y v u Q I rx ry h
  obtain ⟨b, rfl, q⟩ := h
  cases (show u = Value.bool b from ry)
  cases x with
  | bl a =>
    cases (show v = Value.bool a from rx)
    by_cases e : a = b
    · subst e
      exact wpAny_is_self rfl ⟨.bl true, H, I, rfl, by simpa using q⟩
    · exact wpAny_is_other rfl (fun z => e (Value.bool.inj z)) ⟨.bl false, H, I, rfl, by simpa [e] using q⟩
  | non => cases rx; exact wpAny_is_other rfl (fun z => by cases z) ⟨.bl false, H, I, rfl, by simpa using q⟩
  | int i => obtain ⟨t, rfl⟩ := rx; exact wpAny_is_other rfl (fun z => by cases z) ⟨.bl false, H, I, rfl, by simpa using q⟩
  | str i => obtain ⟨t, rfl⟩ := rx; exact wpAny_is_other rfl (fun z => by cases z) ⟨.bl false, H, I, rfl, by simpa using q⟩
  | byt i => obtain ⟨t, rfl⟩ := rx; exact wpAny_is_other rfl (fun z => by cases z) ⟨.bl false, H, I, rfl, by simpa using q⟩
  | flt i => obtain ⟨t, rfl⟩ := rx; exact wpAny_is_other rfl (fun z => by cases z) ⟨.bl false, H, I, rfl, by simpa using q⟩
  | ref a => cases rx; exact wpAny_is_other rfl (fun z => by cases z) ⟨.bl false, H, I, rfl, by simpa using q⟩
  | ty a => cases rx; exact wpAny_is_other rfl (fun z => by cases z) ⟨.bl false, H, I, rfl, by simpa using q⟩
theorem isBl_ok {G : Gm} {μ : List Addr} {H : Hp} {x : D} {v : V} (r : Rep G μ H x v) (b : Bool) : isBl x b = decide (v = .bl b) := by
  unfold isBl
  split
  · rw [Rep.bl] at r
    subst r
    rename_i a _
    cases a <;> cases b <;> simp
  · rename_i h
    cases x with
    | p x => cases x with
      | bl a => exact absurd rfl (h a)
      | non => rw [Rep.non] at r; subst r; simp
      | int i => rw [Rep.int] at r; subst r; simp
      | str i => rw [Rep.str] at r; subst r; simp
      | tup xs => obtain ⟨a, vs, rfl, _⟩ := Rep.ptup.mp r; simp
    | ref l => obtain ⟨a, _, rfl⟩ := Rep.ref.mp r; simp
    | tup xs => obtain ⟨a, vs, rfl, _⟩ := Rep.tup.mp r; simp
    | gl x => simp only [Rep] at r; obtain ⟨a, _, rfl⟩ := r; simp
    | exv x => simp only [Rep] at r; subst r; simp
    | lam f c q => simp only [Rep] at r; obtain ⟨rfl, _⟩ := r; simp
theorem d_isB {G : Gm} : OpD G dIsB (fun x y H Q => ∃ b, y = .bl b ∧ Q (.bl (decide (x = .bl b))) H) := by
  intro μ H M x y v u Q d M' S rx ry q k
  unfold dIsB at q
  split at q
  · rename_i x' b
    cases q
    rw [Rep.bl] at ry
    subst ry
    refine ⟨b, rfl, ?_⟩
    rw [← isBl_ok rx b]
    exact k μ _ H (.refl _) (List.prefix_refl _) S (Rep.bl.mpr rfl)
  · cases q
end
/-! ### str of an int -/
def numS (i : Int) : Str := toString i
def cStr : List D → Store → Option (D × Store)
  | [.p (.int i)], M => if i.natAbs.log2 < 1920 then some (.p (.str (numS i)), M) else none
  | _, _ => none
theorem d_str {G : Gm} : CallD G cStr (fun xs H Q => ∃ i, xs = [.int i] ∧ i.natAbs.log2 < 1920 ∧ Q (.str (toString i)) H) := by
  intro μ H M xs vs Q d M' S r q k
  unfold cStr at q
  split at q
  · rename_i M0 i
    split at q
    · rename_i hz
      cases q
      obtain ⟨v, rfl, rv⟩ := r.inv1
      rw [Rep.int] at rv
      subst rv
      exact ⟨i, rfl, hz, k μ _ H (.refl _) (List.prefix_refl _) S (Rep.str.mpr rfl)⟩
    · cases q
  · cases q
/-! ### xs.extend(ys), xs.pop(i) -/
def mExtend : D → List D → Store → Option (D × Store)
  | .ref l, [.ref b], M => (match M[l]?, M[b]? with
    | some (.lst xs), some (.lst ys) => if xs.length + ys.length ≤ sizeLine then some (.p .non, M.set l (.lst (xs ++ ys))) else none
    | _, _ => none)
  | _, _, _ => none
theorem d_extend {G : Gm} : MtD G mExtend rExtend := by
  intro μ H M x xs v vs Q d M' S r rs q k
  unfold mExtend at q
  split at q
  · rename_i M0 l b
    split at q
    · rename_i ys zs e1 e2
      split at q
      · rename_i hl
        cases q
        obtain ⟨a, ha, rfl⟩ := Rep.ref.mp r
        obtain ⟨w, rfl, rw⟩ := rs.inv1
        obtain ⟨c, hc, rfl⟩ := Rep.ref.mp rw
        obtain ⟨us, h1, h2⟩ := S.lst ha e1
        obtain ⟨ws, h3, h4⟩ := S.lst hc e2
        have ex := Ext.lst (o := .lst (us ++ ws)) h1
        exact ⟨a, c, us, ws, rfl, rfl, h1, h3, by rw [← h2.length, ← h4.length]; exact hl, k μ _ _ ex (List.prefix_refl _) (S.put (o := .lst (ys ++ zs)) ha e1 rfl rfl (fun ob w z => by rw [h1] at z; cases z) ex ⟨_, upd_same, (h2.app h4).ext ex (List.prefix_refl _)⟩) (Rep.non.mpr rfl)⟩
      · cases q
    · cases q
  · cases q
theorem Reps.erase {G : Gm} {μ : List Addr} {H : Hp} {xs : List D} {vs : List V} (h : Reps G μ H xs vs) (n : Nat) : Reps G μ H (xs.eraseIdx n) (vs.eraseIdx n) := by
  rw [List.eraseIdx_eq_take_drop_succ, List.eraseIdx_eq_take_drop_succ]
  exact (h.take n).app (h.drop (n + 1))
def mPopAt : D → List D → Store → Option (D × Store)
  | .ref l, [.p (.int i)], M => (match M[l]? with
    | some (.lst xs) => if 0 ≤ i ∧ i < 1000000000 then (match xs[i.toNat]? with
      | some y => some (y, M.set l (.lst (xs.eraseIdx i.toNat)))
      | none => none) else none
    | _ => none)
  | _, _, _ => none
theorem d_popAt {G : Gm} : MtD G mPopAt rPopAt := by
  intro μ H M x xs v vs Q d M' S r rs q k
  unfold mPopAt at q
  split at q
  · rename_i M0 l i
    split at q
    · rename_i ys e1
      split at q
      · rename_i hi
        split at q
        · rename_i y hy
          cases q
          obtain ⟨a, ha, rfl⟩ := Rep.ref.mp r
          obtain ⟨w, rfl, rw⟩ := rs.inv1
          rw [Rep.int] at rw
          subst rw
          obtain ⟨us, h1, h2⟩ := S.lst ha e1
          obtain ⟨u, hu, ru⟩ := h2.get hy
          have hlt := (List.getElem?_eq_some_iff.mp hu).1
          have ex := Ext.lst (o := .lst (us.eraseIdx i.toNat)) h1
          have hs : seqIndex? i us.length = some i.toNat := by
            refine (ixN_seq (n := us.length) (i := i) (j := i.toNat) ?_).1
            unfold ixN
            rw [if_pos hi.1, if_pos (by omega)]
          exact ⟨a, us, i, i.toNat, u, rfl, rfl, h1, by omega, by omega, hs, hu, k μ _ _ ex (List.prefix_refl _) (S.put (o := .lst (ys.eraseIdx i.toNat)) ha e1 rfl rfl (fun ob w z => by rw [h1] at z; cases z) ex ⟨_, upd_same, (h2.erase _).ext ex (List.prefix_refl _)⟩) (ru.ext ex (List.prefix_refl _))⟩
        · cases q
      · cases q
    · cases q
  · cases q
/-! ### a method of a text, one argument -/
def isStr : D → Bool
  | .p (.str _) => true
  | _ => false
def rSM (op : D → D → Store → Option (D × Store)) (fo fe : RE) : RE := fun ρ M => (fo ρ M).bind fun x M1 => match isStr x with
  | true => (fe ρ M1).bind fun y M2 => ofO (op x y M2)
  | false => .no
def MsD (G : Gm) (op : D → D → Store → Option (D × Store)) (r : V → List V → Hp → VK → Prop) : Prop :=
  ∀ (μ : List Addr) (H : Hp) (M : Store) (x y : D) (v u : V) (Q : VK) (d : D) (M' : Store), SR G μ H M → Rep G μ H x v → Rep G μ H y u → op x y M = some (d, M') →
    (∀ μ' w H', Ext H H' → μ <+: μ' → SR G μ' H' M' → Rep G μ' H' d w → Q w H') → r v [u] H Q
theorem isStr_ok {G : Gm} {μ : List Addr} {H : Hp} {x : D} {v : V} (r : Rep G μ H x v) (h : isStr x = true) : ∃ a, v = .str a := by
  unfold isStr at h
  split at h
  · rw [Rep.str] at r; exact ⟨_, r⟩
  · cases h
section
variable {X : Cx} {W : WX} {fo fe : RE} {r : V → List V → Hp → VK → Prop} {op : D → D → Store → Option (D × Store)}
theorem sm_in (hd : MsD (gm X) op r) {σ : L2.St} {H : Hp} {Q : VK} (h : tE (gm X) W (rSM op fo fe) σ H Q) : tM1 r (tE (gm X) W fo) (tE (gm X) W fe) σ H Q := by
  refine (tX.bind h).mono fun v H1 ⟨μ, ρ, M, x, hE, hS, rx, hF⟩ => ?_
  have hF : Fin (gm X) (Rep (gm X)) W μ σ H1 Q (match isStr x with
    | true => (fe ρ M).bind fun y M2 => ofO (op x y M2)
    | false => .no) := hF
  cases q : isStr x with
  | false => rw [q] at hF; exact hF.elim
  | true =>
    rw [q] at hF
    refine ⟨isStr_ok rx q, ?_⟩
    have g1 : Go (gm X) (Rep (gm X)) (Rep (gm X)) W (fun x ρ M => (fe ρ M).bind fun y M2 => ofO (op x y M2)) σ Q v H1 := ⟨μ, ρ, M, x, hE, hS, rx, hF⟩
    refine (Go.bind Rep.mono g1).mono fun u H2 ⟨μ2, ρ2, M2, x2, y, hE2, hS2, rx2, ry, hF2⟩ => ?_
    have hF2 : Fin (gm X) (Rep (gm X)) W μ2 σ H2 Q (ofO (op x2 y M2)) := hF2
    cases q2 : op x2 y M2 with
    | none => rw [q2] at hF2; exact hF2.elim
    | some p =>
      obtain ⟨d, M'⟩ := p
      rw [q2] at hF2
      exact hd μ2 H2 M2 x2 y v u Q d M' hS2 rx2 ry q2 hF2
end
/-- the texts of a list -/
def strsOf : List D → Option (List Str)
  | [] => some []
  | .p (.str y) :: r => (strsOf r).map (y :: ·)
  | _ => none
theorem strsOf_map : ∀ ys : List Str, strsOf (ys.map fun y => D.p (.str y)) = some ys
  | [] => rfl
  | y :: ys => by simp [strsOf, strsOf_map ys]
theorem Reps.strs {G : Gm} {μ : List Addr} {H : Hp} : ∀ {xs : List D} {ys : List Str} {vs : List V}, strsOf xs = some ys → Reps G μ H xs vs → vs = ys.map V.str
  | [], ys, vs, e, h => by
    cases e
    rw [h.inv0]
    rfl
  | x :: xs, ys, vs, e, h => by
    obtain ⟨v, r, rfl, h1, h2⟩ := h.inv
    unfold strsOf at e
    split at e
    · rename_i h0; cases h0
    · rename_i y r0 h0
      cases h0
      cases q : strsOf xs with
      | none => rw [q] at e; cases e
      | some zs =>
        rw [q] at e
        cases e
        rw [Rep.str] at h1
        rw [h1, Reps.strs q h2]
        rfl
    · cases e
abbrev rJoinU (K : PySem.W.Frag) : V → List V → Hp → VK → Prop := fun x xs H Q => ∃ a p, ∃ ys : List Str, x = .str a ∧ xs = [.ref p] ∧ (SqL K H p (ys.map V.str) ∨ SqT K H p (ys.map V.str)) ∧
      (ys.map (·.length)).sum + ys.length * a.length ≤ 16777216 ∧ Q (.str (Txt.join a ys)) H
def sJoin : D → D → Store → Option (D × Store)
  | .p (.str a), .ref l, M => (match M[l]? with
    | some (.lst xs) => (match strsOf xs with
      | some ys => if (ys.map (·.length)).sum + ys.length * a.length ≤ 16777216 then some (.p (.str (Txt.join a ys)), M) else none
      | none => none)
    | _ => none)
  | _, _, _ => none
theorem d_join {G : Gm} : MsD G sJoin (rJoinU G.K) := by
  intro μ H M x y v u Q d M' S rx ry q k
  unfold sJoin at q
  split at q
  · rename_i M0 a l
    split at q
    · rename_i xs e1
      split at q
      · rename_i ys e2
        split at q
        · rename_i hz
          cases q
          rw [Rep.str] at rx
          subst rx
          obtain ⟨b, hb, rfl⟩ := Rep.ref.mp ry
          obtain ⟨vs, h1, h2⟩ := S.lst hb e1
          have e3 := Reps.strs e2 h2
          subst e3
          exact ⟨a, b, ys, rfl, rfl, .inl (SqL.of h1), hz, k μ _ H (.refl _) (List.prefix_refl _) S (Rep.str.mpr rfl)⟩
        · cases q
      · cases q
    · cases q
  · cases q
section
variable {X : Cx} {W : WX} {o e : Expr} {fo fe : RE} {apos pos : Pos}
theorem i_join (ho : PE X o (tE (gm X) W fo)) (he : PE X e (tE (gm X) W fe)) (hs : starEach [e] X.env = [(false, eval e X.env)] := by rfl) (hbase : attributeBase o "join" X.env (eval o X.env) = eval o X.env := by rfl) (hline : (apos.endLine == pos.line) = true := by rfl) :
    PE X (.Call (.Attribute o "join" apos) [e] [] pos) (tE (gm X) W (rSM sJoin fo fe)) :=
  PEimp (pe_join ho he hs hbase hline) fun σ H Q h => sm_in d_join h
end
/-! ### f-strings -/
def dFmt : D → Store → Option (D × Store)
  | .p (.str y), M => if y.length ≤ sizeLine then some (.p (.str y), M) else none
  | .p (.int i), M => if i.natAbs.log2 < 1920 then some (.p (.str (numS i)), M) else none
  | _, _ => none
abbrev rFmtU : V → Hp → VK → Prop := fun x H1 Q => (∃ y : Str, x = .str y ∧ y.length ≤ sizeLine ∧ Q (.str y) H1) ∨ ∃ i : Int, x = .int i ∧ i.natAbs.log2 < 1920 ∧ Q (.str (toString i)) H1
theorem d_fmt {G : Gm} : OpU G dFmt rFmtU := by
  intro μ H M x v Q d M' S r q k
  unfold dFmt at q
  split at q
  · split at q
    · rename_i hz
      cases q
      rw [Rep.str] at r
      subst r
      exact .inl ⟨_, rfl, hz, k μ _ H (.refl _) (List.prefix_refl _) S (Rep.str.mpr rfl)⟩
    · cases q
  · split at q
    · rename_i hz
      cases q
      rw [Rep.int] at r
      subst r
      exact .inr ⟨_, rfl, hz, k μ _ H (.refl _) (List.prefix_refl _) S (Rep.str.mpr rfl)⟩
    · cases q
  · cases q
def jsK (acc : Str) (k : Str → Store → R Str) : D → Store → R Str
  | .p (.str y), M1 => if (acc ++ y).length ≤ sizeLine then k (acc ++ y) M1 else .no
  | _, _ => .no
def rJs : List RE → Str → RX Str
  | [], acc => fun _ M => .ok acc M
  | f :: fs, acc => fun ρ M => (f ρ M).bind (jsK acc fun a M1 => rJs fs a ρ M1)
def rFS (fs : List RE) : RE := fun ρ M => (rJs fs Str.empty ρ M).bind fun out M1 => .ok (.p (.str out)) M1
section
variable {X : Cx} {W : WX} {e : Expr} {fe : RE} {pos : Pos}
theorem js_in {G : Gm} : ∀ (fs : List RE) (acc : Str) {σ : L2.St} {H : Hp} {Q : Str → Hp → Prop}, tX G (fun _ _ (a b : Str) => a = b) W (rJs fs acc) σ H Q → tJs (fs.map fun f => tE G W f) acc σ H Q
  | [], acc, σ, H, Q, h => by
    obtain ⟨μ, ρ, M, hE, hS, hF⟩ := h
    exact hF μ acc H (.refl _) (List.prefix_refl _) hS rfl
  | f :: fs, acc, σ, H, Q, h => by
    refine (tX.bind (f := f) (rel := Rep G) (g := fun d ρ M1 => jsK acc (fun a M1 => rJs fs a ρ M1) d M1) h).mono fun v H1 ⟨μ, ρ, M, d, hE, hS, rd, hF⟩ => ?_
    have hF : Fin G (fun _ _ (a b : Str) => a = b) W μ σ H1 Q (jsK acc (fun a M1 => rJs fs a ρ M1) d M) := hF
    unfold jsK at hF
    split at hF
    · rw [Rep.str] at rd
      split at hF
      · rename_i hl
        exact ⟨_, rd, hl, js_in fs _ ⟨μ, ρ, _, hE, hS, hF⟩⟩
      · exact hF.elim
    · exact hF.elim
theorem i_fmt (he : PE X e (tE (gm X) W fe)) : PE X (.FormattedValue e (-1) none pos) (tE (gm X) W (rUn dFmt fe)) := PEimp (pe_fmt he) fun σ H Q h => un_in d_fmt h
theorem i_fs {v1 v2 : Expr} {rest : List Expr} {fs : List RE} (h : PJ X (v1 :: v2 :: rest) (fs.map fun f => tE (gm X) W f)) : PE X (.JoinedStr (v1 :: v2 :: rest) pos) (tE (gm X) W (rFS fs)) :=
  PEimp (pe_joined h) fun σ H Q h => js_in fs Str.empty ((tX.bind (rel := fun _ _ (a b : Str) => a = b) (g := fun (out : Str) (_ : Env) (M1 : Store) => (R.ok (D.p (.str out)) M1 : R D)) h).mono fun out H1 ⟨μ, ρ, M, d, hE, hS, rd, hF⟩ => by
    cases rd
    exact hF μ _ H1 (.refl _) (List.prefix_refl _) hS (Rep.str.mpr rfl))
theorem i_fs1 (he : PE X e (tE (gm X) W fe)) : PE X (.JoinedStr [e] pos) (tE (gm X) W fe) := pe_joined1 he
theorem pj_nil : PJ X [] (([] : List RE).map fun f => tE (gm X) W f) := PJ.nil
theorem pj_cons {es : List Expr} {fs : List RE} (he : PE X e (tE (gm X) W fe)) (h : PJ X es (fs.map fun f => tE (gm X) W f)) : PJ X (e :: es) ((fe :: fs).map fun f => tE (gm X) W f) := PJ.cons he h
end
/-! ### written tables with text keys -/
structure Dtb (K : PySem.W.Frag) (mg : Str → Option Value) (w : World) (x : Str) (kvs : List (Str × P)) : Prop where
  ex : ∃ (a : Addr) (es : Array DictEntry) (n : Nat), mg x = some (.ref a) ∧ KDict K w a es n ∧ ∀ q ∈ kvs, ∃ u, PySem.W.nsIn K a q.1 = some (some u) ∧ pB K q.2 u = true
def dTab (x : Str) (kvs : List (Str × P)) : D → D → Store → Option (D × Store)
  | .gl y, .p (.str z), M => if y = x then (kvs.lookup z).map fun p => (.p p, M) else none
  | _, _, _ => none
theorem lookup_in {α : Type} : ∀ {l : List (Str × α)} {k : Str} {v : α}, l.lookup k = some v → (k, v) ∈ l
  | (k0, v0) :: l, k, v, h => by
    rw [List.lookup_cons] at h
    split at h
    · rename_i e
      cases h
      rw [eq_of_beq e]
      exact List.mem_cons_self
    · exact List.mem_cons_of_mem _ (lookup_in h)
theorem d_tab {X : Cx} {x : Str} {kvs : List (Str × P)} (T : Dtb X.K X.mg X.w x kvs) : OpD (gm X) (dTab x kvs) (rIxD X.K X.w) := by
  intro μ H M x0 y v u Q d M' S rx ry q k
  unfold dTab at q
  split at q
  · rename_i M0 y0 z
    split at q
    · rename_i e0
      subst e0
      cases q2 : kvs.lookup z with
      | none => rw [q2] at q; cases q
      | some p =>
        rw [q2] at q
        cases q
        obtain ⟨a, es, n, g, D, hk⟩ := T.ex
        simp only [Rep] at rx
        obtain ⟨b, hb, rfl⟩ := rx
        have e1 : (gm X).mg y0 = some (.ref a) := g
        rw [e1] at hb
        cases hb
        rw [Rep.str] at ry
        subst ry
        obtain ⟨u, h1, h2⟩ := hk _ (lookup_in q2)
        obtain ⟨v, r1, r2⟩ := pB_ok h2
        exact ⟨a, z, v, rfl, rfl, ⟨es, n, u, D.at_, D.lit, h1, r1⟩, k μ v H (.refl _) (List.prefix_refl _) S (by simp only [Rep]; exact r2 H)⟩
    · cases q
  · cases q
theorem dtb_cst {K : PySem.W.Frag} {mg : Str → Option Value} {w : World} {x : Str} {kvs : List (Str × P)} (T : Dtb K mg w x kvs) : Cst ⟨K, mg⟩ x (.gl x) := by
  obtain ⟨a, es, n, g, D, hk⟩ := T.ex
  exact ⟨.ref a, .ref a, g, rfl, fun μ H => by simp only [Rep]; exact ⟨a, g, rfl⟩⟩
/-- the values of a table -/
def tbB (K : PySem.W.Frag) (x : Str) (kvs : List (Str × P)) : Bool := kvs.all fun q => match PySem.W.nsIn K (He.ga K x) q.1 with
  | some (some u) => pB K q.2 u
  | _ => false
abbrev Tb : Type := Str × List (Str × P)
abbrev AlY : Type := (He.AlD × Bool) × (Bool × List (Option (List (Option (Str × Int)))))
def obsY (fa : List He.Fa) (fn : List He.DefD) (cs : List (Str × CK)) (ts : List Tb) (K : PySem.W.Frag) : AlY := (obsX fa fn cs K, (ts.all fun t => tbB K t.1 t.2, ts.map fun t => He.dicW K (He.ga K t.1)))
def valY (fn : List He.DefD) (ts : List Tb) (w : World) : AlY := (valX fn, (true, ts.map fun t => some (He.keysIn w.params (t.2.map (·.1)))))
def obsYG (n : Nat) (fa : List He.Fa) (fn : List He.DefD) (cs : List (Str × CK)) (ts : List Tb) (g : Addr → Option Obj) : AlY := obsY fa fn cs ts (He.frG g (He.asD g n))
structure SaysY (fa : List He.Fa) (fn : List He.DefD) (cs : List (Str × CK)) (ts : List Tb) (w : World) (K : PySem.W.Frag) : Prop where
  d : He.SaysD fa fn K
  c : ∀ q ∈ cs, cK K q.1 q.2 = true
  t : ∀ q ∈ ts, tbB K q.1 q.2 = true ∧ He.dicW K (He.ga K q.1) = some (He.keysIn w.params (q.2.map (·.1)))
theorem map_eq_mem {α β : Type} {f g : α → β} : ∀ {l : List α}, l.map f = l.map g → ∀ x ∈ l, f x = g x
  | a :: l, h, x, hx => by
    simp only [List.map_cons, List.cons.injEq] at h
    rcases List.mem_cons.mp hx with rfl | hx
    · exact h.1
    · exact map_eq_mem h.2 x hx
def hookY (n : Nat) (fa : List He.Fa) (fn : List He.DefD) (cs : List (Str × CK)) (ts : List Tb) : PySem.W.Hook where
  α := AlY
  obs := fun s => obsYG n fa fn cs ts s.heap.get?
  val := fun w => valY fn ts w
  says := fun w h => ∃ K : PySem.W.Frag, K.In h ∧ SaysY fa fn cs ts w K
  of := fun _ _ e => ⟨_, He.frG_in, congrArg (fun z : AlY => z.1.1) e, List.all_eq_true.mp (congrArg (fun z : AlY => z.1.2) e), fun q hq => ⟨List.all_eq_true.mp (congrArg (fun z : AlY => z.2.1) e) q hq, map_eq_mem (congrArg (fun z : AlY => z.2.2) e) q hq⟩⟩
  keeps := fun _ _ _ ⟨K, hK, c⟩ k => ⟨K, PySem.W.Frag.In.keeps hK k, c⟩
theorem obsYG_eq {n : Nat} {fa : List He.Fa} {fn : List He.DefD} {cs : List (Str × CK)} {ts : List Tb} {g : Addr → Option Obj} {s : Shared} (h : ∀ a, g a = s.heap.get? a) : obsYG n fa fn cs ts g = (hookY n fa fn cs ts).obs s := by
  have e : g = s.heap.get? := funext h
  rw [e] <;> rfl
theorem dtb_ok {K : PySem.W.Frag} {mg : Str → Option Value} {h : Heap} {w : World} {fa : List He.Fa} {fn : List He.DefD} {cs : List (Str × CK)} {ts : List Tb} {t : Tb} (X : K.In h) (G : h.Ns mainGlobals mg) (c : SaysY fa fn cs ts w K) (ht : t ∈ ts) (g : (He.Fa.glo t.1).ok K = true) : Dtb K mg w t.1 t.2 := by
  obtain ⟨h1, h2⟩ := c.t t ht
  obtain ⟨es, n, D⟩ := He.dicW_ok h2
  refine ⟨_, es, n, He.glo_ok X G g, D, fun q hq => ?_⟩
  have h3 := List.all_eq_true.mp h1 q hq
  split at h3
  · rename_i u e
    exact ⟨u, e, h3⟩
  · cases h3
/-! ### readings -/
section
variable (ρ : Env) (M : Store)
@[simp] theorem e_SM (op fo fe) : rSM op fo fe ρ M = (fo ρ M).bind fun x M1 => if isStr x = true then (fe ρ M1).bind fun y M2 => ofO (op x y M2) else .no := by
  unfold rSM
  congr 1
  funext x M1
  cases isStr x <;> rfl
@[simp] theorem e_FS (fs : List RE) : rFS fs ρ M = (rJs fs Str.empty ρ M).bind fun out M1 => .ok (.p (.str out)) M1 := (rfl)
@[simp] theorem e_Js0 (acc : Str) : rJs [] acc ρ M = .ok acc M := (rfl)
@[simp] theorem e_Js1 (f : RE) (fs : List RE) (acc : Str) : rJs (f :: fs) acc ρ M = (f ρ M).bind (jsK acc fun a M1 => rJs fs a ρ M1) := (rfl)
@[simp] theorem e_jsK (acc : Str) (k : Str → Store → R Str) (y : Str) : jsK acc k (.p (.str y)) M = if (acc ++ y).length ≤ sizeLine then k (acc ++ y) M else .no := (rfl)
@[simp] theorem v_isStr (y : Str) : isStr (.p (.str y)) = true := (rfl)
@[simp] theorem v_isB (x : D) (b : Bool) : dIsB x (.p (.bl b)) M = some (.p (.bl (isBl x b)), M) := (rfl)
@[simp] theorem v_isBl_b (a b : Bool) : isBl (.p (.bl a)) b = (a == b) := (rfl)
@[simp] theorem v_isBl_n (b : Bool) : isBl (.p .non) b = false := (rfl)
@[simp] theorem v_isBl_i (i : Int) (b : Bool) : isBl (.p (.int i)) b = false := (rfl)
@[simp] theorem v_isBl_s (i : Str) (b : Bool) : isBl (.p (.str i)) b = false := (rfl)
@[simp] theorem v_isBl_t (xs : List P) (b : Bool) : isBl (.p (.tup xs)) b = false := (rfl)
theorem v_str (i : Int) (h : i.natAbs.log2 < 1920) : cStr [.p (.int i)] M = some (.p (.str (numS i)), M) := by simp [cStr, h]
theorem v_fmt_i (i : Int) (h : i.natAbs.log2 < 1920) : dFmt (.p (.int i)) M = some (.p (.str (numS i)), M) := by simp [dFmt, h]
theorem v_fmt_s (y : Str) (h : y.length ≤ sizeLine) : dFmt (.p (.str y)) M = some (.p (.str y), M) := by simp [dFmt, h]
theorem v_tab (x : Str) (kvs : List (Str × P)) (z : Str) (p : P) (h : kvs.lookup z = some p) : dTab x kvs (.gl x) (.p (.str z)) M = some (.p p, M) := by simp [dTab, h]
theorem v_extend (l b : Nat) (xs ys : List D) (h : M[l]? = some (.lst xs)) (h2 : M[b]? = some (.lst ys)) (hl : xs.length + ys.length ≤ sizeLine) : mExtend (.ref l) [.ref b] M = some (.p .non, M.set l (.lst (xs ++ ys))) := by simp [mExtend, h, h2, hl]
theorem v_popAt (l : Nat) (xs : List D) (i : Nat) (y : D) (h : M[l]? = some (.lst xs)) (hi : xs[i]? = some y) (hs : i < 1000000000) : mPopAt (.ref l) [.p (.int i)] M = some (y, M.set l (.lst (xs.eraseIdx i))) := by
  have h1 : (0 : Int) ≤ (i : Int) ∧ (i : Int) < 1000000000 := by omega
  simp [mPopAt, h, h1, hi]
theorem v_join (a : Str) (l : Nat) (ys : List Str) (h : M[l]? = some (.lst (ys.map fun y => D.p (.str y)))) (hz : (ys.map (·.length)).sum + ys.length * a.length ≤ 16777216) : sJoin (.p (.str a)) (.ref l) M = some (.p (.str (Txt.join a ys)), M) := by simp [sJoin, h, strsOf_map, hz]
end
end Fl

set_option Elab.async false
set_option linter.all false
set_option maxRecDepth 100000
/-! Fl, part Y: walks over texts, a sign in a text. -/
namespace Fl
open PySem PySem.Spec L2 PyProof.Rows
set_option autoImplicit false
def signsD (z : Str) : List D := z.cps.toList.map fun c => .p (.str ⟨#[c]⟩)
def walkS : D → Option (List D × Option (Nat × O))
  | .p (.str z) => some (signsD z, none)
  | _ => none
def wStr (f : RE) : RW := fun ρ M => (f ρ M).bind fun d M1 => ofW (walkS d) M1
theorem wk_str {G : Gm} {z : Str} {μ : List Addr} {H : Hp} : Wk G (Its z) none (signsD z) μ H := by
  refine ⟨fun _ _ => True, fun _ _ _ _ _ _ z => z, ?_, ?_, ?_, trivial⟩
  · rintro i μ H M hi _ _ _
    show i < z.cps.size
    simpa [signsD] using hi
  · rintro μ H M _ _ _
    show z.cps.size ≤ _
    simp [signsD]
  · rintro i μ H M w H' hi S _ _ ⟨rfl, c, h1, rfl⟩
    refine ⟨.p (.str ⟨#[c]⟩), ?_, .refl _, S, Rep.str.mpr rfl⟩
    unfold signsD
    rw [List.getElem?_map, Array.getElem?_toList, h1]
    rfl
theorem wi_str {X : Cx} {W : WX} {e tg : Expr} {fe : RE} (he : PE X e (tE (gm X) W fe)) : PI X tg e (tW (gm X) W (wStr fe)) :=
  PIimp (pi_str he) fun σ H R h => by
    refine (tX.bind (f := fe) (g := fun d ρ M1 => ofW (walkS d) M1) (rel := Rep (gm X)) h).mono fun v H1 ⟨μ, ρ, M, d, hE, hS, rd, hF⟩ => ?_
    have hF : Fin (gm X) _ W μ σ H1 R (ofW (walkS d) M) := hF
    cases q : walkS d with
    | none => rw [q] at hF; exact hF.elim
    | some p =>
      obtain ⟨xs, k⟩ := p
      rw [q] at hF
      unfold walkS at q
      split at q
      · cases q
        rw [Rep.str] at rd
        exact ⟨_, rd, hF μ _ H1 (.refl _) (List.prefix_refl _) hS wk_str⟩
      · cases q
/-! ### in -/
def sgn (a z : Str) : Option Bool := match a.cps.toList with
  | [c] => some (decide (c ∈ z.cps.toList))
  | _ => none
theorem sgn_ok {a z : Str} {b : Bool} (h : sgn a z = some b) : ∃ c, a = ⟨#[c]⟩ ∧ b = decide (c ∈ z.cps.toList) := by
  unfold sgn at h
  cases e : a.cps.toList with
  | nil => rw [e] at h; cases h
  | cons c r =>
    rw [e] at h
    cases r with
    | nil =>
      refine ⟨c, ?_, (Option.some.inj h).symm⟩
      cases a with
      | mk cps => exact congrArg Str.mk (Array.toList_inj.mp e)
    | cons _ _ => cases h
def dInX : D → D → Store → Option (D × Store)
  | .p (.str a), .p (.str z), M => (sgn a z).map fun b => (.p (.bl b), M)
  | x, y, M => dIn x y M
def dNotInX : D → D → Store → Option (D × Store)
  | .p (.str a), .p (.str z), M => (sgn a z).map fun b => (.p (.bl (!b)), M)
  | x, y, M => dNotIn x y M
theorem o_inX {X : Cx} (hu : X.A.units + 120 < cLine) : OpR X (compareOp .In) (fun x y H Q => rInP X.K false x y H Q ∨ ∃ (c : Nat) (z : Str), x = .str ⟨#[c]⟩ ∧ y = .str z ∧ Q (.bl (decide (c ∈ z.cps.toList))) H) := (o_in hu).or op_in_sign
theorem o_notInX {X : Cx} (hu : X.A.units + 120 < cLine) : OpR X (compareOp .NotIn) (fun x y H Q => rInP X.K true x y H Q ∨ ∃ (c : Nat) (z : Str), x = .str ⟨#[c]⟩ ∧ y = .str z ∧ Q (.bl (!decide (c ∈ z.cps.toList))) H) := (o_notIn hu).or op_notIn_sign
theorem d_inX {G : Gm} : OpD G dInX (fun x y H Q => rInP G.K false x y H Q ∨ ∃ (c : Nat) (z : Str), x = .str ⟨#[c]⟩ ∧ y = .str z ∧ Q (.bl (decide (c ∈ z.cps.toList))) H) := by
  intro μ H M x y v u Q d M' S rx ry q k
  unfold dInX at q
  split at q
  · rename_i M0 a z
    obtain ⟨b, e1, e2⟩ := Option.map_eq_some_iff.mp q
    cases e2
    obtain ⟨c, rfl, rfl⟩ := sgn_ok e1
    rw [Rep.str] at rx ry
    exact .inr ⟨c, z, rx, ry, k μ _ H (.refl _) (List.prefix_refl _) S (Rep.bl.mpr rfl)⟩
  · exact .inl (d_in μ H M x y v u Q d M' S rx ry q k)
theorem d_notInX {G : Gm} : OpD G dNotInX (fun x y H Q => rInP G.K true x y H Q ∨ ∃ (c : Nat) (z : Str), x = .str ⟨#[c]⟩ ∧ y = .str z ∧ Q (.bl (!decide (c ∈ z.cps.toList))) H) := by
  intro μ H M x y v u Q d M' S rx ry q k
  unfold dNotInX at q
  split at q
  · rename_i M0 a z
    obtain ⟨b, e1, e2⟩ := Option.map_eq_some_iff.mp q
    cases e2
    obtain ⟨c, rfl, rfl⟩ := sgn_ok e1
    rw [Rep.str] at rx ry
    exact .inr ⟨c, z, rx, ry, k μ _ H (.refl _) (List.prefix_refl _) S (Rep.bl.mpr rfl)⟩
  · exact .inl (d_notIn μ H M x y v u Q d M' S rx ry q k)
section
variable (ρ : Env) (M : Store)
@[simp] theorem e_wStr (f : RE) : wStr f ρ M = (f ρ M).bind fun d M1 => ofW (walkS d) M1 := (rfl)
@[simp] theorem v_walkS (z : Str) : walkS (.p (.str z)) = some (signsD z, none) := (rfl)
@[simp] theorem v_in_sign (c : Nat) (z : Str) : dInX (.p (.str ⟨#[c]⟩)) (.p (.str z)) M = some (.p (.bl (decide (c ∈ z.cps.toList))), M) := (rfl)
@[simp] theorem v_notIn_sign (c : Nat) (z : Str) : dNotInX (.p (.str ⟨#[c]⟩)) (.p (.str z)) M = some (.p (.bl (!decide (c ∈ z.cps.toList))), M) := (rfl)
theorem v_in_t (x : P) (xs : List P) (h : x.depth ≤ 100) : dInX (.p x) (.p (.tup xs)) M = some (.p (.bl (xs.any fun z => P.eqv z x)), M) := by
  have e : dInX (.p x) (.p (.tup xs)) M = dIn (.p x) (.p (.tup xs)) M := by cases x <;> rfl
  rw [e]
  simp [dIn, rowP, h]
theorem v_notIn_t (x : P) (xs : List P) (h : x.depth ≤ 100) : dNotInX (.p x) (.p (.tup xs)) M = some (.p (.bl (!xs.any fun z => P.eqv z x)), M) := by
  have e : dNotInX (.p x) (.p (.tup xs)) M = dNotIn (.p x) (.p (.tup xs)) M := by cases x <;> rfl
  rw [e]
  simp [dNotIn, rowP, h]
theorem v_in_l (x : P) (l : Nat) (xs : List P) (h : x.depth ≤ 100) (hl : M[l]? = some (.lst (xs.map D.p))) : dInX (.p x) (.ref l) M = some (.p (.bl (xs.any fun z => P.eqv z x)), M) := by
  have e : dInX (.p x) (.ref l) M = dIn (.p x) (.ref l) M := by cases x <;> rfl
  rw [e]
  simp [dIn, rowP, h, hl, allP_map]
theorem v_notIn_l (x : P) (l : Nat) (xs : List P) (h : x.depth ≤ 100) (hl : M[l]? = some (.lst (xs.map D.p))) : dNotInX (.p x) (.ref l) M = some (.p (.bl (!xs.any fun z => P.eqv z x)), M) := by
  have e : dNotInX (.p x) (.ref l) M = dNotIn (.p x) (.ref l) M := by cases x <;> rfl
  rw [e]
  simp [dNotIn, rowP, h, hl, allP_map]
end
end Fl
namespace Fl
open PySem PySem.Spec L2 PyProof.Rows
set_option autoImplicit false
/-! ### loops over what is no list of the store: turn by turn -/
def loopK : Out → (Env → Store → Out) → Out
  | .nx ρ M, k => k ρ M
  | .ct ρ M, k => k ρ M
  | .bk ρ M, _ => .nx ρ M
  | o, _ => o
@[simp] theorem loopK_nx (ρ M k) : loopK (.nx ρ M) k = k ρ M := (rfl)
@[simp] theorem loopK_ct (ρ M k) : loopK (.ct ρ M) k = k ρ M := (rfl)
@[simp] theorem loopK_bk (ρ M k) : loopK (.bk ρ M) k = .nx ρ M := (rfl)
@[simp] theorem loopK_rt (d M k) : loopK (.rt d M) k = .rt d M := (rfl)
@[simp] theorem loopK_ex (c fs ρ M k) : loopK (.ex c fs ρ M) k = .ex c fs ρ M := (rfl)
@[simp] theorem loopK_no (k) : loopK .no k = .no := (rfl)
@[simp] theorem forL0_nil (g : RG) (body : RS) (ρ : Env) (M : Store) : forL none g body [] ρ M = .nx ρ M := by
  unfold forL
  exact if_pos True.intro
@[simp] theorem forL0_cons (g : RG) (body : RS) (x : D) (xs : List D) (ρ : Env) (M : Store) : forL none g body (x :: xs) ρ M = oK (g x ρ M) fun ρ1 M1 => loopK (body ρ1 M1) fun ρ2 M2 => forL none g body xs ρ2 M2 := by
  conv => lhs; unfold forL
  rw [if_pos (show chk none M from True.intro)]
  cases g x ρ M with
  | none => rfl
  | some p =>
    obtain ⟨ρ1, M1⟩ := p
    show (match body ρ1 M1 with | _ => _) = loopK (body ρ1 M1) _
    cases body ρ1 M1 <;> rfl
/-- every turn goes on, the store stays -/
theorem forL_ok {σ : Type} {g : RG} {body : RS} (st : σ → Env) (M : Store) : ∀ (xs : List D), (∀ x ∈ xs, ∀ s, ∃ ρ1 s', g x (st s) M = some (ρ1, M) ∧ body ρ1 M = .nx (st s') M) → ∀ s, ∃ s', forL none g body xs (st s) M = .nx (st s') M
  | [], _, s => ⟨s, by simp⟩
  | x :: xs, h, s => by
    obtain ⟨ρ1, s1, h1, h2⟩ := h x List.mem_cons_self s
    obtain ⟨s2, h3⟩ := forL_ok st M xs (fun y hy => h y (List.mem_cons_of_mem _ hy)) s1
    exact ⟨s2, by rw [forL0_cons, h1, oK_some, h2, loopK_nx, h3]⟩
/-! ### texts put together -/
def catS : List Str → Str
  | [] => Str.empty
  | y :: ys => y ++ catS ys
inductive EvS (ρ : Env) (M : Store) : List RE → List Str → Prop where
  | nil : EvS ρ M [] []
  | lit {y : Str} {fs : List RE} {ys : List Str} (h : y.length ≤ 4000) (r : EvS ρ M fs ys) : EvS ρ M (rC (.p (.str y)) :: fs) (y :: ys)
  | val {f : RE} {y : Str} {fs : List RE} {ys : List Str} (e : f ρ M = .ok (.p (.str y)) M) (h : y.length ≤ 4000) (r : EvS ρ M fs ys) : EvS ρ M (f :: fs) (y :: ys)
theorem js_ok {ρ : Env} {M : Store} {fs : List RE} {ys : List Str} (h : EvS ρ M fs ys) : ∀ acc : Str, acc.length + 4000 * fs.length ≤ 1000000 → rJs fs acc ρ M = .ok (acc ++ catS ys) M := by
  induction h with
  | nil =>
    intro acc _
    show R.ok acc M = _
    rw [catS, Str.append_empty]
  | lit h r ih =>
    intro acc hl
    simp only [List.length_cons] at hl
    rw [e_Js1, e_C, R.bind_ok, e_jsK, if_pos (le_line (by rw [Str.length_append]; omega)), ih _ (by rw [Str.length_append]; omega), catS, Str.append_assoc]
  | val e h r ih =>
    intro acc hl
    simp only [List.length_cons] at hl
    rw [e_Js1, e, R.bind_ok, e_jsK, if_pos (le_line (by rw [Str.length_append]; omega)), ih _ (by rw [Str.length_append]; omega), catS, Str.append_assoc]
theorem fs_ok {ρ : Env} {M : Store} {fs : List RE} {ys : List Str} (h : EvS ρ M fs ys) (hl : fs.length ≤ 200) : rFS fs ρ M = .ok (.p (.str (catS ys))) M := by
  rw [e_FS, js_ok h _ (by show 0 + _ ≤ _; omega), R.bind_ok, Str.empty_append]
theorem v_adds (x y : Str) (M : Store) (h : x.length + y.length ≤ 16000000) : dAdd (.p (.str x)) (.p (.str y)) M = some (.p (.str (x ++ y)), M) := by
  have e : x.length + y.length ≤ sizeLine := by rw [sizeLine_eq]; omega
  simp [dAdd, e]
theorem join_cons (a x : Str) : ∀ ys : List Str, Txt.join a (x :: ys) = x ++ catS (ys.map (a ++ ·)) := by
  intro ys
  unfold Txt.join
  rw [StrLaws.glued_eq_join]
  induction ys generalizing x with
  | nil => rw [List.map_nil, catS, Str.append_empty]; rfl
  | cons y ys ih =>
    show x ++ a ++ Str.join a (y :: ys) = _
    rw [ih y, List.map_cons, catS, Str.append_assoc, Str.append_assoc]
theorem join_empty : ∀ ys : List Str, Txt.join (("" : Str)) ys = catS ys
  | [] => rfl
  | x :: ys => by
    rw [join_cons]
    have e : ys.map ((("" : Str)) ++ ·) = ys := by
      conv => rhs; rw [← List.map_id ys]
      exact List.map_congr_left fun y _ => Str.empty_append y
    rw [e, catS]
theorem catS_app : ∀ xs ys : List Str, catS (xs ++ ys) = catS xs ++ catS ys
  | [], ys => by rw [List.nil_append, catS, Str.empty_append]
  | x :: xs, ys => by rw [List.cons_append, catS, catS, catS_app xs ys, Str.append_assoc]
theorem numS_len (n : Nat) (h : n ≤ 10000000) : (numS (n : Int)).length ≤ 1921 ∧ (n : Int).natAbs.log2 < 1920 := by
  have e : (n : Int).natAbs.log2 < 1920 := by
    rw [Int.natAbs_natCast]
    by_cases h0 : n = 0
    · subst h0; decide
    · exact Nat.lt_of_lt_of_le ((Nat.log2_lt h0).mpr (Nat.lt_of_le_of_lt h (by decide : 10000000 < 2 ^ 24))) (by decide)
  exact ⟨int_text_len_1921 e, e⟩
theorem str_lit_eq (a b : String) : ((a : Str) = (b : Str)) = (a = b) := by
  refine propext ⟨fun h => ?_, fun h => by rw [h]⟩
  rw [Str.ofString_eq_toList, Str.ofString_eq_toList] at h
  have h1 : a.toList.map Char.toNat = b.toList.map Char.toNat := by
    have := congrArg (fun z : Str => z.cps.toList) h
    simpa using this
  have inj : ∀ {c d : Char}, c.toNat = d.toNat → c = d := fun {c d} e => Char.ext (UInt32.toNat_inj.mp e)
  have h2 : a.toList = b.toList := by
    generalize a.toList = x at h1
    generalize b.toList = y at h1
    induction x generalizing y with
    | nil => cases y with
      | nil => rfl
      | cons d y => simp at h1
    | cons c x ih => cases y with
      | nil => simp at h1
      | cons d y =>
        simp only [List.map_cons, List.cons.injEq] at h1
        rw [inj h1.1, ih y h1.2]
  exact String.toList_inj.mp h2
theorem EvS.num {ρ : Env} {M : Store} {f : RE} {n : Nat} {fs : List RE} {ys : List Str} (h : n ≤ 10000000) (e : f ρ M = .ok (.p (.str (numS (n : Int)))) M) (r : EvS ρ M fs ys) : EvS ρ M (f :: fs) (numS (n : Int) :: ys) := .val e (by have := (numS_len n h).1; omega) r
theorem EvS.txt {ρ : Env} {M : Store} {f : RE} (y : Str) {fs : List RE} {ys : List Str} (h : y.length ≤ 4000) (e : f ρ M = .ok (.p (.str y)) M) (r : EvS ρ M fs ys) : EvS ρ M (f :: fs) (y :: ys) := .val e h r
theorem v_eqv_tt (xs ys : List P) : P.eqv (.tup xs) (.tup ys) = P.eqvs xs ys := by rw [P.eqv]
theorem v_eqvs_c (x y : P) (xs ys : List P) : P.eqvs (x :: xs) (y :: ys) = (P.eqv x y && P.eqvs xs ys) := by rw [P.eqvs]
theorem v_eqvs_n : P.eqvs [] [] = true := by rw [P.eqvs]
end Fl

set_option Elab.async false
set_option linter.all false
set_option maxRecDepth 100000
set_option exponentiation.threshold 20000
namespace Law
open PySem PySem.Spec L2 Fl
set_option autoImplicit false
abbrev Env := Fl.Env

def c_SMALL_LETTERS : P := (.str "abcdefghijklmnopqrstuvwxyz")
def c_GREAT_LETTERS : P := (.str "ABCDEFGHIJKLMNOPQRSTUVWXYZ")
def c_DIGITS : P := (.str "0123456789")
def c_WORDS : P := (.tup [(.str "any"), (.str "both"), (.str "door"), (.str "end"), (.str "from"), (.str "host"), (.str "in"), (.str "keeps"), (.str "let"), (.str "lets"), (.str "maps"), (.str "net"), (.str "open"), (.str "ports"), (.str "span"), (.str "stop"), (.str "to"), (.str "turns"), (.str "wall")])
def c_TOP : P := (.int 99999)
def c_KINDS : P := (.tup [(.str "net"), (.str "host"), (.str "door"), (.str "open"), (.str "wall")])
def t_LENGTHS : List (Str × P) := [("net", (.int 2)), ("host", (.int 3)), ("door", (.int 12)), ("open", (.int 5)), ("wall", (.int 3))]
def c_RANGES_OF_A_RULE : P := (.int 3)
def c_ANY : P := (.tup [(.int 0), (.int 99999)])
def c_ALL_PORTS : P := (.tup [(.int 1), (.int 9999)])
def c_UNWRITTEN_MANNER : P := (.int 1)
def c_UNWRITTEN_SPAN : P := (.int 0)
@[simp] theorem lit_0 : Str.length (("" : Str)) = 0 := by decide +kernel
@[simp] theorem lit_1 : Str.length (("\n" : Str)) = 1 := by decide +kernel
@[simp] theorem lit_2 : Str.length ((" " : Str)) = 1 := by decide +kernel
@[simp] theorem lit_3 : Str.length (("  " : Str)) = 2 := by decide +kernel
@[simp] theorem lit_4 : Str.length ((" both" : Str)) = 5 := by decide +kernel
@[simp] theorem lit_5 : Str.length ((" from " : Str)) = 6 := by decide +kernel
@[simp] theorem lit_6 : Str.length ((" in " : Str)) = 4 := by decide +kernel
@[simp] theorem lit_7 : Str.length ((" keeps" : Str)) = 6 := by decide +kernel
@[simp] theorem lit_8 : Str.length ((" lets " : Str)) = 6 := by decide +kernel
@[simp] theorem lit_9 : Str.length ((" maps " : Str)) = 6 := by decide +kernel
@[simp] theorem lit_10 : Str.length ((" ports " : Str)) = 7 := by decide +kernel
@[simp] theorem lit_11 : Str.length ((" span " : Str)) = 6 := by decide +kernel
@[simp] theorem lit_12 : Str.length ((" to " : Str)) = 4 := by decide +kernel
@[simp] theorem lit_13 : Str.length ((" turns" : Str)) = 6 := by decide +kernel
@[simp] theorem lit_14 : Str.length ((", " : Str)) = 2 := by decide +kernel
@[simp] theorem lit_15 : Str.length (("0123456789" : Str)) = 10 := by decide +kernel
@[simp] theorem lit_16 : Str.length ((":" : Str)) = 1 := by decide +kernel
@[simp] theorem lit_17 : Str.length ((";" : Str)) = 1 := by decide +kernel
@[simp] theorem lit_18 : Str.length ((";\n" : Str)) = 2 := by decide +kernel
@[simp] theorem lit_19 : Str.length (("ABCDEFGHIJKLMNOPQRSTUVWXYZ" : Str)) = 26 := by decide +kernel
@[simp] theorem lit_20 : Str.length (("_" : Str)) = 1 := by decide +kernel
@[simp] theorem lit_21 : Str.length (("aZ_0ybxQ9" : Str)) = 9 := by decide +kernel
@[simp] theorem lit_22 : Str.length (("abcdefghijklmnopqrstuvwxyz" : Str)) = 26 := by decide +kernel
@[simp] theorem lit_23 : Str.length (("abcdefghijklmnopqrstuvwxyz0123456789_" : Str)) = 37 := by decide +kernel
@[simp] theorem lit_24 : Str.length (("any" : Str)) = 3 := by decide +kernel
@[simp] theorem lit_25 : Str.length (("both" : Str)) = 4 := by decide +kernel
@[simp] theorem lit_26 : Str.length (("door" : Str)) = 4 := by decide +kernel
@[simp] theorem lit_27 : Str.length (("door " : Str)) = 5 := by decide +kernel
@[simp] theorem lit_28 : Str.length (("end" : Str)) = 3 := by decide +kernel
@[simp] theorem lit_29 : Str.length (("end;" : Str)) = 4 := by decide +kernel
@[simp] theorem lit_30 : Str.length (("end;\n" : Str)) = 5 := by decide +kernel
@[simp] theorem lit_31 : Str.length (("from" : Str)) = 4 := by decide +kernel
@[simp] theorem lit_32 : Str.length (("holesmet.errors" : Str)) = 15 := by decide +kernel
@[simp] theorem lit_33 : Str.length (("holesmet.items" : Str)) = 14 := by decide +kernel
@[simp] theorem lit_34 : Str.length (("holesmet.kinds" : Str)) = 14 := by decide +kernel
@[simp] theorem lit_35 : Str.length (("holesmet.names" : Str)) = 14 := by decide +kernel
@[simp] theorem lit_36 : Str.length (("holesmet.writer" : Str)) = 15 := by decide +kernel
@[simp] theorem lit_37 : Str.length (("host" : Str)) = 4 := by decide +kernel
@[simp] theorem lit_38 : Str.length (("host " : Str)) = 5 := by decide +kernel
@[simp] theorem lit_39 : Str.length (("in" : Str)) = 2 := by decide +kernel
@[simp] theorem lit_40 : Str.length (("keeps" : Str)) = 5 := by decide +kernel
@[simp] theorem lit_41 : Str.length (("law_holesmet_k03_lines_of_items" : Str)) = 31 := by decide +kernel
@[simp] theorem lit_42 : Str.length (("let" : Str)) = 3 := by decide +kernel
@[simp] theorem lit_43 : Str.length (("lets" : Str)) = 4 := by decide +kernel
@[simp] theorem lit_44 : Str.length (("lets " : Str)) = 5 := by decide +kernel
@[simp] theorem lit_45 : Str.length (("maps" : Str)) = 4 := by decide +kernel
@[simp] theorem lit_46 : Str.length (("maps " : Str)) = 5 := by decide +kernel
@[simp] theorem lit_47 : Str.length (("net" : Str)) = 3 := by decide +kernel
@[simp] theorem lit_48 : Str.length (("net " : Str)) = 4 := by decide +kernel
@[simp] theorem lit_49 : Str.length (("no plan: not a tuple of items" : Str)) = 29 := by decide +kernel
@[simp] theorem lit_50 : Str.length (("open" : Str)) = 4 := by decide +kernel
@[simp] theorem lit_51 : Str.length (("open " : Str)) = 5 := by decide +kernel
@[simp] theorem lit_52 : Str.length (("ports" : Str)) = 5 := by decide +kernel
@[simp] theorem lit_53 : Str.length (("ports " : Str)) = 6 := by decide +kernel
@[simp] theorem lit_54 : Str.length (("span" : Str)) = 4 := by decide +kernel
@[simp] theorem lit_55 : Str.length (("span " : Str)) = 5 := by decide +kernel
@[simp] theorem lit_56 : Str.length (("stop" : Str)) = 4 := by decide +kernel
@[simp] theorem lit_57 : Str.length (("to" : Str)) = 2 := by decide +kernel
@[simp] theorem lit_58 : Str.length (("turns" : Str)) = 5 := by decide +kernel
@[simp] theorem lit_59 : Str.length (("wall" : Str)) = 4 := by decide +kernel
@[simp] theorem lit_60 : Str.length (("wall " : Str)) = 5 := by decide +kernel
/-! ### kinds -/
def isIntP : P → Bool
  | .int _ => true
  | _ => false
def between (x : P) (a b : Int) : Bool := match x with
  | .int i => decide (a ≤ i) && decide (i ≤ b)
  | _ => false
def F_is_int : List D → Store → R D := fun ds M => match ds with
  | [.p x] => .ok (.p (.bl (isIntP x))) M
  | _ => .no
def F_is_between : List D → Store → R D := fun ds M => match ds with
  | [.p x, .p (.int a), .p (.int b)] => .ok (.p (.bl (between x a b))) M
  | _ => .no
-- slots: 0:value
noncomputable def m_is_int  : RS :=
  (rRet (rAnd (rIsa "int" (rVar 0)) (rNot (rTst truthD (rIsa "bool" (rVar 0))))))

-- slots: 0:value 1:least 2:greatest
noncomputable def m_is_between  : RS :=
  (rRet (rAnd (rCallN 1 F_is_int (rCons (rVar 0) rNil)) (rChain dLe dLe (rVar 1) (rVar 0) (rVar 2))))

theorem r_is_int : Ref 1 1 F_is_int m_is_int := by
  intro ds M hl
  unfold F_is_int
  split
  · rename_i x
    cases x <;> simp [m_is_int, isIntP, isaT]
  · simp
theorem r_is_between : Ref 3 3 F_is_between m_is_between := by
  intro ds M hl
  unfold F_is_between
  split
  · rename_i x a b
    cases x with
    | int i => by_cases h1 : a ≤ i <;> simp [m_is_between, F_is_int, isIntP, between, h1]
    | _ => simp [m_is_between, F_is_int, isIntP, between]
  · simp
-- slots: 0:value
noncomputable def m_is_bit  : RS :=
  (rRet (rCallN 3 F_is_between (rCons (rVar 0) (rCons (rC (.p (.int 0))) (rCons (rC (.p (.int 1))) rNil)))))

noncomputable def F_is_bit : List D → Store → R D := selfF 1 m_is_bit
theorem r_is_bit : Ref 1 1 F_is_bit m_is_bit := ref_self 1 1 m_is_bit
theorem x_bit (x : P) (M : Store) : F_is_bit [.p x] M = .ok (.p (.bl (between x 0 1))) M := selfF_ok (by simp [m_is_bit, F_is_between]) (by simp)
-- slots: 0:value 1:length
noncomputable def m_is_tuple_of  : RS :=
  (rRet (rAnd (rIsa "tuple" (rVar 0)) (rBin dEq (rCB cLen (rCons (rVar 0) rNil)) (rVar 1))))

noncomputable def F_is_tuple_of : List D → Store → R D := selfF 2 m_is_tuple_of
theorem r_is_tuple_of : Ref 2 2 F_is_tuple_of m_is_tuple_of := ref_self 2 2 m_is_tuple_of
theorem x_tuple_of (xs : List P) (n : Int) (M : Store) : F_is_tuple_of [.p (.tup xs), .p (.int n)] M = .ok (.p (.bl (decide ((xs.length : Int) = n)))) M := selfF_ok (by simp [m_is_tuple_of, isaT]) (by simp)
/-! ### names -/
-- slots: 0:row 1:signs 2:sign
noncomputable def s_is_all_1  : RS :=
  (rRet (rC (.p (.bl false))))
noncomputable def s_is_all_2  : RS :=
  (rIfS (rTst asBool (rBin dNotInX (rVar 2) (rVar 1)))
  s_is_all_1
  rSkip)
noncomputable def s_is_all_3  : RS :=
  (rForW (wStr (rVar 0)) (gNm 2)
  s_is_all_2)
noncomputable def s_is_all_4  : RS :=
  (rRet (rC (.p (.bl true))))
noncomputable def m_is_all  : RS :=
  (rSeq s_is_all_3
  s_is_all_4)

noncomputable def F_is_all : List D → Store → R D := selfF 3 m_is_all
theorem r_is_all : Ref 2 3 F_is_all m_is_all := ref_self 2 3 m_is_all
theorem all_loop (row signs : Str) (M : Store) : ∀ (cs : List Nat) (z : Option D), (cs.all (fun c => decide (c ∈ signs.cps.toList)) = true → ∃ z', forL none (gNm 2) s_is_all_2 (cs.map fun c => D.p (.str ⟨#[c]⟩)) [some (.p (.str row)), some (.p (.str signs)), z] M = .nx [some (.p (.str row)), some (.p (.str signs)), z'] M) ∧
    (cs.all (fun c => decide (c ∈ signs.cps.toList)) = false → forL none (gNm 2) s_is_all_2 (cs.map fun c => D.p (.str ⟨#[c]⟩)) [some (.p (.str row)), some (.p (.str signs)), z] M = .rt (.p (.bl false)) M)
  | [], z => by simp
  | c :: cs, z => by
    obtain ⟨h1, h2⟩ := all_loop row signs M cs (some (.p (.str ⟨#[c]⟩)))
    rw [List.all_cons]
    by_cases hc : c ∈ signs.cps.toList
    · simp only [hc, decide_true, Bool.true_and]
      refine ⟨fun h => ?_, fun h => ?_⟩
      · obtain ⟨z', e⟩ := h1 h
        refine ⟨z', ?_⟩
        rw [← e]
        simp only [List.map_cons, forL0_cons]
        simp [s_is_all_2, s_is_all_1, hc, -forL0_cons, -Array.mem_toList_iff]
      · rw [← h2 h]
        simp only [List.map_cons, forL0_cons]
        simp [s_is_all_2, s_is_all_1, hc, -forL0_cons, -Array.mem_toList_iff]
    · have e : (decide (c ∈ signs.cps.toList) && cs.all (fun c => decide (c ∈ signs.cps.toList))) = false := by simp only [hc, decide_false, Bool.false_and]
      rw [e]
      refine ⟨fun h => (by cases h), fun _ => ?_⟩
      simp only [List.map_cons, forL0_cons]
      simp [s_is_all_2, s_is_all_1, hc, -forL0_cons, -Array.mem_toList_iff]
theorem x_all (row signs : Str) (M : Store) : F_is_all [.p (.str row), .p (.str signs)] M = .ok (.p (.bl (row.cps.toList.all fun c => decide (c ∈ signs.cps.toList)))) M := by
  obtain ⟨h1, h2⟩ := all_loop row signs M row.cps.toList none
  refine selfF_ok ?_ (Nat.le_refl _)
  cases q : row.cps.toList.all fun c => decide (c ∈ signs.cps.toList) with
  | true =>
    obtain ⟨z', e⟩ := h1 q
    simp [m_is_all, s_is_all_3, s_is_all_4, signsD, e]
  | false =>
    have e := h2 q
    simp [m_is_all, s_is_all_3, s_is_all_4, signsD, e]
-- slots: 0:row
noncomputable def m_is_word  : RS :=
  (rRet (rBin dInX (rVar 0) (rC (.p c_WORDS))))

noncomputable def F_is_word : List D → Store → R D := selfF 1 m_is_word
theorem r_is_word : Ref 1 1 F_is_word m_is_word := ref_self 1 1 m_is_word
def wordsS : List Str := ["any", "both", "door", "end", "from", "host", "in", "keeps", "let", "lets", "maps", "net", "open", "ports", "span", "stop", "to", "turns", "wall"]
theorem any_strs (s : Str) : ∀ ws : List Str, ((ws.map P.str).any fun z => P.eqv z (.str s)) = decide (s ∈ ws)
  | [] => rfl
  | w :: ws => by
    rw [List.map_cons, List.any_cons, any_strs s ws, v_eqv_ss]
    by_cases h : w = s
    · subst h; simp
    · have h2 : ¬ s = w := fun e => h e.symm
      simp [h, h2]
theorem x_word (s : Str) (M : Store) : F_is_word [.p (.str s)] M = .ok (.p (.bl (decide (s ∈ wordsS)))) M := by
  have e : dInX (.p (.str s)) (.p c_WORDS) M = some (.p (.bl (decide (s ∈ wordsS))), M) := by
    rw [← any_strs s wordsS]
    exact v_in_t M (.str s) _ (by simp [P.depth])
  exact selfF_ok (by simp [m_is_word, e]) (by simp)
-- slots: 0:row
noncomputable def s_is_small_row_1  : RS :=
  (rRet (rC (.p (.bl false))))
noncomputable def s_is_small_row_2  : RS :=
  (rIfS (rtOr (rTst asBool (rBin dEq (rVar 0) (rC (.p (.str ""))))) (rTst asBool (rBin dNotInX (rBin dIx (rVar 0) (rC (.p (.int 0)))) (rC (.p c_SMALL_LETTERS)))))
  s_is_small_row_1
  rSkip)
noncomputable def s_is_small_row_3  : RS :=
  (rRet (rCallN 2 F_is_all (rCons (rVar 0) (rCons (rBin dAdd (rBin dAdd (rC (.p c_SMALL_LETTERS)) (rC (.p c_DIGITS))) (rC (.p (.str "_")))) rNil))))
noncomputable def m_is_small_row  : RS :=
  (rSeq s_is_small_row_2
  s_is_small_row_3)

noncomputable def F_is_small_row : List D → Store → R D := selfF 1 m_is_small_row
theorem r_is_small_row : Ref 1 1 F_is_small_row m_is_small_row := ref_self 1 1 m_is_small_row
def smallL : List Nat := ("abcdefghijklmnopqrstuvwxyz" : Str).cps.toList
def greatL : List Nat := ("ABCDEFGHIJKLMNOPQRSTUVWXYZ" : Str).cps.toList
def signL : List Nat := (("abcdefghijklmnopqrstuvwxyz" : Str) ++ ("0123456789" : Str) ++ ("_" : Str)).cps.toList
def signG : List Nat := (("abcdefghijklmnopqrstuvwxyz" : Str) ++ ("ABCDEFGHIJKLMNOPQRSTUVWXYZ" : Str) ++ ("0123456789" : Str) ++ ("_" : Str)).cps.toList
/-- a row of signs, the first one of fs -/
structure RowS (fs gs : List Nat) (s : Str) : Prop where
  first : ∃ c r, s.cps.toList = c :: r ∧ c ∈ fs
  all : ∀ c ∈ s.cps.toList, c ∈ gs
  len : s.length ≤ 300
/-- a name -/
structure Nm (s : Str) : Prop extends RowS smallL signL s where
  word : s ∉ wordsS
theorem RowS.ne {fs gs : List Nat} {s : Str} (h : RowS fs gs s) : s ≠ ("" : Str) := by
  rintro rfl
  obtain ⟨c, r, e, _⟩ := h.first
  revert e
  have : ((""  : Str)).cps.toList = [] := by decide +kernel
  rw [this]
  intro e
  cases e
theorem row_ix {fs gs : List Nat} {s : Str} (h : RowS fs gs s) (M : Store) : ∃ c ∈ fs, dIx (.p (.str s)) (.p (.int 0)) M = some (.p (.str ⟨#[c]⟩), M) := by
  obtain ⟨c, r, e, hc⟩ := h.first
  refine ⟨c, hc, ?_⟩
  have h1 : s.length ≤ sizeLine := le_line (by have := h.len; omega)
  simp [dIx, h1, e, atI, ixN]
theorem row_all {fs gs : List Nat} {s : Str} (h : RowS fs gs s) : (s.cps.toList.all fun c => decide (c ∈ gs)) = true := List.all_eq_true.mpr fun c hc => by simpa using h.all c hc
theorem x_small_row {s : Str} (h : RowS smallL signL s) (M : Store) : F_is_small_row [.p (.str s)] M = .ok (.p (.bl true)) M := by
  obtain ⟨c, hc, h1⟩ := row_ix h M
  have h2 := h.ne
  have h3 : dNotInX (.p (.str ⟨#[c]⟩)) (.p c_SMALL_LETTERS) M = some (.p (.bl false), M) := by
    show some (D.p (P.bl (!decide (c ∈ smallL))), M) = _
    simp [hc]
  have h4 : dAdd (.p c_SMALL_LETTERS) (.p c_DIGITS) M = some (.p (.str (("abcdefghijklmnopqrstuvwxyz" : Str) ++ ("0123456789" : Str))), M) := v_adds _ _ M (by decide +kernel)
  have h5 : dAdd (.p (.str (("abcdefghijklmnopqrstuvwxyz" : Str) ++ ("0123456789" : Str)))) (.p (.str "_")) M = some (.p (.str (("abcdefghijklmnopqrstuvwxyz" : Str) ++ ("0123456789" : Str) ++ ("_" : Str))), M) := v_adds _ _ M (by decide +kernel)
  have h6 := x_all s (("abcdefghijklmnopqrstuvwxyz" : Str) ++ ("0123456789" : Str) ++ ("_" : Str)) M
  have h7 : (s.cps.toList.all fun c => decide (c ∈ (("abcdefghijklmnopqrstuvwxyz" : Str) ++ ("0123456789" : Str) ++ ("_" : Str)).cps.toList)) = true := row_all h
  rw [h7] at h6
  exact selfF_ok (by simp [m_is_small_row, s_is_small_row_2, s_is_small_row_3, h1, h2, h3, h4, h5, h6]) (by simp)
-- slots: 0:row
noncomputable def m_is_small_name  : RS :=
  (rRet (rAnd (rCallN 1 F_is_small_row (rCons (rVar 0) rNil)) (rNot (rTst truthD (rCallN 1 F_is_word (rCons (rVar 0) rNil))))))

noncomputable def F_is_small_name : List D → Store → R D := selfF 1 m_is_small_name
theorem r_is_small_name : Ref 1 1 F_is_small_name m_is_small_name := ref_self 1 1 m_is_small_name
theorem x_small_name {s : Str} (h : Nm s) (M : Store) : F_is_small_name [.p (.str s)] M = .ok (.p (.bl true)) M := by
  have h1 := x_small_row h.toRowS M
  have h2 := x_word s M
  have h3 := h.word
  exact selfF_ok (by simp [m_is_small_name, h1, h2, h3]) (by simp)
-- slots: 0:row
noncomputable def s_is_great_name_1  : RS :=
  (rRet (rC (.p (.bl false))))
noncomputable def s_is_great_name_2  : RS :=
  (rIfS (rtOr (rTst asBool (rBin dEq (rVar 0) (rC (.p (.str ""))))) (rTst asBool (rBin dNotInX (rBin dIx (rVar 0) (rC (.p (.int 0)))) (rC (.p c_GREAT_LETTERS)))))
  s_is_great_name_1
  rSkip)
noncomputable def s_is_great_name_3  : RS :=
  (rRet (rCallN 2 F_is_all (rCons (rVar 0) (rCons (rBin dAdd (rBin dAdd (rBin dAdd (rC (.p c_SMALL_LETTERS)) (rC (.p c_GREAT_LETTERS))) (rC (.p c_DIGITS))) (rC (.p (.str "_")))) rNil))))
noncomputable def m_is_great_name  : RS :=
  (rSeq s_is_great_name_2
  s_is_great_name_3)

noncomputable def F_is_great_name : List D → Store → R D := selfF 1 m_is_great_name
theorem r_is_great_name : Ref 1 1 F_is_great_name m_is_great_name := ref_self 1 1 m_is_great_name
theorem x_great_name {s : Str} (h : RowS greatL signG s) (M : Store) : F_is_great_name [.p (.str s)] M = .ok (.p (.bl true)) M := by
  obtain ⟨c, hc, h1⟩ := row_ix h M
  have h2 := h.ne
  have h3 : dNotInX (.p (.str ⟨#[c]⟩)) (.p c_GREAT_LETTERS) M = some (.p (.bl false), M) := by
    show some (D.p (P.bl (!decide (c ∈ greatL))), M) = _
    simp [hc]
  have h4 : dAdd (.p c_SMALL_LETTERS) (.p c_GREAT_LETTERS) M = some (.p (.str (("abcdefghijklmnopqrstuvwxyz" : Str) ++ ("ABCDEFGHIJKLMNOPQRSTUVWXYZ" : Str))), M) := v_adds _ _ M (by decide +kernel)
  have h4b : dAdd (.p (.str (("abcdefghijklmnopqrstuvwxyz" : Str) ++ ("ABCDEFGHIJKLMNOPQRSTUVWXYZ" : Str)))) (.p c_DIGITS) M = some (.p (.str (("abcdefghijklmnopqrstuvwxyz" : Str) ++ ("ABCDEFGHIJKLMNOPQRSTUVWXYZ" : Str) ++ ("0123456789" : Str))), M) := v_adds _ _ M (by decide +kernel)
  have h5 : dAdd (.p (.str (("abcdefghijklmnopqrstuvwxyz" : Str) ++ ("ABCDEFGHIJKLMNOPQRSTUVWXYZ" : Str) ++ ("0123456789" : Str)))) (.p (.str "_")) M = some (.p (.str (("abcdefghijklmnopqrstuvwxyz" : Str) ++ ("ABCDEFGHIJKLMNOPQRSTUVWXYZ" : Str) ++ ("0123456789" : Str) ++ ("_" : Str))), M) := v_adds _ _ M (by decide +kernel)
  have h6 := x_all s (("abcdefghijklmnopqrstuvwxyz" : Str) ++ ("ABCDEFGHIJKLMNOPQRSTUVWXYZ" : Str) ++ ("0123456789" : Str) ++ ("_" : Str)) M
  have h7 : (s.cps.toList.all fun c => decide (c ∈ (("abcdefghijklmnopqrstuvwxyz" : Str) ++ ("ABCDEFGHIJKLMNOPQRSTUVWXYZ" : Str) ++ ("0123456789" : Str) ++ ("_" : Str)).cps.toList)) = true := row_all h
  rw [h7] at h6
  exact selfF_ok (by simp [m_is_great_name, s_is_great_name_2, s_is_great_name_3, h1, h2, h3, h4, h4b, h5, h6]) (by simp)
/-! ### items -/
-- slots: 0:value
noncomputable def m_is_told_name  : RS :=
  (rRet (rAnd (rIsa "str" (rVar 0)) (rCallN 1 F_is_small_name (rCons (rVar 0) rNil))))

noncomputable def F_is_told_name : List D → Store → R D := selfF 1 m_is_told_name
theorem r_is_told_name : Ref 1 1 F_is_told_name m_is_told_name := ref_self 1 1 m_is_told_name
theorem x_told_name {s : Str} (h : Nm s) (M : Store) : F_is_told_name [.p (.str s)] M = .ok (.p (.bl true)) M := by
  have h1 := x_small_name h M
  exact selfF_ok (by simp [m_is_told_name, isaT, h1]) (by simp)
-- slots: 0:value
noncomputable def m_is_told_great  : RS :=
  (rRet (rAnd (rIsa "str" (rVar 0)) (rCallN 1 F_is_great_name (rCons (rVar 0) rNil))))

noncomputable def F_is_told_great : List D → Store → R D := selfF 1 m_is_told_great
theorem r_is_told_great : Ref 1 1 F_is_told_great m_is_told_great := ref_self 1 1 m_is_told_great
theorem x_told_great {s : Str} (h : RowS greatL signG s) (M : Store) : F_is_told_great [.p (.str s)] M = .ok (.p (.bl true)) M := by
  have h1 := x_great_name h M
  exact selfF_ok (by simp [m_is_told_great, isaT, h1]) (by simp)
-- slots: 0:value
noncomputable def m_is_told_number  : RS :=
  (rRet (rCallN 3 F_is_between (rCons (rVar 0) (rCons (rC (.p (.int 0))) (rCons (rC (.p c_TOP)) rNil)))))

noncomputable def F_is_told_number : List D → Store → R D := selfF 1 m_is_told_number
theorem r_is_told_number : Ref 1 1 F_is_told_number m_is_told_number := ref_self 1 1 m_is_told_number
theorem x_told_number (x : P) (M : Store) : F_is_told_number [.p x] M = .ok (.p (.bl (between x 0 99999))) M := selfF_ok (by simp [m_is_told_number, F_is_between, c_TOP]) (by simp)
theorem btw (n : Nat) (k : Int) (h : (n : Int) ≤ k) : between (.int n) 0 k = true := by simp [between, h]
abbrev rgP (r : Nat × Nat) : P := .tup [.int r.1, .int r.2]
def rgOk (r : Nat × Nat) : Prop := r.1 ≤ 99999 ∧ r.2 ≤ 99999
structure Rule where
  bit : Nat
  a : Nat × Nat
  b : Nat × Nat
  c : Nat × Nat
abbrev Rule.toP (r : Rule) : P := .tup [.int r.bit, rgP r.a, rgP r.b, rgP r.c]
structure Rule.Ok (r : Rule) : Prop where
  bit : r.bit ≤ 1
  a : rgOk r.a
  b : rgOk r.b
  c : rgOk r.c
theorem ixt (xs : List P) (i : Nat) (x : P) (M : Store) (h : xs[i]? = some x) : dIx (.p (.tup xs)) (.p (.int i)) M = some (.p x, M) := by
  rw [v_ix_t, atI_nat (by rw [List.getElem?_map, h]; rfl)]
  rfl
-- slots: 0:value
noncomputable def m_is_told_range  : RS :=
  (rRet (rAnd (rCallN 2 F_is_tuple_of (rCons (rVar 0) (rCons (rC (.p (.int 2))) rNil))) (rAnd (rCallN 1 F_is_told_number (rCons (rBin dIx (rVar 0) (rC (.p (.int 0)))) rNil)) (rCallN 1 F_is_told_number (rCons (rBin dIx (rVar 0) (rC (.p (.int 1)))) rNil)))))

noncomputable def F_is_told_range : List D → Store → R D := selfF 1 m_is_told_range
theorem r_is_told_range : Ref 1 1 F_is_told_range m_is_told_range := ref_self 1 1 m_is_told_range
theorem x_told_range (r : Nat × Nat) (h : rgOk r) (M : Store) : F_is_told_range [.p (rgP r)] M = .ok (.p (.bl true)) M := by
  have h1 := x_tuple_of [.int r.1, .int r.2] 2 M
  have h2 := x_told_number (.int r.1) M
  have h3 := x_told_number (.int r.2) M
  rw [btw _ _ (by have := h.1; omega)] at h2
  rw [btw _ _ (by have := h.2; omega)] at h3
  have i0 := ixt [.int r.1, .int r.2] 0 _ M rfl
  have i1 := ixt [.int r.1, .int r.2] 1 _ M rfl
  exact selfF_ok (by simp [m_is_told_range, h1, h2, h3, show dIx (.p (.tup [.int r.1, .int r.2])) (.p (.int 0)) M = _ from i0, show dIx (.p (.tup [.int r.1, .int r.2])) (.p (.int 1)) M = _ from i1, -v_ix_t]) (by simp)
-- slots: 0:value
noncomputable def s_is_told_rule_1  : RS :=
  (rRet (rC (.p (.bl false))))
noncomputable def s_is_told_rule_2  : RS :=
  (rIfS (rtOr (rtNot (rTst truthD (rCallN 2 F_is_tuple_of (rCons (rVar 0) (rCons (rBin dAdd (rC (.p (.int 1))) (rC (.p c_RANGES_OF_A_RULE))) rNil))))) (rtNot (rTst truthD (rCallN 1 F_is_bit (rCons (rBin dIx (rVar 0) (rC (.p (.int 0)))) rNil)))))
  s_is_told_rule_1
  rSkip)
noncomputable def s_is_told_rule_3  : RS :=
  (rRet (rAnd (rCallN 1 F_is_told_range (rCons (rBin dIx (rVar 0) (rC (.p (.int 1)))) rNil)) (rAnd (rCallN 1 F_is_told_range (rCons (rBin dIx (rVar 0) (rC (.p (.int 2)))) rNil)) (rCallN 1 F_is_told_range (rCons (rBin dIx (rVar 0) (rC (.p (.int 3)))) rNil)))))
noncomputable def m_is_told_rule  : RS :=
  (rSeq s_is_told_rule_2
  s_is_told_rule_3)

noncomputable def F_is_told_rule : List D → Store → R D := selfF 1 m_is_told_rule
theorem r_is_told_rule : Ref 1 1 F_is_told_rule m_is_told_rule := ref_self 1 1 m_is_told_rule
theorem x_told_rule (r : Rule) (h : r.Ok) (M : Store) : F_is_told_rule [.p r.toP] M = .ok (.p (.bl true)) M := by
  have h1 := x_tuple_of [.int r.bit, rgP r.a, rgP r.b, rgP r.c] 4 M
  have h2 := x_bit (.int r.bit) M
  rw [btw _ _ (by have := h.bit; omega)] at h2
  have h3 := x_told_range _ h.a M
  have h4 := x_told_range _ h.b M
  have h5 := x_told_range _ h.c M
  have i0 : dIx (.p r.toP) (.p (.int 0)) M = _ := ixt [.int r.bit, rgP r.a, rgP r.b, rgP r.c] 0 _ M rfl
  have i1 : dIx (.p r.toP) (.p (.int 1)) M = _ := ixt [.int r.bit, rgP r.a, rgP r.b, rgP r.c] 1 _ M rfl
  have i2 : dIx (.p r.toP) (.p (.int 2)) M = _ := ixt [.int r.bit, rgP r.a, rgP r.b, rgP r.c] 2 _ M rfl
  have i3 : dIx (.p r.toP) (.p (.int 3)) M = _ := ixt [.int r.bit, rgP r.a, rgP r.b, rgP r.c] 3 _ M rfl
  exact selfF_ok (by simp [m_is_told_rule, s_is_told_rule_1, s_is_told_rule_2, s_is_told_rule_3, c_RANGES_OF_A_RULE, h1, h2, h3, h4, h5, i0, i1, i2, i3, -v_ix_t]) (by simp)
-- slots: 0:value 1:rule
noncomputable def s_are_told_rules_1  : RS :=
  (rRet (rC (.p (.bl false))))
noncomputable def s_are_told_rules_2  : RS :=
  (rRet (rC (.p (.bl false))))
noncomputable def s_are_told_rules_3  : RS :=
  (rIfS (rtNot (rTst truthD (rCallN 1 F_is_told_rule (rCons (rVar 1) rNil))))
  s_are_told_rules_2
  rSkip)
noncomputable def s_are_told_rules_4  : RS :=
  (rIfS (rtNot (rTst truthD (rIsa "tuple" (rVar 0))))
  s_are_told_rules_1
  rSkip)
noncomputable def s_are_told_rules_5  : RS :=
  (rFor (rVar 0) (gNm 1)
  s_are_told_rules_3)
noncomputable def s_are_told_rules_6  : RS :=
  (rRet (rC (.p (.bl true))))
noncomputable def m_are_told_rules  : RS :=
  (rSeq s_are_told_rules_4
  (rSeq s_are_told_rules_5
  s_are_told_rules_6))

noncomputable def F_are_told_rules : List D → Store → R D := selfF 2 m_are_told_rules
theorem r_are_told_rules : Ref 1 2 F_are_told_rules m_are_told_rules := ref_self 1 2 m_are_told_rules
theorem x_told_rules (rs : List Rule) (h : ∀ r ∈ rs, r.Ok) (M : Store) : F_are_told_rules [.p (.tup (rs.map Rule.toP))] M = .ok (.p (.bl true)) M := by
  obtain ⟨z, e⟩ := forL_ok (g := gNm 1) (body := s_are_told_rules_3) (fun z => [some (.p (.tup (rs.map Rule.toP))), z]) M ((rs.map Rule.toP).map D.p) (by
    intro x hx z
    obtain ⟨y, hy, rfl⟩ := List.mem_map.mp hx
    obtain ⟨r, hr, rfl⟩ := List.mem_map.mp hy
    have h1 := x_told_rule r (h r hr) M
    exact ⟨_, some (.p r.toP), rfl, by simp [s_are_told_rules_3, h1]⟩) none
  refine selfF_ok ?_ (Nat.le_refl _)
  simp only [m_are_told_rules, s_are_told_rules_4, s_are_told_rules_5, s_are_told_rules_6]
  simp [isaT, -List.map_map]
  rw [show forL none (gNm 1) s_are_told_rules_3 ((rs.map Rule.toP).map D.p) [some (.p (.tup (rs.map Rule.toP))), none] M = _ from e]
  simp

inductive Item where
  | net (n : Str) | host (n m : Str) | door (n i o : Str) (maps lets low high keeps span both turns : Nat) | opn (d : Str) (p : Nat) (n : Str) (q : Nat) | wall (n : Str) (rs : List Rule)
def Item.toP : Item → P
  | .net n => .tup [.str "net", .str n]
  | .host n m => .tup [.str "host", .str n, .str m]
  | .door n i o maps lets low high keeps span both turns => .tup [.str "door", .str n, .str i, .str o, .int maps, .int lets, .int low, .int high, .int keeps, .int span, .int both, .int turns]
  | .opn d p n q => .tup [.str "open", .str d, .int p, .str n, .int q]
  | .wall n rs => .tup [.str "wall", .str n, .tup (rs.map Rule.toP)]
inductive Item.Ok : Item → Prop where
  | net {n : Str} (h : Nm n) : Item.Ok (.net n)
  | host {n m : Str} (h : Nm n) (k : Nm m) : Item.Ok (.host n m)
  | door {n i o : Str} {maps lets low high keeps span both turns : Nat} (hn : Nm n) (hi : Nm i) (ho : Nm o) (h1 : maps ≤ 99999) (h2 : lets ≤ 99999) (h3 : low ≤ 99999) (h4 : high ≤ 99999) (h5 : keeps ≤ 1) (h6 : span ≤ 99999) (h7 : both ≤ 1) (h8 : turns ≤ 1) : Item.Ok (.door n i o maps lets low high keeps span both turns)
  | opn {d n : Str} {p q : Nat} (hd : Nm d) (hn : Nm n) (hp : p ≤ 99999) (hq : q ≤ 99999) : Item.Ok (.opn d p n q)
  | wall {n : Str} {rs : List Rule} (hn : RowS greatL signG n) (h : ∀ r ∈ rs, r.Ok) : Item.Ok (.wall n rs)
-- slots: 0:item
noncomputable def m_is_net  : RS :=
  (rRet (rCallN 1 F_is_told_name (rCons (rBin dIx (rVar 0) (rC (.p (.int 1)))) rNil)))

noncomputable def F_is_net : List D → Store → R D := selfF 1 m_is_net
theorem r_is_net : Ref 1 1 F_is_net m_is_net := ref_self 1 1 m_is_net
theorem x_is_net {n : Str} (h : Nm n) (M : Store) : F_is_net [.p (Item.toP (.net n))] M = .ok (.p (.bl true)) M := by
  have h1 := x_told_name h M
  exact selfF_ok (by simp [m_is_net, Item.toP, atI, ixN, h1]) (by simp)
-- slots: 0:item
noncomputable def m_is_host  : RS :=
  (rRet (rAnd (rCallN 1 F_is_told_name (rCons (rBin dIx (rVar 0) (rC (.p (.int 1)))) rNil)) (rCallN 1 F_is_told_name (rCons (rBin dIx (rVar 0) (rC (.p (.int 2)))) rNil))))

noncomputable def F_is_host : List D → Store → R D := selfF 1 m_is_host
theorem r_is_host : Ref 1 1 F_is_host m_is_host := ref_self 1 1 m_is_host
theorem x_is_host {n m : Str} (h : Nm n) (k : Nm m) (M : Store) : F_is_host [.p (Item.toP (.host n m))] M = .ok (.p (.bl true)) M := by
  have h1 := x_told_name h M
  have h2 := x_told_name k M
  exact selfF_ok (by simp [m_is_host, Item.toP, atI, ixN, h1, h2]) (by simp)
-- slots: 0:item 1:_ 2:name 3:inner 4:outer 5:maps 6:lets 7:low 8:high 9:keeps 10:span 11:both 12:turns
noncomputable def s_is_door_1  : RS :=
  (rRet (rC (.p (.bl false))))
noncomputable def s_is_door_2  : RS :=
  (rRet (rC (.p (.bl false))))
noncomputable def s_is_door_3  : RS :=
  (rRet (rC (.p (.bl false))))
noncomputable def s_is_door_4  : RS :=
  (rAsg (rVar 0) (gTp 12 (gCo (gNm 1) (gCo (gNm 2) (gCo (gNm 3) (gCo (gNm 4) (gCo (gNm 5) (gCo (gNm 6) (gCo (gNm 7) (gCo (gNm 8) (gCo (gNm 9) (gCo (gNm 10) (gCo (gNm 11) (gCo (gNm 12) gNi))))))))))))))
noncomputable def s_is_door_5  : RS :=
  (rIfS (rtNot (rtAnd (rTst truthD (rCallN 1 F_is_told_name (rCons (rVar 2) rNil))) (rtAnd (rTst truthD (rCallN 1 F_is_told_name (rCons (rVar 3) rNil))) (rTst truthD (rCallN 1 F_is_told_name (rCons (rVar 4) rNil))))))
  s_is_door_1
  rSkip)
noncomputable def s_is_door_6  : RS :=
  (rIfS (rtNot (rtAnd (rTst truthD (rCallN 1 F_is_told_number (rCons (rVar 5) rNil))) (rtAnd (rTst truthD (rCallN 1 F_is_told_number (rCons (rVar 6) rNil))) (rTst truthD (rCallN 1 F_is_told_number (rCons (rVar 10) rNil))))))
  s_is_door_2
  rSkip)
noncomputable def s_is_door_7  : RS :=
  (rIfS (rtNot (rtAnd (rTst truthD (rCallN 1 F_is_told_number (rCons (rVar 7) rNil))) (rTst truthD (rCallN 1 F_is_told_number (rCons (rVar 8) rNil)))))
  s_is_door_3
  rSkip)
noncomputable def s_is_door_8  : RS :=
  (rRet (rAnd (rCallN 1 F_is_bit (rCons (rVar 9) rNil)) (rAnd (rCallN 1 F_is_bit (rCons (rVar 11) rNil)) (rCallN 1 F_is_bit (rCons (rVar 12) rNil)))))
noncomputable def m_is_door  : RS :=
  (rSeq s_is_door_4
  (rSeq s_is_door_5
  (rSeq s_is_door_6
  (rSeq s_is_door_7
  s_is_door_8))))

noncomputable def F_is_door : List D → Store → R D := selfF 13 m_is_door
theorem r_is_door : Ref 1 13 F_is_door m_is_door := ref_self 1 13 m_is_door
theorem x_is_door {n i o : Str} {maps lets low high keeps span both turns : Nat} (h : Item.Ok (.door n i o maps lets low high keeps span both turns)) (M : Store) : F_is_door [.p (Item.toP (.door n i o maps lets low high keeps span both turns))] M = .ok (.p (.bl true)) M := by
  cases h with
  | door hn hi ho h1 h2 h3 h4 h5 h6 h7 h8 =>
    have a1 := x_told_name hn M
    have a2 := x_told_name hi M
    have a3 := x_told_name ho M
    have b1 := x_told_number (.int maps) M
    have b2 := x_told_number (.int lets) M
    have b3 := x_told_number (.int low) M
    have b4 := x_told_number (.int high) M
    have b5 := x_told_number (.int span) M
    have c1 := x_bit (.int keeps) M
    have c2 := x_bit (.int both) M
    have c3 := x_bit (.int turns) M
    rw [btw _ _ (by omega)] at b1 b2 b3 b4 b5 c1 c2 c3
    exact selfF_ok (by simp [m_is_door, s_is_door_4, s_is_door_5, s_is_door_6, s_is_door_7, s_is_door_8, Item.toP, a1, a2, a3, b1, b2, b3, b4, b5, c1, c2, c3]) (by simp)
-- slots: 0:item 1:_ 2:door 3:port 4:name 5:inner_port
noncomputable def s_is_open_1  : RS :=
  (rRet (rC (.p (.bl false))))
noncomputable def s_is_open_2  : RS :=
  (rAsg (rVar 0) (gTp 5 (gCo (gNm 1) (gCo (gNm 2) (gCo (gNm 3) (gCo (gNm 4) (gCo (gNm 5) gNi)))))))
noncomputable def s_is_open_3  : RS :=
  (rIfS (rtNot (rtAnd (rTst truthD (rCallN 1 F_is_told_name (rCons (rVar 2) rNil))) (rTst truthD (rCallN 1 F_is_told_name (rCons (rVar 4) rNil)))))
  s_is_open_1
  rSkip)
noncomputable def s_is_open_4  : RS :=
  (rRet (rAnd (rCallN 1 F_is_told_number (rCons (rVar 3) rNil)) (rCallN 1 F_is_told_number (rCons (rVar 5) rNil))))
noncomputable def m_is_open  : RS :=
  (rSeq s_is_open_2
  (rSeq s_is_open_3
  s_is_open_4))

noncomputable def F_is_open : List D → Store → R D := selfF 6 m_is_open
theorem r_is_open : Ref 1 6 F_is_open m_is_open := ref_self 1 6 m_is_open
theorem x_is_open {d n : Str} {p q : Nat} (hd : Nm d) (hn : Nm n) (hp : p ≤ 99999) (hq : q ≤ 99999) (M : Store) : F_is_open [.p (Item.toP (.opn d p n q))] M = .ok (.p (.bl true)) M := by
  have a1 := x_told_name hd M
  have a2 := x_told_name hn M
  have b1 := x_told_number (.int p) M
  have b2 := x_told_number (.int q) M
  rw [btw _ _ (by omega)] at b1 b2
  exact selfF_ok (by simp [m_is_open, s_is_open_2, s_is_open_3, s_is_open_4, Item.toP, a1, a2, b1, b2]) (by simp)
-- slots: 0:item
noncomputable def m_is_wall  : RS :=
  (rRet (rAnd (rCallN 1 F_is_told_great (rCons (rBin dIx (rVar 0) (rC (.p (.int 1)))) rNil)) (rCallN 1 F_are_told_rules (rCons (rBin dIx (rVar 0) (rC (.p (.int 2)))) rNil))))

noncomputable def F_is_wall : List D → Store → R D := selfF 1 m_is_wall
theorem r_is_wall : Ref 1 1 F_is_wall m_is_wall := ref_self 1 1 m_is_wall
theorem x_is_wall {n : Str} {rs : List Rule} (hn : RowS greatL signG n) (h : ∀ r ∈ rs, r.Ok) (M : Store) : F_is_wall [.p (Item.toP (.wall n rs))] M = .ok (.p (.bl true)) M := by
  have a1 := x_told_great hn M
  have a2 := x_told_rules rs h M
  exact selfF_ok (by simp [m_is_wall, Item.toP, atI, ixN, a1, a2]) (by simp)
-- slots: 0:value 1:kind
noncomputable def s_is_item_1  : RS :=
  (rRet (rC (.p (.bl false))))
noncomputable def s_is_item_2  : RS :=
  (rRet (rC (.p (.bl false))))
noncomputable def s_is_item_3  : RS :=
  (rRet (rCallN 1 F_is_net (rCons (rVar 0) rNil)))
noncomputable def s_is_item_4  : RS :=
  (rRet (rCallN 1 F_is_host (rCons (rVar 0) rNil)))
noncomputable def s_is_item_5  : RS :=
  (rRet (rCallN 1 F_is_door (rCons (rVar 0) rNil)))
noncomputable def s_is_item_6  : RS :=
  (rRet (rCallN 1 F_is_open (rCons (rVar 0) rNil)))
noncomputable def s_is_item_7  : RS :=
  (rIfS (rtOr (rtNot (rTst truthD (rIsa "tuple" (rVar 0)))) (rtOr (rtNot (rTst truthD (rVar 0))) (rtNot (rTst truthD (rIsa "str" (rBin dIx (rVar 0) (rC (.p (.int 0)))))))))
  s_is_item_1
  rSkip)
noncomputable def s_is_item_8  : RS :=
  (rSet 1 (rBin dIx (rVar 0) (rC (.p (.int 0)))))
noncomputable def s_is_item_9  : RS :=
  (rIfS (rtOr (rTst asBool (rBin dNotInX (rVar 1) (rC (.p c_KINDS)))) (rTst asBool (rBin dNe (rCB cLen (rCons (rVar 0) rNil)) (rBin (dTab "LENGTHS" t_LENGTHS) (rC (.gl "LENGTHS")) (rVar 1)))))
  s_is_item_2
  rSkip)
noncomputable def s_is_item_10  : RS :=
  (rIfS (rTst asBool (rBin dEq (rVar 1) (rC (.p (.str "net")))))
  s_is_item_3
  rSkip)
noncomputable def s_is_item_11  : RS :=
  (rIfS (rTst asBool (rBin dEq (rVar 1) (rC (.p (.str "host")))))
  s_is_item_4
  rSkip)
noncomputable def s_is_item_12  : RS :=
  (rIfS (rTst asBool (rBin dEq (rVar 1) (rC (.p (.str "door")))))
  s_is_item_5
  rSkip)
noncomputable def s_is_item_13  : RS :=
  (rIfS (rTst asBool (rBin dEq (rVar 1) (rC (.p (.str "open")))))
  s_is_item_6
  rSkip)
noncomputable def s_is_item_14  : RS :=
  (rRet (rCallN 1 F_is_wall (rCons (rVar 0) rNil)))
noncomputable def m_is_item  : RS :=
  (rSeq s_is_item_7
  (rSeq s_is_item_8
  (rSeq s_is_item_9
  (rSeq s_is_item_10
  (rSeq s_is_item_11
  (rSeq s_is_item_12
  (rSeq s_is_item_13
  s_is_item_14)))))))

noncomputable def F_is_item : List D → Store → R D := selfF 2 m_is_item
theorem r_is_item : Ref 1 2 F_is_item m_is_item := ref_self 1 2 m_is_item
theorem kinds_in : ∀ k ∈ (["net", "host", "door", "open", "wall"] : List Str), ∀ M : Store, dNotInX (.p (.str k)) (.p c_KINDS) M = some (.p (.bl false), M) := by
  intro k hk M
  have h := v_notIn_t M (.str k) ((["net", "host", "door", "open", "wall"] : List Str).map P.str) (by simp [P.depth])
  rw [any_strs, decide_eq_true hk] at h
  exact h
theorem lens (M : Store) : dTab "LENGTHS" t_LENGTHS (.gl "LENGTHS") (.p (.str "net")) M = some (.p (.int 2), M) ∧ dTab "LENGTHS" t_LENGTHS (.gl "LENGTHS") (.p (.str "host")) M = some (.p (.int 3), M) ∧
    dTab "LENGTHS" t_LENGTHS (.gl "LENGTHS") (.p (.str "door")) M = some (.p (.int 12), M) ∧ dTab "LENGTHS" t_LENGTHS (.gl "LENGTHS") (.p (.str "open")) M = some (.p (.int 5), M) ∧ dTab "LENGTHS" t_LENGTHS (.gl "LENGTHS") (.p (.str "wall")) M = some (.p (.int 3), M) := by
  refine ⟨v_tab M _ _ _ _ ?_, v_tab M _ _ _ _ ?_, v_tab M _ _ _ _ ?_, v_tab M _ _ _ _ ?_, v_tab M _ _ _ _ ?_⟩ <;> rfl
theorem x_item (it : Item) (h : it.Ok) (M : Store) : F_is_item [.p it.toP] M = .ok (.p (.bl true)) M := by
  obtain ⟨l1, l2, l3, l4, l5⟩ := lens M
  cases h with
  | net hn =>
    have h1 := x_is_net hn M
    have h2 := kinds_in "net" (by simp) M
    simp only [Item.toP] at h1
    exact selfF_ok (by simp [m_is_item, s_is_item_7, s_is_item_8, s_is_item_9, s_is_item_10, s_is_item_3, Item.toP, isaT, atI, ixN, l1, h1, h2]) (by simp)
  | host hn hm =>
    have h1 := x_is_host hn hm M
    have h2 := kinds_in "host" (by simp) M
    simp only [Item.toP] at h1
    exact selfF_ok (by simp [m_is_item, s_is_item_7, s_is_item_8, s_is_item_9, s_is_item_10, s_is_item_11, s_is_item_4, Item.toP, isaT, atI, ixN, l2, h1, h2, str_lit_eq]) (by simp)
  | door hn hi ho k1 k2 k3 k4 k5 k6 k7 k8 =>
    have h1 := x_is_door (.door hn hi ho k1 k2 k3 k4 k5 k6 k7 k8) M
    have h2 := kinds_in "door" (by simp) M
    simp only [Item.toP] at h1
    exact selfF_ok (by simp [m_is_item, s_is_item_7, s_is_item_8, s_is_item_9, s_is_item_10, s_is_item_11, s_is_item_12, s_is_item_5, Item.toP, isaT, atI, ixN, l3, h1, h2, str_lit_eq]) (by simp)
  | opn hd hn hp hq =>
    have h1 := x_is_open hd hn hp hq M
    have h2 := kinds_in "open" (by simp) M
    simp only [Item.toP] at h1
    exact selfF_ok (by simp [m_is_item, s_is_item_7, s_is_item_8, s_is_item_9, s_is_item_10, s_is_item_11, s_is_item_12, s_is_item_13, s_is_item_6, Item.toP, isaT, atI, ixN, l4, h1, h2, str_lit_eq]) (by simp)
  | wall hn hr =>
    have h1 := x_is_wall hn hr M
    have h2 := kinds_in "wall" (by simp) M
    simp only [Item.toP] at h1
    exact selfF_ok (by simp [m_is_item, s_is_item_7, s_is_item_8, s_is_item_9, s_is_item_10, s_is_item_11, s_is_item_12, s_is_item_13, s_is_item_14, Item.toP, isaT, atI, ixN, l5, h1, h2, str_lit_eq, -List.map_map]) (by simp)
-- slots: 0:value 1:item
noncomputable def s_has_shape_1  : RS :=
  (rRet (rC (.p (.bl false))))
noncomputable def s_has_shape_2  : RS :=
  (rRet (rC (.p (.bl false))))
noncomputable def s_has_shape_3  : RS :=
  (rIfS (rtNot (rTst truthD (rCallN 1 F_is_item (rCons (rVar 1) rNil))))
  s_has_shape_2
  rSkip)
noncomputable def s_has_shape_4  : RS :=
  (rIfS (rtNot (rTst truthD (rIsa "tuple" (rVar 0))))
  s_has_shape_1
  rSkip)
noncomputable def s_has_shape_5  : RS :=
  (rFor (rVar 0) (gNm 1)
  s_has_shape_3)
noncomputable def s_has_shape_6  : RS :=
  (rRet (rC (.p (.bl true))))
noncomputable def m_has_shape  : RS :=
  (rSeq s_has_shape_4
  (rSeq s_has_shape_5
  s_has_shape_6))

noncomputable def F_has_shape : List D → Store → R D := selfF 2 m_has_shape
theorem r_has_shape : Ref 1 2 F_has_shape m_has_shape := ref_self 1 2 m_has_shape
theorem x_shape (its : List Item) (h : ∀ it ∈ its, it.Ok) (M : Store) : F_has_shape [.p (.tup (its.map Item.toP))] M = .ok (.p (.bl true)) M := by
  obtain ⟨z, e⟩ := forL_ok (g := gNm 1) (body := s_has_shape_3) (fun z => [some (.p (.tup (its.map Item.toP))), z]) M ((its.map Item.toP).map D.p) (by
    intro x hx z
    obtain ⟨y, hy, rfl⟩ := List.mem_map.mp hx
    obtain ⟨it, hi, rfl⟩ := List.mem_map.mp hy
    have h1 := x_item it (h it hi) M
    exact ⟨_, some (.p it.toP), rfl, by simp [s_has_shape_3, h1]⟩) none
  refine selfF_ok ?_ (Nat.le_refl _)
  simp only [m_has_shape, s_has_shape_4, s_has_shape_5, s_has_shape_6]
  simp [isaT, -List.map_map]
  rw [show forL none (gNm 1) s_has_shape_3 ((its.map Item.toP).map D.p) [some (.p (.tup (its.map Item.toP))), none] M = _ from e]
  simp

theorem ret_fs {ρ : Env} {M : Store} {fs : List RE} {ys : List Str} (h : EvS ρ M fs ys) (hl : fs.length ≤ 200) : bodyR (rRet (rFS fs) ρ M) = .ok (.p (.str (catS ys))) M := by
  rw [e_ret, fs_ok h hl]
  rfl
theorem catS_len : ∀ ys : List Str, (catS ys).length = (ys.map (·.length)).sum
  | [] => rfl
  | y :: ys => by rw [catS, Str.length_append, catS_len ys, List.map_cons, List.sum_cons]
theorem sum_le (B : Nat) : ∀ ys : List Str, (∀ y ∈ ys, y.length ≤ B) → (ys.map (·.length)).sum ≤ ys.length * B
  | [], _ => by simp
  | y :: ys, h => by
    have h1 := h y List.mem_cons_self
    have h2 := sum_le B ys fun z hz => h z (List.mem_cons_of_mem _ hz)
    rw [List.map_cons, List.sum_cons, List.length_cons, Nat.succ_mul]
    omega
theorem num_len (n : Nat) (h : n ≤ 10000000) : (numS (n : Int)).length ≤ 1921 := (numS_len n h).1
theorem fmt_n (n : Nat) (M : Store) (h : n ≤ 10000000) : dFmt (.p (.int n)) M = some (.p (.str (numS n)), M) := v_fmt_i M _ (numS_len n h).2
theorem str_n (n : Nat) (M : Store) (h : n ≤ 10000000) : cStr [.p (.int n)] M = some (.p (.str (numS n)), M) := v_str M _ (numS_len n h).2
theorem fmt_s (y : Str) (M : Store) (h : y.length ≤ 4000) : dFmt (.p (.str y)) M = some (.p (.str y), M) := v_fmt_s M _ (le_line (by omega))
def opt (b : Bool) (s : Str) : List Str := if b then [s] else []
def LS (M : Store) (ys : List Str) : Store := M ++ [.lst (ys.map fun y => D.p (.str y))]
theorem LS_at (M : Store) (ys : List Str) : (LS M ys)[M.length]? = some (.lst (ys.map fun y => D.p (.str y))) := get_new _ _
theorem LS_app (M : Store) (ys : List Str) (y : Str) (h : ys.length ≤ 1000) : mAppend (.ref M.length) [.p (.str y)] (LS M ys) = some (.p .non, LS M (ys ++ [y])) := by
  rw [v_append _ _ _ _ (LS_at M ys) (lt_line (by simp; omega))]
  simp [LS]
theorem LS_lst (M : Store) (ys : List Str) : isLst (.ref M.length) (LS M ys) = true := isLst_ref _ _ _ (LS_at M ys)
theorem LS_pfx (M : Store) (ys : List Str) : M <+: LS M ys := List.prefix_append _ _
-- slots: 0:item
noncomputable def m_net_line  : RS :=
  (rRet (rFS [(rC (.p (.str "net "))), (rUn dFmt (rBin dIx (rVar 0) (rC (.p (.int 1))))), (rC (.p (.str ";")))]))

noncomputable def F_net_line : List D → Store → R D := selfF 1 m_net_line
theorem r_net_line : Ref 1 1 F_net_line m_net_line := ref_self 1 1 m_net_line
theorem x_net_line {n : Str} (h : n.length ≤ 300) (M : Store) : F_net_line [.p (Item.toP (.net n))] M = .ok (.p (.str (catS ["net ", n, ";"]))) M :=
  selfF_ok (ret_fs (.lit (by decide +kernel) (.txt n (by omega) (by simp [Item.toP, atI, ixN, fmt_s n M (by omega)]) (.lit (by decide +kernel) .nil))) (by decide)) (Nat.le_refl _)
-- slots: 0:item
noncomputable def m_host_line  : RS :=
  (rRet (rFS [(rC (.p (.str "host "))), (rUn dFmt (rBin dIx (rVar 0) (rC (.p (.int 1))))), (rC (.p (.str " in "))), (rUn dFmt (rBin dIx (rVar 0) (rC (.p (.int 2))))), (rC (.p (.str ";")))]))

noncomputable def F_host_line : List D → Store → R D := selfF 1 m_host_line
theorem r_host_line : Ref 1 1 F_host_line m_host_line := ref_self 1 1 m_host_line
theorem x_host_line {n m : Str} (h : n.length ≤ 300) (k : m.length ≤ 300) (M : Store) : F_host_line [.p (Item.toP (.host n m))] M = .ok (.p (.str (catS ["host ", n, " in ", m, ";"]))) M :=
  selfF_ok (ret_fs (.lit (by decide +kernel) (.txt n (by omega) (by simp [Item.toP, atI, ixN, fmt_s n M (by omega)]) (.lit (by decide +kernel) (.txt m (by omega) (by simp [Item.toP, atI, ixN, fmt_s m M (by omega)]) (.lit (by decide +kernel) .nil))))) (by decide)) (Nat.le_refl _)
-- slots: 0:item 1:parts 2:_ 3:name 4:inner 5:outer 6:maps 7:lets 8:low 9:high 10:keeps 11:span 12:both 13:turns
noncomputable def s_door_line_1  : RS :=
  (rExpr (rLM mAppend (rVar 1) (rCons (rFS [(rC (.p (.str "maps "))), (rUn dFmt (rVar 6))]) rNil)))
noncomputable def s_door_line_2  : RS :=
  (rExpr (rLM mAppend (rVar 1) (rCons (rFS [(rC (.p (.str "lets "))), (rUn dFmt (rVar 7))]) rNil)))
noncomputable def s_door_line_3  : RS :=
  (rExpr (rLM mAppend (rVar 1) (rCons (rFS [(rC (.p (.str "ports "))), (rUn dFmt (rVar 8)), (rC (.p (.str " to "))), (rUn dFmt (rVar 9))]) rNil)))
noncomputable def s_door_line_4  : RS :=
  (rExpr (rLM mAppend (rVar 1) (rCons (rC (.p (.str "keeps"))) rNil)))
noncomputable def s_door_line_5  : RS :=
  (rExpr (rLM mAppend (rVar 1) (rCons (rFS [(rC (.p (.str "span "))), (rUn dFmt (rVar 11))]) rNil)))
noncomputable def s_door_line_6  : RS :=
  (rExpr (rLM mAppend (rVar 1) (rCons (rC (.p (.str "both"))) rNil)))
noncomputable def s_door_line_7  : RS :=
  (rExpr (rLM mAppend (rVar 1) (rCons (rC (.p (.str "turns"))) rNil)))
noncomputable def s_door_line_8  : RS :=
  (rAsg (rVar 0) (gTp 12 (gCo (gNm 2) (gCo (gNm 3) (gCo (gNm 4) (gCo (gNm 5) (gCo (gNm 6) (gCo (gNm 7) (gCo (gNm 8) (gCo (gNm 9) (gCo (gNm 10) (gCo (gNm 11) (gCo (gNm 12) (gCo (gNm 13) gNi))))))))))))))
noncomputable def s_door_line_9  : RS :=
  (rSet 1 (rLst (rCons (rFS [(rC (.p (.str "door "))), (rUn dFmt (rVar 3)), (rC (.p (.str " from "))), (rUn dFmt (rVar 4)), (rC (.p (.str " to "))), (rUn dFmt (rVar 5))]) rNil)))
noncomputable def s_door_line_10  : RS :=
  (rIfS (rTst asBool (rBin dNe (rVar 6) (rC (.p c_UNWRITTEN_MANNER))))
  s_door_line_1
  rSkip)
noncomputable def s_door_line_11  : RS :=
  (rIfS (rTst asBool (rBin dNe (rVar 7) (rC (.p c_UNWRITTEN_MANNER))))
  s_door_line_2
  rSkip)
noncomputable def s_door_line_12  : RS :=
  (rIfS (rTst asBool (rBin dNe (rTup (rCons (rVar 8) (rCons (rVar 9) rNil))) (rC (.p c_ALL_PORTS))))
  s_door_line_3
  rSkip)
noncomputable def s_door_line_13  : RS :=
  (rIfS (rTst truthD (rVar 10))
  s_door_line_4
  rSkip)
noncomputable def s_door_line_14  : RS :=
  (rIfS (rTst asBool (rBin dNe (rVar 11) (rC (.p c_UNWRITTEN_SPAN))))
  s_door_line_5
  rSkip)
noncomputable def s_door_line_15  : RS :=
  (rIfS (rTst truthD (rVar 12))
  s_door_line_6
  rSkip)
noncomputable def s_door_line_16  : RS :=
  (rIfS (rTst truthD (rVar 13))
  s_door_line_7
  rSkip)
noncomputable def s_door_line_17  : RS :=
  (rRet (rBin dAdd (rSM sJoin (rC (.p (.str " "))) (rVar 1)) (rC (.p (.str ";")))))
noncomputable def m_door_line  : RS :=
  (rSeq s_door_line_8
  (rSeq s_door_line_9
  (rSeq s_door_line_10
  (rSeq s_door_line_11
  (rSeq s_door_line_12
  (rSeq s_door_line_13
  (rSeq s_door_line_14
  (rSeq s_door_line_15
  (rSeq s_door_line_16
  s_door_line_17)))))))))

noncomputable def F_door_line : List D → Store → R D := selfF 14 m_door_line
theorem r_door_line : Ref 1 14 F_door_line m_door_line := ref_self 1 14 m_door_line
abbrev dEnv (x : D) (l : Nat) (n i o : Str) (maps lets low high keeps span both turns : Nat) : Env := [some x, some (.ref l), some (.p (.str "door")), some (.p (.str n)), some (.p (.str i)), some (.p (.str o)), some (.p (.int maps)), some (.p (.int lets)), some (.p (.int low)), some (.p (.int high)), some (.p (.int keeps)), some (.p (.int span)), some (.p (.int both)), some (.p (.int turns))]
def headS (n i o : Str) : Str := catS ["door ", n, " from ", i, " to ", o]
def mapsS (k : Nat) : List Str := opt (decide (k ≠ 1)) (catS ["maps ", numS k])
def letsS (k : Nat) : List Str := opt (decide (k ≠ 1)) (catS ["lets ", numS k])
def portsS (a b : Nat) : List Str := opt (decide (¬ (a = 1 ∧ b = 9999))) (catS ["ports ", numS a, " to ", numS b])
def keepsS (k : Nat) : List Str := opt (decide (k ≠ 0)) "keeps"
def spanS (k : Nat) : List Str := opt (decide (k ≠ 0)) (catS ["span ", numS k])
def bothS (k : Nat) : List Str := opt (decide (k ≠ 0)) "both"
def turnsS (k : Nat) : List Str := opt (decide (k ≠ 0)) "turns"
section
variable (x : D) (n i o : Str) (maps lets low high keeps span both turns : Nat) (M : Store) (ys : List Str) (hy : ys.length ≤ 100)
include hy
theorem dl_maps (h : maps ≤ 99999) : s_door_line_10 (dEnv x M.length n i o maps lets low high keeps span both turns) (LS M ys) = .nx (dEnv x M.length n i o maps lets low high keeps span both turns) (LS M (ys ++ mapsS maps)) := by
  by_cases e : maps = 1
  · subst e
    simp [s_door_line_10, c_UNWRITTEN_MANNER, mapsS, opt]
  · have e2 : ¬ (maps : Int) = 1 := by omega
    have f : rFS [(rC (.p (.str "maps "))), (rUn dFmt (rVar 6))] (dEnv x M.length n i o maps lets low high keeps span both turns) (LS M ys) = _ := fs_ok (.lit (by decide +kernel) (.num (n := maps) (by omega) (by simp [fmt_n maps _ (by omega)]) .nil)) (by decide)
    simp [s_door_line_10, s_door_line_1, c_UNWRITTEN_MANNER, mapsS, opt, e, e2, f, -e_FS, LS_lst, LS_app M ys _ (by omega)]
theorem dl_lets (h : lets ≤ 99999) : s_door_line_11 (dEnv x M.length n i o maps lets low high keeps span both turns) (LS M ys) = .nx (dEnv x M.length n i o maps lets low high keeps span both turns) (LS M (ys ++ letsS lets)) := by
  by_cases e : lets = 1
  · subst e
    simp [s_door_line_11, c_UNWRITTEN_MANNER, letsS, opt]
  · have e2 : ¬ (lets : Int) = 1 := by omega
    have f : rFS [(rC (.p (.str "lets "))), (rUn dFmt (rVar 7))] (dEnv x M.length n i o maps lets low high keeps span both turns) (LS M ys) = _ := fs_ok (.lit (by decide +kernel) (.num (n := lets) (by omega) (by simp [fmt_n lets _ (by omega)]) .nil)) (by decide)
    simp [s_door_line_11, s_door_line_2, c_UNWRITTEN_MANNER, letsS, opt, e, e2, f, -e_FS, LS_lst, LS_app M ys _ (by omega)]
theorem dl_ports (h : low ≤ 99999) (h2 : high ≤ 99999) : s_door_line_12 (dEnv x M.length n i o maps lets low high keeps span both turns) (LS M ys) = .nx (dEnv x M.length n i o maps lets low high keeps span both turns) (LS M (ys ++ portsS low high)) := by
  have q : dNe (.p (.tup [.int low, .int high])) (.p c_ALL_PORTS) (LS M ys) = some (.p (.bl (decide (¬ (low = 1 ∧ high = 9999)))), LS M ys) := by
    have e1 : ((low : Int) = 1) ↔ low = 1 := by omega
    have e2 : ((high : Int) = 9999) ↔ high = 9999 := by omega
    simp [dNe, dOk, c_ALL_PORTS, P.depth, P.depths, v_eqv_tt, v_eqvs_c, v_eqvs_n, e1, e2]
  by_cases e : low = 1 ∧ high = 9999
  · simp only [e, not_true_eq_false, decide_false, and_self] at q
    obtain ⟨rfl, rfl⟩ := e
    have q2 : dNe (.p (.tup [.int 1, .int 9999])) (.p c_ALL_PORTS) (LS M ys) = some (.p (.bl false), LS M ys) := q
    simp [s_door_line_12, q2, portsS, opt]
  · have f : rFS [(rC (.p (.str "ports "))), (rUn dFmt (rVar 8)), (rC (.p (.str " to "))), (rUn dFmt (rVar 9))] (dEnv x M.length n i o maps lets low high keeps span both turns) (LS M ys) = _ := fs_ok (.lit (by decide +kernel) (.num (n := low) (by omega) (by simp [fmt_n low _ (by omega)]) (.lit (by decide +kernel) (.num (n := high) (by omega) (by simp [fmt_n high _ (by omega)]) .nil)))) (by decide)
    simp only [e, not_false_eq_true, decide_true] at q
    simp [s_door_line_12, s_door_line_3, q, portsS, opt, e, f, -e_FS, LS_lst, LS_app M ys _ (by omega)]
theorem dl_keeps : s_door_line_13 (dEnv x M.length n i o maps lets low high keeps span both turns) (LS M ys) = .nx (dEnv x M.length n i o maps lets low high keeps span both turns) (LS M (ys ++ keepsS keeps)) := by
  by_cases e : keeps = 0
  · subst e
    simp [s_door_line_13, keepsS, opt]
  · have e2 : ¬ (keeps : Int) = 0 := by omega
    simp [s_door_line_13, s_door_line_4, keepsS, opt, e, e2, LS_lst, LS_app M ys _ (by omega)]
theorem dl_span (h : span ≤ 99999) : s_door_line_14 (dEnv x M.length n i o maps lets low high keeps span both turns) (LS M ys) = .nx (dEnv x M.length n i o maps lets low high keeps span both turns) (LS M (ys ++ spanS span)) := by
  by_cases e : span = 0
  · subst e
    simp [s_door_line_14, c_UNWRITTEN_SPAN, spanS, opt]
  · have e2 : ¬ (span : Int) = 0 := by omega
    have f : rFS [(rC (.p (.str "span "))), (rUn dFmt (rVar 11))] (dEnv x M.length n i o maps lets low high keeps span both turns) (LS M ys) = _ := fs_ok (.lit (by decide +kernel) (.num (n := span) (by omega) (by simp [fmt_n span _ (by omega)]) .nil)) (by decide)
    simp [s_door_line_14, s_door_line_5, c_UNWRITTEN_SPAN, spanS, opt, e, e2, f, -e_FS, LS_lst, LS_app M ys _ (by omega)]
theorem dl_both : s_door_line_15 (dEnv x M.length n i o maps lets low high keeps span both turns) (LS M ys) = .nx (dEnv x M.length n i o maps lets low high keeps span both turns) (LS M (ys ++ bothS both)) := by
  by_cases e : both = 0
  · subst e
    simp [s_door_line_15, bothS, opt]
  · have e2 : ¬ (both : Int) = 0 := by omega
    simp [s_door_line_15, s_door_line_6, bothS, opt, e, e2, LS_lst, LS_app M ys _ (by omega)]
theorem dl_turns : s_door_line_16 (dEnv x M.length n i o maps lets low high keeps span both turns) (LS M ys) = .nx (dEnv x M.length n i o maps lets low high keeps span both turns) (LS M (ys ++ turnsS turns)) := by
  by_cases e : turns = 0
  · subst e
    simp [s_door_line_16, turnsS, opt]
  · have e2 : ¬ (turns : Int) = 0 := by omega
    simp [s_door_line_16, s_door_line_7, turnsS, opt, e, e2, LS_lst, LS_app M ys _ (by omega)]
end
def doorParts (maps lets low high keeps span both turns : Nat) : List Str := mapsS maps ++ letsS lets ++ portsS low high ++ keepsS keeps ++ spanS span ++ bothS both ++ turnsS turns
def doorS (n i o : Str) (maps lets low high keeps span both turns : Nat) : Str := Txt.join (" " : Str) (headS n i o :: doorParts maps lets low high keeps span both turns) ++ (";" : Str)
theorem opt_len (b : Bool) (s : Str) : (opt b s).length ≤ 1 := by unfold opt; split <;> simp
theorem opt_short {b : Bool} {s : Str} {k : Nat} (h : s.length ≤ k) : ∀ y ∈ opt b s, y.length ≤ k := by
  intro y hy
  unfold opt at hy
  split at hy
  · rw [List.mem_singleton.mp hy]; exact h
  · cases hy
theorem app_short {xs ys : List Str} {k : Nat} (h1 : ∀ y ∈ xs, y.length ≤ k) (h2 : ∀ y ∈ ys, y.length ≤ k) : ∀ y ∈ xs ++ ys, y.length ≤ k := fun y hy => (List.mem_append.mp hy).elim (h1 y) (h2 y)
theorem doorParts_short (maps lets low high keeps span both turns : Nat) (h1 : maps ≤ 99999) (h2 : lets ≤ 99999) (h3 : low ≤ 99999) (h4 : high ≤ 99999) (h6 : span ≤ 99999) :
    (doorParts maps lets low high keeps span both turns).length ≤ 7 ∧ ∀ y ∈ doorParts maps lets low high keeps span both turns, y.length ≤ 4000 := by
  constructor
  · have l1 : (mapsS maps).length ≤ 1 := opt_len _ _
    have l2 : (letsS lets).length ≤ 1 := opt_len _ _
    have l3 : (portsS low high).length ≤ 1 := opt_len _ _
    have l4 : (keepsS keeps).length ≤ 1 := opt_len _ _
    have l5 : (spanS span).length ≤ 1 := opt_len _ _
    have l6 : (bothS both).length ≤ 1 := opt_len _ _
    have l7 : (turnsS turns).length ≤ 1 := opt_len _ _
    unfold doorParts
    simp only [List.length_append]
    omega
  · have n1 := num_len maps (by omega)
    have n2 := num_len lets (by omega)
    have n3 := num_len low (by omega)
    have n4 := num_len high (by omega)
    have n5 := num_len span (by omega)
    unfold doorParts
    refine app_short (app_short (app_short (app_short (app_short (app_short (opt_short ?_) (opt_short ?_)) (opt_short ?_)) (opt_short (by decide +kernel))) (opt_short ?_)) (opt_short (by decide +kernel))) (opt_short (by decide +kernel)) <;> (rw [catS_len]; simp; omega)
theorem headS_len {n i o : Str} (hn : n.length ≤ 300) (hi : i.length ≤ 300) (ho : o.length ≤ 300) : (headS n i o).length ≤ 1000 := by
  unfold headS
  rw [catS_len]
  simp
  omega
theorem x_door_line {n i o : Str} {maps lets low high keeps span both turns : Nat} (hn : n.length ≤ 300) (hi : i.length ≤ 300) (ho : o.length ≤ 300) (h1 : maps ≤ 99999) (h2 : lets ≤ 99999) (h3 : low ≤ 99999) (h4 : high ≤ 99999) (h6 : span ≤ 99999) (M : Store) :
    F_door_line [.p (Item.toP (.door n i o maps lets low high keeps span both turns))] M = .ok (.p (.str (doorS n i o maps lets low high keeps span both turns))) (LS M (headS n i o :: doorParts maps lets low high keeps span both turns)) := by
  obtain ⟨p1, p2⟩ := doorParts_short maps lets low high keeps span both turns h1 h2 h3 h4 h6
  have hl := headS_len hn hi ho
  have f : rFS [(rC (.p (.str "door "))), (rUn dFmt (rVar 3)), (rC (.p (.str " from "))), (rUn dFmt (rVar 4)), (rC (.p (.str " to "))), (rUn dFmt (rVar 5))] [some (.p (Item.toP (.door n i o maps lets low high keeps span both turns))), none, some (.p (.str "door")), some (.p (.str n)), some (.p (.str i)), some (.p (.str o)), some (.p (.int maps)), some (.p (.int lets)), some (.p (.int low)), some (.p (.int high)), some (.p (.int keeps)), some (.p (.int span)), some (.p (.int both)), some (.p (.int turns))] M = .ok (.p (.str (headS n i o))) M :=
    fs_ok (.lit (by decide +kernel) (.txt n (by omega) (by simp [fmt_s n M (by omega)]) (.lit (by decide +kernel) (.txt i (by omega) (by simp [fmt_s i M (by omega)]) (.lit (by decide +kernel) (.txt o (by omega) (by simp [fmt_s o M (by omega)]) .nil)))))) (by decide)
  have s8 : s_door_line_8 (startD 14 [.p (Item.toP (.door n i o maps lets low high keeps span both turns))]) M = .nx [some (.p (Item.toP (.door n i o maps lets low high keeps span both turns))), none, some (.p (.str "door")), some (.p (.str n)), some (.p (.str i)), some (.p (.str o)), some (.p (.int maps)), some (.p (.int lets)), some (.p (.int low)), some (.p (.int high)), some (.p (.int keeps)), some (.p (.int span)), some (.p (.int both)), some (.p (.int turns))] M := by
    simp [s_door_line_8, Item.toP]
  have s9 : s_door_line_9 [some (.p (Item.toP (.door n i o maps lets low high keeps span both turns))), none, some (.p (.str "door")), some (.p (.str n)), some (.p (.str i)), some (.p (.str o)), some (.p (.int maps)), some (.p (.int lets)), some (.p (.int low)), some (.p (.int high)), some (.p (.int keeps)), some (.p (.int span)), some (.p (.int both)), some (.p (.int turns))] M = .nx (dEnv (.p (Item.toP (.door n i o maps lets low high keeps span both turns))) M.length n i o maps lets low high keeps span both turns) (LS M [headS n i o]) := by
    simp [s_door_line_9, f, -e_FS, LS]
  generalize (D.p (Item.toP (.door n i o maps lets low high keeps span both turns))) = x at s8 s9
  have a1 : (mapsS maps).length ≤ 1 := opt_len _ _
  have a2 : (letsS lets).length ≤ 1 := opt_len _ _
  have a3 : (portsS low high).length ≤ 1 := opt_len _ _
  have a4 : (keepsS keeps).length ≤ 1 := opt_len _ _
  have a5 : (spanS span).length ≤ 1 := opt_len _ _
  have a6 : (bothS both).length ≤ 1 := opt_len _ _
  have t1 := dl_maps x n i o maps lets low high keeps span both turns M [headS n i o] (by simp) h1
  have t2 := dl_lets x n i o maps lets low high keeps span both turns M ([headS n i o] ++ mapsS maps) (by simp only [List.length_append, List.length_cons, List.length_nil]; omega) h2
  have t3 := dl_ports x n i o maps lets low high keeps span both turns M ([headS n i o] ++ mapsS maps ++ letsS lets) (by simp only [List.length_append, List.length_cons, List.length_nil]; omega) h3 h4
  have t4 := dl_keeps x n i o maps lets low high keeps span both turns M ([headS n i o] ++ mapsS maps ++ letsS lets ++ portsS low high) (by simp only [List.length_append, List.length_cons, List.length_nil]; omega)
  have t5 := dl_span x n i o maps lets low high keeps span both turns M ([headS n i o] ++ mapsS maps ++ letsS lets ++ portsS low high ++ keepsS keeps) (by simp only [List.length_append, List.length_cons, List.length_nil]; omega) h6
  have t6 := dl_both x n i o maps lets low high keeps span both turns M ([headS n i o] ++ mapsS maps ++ letsS lets ++ portsS low high ++ keepsS keeps ++ spanS span) (by simp only [List.length_append, List.length_cons, List.length_nil]; omega)
  have t7 := dl_turns x n i o maps lets low high keeps span both turns M ([headS n i o] ++ mapsS maps ++ letsS lets ++ portsS low high ++ keepsS keeps ++ spanS span ++ bothS both) (by simp only [List.length_append, List.length_cons, List.length_nil]; omega)
  have eP : [headS n i o] ++ mapsS maps ++ letsS lets ++ portsS low high ++ keepsS keeps ++ spanS span ++ bothS both ++ turnsS turns = headS n i o :: doorParts maps lets low high keeps span both turns := by
    simp [doorParts]
  rw [eP] at t7
  have hsum := sum_le 4000 (headS n i o :: doorParts maps lets low high keeps span both turns) (by
    intro y hy
    rcases List.mem_cons.mp hy with rfl | hy
    · omega
    · exact p2 y hy)
  have hcons : (headS n i o :: doorParts maps lets low high keeps span both turns).length ≤ 8 := by rw [List.length_cons]; omega
  have hj := v_join (LS M (headS n i o :: doorParts maps lets low high keeps span both turns)) (" " : Str) M.length _ (LS_at M _) (by
    rw [show (" " : Str).length = 1 by decide +kernel]
    omega)
  have hjl : (Txt.join (" " : Str) (headS n i o :: doorParts maps lets low high keeps span both turns)).length ≤ 100000 := by
    rw [join_cons, Str.length_append, catS_len]
    have h := sum_le 4001 ((doorParts maps lets low high keeps span both turns).map ((" " : Str) ++ ·)) (by
      intro y hy
      obtain ⟨z, hz, rfl⟩ := List.mem_map.mp hy
      rw [Str.length_append, show (" " : Str).length = 1 by decide +kernel]
      have := p2 z hz
      omega)
    rw [List.length_map] at h
    omega
  have hadd := v_adds (Txt.join (" " : Str) (headS n i o :: doorParts maps lets low high keeps span both turns)) (";" : Str) (LS M (headS n i o :: doorParts maps lets low high keeps span both turns)) (by rw [show (";" : Str).length = 1 by decide +kernel]; omega)
  have t8 : s_door_line_17 (dEnv x M.length n i o maps lets low high keeps span both turns) (LS M (headS n i o :: doorParts maps lets low high keeps span both turns)) = .rt (.p (.str (doorS n i o maps lets low high keeps span both turns))) (LS M (headS n i o :: doorParts maps lets low high keeps span both turns)) := by
    simp [s_door_line_17, hj, hadd, doorS]
  refine selfF_ok ?_ (pfx_len (LS_pfx _ _))
  unfold m_door_line
  rw [e_seq, s8, Out.bind_nx, e_seq, s9, Out.bind_nx, e_seq, t1, Out.bind_nx, e_seq, t2, Out.bind_nx, e_seq, t3, Out.bind_nx, e_seq, t4, Out.bind_nx, e_seq, t5, Out.bind_nx, e_seq, t6, Out.bind_nx, e_seq, t7, Out.bind_nx, t8]
  rfl
-- slots: 0:item
noncomputable def m_open_line  : RS :=
  (rRet (rFS [(rC (.p (.str "open "))), (rUn dFmt (rBin dIx (rVar 0) (rC (.p (.int 1))))), (rC (.p (.str ":"))), (rUn dFmt (rBin dIx (rVar 0) (rC (.p (.int 2))))), (rC (.p (.str " to "))), (rUn dFmt (rBin dIx (rVar 0) (rC (.p (.int 3))))), (rC (.p (.str ":"))), (rUn dFmt (rBin dIx (rVar 0) (rC (.p (.int 4))))), (rC (.p (.str ";")))]))

noncomputable def F_open_line : List D → Store → R D := selfF 1 m_open_line
theorem r_open_line : Ref 1 1 F_open_line m_open_line := ref_self 1 1 m_open_line
def openS (d : Str) (p : Nat) (n : Str) (q : Nat) : Str := catS ["open ", d, ":", numS p, " to ", n, ":", numS q, ";"]
theorem x_open_line {d n : Str} {p q : Nat} (hd : d.length ≤ 300) (hn : n.length ≤ 300) (hp : p ≤ 99999) (hq : q ≤ 99999) (M : Store) : F_open_line [.p (Item.toP (.opn d p n q))] M = .ok (.p (.str (openS d p n q))) M :=
  selfF_ok (ret_fs (.lit (by decide +kernel) (.txt d (by omega) (by simp [Item.toP, atI, ixN, fmt_s d M (by omega)]) (.lit (by decide +kernel) (.num (n := p) (by omega) (by simp [Item.toP, atI, ixN, fmt_n p M (by omega)]) (.lit (by decide +kernel)
    (.txt n (by omega) (by simp [Item.toP, atI, ixN, fmt_s n M (by omega)]) (.lit (by decide +kernel) (.num (n := q) (by omega) (by simp [Item.toP, atI, ixN, fmt_n q M (by omega)]) (.lit (by decide +kernel) .nil))))))))) (by decide)) (Nat.le_refl _)
-- slots: 0:told 1:least 2:greatest
noncomputable def s_range_words_1  : RS :=
  (rRet (rC (.p (.str "any"))))
noncomputable def s_range_words_2  : RS :=
  (rRet (rUn dFmt (rVar 1)))
noncomputable def s_range_words_3  : RS :=
  (rAsg (rVar 0) (gTp 2 (gCo (gNm 1) (gCo (gNm 2) gNi))))
noncomputable def s_range_words_4  : RS :=
  (rIfS (rTst asBool (rBin dEq (rVar 0) (rC (.p c_ANY))))
  s_range_words_1
  rSkip)
noncomputable def s_range_words_5  : RS :=
  (rIfS (rTst asBool (rBin dEq (rVar 1) (rVar 2)))
  s_range_words_2
  rSkip)
noncomputable def s_range_words_6  : RS :=
  (rRet (rFS [(rUn dFmt (rVar 1)), (rC (.p (.str " to "))), (rUn dFmt (rVar 2))]))
noncomputable def m_range_words  : RS :=
  (rSeq s_range_words_3
  (rSeq s_range_words_4
  (rSeq s_range_words_5
  s_range_words_6)))

noncomputable def F_range_words : List D → Store → R D := selfF 3 m_range_words
theorem r_range_words : Ref 1 3 F_range_words m_range_words := ref_self 1 3 m_range_words
def rgS (r : Nat × Nat) : Str := if r.1 = 0 ∧ r.2 = 99999 then "any" else if r.1 = r.2 then numS r.1 else catS [numS r.1, " to ", numS r.2]
theorem rgS_len (r : Nat × Nat) (h : rgOk r) : (rgS r).length ≤ 3900 := by
  obtain ⟨h1, h2⟩ := h
  unfold rgS
  have n1 := num_len r.1 (by omega)
  have n2 := num_len r.2 (by omega)
  split
  · decide +kernel
  · split
    · omega
    · rw [catS_len]
      simp
      omega
theorem rg_any (r : Nat × Nat) (M : Store) : dEq (.p (rgP r)) (.p (.tup [.int 0, .int 99999])) M = some (.p (.bl (decide (r.1 = 0 ∧ r.2 = 99999))), M) := by
  have e1 : ((r.1 : Int) = 0) ↔ r.1 = 0 := by omega
  have e2 : ((r.2 : Int) = 99999) ↔ r.2 = 99999 := by omega
  simp [dEq, dOk, P.depth, P.depths, v_eqv_tt, v_eqvs_c, v_eqvs_n, e1, e2]
theorem x_range_words (r : Nat × Nat) (h : rgOk r) (M : Store) : F_range_words [.p (rgP r)] M = .ok (.p (.str (rgS r))) M := by
  obtain ⟨h1, h2⟩ := h
  have f1 := fmt_n r.1 M (by omega)
  have q := rg_any r M
  refine selfF_ok ?_ (Nat.le_refl _)
  unfold rgS
  by_cases e : r.1 = 0 ∧ r.2 = 99999
  · rw [if_pos e]
    simp only [e, decide_true, and_self] at q
    simp [m_range_words, s_range_words_3, s_range_words_4, s_range_words_1, show dEq (.p (.tup [.int r.1, .int r.2])) (.p c_ANY) M = _ from q]
  · rw [if_neg e]
    simp only [e, decide_false] at q
    by_cases e2 : r.1 = r.2
    · rw [if_pos e2]
      have e3 : (r.1 : Int) = r.2 := by omega
      simp [m_range_words, s_range_words_3, s_range_words_4, s_range_words_5, s_range_words_2, show dEq (.p (.tup [.int r.1, .int r.2])) (.p c_ANY) M = _ from q, e3, f1, e2, fmt_n r.2 M (by omega)]
    · rw [if_neg e2]
      have e3 : ¬ (r.1 : Int) = r.2 := by omega
      have f := ret_fs (ρ := [some (.p (rgP r)), some (.p (.int r.1)), some (.p (.int r.2))]) (M := M) (fs := [(rUn dFmt (rVar 1)), (rC (.p (.str " to "))), (rUn dFmt (rVar 2))]) (.num (n := r.1) (by omega) (by simp [f1]) (.lit (by decide +kernel) (.num (n := r.2) (by omega) (by simp [fmt_n r.2 M (by omega)]) .nil))) (by decide)
      rw [← f]
      simp [m_range_words, s_range_words_3, s_range_words_4, s_range_words_5, s_range_words_6, show dEq (.p (.tup [.int r.1, .int r.2])) (.p c_ANY) M = _ from q, e3, -e_FS]
-- slots: 0:rule 1:word 2:bit 3:first 4:second 5:third
noncomputable def s_rule_line_1  : RS :=
  (rAsg (rVar 0) (gTp 4 (gCo (gNm 2) (gCo (gNm 3) (gCo (gNm 4) (gCo (gNm 5) gNi))))))
noncomputable def s_rule_line_2  : RS :=
  (rSet 1 (rIf (rTst truthD (rVar 2)) (rC (.p (.str "let"))) (rC (.p (.str "stop")))))
noncomputable def s_rule_line_3  : RS :=
  (rRet (rFS [(rC (.p (.str "  "))), (rUn dFmt (rVar 1)), (rC (.p (.str " "))), (rUn dFmt (rCallN 1 F_range_words (rCons (rVar 3) rNil))), (rC (.p (.str ", "))), (rUn dFmt (rCallN 1 F_range_words (rCons (rVar 4) rNil))), (rC (.p (.str ", "))), (rUn dFmt (rCallN 1 F_range_words (rCons (rVar 5) rNil))), (rC (.p (.str ";")))]))
noncomputable def m_rule_line  : RS :=
  (rSeq s_rule_line_1
  (rSeq s_rule_line_2
  s_rule_line_3))

noncomputable def F_rule_line : List D → Store → R D := selfF 6 m_rule_line
theorem r_rule_line : Ref 1 6 F_rule_line m_rule_line := ref_self 1 6 m_rule_line
def ruleS (r : Rule) : Str := catS ["  ", if r.bit = 0 then "stop" else "let", " ", rgS r.a, ", ", rgS r.b, ", ", rgS r.c, ";"]
theorem x_rule_line (r : Rule) (h : r.Ok) (M : Store) : F_rule_line [.p r.toP] M = .ok (.p (.str (ruleS r))) M := by
  have a1 := x_range_words r.a h.a M
  have a2 := x_range_words r.b h.b M
  have a3 := x_range_words r.c h.c M
  have l1 := rgS_len r.a h.a
  have l2 := rgS_len r.b h.b
  have l3 := rgS_len r.c h.c
  obtain ⟨w, hw, hl, he⟩ : ∃ w : Str, (if r.bit = 0 then ("stop" : Str) else "let") = w ∧ w.length ≤ 10 ∧ s_rule_line_2 [some (.p r.toP), none, some (.p (.int r.bit)), some (.p (rgP r.a)), some (.p (rgP r.b)), some (.p (rgP r.c))] M = .nx [some (.p r.toP), some (.p (.str w)), some (.p (.int r.bit)), some (.p (rgP r.a)), some (.p (rgP r.b)), some (.p (rgP r.c))] M := by
    by_cases e : r.bit = 0
    · exact ⟨"stop", by rw [if_pos e], by decide +kernel, by simp [s_rule_line_2, e]⟩
    · have e2 : ¬ (r.bit : Int) = 0 := by omega
      exact ⟨"let", by rw [if_neg e], by decide +kernel, by simp [s_rule_line_2, e]⟩
  have f := ret_fs (ρ := [some (.p r.toP), some (.p (.str w)), some (.p (.int r.bit)), some (.p (rgP r.a)), some (.p (rgP r.b)), some (.p (rgP r.c))]) (M := M) (fs := [(rC (.p (.str "  "))), (rUn dFmt (rVar 1)), (rC (.p (.str " "))), (rUn dFmt (rCallN 1 F_range_words (rCons (rVar 3) rNil))), (rC (.p (.str ", "))), (rUn dFmt (rCallN 1 F_range_words (rCons (rVar 4) rNil))), (rC (.p (.str ", "))), (rUn dFmt (rCallN 1 F_range_words (rCons (rVar 5) rNil))), (rC (.p (.str ";")))])
    (.lit (by decide +kernel) (.txt w (by omega) (by simp [fmt_s w M (by omega)]) (.lit (by decide +kernel) (.txt (rgS r.a) (by omega) (by simp [a1, fmt_s (rgS r.a) M (by omega)]) (.lit (by decide +kernel) (.txt (rgS r.b) (by omega) (by simp [a2, fmt_s (rgS r.b) M (by omega)]) (.lit (by decide +kernel) (.txt (rgS r.c) (by omega) (by simp [a3, fmt_s (rgS r.c) M (by omega)]) (.lit (by decide +kernel) .nil))))))))) (by decide)
  refine selfF_ok ?_ (Nat.le_refl _)
  unfold ruleS
  rw [hw, ← f]
  have e1 : s_rule_line_1 (startD 6 [.p r.toP]) M = .nx [some (.p r.toP), none, some (.p (.int r.bit)), some (.p (rgP r.a)), some (.p (rgP r.b)), some (.p (rgP r.c))] M := by simp [s_rule_line_1]
  unfold m_rule_line
  rw [e_seq, e1, Out.bind_nx, e_seq, he, Out.bind_nx]
  rfl
theorem ruleS_len (r : Rule) (h : r.Ok) : (ruleS r).length ≤ 13000 := by
  have l1 := rgS_len r.a h.a
  have l2 := rgS_len r.b h.b
  have l3 := rgS_len r.c h.c
  have l4 : (if r.bit = 0 then ("stop" : Str) else "let").length ≤ 10 := by split <;> decide +kernel
  unfold ruleS
  rw [catS_len]
  simp
  omega
-- slots: 0:item 1:lines 2:rule
noncomputable def s_wall_lines_1  : RS :=
  (rExpr (rLM mAppend (rVar 1) (rCons (rCallN 1 F_rule_line (rCons (rVar 2) rNil)) rNil)))
noncomputable def s_wall_lines_2  : RS :=
  (rSet 1 (rLst (rCons (rFS [(rC (.p (.str "wall "))), (rUn dFmt (rBin dIx (rVar 0) (rC (.p (.int 1))))), (rC (.p (.str ";")))]) rNil)))
noncomputable def s_wall_lines_3  : RS :=
  (rFor (rBin dIx (rVar 0) (rC (.p (.int 2)))) (gNm 2)
  s_wall_lines_1)
noncomputable def s_wall_lines_4  : RS :=
  (rExpr (rLM mAppend (rVar 1) (rCons (rC (.p (.str "end;"))) rNil)))
noncomputable def s_wall_lines_5  : RS :=
  (rRet (rVar 1))
noncomputable def m_wall_lines  : RS :=
  (rSeq s_wall_lines_2
  (rSeq s_wall_lines_3
  (rSeq s_wall_lines_4
  s_wall_lines_5)))

noncomputable def F_wall_lines : List D → Store → R D := selfF 3 m_wall_lines
theorem r_wall_lines : Ref 1 3 F_wall_lines m_wall_lines := ref_self 1 3 m_wall_lines
def wallLines (n : Str) (rs : List Rule) : List Str := catS ["wall ", n, ";"] :: rs.map ruleS ++ [("end;" : Str)]
theorem x_wall_lines {n : Str} {rs : List Rule} (hn : n.length ≤ 300) (hr : ∀ r ∈ rs, r.Ok) (hl : rs.length ≤ 400) (M : Store) : F_wall_lines [.p (Item.toP (.wall n rs))] M = .ok (.ref M.length) (LS M (wallLines n rs)) := by
  have f : rFS [(rC (.p (.str "wall "))), (rUn dFmt (rBin dIx (rVar 0) (rC (.p (.int 1))))), (rC (.p (.str ";")))] (startD 3 [.p (Item.toP (.wall n rs))]) M = .ok (.p (.str (catS ["wall ", n, ";"]))) M := fs_ok (.lit (by decide +kernel) (.txt n (by omega) (by simp [Item.toP, atI, ixN, fmt_s n M (by omega)]) (.lit (by decide +kernel) .nil))) (by decide)
  have h1 : s_wall_lines_2 (startD 3 [.p (Item.toP (.wall n rs))]) M = .nx [some (.p (Item.toP (.wall n rs))), some (.ref M.length), none] (LS M [catS ["wall ", n, ";"]]) := by
    simp only [s_wall_lines_2, e_set, e_lst, e_cons, f]
    simp [LS]
  have loop : ∀ (qs : List Rule) (ys : List Str) (z : Option D), (∀ r ∈ qs, r.Ok) → ys.length + qs.length ≤ 900 → ∃ z', forL none (gNm 2) s_wall_lines_1 (qs.map fun r => D.p r.toP) [some (.p (Item.toP (.wall n rs))), some (.ref M.length), z] (LS M ys) = .nx [some (.p (Item.toP (.wall n rs))), some (.ref M.length), z'] (LS M (ys ++ qs.map ruleS)) := by
    intro qs
    induction qs with
    | nil => intro ys z _ _; exact ⟨z, by simp⟩
    | cons r qs ih =>
      intro ys z hq hlen
      have h2 := x_rule_line r (hq r List.mem_cons_self) (LS M ys)
      simp only [List.length_cons] at hlen
      obtain ⟨z', e⟩ := ih (ys ++ [ruleS r]) (some (.p r.toP)) (fun q hq2 => hq q (List.mem_cons_of_mem _ hq2)) (by simp; omega)
      refine ⟨z', ?_⟩
      rw [List.map_cons, forL0_cons, e_gNm, oK_some]
      have e2 : s_wall_lines_1 ([some (.p (Item.toP (.wall n rs))), some (.ref M.length), z].set 2 (some (.p r.toP))) (LS M ys) = .nx [some (.p (Item.toP (.wall n rs))), some (.ref M.length), some (.p r.toP)] (LS M (ys ++ [ruleS r])) := by
        simp [s_wall_lines_1, h2, LS_lst, LS_app M ys _ (by omega)]
      rw [e2, loopK_nx, e]
      simp
  obtain ⟨z', e⟩ := loop rs [catS ["wall ", n, ";"]] none hr (by simp; omega)
  refine selfF_ok ?_ (pfx_len (LS_pfx _ _))
  unfold m_wall_lines
  rw [e_seq, h1, Out.bind_nx]
  have ix : dIx (.p (Item.toP (.wall n rs))) (.p (.int 2)) (LS M [catS ["wall ", n, ";"]]) = some (.p (.tup (rs.map Rule.toP)), LS M [catS ["wall ", n, ";"]]) := ixt _ 2 _ _ rfl
  have em : (rs.map Rule.toP).map D.p = rs.map fun r => D.p r.toP := by rw [List.map_map]; rfl
  have ap := LS_app M (catS ["wall ", n, ";"] :: rs.map ruleS) ("end;" : Str) (by simp; omega)
  simp [s_wall_lines_3, s_wall_lines_4, s_wall_lines_5, ix, -List.map_map, em, e, LS_lst, ap, wallLines, -v_ix_t]
-- slots: 0:item 1:kind
noncomputable def s_item_lines_1  : RS :=
  (rRet (rLst (rCons (rCallN 1 F_net_line (rCons (rVar 0) rNil)) rNil)))
noncomputable def s_item_lines_2  : RS :=
  (rRet (rLst (rCons (rCallN 1 F_host_line (rCons (rVar 0) rNil)) rNil)))
noncomputable def s_item_lines_3  : RS :=
  (rRet (rLst (rCons (rCallN 1 F_door_line (rCons (rVar 0) rNil)) rNil)))
noncomputable def s_item_lines_4  : RS :=
  (rRet (rLst (rCons (rCallN 1 F_open_line (rCons (rVar 0) rNil)) rNil)))
noncomputable def s_item_lines_5  : RS :=
  (rSet 1 (rBin dIx (rVar 0) (rC (.p (.int 0)))))
noncomputable def s_item_lines_6  : RS :=
  (rIfS (rTst asBool (rBin dEq (rVar 1) (rC (.p (.str "net")))))
  s_item_lines_1
  rSkip)
noncomputable def s_item_lines_7  : RS :=
  (rIfS (rTst asBool (rBin dEq (rVar 1) (rC (.p (.str "host")))))
  s_item_lines_2
  rSkip)
noncomputable def s_item_lines_8  : RS :=
  (rIfS (rTst asBool (rBin dEq (rVar 1) (rC (.p (.str "door")))))
  s_item_lines_3
  rSkip)
noncomputable def s_item_lines_9  : RS :=
  (rIfS (rTst asBool (rBin dEq (rVar 1) (rC (.p (.str "open")))))
  s_item_lines_4
  rSkip)
noncomputable def s_item_lines_10  : RS :=
  (rRet (rCallN 1 F_wall_lines (rCons (rVar 0) rNil)))
noncomputable def m_item_lines  : RS :=
  (rSeq s_item_lines_5
  (rSeq s_item_lines_6
  (rSeq s_item_lines_7
  (rSeq s_item_lines_8
  (rSeq s_item_lines_9
  s_item_lines_10)))))

noncomputable def F_item_lines : List D → Store → R D := selfF 2 m_item_lines
theorem r_item_lines : Ref 1 2 F_item_lines m_item_lines := ref_self 1 2 m_item_lines
def linesOf : Item → List Str
  | .net n => [catS ["net ", n, ";"]]
  | .host n m => [catS ["host ", n, " in ", m, ";"]]
  | .door n i o maps lets low high keeps span both turns => [doorS n i o maps lets low high keeps span both turns]
  | .opn d p n q => [openS d p n q]
  | .wall n rs => wallLines n rs
def Item.Sm : Item → Prop
  | .wall _ rs => rs.length ≤ 20
  | _ => True
theorem x_item_lines (it : Item) (h : it.Ok) (hs : it.Sm) (M : Store) : ∃ M' l, F_item_lines [.p it.toP] M = .ok (.ref l) M' ∧ M <+: M' ∧ M.length ≤ l ∧ M'[l]? = some (.lst ((linesOf it).map fun y => D.p (.str y))) := by
  cases h with
  | @net n hn =>
    have h1 := x_net_line hn.len M
    simp only [Item.toP] at h1
    refine ⟨LS M (linesOf (.net n)), M.length, selfF_ok ?_ (pfx_len (LS_pfx _ _)), LS_pfx _ _, Nat.le_refl _, LS_at _ _⟩
    simp [m_item_lines, s_item_lines_5, s_item_lines_6, s_item_lines_1, Item.toP, atI, ixN, h1, linesOf, LS]
  | @host n m hn hm =>
    have h1 := x_host_line hn.len hm.len M
    simp only [Item.toP] at h1
    refine ⟨LS M (linesOf (.host n m)), M.length, selfF_ok ?_ (pfx_len (LS_pfx _ _)), LS_pfx _ _, Nat.le_refl _, LS_at _ _⟩
    simp [m_item_lines, s_item_lines_5, s_item_lines_6, s_item_lines_7, s_item_lines_2, Item.toP, atI, ixN, h1, linesOf, LS, str_lit_eq]
  | @door n i o maps lets low high keeps span both turns hn hi ho k1 k2 k3 k4 k5 k6 k7 k8 =>
    have h1 := x_door_line hn.len hi.len ho.len k1 k2 k3 k4 k6 M (keeps := keeps) (both := both) (turns := turns)
    simp only [Item.toP] at h1
    generalize hM : LS M (headS n i o :: doorParts maps lets low high keeps span both turns) = M1 at h1
    have p1 : M <+: M1 := by rw [← hM]; exact LS_pfx _ _
    refine ⟨LS M1 (linesOf (.door n i o maps lets low high keeps span both turns)), M1.length, selfF_ok ?_ (pfx_len (p1.trans (LS_pfx _ _))), p1.trans (LS_pfx _ _), pfx_len p1, LS_at _ _⟩
    simp [m_item_lines, s_item_lines_5, s_item_lines_6, s_item_lines_7, s_item_lines_8, s_item_lines_3, Item.toP, atI, ixN, h1, linesOf, LS, str_lit_eq]
  | @opn d n p q hd hn hp hq =>
    have h1 := x_open_line hd.len hn.len hp hq M
    simp only [Item.toP] at h1
    refine ⟨LS M (linesOf (.opn d p n q)), M.length, selfF_ok ?_ (pfx_len (LS_pfx _ _)), LS_pfx _ _, Nat.le_refl _, LS_at _ _⟩
    simp [m_item_lines, s_item_lines_5, s_item_lines_6, s_item_lines_7, s_item_lines_8, s_item_lines_9, s_item_lines_4, Item.toP, atI, ixN, h1, linesOf, LS, str_lit_eq]
  | @wall n rs hn hr =>
    have hs : rs.length ≤ 20 := hs
    have h1 := x_wall_lines hn.len hr (by omega) M
    simp only [Item.toP] at h1
    refine ⟨LS M (linesOf (.wall n rs)), M.length, selfF_ok ?_ (pfx_len (LS_pfx _ _)), LS_pfx _ _, Nat.le_refl _, LS_at _ _⟩
    simp [m_item_lines, s_item_lines_5, s_item_lines_6, s_item_lines_7, s_item_lines_8, s_item_lines_9, s_item_lines_10, Item.toP, atI, ixN, h1, linesOf, str_lit_eq, -List.map_map]
-- slots: 0:plan 1:lines 2:item 3:line
noncomputable def s_write_1  : RS :=
  (rRaise "BadPlan")
noncomputable def s_write_2  : RS :=
  (rExpr (rLM mExtend (rVar 1) (rCons (rCallN 1 F_item_lines (rCons (rVar 2) rNil)) rNil)))
noncomputable def s_write_3  : RS :=
  (rIfS (rtNot (rTst truthD (rCallN 1 F_has_shape (rCons (rVar 0) rNil))))
  s_write_1
  rSkip)
noncomputable def s_write_4  : RS :=
  (rSet 1 (rLst rNil))
noncomputable def s_write_5  : RS :=
  (rFor (rVar 0) (gNm 2)
  s_write_2)
noncomputable def s_write_6  : RS :=
  (rRet (rSM sJoin (rC (.p (.str ""))) (rLC (wRow (rVar 1)) (gNm 3) rYes (rBin dAdd (rVar 3) (rC (.p (.str "\n")))) [3])))
noncomputable def m_write  : RS :=
  (rSeq s_write_3
  (rSeq s_write_4
  (rSeq s_write_5
  s_write_6)))

noncomputable def F_write : List D → Store → R D := selfF 4 m_write
theorem r_write : Ref 1 4 F_write m_write := ref_self 1 4 m_write
def lineS (it : Item) : Str := catS ((linesOf it).map (· ++ ("\n" : Str)))
def textS (its : List Item) : Str := catS (its.map lineS)
def weight (it : Item) : Nat := ((linesOf it).map fun y => y.length + 1).sum
theorem sum_le2 (B : Nat) : ∀ ys : List Str, (∀ y ∈ ys, y.length ≤ B) → (ys.map fun y => y.length + 1).sum ≤ ys.length * (B + 1)
  | [], _ => by simp
  | y :: ys, h => by
    have h1 := h y List.mem_cons_self
    have h2 := sum_le2 B ys fun z hz => h z (List.mem_cons_of_mem _ hz)
    rw [List.map_cons, List.sum_cons, List.length_cons, Nat.succ_mul]
    omega
theorem doorS_len {n i o : Str} {maps lets low high keeps span both turns : Nat} (hn : n.length ≤ 300) (hi : i.length ≤ 300) (ho : o.length ≤ 300) (h1 : maps ≤ 99999) (h2 : lets ≤ 99999) (h3 : low ≤ 99999) (h4 : high ≤ 99999) (h6 : span ≤ 99999) : (doorS n i o maps lets low high keeps span both turns).length ≤ 100001 := by
  obtain ⟨p1, p2⟩ := doorParts_short maps lets low high keeps span both turns h1 h2 h3 h4 h6
  have hl := headS_len hn hi ho
  unfold doorS
  rw [Str.length_append, join_cons, Str.length_append, catS_len, show (";" : Str).length = 1 by decide +kernel]
  have h := sum_le 4001 ((doorParts maps lets low high keeps span both turns).map ((" " : Str) ++ ·)) (by
    intro y hy
    obtain ⟨z, hz, rfl⟩ := List.mem_map.mp hy
    rw [Str.length_append, show (" " : Str).length = 1 by decide +kernel]
    have := p2 z hz
    omega)
  rw [List.length_map] at h
  omega
theorem weight_le (it : Item) (h : it.Ok) (hs : it.Sm) : weight it ≤ 300000 ∧ (linesOf it).length ≤ 22 ∧ ∀ y ∈ linesOf it, y.length ≤ 100001 := by
  have one : ∀ y : Str, y.length ≤ 100001 → ((([y] : List Str).map fun y => y.length + 1).sum ≤ 300000 ∧ ([y] : List Str).length ≤ 22 ∧ ∀ z ∈ [y], z.length ≤ 100001) := fun y hy => ⟨by simp; omega, by simp, fun z hz => by rw [List.mem_singleton.mp hz]; exact hy⟩
  cases h with
  | @net n hn => exact one _ (by rw [catS_len]; have := hn.len; simp; omega)
  | @host n m hn hm => exact one _ (by rw [catS_len]; have := hn.len; have := hm.len; simp; omega)
  | @door n i o maps lets low high keeps span both turns hn hi ho k1 k2 k3 k4 k5 k6 k7 k8 => exact one _ (doorS_len hn.len hi.len ho.len k1 k2 k3 k4 k6)
  | @opn d n p q hd hn hp hq => exact one _ (by
      unfold openS
      have := num_len p (by omega)
      have := num_len q (by omega)
      have := hd.len
      have := hn.len
      rw [catS_len]; simp; omega)
  | @wall n rs hn hr =>
    have hs : rs.length ≤ 20 := hs
    have hw : (catS ["wall ", n, ";"]).length ≤ 400 := by rw [catS_len]; have := hn.len; simp; omega
    have hsh : ∀ y ∈ rs.map ruleS, y.length ≤ 13000 := fun y hy => by
      obtain ⟨r, h1, rfl⟩ := List.mem_map.mp hy
      exact ruleS_len r (hr r h1)
    have h2 := sum_le2 13000 (rs.map ruleS) hsh
    rw [List.length_map] at h2
    refine ⟨?_, by simp [linesOf, wallLines]; omega, ?_⟩
    · show ((wallLines n rs).map fun y => y.length + 1).sum ≤ _
      unfold wallLines
      rw [List.map_append, List.map_cons, List.sum_append, List.sum_cons]
      have e : ((([("end;" : Str)] : List Str).map fun y => y.length + 1).sum) = 5 := by decide +kernel
      rw [e]
      omega
    · intro y hy
      rcases List.mem_append.mp (show y ∈ (catS ["wall ", n, ";"] :: rs.map ruleS) ++ [("end;" : Str)] from hy) with hy | hy
      · rcases List.mem_cons.mp hy with rfl | hy
        · omega
        · have := hsh y hy; omega
      · rw [List.mem_singleton.mp hy]
        exact Nat.le_trans (by decide +kernel : ("end;" : Str).length ≤ 4) (by decide)
theorem lineS_len (it : Item) : (lineS it).length = weight it := by
  unfold lineS weight
  rw [catS_len, List.map_map]
  congr 1
  apply List.map_congr_left
  intro y _
  show (y ++ ("\n" : Str)).length = _
  rw [Str.length_append, show ("\n" : Str).length = 1 by decide +kernel]
theorem catS_flat : ∀ its : List Item, catS ((its.flatMap linesOf).map (· ++ ("\n" : Str))) = textS its
  | [] => rfl
  | it :: its => by
    rw [List.flatMap_cons, List.map_append, catS_app, catS_flat its]
    rfl
theorem sumW : ∀ its : List Item, (((its.flatMap linesOf).map (· ++ ("\n" : Str))).map (·.length)).sum = (its.map weight).sum
  | [] => rfl
  | it :: its => by
    rw [List.flatMap_cons, List.map_append, List.map_append, List.sum_append, sumW its, List.map_cons, List.sum_cons, List.map_map]
    congr 2
    apply List.map_congr_left
    intro y _
    show (y ++ ("\n" : Str)).length = _
    rw [Str.length_append, show ("\n" : Str).length = 1 by decide +kernel]
theorem sum_w : ∀ its : List Item, (∀ it ∈ its, it.Ok ∧ it.Sm) → (its.map weight).sum ≤ its.length * 300000
  | [], _ => by simp
  | it :: its, h => by
    have h1 := (weight_le it (h it List.mem_cons_self).1 (h it List.mem_cons_self).2).1
    have h2 := sum_w its fun x hx => h x (List.mem_cons_of_mem _ hx)
    rw [List.map_cons, List.sum_cons, List.length_cons, Nat.succ_mul]
    omega
theorem x_write (its : List Item) (h : ∀ it ∈ its, it.Ok ∧ it.Sm) (hl : its.length ≤ 20) (M : Store) : ∃ M', F_write [.p (.tup (its.map Item.toP))] M = .ok (.p (.str (textS its))) M' ∧ M <+: M' := by
  have hsh := x_shape its (fun it hi => (h it hi).1) M
  have loop : ∀ (qs : List Item) (ys : List Str) (M1 : Store) (z : Option D), (∀ it ∈ qs, it.Ok ∧ it.Sm) → ys.length + 22 * qs.length ≤ 900 → M <+: M1 → M1[M.length]? = some (.lst (ys.map fun y => D.p (.str y))) →
      ∃ M2 z', forL none (gNm 2) s_write_2 (qs.map fun r => D.p r.toP) [some (.p (.tup (its.map Item.toP))), some (.ref M.length), z, none] M1 = .nx [some (.p (.tup (its.map Item.toP))), some (.ref M.length), z', none] M2 ∧ M <+: M2 ∧ M2[M.length]? = some (.lst ((ys ++ qs.flatMap linesOf).map fun y => D.p (.str y))) := by
    intro qs
    induction qs with
    | nil => intro ys M1 z _ _ p e; exact ⟨M1, z, by simp, p, by simpa using e⟩
    | cons it qs ih =>
      intro ys M1 z hq hlen p e
      obtain ⟨k1, k2⟩ := hq it List.mem_cons_self
      obtain ⟨M2, l, a1, a2, a3, a4⟩ := x_item_lines it k1 k2 M1
      obtain ⟨_, w2, _⟩ := weight_le it k1 k2
      simp only [List.length_cons] at hlen
      have e2 := pfx_get a2 e
      have hx := v_extend M2 M.length l _ _ e2 a4 (le_line (by simp; omega))
      have hlt := get_lt e2
      obtain ⟨M3, z', b1, b2, b3⟩ := ih (ys ++ linesOf it) (M2.set M.length (.lst ((ys.map fun y => D.p (.str y)) ++ ((linesOf it).map fun y => D.p (.str y))))) (some (.p it.toP)) (fun q hq2 => hq q (List.mem_cons_of_mem _ hq2)) (by rw [List.length_append]; omega) (pfx_set (p.trans a2) (Nat.le_refl _) _) (by rw [get_set_same hlt, List.map_append])
      refine ⟨M3, z', ?_, b2, by rw [b3]; simp⟩
      rw [List.map_cons, forL0_cons, e_gNm, oK_some]
      have e3 : s_write_2 ([some (.p (.tup (its.map Item.toP))), some (.ref M.length), z, none].set 2 (some (.p it.toP))) M1 = .nx [some (.p (.tup (its.map Item.toP))), some (.ref M.length), some (.p it.toP), none] (M2.set M.length (.lst ((ys.map fun y => D.p (.str y)) ++ ((linesOf it).map fun y => D.p (.str y))))) := by
        simp [s_write_2, a1, isLst_ref _ _ _ e, hx, -List.map_append]
      rw [e3, loopK_nx, b1]
  obtain ⟨M2, z', b1, b2, b3⟩ := loop its [] (M ++ [.lst []]) none h (by simp; omega) (List.prefix_append _ _) (get_new _ _)
  rw [List.nil_append] at b3
  have hlines : ∀ y ∈ its.flatMap linesOf, y.length ≤ 100001 := fun y hy => by
    obtain ⟨it, h1, h2⟩ := List.mem_flatMap.mp hy
    exact (weight_le it (h it h1).1 (h it h1).2).2.2 y h2
  have hcount : (its.flatMap linesOf).length ≤ its.length * 22 := by
    rw [List.length_flatMap]
    have : ∀ qs : List Item, (∀ it ∈ qs, it.Ok ∧ it.Sm) → (qs.map fun a => (linesOf a).length).sum ≤ qs.length * 22 := by
      intro qs
      induction qs with
      | nil => intro _; simp
      | cons it qs ih =>
        intro hq
        have h1 := (weight_le it (hq it List.mem_cons_self).1 (hq it List.mem_cons_self).2).2.1
        have h2 := ih fun x hx => hq x (List.mem_cons_of_mem _ hx)
        rw [List.map_cons, List.sum_cons, List.length_cons, Nat.succ_mul]
        omega
    exact this its h
  have key := lc_map (k := some (M.length, .lst ((its.flatMap linesOf).map fun y => D.p (.str y)))) (g := gNm 3) (te := rBin dAdd (rVar 3) (rC (.p (.str "\n")))) (ρ := [some (.p (.tup (its.map Item.toP))), some (.ref M.length), z', none])
    (fun d => match d with | .p (.str y) => .p (.str (y ++ ("\n" : Str))) | d => d) M2 (fun ys => chk_app b3 _) ((its.flatMap linesOf).map fun y => D.p (.str y)) (by rw [List.length_map]; omega) (by
      intro x hx ys
      obtain ⟨y, hy, rfl⟩ := List.mem_map.mp hx
      have h1 := v_adds y ("\n" : Str) (M2 ++ [.lst ys]) (by rw [show ("\n" : Str).length = 1 by decide +kernel]; have := hlines y hy; omega)
      exact ⟨_, rfl, by simp [h1]⟩)
  have em : ((its.flatMap linesOf).map fun y => D.p (.str y)).map (fun d => match d with | .p (.str y) => .p (.str (y ++ ("\n" : Str))) | d => d) = ((its.flatMap linesOf).map (· ++ ("\n" : Str))).map fun y => D.p (.str y) := by
    rw [List.map_map, List.map_map]
    rfl
  rw [em] at key
  have hsw := sum_w its h
  have hj := v_join (M2 ++ [.lst (((its.flatMap linesOf).map (· ++ ("\n" : Str))).map fun y => D.p (.str y))]) ("" : Str) M2.length _ (get_new _ _) (by
    rw [sumW, show ("" : Str).length = 0 by decide +kernel]
    omega)
  rw [join_empty, catS_flat] at hj
  refine ⟨M2 ++ [.lst (((its.flatMap linesOf).map (· ++ ("\n" : Str))).map fun y => D.p (.str y))], selfF_ok ?_ (pfx_len (pfx_app b2 _)), pfx_app b2 _⟩
  have w1 := walk_ref M.length _ M2 b3
  have em2 : (its.map Item.toP).map D.p = its.map fun r => D.p r.toP := by rw [List.map_map]; rfl
  simp [m_write, s_write_3, s_write_4, s_write_5, s_write_6, hsh, -List.map_map, em2, b1, w1, wipeE, key, hj]

def spS (xs : List Str) : Str := catS (xs.map ((" " : Str) ++ ·))
theorem spS_app (xs ys : List Str) : spS (xs ++ ys) = spS xs ++ spS ys := by unfold spS; rw [List.map_append, catS_app]
theorem sp_no (s : Str) : spS (opt false s) = Str.empty := rfl
theorem sp_yes (s : Str) : spS (opt true s) = (" " : Str) ++ s := by
  show (" " : Str) ++ s ++ Str.empty = _
  rw [Str.append_empty]
theorem spS_len {xs : List Str} {k : Nat} (h : ∀ y ∈ xs, y.length ≤ k) : (spS xs).length ≤ xs.length * (k + 1) := by
  unfold spS
  rw [catS_len]
  have h2 := sum_le (k + 1) (xs.map ((" " : Str) ++ ·)) (by
    intro y hy
    obtain ⟨z, hz, rfl⟩ := List.mem_map.mp hy
    rw [Str.length_append, show (" " : Str).length = 1 by decide +kernel]
    have := h z hz
    omega)
  rw [List.length_map] at h2
  exact h2
-- slots: 0:item 1:text
noncomputable def s__law_door_line_1  : RS :=
  (rSet 1 (rBin dAdd (rBin dAdd (rVar 1) (rC (.p (.str " maps ")))) (rCB cStr (rCons (rBin dIx (rVar 0) (rC (.p (.int 4)))) rNil))))
noncomputable def s__law_door_line_2  : RS :=
  (rSet 1 (rBin dAdd (rBin dAdd (rVar 1) (rC (.p (.str " lets ")))) (rCB cStr (rCons (rBin dIx (rVar 0) (rC (.p (.int 5)))) rNil))))
noncomputable def s__law_door_line_3  : RS :=
  (rSet 1 (rBin dAdd (rBin dAdd (rBin dAdd (rBin dAdd (rVar 1) (rC (.p (.str " ports ")))) (rCB cStr (rCons (rBin dIx (rVar 0) (rC (.p (.int 6)))) rNil))) (rC (.p (.str " to ")))) (rCB cStr (rCons (rBin dIx (rVar 0) (rC (.p (.int 7)))) rNil))))
noncomputable def s__law_door_line_4  : RS :=
  (rSet 1 (rBin dAdd (rVar 1) (rC (.p (.str " keeps")))))
noncomputable def s__law_door_line_5  : RS :=
  (rSet 1 (rBin dAdd (rBin dAdd (rVar 1) (rC (.p (.str " span ")))) (rCB cStr (rCons (rBin dIx (rVar 0) (rC (.p (.int 9)))) rNil))))
noncomputable def s__law_door_line_6  : RS :=
  (rSet 1 (rBin dAdd (rVar 1) (rC (.p (.str " both")))))
noncomputable def s__law_door_line_7  : RS :=
  (rSet 1 (rBin dAdd (rVar 1) (rC (.p (.str " turns")))))
noncomputable def s__law_door_line_8  : RS :=
  (rSet 1 (rBin dAdd (rBin dAdd (rBin dAdd (rBin dAdd (rBin dAdd (rC (.p (.str "door "))) (rBin dIx (rVar 0) (rC (.p (.int 1))))) (rC (.p (.str " from ")))) (rBin dIx (rVar 0) (rC (.p (.int 2))))) (rC (.p (.str " to ")))) (rBin dIx (rVar 0) (rC (.p (.int 3))))))
noncomputable def s__law_door_line_9  : RS :=
  (rIfS (rTst asBool (rBin dNe (rBin dIx (rVar 0) (rC (.p (.int 4)))) (rC (.p (.int 1)))))
  s__law_door_line_1
  rSkip)
noncomputable def s__law_door_line_10  : RS :=
  (rIfS (rTst asBool (rBin dNe (rBin dIx (rVar 0) (rC (.p (.int 5)))) (rC (.p (.int 1)))))
  s__law_door_line_2
  rSkip)
noncomputable def s__law_door_line_11  : RS :=
  (rIfS (rtOr (rTst asBool (rBin dNe (rBin dIx (rVar 0) (rC (.p (.int 6)))) (rC (.p (.int 1))))) (rTst asBool (rBin dNe (rBin dIx (rVar 0) (rC (.p (.int 7)))) (rC (.p (.int 9999))))))
  s__law_door_line_3
  rSkip)
noncomputable def s__law_door_line_12  : RS :=
  (rIfS (rTst asBool (rBin dEq (rBin dIx (rVar 0) (rC (.p (.int 8)))) (rC (.p (.int 1)))))
  s__law_door_line_4
  rSkip)
noncomputable def s__law_door_line_13  : RS :=
  (rIfS (rTst asBool (rBin dNe (rBin dIx (rVar 0) (rC (.p (.int 9)))) (rC (.p (.int 0)))))
  s__law_door_line_5
  rSkip)
noncomputable def s__law_door_line_14  : RS :=
  (rIfS (rTst asBool (rBin dEq (rBin dIx (rVar 0) (rC (.p (.int 10)))) (rC (.p (.int 1)))))
  s__law_door_line_6
  rSkip)
noncomputable def s__law_door_line_15  : RS :=
  (rIfS (rTst asBool (rBin dEq (rBin dIx (rVar 0) (rC (.p (.int 11)))) (rC (.p (.int 1)))))
  s__law_door_line_7
  rSkip)
noncomputable def s__law_door_line_16  : RS :=
  (rRet (rBin dAdd (rVar 1) (rC (.p (.str ";\n")))))
noncomputable def m__law_door_line  : RS :=
  (rSeq s__law_door_line_8
  (rSeq s__law_door_line_9
  (rSeq s__law_door_line_10
  (rSeq s__law_door_line_11
  (rSeq s__law_door_line_12
  (rSeq s__law_door_line_13
  (rSeq s__law_door_line_14
  (rSeq s__law_door_line_15
  s__law_door_line_16))))))))

noncomputable def F__law_door_line : List D → Store → R D := selfF 2 m__law_door_line
theorem r__law_door_line : Ref 1 2 F__law_door_line m__law_door_line := ref_self 1 2 m__law_door_line
section
variable (n i o : Str) (maps lets low high keeps span both turns : Nat) (t : Str) (M : Store) (ht : t.length ≤ 60000)
include ht
theorem ll_maps (h : maps ≤ 99999) : s__law_door_line_9 [some (.p (Item.toP (.door n i o maps lets low high keeps span both turns))), some (.p (.str t))] M = .nx [some (.p (Item.toP (.door n i o maps lets low high keeps span both turns))), some (.p (.str (t ++ spS (mapsS maps))))] M := by
  unfold mapsS
  by_cases e : maps = 1
  · subst e
    simp [s__law_door_line_9, Item.toP, atI, ixN, sp_no, Str.append_empty]
  · have e2 : ¬ (maps : Int) = 1 := by omega
    have l1 := num_len maps (by omega)
    have a1 := v_adds t (" maps " : Str) M (by simp; omega)
    have a2 := v_adds (t ++ (" maps " : Str)) (numS maps) M (by rw [Str.length_append]; simp; omega)
    have e3 : t ++ (" maps " : Str) ++ numS maps = t ++ spS (opt true (catS ["maps ", numS maps])) := by
      rw [sp_yes, catS, catS, catS, Str.append_empty, Str.append_assoc, ← Str.append_assoc (" " : Str), show (" " : Str) ++ ("maps " : Str) = (" maps " : Str) by decide +kernel]
    simp [s__law_door_line_9, s__law_door_line_1, Item.toP, atI, ixN, e, e2, a1, a2, str_n maps M (by omega), e3]
theorem ll_lets (h : lets ≤ 99999) : s__law_door_line_10 [some (.p (Item.toP (.door n i o maps lets low high keeps span both turns))), some (.p (.str t))] M = .nx [some (.p (Item.toP (.door n i o maps lets low high keeps span both turns))), some (.p (.str (t ++ spS (letsS lets))))] M := by
  unfold letsS
  by_cases e : lets = 1
  · subst e
    simp [s__law_door_line_10, Item.toP, atI, ixN, sp_no, Str.append_empty]
  · have e2 : ¬ (lets : Int) = 1 := by omega
    have l1 := num_len lets (by omega)
    have a1 := v_adds t (" lets " : Str) M (by simp; omega)
    have a2 := v_adds (t ++ (" lets " : Str)) (numS lets) M (by rw [Str.length_append]; simp; omega)
    have e3 : t ++ (" lets " : Str) ++ numS lets = t ++ spS (opt true (catS ["lets ", numS lets])) := by
      rw [sp_yes, catS, catS, catS, Str.append_empty, Str.append_assoc, ← Str.append_assoc (" " : Str), show (" " : Str) ++ ("lets " : Str) = (" lets " : Str) by decide +kernel]
    simp [s__law_door_line_10, s__law_door_line_2, Item.toP, atI, ixN, e, e2, a1, a2, str_n lets M (by omega), e3]
theorem ll_ports (h : low ≤ 99999) (h2 : high ≤ 99999) : s__law_door_line_11 [some (.p (Item.toP (.door n i o maps lets low high keeps span both turns))), some (.p (.str t))] M = .nx [some (.p (Item.toP (.door n i o maps lets low high keeps span both turns))), some (.p (.str (t ++ spS (portsS low high))))] M := by
  unfold portsS
  by_cases e : low = 1 ∧ high = 9999
  · obtain ⟨rfl, rfl⟩ := e
    simp [s__law_door_line_11, Item.toP, atI, ixN, sp_no, Str.append_empty]
  · have l1 := num_len low (by omega)
    have l2 := num_len high (by omega)
    have a1 := v_adds t (" ports " : Str) M (by simp; omega)
    have a2 := v_adds (t ++ (" ports " : Str)) (numS low) M (by rw [Str.length_append]; simp; omega)
    have a3 := v_adds (t ++ (" ports " : Str) ++ numS low) (" to " : Str) M (by rw [Str.length_append, Str.length_append]; simp; omega)
    have a4 := v_adds (t ++ (" ports " : Str) ++ numS low ++ (" to " : Str)) (numS high) M (by rw [Str.length_append, Str.length_append, Str.length_append]; simp; omega)
    have e3 : t ++ (" ports " : Str) ++ numS low ++ (" to " : Str) ++ numS high = t ++ spS (opt true (catS ["ports ", numS low, " to ", numS high])) := by
      rw [sp_yes, catS, catS, catS, catS, catS, Str.append_empty, Str.append_assoc, Str.append_assoc, Str.append_assoc, ← Str.append_assoc (" " : Str), show (" " : Str) ++ ("ports " : Str) = (" ports " : Str) by decide +kernel]
    have fin : s__law_door_line_3 [some (.p (Item.toP (.door n i o maps lets low high keeps span both turns))), some (.p (.str t))] M = .nx [some (.p (Item.toP (.door n i o maps lets low high keeps span both turns))), some (.p (.str (t ++ spS (opt true (catS ["ports ", numS low, " to ", numS high])))))] M := by
      simp [s__law_door_line_3, Item.toP, atI, ixN, a1, a2, a3, a4, str_n low M (by omega), str_n high M (by omega), e3]
    rw [show (decide (¬ (low = 1 ∧ high = 9999))) = true from decide_eq_true e, ← fin]
    by_cases e1 : low = 1
    · have e4 : ¬ high = 9999 := fun q => e ⟨e1, q⟩
      have e5 : ¬ (high : Int) = 9999 := by omega
      simp [s__law_door_line_11, Item.toP, atI, ixN, e1, e5]
    · have e5 : ¬ (low : Int) = 1 := by omega
      simp [s__law_door_line_11, Item.toP, atI, ixN, e1, e5]
theorem ll_keeps (h : keeps ≤ 1) : s__law_door_line_12 [some (.p (Item.toP (.door n i o maps lets low high keeps span both turns))), some (.p (.str t))] M = .nx [some (.p (Item.toP (.door n i o maps lets low high keeps span both turns))), some (.p (.str (t ++ spS (keepsS keeps))))] M := by
  unfold keepsS
  have a1 := v_adds t (" keeps" : Str) M (by simp; omega)
  by_cases e : keeps = 0
  · subst e
    simp [s__law_door_line_12, Item.toP, atI, ixN, sp_no, Str.append_empty]
  · have e2 : keeps = 1 := by omega
    subst e2
    have e3 : t ++ (" keeps" : Str) = t ++ spS (opt true "keeps") := by
      rw [sp_yes, show (" " : Str) ++ ("keeps" : Str) = (" keeps" : Str) by decide +kernel]
    simp [s__law_door_line_12, s__law_door_line_4, Item.toP, atI, ixN, a1, e3]
theorem ll_span (h : span ≤ 99999) : s__law_door_line_13 [some (.p (Item.toP (.door n i o maps lets low high keeps span both turns))), some (.p (.str t))] M = .nx [some (.p (Item.toP (.door n i o maps lets low high keeps span both turns))), some (.p (.str (t ++ spS (spanS span))))] M := by
  unfold spanS
  by_cases e : span = 0
  · subst e
    simp [s__law_door_line_13, Item.toP, atI, ixN, sp_no, Str.append_empty]
  · have e2 : ¬ (span : Int) = 0 := by omega
    have l1 := num_len span (by omega)
    have a1 := v_adds t (" span " : Str) M (by simp; omega)
    have a2 := v_adds (t ++ (" span " : Str)) (numS span) M (by rw [Str.length_append]; simp; omega)
    have e3 : t ++ (" span " : Str) ++ numS span = t ++ spS (opt true (catS ["span ", numS span])) := by
      rw [sp_yes, catS, catS, catS, Str.append_empty, Str.append_assoc, ← Str.append_assoc (" " : Str), show (" " : Str) ++ ("span " : Str) = (" span " : Str) by decide +kernel]
    simp [s__law_door_line_13, s__law_door_line_5, Item.toP, atI, ixN, e, e2, a1, a2, str_n span M (by omega), e3]
theorem ll_both (h : both ≤ 1) : s__law_door_line_14 [some (.p (Item.toP (.door n i o maps lets low high keeps span both turns))), some (.p (.str t))] M = .nx [some (.p (Item.toP (.door n i o maps lets low high keeps span both turns))), some (.p (.str (t ++ spS (bothS both))))] M := by
  unfold bothS
  have a1 := v_adds t (" both" : Str) M (by simp; omega)
  by_cases e : both = 0
  · subst e
    simp [s__law_door_line_14, Item.toP, atI, ixN, sp_no, Str.append_empty]
  · have e2 : both = 1 := by omega
    subst e2
    have e3 : t ++ (" both" : Str) = t ++ spS (opt true "both") := by
      rw [sp_yes, show (" " : Str) ++ ("both" : Str) = (" both" : Str) by decide +kernel]
    simp [s__law_door_line_14, s__law_door_line_6, Item.toP, atI, ixN, a1, e3]
theorem ll_turns (h : turns ≤ 1) : s__law_door_line_15 [some (.p (Item.toP (.door n i o maps lets low high keeps span both turns))), some (.p (.str t))] M = .nx [some (.p (Item.toP (.door n i o maps lets low high keeps span both turns))), some (.p (.str (t ++ spS (turnsS turns))))] M := by
  unfold turnsS
  have a1 := v_adds t (" turns" : Str) M (by simp; omega)
  by_cases e : turns = 0
  · subst e
    simp [s__law_door_line_15, Item.toP, atI, ixN, sp_no, Str.append_empty]
  · have e2 : turns = 1 := by omega
    subst e2
    have e3 : t ++ (" turns" : Str) = t ++ spS (opt true "turns") := by
      rw [sp_yes, show (" " : Str) ++ ("turns" : Str) = (" turns" : Str) by decide +kernel]
    simp [s__law_door_line_15, s__law_door_line_7, Item.toP, atI, ixN, a1, e3]
end
theorem x_law_door_line {n i o : Str} {maps lets low high keeps span both turns : Nat} (hn : n.length ≤ 300) (hi : i.length ≤ 300) (ho : o.length ≤ 300) (h1 : maps ≤ 99999) (h2 : lets ≤ 99999) (h3 : low ≤ 99999) (h4 : high ≤ 99999) (h5 : keeps ≤ 1) (h6 : span ≤ 99999) (h7 : both ≤ 1) (h8 : turns ≤ 1) (M : Store) :
    F__law_door_line [.p (Item.toP (.door n i o maps lets low high keeps span both turns))] M = .ok (.p (.str (lineS (.door n i o maps lets low high keeps span both turns)))) M := by
  have hl := headS_len hn hi ho
  obtain ⟨p1, p2⟩ := doorParts_short maps lets low high keeps span both turns h1 h2 h3 h4 h6
  have bound : ∀ xs : List Str, xs.length ≤ 7 → (∀ y ∈ xs, y.length ≤ 4000) → (headS n i o ++ spS xs).length ≤ 60000 := fun xs k1 k2 => by
    rw [Str.length_append]
    have h := spS_len k2
    omega
  have d1 : ∀ y ∈ mapsS maps, y.length ≤ 4000 := fun y hy => p2 y (by unfold doorParts; simp [hy])
  have d2 : ∀ y ∈ letsS lets, y.length ≤ 4000 := fun y hy => p2 y (by unfold doorParts; simp [hy])
  have d3 : ∀ y ∈ portsS low high, y.length ≤ 4000 := fun y hy => p2 y (by unfold doorParts; simp [hy])
  have d4 : ∀ y ∈ keepsS keeps, y.length ≤ 4000 := fun y hy => p2 y (by unfold doorParts; simp [hy])
  have d5 : ∀ y ∈ spanS span, y.length ≤ 4000 := fun y hy => p2 y (by unfold doorParts; simp [hy])
  have d6 : ∀ y ∈ bothS both, y.length ≤ 4000 := fun y hy => p2 y (by unfold doorParts; simp [hy])
  have c1 : (mapsS maps).length ≤ 1 := opt_len _ _
  have c2 : (letsS lets).length ≤ 1 := opt_len _ _
  have c3 : (portsS low high).length ≤ 1 := opt_len _ _
  have c4 : (keepsS keeps).length ≤ 1 := opt_len _ _
  have c5 : (spanS span).length ≤ 1 := opt_len _ _
  have c6 : (bothS both).length ≤ 1 := opt_len _ _
  have t1 := ll_maps n i o maps lets low high keeps span both turns (headS n i o) M (by omega) h1
  have t2 := ll_lets n i o maps lets low high keeps span both turns (headS n i o ++ spS (mapsS maps)) M (bound _ (by omega) d1) h2
  have t3 := ll_ports n i o maps lets low high keeps span both turns (headS n i o ++ spS (mapsS maps) ++ spS (letsS lets)) M (by rw [Str.append_assoc, ← spS_app]; exact bound _ (by rw [List.length_append]; omega) (app_short d1 d2)) h3 h4
  have t4 := ll_keeps n i o maps lets low high keeps span both turns (headS n i o ++ spS (mapsS maps) ++ spS (letsS lets) ++ spS (portsS low high)) M (by rw [Str.append_assoc, ← spS_app, Str.append_assoc, ← spS_app]; exact bound _ (by simp only [List.length_append]; omega) (app_short d1 (app_short d2 d3))) h5
  have t5 := ll_span n i o maps lets low high keeps span both turns (headS n i o ++ spS (mapsS maps) ++ spS (letsS lets) ++ spS (portsS low high) ++ spS (keepsS keeps)) M (by rw [Str.append_assoc, ← spS_app, Str.append_assoc, ← spS_app, Str.append_assoc, ← spS_app]; exact bound _ (by simp only [List.length_append]; omega) (app_short d1 (app_short d2 (app_short d3 d4)))) h6
  have t6 := ll_both n i o maps lets low high keeps span both turns (headS n i o ++ spS (mapsS maps) ++ spS (letsS lets) ++ spS (portsS low high) ++ spS (keepsS keeps) ++ spS (spanS span)) M (by rw [Str.append_assoc, ← spS_app, Str.append_assoc, ← spS_app, Str.append_assoc, ← spS_app, Str.append_assoc, ← spS_app]; exact bound _ (by simp only [List.length_append]; omega) (app_short d1 (app_short d2 (app_short d3 (app_short d4 d5))))) h7
  have t7 := ll_turns n i o maps lets low high keeps span both turns (headS n i o ++ spS (mapsS maps) ++ spS (letsS lets) ++ spS (portsS low high) ++ spS (keepsS keeps) ++ spS (spanS span) ++ spS (bothS both)) M (by rw [Str.append_assoc, ← spS_app, Str.append_assoc, ← spS_app, Str.append_assoc, ← spS_app, Str.append_assoc, ← spS_app, Str.append_assoc, ← spS_app]; exact bound _ (by simp only [List.length_append]; omega) (app_short d1 (app_short d2 (app_short d3 (app_short d4 (app_short d5 d6)))))) h8
  have eT : headS n i o ++ spS (mapsS maps) ++ spS (letsS lets) ++ spS (portsS low high) ++ spS (keepsS keeps) ++ spS (spanS span) ++ spS (bothS both) ++ spS (turnsS turns) = Txt.join (" " : Str) (headS n i o :: doorParts maps lets low high keeps span both turns) := by
    rw [join_cons]
    show _ = headS n i o ++ spS (doorParts maps lets low high keeps span both turns)
    unfold doorParts
    rw [spS_app, spS_app, spS_app, spS_app, spS_app, spS_app]
    simp only [Str.append_assoc]
  rw [eT] at t7
  have hs : s__law_door_line_8 (startD 2 [.p (Item.toP (.door n i o maps lets low high keeps span both turns))]) M = .nx [some (.p (Item.toP (.door n i o maps lets low high keeps span both turns))), some (.p (.str (headS n i o)))] M := by
    have a1 := v_adds ("door " : Str) n M (by simp; omega)
    have a2 := v_adds (("door " : Str) ++ n) (" from " : Str) M (by rw [Str.length_append]; simp; omega)
    have a3 := v_adds (("door " : Str) ++ n ++ (" from " : Str)) i M (by rw [Str.length_append, Str.length_append]; simp; omega)
    have a4 := v_adds (("door " : Str) ++ n ++ (" from " : Str) ++ i) (" to " : Str) M (by rw [Str.length_append, Str.length_append, Str.length_append]; simp; omega)
    have a5 := v_adds (("door " : Str) ++ n ++ (" from " : Str) ++ i ++ (" to " : Str)) o M (by rw [Str.length_append, Str.length_append, Str.length_append, Str.length_append]; simp; omega)
    have e : ("door " : Str) ++ n ++ (" from " : Str) ++ i ++ (" to " : Str) ++ o = headS n i o := by
      unfold headS
      simp only [catS, Str.append_empty, Str.append_assoc]
    simp [s__law_door_line_8, Item.toP, atI, ixN, a1, a2, a3, a4, a5, e]
  have hjl : (Txt.join (" " : Str) (headS n i o :: doorParts maps lets low high keeps span both turns)).length ≤ 100000 := by
    have h := doorS_len hn hi ho h1 h2 h3 h4 h6 (keeps := keeps) (both := both) (turns := turns)
    unfold doorS at h
    rw [Str.length_append, show (";" : Str).length = 1 by decide +kernel] at h
    omega
  have hf : s__law_door_line_16 [some (.p (Item.toP (.door n i o maps lets low high keeps span both turns))), some (.p (.str (Txt.join (" " : Str) (headS n i o :: doorParts maps lets low high keeps span both turns))))] M = .rt (.p (.str (lineS (.door n i o maps lets low high keeps span both turns)))) M := by
    have a1 := v_adds (Txt.join (" " : Str) (headS n i o :: doorParts maps lets low high keeps span both turns)) (";\n" : Str) M (by simp; omega)
    have e : Txt.join (" " : Str) (headS n i o :: doorParts maps lets low high keeps span both turns) ++ (";\n" : Str) = lineS (.door n i o maps lets low high keeps span both turns) := by
      show _ = (doorS n i o maps lets low high keeps span both turns ++ ("\n" : Str)) ++ Str.empty
      unfold doorS
      rw [Str.append_empty, Str.append_assoc, show (";" : Str) ++ ("\n" : Str) = (";\n" : Str) by decide +kernel]
    simp [s__law_door_line_16, a1, e]
  refine selfF_ok ?_ (Nat.le_refl _)
  unfold m__law_door_line
  rw [e_seq, hs, Out.bind_nx, e_seq, t1, Out.bind_nx, e_seq, t2, Out.bind_nx, e_seq, t3, Out.bind_nx, e_seq, t4, Out.bind_nx, e_seq, t5, Out.bind_nx, e_seq, t6, Out.bind_nx, e_seq, t7, Out.bind_nx, hf]
  rfl
-- slots: 0:pair
noncomputable def s__law_range_text_1  : RS :=
  (rRet (rC (.p (.str "any"))))
noncomputable def s__law_range_text_2  : RS :=
  (rRet (rCB cStr (rCons (rBin dIx (rVar 0) (rC (.p (.int 0)))) rNil)))
noncomputable def s__law_range_text_3  : RS :=
  (rIfS (rTst asBool (rBin dEq (rVar 0) (rTup (rCons (rC (.p (.int 0))) (rCons (rC (.p (.int 99999))) rNil)))))
  s__law_range_text_1
  rSkip)
noncomputable def s__law_range_text_4  : RS :=
  (rIfS (rTst asBool (rBin dEq (rBin dIx (rVar 0) (rC (.p (.int 0)))) (rBin dIx (rVar 0) (rC (.p (.int 1))))))
  s__law_range_text_2
  rSkip)
noncomputable def s__law_range_text_5  : RS :=
  (rRet (rBin dAdd (rBin dAdd (rCB cStr (rCons (rBin dIx (rVar 0) (rC (.p (.int 0)))) rNil)) (rC (.p (.str " to ")))) (rCB cStr (rCons (rBin dIx (rVar 0) (rC (.p (.int 1)))) rNil))))
noncomputable def m__law_range_text  : RS :=
  (rSeq s__law_range_text_3
  (rSeq s__law_range_text_4
  s__law_range_text_5))

noncomputable def F__law_range_text : List D → Store → R D := selfF 1 m__law_range_text
theorem r__law_range_text : Ref 1 1 F__law_range_text m__law_range_text := ref_self 1 1 m__law_range_text
theorem x_law_range (r : Nat × Nat) (h : rgOk r) (M : Store) : F__law_range_text [.p (rgP r)] M = .ok (.p (.str (rgS r))) M := by
  obtain ⟨h1, h2⟩ := h
  have q := rg_any r M
  have l1 := num_len r.1 (by omega)
  have l2 := num_len r.2 (by omega)
  refine selfF_ok ?_ (Nat.le_refl _)
  unfold rgS
  by_cases e : r.1 = 0 ∧ r.2 = 99999
  · rw [if_pos e]
    simp only [e, decide_true, and_self] at q
    simp [m__law_range_text, s__law_range_text_3, s__law_range_text_1, show dEq (.p (.tup [.int r.1, .int r.2])) (.p (.tup [.int 0, .int 99999])) M = _ from q]
  · rw [if_neg e]
    simp only [e, decide_false] at q
    by_cases e2 : r.1 = r.2
    · rw [if_pos e2]
      have e3 : (r.1 : Int) = r.2 := by omega
      simp [m__law_range_text, s__law_range_text_3, s__law_range_text_4, s__law_range_text_2, show dEq (.p (.tup [.int r.1, .int r.2])) (.p (.tup [.int 0, .int 99999])) M = _ from q, atI, ixN, e3, e2, str_n r.2 M (by omega)]
    · rw [if_neg e2]
      have e3 : ¬ (r.1 : Int) = r.2 := by omega
      have a1 := v_adds (numS r.1) (" to " : Str) M (by simp; omega)
      have a2 := v_adds (numS r.1 ++ (" to " : Str)) (numS r.2) M (by rw [Str.length_append]; simp; omega)
      have e4 : numS r.1 ++ (" to " : Str) ++ numS r.2 = catS [numS r.1, " to ", numS r.2] := by simp only [catS, Str.append_empty, Str.append_assoc]
      simp [m__law_range_text, s__law_range_text_3, s__law_range_text_4, s__law_range_text_5, show dEq (.p (.tup [.int r.1, .int r.2])) (.p (.tup [.int 0, .int 99999])) M = _ from q, atI, ixN, e3, str_n r.1 M (by omega), str_n r.2 M (by omega), a1, a2, e4]
-- slots: 0:item 1:text 2:rule
noncomputable def s__law_rules_lines_1  : RS :=
  (rSet 1 (rBin dAdd (rBin dAdd (rBin dAdd (rBin dAdd (rBin dAdd (rVar 1) (rC (.p (.str "  ")))) (rBin dIx (rLst (rCons (rC (.p (.str "stop"))) (rCons (rC (.p (.str "let"))) rNil))) (rBin dIx (rVar 2) (rC (.p (.int 0)))))) (rC (.p (.str " ")))) (rCallN 1 F__law_range_text (rCons (rBin dIx (rVar 2) (rC (.p (.int 1)))) rNil))) (rC (.p (.str ", ")))))
noncomputable def s__law_rules_lines_2  : RS :=
  (rSet 1 (rBin dAdd (rBin dAdd (rBin dAdd (rBin dAdd (rVar 1) (rCallN 1 F__law_range_text (rCons (rBin dIx (rVar 2) (rC (.p (.int 2)))) rNil))) (rC (.p (.str ", ")))) (rCallN 1 F__law_range_text (rCons (rBin dIx (rVar 2) (rC (.p (.int 3)))) rNil))) (rC (.p (.str ";\n")))))
noncomputable def b__law_rules_lines_3  : RS :=
  (rSeq s__law_rules_lines_1
  s__law_rules_lines_2)
noncomputable def s__law_rules_lines_4  : RS :=
  (rSet 1 (rBin dAdd (rBin dAdd (rC (.p (.str "wall "))) (rBin dIx (rVar 0) (rC (.p (.int 1))))) (rC (.p (.str ";\n")))))
noncomputable def s__law_rules_lines_5  : RS :=
  (rFor (rBin dIx (rVar 0) (rC (.p (.int 2)))) (gNm 2)
  b__law_rules_lines_3)
noncomputable def s__law_rules_lines_6  : RS :=
  (rRet (rBin dAdd (rVar 1) (rC (.p (.str "end;\n")))))
noncomputable def m__law_rules_lines  : RS :=
  (rSeq s__law_rules_lines_4
  (rSeq s__law_rules_lines_5
  s__law_rules_lines_6))

noncomputable def F__law_rules_lines : List D → Store → R D := selfF 3 m__law_rules_lines
theorem r__law_rules_lines : Ref 1 3 F__law_rules_lines m__law_rules_lines := ref_self 1 3 m__law_rules_lines
theorem bit_word (r : Rule) (h : r.bit ≤ 1) (M : Store) : dIx (.ref M.length) (.p (.int r.bit)) (M ++ [.lst [.p (.str "stop"), .p (.str "let")]]) = some (.p (.str (if r.bit = 0 then "stop" else "let")), M ++ [.lst [.p (.str "stop"), .p (.str "let")]]) := by
  refine v_ix_l _ _ r.bit _ _ (get_new _ _) ?_
  obtain e | e : r.bit = 0 ∨ r.bit = 1 := by omega
  · rw [e]; rfl
  · rw [e]; rfl
theorem rl_turn (x : D) (r : Rule) (h : r.Ok) (t : Str) (ht : t.length ≤ 1000000) (M : Store) : b__law_rules_lines_3 [some x, some (.p (.str t)), some (.p r.toP)] M = .nx [some x, some (.p (.str (t ++ (ruleS r ++ ("\n" : Str))))), some (.p r.toP)] (M ++ [.lst [.p (.str "stop"), .p (.str "let")]]) := by
  generalize hM : M ++ [.lst [.p (.str "stop"), .p (.str "let")]] = M1
  have hb := bit_word r h.bit M
  rw [hM] at hb
  obtain ⟨w, hw, hwl⟩ : ∃ w : Str, (if r.bit = 0 then ("stop" : Str) else "let") = w ∧ w.length ≤ 10 := ⟨_, rfl, by split <;> decide +kernel⟩
  rw [hw] at hb
  have b1 := x_law_range r.a h.a M1
  have b2 := x_law_range r.b h.b M1
  have b3 := x_law_range r.c h.c M1
  have l1 := rgS_len r.a h.a
  have l2 := rgS_len r.b h.b
  have l3 := rgS_len r.c h.c
  have a1 := v_adds t ("  " : Str) M (by simp; omega)
  have a2 := v_adds (t ++ ("  " : Str)) w M1 (by rw [Str.length_append]; simp; omega)
  have a3 := v_adds (t ++ ("  " : Str) ++ w) (" " : Str) M1 (by rw [Str.length_append, Str.length_append]; simp; omega)
  have a4 := v_adds (t ++ ("  " : Str) ++ w ++ (" " : Str)) (rgS r.a) M1 (by rw [Str.length_append, Str.length_append, Str.length_append]; simp; omega)
  have a5 := v_adds (t ++ ("  " : Str) ++ w ++ (" " : Str) ++ rgS r.a) (", " : Str) M1 (by simp only [Str.length_append]; simp; omega)
  have a6 := v_adds (t ++ ("  " : Str) ++ w ++ (" " : Str) ++ rgS r.a ++ (", " : Str)) (rgS r.b) M1 (by simp only [Str.length_append]; simp; omega)
  have a7 := v_adds (t ++ ("  " : Str) ++ w ++ (" " : Str) ++ rgS r.a ++ (", " : Str) ++ rgS r.b) (", " : Str) M1 (by simp only [Str.length_append]; simp; omega)
  have a8 := v_adds (t ++ ("  " : Str) ++ w ++ (" " : Str) ++ rgS r.a ++ (", " : Str) ++ rgS r.b ++ (", " : Str)) (rgS r.c) M1 (by simp only [Str.length_append]; simp; omega)
  have a9 := v_adds (t ++ ("  " : Str) ++ w ++ (" " : Str) ++ rgS r.a ++ (", " : Str) ++ rgS r.b ++ (", " : Str) ++ rgS r.c) (";\n" : Str) M1 (by simp only [Str.length_append]; simp; omega)
  have e : t ++ ("  " : Str) ++ w ++ (" " : Str) ++ rgS r.a ++ (", " : Str) ++ rgS r.b ++ (", " : Str) ++ rgS r.c ++ (";\n" : Str) = t ++ (ruleS r ++ ("\n" : Str)) := by
    unfold ruleS
    rw [hw]
    simp only [catS, Str.append_empty, Str.append_assoc]
    rw [show (";" : Str) ++ ("\n" : Str) = (";\n" : Str) by decide +kernel]
  have i0 : dIx (.p r.toP) (.p (.int 0)) M1 = _ := ixt [.int r.bit, rgP r.a, rgP r.b, rgP r.c] 0 _ M1 rfl
  have i1 : dIx (.p r.toP) (.p (.int 1)) M1 = _ := ixt [.int r.bit, rgP r.a, rgP r.b, rgP r.c] 1 _ M1 rfl
  have i2 : dIx (.p r.toP) (.p (.int 2)) M1 = _ := ixt [.int r.bit, rgP r.a, rgP r.b, rgP r.c] 2 _ M1 rfl
  have i3 : dIx (.p r.toP) (.p (.int 3)) M1 = _ := ixt [.int r.bit, rgP r.a, rgP r.b, rgP r.c] 3 _ M1 rfl
  simp [b__law_rules_lines_3, s__law_rules_lines_1, s__law_rules_lines_2, a1, hM, i0, i1, i2, i3, -v_ix_t, hb, b1, b2, b3, a2, a3, a4, a5, a6, a7, a8, a9, e]
theorem x_law_rules_lines {n : Str} {rs : List Rule} (hn : n.length ≤ 300) (hw : weight (.wall n rs) ≤ 300000) (hr : ∀ r ∈ rs, r.Ok) (hl : rs.length ≤ 20) (M : Store) : ∃ M', F__law_rules_lines [.p (Item.toP (.wall n rs))] M = .ok (.p (.str (lineS (.wall n rs)))) M' ∧ M <+: M' := by
  have ix1 : dIx (.p (Item.toP (.wall n rs))) (.p (.int 1)) M = some (.p (.str n), M) := ixt _ 1 _ _ rfl
  have ix2 : dIx (.p (Item.toP (.wall n rs))) (.p (.int 2)) M = some (.p (.tup (rs.map Rule.toP)), M) := ixt _ 2 _ _ rfl
  have a1 := v_adds ("wall " : Str) n M (by simp; omega)
  have a2 := v_adds (("wall " : Str) ++ n) (";\n" : Str) M (by rw [Str.length_append]; simp; omega)
  have loop : ∀ (qs : List Rule) (t : Str) (M1 : Store) (z : Option D), (∀ r ∈ qs, r.Ok) → t.length + qs.length * 14000 ≤ 900000 → M <+: M1 → ∃ M2 z', forL none (gNm 2) b__law_rules_lines_3 (qs.map fun r => D.p r.toP) [some (.p (Item.toP (.wall n rs))), some (.p (.str t)), z] M1 = .nx [some (.p (Item.toP (.wall n rs))), some (.p (.str (t ++ catS ((qs.map ruleS).map (· ++ ("\n" : Str)))))), z'] M2 ∧ M <+: M2 := by
    intro qs
    induction qs with
    | nil => intro t M1 z _ _ p; exact ⟨M1, z, by simp [catS, Str.append_empty], p⟩
    | cons r qs ih =>
      intro t M1 z hq hlen p
      have hro := hq r List.mem_cons_self
      simp only [List.length_cons, Nat.succ_mul] at hlen
      have hrl := ruleS_len r hro
      have e := rl_turn (.p (Item.toP (.wall n rs))) r hro t (by omega) M1
      obtain ⟨M2, z', b1, b2⟩ := ih (t ++ (ruleS r ++ ("\n" : Str))) (M1 ++ [.lst [.p (.str "stop"), .p (.str "let")]]) (some (.p r.toP)) (fun q hq2 => hq q (List.mem_cons_of_mem _ hq2)) (by rw [Str.length_append, Str.length_append, show ("\n" : Str).length = 1 by decide +kernel]; omega) (pfx_app p _)
      refine ⟨M2, z', ?_, b2⟩
      rw [List.map_cons, forL0_cons, e_gNm, oK_some]
      have e' : b__law_rules_lines_3 ([some (.p (Item.toP (.wall n rs))), some (.p (.str t)), z].set 2 (some (.p r.toP))) M1 = _ := e
      rw [e', loopK_nx, b1, List.map_cons, List.map_cons, catS, Str.append_assoc]
  obtain ⟨M2, z', b1, b2⟩ := loop rs (("wall " : Str) ++ n ++ (";\n" : Str)) M none hr (by rw [Str.length_append, Str.length_append]; simp; omega) (List.prefix_refl _)
  have em : (rs.map Rule.toP).map D.p = rs.map fun r => D.p r.toP := by rw [List.map_map]; rfl
  have eL : lineS (.wall n rs) = ("wall " : Str) ++ n ++ (";\n" : Str) ++ catS ((rs.map ruleS).map (· ++ ("\n" : Str))) ++ ("end;\n" : Str) := by
    show catS (((catS ["wall ", n, ";"] :: rs.map ruleS) ++ [("end;" : Str)]).map (· ++ ("\n" : Str))) = _
    rw [List.map_append, List.map_cons, catS_app]
    simp only [catS, List.map_cons, List.map_nil, Str.append_empty, Str.append_assoc]
    rw [show ("end;" : Str) ++ ("\n" : Str) = ("end;\n" : Str) by decide +kernel, ← Str.append_assoc (";" : Str), show (";" : Str) ++ ("\n" : Str) = (";\n" : Str) by decide +kernel]
  have hlen := lineS_len (.wall n rs)
  rw [eL, Str.length_append] at hlen
  have a3 := v_adds (("wall " : Str) ++ n ++ (";\n" : Str) ++ catS ((rs.map ruleS).map (· ++ ("\n" : Str)))) ("end;\n" : Str) M2 (by omega)
  rw [← eL] at a3
  refine ⟨M2, selfF_ok ?_ (pfx_len b2), b2⟩
  simp [m__law_rules_lines, s__law_rules_lines_4, s__law_rules_lines_5, s__law_rules_lines_6, ix1, ix2, -v_ix_t, a1, a2, -List.map_map, em, b1, a3]
-- slots: 0:item
noncomputable def s__law_line_1  : RS :=
  (rRet (rBin dAdd (rBin dAdd (rC (.p (.str "net "))) (rBin dIx (rVar 0) (rC (.p (.int 1))))) (rC (.p (.str ";\n")))))
noncomputable def s__law_line_2  : RS :=
  (rRet (rBin dAdd (rBin dAdd (rBin dAdd (rBin dAdd (rC (.p (.str "host "))) (rBin dIx (rVar 0) (rC (.p (.int 1))))) (rC (.p (.str " in ")))) (rBin dIx (rVar 0) (rC (.p (.int 2))))) (rC (.p (.str ";\n")))))
noncomputable def s__law_line_3  : RS :=
  (rRet (rBin dAdd (rBin dAdd (rBin dAdd (rBin dAdd (rBin dAdd (rBin dAdd (rBin dAdd (rBin dAdd (rC (.p (.str "open "))) (rBin dIx (rVar 0) (rC (.p (.int 1))))) (rC (.p (.str ":")))) (rCB cStr (rCons (rBin dIx (rVar 0) (rC (.p (.int 2)))) rNil))) (rC (.p (.str " to ")))) (rBin dIx (rVar 0) (rC (.p (.int 3))))) (rC (.p (.str ":")))) (rCB cStr (rCons (rBin dIx (rVar 0) (rC (.p (.int 4)))) rNil))) (rC (.p (.str ";\n")))))
noncomputable def s__law_line_4  : RS :=
  (rRet (rCallN 1 F__law_rules_lines (rCons (rVar 0) rNil)))
noncomputable def s__law_line_5  : RS :=
  (rIfS (rTst asBool (rBin dEq (rBin dIx (rVar 0) (rC (.p (.int 0)))) (rC (.p (.str "net")))))
  s__law_line_1
  rSkip)
noncomputable def s__law_line_6  : RS :=
  (rIfS (rTst asBool (rBin dEq (rBin dIx (rVar 0) (rC (.p (.int 0)))) (rC (.p (.str "host")))))
  s__law_line_2
  rSkip)
noncomputable def s__law_line_7  : RS :=
  (rIfS (rTst asBool (rBin dEq (rBin dIx (rVar 0) (rC (.p (.int 0)))) (rC (.p (.str "open")))))
  s__law_line_3
  rSkip)
noncomputable def s__law_line_8  : RS :=
  (rIfS (rTst asBool (rBin dEq (rBin dIx (rVar 0) (rC (.p (.int 0)))) (rC (.p (.str "wall")))))
  s__law_line_4
  rSkip)
noncomputable def s__law_line_9  : RS :=
  (rRet (rCallN 1 F__law_door_line (rCons (rVar 0) rNil)))
noncomputable def m__law_line  : RS :=
  (rSeq s__law_line_5
  (rSeq s__law_line_6
  (rSeq s__law_line_7
  (rSeq s__law_line_8
  s__law_line_9))))

noncomputable def F__law_line : List D → Store → R D := selfF 1 m__law_line
theorem r__law_line : Ref 1 1 F__law_line m__law_line := ref_self 1 1 m__law_line
theorem x_law_line (it : Item) (h : it.Ok) (hs : it.Sm) (M : Store) : ∃ M', F__law_line [.p it.toP] M = .ok (.p (.str (lineS it))) M' ∧ M <+: M' := by
  have hw := (weight_le it h hs).1
  cases h with
  | @net n hn =>
    have a1 := v_adds ("net " : Str) n M (by have := hn.len; simp; omega)
    have a2 := v_adds (("net " : Str) ++ n) (";\n" : Str) M (by rw [Str.length_append]; have := hn.len; simp; omega)
    have e : ("net " : Str) ++ n ++ (";\n" : Str) = lineS (.net n) := by
      show _ = catS ["net ", n, ";"] ++ ("\n" : Str) ++ Str.empty
      simp only [catS, Str.append_empty, Str.append_assoc]
      rw [show (";" : Str) ++ ("\n" : Str) = (";\n" : Str) by decide +kernel]
    exact ⟨M, selfF_ok (by simp [m__law_line, s__law_line_5, s__law_line_1, Item.toP, atI, ixN, a1, a2, e]) (Nat.le_refl _), List.prefix_refl _⟩
  | @host n m hn hm =>
    have l1 := hn.len
    have l2 := hm.len
    have a1 := v_adds ("host " : Str) n M (by simp; omega)
    have a2 := v_adds (("host " : Str) ++ n) (" in " : Str) M (by simp only [Str.length_append]; simp; omega)
    have a3 := v_adds (("host " : Str) ++ n ++ (" in " : Str)) m M (by simp only [Str.length_append]; simp; omega)
    have a4 := v_adds (("host " : Str) ++ n ++ (" in " : Str) ++ m) (";\n" : Str) M (by simp only [Str.length_append]; simp; omega)
    have e : ("host " : Str) ++ n ++ (" in " : Str) ++ m ++ (";\n" : Str) = lineS (.host n m) := by
      show _ = catS ["host ", n, " in ", m, ";"] ++ ("\n" : Str) ++ Str.empty
      simp only [catS, Str.append_empty, Str.append_assoc]
      rw [show (";" : Str) ++ ("\n" : Str) = (";\n" : Str) by decide +kernel]
    exact ⟨M, selfF_ok (by simp [m__law_line, s__law_line_5, s__law_line_6, s__law_line_2, Item.toP, atI, ixN, a1, a2, a3, a4, e, str_lit_eq]) (Nat.le_refl _), List.prefix_refl _⟩
  | @door n i o maps lets low high keeps span both turns hn hi ho k1 k2 k3 k4 k5 k6 k7 k8 =>
    have e := x_law_door_line hn.len hi.len ho.len k1 k2 k3 k4 k5 k6 k7 k8 M
    simp only [Item.toP] at e
    exact ⟨M, selfF_ok (by simp [m__law_line, s__law_line_5, s__law_line_6, s__law_line_7, s__law_line_8, s__law_line_9, Item.toP, atI, ixN, e, str_lit_eq]) (Nat.le_refl _), List.prefix_refl _⟩
  | @opn d n p q hd hn hp hq =>
    have l1 := hn.len
    have l2 := hd.len
    have l3 := num_len p (by omega)
    have l4 := num_len q (by omega)
    have a1 := v_adds ("open " : Str) d M (by simp; omega)
    have a2 := v_adds (("open " : Str) ++ d) (":" : Str) M (by simp only [Str.length_append]; simp; omega)
    have a3 := v_adds (("open " : Str) ++ d ++ (":" : Str)) (numS p) M (by simp only [Str.length_append]; simp; omega)
    have a4 := v_adds (("open " : Str) ++ d ++ (":" : Str) ++ numS p) (" to " : Str) M (by simp only [Str.length_append]; simp; omega)
    have a5 := v_adds (("open " : Str) ++ d ++ (":" : Str) ++ numS p ++ (" to " : Str)) n M (by simp only [Str.length_append]; simp; omega)
    have a6 := v_adds (("open " : Str) ++ d ++ (":" : Str) ++ numS p ++ (" to " : Str) ++ n) (":" : Str) M (by simp only [Str.length_append]; simp; omega)
    have a7 := v_adds (("open " : Str) ++ d ++ (":" : Str) ++ numS p ++ (" to " : Str) ++ n ++ (":" : Str)) (numS q) M (by simp only [Str.length_append]; simp; omega)
    have a8 := v_adds (("open " : Str) ++ d ++ (":" : Str) ++ numS p ++ (" to " : Str) ++ n ++ (":" : Str) ++ numS q) (";\n" : Str) M (by simp only [Str.length_append]; simp; omega)
    have e : ("open " : Str) ++ d ++ (":" : Str) ++ numS p ++ (" to " : Str) ++ n ++ (":" : Str) ++ numS q ++ (";\n" : Str) = lineS (.opn d p n q) := by
      show _ = openS d p n q ++ ("\n" : Str) ++ Str.empty
      unfold openS
      simp only [catS, Str.append_empty, Str.append_assoc]
      rw [show (";" : Str) ++ ("\n" : Str) = (";\n" : Str) by decide +kernel]
    exact ⟨M, selfF_ok (by simp [m__law_line, s__law_line_5, s__law_line_6, s__law_line_7, s__law_line_3, Item.toP, atI, ixN, a1, a2, a3, a4, a5, a6, a7, a8, str_n p M (by omega), str_n q M (by omega), e, str_lit_eq]) (Nat.le_refl _), List.prefix_refl _⟩
  | @wall n rs hn hr =>
    have hs : rs.length ≤ 20 := hs
    obtain ⟨M', e, p⟩ := x_law_rules_lines hn.len hw hr hs M
    simp only [Item.toP] at e
    exact ⟨M', selfF_ok (by simp [m__law_line, s__law_line_5, s__law_line_6, s__law_line_7, s__law_line_8, s__law_line_4, Item.toP, atI, ixN, e, str_lit_eq, -List.map_map]) (pfx_len p), p⟩

def bagL (ns : List Int) : List D := ns.map fun i => .p (.int i)
theorem bagL_len (ns : List Int) : (bagL ns).length = ns.length := by simp [bagL]
structure Tape (M : Store) (t g b : Nat) : Prop where
  ne : g ≠ t
  ex : ∃ (gs : List Int) (seed k : Int), M[t]? = some (.lst [.ref g, .p (.int seed), .p (.int k)]) ∧ M[g]? = some (.lst (bagL gs)) ∧ (∀ x ∈ gs, 0 ≤ x) ∧ gs.length ≤ 100 ∧ 0 ≤ seed ∧ seed < 2147483647 ∧ 0 ≤ k ∧ k ≤ b
structure Kp (t g : Nat) (M M' : Store) : Prop where
  len : M.length ≤ M'.length
  at_ : ∀ l o, l ≠ t → l ≠ g → M[l]? = some o → M'[l]? = some o
theorem Kp.refl (t g : Nat) (M : Store) : Kp t g M M := ⟨Nat.le_refl _, fun _ _ _ _ h => h⟩
theorem Kp.trans {t g : Nat} {M M1 M2 : Store} (a : Kp t g M M1) (b : Kp t g M1 M2) : Kp t g M M2 := ⟨Nat.le_trans a.len b.len, fun l o h1 h2 h => b.at_ l o h1 h2 (a.at_ l o h1 h2 h)⟩
theorem Kp.app (t g : Nat) (M x : Store) : Kp t g M (M ++ x) := ⟨by simp, fun l o _ _ h => get_app h x⟩
theorem Kp.pfx {t g : Nat} {M M' : Store} (p : M <+: M') : Kp t g M M' := ⟨pfx_len p, fun l o _ _ h => pfx_get p h⟩
theorem Tape.mono {M : Store} {t g b b' : Nat} (h : Tape M t g b) (k : b ≤ b') : Tape M t g b' := ⟨h.ne, by
  obtain ⟨gs, seed, k', h1, h2, h3, h4, h5, h6, h7, h8⟩ := h.ex
  exact ⟨gs, seed, k', h1, h2, h3, h4, h5, h6, h7, by omega⟩⟩
theorem Tape.pfx {M M' : Store} {t g b : Nat} (h : Tape M t g b) (p : M <+: M') : Tape M' t g b := ⟨h.ne, by
  obtain ⟨gs, seed, k', h1, h2, h3⟩ := h.ex
  exact ⟨gs, seed, k', pfx_get p h1, pfx_get p h2, h3⟩⟩
theorem Tape.app {M : Store} {t g b : Nat} (h : Tape M t g b) (x : Store) : Tape (M ++ x) t g b := h.pfx (List.prefix_append _ _)
theorem Tape.set {M : Store} {t g b l : Nat} (h : Tape M t g b) (h1 : l ≠ t) (h2 : l ≠ g) (o : O) : Tape (M.set l o) t g b := ⟨h.ne, by
  obtain ⟨gs, seed, k', a1, a2, a3⟩ := h.ex
  exact ⟨gs, seed, k', get_set_ne a1 h1, get_set_ne a2 h2, a3⟩⟩
theorem Tape.lt {M : Store} {t g b : Nat} (h : Tape M t g b) : t < M.length ∧ g < M.length := by
  obtain ⟨gs, seed, k', a1, a2, a3⟩ := h.ex
  exact ⟨get_lt a1, get_lt a2⟩
/-- a place that is no part of the tape keeps being told so -/
theorem Kp.set {t g l : Nat} {M M' : Store} (k : Kp t g M M') (h : M.length ≤ l) (o : O) : Kp t g M (M'.set l o) := ⟨by rw [List.length_set]; exact k.len, fun a x h1 h2 h3 => by
  have hl := get_lt h3
  exact get_set_ne (k.at_ a x h1 h2 h3) (by omega)⟩
-- slots: 0:tape 1:limit 2:great 3:mixed 4:number
noncomputable def s__law_draw_1  : RS :=
  (rExpr (rLM mAppend (rVar 2) (rCons (rBin dDiv (rVar 4) (rVar 1)) rNil)))
noncomputable def s__law_draw_2  : RS :=
  (rSet 4 (rLM0 mPop (rVar 2)))
noncomputable def s__law_draw_3  : RS :=
  (rIfS (rTst asBool (rBin dGe (rVar 4) (rVar 1)))
  s__law_draw_1
  rSkip)
noncomputable def s__law_draw_4  : RS :=
  (rRet (rBin dMod (rCB cInt (rCons (rVar 4) rNil)) (rVar 1)))
noncomputable def b__law_draw_5  : RS :=
  (rSeq s__law_draw_2
  (rSeq s__law_draw_3
  s__law_draw_4))
noncomputable def s__law_draw_6  : RS :=
  (rSet 2 (rBin dIx (rVar 0) (rC (.p (.int 0)))))
noncomputable def s__law_draw_7  : RS :=
  (rIfS (rtAnd (rTst truthD (rVar 2)) (rTst asBool (rBin dGt (rVar 1) (rC (.p (.int 1))))))
  b__law_draw_5
  rSkip)
noncomputable def s__law_draw_8  : RS :=
  (rAsg (rBin dAdd (rBin dIx (rVar 0) (rC (.p (.int 2)))) (rC (.p (.int 1)))) (gSu (rVar 0) (rC (.p (.int 2))) setD))
noncomputable def s__law_draw_9  : RS :=
  (rSet 3 (rBin dMod (rCB cInt (rCons (rBin dAdd (rBin dMul (rCB cInt (rCons (rBin dAdd (rBin dIx (rVar 0) (rC (.p (.int 1)))) (rBin dIx (rVar 0) (rC (.p (.int 2))))) rNil)) (rC (.p (.int 69621)))) (rBin dMul (rBin dMul (rBin dIx (rVar 0) (rC (.p (.int 2)))) (rBin dIx (rVar 0) (rC (.p (.int 2))))) (rC (.p (.int 40692))))) rNil)) (rC (.p (.int 2147483629)))))
noncomputable def s__law_draw_10  : RS :=
  (rRet (rBin dMod (rCB cInt (rCons (rBin dDiv (rBin dMod (rCB cInt (rCons (rBin dAdd (rBin dMul (rVar 3) (rVar 3)) (rBin dMul (rBin dIx (rVar 0) (rC (.p (.int 2)))) (rC (.p (.int 48271))))) rNil)) (rC (.p (.int 2147483647)))) (rC (.p (.int 11)))) rNil)) (rVar 1)))
noncomputable def m__law_draw  : RS :=
  (rSeq s__law_draw_6
  (rSeq s__law_draw_7
  (rSeq s__law_draw_8
  (rSeq s__law_draw_9
  s__law_draw_10))))

noncomputable def F__law_draw : List D → Store → R D := selfF 5 m__law_draw
theorem r__law_draw : Ref 2 5 F__law_draw m__law_draw := ref_self 2 5 m__law_draw
theorem snoc_or {α : Type} (xs : List α) : xs = [] ∨ ∃ ys y, xs = ys ++ [y] := by
  cases xs with
  | nil => exact .inl rfl
  | cons x xs => exact .inr ⟨(x :: xs).dropLast, (x :: xs).getLast (by simp), (List.dropLast_concat_getLast (by simp)).symm⟩
theorem x_draw (M : Store) (t g b : Nat) (lim : Int) (h0 : 0 < lim) (hl : lim < 2 ^ 900) (T : Tape M t g b) (hb : b ≤ 1000000000) : ∃ (v : Nat) (M' : Store), F__law_draw [.ref t, .p (.int lim)] M = .ok (.p (.int v)) M' ∧ (v : Int) < lim ∧ Tape M' t g (b + 1) ∧ Kp t g M M' := by
  obtain ⟨gs, seed, k, h1, h2, h3, h4, h5, h6, h7, h8⟩ := T.ex
  have nt := T.ne
  have i0 := v_ix_l t _ 0 (.ref g) M h1 rfl
  have dl : divOk lim := div_small h0 (Int.lt_of_lt_of_le hl (by decide))
  have e6 : s__law_draw_6 (startD 5 [.ref t, .p (.int lim)]) M = .nx [some (.ref t), some (.p (.int lim)), some (.ref g), none, none] M := by
    simp [s__law_draw_6, show dIx (.ref t) (.p (.int 0)) M = _ from i0]
  -- the second way
  have second : ∀ M : Store, M[t]? = some (.lst [.ref g, .p (.int seed), .p (.int k)]) → M[g]? = some (.lst (bagL gs)) → ∃ (v : Nat) (M' : Store), bodyR ((rSeq s__law_draw_8 (rSeq s__law_draw_9 s__law_draw_10)) [some (.ref t), some (.p (.int lim)), some (.ref g), none, none] M) = .ok (.p (.int v)) M' ∧ (v : Int) < lim ∧ Tape M' t g (b + 1) ∧ Kp t g M M' := by
    intro M h1 h2
    have hlt := get_lt h1
    have i2 := v_ix_l t _ 2 (.p (.int k)) M h1 rfl
    have st := v_set t _ 2 (.p (.int (k + 1))) M h1 (by simp)
    have hM : (M.set t (.lst [.ref g, .p (.int seed), .p (.int (k + 1))]))[t]? = some (.lst [.ref g, .p (.int seed), .p (.int (k + 1))]) := get_set_same hlt
    have j1 := v_ix_l t _ 1 (.p (.int seed)) _ hM rfl
    have j2 := v_ix_l t _ 2 (.p (.int (k + 1))) _ hM rfl
    generalize hM1 : M.set t (.lst [.ref g, .p (.int seed), .p (.int (k + 1))]) = M1 at hM j1 j2
    have m1 := v_mul (seed + (k + 1)) 69621 M1 (mul_small (by decide) (by decide))
    have m2 := v_mul (k + 1) (k + 1) M1 (mul_small (by omega) (by omega))
    have m3 := v_mul ((k + 1) * (k + 1)) 40692 M1 (mul_small (by decide) (by decide))
    have m4 := v_mod ((seed + (k + 1)) * 69621 + (k + 1) * (k + 1) * 40692) 2147483629 M1 (by decide)
    have x0 := Int.emod_nonneg ((seed + (k + 1)) * 69621 + (k + 1) * (k + 1) * 40692) (by decide : (2147483629 : Int) ≠ 0)
    have x1 := Int.emod_lt_of_pos ((seed + (k + 1)) * 69621 + (k + 1) * (k + 1) * 40692) (by decide : (0 : Int) < 2147483629)
    generalize ((seed + (k + 1)) * 69621 + (k + 1) * (k + 1) * 40692) % 2147483629 = x at m4 x0 x1
    have m5 := v_mul x x M1 (mul_small (by omega) (by omega))
    have m6 := v_mul (k + 1) 48271 M1 (mul_small (by decide) (by decide))
    have m7 := v_mod (x * x + (k + 1) * 48271) 2147483647 M1 (by decide)
    have m8 := v_div ((x * x + (k + 1) * 48271) % 2147483647) 11 M1 (div_small (by decide) (by decide))
    have m9 := v_mod ((x * x + (k + 1) * 48271) % 2147483647 / 11) lim M1 h0
    have y0 := Int.emod_nonneg ((x * x + (k + 1) * 48271) % 2147483647 / 11) (show lim ≠ 0 by omega)
    have y1 := Int.emod_lt_of_pos ((x * x + (k + 1) * 48271) % 2147483647 / 11) h0
    generalize ((x * x + (k + 1) * 48271) % 2147483647 / 11) % lim = y at m9 y0 y1
    obtain ⟨v, rfl⟩ := Int.eq_ofNat_of_zero_le y0
    refine ⟨v, M1, ?_, y1, ⟨nt, gs, seed, k + 1, hM, ?_, h3, h4, h5, h6, by omega, by omega⟩, ?_⟩
    · have st' : setD (.ref t) (.p (.int 2)) (.p (.int (k + 1))) M = some M1 := by rw [← hM1]; exact st
      have i2' : dIx (.ref t) (.p (.int 2)) M = some (.p (.int k), M) := i2
      have j1' : dIx (.ref t) (.p (.int 1)) M1 = some (.p (.int seed), M1) := j1
      have j2' : dIx (.ref t) (.p (.int 2)) M1 = some (.p (.int (k + 1)), M1) := j2
      simp [s__law_draw_8, s__law_draw_9, s__law_draw_10, i2', st', j1', j2', m1, m2, m3, m4, m5, m6, m7, m8, m9]
    · rw [← hM1]; exact get_set_ne h2 (Ne.symm nt)
    · rw [← hM1]
      exact ⟨by simp, fun l o a1 a2 a3 => get_set_ne a3 (Ne.symm a1)⟩
  have tr : truthD (.ref g) M = some (!gs.isEmpty) := by
    simp [truthD, h2, bagL]
  rcases snoc_or gs with e | ⟨ys, y, e⟩
  · subst e
    obtain ⟨v, M', q1, q2⟩ := second M h1 h2
    refine ⟨v, M', selfF_ok ?_ q2.2.2.len, q2⟩
    rw [← q1]
    unfold m__law_draw
    rw [e_seq, e6, Out.bind_nx, e_seq]
    have e7 : s__law_draw_7 [some (.ref t), some (.p (.int lim)), some (.ref g), none, none] M = .nx [some (.ref t), some (.p (.int lim)), some (.ref g), none, none] M := by
      simp [s__law_draw_7, tr]
    rw [e7, Out.bind_nx]
  · by_cases hl1 : 1 < lim
    · have hy : 0 ≤ y := h3 y (by rw [e]; simp)
      have hglt := get_lt h2
      have hne : (!gs.isEmpty) = true := by rw [e]; simp
      rw [hne] at tr
      have eb : bagL gs = bagL ys ++ [.p (.int y)] := by rw [e]; simp [bagL]
      have pp : mPop (.ref g) [] M = some (.p (.int y), M.set g (.lst (bagL ys))) := by
        simp [mPop, h2, eb]
      have hM1 : (M.set g (.lst (bagL ys)))[g]? = some (.lst (bagL ys)) := get_set_same hglt
      have ht1 : (M.set g (.lst (bagL ys)))[t]? = some (.lst [.ref g, .p (.int seed), .p (.int k)]) := get_set_ne h1 nt
      have kp1 : Kp t g M (M.set g (.lst (bagL ys))) := ⟨by simp, fun l o a1 a2 a3 => get_set_ne a3 (Ne.symm a2)⟩
      have hys : ∀ x ∈ ys, 0 ≤ x := fun x hx => h3 x (by rw [e]; simp [hx])
      have hyl : ys.length ≤ 99 := by rw [e] at h4; simp at h4; omega
      have m1 := v_div y lim (M.set g (.lst (bagL ys))) dl
      have z0 := Int.emod_nonneg y (show lim ≠ 0 by omega)
      have z1 := Int.emod_lt_of_pos y h0
      have ap := v_append g (bagL ys) (.p (.int (y / lim))) _ hM1 (lt_line (by rw [bagL_len]; omega))
      rw [set_set] at ap
      have isl := isLst_ref g _ M h2
      have isl1 := isLst_ref g _ _ hM1
      have fin : ∀ M2, M2[t]? = some (O.lst [.ref g, .p (.int seed), .p (.int k)]) → (∃ us : List Int, M2[g]? = some (O.lst (bagL us)) ∧ (∀ x ∈ us, 0 ≤ x) ∧ us.length ≤ 100) → Kp t g M M2 → s__law_draw_3 [some (.ref t), some (.p (.int lim)), some (.ref g), none, some (.p (.int y))] (M.set g (.lst (bagL ys))) = .nx [some (.ref t), some (.p (.int lim)), some (.ref g), none, some (.p (.int y))] M2 →
          ∃ (v : Nat) (M' : Store), F__law_draw [.ref t, .p (.int lim)] M = .ok (.p (.int v)) M' ∧ (v : Int) < lim ∧ Tape M' t g (b + 1) ∧ Kp t g M M' := by
        rintro M2 q1 ⟨us, q2, q3, q4⟩ q5 q6
        have m2 := v_mod y lim M2 h0
        obtain ⟨v, hv⟩ := Int.eq_ofNat_of_zero_le z0
        rw [hv] at m2 z1
        refine ⟨v, M2, selfF_ok ?_ q5.len, z1, ⟨nt, us, seed, k, q1, q2, q3, q4, h5, h6, h7, by omega⟩, q5⟩
        unfold m__law_draw
        rw [e_seq, e6, Out.bind_nx, e_seq]
        have e7 : s__law_draw_7 [some (.ref t), some (.p (.int lim)), some (.ref g), none, none] M = .rt (.p (.int v)) M2 := by
          have e2 : s__law_draw_2 [some (.ref t), some (.p (.int lim)), some (.ref g), none, none] M = .nx [some (.ref t), some (.p (.int lim)), some (.ref g), none, some (.p (.int y))] (M.set g (.lst (bagL ys))) := by
            simp [s__law_draw_2, isl, pp]
          have e5 : b__law_draw_5 [some (.ref t), some (.p (.int lim)), some (.ref g), none, none] M = .rt (.p (.int v)) M2 := by
            unfold b__law_draw_5
            rw [e_seq, e2, Out.bind_nx, e_seq, q6, Out.bind_nx]
            simp [s__law_draw_4, m2]
          simp [s__law_draw_7, tr, hl1, e5]
        rw [e7]
        rfl
      by_cases hq : lim ≤ y
      · refine fin (M.set g (.lst (bagL ys ++ [.p (.int (y / lim))]))) (get_set_ne h1 nt) ⟨ys ++ [y / lim], by rw [get_set_same hglt]; simp [bagL], fun x hx => ?_, by simp; omega⟩ ⟨by simp, fun l o a1 a2 a3 => get_set_ne a3 (Ne.symm a2)⟩ ?_
        · rcases List.mem_append.mp hx with hx | hx
          · exact hys x hx
          · rw [List.mem_singleton.mp hx]
            exact Int.ediv_nonneg hy (by omega)
        · simp [s__law_draw_3, s__law_draw_1, hq, isl1, m1, ap]
      · exact fin _ ht1 ⟨ys, hM1, hys, by omega⟩ kp1 (by simp [s__law_draw_3, hq])
    · obtain ⟨v, M', q1, q2⟩ := second M h1 h2
      refine ⟨v, M', selfF_ok ?_ q2.2.2.len, q2⟩
      rw [← q1]
      unfold m__law_draw
      rw [e_seq, e6, Out.bind_nx, e_seq]
      have e7 : s__law_draw_7 [some (.ref t), some (.p (.int lim)), some (.ref g), none, none] M = .nx [some (.ref t), some (.p (.int lim)), some (.ref g), none, none] M := by
        simp [s__law_draw_7, tr, hl1]
      rw [e7, Out.bind_nx]
-- slots: 0:script 1:great 2:seed 3:cell
noncomputable def s__law_tape_1  : RS :=
  (rExpr (rLM mAppend (rVar 1) (rCons (rCB cAbs (rCons (rCB cInt (rCons (rVar 3) rNil)) rNil)) rNil)))
noncomputable def s__law_tape_2  : RS :=
  (rSet 2 (rBin dMod (rCB cInt (rCons (rBin dAdd (rBin dMul (rVar 2) (rC (.p (.int 48271)))) (rCB cInt (rCons (rVar 3) rNil))) rNil)) (rC (.p (.int 2147483647)))))
noncomputable def s__law_tape_3  : RS :=
  (rIfS (rTst asBool (rBin dGe (rCB cAbs (rCons (rCB cInt (rCons (rVar 3) rNil)) rNil)) (rBin dPow (rC (.p (.int 10))) (rC (.p (.int 18))))))
  s__law_tape_1
  rSkip)
noncomputable def b__law_tape_4  : RS :=
  (rSeq s__law_tape_2
  s__law_tape_3)
noncomputable def s__law_tape_5  : RS :=
  (rSet 1 (rLst rNil))
noncomputable def s__law_tape_6  : RS :=
  (rSet 2 (rC (.p (.int 59))))
noncomputable def s__law_tape_7  : RS :=
  (rFor (rSl (rVar 0) rNoPart (rPart (rC (.p (.int 63))))) (gNm 3)
  b__law_tape_4)
noncomputable def s__law_tape_8  : RS :=
  (rExpr (rLM0 mReverse (rVar 1)))
noncomputable def s__law_tape_9  : RS :=
  (rRet (rLst (rCons (rVar 1) (rCons (rVar 2) (rCons (rC (.p (.int 0))) rNil)))))
noncomputable def m__law_tape  : RS :=
  (rSeq s__law_tape_5
  (rSeq s__law_tape_6
  (rSeq s__law_tape_7
  (rSeq s__law_tape_8
  s__law_tape_9))))

noncomputable def F__law_tape : List D → Store → R D := selfF 4 m__law_tape
theorem r__law_tape : Ref 1 4 F__law_tape m__law_tape := ref_self 1 4 m__law_tape
theorem x_tape (s : List Int) (hl : s.length ≤ 63) : ∃ M', F__law_tape [.ref 0] [.ro (bagL s)] = .ok (.ref 3) M' ∧ Tape M' 3 1 0 ∧ M'.length = 4 ∧ M'[0]? = some (.ro (bagL s)) := by
  have hs : dSl (.ref 0) none (some 63) [.ro (bagL s), .lst []] = some (.ref 2, [.ro (bagL s), .lst [], .lst (bagL (cutL s none (some 63)))]) := by
    have e : cutL (bagL s) none (some 63) = bagL (cutL s none (some 63)) := cutL_map _ _ _ _
    simp [dSl, e]
  have hc : (cutL s none (some 63)).length ≤ 63 := by
    unfold cutL
    rw [List.length_take, List.length_drop]
    omega
  generalize cutL s none (some 63) = c at hs hc
  obtain ⟨ρ', M', k1, gs, seed, z, a1, a2, a3, a4, rfl, rfl⟩ := forL_inv (k := some (2, .lst (bagL c))) (g := gNm 3) (body := b__law_tape_4) (bagL c)
    (fun i ρ M => ∃ (gs : List Int) (seed : Int) (z : Option D), gs.length ≤ i ∧ (∀ x ∈ gs, 0 ≤ x) ∧ 0 ≤ seed ∧ seed < 2147483647 ∧ ρ = [some (.ref 0), some (.ref 1), some (.p (.int seed)), z] ∧ M = [.ro (bagL s), .lst (bagL gs), .lst (bagL c)])
    (by rintro i ρ M ⟨_, _, _, _, _, _, _, _, rfl⟩; rfl) (by
    rintro i x ρ M hi ⟨gs, seed, z, a1, a2, a3, a4, rfl, rfl⟩
    obtain ⟨n, _, rfl⟩ := List.mem_map.mp (List.mem_of_getElem? hi)
    have hi2 := (List.getElem?_eq_some_iff.mp hi).1
    rw [bagL_len] at hi2
    have m1 := v_mul seed 48271 [.ro (bagL s), .lst (bagL gs), .lst (bagL c)] (mul_small (by decide) (by decide))
    have m2 := v_mod (seed * 48271 + n) 2147483647 [.ro (bagL s), .lst (bagL gs), .lst (bagL c)] (by decide)
    have y0 := Int.emod_nonneg (seed * 48271 + n) (by decide : (2147483647 : Int) ≠ 0)
    have y1 := Int.emod_lt_of_pos (seed * 48271 + n) (by decide : (0 : Int) < 2147483647)
    generalize (seed * 48271 + n) % 2147483647 = sd at m2 y0 y1
    have m3 := v_pow 10 18 [.ro (bagL s), .lst (bagL gs), .lst (bagL c)] ⟨by decide, by decide, by decide⟩
    have ab : cAbs [.p (.int n)] [.ro (bagL s), .lst (bagL gs), .lst (bagL c)] = some (.p (.int (if n < 0 then -n else n)), [.ro (bagL s), .lst (bagL gs), .lst (bagL c)]) := v_abs n _
    have hn : 0 ≤ (if n < 0 then -n else n) := by split <;> omega
    generalize (if n < 0 then -n else n) = q at ab hn
    have ap := v_append 1 (bagL gs) (.p (.int q)) [.ro (bagL s), .lst (bagL gs), .lst (bagL c)] rfl (lt_line (by rw [bagL_len]; omega))
    have isl := isLst_ref 1 (bagL gs) [.ro (bagL s), .lst (bagL gs), .lst (bagL c)] rfl
    by_cases hq : (1000000000000000000 : Int) ≤ q
    · refine ⟨_, _, [some (.ref 0), some (.ref 1), some (.p (.int sd)), some (.p (.int n))], [.ro (bagL s), .lst (bagL gs ++ [.p (.int q)]), .lst (bagL c)], rfl, .inl ?_, gs ++ [q], sd, some (.p (.int n)), by simp; omega, fun x hx => ?_, y0, y1, rfl, by simp [bagL]⟩
      · simp [b__law_tape_4, s__law_tape_2, s__law_tape_3, s__law_tape_1, m1, m2, ab, m3, hq, isl, ap, -v_abs]
      · rcases List.mem_append.mp hx with hx | hx
        · exact a2 x hx
        · rw [List.mem_singleton.mp hx]; exact hn
    · refine ⟨_, _, [some (.ref 0), some (.ref 1), some (.p (.int sd)), some (.p (.int n))], [.ro (bagL s), .lst (bagL gs), .lst (bagL c)], rfl, .inl ?_, gs, sd, some (.p (.int n)), by omega, a2, y0, y1, rfl, rfl⟩
      simp [b__law_tape_4, s__law_tape_2, s__law_tape_3, m1, m2, ab, m3, hq, -v_abs]) (ρ := [some (.ref 0), some (.ref 1), some (.p (.int 59)), none]) (M := [.ro (bagL s), .lst [], .lst (bagL c)]) ⟨[], 59, none, Nat.zero_le _, (fun x hx => by simp at hx), by decide, by decide, rfl, rfl⟩
  rw [bagL_len] at a1
  have er : (bagL gs).reverse = bagL gs.reverse := by simp [bagL]
  refine ⟨[.ro (bagL s), .lst (bagL gs.reverse), .lst (bagL c), .lst [.ref 1, .p (.int seed), .p (.int 0)]], selfF_ok ?_ (by simp), ⟨by decide, gs.reverse, seed, 0, rfl, rfl, fun x hx => a2 x (by simpa using hx), by simp; omega, a3, a4, by decide, by decide⟩, rfl, rfl⟩
  have wk : walkD (.ref 2) [.ro (bagL s), .lst [], .lst (bagL c)] = some (bagL c, some (2, .lst (bagL c))) := walk_ref 2 _ _ rfl
  have rv : mReverse (.ref 1) [] [.ro (bagL s), .lst (bagL gs), .lst (bagL c)] = some (.p .non, [.ro (bagL s), .lst (bagL gs.reverse), .lst (bagL c)]) := by
    simp [mReverse, er]
  have isl : isLst (.ref 1) [.ro (bagL s), .lst (bagL gs), .lst (bagL c)] = true := isLst_ref 1 _ _ rfl
  simp [m__law_tape, s__law_tape_5, s__law_tape_6, s__law_tape_7, s__law_tape_8, s__law_tape_9, asPart, hs, wk, k1, isl, rv]
-- slots: 0:tape 1:row
noncomputable def m__law_pick  : RS :=
  (rRet (rBin dIx (rVar 1) (rCallN 2 F__law_draw (rCons (rVar 0) (rCons (rCB cLen (rCons (rVar 1) rNil)) rNil)))))

noncomputable def F__law_pick : List D → Store → R D := selfF 2 m__law_pick
theorem r__law_pick : Ref 2 2 F__law_pick m__law_pick := ref_self 2 2 m__law_pick
theorem x_pick_l (M : Store) (t g b r : Nat) (xs : List D) (hr : M[r]? = some (.lst xs)) (h0 : 0 < xs.length) (hl : xs.length ≤ 1000000) (n1 : r ≠ t) (n2 : r ≠ g) (T : Tape M t g b) (hb : b ≤ 1000000000) : ∃ (d : D) (M' : Store), F__law_pick [.ref t, .ref r] M = .ok d M' ∧ d ∈ xs ∧ Tape M' t g (b + 1) ∧ Kp t g M M' := by
  obtain ⟨v, M', q1, q2, q3, q4⟩ := x_draw M t g b (xs.length : Nat) (by omega) (Int.lt_of_le_of_lt (b := 1000000) (by omega) (by decide)) T hb
  have hv : v < xs.length := by omega
  have h2 := q4.at_ r _ n1 n2 hr
  have i0 := v_ix_l r xs v xs[v] M' h2 (List.getElem?_eq_getElem hv)
  have ln := v_len_l r xs M hr
  exact ⟨xs[v], M', selfF_ok (by simp [m__law_pick, ln, q1, i0]) q4.len, List.getElem_mem hv, q3, q4⟩
/-! ### the same -/
def fitQ : Nat → P → Prop
  | 0, _ => False
  | n + 1, .tup xs => xs.length ≤ 1000000 ∧ ∀ y ∈ xs, fitQ n y
  | _ + 1, _ => True
open Classical in
noncomputable def Fp_same : Nat → List D → Store → R D
  | 0 => fun _ _ => .no
  | n + 1 => fun ds M => match ds with
    | [.p x, .p y] => if x = y ∧ fitQ (n + 1) x then .ok (.p (.bl true)) M else .no
    | _ => .no
open Classical in
theorem fp_succ (n : Nat) (ds : List D) (M : Store) : Fp_same (n + 1) ds M = (match ds with
    | [.p x, .p y] => if x = y ∧ fitQ (n + 1) x then .ok (.p (.bl true)) M else .no
    | _ => .no) := rfl
-- slots: 0:told 1:due 2:k
noncomputable def m__law_same (n : Nat) : RS :=
  (rSeq (rIfS (rTst asBool (rBin dIsN (rVar 1) (rC (.p .non))))
  (rRet (rBin dIsN (rVar 0) (rC (.p .non))))
  rSkip)
  (rSeq (rIfS (rTst asBool (rBin dIsB (rVar 1) (rC (.p (.bl true)))))
  (rRet (rBin dIsB (rVar 0) (rC (.p (.bl true)))))
  rSkip)
  (rSeq (rIfS (rTst asBool (rBin dIsB (rVar 1) (rC (.p (.bl false)))))
  (rRet (rBin dIsB (rVar 0) (rC (.p (.bl false)))))
  rSkip)
  (rSeq (rIfS (rTst truthD (rIsa "str" (rVar 1)))
  (rRet (rAnd (rIsa "str" (rVar 0)) (rBin dEq (rVar 0) (rVar 1))))
  rSkip)
  (rSeq (rIfS (rTst truthD (rIsa "int" (rVar 1)))
  (rRet (rAnd (rIsa "int" (rVar 0)) (rAnd (rNot (rTst truthD (rIsa "bool" (rVar 0)))) (rBin dEq (rVar 0) (rVar 1)))))
  rSkip)
  (rSeq (rIfS (rtOr (rtNot (rTst truthD (rIsa "tuple" (rVar 0)))) (rTst asBool (rBin dNe (rCB cLen (rCons (rVar 0) rNil)) (rCB cLen (rCons (rVar 1) rNil)))))
  (rRet (rC (.p (.bl false))))
  rSkip)
  (rSeq (rForR rng1 (rCons (rCB cLen (rCons (rVar 1) rNil)) rNil) (gNm 2)
  (rIfS (rtNot (rTst truthD (rCallN 2 (Fp_same n) (rCons (rBin dIx (rVar 0) (rVar 2)) (rCons (rBin dIx (rVar 1) (rVar 2)) rNil)))))
  (rRet (rC (.p (.bl false))))
  rSkip))
  (rRet (rC (.p (.bl true)))))))))))

open Classical in
theorem r__law_same (n : Nat) : Ref 2 3 (Fp_same (n + 1)) (m__law_same n) := by
  intro ds M hl
  rw [fp_succ]
  clear hl
  split
  · rename_i x y
    by_cases h : x = y ∧ fitQ (n + 1) x
    · rw [if_pos h]
      obtain ⟨rfl, hf⟩ := h
      have key : bodyR (m__law_same n (startD 3 [.p x, .p x]) M) = .ok (.p (.bl true)) M := by
        cases x with
        | non => simp [m__law_same]
        | bl k => cases k <;> simp [m__law_same]
        | str k => simp [m__law_same, isaT]
        | int k => simp [m__law_same, isaT]
        | tup xs =>
          obtain ⟨h1, h2⟩ := hf
          have er := rng1_len xs.length h1
          obtain ⟨z, e⟩ := forL_ok (g := gNm 2) (body := (rIfS (rtNot (rTst truthD (rCallN 2 (Fp_same n) (rCons (rBin dIx (rVar 0) (rVar 2)) (rCons (rBin dIx (rVar 1) (rVar 2)) rNil))))) (rRet (rC (.p (.bl false)))) rSkip)) (fun z => [some (.p (.tup xs)), some (.p (.tup xs)), z]) M (intsD 0 xs.length) (by
            intro d hd z
            obtain ⟨j, hj, rfl⟩ := List.mem_map.mp hd
            have hj := List.mem_range.mp hj
            have i0 : dIx (.p (.tup xs)) (.p (.int ((0 : Int) + (j : Int)))) M = some (.p xs[j], M) := by
              rw [Int.zero_add, v_ix_t, atI_nat (by rw [List.getElem?_map, List.getElem?_eq_getElem hj]; rfl)]
              rfl
            have hq := h2 xs[j] (List.getElem_mem hj)
            have c : Fp_same n [.p xs[j], .p xs[j]] M = .ok (.p (.bl true)) M := by
              cases n with
              | zero => exact hq.elim
              | succ n => exact if_pos ⟨rfl, hq⟩
            exact ⟨_, some (.p (.int ((0 : Int) + (j : Int)))), rfl, by simp [i0, c, -v_ix_t, -Int.zero_add]⟩) none
          simp [m__law_same, isaT, er, e]
      refine ⟨Nat.le_refl _, ?_⟩
      rw [key]
      simp
    · rw [if_neg h]
      simp
  · simp
theorem same_ok (x : P) (h : fitQ 9 x) (M : Store) : Fp_same 9 [.p x, .p x] M = .ok (.p (.bl true)) M := if_pos ⟨rfl, h⟩

structure RowN (fs gs : List Nat) (n : Nat) (s : Str) : Prop where
  first : ∃ c r, s.cps.toList = c :: r ∧ c ∈ fs
  all : ∀ c ∈ s.cps.toList, c ∈ gs
  len : s.length ≤ n
theorem RowN.row {fs gs : List Nat} {n : Nat} {s : Str} (h : RowN fs gs n s) (k : n ≤ 300) : RowS fs gs s := ⟨h.first, h.all, Nat.le_trans h.len k⟩
theorem RowN.one {fs gs : List Nat} {c : Nat} (h : c ∈ fs) (k : c ∈ gs) : RowN fs gs 1 ⟨#[c]⟩ := ⟨⟨c, [], rfl, h⟩, fun x hx => by simp at hx; rw [hx]; exact k, Nat.le_refl _⟩
theorem RowN.snoc {fs gs : List Nat} {n : Nat} {s : Str} (h : RowN fs gs n s) {c : Nat} (k : c ∈ gs) : RowN fs gs (n + 1) (s ++ ⟨#[c]⟩) := by
  have e : (s ++ (⟨#[c]⟩ : Str)).cps.toList = s.cps.toList ++ [c] := by rw [Str.cps_append]; simp
  refine ⟨?_, fun x hx => ?_, ?_⟩
  · obtain ⟨a, r, h1, h2⟩ := h.first
    exact ⟨a, r ++ [c], by rw [e, h1]; rfl, h2⟩
  · rw [e] at hx
    rcases List.mem_append.mp hx with hx | hx
    · exact h.all x hx
    · rw [List.mem_singleton.mp hx]; exact k
  · rw [Str.length_append]
    have : (⟨#[c]⟩ : Str).length = 1 := rfl
    have := h.len
    omega
theorem RowN.mono {fs gs : List Nat} {n m : Nat} {s : Str} (h : RowN fs gs n s) (k : n ≤ m) : RowN fs gs m s := ⟨h.first, h.all, Nat.le_trans h.len k⟩
theorem lit_ix (z : Str) (v : Nat) (hz : z.length ≤ 1000) (h : v < z.length) (M : Store) : ∃ c ∈ z.cps.toList, dIx (.p (.str z)) (.p (.int v)) M = some (.p (.str ⟨#[c]⟩), M) := by
  have h1 : z.length ≤ sizeLine := le_line (by omega)
  have h2 : v < z.cps.toList.length := by simpa [Str.length] using h
  refine ⟨z.cps.toList[v], List.getElem_mem h2, ?_⟩
  have e : atI z.cps.toList (v : Int) = some z.cps.toList[v] := atI_nat (List.getElem?_eq_getElem h2)
  simp only [dIx, h1, if_true, e, Option.map_some]
-- slots: 0:tape 1:used 2:name 3:k 4:words
noncomputable def s__law_name_1  : RS :=
  (rSet 2 (rBin dAdd (rVar 2) (rBin dIx (rC (.p (.str "abcdefghijklmnopqrstuvwxyz0123456789_"))) (rCallN 2 F__law_draw (rCons (rVar 0) (rCons (rC (.p (.int 37))) rNil))))))
noncomputable def s__law_name_2  : RS :=
  rBreak
noncomputable def s__law_name_3  : RS :=
  (rIfS (rtAnd (rTst asBool (rBin dNotInX (rVar 2) (rVar 1))) (rTst asBool (rBin dNotInX (rVar 2) (rVar 4))))
  s__law_name_2
  rSkip)
noncomputable def s__law_name_4  : RS :=
  (rSet 2 (rBin dAdd (rVar 2) (rBin dIx (rC (.p (.str "0123456789"))) (rBin dMod (rVar 3) (rC (.p (.int 10)))))))
noncomputable def b__law_name_5  : RS :=
  (rSeq s__law_name_3
  s__law_name_4)
noncomputable def s__law_name_6  : RS :=
  (rSet 2 (rBin dIx (rC (.p (.str "abcdefghijklmnopqrstuvwxyz"))) (rCallN 2 F__law_draw (rCons (rVar 0) (rCons (rC (.p (.int 26))) rNil)))))
noncomputable def s__law_name_7  : RS :=
  (rForR rng1 (rCons (rCallN 2 F__law_draw (rCons (rVar 0) (rCons (rBin dIx (rLst (rCons (rC (.p (.int 1))) (rCons (rC (.p (.int 2))) (rCons (rC (.p (.int 4))) (rCons (rC (.p (.int 12))) rNil))))) (rCallN 2 F__law_draw (rCons (rVar 0) (rCons (rC (.p (.int 4))) rNil)))) rNil))) rNil) (gNm 3)
  s__law_name_1)
noncomputable def s__law_name_8  : RS :=
  (rSet 4 (rLst (rCons (rC (.p (.str "any"))) (rCons (rC (.p (.str "both"))) (rCons (rC (.p (.str "door"))) (rCons (rC (.p (.str "end"))) (rCons (rC (.p (.str "from"))) (rCons (rC (.p (.str "host"))) (rCons (rC (.p (.str "in"))) (rCons (rC (.p (.str "keeps"))) (rCons (rC (.p (.str "let"))) (rCons (rC (.p (.str "lets"))) (rCons (rC (.p (.str "maps"))) (rCons (rC (.p (.str "net"))) (rCons (rC (.p (.str "open"))) rNil)))))))))))))))
noncomputable def s__law_name_9  : RS :=
  (rSet 4 (rBin dAdd (rVar 4) (rLst (rCons (rC (.p (.str "ports"))) (rCons (rC (.p (.str "span"))) (rCons (rC (.p (.str "stop"))) (rCons (rC (.p (.str "to"))) (rCons (rC (.p (.str "turns"))) (rCons (rC (.p (.str "wall"))) rNil)))))))))
noncomputable def s__law_name_10  : RS :=
  (rForR rng1 (rCons (rC (.p (.int 99))) rNil) (gNm 3)
  b__law_name_5)
noncomputable def s__law_name_11  : RS :=
  (rExpr (rLM mAppend (rVar 1) (rCons (rVar 2) rNil)))
noncomputable def s__law_name_12  : RS :=
  (rRet (rVar 2))
noncomputable def m__law_name  : RS :=
  (rSeq s__law_name_6
  (rSeq s__law_name_7
  (rSeq s__law_name_8
  (rSeq s__law_name_9
  (rSeq s__law_name_10
  (rSeq s__law_name_11
  s__law_name_12))))))

noncomputable def F__law_name : List D → Store → R D := selfF 5 m__law_name
theorem r__law_name : Ref 2 5 F__law_name m__law_name := ref_self 2 5 m__law_name
theorem small_sign : ∀ c ∈ ("abcdefghijklmnopqrstuvwxyz" : Str).cps.toList, c ∈ smallL ∧ c ∈ signL := by decide +kernel
theorem sign_sign : ∀ c ∈ ("abcdefghijklmnopqrstuvwxyz0123456789_" : Str).cps.toList, c ∈ signL := by decide +kernel
theorem digit_sign : ∀ c ∈ ("0123456789" : Str).cps.toList, c ∈ signL ∧ ∀ w ∈ wordsS, c ∉ w.cps.toList := by decide +kernel
theorem no_word {s : Str} {c : Nat} (h : c ∈ ("0123456789" : Str).cps.toList) : (s ++ (⟨#[c]⟩ : Str)) ∉ wordsS := fun hw => (digit_sign c h).2 _ hw (by rw [Str.cps_append]; simp)
theorem x_name (M : Store) (t g b u : Nat) (us : List Str) (T : Tape M t g b) (hb : b ≤ 900000000) (hu : M[u]? = some (.lst ((us.map P.str).map D.p))) (n1 : u ≠ t) (n2 : u ≠ g) (hus : us.length ≤ 1000) :
    ∃ (s : Str) (M' : Store), F__law_name [.ref t, .ref u] M = .ok (.p (.str s)) M' ∧ Nm s ∧ Tape M' t g (b + 20) ∧ M'[u]? = some (.lst (((us ++ [s]).map P.str).map D.p)) ∧ M.length ≤ M'.length ∧ ∀ l o, l ≠ t → l ≠ g → l ≠ u → M[l]? = some o → M'[l]? = some o := by
  obtain ⟨v1, M1, a1, a2, a3, a4⟩ := x_draw M t g b 26 (by decide) (by decide) T (by omega)
  obtain ⟨c1, hc1, d1⟩ := lit_ix ("abcdefghijklmnopqrstuvwxyz" : Str) v1 (by decide +kernel) (by rw [show ("abcdefghijklmnopqrstuvwxyz" : Str).length = 26 by decide +kernel]; omega) M1
  have r1 : RowN smallL signL 1 ⟨#[c1]⟩ := .one (small_sign c1 hc1).1 (small_sign c1 hc1).2
  have e6 : s__law_name_6 (startD 5 [.ref t, .ref u]) M = .nx [some (.ref t), some (.ref u), some (.p (.str ⟨#[c1]⟩)), none, none] M1 := by
    simp [s__law_name_6, a1, d1]
  -- how many
  obtain ⟨v2, M2, b1, b2, b3, b4⟩ := x_draw (M1 ++ [.lst [.p (.int 1), .p (.int 2), .p (.int 4), .p (.int 12)]]) t g (b + 1) 4 (by decide) (by decide) (a3.app _) (by omega)
  have hl2 := b4.at_ M1.length _ (by have := a3.lt; omega) (by have := a3.lt; omega) (get_new M1 (.lst [.p (.int 1), .p (.int 2), .p (.int 4), .p (.int 12)]))
  obtain ⟨k, hk1, hk2, i2⟩ : ∃ k : Nat, 1 ≤ k ∧ k ≤ 12 ∧ dIx (.ref M1.length) (.p (.int v2)) M2 = some (.p (.int k), M2) := by
    have hv : v2 = 0 ∨ v2 = 1 ∨ v2 = 2 ∨ v2 = 3 := by omega
    rcases hv with rfl | rfl | rfl | rfl
    · exact ⟨1, by decide, by decide, v_ix_l _ _ 0 _ M2 hl2 rfl⟩
    · exact ⟨2, by decide, by decide, v_ix_l _ _ 1 _ M2 hl2 rfl⟩
    · exact ⟨4, by decide, by decide, v_ix_l _ _ 2 _ M2 hl2 rfl⟩
    · exact ⟨12, by decide, by decide, v_ix_l _ _ 3 _ M2 hl2 rfl⟩
  obtain ⟨v3, M3, g1, g2, g3, g4⟩ := x_draw M2 t g (b + 2) k (by omega) (Int.lt_of_le_of_lt (b := 12) (by omega) (by decide)) b3 (by omega)
  have kp3 : Kp t g M M3 := (a4.trans (Kp.app t g M1 _)).trans (b4.trans g4)
  have er : rng1 [.p (.int v3)] = some (0, v3) := rng1_len v3 (by omega)
  obtain ⟨ρ4, M4, k4, s4, z4, q1, q2, q3, rfl⟩ := forL_inv (k := none) (g := gNm 3) (body := s__law_name_1) (intsD 0 v3) (fun i ρ M' => ∃ (s : Str) (z : Option D), RowN smallL signL (1 + i) s ∧ Tape M' t g (b + 3 + i) ∧ Kp t g M3 M' ∧ ρ = [some (.ref t), some (.ref u), some (.p (.str s)), z, none]) (fun _ _ _ _ => True.intro) (by
    rintro i x ρ M' hi ⟨s, z, q1, q2, q3, rfl⟩
    have hi2 := (List.getElem?_eq_some_iff.mp hi).1
    rw [intsD_len] at hi2
    obtain ⟨w, M5, h1, h2, h3, h4⟩ := x_draw M' t g (b + 3 + i) 37 (by decide) (by decide) q2 (by omega)
    obtain ⟨c, hc, d⟩ := lit_ix ("abcdefghijklmnopqrstuvwxyz0123456789_" : Str) w (by decide +kernel) (by rw [show ("abcdefghijklmnopqrstuvwxyz0123456789_" : Str).length = 37 by decide +kernel]; omega) M5
    have ad := v_adds s ⟨#[c]⟩ M5 (by have := q1.len; have : (⟨#[c]⟩ : Str).length = 1 := rfl; omega)
    exact ⟨_, _, [some (.ref t), some (.ref u), some (.p (.str (s ++ ⟨#[c]⟩))), some x, none], M5, rfl, .inl (by simp [s__law_name_1, h1, d, ad]), _, _, (q1.snoc (sign_sign c hc)).mono (by omega), h3.mono (by omega), q3.trans h4, rfl⟩) (ρ := [some (.ref t), some (.ref u), some (.p (.str ⟨#[c1]⟩)), none, none]) (M := M3) ⟨_, _, r1, g3, Kp.refl _ _ _, rfl⟩
  rw [intsD_len] at q1 q2
  have kp4 := kp3.trans q3
  have e7 : s__law_name_7 [some (.ref t), some (.ref u), some (.p (.str ⟨#[c1]⟩)), none, none] M1 = .nx [some (.ref t), some (.ref u), some (.p (.str s4)), z4, none] M4 := by
    simp [s__law_name_7, b1, i2, g1, er, k4]
  -- the words
  have hu4 := kp4.at_ u _ n1 n2 hu
  have hm : ∀ M : Store, s__law_name_8 [some (.ref t), some (.ref u), some (.p (.str s4)), z4, none] M = .nx [some (.ref t), some (.ref u), some (.p (.str s4)), z4, some (.ref M.length)] (M ++ [.lst (([("any" : Str), "both", "door", "end", "from", "host", "in", "keeps", "let", "lets", "maps", "net", "open"].map P.str).map D.p)]) := fun M => by
    simp [s__law_name_8]
  have hw : s__law_name_9 [some (.ref t), some (.ref u), some (.p (.str s4)), z4, some (.ref M4.length)] (M4 ++ [.lst (([("any" : Str), "both", "door", "end", "from", "host", "in", "keeps", "let", "lets", "maps", "net", "open"].map P.str).map D.p)]) = .nx [some (.ref t), some (.ref u), some (.p (.str s4)), z4, some (.ref (M4.length + 2))] (M4 ++ [.lst (([("any" : Str), "both", "door", "end", "from", "host", "in", "keeps", "let", "lets", "maps", "net", "open"].map P.str).map D.p)] ++ [.lst (([("ports" : Str), "span", "stop", "to", "turns", "wall"].map P.str).map D.p)] ++ [.lst ((wordsS.map P.str).map D.p)]) := by
    have ct := v_cat M4.length (M4.length + 1) (([("any" : Str), "both", "door", "end", "from", "host", "in", "keeps", "let", "lets", "maps", "net", "open"].map P.str).map D.p) (([("ports" : Str), "span", "stop", "to", "turns", "wall"].map P.str).map D.p) (M4 ++ [.lst (([("any" : Str), "both", "door", "end", "from", "host", "in", "keeps", "let", "lets", "maps", "net", "open"].map P.str).map D.p)] ++ [.lst (([("ports" : Str), "span", "stop", "to", "turns", "wall"].map P.str).map D.p)])
      (get_app (get_new _ _) _) (by simp) (le_line (by simp))
    simp at ct
    simp [s__law_name_9, ct, wordsS]
  generalize hM5 : (M4 ++ [O.lst (([("any" : Str), "both", "door", "end", "from", "host", "in", "keeps", "let", "lets", "maps", "net", "open"].map P.str).map D.p)] ++ [O.lst (([("ports" : Str), "span", "stop", "to", "turns", "wall"].map P.str).map D.p)] ++ [O.lst ((wordsS.map P.str).map D.p)]) = M5 at hw
  have p5 : M4 <+: M5 := by rw [← hM5]; exact pfx_app (pfx_app (List.prefix_append _ _) _) _
  have hwl : M5[M4.length + 2]? = some (.lst ((wordsS.map P.str).map D.p)) := by
    rw [← hM5]
    have e : M4.length + 2 = (M4 ++ [O.lst (([("any" : Str), "both", "door", "end", "from", "host", "in", "keeps", "let", "lets", "maps", "net", "open"].map P.str).map D.p)] ++ [O.lst (([("ports" : Str), "span", "stop", "to", "turns", "wall"].map P.str).map D.p)]).length := by simp
    rw [e]
    exact get_new _ _
  have hu5 := pfx_get p5 hu4
  -- the last loop
  have last : ∃ (s : Str) (z : Option D), forL none (gNm 3) b__law_name_5 (intsD 0 99) [some (.ref t), some (.ref u), some (.p (.str s4)), z4, some (.ref (M4.length + 2))] M5 = .nx [some (.ref t), some (.ref u), some (.p (.str s)), z, some (.ref (M4.length + 2))] M5 ∧ Nm s := by
    refine forL_find (k := none) (intsD 0 99) (fun i ρ M' => M' = M5 ∧ ∃ (s : Str) (z : Option D), RowN smallL signL (13 + i) s ∧ (0 < i → s ∉ wordsS) ∧ ρ = [some (.ref t), some (.ref u), some (.p (.str s)), z, some (.ref (M4.length + 2))])
      (fun out => ∃ (s : Str) (z : Option D), out = .nx [some (.ref t), some (.ref u), some (.p (.str s)), z, some (.ref (M4.length + 2))] M5 ∧ Nm s) (fun _ _ _ _ => True.intro) ?_ ?_ ⟨rfl, s4, z4, q1.mono (by omega), (fun h => absurd h (by decide)), rfl⟩
    · rintro i x ρ M' hi ⟨rfl, s, z, h1, h2, rfl⟩
      have hi2 := (List.getElem?_eq_some_iff.mp hi).1
      rw [intsD_len] at hi2
      rw [intsD_get _ _ _ hi2, Int.zero_add] at hi
      cases hi
      refine ⟨_, _, rfl, ?_⟩
      have t1 := v_notIn_l M' (.str s) u (us.map P.str) (by simp [P.depth]) hu5
      have t2 := v_notIn_l M' (.str s) (M4.length + 2) (wordsS.map P.str) (by simp [P.depth]) hwl
      rw [any_strs] at t1 t2
      by_cases h3 : s ∉ us ∧ s ∉ wordsS
      · refine .inr (.inl ⟨[some (.ref t), some (.ref u), some (.p (.str s)), some (.p (.int i)), some (.ref (M4.length + 2))], M', ?_, s, _, rfl, ⟨h1.row (by omega), h3.2⟩⟩)
        simp [b__law_name_5, s__law_name_3, s__law_name_2, t1, t2, h3]
      · have m0 := v_mod (i : Int) 10 M' (by decide)
        have em : (i : Int) % 10 = ((i % 10 : Nat) : Int) := by omega
        rw [em] at m0
        obtain ⟨c, hc, d⟩ := lit_ix ("0123456789" : Str) (i % 10) (by decide +kernel) (by rw [show ("0123456789" : Str).length = 10 by decide +kernel]; omega) M'
        have ad := v_adds s ⟨#[c]⟩ M' (by have := h1.len; have : (⟨#[c]⟩ : Str).length = 1 := rfl; omega)
        refine .inl ⟨[some (.ref t), some (.ref u), some (.p (.str (s ++ ⟨#[c]⟩))), some (.p (.int i)), some (.ref (M4.length + 2))], M', .inl ?_, rfl, s ++ ⟨#[c]⟩, _, (h1.snoc (digit_sign c hc).1).mono (by omega), fun _ => no_word hc, rfl⟩
        have e4 : s__law_name_4 [some (.ref t), some (.ref u), some (.p (.str s)), some (.p (.int i)), some (.ref (M4.length + 2))] M' = .nx [some (.ref t), some (.ref u), some (.p (.str (s ++ ⟨#[c]⟩))), some (.p (.int i)), some (.ref (M4.length + 2))] M' := by
          simp only [s__law_name_4, e_set, e_bin, e_var, e_C]
          simp [m0, d, ad, -Int.natCast_emod]
        have e3 : s__law_name_3 [some (.ref t), some (.ref u), some (.p (.str s)), some (.p (.int i)), some (.ref (M4.length + 2))] M' = .nx [some (.ref t), some (.ref u), some (.p (.str s)), some (.p (.int i)), some (.ref (M4.length + 2))] M' := by
          by_cases h4 : s ∈ us
          · simp [s__law_name_3, t1, h4]
          · have h5 : s ∈ wordsS := by
              by_cases h6 : s ∈ wordsS
              · exact h6
              · exact absurd ⟨h4, h6⟩ h3
            simp [s__law_name_3, t1, t2, h4, h5]
        show b__law_name_5 [some (.ref t), some (.ref u), some (.p (.str s)), some (.p (.int i)), some (.ref (M4.length + 2))] M' = _
        unfold b__law_name_5
        rw [e_seq, e3, Out.bind_nx, e4]
    · rintro ρ M' ⟨rfl, s, z, h1, h2, rfl⟩
      rw [intsD_len] at h1 h2
      exact ⟨s, z, rfl, ⟨h1.row (by omega), h2 (by decide)⟩⟩
  obtain ⟨s, z, k5, hs⟩ := last
  have er99 : rng1 [.p (.int 99)] = some (0, 99) := rng1_len 99 (by decide)
  have ap := v_append u _ (.p (.str s)) M5 hu5 (lt_line (by simp; omega))
  have hul := get_lt hu5
  have isl := isLst_ref u _ M5 hu5
  refine ⟨s, M5.set u (.lst (((us.map P.str).map D.p) ++ [.p (.str s)])), ?_, hs, (q2.pfx p5).set n1 n2 _ |>.mono (by omega), by rw [get_set_same hul]; simp, ?_, ?_⟩
  · refine selfF_ok ?_ ?_
    · unfold m__law_name
      rw [e_seq, e6, Out.bind_nx, e_seq, e7, Out.bind_nx, e_seq, hm, Out.bind_nx, e_seq, hw, Out.bind_nx]
      simp [s__law_name_10, s__law_name_11, s__law_name_12, er99, k5, isl, ap, -List.map_map]
    · rw [List.length_set]
      exact Nat.le_trans kp4.len (pfx_len p5)
  · rw [List.length_set]
    exact Nat.le_trans kp4.len (pfx_len p5)
  · intro l o h1 h2 h3 h4
    exact get_set_ne (pfx_get p5 (kp4.at_ l o h1 h2 h4)) (Ne.symm h3)

/-! ### drawing: what an expression over the tape gives -/
def Stb (t g : Nat) (W : Store → Prop) : Prop := ∀ M M', Kp t g M M' → W M → W M'
theorem Stb.tt {t g : Nat} : Stb t g (fun _ => True) := fun _ _ _ _ => trivial
def DE (t g n : Nat) (W : Store → Prop) (ρ : Env) (f : RE) (Q : P → Prop) : Prop := ∀ M b, Tape M t g b → b + n ≤ 900000000 → W M → ∃ x M', f ρ M = .ok (.p x) M' ∧ Q x ∧ Tape M' t g (b + n) ∧ Kp t g M M'
def DA (t g n : Nat) (W : Store → Prop) (ρ : Env) (f : RA) (Q : List P → Prop) : Prop := ∀ M b, Tape M t g b → b + n ≤ 900000000 → W M → ∃ xs M', f ρ M = .ok (xs.map D.p) M' ∧ Q xs ∧ Tape M' t g (b + n) ∧ Kp t g M M'
abbrev DL (t g n : Nat) (W : Store → Prop) (ρ : Env) (f : RA) (L : Nat) (R : P → Prop) : Prop := DA t g n W ρ f (fun xs => xs.length = L ∧ ∀ x ∈ xs, R x)
/-- a def that draws -/
def DF (t g n : Nat) (W : Store → Prop) (F : List D → Store → R D) (ds : List D) (Q : P → Prop) : Prop := ∀ M b, Tape M t g b → b + n ≤ 900000000 → W M → ∃ x M', F ds M = .ok (.p x) M' ∧ Q x ∧ Tape M' t g (b + n) ∧ Kp t g M M'
def Nu (k : Nat) (x : P) : Prop := ∃ v : Nat, x = .int v ∧ v ≤ k
section
variable {t g n m : Nat} {W : Store → Prop} {ρ : Env} {f f2 : RE} {fs : RA} {Q : P → Prop}
theorem de_mono {R : P → Prop} (h : DE t g n W ρ f Q) (k : ∀ x, Q x → R x) : DE t g n W ρ f R := fun M b T hb hW => by
  obtain ⟨x, M', e, q, r⟩ := h M b T hb hW
  exact ⟨x, M', e, k x q, r⟩
theorem de_const {x : P} (h : Q x) : DE t g 0 W ρ (rC (.p x)) Q := fun M b T hb hW => ⟨x, M, rfl, h, T, Kp.refl _ _ _⟩
theorem de_var {x : P} (i : Nat) (e : ρ[i]? = some (some (.p x))) (h : Q x) : DE t g 0 W ρ (rVar i) Q := fun M b T hb hW => ⟨x, M, by simp [e], h, T, Kp.refl _ _ _⟩
theorem de_nu {v k : Nat} (h : v ≤ k) : DE t g 0 W ρ (rC (.p (.int (v : Nat)))) (Nu k) := de_const ⟨v, rfl, h⟩
theorem de_draw (i : Nat) (e : ρ[i]? = some (some (.ref t))) (lim : Nat) (h0 : 0 < lim) (hl : lim < 1000000000) : DE t g 1 W ρ (rCallN 2 F__law_draw (rCons (rVar i) (rCons (rC (.p (.int (lim : Nat)))) rNil))) (fun x => ∃ v : Nat, x = .int v ∧ v < lim) := fun M b T hb hW => by
  obtain ⟨v, M', a1, a2, a3, a4⟩ := x_draw M t g b lim (by omega) (Int.lt_of_lt_of_le (b := 1000000000) (by omega) (by decide)) T (by omega)
  exact ⟨.int v, M', by simp [e, a1], ⟨v, rfl, by omega⟩, a3, a4⟩
theorem da_nil {Q : List P → Prop} (h : Q []) : DA t g 0 W ρ rNil Q := fun M b T hb hW => ⟨[], M, rfl, h, T, Kp.refl _ _ _⟩
theorem da_cons {Qs Q2 : List P → Prop} (sb : Stb t g W) (h : DE t g n W ρ f Q) (hs : DA t g m W ρ fs Qs) (k : ∀ x xs, Q x → Qs xs → Q2 (x :: xs)) : DA t g (n + m) W ρ (rCons f fs) Q2 := fun M b T hb hW => by
  obtain ⟨x, M1, e1, q1, T1, k1⟩ := h M b T (by omega) hW
  obtain ⟨xs, M2, e2, q2, T2, k2⟩ := hs M1 (b + n) T1 (by omega) (sb _ _ k1 hW)
  exact ⟨x :: xs, M2, by simp [e1, e2], k x xs q1 q2, by rw [← Nat.add_assoc]; exact T2, k1.trans k2⟩
theorem dl_nil {R : P → Prop} : DL t g 0 W ρ rNil 0 R := da_nil ⟨rfl, fun x hx => by cases hx⟩
theorem dl_cons {L : Nat} {R : P → Prop} (sb : Stb t g W) (h : DE t g n W ρ f R) (hs : DL t g m W ρ fs L R) : DL t g (n + m) W ρ (rCons f fs) (L + 1) R := da_cons sb h hs fun x xs q ⟨q1, q2⟩ => ⟨by rw [List.length_cons, q1], fun y hy => by
  rcases List.mem_cons.mp hy with rfl | hy
  · exact q
  · exact q2 y hy⟩
theorem de_tup {Qs : List P → Prop} (h : DA t g n W ρ fs Qs) (k : ∀ xs, Qs xs → xs.length ≤ 1000 ∧ Q (.tup xs)) : DE t g n W ρ (rTup fs) Q := fun M b T hb hW => by
  obtain ⟨xs, M1, e1, q1, T1, k1⟩ := h M b T hb hW
  obtain ⟨l, q⟩ := k xs q1
  exact ⟨.tup xs, M1, by rw [e_tup, e1, Fl.R.bind_ok, if_pos (by rw [List.length_map]; exact l), mkTup_map], q, T1, k1⟩
theorem de_ixl {L : Nat} {R : P → Prop} (sb : Stb t g W) (hs : DL t g n W ρ fs L R) (h : DE t g m W ρ f (fun x => ∃ v : Nat, x = .int v ∧ v < L)) (hL : L ≤ 1000) : DE t g (n + m) W ρ (rBin dIx (rLst fs) f) R := fun M b T hb hW => by
  obtain ⟨xs, M1, e1, ⟨q1, q2⟩, T1, k1⟩ := hs M b T (by omega) hW
  have k2 : Kp t g M (M1 ++ [.lst (xs.map D.p)]) := k1.trans (Kp.app t g M1 _)
  obtain ⟨x, M2, e2, ⟨v, rfl, hv⟩, T2, k3⟩ := h (M1 ++ [.lst (xs.map D.p)]) (b + n) (T1.app _) (by omega) (sb _ _ k2 hW)
  have hlt := T1.lt
  have h2 := k3.at_ M1.length _ (by omega) (by omega) (get_new M1 (.lst (xs.map D.p)))
  have hvx : v < xs.length := by omega
  have i0 := v_ix_l M1.length _ v (.p xs[v]) M2 h2 (by rw [List.getElem?_map, List.getElem?_eq_getElem hvx]; rfl)
  refine ⟨xs[v], M2, ?_, q2 _ (List.getElem_mem hvx), by rw [← Nat.add_assoc]; exact T2, k2.trans k3⟩
  rw [e_bin, e_lst, e1, Fl.R.bind_ok, if_pos (by rw [List.length_map]; omega), Fl.R.bind_ok, e2, Fl.R.bind_ok, i0]
  rfl
theorem de_pickl {L : Nat} {R : P → Prop} (i : Nat) (e : ρ[i]? = some (some (.ref t))) (hs : DL t g n W ρ fs L R) (h0 : 0 < L) (hL : L ≤ 1000) : DE t g (n + 1) W ρ (rCallN 2 F__law_pick (rCons (rVar i) (rCons (rLst fs) rNil))) R := fun M b T hb hW => by
  obtain ⟨xs, M1, e1, ⟨q1, q2⟩, T1, k1⟩ := hs M b T (by omega) hW
  have hlt := T1.lt
  obtain ⟨d, M2, a1, a2, a3, a4⟩ := x_pick_l (M1 ++ [.lst (xs.map D.p)]) t g (b + n) M1.length (xs.map D.p) (get_new _ _) (by rw [List.length_map]; omega) (by rw [List.length_map]; omega) (by omega) (by omega) (T1.app _) (by omega)
  obtain ⟨x, hx, rfl⟩ := List.mem_map.mp a2
  refine ⟨x, M2, ?_, q2 x hx, by rw [← Nat.add_assoc]; exact a3, (k1.trans (Kp.app t g M1 _)).trans a4⟩
  simp only [e_callN, e_cons, e_var, e, e_lst, e1, e_nil, Fl.R.bind_ok]
  rw [if_pos (by rw [List.length_map]; omega)]
  simp [a1]
theorem de_addi {k : Nat} (c : Nat) (h : DE t g n W ρ f (fun x => ∃ v : Nat, x = .int v ∧ v < k)) : DE t g n W ρ (rBin dAdd (rC (.p (.int (c : Nat)))) f) (fun x => ∃ v : Nat, x = .int v ∧ c ≤ v ∧ v < c + k) := fun M b T hb hW => by
  obtain ⟨x, M1, e1, ⟨v, rfl, hv⟩, T1, k1⟩ := h M b T hb hW
  exact ⟨.int ((c + v : Nat) : Int), M1, by simp [e1], ⟨c + v, rfl, by omega, by omega⟩, T1, k1⟩
theorem de_addt {Q1 Q2 : List P → Prop} (sb : Stb t g W) (h : DE t g n W ρ f (fun x => ∃ xs, x = .tup xs ∧ xs.length ≤ 1000 ∧ Q1 xs)) (h2 : DE t g m W ρ f2 (fun x => ∃ xs, x = .tup xs ∧ xs.length ≤ 1000 ∧ Q2 xs)) (k : ∀ xs ys, Q1 xs → Q2 ys → Q (.tup (xs ++ ys))) : DE t g (n + m) W ρ (rBin dAdd f f2) Q := fun M b T hb hW => by
  obtain ⟨x, M1, e1, ⟨xs, rfl, l1, q1⟩, T1, k1⟩ := h M b T (by omega) hW
  obtain ⟨y, M2, e2, ⟨ys, rfl, l2, q2⟩, T2, k2⟩ := h2 M1 (b + n) T1 (by omega) (sb _ _ k1 hW)
  have hl : xs.length + ys.length ≤ sizeLine := le_line (by omega)
  refine ⟨.tup (xs ++ ys), M2, ?_, k xs ys q1 q2, by rw [← Nat.add_assoc]; exact T2, k1.trans k2⟩
  rw [e_bin, e1, Fl.R.bind_ok, e2, Fl.R.bind_ok]
  simp [dAdd, hl]
theorem de_call1 {F : List D → Store → R D} (i : Nat) (e : ρ[i]? = some (some (.ref t))) (h : DF t g n W F [.ref t] Q) : DE t g n W ρ (rCallN 1 F (rCons (rVar i) rNil)) Q := fun M b T hb hW => by
  obtain ⟨x, M1, e1, q, T1, k1⟩ := h M b T hb hW
  exact ⟨x, M1, by simp [e, e1], q, T1, k1⟩
theorem de_call2 {F : List D → Store → R D} {d : D} (i j : Nat) (e : ρ[i]? = some (some (.ref t))) (e2 : ρ[j]? = some (some d)) (h : DF t g n W F [.ref t, d] Q) : DE t g n W ρ (rCallN 2 F (rCons (rVar i) (rCons (rVar j) rNil))) Q := fun M b T hb hW => by
  obtain ⟨x, M1, e1, q, T1, k1⟩ := h M b T hb hW
  exact ⟨x, M1, by simp [e, e2, e1], q, T1, k1⟩
end
/-- the pools: nets, names, great names -/
structure Pools (t g p : Nat) (M : Store) : Prop where
  ex : ∃ (a b c : Nat) (us vs ws : List Str), M[p]? = some (.lst [.ref a, .ref b, .ref c]) ∧ M[a]? = some (.lst ((us.map P.str).map D.p)) ∧ M[b]? = some (.lst ((vs.map P.str).map D.p)) ∧ M[c]? = some (.lst ((ws.map P.str).map D.p)) ∧
    (∀ s ∈ us, Nm s) ∧ (∀ s ∈ vs, Nm s) ∧ (∀ s ∈ ws, RowS greatL signG s) ∧ 0 < us.length ∧ 0 < vs.length ∧ 0 < ws.length ∧ us.length ≤ 1000 ∧ vs.length ≤ 1000 ∧ ws.length ≤ 1000 ∧
    (p ≠ t ∧ p ≠ g) ∧ (a ≠ t ∧ a ≠ g) ∧ (b ≠ t ∧ b ≠ g) ∧ (c ≠ t ∧ c ≠ g)
theorem Pools.stb {t g p : Nat} : Stb t g (Pools t g p) := fun M M' k ⟨a, b, c, us, vs, ws, h1, h2, h3, h4, h5, h6, h7, h8, h9, h10, h11, h12, h13, n1, n2, n3, n4⟩ =>
  ⟨a, b, c, us, vs, ws, k.at_ _ _ n1.1 n1.2 h1, k.at_ _ _ n2.1 n2.2 h2, k.at_ _ _ n3.1 n3.2 h3, k.at_ _ _ n4.1 n4.2 h4, h5, h6, h7, h8, h9, h10, h11, h12, h13, n1, n2, n3, n4⟩
section
variable {t g p : Nat} {ρ : Env}
theorem pick_at (i j : Nat) (e : ρ[i]? = some (some (.ref t))) (e2 : ρ[j]? = some (some (.ref p))) (k a : Nat) (L : List D) (us : List Str) {M : Store} {b : Nat} (hL : M[p]? = some (.lst L)) (hk : L[k]? = some (.ref a)) (hu : M[a]? = some (.lst ((us.map P.str).map D.p))) (h0 : 0 < us.length) (hl : us.length ≤ 1000) (n : a ≠ t ∧ a ≠ g) (T : Tape M t g b) (hb : b + 1 ≤ 900000000) :
    ∃ s M', rCallN 2 F__law_pick (rCons (rVar i) (rCons (rBin dIx (rVar j) (rC (.p (.int (k : Nat))))) rNil)) ρ M = .ok (.p (.str s)) M' ∧ s ∈ us ∧ Tape M' t g (b + 1) ∧ Kp t g M M' := by
  obtain ⟨d, M', a1, a2, a3, a4⟩ := x_pick_l M t g b a _ hu (by simpa using h0) (by simp; omega) n.1 n.2 T (by omega)
  obtain ⟨x, hx, rfl⟩ := List.mem_map.mp a2
  obtain ⟨s, hs, rfl⟩ := List.mem_map.mp hx
  have i0 := v_ix_l p L k _ M hL hk
  exact ⟨s, M', by simp [e, e2, i0, a1], hs, a3, a4⟩
theorem de_net (i j : Nat) (e : ρ[i]? = some (some (.ref t))) (e2 : ρ[j]? = some (some (.ref p))) : DE t g 1 (Pools t g p) ρ (rCallN 2 F__law_pick (rCons (rVar i) (rCons (rBin dIx (rVar j) (rC (.p (.int 0)))) rNil))) (fun x => ∃ s, x = .str s ∧ Nm s) := fun M b T hb ⟨a, c, d, us, vs, ws, h1, h2, h3, h4, h5, h6, h7, h8, h9, h10, h11, h12, h13, n1, n2, n3, n4⟩ => by
  obtain ⟨s, M', q1, q2, q3⟩ := pick_at i j e e2 0 a _ us h1 rfl h2 h8 h11 n2 T hb
  exact ⟨.str s, M', q1, ⟨s, rfl, h5 s q2⟩, q3⟩
theorem de_name (i j : Nat) (e : ρ[i]? = some (some (.ref t))) (e2 : ρ[j]? = some (some (.ref p))) : DE t g 1 (Pools t g p) ρ (rCallN 2 F__law_pick (rCons (rVar i) (rCons (rBin dIx (rVar j) (rC (.p (.int 1)))) rNil))) (fun x => ∃ s, x = .str s ∧ Nm s) := fun M b T hb ⟨a, c, d, us, vs, ws, h1, h2, h3, h4, h5, h6, h7, h8, h9, h10, h11, h12, h13, n1, n2, n3, n4⟩ => by
  obtain ⟨s, M', q1, q2, q3⟩ := pick_at i j e e2 1 c _ vs h1 rfl h3 h9 h12 n3 T hb
  exact ⟨.str s, M', q1, ⟨s, rfl, h6 s q2⟩, q3⟩
theorem de_great (i j : Nat) (e : ρ[i]? = some (some (.ref t))) (e2 : ρ[j]? = some (some (.ref p))) : DE t g 1 (Pools t g p) ρ (rCallN 2 F__law_pick (rCons (rVar i) (rCons (rBin dIx (rVar j) (rC (.p (.int 2)))) rNil))) (fun x => ∃ s, x = .str s ∧ RowS greatL signG s) := fun M b T hb ⟨a, c, d, us, vs, ws, h1, h2, h3, h4, h5, h6, h7, h8, h9, h10, h11, h12, h13, n1, n2, n3, n4⟩ => by
  obtain ⟨s, M', q1, q2, q3⟩ := pick_at i j e e2 2 d _ ws h1 rfl h4 h10 h13 n4 T hb
  exact ⟨.str s, M', q1, ⟨s, rfl, h7 s q2⟩, q3⟩
end

-- slots: 0:tape 1:kind 2:one 3:other
noncomputable def s__law_loose_range_1  : RS :=
  (rRet (rTup (rCons (rC (.p (.int 0))) (rCons (rC (.p (.int 99999))) rNil))))
noncomputable def s__law_loose_range_2  : RS :=
  (rRet (rTup (rCons (rVar 2) (rCons (rVar 2) rNil))))
noncomputable def s__law_loose_range_3  : RS :=
  (rRet (rTup (rCons (rVar 2) (rCons (rVar 3) rNil))))
noncomputable def s__law_loose_range_4  : RS :=
  (rSet 1 (rCallN 2 F__law_draw (rCons (rVar 0) (rCons (rC (.p (.int 6))) rNil))))
noncomputable def s__law_loose_range_5  : RS :=
  (rIfS (rTst asBool (rBin dEq (rVar 1) (rC (.p (.int 0)))))
  s__law_loose_range_1
  rSkip)
noncomputable def s__law_loose_range_6  : RS :=
  (rSet 2 (rBin dIx (rLst (rCons (rC (.p (.int 0))) (rCons (rCallN 2 F__law_draw (rCons (rVar 0) (rCons (rC (.p (.int 10))) rNil))) (rCons (rCallN 2 F__law_draw (rCons (rVar 0) (rCons (rC (.p (.int 100000))) rNil))) (rCons (rC (.p (.int 99999))) rNil))))) (rCallN 2 F__law_draw (rCons (rVar 0) (rCons (rC (.p (.int 4))) rNil)))))
noncomputable def s__law_loose_range_7  : RS :=
  (rIfS (rTst asBool (rBin dEq (rVar 1) (rC (.p (.int 1)))))
  s__law_loose_range_2
  rSkip)
noncomputable def s__law_loose_range_8  : RS :=
  (rSet 3 (rBin dIx (rLst (rCons (rC (.p (.int 0))) (rCons (rCallN 2 F__law_draw (rCons (rVar 0) (rCons (rC (.p (.int 100000))) rNil))) (rCons (rC (.p (.int 99999))) rNil)))) (rCallN 2 F__law_draw (rCons (rVar 0) (rCons (rC (.p (.int 3))) rNil)))))
noncomputable def s__law_loose_range_9  : RS :=
  (rIfS (rTst asBool (rBin dEq (rVar 1) (rC (.p (.int 2)))))
  s__law_loose_range_3
  rSkip)
noncomputable def s__law_loose_range_10  : RS :=
  (rRet (rTup (rCons (rCB cMin2 (rCons (rVar 2) (rCons (rVar 3) rNil))) (rCons (rCB cMax2 (rCons (rVar 2) (rCons (rVar 3) rNil))) rNil))))
noncomputable def m__law_loose_range  : RS :=
  (rSeq s__law_loose_range_4
  (rSeq s__law_loose_range_5
  (rSeq s__law_loose_range_6
  (rSeq s__law_loose_range_7
  (rSeq s__law_loose_range_8
  (rSeq s__law_loose_range_9
  s__law_loose_range_10))))))

noncomputable def F__law_loose_range : List D → Store → R D := selfF 4 m__law_loose_range
theorem r__law_loose_range : Ref 1 4 F__law_loose_range m__law_loose_range := ref_self 1 4 m__law_loose_range
theorem x_loose_range {t g : Nat} {W : Store → Prop} (sb : Stb t g W) : DF t g 10 W F__law_loose_range [.ref t] (fun x => ∃ r, rgOk r ∧ x = rgP r) := fun M b T hb hW => by
  obtain ⟨x0, M1, e0, ⟨k, rfl, hk⟩, T1, k1⟩ := de_draw (t := t) (g := g) (W := W) (ρ := [some (.ref t), none, none, none]) 0 rfl 6 (by decide) (by decide) M b T (by omega) hW
  have s4 : s__law_loose_range_4 (startD 4 [.ref t]) M = .nx [some (.ref t), some (.p (.int k)), none, none] M1 := by
    simp only [s__law_loose_range_4, e_set]
    rw [show startD 4 [D.ref t] = [some (.ref t), none, none, none] from rfl, show rCallN 2 F__law_draw (rCons (rVar 0) (rCons (rC (.p (.int 6))) rNil)) [some (.ref t), none, none, none] M = _ from e0]
    rfl
  by_cases h0 : k = 0
  · subst h0
    refine ⟨rgP (0, 99999), M1, selfF_ok ?_ k1.len, ⟨(0, 99999), ⟨by decide, by decide⟩, rfl⟩, T1.mono (by omega), k1⟩
    unfold m__law_loose_range
    rw [e_seq, s4, Out.bind_nx]
    simp [s__law_loose_range_5, s__law_loose_range_1]
  · have h0' : ¬ (k : Int) = 0 := by omega
    have s5 : s__law_loose_range_5 [some (.ref t), some (.p (.int k)), none, none] M1 = .nx [some (.ref t), some (.p (.int k)), none, none] M1 := by
      simp [s__law_loose_range_5, h0, h0']
    have d6 : DE t g _ W [some (.ref t), some (.p (.int k)), none, none] (rBin dIx (rLst (rCons (rC (.p (.int 0))) (rCons (rCallN 2 F__law_draw (rCons (rVar 0) (rCons (rC (.p (.int 10))) rNil))) (rCons (rCallN 2 F__law_draw (rCons (rVar 0) (rCons (rC (.p (.int 100000))) rNil))) (rCons (rC (.p (.int 99999))) rNil))))) (rCallN 2 F__law_draw (rCons (rVar 0) (rCons (rC (.p (.int 4))) rNil)))) (Nu 99999) :=
      de_ixl (L := 4) sb (dl_cons sb (de_nu (v := 0) (by decide)) (dl_cons sb (de_mono (de_draw 0 rfl 10 (by decide) (by decide)) fun x ⟨v, e, h⟩ => ⟨v, e, by omega⟩) (dl_cons sb (de_mono (de_draw 0 rfl 100000 (by decide) (by decide)) fun x ⟨v, e, h⟩ => ⟨v, e, by omega⟩) (dl_cons sb (de_nu (v := 99999) (by decide)) dl_nil)))) (de_draw 0 rfl 4 (by decide) (by decide)) (by decide)
    obtain ⟨x1, M2, e1, ⟨o, rfl, ho⟩, T2, k2⟩ := d6 M1 (b + 1) T1 (by omega) (sb _ _ k1 hW)
    have s6 : s__law_loose_range_6 [some (.ref t), some (.p (.int k)), none, none] M1 = .nx [some (.ref t), some (.p (.int k)), some (.p (.int o)), none] M2 := by
      simp only [s__law_loose_range_6, e_set]
      rw [e1]
      rfl
    by_cases h1 : k = 1
    · subst h1
      refine ⟨rgP (o, o), M2, selfF_ok ?_ (k1.trans k2).len, ⟨(o, o), ⟨ho, ho⟩, rfl⟩, T2.mono (by omega), k1.trans k2⟩
      unfold m__law_loose_range
      rw [e_seq, s4, Out.bind_nx, e_seq, s5, Out.bind_nx, e_seq, s6, Out.bind_nx]
      simp [s__law_loose_range_7, s__law_loose_range_2]
    · have h1' : ¬ (k : Int) = 1 := by omega
      have s7 : s__law_loose_range_7 [some (.ref t), some (.p (.int k)), some (.p (.int o)), none] M2 = .nx [some (.ref t), some (.p (.int k)), some (.p (.int o)), none] M2 := by
        simp [s__law_loose_range_7, h1, h1']
      have d8 : DE t g _ W [some (.ref t), some (.p (.int k)), some (.p (.int o)), none] (rBin dIx (rLst (rCons (rC (.p (.int 0))) (rCons (rCallN 2 F__law_draw (rCons (rVar 0) (rCons (rC (.p (.int 100000))) rNil))) (rCons (rC (.p (.int 99999))) rNil)))) (rCallN 2 F__law_draw (rCons (rVar 0) (rCons (rC (.p (.int 3))) rNil)))) (Nu 99999) :=
        de_ixl (L := 3) sb (dl_cons sb (de_nu (v := 0) (by decide)) (dl_cons sb (de_mono (de_draw 0 rfl 100000 (by decide) (by decide)) fun x ⟨v, e, h⟩ => ⟨v, e, by omega⟩) (dl_cons sb (de_nu (v := 99999) (by decide)) dl_nil))) (de_draw 0 rfl 3 (by decide) (by decide)) (by decide)
      obtain ⟨x2, M3, e2, ⟨q, rfl, hq⟩, T3, k3⟩ := d8 M2 _ T2 (by omega) (sb _ _ (k1.trans k2) hW)
      have s8 : s__law_loose_range_8 [some (.ref t), some (.p (.int k)), some (.p (.int o)), none] M2 = .nx [some (.ref t), some (.p (.int k)), some (.p (.int o)), some (.p (.int q))] M3 := by
        simp only [s__law_loose_range_8, e_set]
        rw [e2]
        rfl
      have kk := (k1.trans k2).trans k3
      by_cases h2 : k = 2
      · subst h2
        refine ⟨rgP (o, q), M3, selfF_ok ?_ kk.len, ⟨(o, q), ⟨ho, hq⟩, rfl⟩, T3.mono (by omega), kk⟩
        unfold m__law_loose_range
        rw [e_seq, s4, Out.bind_nx, e_seq, s5, Out.bind_nx, e_seq, s6, Out.bind_nx, e_seq, s7, Out.bind_nx, e_seq, s8, Out.bind_nx]
        simp [s__law_loose_range_9, s__law_loose_range_3]
      · have h2' : ¬ (k : Int) = 2 := by omega
        refine ⟨rgP (min o q, max o q), M3, selfF_ok ?_ kk.len, ⟨(min o q, max o q), ⟨by show min o q ≤ 99999; omega, by show max o q ≤ 99999; omega⟩, rfl⟩, T3.mono (by omega), kk⟩
        unfold m__law_loose_range
        rw [e_seq, s4, Out.bind_nx, e_seq, s5, Out.bind_nx, e_seq, s6, Out.bind_nx, e_seq, s7, Out.bind_nx, e_seq, s8, Out.bind_nx]
        have e3 : ((min o q : Nat) : Int) = min (o : Int) q := by omega
        have e4 : ((max o q : Nat) : Int) = max (o : Int) q := by omega
        simp [s__law_loose_range_9, s__law_loose_range_10, h2, h2', e3, e4]
theorem v_tuple (l : Nat) (xs : List P) (M : Store) (h : M[l]? = some (.lst (xs.map D.p))) : cTuple [.ref l] M = some (.p (.tup xs), M) := by
  simp [cTuple, rowD, h, mkTup_map]
-- slots: 0:tape 1:many 2:rules 3:k 4:ranges
noncomputable def s__law_loose_rules_1  : RS :=
  (rSet 4 (rTup (rCons (rCallN 1 F__law_loose_range (rCons (rVar 0) rNil)) (rCons (rCallN 1 F__law_loose_range (rCons (rVar 0) rNil)) (rCons (rCallN 1 F__law_loose_range (rCons (rVar 0) rNil)) rNil)))))
noncomputable def s__law_loose_rules_2  : RS :=
  (rExpr (rLM mAppend (rVar 2) (rCons (rBin dAdd (rTup (rCons (rCallN 2 F__law_draw (rCons (rVar 0) (rCons (rC (.p (.int 2))) rNil))) rNil)) (rVar 4)) rNil)))
noncomputable def b__law_loose_rules_3  : RS :=
  (rSeq s__law_loose_rules_1
  s__law_loose_rules_2)
noncomputable def s__law_loose_rules_4  : RS :=
  (rSet 2 (rLst rNil))
noncomputable def s__law_loose_rules_5  : RS :=
  (rForR rng1 (rCons (rVar 1) rNil) (gNm 3)
  b__law_loose_rules_3)
noncomputable def s__law_loose_rules_6  : RS :=
  (rRet (rCB cTuple (rCons (rVar 2) rNil)))
noncomputable def m__law_loose_rules  : RS :=
  (rSeq s__law_loose_rules_4
  (rSeq s__law_loose_rules_5
  s__law_loose_rules_6))

noncomputable def F__law_loose_rules : List D → Store → R D := selfF 5 m__law_loose_rules
theorem r__law_loose_rules : Ref 2 5 F__law_loose_rules m__law_loose_rules := ref_self 2 5 m__law_loose_rules
theorem loose_turn {t g l : Nat} (M : Store) (b : Nat) (k : P) (rs : List Rule) (T : Tape M t g b) (hb : b + 31 ≤ 900000000) (hl : M[l]? = some (.lst ((rs.map Rule.toP).map D.p))) (n1 : l ≠ t) (n2 : l ≠ g) (hr : rs.length ≤ 1000) (z3 z4 : Option D) :
    ∃ r M' y4, b__law_loose_rules_3 [some (.ref t), some (.p k), some (.ref l), z3, z4] M = .nx [some (.ref t), some (.p k), some (.ref l), z3, y4] M' ∧ r.Ok ∧ M'[l]? = some (.lst (((rs ++ [r]).map Rule.toP).map D.p)) ∧ Tape M' t g (b + 31) ∧ M.length ≤ M'.length ∧ (∀ a o, a ≠ t → a ≠ g → a ≠ l → M[a]? = some o → M'[a]? = some o) := by
  have dr : DE t g 10 (fun _ => True) [some (.ref t), some (.p k), some (.ref l), z3, z4] (rCallN 1 F__law_loose_range (rCons (rVar 0) rNil)) (fun x => ∃ r, rgOk r ∧ x = rgP r) := de_call1 0 rfl (x_loose_range Stb.tt)
  have d1 := de_tup (Q := fun x => ∃ r1 r2 r3, rgOk r1 ∧ rgOk r2 ∧ rgOk r3 ∧ x = .tup [rgP r1, rgP r2, rgP r3]) (da_cons (Q2 := fun xs => ∃ r1 r2 r3, rgOk r1 ∧ rgOk r2 ∧ rgOk r3 ∧ xs = [rgP r1, rgP r2, rgP r3]) Stb.tt dr (da_cons (Q2 := fun xs => ∃ r2 r3, rgOk r2 ∧ rgOk r3 ∧ xs = [rgP r2, rgP r3]) Stb.tt dr (da_cons (Q2 := fun xs => ∃ r3, rgOk r3 ∧ xs = [rgP r3]) Stb.tt dr (da_nil (Q := fun xs => xs = []) rfl)
    (fun x xs ⟨r, h, e⟩ e2 => ⟨r, h, by rw [e, e2]⟩)) (fun x xs ⟨r, h, e⟩ ⟨r3, h3, e2⟩ => ⟨r, r3, h, h3, by rw [e, e2]⟩)) (fun x xs ⟨r, h, e⟩ ⟨r2, r3, h2, h3, e2⟩ => ⟨r, r2, r3, h, h2, h3, by rw [e, e2]⟩)) (fun xs ⟨r1, r2, r3, h1, h2, h3, e⟩ => ⟨by rw [e]; simp, r1, r2, r3, h1, h2, h3, by rw [e]⟩)
  obtain ⟨x, M1, e1, ⟨r1, r2, r3, h1, h2, h3, rfl⟩, T1, k1⟩ := d1 M b T (by omega) trivial
  have s1 : s__law_loose_rules_1 [some (.ref t), some (.p k), some (.ref l), z3, z4] M = .nx [some (.ref t), some (.p k), some (.ref l), z3, some (.p (.tup [rgP r1, rgP r2, rgP r3]))] M1 := by
    simp only [s__law_loose_rules_1, e_set]
    rw [e1]
    rfl
  have d2 : DE t g 1 (fun _ => True) [some (.ref t), some (.p k), some (.ref l), z3, some (.p (.tup [rgP r1, rgP r2, rgP r3]))] (rBin dAdd (rTup (rCons (rCallN 2 F__law_draw (rCons (rVar 0) (rCons (rC (.p (.int 2))) rNil))) rNil)) (rVar 4)) (fun x => ∃ v : Nat, v < 2 ∧ x = .tup [.int v, rgP r1, rgP r2, rgP r3]) :=
    de_addt (Q1 := fun xs => ∃ v : Nat, v < 2 ∧ xs = [.int v]) (Q2 := fun ys => ys = [rgP r1, rgP r2, rgP r3]) Stb.tt (de_tup (da_cons (Q2 := fun xs => ∃ v : Nat, v < 2 ∧ xs = [.int v]) Stb.tt (de_draw 0 rfl 2 (by decide) (by decide)) (da_nil (Q := fun xs => xs = []) rfl) (fun x xs ⟨v, e, hv⟩ e2 => ⟨v, hv, by rw [e, e2]⟩)) (fun xs ⟨v, hv, e⟩ => ⟨by rw [e]; simp, xs, rfl, by rw [e]; simp, v, hv, e⟩))
      (de_var 4 rfl ⟨_, rfl, by simp, rfl⟩) (fun xs ys ⟨v, hv, e⟩ e2 => ⟨v, hv, by rw [e, e2]; rfl⟩)
  obtain ⟨x, M2, e2, ⟨v, hv, rfl⟩, T2, k2⟩ := d2 M1 (b + (10 + (10 + (10 + 0)))) T1 (by omega) trivial
  have kk := k1.trans k2
  have hl2 := kk.at_ l _ n1 n2 hl
  have ap := v_append l _ (.p (.tup [.int v, rgP r1, rgP r2, rgP r3])) M2 hl2 (lt_line (by simp; omega))
  have isl := isLst_ref l _ M1 (k1.at_ l _ n1 n2 hl)
  have hlt := get_lt hl2
  refine ⟨⟨v, r1, r2, r3⟩, M2.set l (.lst (((rs.map Rule.toP).map D.p) ++ [.p (.tup [.int v, rgP r1, rgP r2, rgP r3])])), some (.p (.tup [rgP r1, rgP r2, rgP r3])), ?_, ⟨by show v ≤ 1; omega, h1, h2, h3⟩, ?_, (T2.set n1 n2 _).mono (by omega), by rw [List.length_set]; exact kk.len, fun a o a1 a2 a3 a4 => get_set_ne (kk.at_ a o a1 a2 a4) (Ne.symm a3)⟩
  · unfold b__law_loose_rules_3
    rw [e_seq, s1, Out.bind_nx]
    simp only [s__law_loose_rules_2, e_expr, e_LM, e_var, e_cons, e_nil, List.getElem?_cons_succ, List.getElem?_cons_zero, Fl.R.bind_ok, isl, if_true, e2]
    simp [ap, -List.map_map]
  · rw [get_set_same hlt]
    simp
theorem x_loose_rules {t g : Nat} {W : Store → Prop} (sb : Stb t g W) (k : Nat) (hk : k ≤ 20) : DF t g (31 * k) W F__law_loose_rules [.ref t, .p (.int k)] (fun x => ∃ rs : List Rule, (∀ r ∈ rs, r.Ok) ∧ rs.length ≤ 20 ∧ x = .tup (rs.map Rule.toP)) := fun M b T hb hW => by
  have hlt := T.lt
  obtain ⟨ρ', M', k1, rs, z3, z4, a1, a2, a3, a4, a5, rfl⟩ := forL_inv (k := none) (g := gNm 3) (body := b__law_loose_rules_3) (intsD 0 k)
    (fun i ρ M' => ∃ (rs : List Rule) (z3 z4 : Option D), rs.length = i ∧ (∀ r ∈ rs, r.Ok) ∧ M'[M.length]? = some (.lst ((rs.map Rule.toP).map D.p)) ∧ Tape M' t g (b + 31 * i) ∧ Kp t g M M' ∧ ρ = [some (.ref t), some (.p (.int k)), some (.ref M.length), z3, z4]) (fun _ _ _ _ => True.intro) (by
    rintro i x ρ M1 hi ⟨rs, z3, z4, a1, a2, a3, a4, a5, rfl⟩
    have hi2 := (List.getElem?_eq_some_iff.mp hi).1
    rw [intsD_len] at hi2
    obtain ⟨r, M2, y4, q1, q2, q3, q4, q5, q6⟩ := loose_turn (t := t) (g := g) (l := M.length) M1 (b + 31 * i) (.int k) rs a4 (by omega) a3 (by omega) (by omega) (by omega) (some x) z4
    exact ⟨_, _, _, _, rfl, .inl q1, rs ++ [r], _, _, by simp [a1], fun z hz => (List.mem_append.mp hz).elim (a2 z) (fun h => by rw [List.mem_singleton.mp h]; exact q2), q3, q4.mono (by omega), ⟨Nat.le_trans a5.len q5, fun a o h1 h2 h3 => q6 a o h1 h2 (by have := get_lt h3; omega) (a5.at_ a o h1 h2 h3)⟩, rfl⟩) (ρ := [some (.ref t), some (.p (.int k)), some (.ref M.length), none, none]) (M := M ++ [.lst []]) ⟨[], none, none, rfl, (fun r hr => by simp at hr), get_new _ _, T.app _, Kp.app _ _ _ _, rfl⟩
  rw [intsD_len] at a1 a4
  have er : rng1 [.p (.int k)] = some (0, k) := rng1_len k (by omega)
  have tp := v_tuple M.length _ M' a3
  refine ⟨_, M', selfF_ok ?_ a5.len, ⟨rs, a2, by omega, rfl⟩, a4, a5⟩
  simp [m__law_loose_rules, s__law_loose_rules_4, s__law_loose_rules_5, s__law_loose_rules_6, er, k1, tp, -List.map_map]
-- slots: 0:tape 1:rules 2:k 3:rule 4:j 5:least
noncomputable def s__law_edge_rules_1  : RS :=
  (rSet 5 (rCallN 2 F__law_pick (rCons (rVar 0) (rCons (rLst (rCons (rC (.p (.int 0))) (rCons (rC (.p (.int 0))) (rCons (rC (.p (.int 1))) (rCons (rC (.p (.int 5))) (rCons (rC (.p (.int 99999))) rNil)))))) rNil))))
noncomputable def s__law_edge_rules_2  : RS :=
  (rExpr (rLM mAppend (rVar 3) (rCons (rTup (rCons (rVar 5) (rCons (rCallN 2 F__law_pick (rCons (rVar 0) (rCons (rLst (rCons (rC (.p (.int 99999))) (rCons (rC (.p (.int 99999))) (rCons (rC (.p (.int 99998))) (rCons (rVar 5) (rCons (rC (.p (.int 0))) (rCons (rC (.p (.int 100))) rNil))))))) rNil))) rNil))) rNil)))
noncomputable def b__law_edge_rules_3  : RS :=
  (rSeq s__law_edge_rules_1
  s__law_edge_rules_2)
noncomputable def s__law_edge_rules_4  : RS :=
  (rSet 3 (rLst (rCons (rCallN 2 F__law_draw (rCons (rVar 0) (rCons (rC (.p (.int 2))) rNil))) rNil)))
noncomputable def s__law_edge_rules_5  : RS :=
  (rForR rng1 (rCons (rC (.p (.int 3))) rNil) (gNm 4)
  b__law_edge_rules_3)
noncomputable def s__law_edge_rules_6  : RS :=
  (rExpr (rLM mAppend (rVar 1) (rCons (rCB cTuple (rCons (rVar 3) rNil)) rNil)))
noncomputable def b__law_edge_rules_7  : RS :=
  (rSeq s__law_edge_rules_4
  (rSeq s__law_edge_rules_5
  s__law_edge_rules_6))
noncomputable def s__law_edge_rules_8  : RS :=
  (rSet 1 (rLst rNil))
noncomputable def s__law_edge_rules_9  : RS :=
  (rForR rng1 (rCons (rCallN 2 F__law_draw (rCons (rVar 0) (rCons (rC (.p (.int 7))) rNil))) rNil) (gNm 2)
  b__law_edge_rules_7)
noncomputable def s__law_edge_rules_10  : RS :=
  (rRet (rCB cTuple (rCons (rVar 1) rNil)))
noncomputable def m__law_edge_rules  : RS :=
  (rSeq s__law_edge_rules_8
  (rSeq s__law_edge_rules_9
  s__law_edge_rules_10))

noncomputable def F__law_edge_rules : List D → Store → R D := selfF 6 m__law_edge_rules
theorem r__law_edge_rules : Ref 1 6 F__law_edge_rules m__law_edge_rules := ref_self 1 6 m__law_edge_rules
theorem edge_turn {t g l : Nat} (M : Store) (b : Nat) (ps : List P) (T : Tape M t g b) (hb : b + 2 ≤ 900000000) (hl : M[l]? = some (.lst (ps.map D.p))) (n1 : l ≠ t) (n2 : l ≠ g) (hr : ps.length ≤ 1000) (z1 z2 z4 z5 : Option D) :
    ∃ r M' y5, b__law_edge_rules_3 [some (.ref t), z1, z2, some (.ref l), z4, z5] M = .nx [some (.ref t), z1, z2, some (.ref l), z4, y5] M' ∧ rgOk r ∧ M'[l]? = some (.lst ((ps ++ [rgP r]).map D.p)) ∧ Tape M' t g (b + 2) ∧ M.length ≤ M'.length ∧ (∀ a o, a ≠ t → a ≠ g → a ≠ l → M[a]? = some o → M'[a]? = some o) := by
  have d1 : DE t g _ (fun _ => True) [some (.ref t), z1, z2, some (.ref l), z4, z5] (rCallN 2 F__law_pick (rCons (rVar 0) (rCons (rLst (rCons (rC (.p (.int 0))) (rCons (rC (.p (.int 0))) (rCons (rC (.p (.int 1))) (rCons (rC (.p (.int 5))) (rCons (rC (.p (.int 99999))) rNil)))))) rNil))) (Nu 99999) :=
    de_pickl (L := 5) 0 rfl (dl_cons Stb.tt (de_nu (v := 0) (by decide)) (dl_cons Stb.tt (de_nu (v := 0) (by decide)) (dl_cons Stb.tt (de_nu (v := 1) (by decide)) (dl_cons Stb.tt (de_nu (v := 5) (by decide)) (dl_cons Stb.tt (de_nu (v := 99999) (by decide)) dl_nil))))) (by decide) (by decide)
  obtain ⟨x, M1, e1, ⟨o, rfl, ho⟩, T1, k1⟩ := d1 M b T (by omega) trivial
  have s1 : s__law_edge_rules_1 [some (.ref t), z1, z2, some (.ref l), z4, z5] M = .nx [some (.ref t), z1, z2, some (.ref l), z4, some (.p (.int o))] M1 := by
    simp only [s__law_edge_rules_1, e_set]
    rw [e1]
    rfl
  have d2 : DE t g _ (fun _ => True) [some (.ref t), z1, z2, some (.ref l), z4, some (.p (.int o))] (rTup (rCons (rVar 5) (rCons (rCallN 2 F__law_pick (rCons (rVar 0) (rCons (rLst (rCons (rC (.p (.int 99999))) (rCons (rC (.p (.int 99999))) (rCons (rC (.p (.int 99998))) (rCons (rVar 5) (rCons (rC (.p (.int 0))) (rCons (rC (.p (.int 100))) rNil))))))) rNil))) rNil))) (fun x => ∃ r, rgOk r ∧ x = rgP r) :=
    de_tup (da_cons (Q2 := fun xs => ∃ r, rgOk r ∧ xs = [.int r.1, .int r.2]) Stb.tt (de_var (Q := fun x => x = .int o) 5 rfl rfl) (da_cons (Q2 := fun xs => ∃ q : Nat, q ≤ 99999 ∧ xs = [.int q]) Stb.tt
      (de_pickl (R := Nu 99999) (L := 6) 0 rfl (dl_cons Stb.tt (de_nu (v := 99999) (by decide)) (dl_cons Stb.tt (de_nu (v := 99999) (by decide)) (dl_cons Stb.tt (de_nu (v := 99998) (by decide)) (dl_cons Stb.tt (de_var 5 rfl ⟨o, rfl, ho⟩) (dl_cons Stb.tt (de_nu (v := 0) (by decide)) (dl_cons Stb.tt (de_nu (v := 100) (by decide)) dl_nil)))))) (by decide) (by decide))
      (da_nil (Q := fun xs => xs = []) rfl) (fun x xs ⟨q, e, hq⟩ e2 => ⟨q, hq, by rw [e, e2]⟩)) (fun x xs e ⟨q, hq, e2⟩ => ⟨(o, q), ⟨ho, hq⟩, by rw [e, e2]⟩)) (fun xs ⟨r, hr, e⟩ => ⟨by rw [e]; simp, r, hr, by rw [e]⟩)
  obtain ⟨x, M2, e2, ⟨r, hr2, rfl⟩, T2, k2⟩ := d2 M1 _ T1 (by omega) trivial
  have kk := k1.trans k2
  have hl2 := kk.at_ l _ n1 n2 hl
  have ap := v_append l _ (.p (rgP r)) M2 hl2 (lt_line (by simp; omega))
  have isl := isLst_ref l _ M1 (k1.at_ l _ n1 n2 hl)
  have hlt := get_lt hl2
  refine ⟨r, M2.set l (.lst ((ps.map D.p) ++ [.p (rgP r)])), some (.p (.int o)), ?_, hr2, ?_, (T2.set n1 n2 _).mono (by omega), by rw [List.length_set]; exact kk.len, fun a o a1 a2 a3 a4 => get_set_ne (kk.at_ a o a1 a2 a4) (Ne.symm a3)⟩
  · unfold b__law_edge_rules_3
    rw [e_seq, s1, Out.bind_nx]
    simp only [s__law_edge_rules_2, e_expr, e_LM, e_var, e_cons, e_nil, List.getElem?_cons_succ, List.getElem?_cons_zero, Fl.R.bind_ok, isl, if_true]
    rw [e2]
    simp [ap]
  · rw [get_set_same hlt]
    simp
theorem edge_outer {t g l : Nat} (M : Store) (b : Nat) (rs : List Rule) (T : Tape M t g b) (hb : b + 7 ≤ 900000000) (hl : M[l]? = some (.lst ((rs.map Rule.toP).map D.p))) (n1 : l ≠ t) (n2 : l ≠ g) (hr : rs.length ≤ 1000) (z2 z3 z4 z5 : Option D) :
    ∃ r M' y3 y4 y5, b__law_edge_rules_7 [some (.ref t), some (.ref l), z2, z3, z4, z5] M = .nx [some (.ref t), some (.ref l), z2, y3, y4, y5] M' ∧ r.Ok ∧ M'[l]? = some (.lst (((rs ++ [r]).map Rule.toP).map D.p)) ∧ Tape M' t g (b + 7) ∧ M.length ≤ M'.length ∧ (∀ a o, a ≠ t → a ≠ g → a ≠ l → M[a]? = some o → M'[a]? = some o) := by
  obtain ⟨x, M1, e1, ⟨v, rfl, hv⟩, T1, k1⟩ := de_draw (t := t) (g := g) (W := fun _ => True) (ρ := [some (.ref t), some (.ref l), z2, z3, z4, z5]) 0 rfl 2 (by decide) (by decide) M b T (by omega) trivial
  have s4 : s__law_edge_rules_4 [some (.ref t), some (.ref l), z2, z3, z4, z5] M = .nx [some (.ref t), some (.ref l), z2, some (.ref M1.length), z4, z5] (M1 ++ [.lst [.p (.int v)]]) := by
    simp only [s__law_edge_rules_4, e_set, e_lst, e_cons]
    rw [show rCallN 2 F__law_draw (rCons (rVar 0) (rCons (rC (.p (.int 2))) rNil)) [some (.ref t), some (.ref l), z2, z3, z4, z5] M = _ from e1]
    simp
  have hlt := T1.lt
  have hl1 := k1.at_ l _ n1 n2 hl
  have hll := get_lt hl1
  -- three turns
  obtain ⟨r1, M2, y5, a1, a2, a3, a4, a5, a6⟩ := edge_turn (t := t) (g := g) (l := M1.length) (M1 ++ [.lst [.p (.int v)]]) (b + 1) [.int v] (T1.app _) (by omega) (get_new _ _) (by omega) (by omega) (by simp) (some (.ref l)) z2 (some (.p (.int 0))) z5
  obtain ⟨r2, M3, y6, b1, b2, b3, b4, b5, b6⟩ := edge_turn (t := t) (g := g) (l := M1.length) M2 (b + 1 + 2) [.int v, rgP r1] a4 (by omega) a3 (by omega) (by omega) (by simp) (some (.ref l)) z2 (some (.p (.int 1))) y5
  obtain ⟨r3, M4, y7, c1, c2, c3, c4, c5, c6⟩ := edge_turn (t := t) (g := g) (l := M1.length) M3 (b + 1 + 2 + 2) [.int v, rgP r1, rgP r2] b4 (by omega) b3 (by omega) (by omega) (by simp) (some (.ref l)) z2 (some (.p (.int 2))) y6
  have er : rng1 [.p (.int 3)] = some (0, 3) := rng1_len 3 (by decide)
  have ei : intsD 0 3 = [.p (.int 0), .p (.int 1), .p (.int 2)] := rfl
  have s5 : s__law_edge_rules_5 [some (.ref t), some (.ref l), z2, some (.ref M1.length), z4, z5] (M1 ++ [.lst [.p (.int v)]]) = .nx [some (.ref t), some (.ref l), z2, some (.ref M1.length), some (.p (.int 2)), y7] M4 := by
    simp [s__law_edge_rules_5, er, ei, a1, b1, c1]
  have keep : ∀ a o, a ≠ t → a ≠ g → M[a]? = some o → M4[a]? = some o := fun a o h1 h2 h3 => by
    have h4 := k1.at_ a o h1 h2 h3
    have h5 := get_lt h4
    exact c6 a o h1 h2 (by omega) (b6 a o h1 h2 (by omega) (a6 a o h1 h2 (by omega) (get_app h4 _)))
  have hl4 := keep l _ n1 n2 hl
  have tp := v_tuple M1.length _ M4 c3
  have ap := v_append l _ (.p (.tup [.int v, rgP r1, rgP r2, rgP r3])) M4 hl4 (lt_line (by simp; omega))
  have isl := isLst_ref l _ M4 hl4
  have hlt4 := get_lt hl4
  have hlen : M.length ≤ M4.length := by
    have := k1.len
    simp only [List.length_append] at a5
    omega
  refine ⟨⟨v, r1, r2, r3⟩, M4.set l (.lst (((rs.map Rule.toP).map D.p) ++ [.p (.tup [.int v, rgP r1, rgP r2, rgP r3])])), some (.ref M1.length), some (.p (.int 2)), y7, ?_, ⟨by show v ≤ 1; omega, a2, b2, c2⟩, ?_, (c4.set n1 n2 _).mono (by omega), by rw [List.length_set]; exact hlen, fun a o h1 h2 h3 h4 => get_set_ne (keep a o h1 h2 h4) (Ne.symm h3)⟩
  · unfold b__law_edge_rules_7
    rw [e_seq, s4, Out.bind_nx, e_seq, s5, Out.bind_nx]
    simp at tp
    simp [s__law_edge_rules_6, isl, tp, ap, -List.map_map]
  · rw [get_set_same hlt4]
    simp
theorem x_edge_rules {t g : Nat} {W : Store → Prop} (sb : Stb t g W) : DF t g 60 W F__law_edge_rules [.ref t] (fun x => ∃ rs : List Rule, (∀ r ∈ rs, r.Ok) ∧ rs.length ≤ 20 ∧ x = .tup (rs.map Rule.toP)) := fun M b T hb hW => by
  obtain ⟨x, M1, e1, ⟨k, rfl, hk⟩, T1, k1⟩ := de_draw (t := t) (g := g) (W := fun _ => True) (ρ := [some (.ref t), some (.ref M.length), none, none, none, none]) 0 rfl 7 (by decide) (by decide) (M ++ [.lst []]) b (T.app _) (by omega) trivial
  have hlt := T.lt
  have kp0 := (Kp.app t g M [.lst []]).trans k1
  have hn := k1.at_ M.length _ (by omega) (by omega) (get_new M (.lst []))
  obtain ⟨ρ', M', k2, rs, z2, z3, z4, z5, a1, a2, a3, a4, a5, rfl⟩ := forL_inv (k := none) (g := gNm 2) (body := b__law_edge_rules_7) (intsD 0 k)
    (fun i ρ M' => ∃ (rs : List Rule) (z2 z3 z4 z5 : Option D), rs.length = i ∧ (∀ r ∈ rs, r.Ok) ∧ M'[M.length]? = some (.lst ((rs.map Rule.toP).map D.p)) ∧ Tape M' t g (b + 1 + 7 * i) ∧ Kp t g M M' ∧ ρ = [some (.ref t), some (.ref M.length), z2, z3, z4, z5]) (fun _ _ _ _ => True.intro) (by
    rintro i x ρ M2 hi ⟨rs, z2, z3, z4, z5, a1, a2, a3, a4, a5, rfl⟩
    have hi2 := (List.getElem?_eq_some_iff.mp hi).1
    rw [intsD_len] at hi2
    obtain ⟨r, M3, y3, y4, y5, q1, q2, q3, q4, q5, q6⟩ := edge_outer (t := t) (g := g) (l := M.length) M2 (b + 1 + 7 * i) rs a4 (by omega) a3 (by omega) (by omega) (by omega) (some x) z3 z4 z5
    exact ⟨_, _, _, _, rfl, .inl q1, rs ++ [r], _, _, _, _, by simp [a1], fun z hz => (List.mem_append.mp hz).elim (a2 z) (fun h => by rw [List.mem_singleton.mp h]; exact q2), q3, q4.mono (by omega), ⟨Nat.le_trans a5.len q5, fun a o h1 h2 h3 => q6 a o h1 h2 (by have := get_lt h3; omega) (a5.at_ a o h1 h2 h3)⟩, rfl⟩) (ρ := [some (.ref t), some (.ref M.length), none, none, none, none]) (M := M1) ⟨[], none, none, none, none, rfl, (fun r hr => by simp at hr), hn, T1, kp0, rfl⟩
  rw [intsD_len] at a1 a4
  have er : rng1 [.p (.int k)] = some (0, k) := rng1_len k (by omega)
  have tp := v_tuple M.length _ M' a3
  refine ⟨_, M', selfF_ok ?_ a5.len, ⟨rs, a2, by omega, rfl⟩, a4.mono (by omega), a5⟩
  have s8 : s__law_edge_rules_8 (startD 6 [.ref t]) M = .nx [some (.ref t), some (.ref M.length), none, none, none, none] (M ++ [.lst []]) := by
    simp [s__law_edge_rules_8]
  unfold m__law_edge_rules
  rw [e_seq, s8, Out.bind_nx, e_seq]
  have s9 : s__law_edge_rules_9 [some (.ref t), some (.ref M.length), none, none, none, none] (M ++ [.lst []]) = .nx [some (.ref t), some (.ref M.length), z2, z3, z4, z5] M' := by
    simp only [s__law_edge_rules_9, e_forR, e_cons]
    rw [show rCallN 2 F__law_draw (rCons (rVar 0) (rCons (rC (.p (.int 7))) rNil)) [some (.ref t), some (.ref M.length), none, none, none, none] (M ++ [.lst []]) = _ from e1]
    simp [er, k2]
  rw [s9, Out.bind_nx]
  simp [s__law_edge_rules_10, tp, -List.map_map]
/-! ### doors -/
def Bt (x : P) : Prop := ∃ v : Nat, x = .int v ∧ v ≤ 1
def NmP (x : P) : Prop := ∃ s, x = .str s ∧ Nm s
theorem de_bit {t g : Nat} {W : Store → Prop} {ρ : Env} (i : Nat) (e : ρ[i]? = some (some (.ref t))) : DE t g 1 W ρ (rCallN 2 F__law_draw (rCons (rVar i) (rCons (rC (.p (.int 2))) rNil))) Bt := de_mono (de_draw i e 2 (by decide) (by decide)) fun x ⟨v, h, k⟩ => ⟨v, h, by omega⟩
/-- four values behind one another -/
theorem da4 {t g n1 n2 n3 n4 : Nat} {W : Store → Prop} {ρ : Env} {f1 f2 f3 f4 : RE} {Q1 Q2 Q3 Q4 : P → Prop} (sb : Stb t g W) (h1 : DE t g n1 W ρ f1 Q1) (h2 : DE t g n2 W ρ f2 Q2) (h3 : DE t g n3 W ρ f3 Q3) (h4 : DE t g n4 W ρ f4 Q4) :
    DA t g (n1 + (n2 + (n3 + (n4 + 0)))) W ρ (rCons f1 (rCons f2 (rCons f3 (rCons f4 rNil)))) (fun xs => ∃ a b c d, Q1 a ∧ Q2 b ∧ Q3 c ∧ Q4 d ∧ xs = [a, b, c, d]) :=
  da_cons sb h1 (da_cons (Q2 := fun xs => ∃ b c d, Q2 b ∧ Q3 c ∧ Q4 d ∧ xs = [b, c, d]) sb h2 (da_cons (Q2 := fun xs => ∃ c d, Q3 c ∧ Q4 d ∧ xs = [c, d]) sb h3 (da_cons (Q2 := fun xs => ∃ d, Q4 d ∧ xs = [d]) sb h4 (da_nil (Q := fun xs => xs = []) rfl) (fun x xs q e => ⟨x, q, by rw [e]⟩)) (fun x xs q ⟨d, q4, e⟩ => ⟨x, d, q, q4, by rw [e]⟩)) (fun x xs q ⟨c, d, q3, q4, e⟩ => ⟨x, c, d, q, q3, q4, by rw [e]⟩)) (fun x xs q ⟨b, c, d, q2, q3, q4, e⟩ => ⟨x, b, c, d, q, q2, q3, q4, by rw [e]⟩)
theorem da2 {t g n1 n2 : Nat} {W : Store → Prop} {ρ : Env} {f1 f2 : RE} {Q1 Q2 : P → Prop} (sb : Stb t g W) (h1 : DE t g n1 W ρ f1 Q1) (h2 : DE t g n2 W ρ f2 Q2) :
    DA t g (n1 + (n2 + 0)) W ρ (rCons f1 (rCons f2 rNil)) (fun xs => ∃ a b, Q1 a ∧ Q2 b ∧ xs = [a, b]) :=
  da_cons sb h1 (da_cons (Q2 := fun xs => ∃ b, Q2 b ∧ xs = [b]) sb h2 (da_nil (Q := fun xs => xs = []) rfl) (fun x xs q e => ⟨x, q, by rw [e]⟩)) (fun x xs q ⟨b, q2, e⟩ => ⟨x, b, q, q2, by rw [e]⟩)
theorem door_of {a n i o b c d e k s x y : P} (ha : a = .str "door") (hn : NmP n) (hi : NmP i) (ho : NmP o) (hb : Nu 99999 b) (hc : Nu 99999 c) (hd : Nu 99999 d) (he : Nu 99999 e) (hk : Bt k) (hs : Nu 99999 s) (hx : Bt x) (hy : Bt y) : ∃ it : Item, it.Ok ∧ it.Sm ∧ P.tup [a, n, i, o, b, c, d, e, k, s, x, y] = it.toP := by
  subst ha
  obtain ⟨n, rfl, hn⟩ := hn
  obtain ⟨i, rfl, hi⟩ := hi
  obtain ⟨o, rfl, ho⟩ := ho
  obtain ⟨b, rfl, hb⟩ := hb
  obtain ⟨c, rfl, hc⟩ := hc
  obtain ⟨d, rfl, hd⟩ := hd
  obtain ⟨e, rfl, he⟩ := he
  obtain ⟨k, rfl, hk⟩ := hk
  obtain ⟨s, rfl, hs⟩ := hs
  obtain ⟨x, rfl, hx⟩ := hx
  obtain ⟨y, rfl, hy⟩ := hy
  exact ⟨.door n i o b c d e k s x y, .door hn hi ho hb hc hd he hk hs hx hy, trivial, rfl⟩
abbrev ItemP (x : P) : Prop := ∃ it : Item, it.Ok ∧ it.Sm ∧ x = it.toP
-- slots: 0:tape 1:pools 2:start 3:numbers 4:span
noncomputable def s__law_edge_door_1  : RS :=
  (rSet 2 (rTup (rCons (rC (.p (.str "door"))) (rCons (rCallN 2 F__law_pick (rCons (rVar 0) (rCons (rBin dIx (rVar 1) (rC (.p (.int 1)))) rNil))) (rCons (rCallN 2 F__law_pick (rCons (rVar 0) (rCons (rBin dIx (rVar 1) (rC (.p (.int 0)))) rNil))) (rCons (rCallN 2 F__law_pick (rCons (rVar 0) (rCons (rBin dIx (rVar 1) (rC (.p (.int 0)))) rNil))) rNil))))))
noncomputable def s__law_edge_door_2  : RS :=
  (rSet 3 (rTup (rCons (rCallN 2 F__law_pick (rCons (rVar 0) (rCons (rLst (rCons (rC (.p (.int 1))) (rCons (rC (.p (.int 1))) (rCons (rC (.p (.int 0))) (rCons (rC (.p (.int 2))) (rCons (rC (.p (.int 99999))) rNil)))))) rNil))) (rCons (rCallN 2 F__law_pick (rCons (rVar 0) (rCons (rLst (rCons (rC (.p (.int 1))) (rCons (rC (.p (.int 1))) (rCons (rC (.p (.int 0))) (rCons (rC (.p (.int 3))) (rCons (rC (.p (.int 11))) rNil)))))) rNil))) rNil))))
noncomputable def s__law_edge_door_3  : RS :=
  (rSet 3 (rBin dAdd (rVar 3) (rTup (rCons (rCallN 2 F__law_pick (rCons (rVar 0) (rCons (rLst (rCons (rC (.p (.int 1))) (rCons (rC (.p (.int 1))) (rCons (rC (.p (.int 0))) (rCons (rC (.p (.int 2))) (rCons (rC (.p (.int 9999))) rNil)))))) rNil))) (rCons (rCallN 2 F__law_pick (rCons (rVar 0) (rCons (rLst (rCons (rC (.p (.int 9999))) (rCons (rC (.p (.int 9999))) (rCons (rC (.p (.int 9998))) (rCons (rC (.p (.int 1))) (rCons (rC (.p (.int 10000))) (rCons (rC (.p (.int 99999))) rNil))))))) rNil))) rNil)))))
noncomputable def s__law_edge_door_4  : RS :=
  (rSet 4 (rCallN 2 F__law_pick (rCons (rVar 0) (rCons (rLst (rCons (rC (.p (.int 0))) (rCons (rC (.p (.int 0))) (rCons (rC (.p (.int 1))) (rCons (rC (.p (.int 99))) (rCons (rC (.p (.int 99999))) rNil)))))) rNil))))
noncomputable def s__law_edge_door_5  : RS :=
  (rRet (rBin dAdd (rBin dAdd (rVar 2) (rVar 3)) (rTup (rCons (rCallN 2 F__law_draw (rCons (rVar 0) (rCons (rC (.p (.int 2))) rNil))) (rCons (rVar 4) (rCons (rCallN 2 F__law_draw (rCons (rVar 0) (rCons (rC (.p (.int 2))) rNil))) (rCons (rCallN 2 F__law_draw (rCons (rVar 0) (rCons (rC (.p (.int 2))) rNil))) rNil)))))))
noncomputable def m__law_edge_door  : RS :=
  (rSeq s__law_edge_door_1
  (rSeq s__law_edge_door_2
  (rSeq s__law_edge_door_3
  (rSeq s__law_edge_door_4
  s__law_edge_door_5))))

noncomputable def F__law_edge_door : List D → Store → R D := selfF 5 m__law_edge_door
theorem r__law_edge_door : Ref 2 5 F__law_edge_door m__law_edge_door := ref_self 2 5 m__law_edge_door
theorem x_edge_door {t g p : Nat} : DF t g 30 (Pools t g p) F__law_edge_door [.ref t, .ref p] ItemP := fun M b T hb hW => by
  have sb : Stb t g (Pools t g p) := Pools.stb
  have d1 : DE t g _ (Pools t g p) [some (.ref t), some (.ref p), none, none, none] (rTup (rCons (rC (.p (.str "door"))) (rCons (rCallN 2 F__law_pick (rCons (rVar 0) (rCons (rBin dIx (rVar 1) (rC (.p (.int 1)))) rNil))) (rCons (rCallN 2 F__law_pick (rCons (rVar 0) (rCons (rBin dIx (rVar 1) (rC (.p (.int 0)))) rNil))) (rCons (rCallN 2 F__law_pick (rCons (rVar 0) (rCons (rBin dIx (rVar 1) (rC (.p (.int 0)))) rNil))) rNil))))) (fun x => ∃ a n i o, a = .str "door" ∧ NmP n ∧ NmP i ∧ NmP o ∧ x = .tup [a, n, i, o]) :=
    de_tup (da4 (Q1 := fun a => a = .str "door") sb (de_const rfl) (de_name 0 1 rfl rfl) (de_net 0 1 rfl rfl) (de_net 0 1 rfl rfl)) (fun xs ⟨a, n, i, o, h1, h2, h3, h4, e⟩ => ⟨by rw [e]; simp, a, n, i, o, h1, h2, h3, h4, by rw [e]⟩)
  obtain ⟨x1, M1, e1, ⟨a, n, i, o, ha, hn, hi, ho, rfl⟩, T1, k1⟩ := d1 M b T (by omega) hW
  have s1 : s__law_edge_door_1 (startD 5 [.ref t, .ref p]) M = .nx [some (.ref t), some (.ref p), some (.p (.tup [a, n, i, o])), none, none] M1 := by
    simp only [s__law_edge_door_1, e_set]
    rw [show startD 5 [D.ref t, D.ref p] = [some (.ref t), some (.ref p), none, none, none] from rfl, e1]
    rfl
  have W1 := sb _ _ k1 hW
  have d2 : DE t g _ (Pools t g p) [some (.ref t), some (.ref p), some (.p (.tup [a, n, i, o])), none, none] (rTup (rCons (rCallN 2 F__law_pick (rCons (rVar 0) (rCons (rLst (rCons (rC (.p (.int 1))) (rCons (rC (.p (.int 1))) (rCons (rC (.p (.int 0))) (rCons (rC (.p (.int 2))) (rCons (rC (.p (.int 99999))) rNil)))))) rNil))) (rCons (rCallN 2 F__law_pick (rCons (rVar 0) (rCons (rLst (rCons (rC (.p (.int 1))) (rCons (rC (.p (.int 1))) (rCons (rC (.p (.int 0))) (rCons (rC (.p (.int 3))) (rCons (rC (.p (.int 11))) rNil)))))) rNil))) rNil))) (fun x => ∃ b c, Nu 99999 b ∧ Nu 99999 c ∧ x = .tup [b, c]) :=
    de_tup (da2 sb (de_pickl (R := Nu 99999) (L := 5) 0 rfl (dl_cons sb (de_nu (v := 1) (by decide)) (dl_cons sb (de_nu (v := 1) (by decide)) (dl_cons sb (de_nu (v := 0) (by decide)) (dl_cons sb (de_nu (v := 2) (by decide)) (dl_cons sb (de_nu (v := 99999) (by decide)) dl_nil))))) (by decide) (by decide))
      (de_pickl (R := Nu 99999) (L := 5) 0 rfl (dl_cons sb (de_nu (v := 1) (by decide)) (dl_cons sb (de_nu (v := 1) (by decide)) (dl_cons sb (de_nu (v := 0) (by decide)) (dl_cons sb (de_nu (v := 3) (by decide)) (dl_cons sb (de_nu (v := 11) (by decide)) dl_nil))))) (by decide) (by decide))) (fun xs ⟨b, c, h1, h2, e⟩ => ⟨by rw [e]; simp, b, c, h1, h2, by rw [e]⟩)
  obtain ⟨x2, M2, e2, ⟨q1, q2, hq1, hq2, rfl⟩, T2, k2⟩ := d2 M1 _ T1 (by omega) W1
  have s2 : s__law_edge_door_2 [some (.ref t), some (.ref p), some (.p (.tup [a, n, i, o])), none, none] M1 = .nx [some (.ref t), some (.ref p), some (.p (.tup [a, n, i, o])), some (.p (.tup [q1, q2])), none] M2 := by
    simp only [s__law_edge_door_2, e_set]
    rw [e2]
    rfl
  have W2 := sb _ _ k2 W1
  have d3 : DE t g _ (Pools t g p) [some (.ref t), some (.ref p), some (.p (.tup [a, n, i, o])), some (.p (.tup [q1, q2])), none] (rBin dAdd (rVar 3) (rTup (rCons (rCallN 2 F__law_pick (rCons (rVar 0) (rCons (rLst (rCons (rC (.p (.int 1))) (rCons (rC (.p (.int 1))) (rCons (rC (.p (.int 0))) (rCons (rC (.p (.int 2))) (rCons (rC (.p (.int 9999))) rNil)))))) rNil))) (rCons (rCallN 2 F__law_pick (rCons (rVar 0) (rCons (rLst (rCons (rC (.p (.int 9999))) (rCons (rC (.p (.int 9999))) (rCons (rC (.p (.int 9998))) (rCons (rC (.p (.int 1))) (rCons (rC (.p (.int 10000))) (rCons (rC (.p (.int 99999))) rNil))))))) rNil))) rNil)))) (fun x => ∃ c d, Nu 99999 c ∧ Nu 99999 d ∧ x = .tup [q1, q2, c, d]) :=
    de_addt (Q1 := fun xs => xs = [q1, q2]) (Q2 := fun ys => ∃ c d, Nu 99999 c ∧ Nu 99999 d ∧ ys = [c, d]) sb (de_var 3 rfl ⟨_, rfl, by simp, rfl⟩) (de_tup (da2 sb (de_pickl (R := Nu 99999) (L := 5) 0 rfl (dl_cons sb (de_nu (v := 1) (by decide)) (dl_cons sb (de_nu (v := 1) (by decide)) (dl_cons sb (de_nu (v := 0) (by decide)) (dl_cons sb (de_nu (v := 2) (by decide)) (dl_cons sb (de_nu (v := 9999) (by decide)) dl_nil))))) (by decide) (by decide))
      (de_pickl (R := Nu 99999) (L := 6) 0 rfl (dl_cons sb (de_nu (v := 9999) (by decide)) (dl_cons sb (de_nu (v := 9999) (by decide)) (dl_cons sb (de_nu (v := 9998) (by decide)) (dl_cons sb (de_nu (v := 1) (by decide)) (dl_cons sb (de_nu (v := 10000) (by decide)) (dl_cons sb (de_nu (v := 99999) (by decide)) dl_nil)))))) (by decide) (by decide))) (fun xs ⟨b, c, h1, h2, e⟩ => ⟨by rw [e]; simp, xs, rfl, by rw [e]; simp, b, c, h1, h2, e⟩)) (fun xs ys e1 ⟨c, d, h1, h2, e2⟩ => ⟨c, d, h1, h2, by rw [e1, e2]; rfl⟩)
  obtain ⟨x3, M3, e3, ⟨q3, q4, hq3, hq4, rfl⟩, T3, k3⟩ := d3 M2 _ T2 (by omega) W2
  have s3 : s__law_edge_door_3 [some (.ref t), some (.ref p), some (.p (.tup [a, n, i, o])), some (.p (.tup [q1, q2])), none] M2 = .nx [some (.ref t), some (.ref p), some (.p (.tup [a, n, i, o])), some (.p (.tup [q1, q2, q3, q4])), none] M3 := by
    simp only [s__law_edge_door_3, e_set]
    rw [e3]
    rfl
  have W3 := sb _ _ k3 W2
  have d4 : DE t g _ (Pools t g p) [some (.ref t), some (.ref p), some (.p (.tup [a, n, i, o])), some (.p (.tup [q1, q2, q3, q4])), none] (rCallN 2 F__law_pick (rCons (rVar 0) (rCons (rLst (rCons (rC (.p (.int 0))) (rCons (rC (.p (.int 0))) (rCons (rC (.p (.int 1))) (rCons (rC (.p (.int 99))) (rCons (rC (.p (.int 99999))) rNil)))))) rNil))) (Nu 99999) :=
    de_pickl (L := 5) 0 rfl (dl_cons sb (de_nu (v := 0) (by decide)) (dl_cons sb (de_nu (v := 0) (by decide)) (dl_cons sb (de_nu (v := 1) (by decide)) (dl_cons sb (de_nu (v := 99) (by decide)) (dl_cons sb (de_nu (v := 99999) (by decide)) dl_nil))))) (by decide) (by decide)
  obtain ⟨sp, M4, e4, hsp, T4, k4⟩ := d4 M3 _ T3 (by omega) W3
  have s4 : s__law_edge_door_4 [some (.ref t), some (.ref p), some (.p (.tup [a, n, i, o])), some (.p (.tup [q1, q2, q3, q4])), none] M3 = .nx [some (.ref t), some (.ref p), some (.p (.tup [a, n, i, o])), some (.p (.tup [q1, q2, q3, q4])), some (.p sp)] M4 := by
    simp only [s__law_edge_door_4, e_set]
    rw [e4]
    rfl
  have W4 := sb _ _ k4 W3
  have d5 : DE t g _ (Pools t g p) [some (.ref t), some (.ref p), some (.p (.tup [a, n, i, o])), some (.p (.tup [q1, q2, q3, q4])), some (.p sp)] (rBin dAdd (rBin dAdd (rVar 2) (rVar 3)) (rTup (rCons (rCallN 2 F__law_draw (rCons (rVar 0) (rCons (rC (.p (.int 2))) rNil))) (rCons (rVar 4) (rCons (rCallN 2 F__law_draw (rCons (rVar 0) (rCons (rC (.p (.int 2))) rNil))) (rCons (rCallN 2 F__law_draw (rCons (rVar 0) (rCons (rC (.p (.int 2))) rNil))) rNil)))))) ItemP :=
    de_addt (Q1 := fun xs => xs = [a, n, i, o, q1, q2, q3, q4]) (Q2 := fun ys => ∃ k s x y, Bt k ∧ s = sp ∧ Bt x ∧ Bt y ∧ ys = [k, s, x, y]) sb
      (de_addt (Q1 := fun xs => xs = [a, n, i, o]) (Q2 := fun xs => xs = [q1, q2, q3, q4]) sb (de_var 2 rfl ⟨_, rfl, by simp, rfl⟩) (de_var 3 rfl ⟨_, rfl, by simp, rfl⟩) (fun xs ys e1 e2 => ⟨_, rfl, by rw [e1, e2]; simp, by rw [e1, e2]; rfl⟩))
      (de_tup (da4 (Q2 := fun s => s = sp) sb (de_bit 0 rfl) (de_var 4 rfl rfl) (de_bit 0 rfl) (de_bit 0 rfl)) (fun xs ⟨k, s, x, y, h1, h2, h3, h4, e⟩ => ⟨by rw [e]; simp, xs, rfl, by rw [e]; simp, k, s, x, y, h1, h2, h3, h4, e⟩))
      (fun xs ys e1 ⟨k, s, x, y, h1, h2, h3, h4, e2⟩ => by
        subst h2
        rw [e1, e2]
        exact door_of ha hn hi ho hq1 hq2 hq3 hq4 h1 hsp h3 h4)
  obtain ⟨x5, M5, e5, hx5, T5, k5⟩ := d5 M4 _ T4 (by omega) W4
  have kk := (((k1.trans k2).trans k3).trans k4).trans k5
  refine ⟨x5, M5, selfF_ok ?_ kk.len, hx5, T5.mono (by omega), kk⟩
  unfold m__law_edge_door
  rw [e_seq, s1, Out.bind_nx, e_seq, s2, Out.bind_nx, e_seq, s3, Out.bind_nx, e_seq, s4, Out.bind_nx]
  simp only [s__law_edge_door_5, e_ret]
  rw [e5]
  rfl
-- slots: 0:tape 1:pools 2:item 3:span
noncomputable def s__law_loose_door_1  : RS :=
  (rAsg (rBin dIx (rLst (rCons (rC (.p (.int 1))) (rCons (rC (.p (.int 2))) (rCons (rC (.p (.int 3))) (rCons (rC (.p (.int 0))) (rCons (rC (.p (.int 4))) (rCons (rC (.p (.int 99999))) rNil))))))) (rCallN 2 F__law_draw (rCons (rVar 0) (rCons (rC (.p (.int 6))) rNil)))) (gSu (rVar 2) (rC (.p (.int 4))) setD))
noncomputable def s__law_loose_door_2  : RS :=
  (rAsg (rBin dIx (rLst (rCons (rC (.p (.int 1))) (rCons (rC (.p (.int 2))) (rCons (rC (.p (.int 3))) (rCons (rC (.p (.int 0))) (rCons (rC (.p (.int 4))) (rCons (rC (.p (.int 10))) rNil))))))) (rCallN 2 F__law_draw (rCons (rVar 0) (rCons (rC (.p (.int 6))) rNil)))) (gSu (rVar 2) (rC (.p (.int 5))) setD))
noncomputable def s__law_loose_door_3  : RS :=
  (rAsg (rBin dIx (rLst (rCons (rC (.p (.int 0))) (rCons (rC (.p (.int 1))) (rCons (rC (.p (.int 2))) (rCons (rC (.p (.int 5))) (rCons (rC (.p (.int 9999))) (rCons (rBin dAdd (rC (.p (.int 1))) (rCallN 2 F__law_draw (rCons (rVar 0) (rCons (rC (.p (.int 9999))) rNil)))) rNil))))))) (rCallN 2 F__law_draw (rCons (rVar 0) (rCons (rC (.p (.int 6))) rNil)))) (gSu (rVar 2) (rC (.p (.int 6))) setD))
noncomputable def s__law_loose_door_4  : RS :=
  (rAsg (rBin dIx (rLst (rCons (rC (.p (.int 1))) (rCons (rC (.p (.int 5))) (rCons (rC (.p (.int 9999))) (rCons (rC (.p (.int 10000))) (rCons (rC (.p (.int 20000))) (rCons (rBin dAdd (rC (.p (.int 1))) (rCallN 2 F__law_draw (rCons (rVar 0) (rCons (rC (.p (.int 9999))) rNil)))) rNil))))))) (rCallN 2 F__law_draw (rCons (rVar 0) (rCons (rC (.p (.int 6))) rNil)))) (gSu (rVar 2) (rC (.p (.int 7))) setD))
noncomputable def b__law_loose_door_5  : RS :=
  (rSeq s__law_loose_door_3
  s__law_loose_door_4)
noncomputable def s__law_loose_door_6  : RS :=
  (rSet 2 (rLst (rCons (rC (.p (.str "door"))) (rCons (rCallN 2 F__law_pick (rCons (rVar 0) (rCons (rBin dIx (rVar 1) (rC (.p (.int 1)))) rNil))) (rCons (rCallN 2 F__law_pick (rCons (rVar 0) (rCons (rBin dIx (rVar 1) (rC (.p (.int 0)))) rNil))) (rCons (rCallN 2 F__law_pick (rCons (rVar 0) (rCons (rBin dIx (rVar 1) (rC (.p (.int 0)))) rNil))) (rCons (rC (.p (.int 1))) (rCons (rC (.p (.int 1))) (rCons (rC (.p (.int 1))) (rCons (rC (.p (.int 9999))) rNil))))))))))
noncomputable def s__law_loose_door_7  : RS :=
  (rIfS (rTst asBool (rBin dEq (rCallN 2 F__law_draw (rCons (rVar 0) (rCons (rC (.p (.int 2))) rNil))) (rC (.p (.int 0)))))
  s__law_loose_door_1
  rSkip)
noncomputable def s__law_loose_door_8  : RS :=
  (rIfS (rTst asBool (rBin dEq (rCallN 2 F__law_draw (rCons (rVar 0) (rCons (rC (.p (.int 2))) rNil))) (rC (.p (.int 0)))))
  s__law_loose_door_2
  rSkip)
noncomputable def s__law_loose_door_9  : RS :=
  (rIfS (rTst asBool (rBin dEq (rCallN 2 F__law_draw (rCons (rVar 0) (rCons (rC (.p (.int 2))) rNil))) (rC (.p (.int 0)))))
  b__law_loose_door_5
  rSkip)
noncomputable def s__law_loose_door_10  : RS :=
  (rSet 3 (rBin dIx (rLst (rCons (rC (.p (.int 0))) (rCons (rC (.p (.int 0))) (rCons (rC (.p (.int 1))) (rCons (rC (.p (.int 99))) (rCons (rC (.p (.int 100))) (rCons (rCallN 2 F__law_draw (rCons (rVar 0) (rCons (rC (.p (.int 100000))) rNil))) rNil))))))) (rCallN 2 F__law_draw (rCons (rVar 0) (rCons (rC (.p (.int 6))) rNil)))))
noncomputable def s__law_loose_door_11  : RS :=
  (rRet (rCB cTuple (rCons (rBin dAdd (rVar 2) (rLst (rCons (rCallN 2 F__law_draw (rCons (rVar 0) (rCons (rC (.p (.int 2))) rNil))) (rCons (rVar 3) (rCons (rCallN 2 F__law_draw (rCons (rVar 0) (rCons (rC (.p (.int 2))) rNil))) (rCons (rCallN 2 F__law_draw (rCons (rVar 0) (rCons (rC (.p (.int 2))) rNil))) rNil)))))) rNil)))
noncomputable def m__law_loose_door  : RS :=
  (rSeq s__law_loose_door_6
  (rSeq s__law_loose_door_7
  (rSeq s__law_loose_door_8
  (rSeq s__law_loose_door_9
  (rSeq s__law_loose_door_10
  s__law_loose_door_11)))))

noncomputable def F__law_loose_door : List D → Store → R D := selfF 4 m__law_loose_door
theorem r__law_loose_door : Ref 2 4 F__law_loose_door m__law_loose_door := ref_self 2 4 m__law_loose_door
/-- the list of a door's first eight fields -/
def Head8 (L : List P) : Prop := ∃ a n i o b c d e : P, a = .str "door" ∧ NmP n ∧ NmP i ∧ NmP o ∧ Nu 99999 b ∧ Nu 99999 c ∧ Nu 99999 d ∧ Nu 99999 e ∧ L = [a, n, i, o, b, c, d, e]
theorem Head8.set {L : List P} (h : Head8 L) (k : Nat) (hk : k = 4 ∨ k = 5 ∨ k = 6 ∨ k = 7) {x : P} (hx : Nu 99999 x) : Head8 (L.set k x) := by
  obtain ⟨a, n, i, o, b, c, d, e, ha, hn, hi, ho, hb, hc, hd, he, rfl⟩ := h
  rcases hk with rfl | rfl | rfl | rfl
  · exact ⟨a, n, i, o, x, c, d, e, ha, hn, hi, ho, hx, hc, hd, he, rfl⟩
  · exact ⟨a, n, i, o, b, x, d, e, ha, hn, hi, ho, hb, hx, hd, he, rfl⟩
  · exact ⟨a, n, i, o, b, c, x, e, ha, hn, hi, ho, hb, hc, hx, he, rfl⟩
  · exact ⟨a, n, i, o, b, c, d, x, ha, hn, hi, ho, hb, hc, hd, hx, rfl⟩
/-- what is known of the store while a door is drawn -/
structure Drw (t g b l : Nat) (M0 M : Store) : Prop where
  tape : Tape M t g b
  kp : Kp t g M0 M
  at_ : ∃ L, Head8 L ∧ M[l]? = some (.lst (L.map D.p))
theorem set_one {t g m b l : Nat} {ρ : Env} {f : RE} (h : DE t g m (fun _ => True) ρ f (Nu 99999)) (k : Nat) (hk : k = 4 ∨ k = 5 ∨ k = 6 ∨ k = 7) (e2 : ρ[2]? = some (some (.ref l))) {M0 M : Store} (n1 : l ≠ t) (n2 : l ≠ g) (hl : M0.length ≤ l) (w : Drw t g b l M0 M) (hb : b + m ≤ 900000000) :
    ∃ M', rAsg f (gSu (rVar 2) (rC (.p (.int (k : Nat)))) setD) ρ M = .nx ρ M' ∧ Drw t g (b + m) l M0 M' := by
  obtain ⟨L, hL, hM⟩ := w.at_
  obtain ⟨x, M1, e1, hx, T1, k1⟩ := h M b w.tape hb trivial
  have h1 := k1.at_ l _ n1 n2 hM
  have hlt := get_lt h1
  have hlen : L.length = 8 := by
    obtain ⟨a, n, i, o, b, c, d, e, _, _, _, _, _, _, _, _, rfl⟩ := hL
    rfl
  have st := v_set l _ k (.p x) M1 h1 (by rw [List.length_map, hlen]; omega)
  refine ⟨M1.set l (.lst ((L.map D.p).set k (.p x))), ?_, T1.set n1 n2 _, (w.kp.trans k1).set hl _, L.set k x, hL.set k hk hx, by rw [get_set_same hlt, List.map_set]⟩
  rw [e_asg, e1]
  simp [e2, st, -List.map_set]
theorem cond_one {t g m b l : Nat} {ρ : Env} (body : RS) (e0 : ρ[0]? = some (some (.ref t))) {M0 M : Store} (n1 : l ≠ t) (n2 : l ≠ g) (w : Drw t g b l M0 M) (hb : b + 1 + m ≤ 900000000)
    (h : ∀ M1, Drw t g (b + 1) l M0 M1 → ∃ M', body ρ M1 = .nx ρ M' ∧ Drw t g (b + 1 + m) l M0 M') :
    ∃ M', rIfS (rTst asBool (rBin dEq (rCallN 2 F__law_draw (rCons (rVar 0) (rCons (rC (.p (.int 2))) rNil))) (rC (.p (.int 0))))) body rSkip ρ M = .nx ρ M' ∧ Drw t g (b + 1 + m) l M0 M' := by
  obtain ⟨x, M1, e1, ⟨v, rfl, hv⟩, T1, k1⟩ := de_draw (t := t) (g := g) (W := fun _ => True) (ρ := ρ) 0 e0 2 (by decide) (by decide) M b w.tape (by omega) trivial
  obtain ⟨L, hL, hM⟩ := w.at_
  have w1 : Drw t g (b + 1) l M0 M1 := ⟨T1, w.kp.trans k1, L, hL, k1.at_ l _ n1 n2 hM⟩
  have e1' : rCallN 2 F__law_draw (rCons (rVar 0) (rCons (rC (.p (.int 2))) rNil)) ρ M = .ok (.p (.int v)) M1 := e1
  by_cases h0 : v = 0
  · subst h0
    obtain ⟨M', q1, q2⟩ := h M1 w1
    refine ⟨M', ?_, q2⟩
    rw [← q1]
    simp only [e_ifS, e_tst, e_bin, e1', Fl.R.bind_ok, e_C]
    simp
  · have h0' : ¬ (v : Int) = 0 := by omega
    refine ⟨M1, ?_, ⟨w1.tape.mono (by omega), w1.kp, w1.at_⟩⟩
    simp only [e_ifS, e_tst, e_bin, e1', Fl.R.bind_ok, e_C]
    simp [h0]
theorem x_loose_door {t g p : Nat} : DF t g 60 (Pools t g p) F__law_loose_door [.ref t, .ref p] ItemP := fun M b T hb hW => by
  have sb : Stb t g (Pools t g p) := Pools.stb
  have tt : Stb t g (fun _ => True) := Stb.tt
  have hlt := T.lt
  obtain ⟨xs, M1, e1, ⟨a, n, i, o, ha, hn, hi, ho, rfl⟩, T1, k1⟩ := (da4 (Q1 := fun a => a = .str "door") sb (de_const rfl) (de_name 0 1 rfl rfl) (de_net 0 1 rfl rfl) (de_net 0 1 rfl rfl) : DA t g _ (Pools t g p) [some (.ref t), some (.ref p), none, none] (rCons (rC (.p (.str "door"))) (rCons (rCallN 2 F__law_pick (rCons (rVar 0) (rCons (rBin dIx (rVar 1) (rC (.p (.int 1)))) rNil))) (rCons (rCallN 2 F__law_pick (rCons (rVar 0) (rCons (rBin dIx (rVar 1) (rC (.p (.int 0)))) rNil))) (rCons (rCallN 2 F__law_pick (rCons (rVar 0) (rCons (rBin dIx (rVar 1) (rC (.p (.int 0)))) rNil))) rNil)))) _) M b T (by omega) hW
  have s6 : s__law_loose_door_6 (startD 4 [.ref t, .ref p]) M = .nx [some (.ref t), some (.ref p), some (.ref M1.length), none] (M1 ++ [.lst ([a, n, i, o, .int 1, .int 1, .int 1, .int 9999].map D.p)]) := by
    simp only [e_cons, e_nil] at e1
    simp only [s__law_loose_door_6, e_set, e_lst, e_cons, e_nil, show startD 4 [D.ref t, D.ref p] = [some (.ref t), some (.ref p), none, none] from rfl]
    generalize hA : rC (.p (.str "door")) [some (.ref t), some (.ref p), none, none] M = A at e1 ⊢
    cases A with
    | ok d1 N1 =>
      simp only [Fl.R.bind_ok] at e1 ⊢
      generalize hB : rCallN 2 F__law_pick (rCons (rVar 0) (rCons (rBin dIx (rVar 1) (rC (.p (.int 1)))) rNil)) [some (.ref t), some (.ref p), none, none] N1 = B at e1 ⊢
      cases B with
      | ok d2 N2 =>
        simp only [Fl.R.bind_ok] at e1 ⊢
        generalize hC : rCallN 2 F__law_pick (rCons (rVar 0) (rCons (rBin dIx (rVar 1) (rC (.p (.int 0)))) rNil)) [some (.ref t), some (.ref p), none, none] N2 = C at e1 ⊢
        cases C with
        | ok d3 N3 =>
          simp only [Fl.R.bind_ok] at e1 ⊢
          generalize hD : rCallN 2 F__law_pick (rCons (rVar 0) (rCons (rBin dIx (rVar 1) (rC (.p (.int 0)))) rNil)) [some (.ref t), some (.ref p), none, none] N3 = E at e1 ⊢
          cases E with
          | ok d4 N4 =>
            simp at e1
            obtain ⟨⟨rfl, rfl, rfl, rfl⟩, rfl⟩ := e1
            simp
          | ex c f N => simp at e1
          | no => simp at e1
        | ex c f N => simp at e1
        | no => simp at e1
      | ex c f N => simp at e1
      | no => simp at e1
    | ex c f N => simp at e1
    | no => simp at e1
  have hl1 := T1.lt
  have w0 : Drw t g (b + (0 + (1 + (1 + (1 + 0))))) M1.length M (M1 ++ [.lst ([a, n, i, o, .int 1, .int 1, .int 1, .int 9999].map D.p)]) := ⟨T1.app _, k1.trans (Kp.app _ _ _ _), _, ⟨a, n, i, o, _, _, _, _, ha, hn, hi, ho, ⟨1, rfl, by decide⟩, ⟨1, rfl, by decide⟩, ⟨1, rfl, by decide⟩, ⟨9999, rfl, by decide⟩, rfl⟩, get_new _ _⟩
  have nu1 : ∀ {ρ : Env} (c : Nat), ρ[0]? = some (some (.ref t)) → c ≤ 9999 → DE t g 1 (fun _ => True) ρ (rBin dAdd (rC (.p (.int (1 : Nat)))) (rCallN 2 F__law_draw (rCons (rVar 0) (rCons (rC (.p (.int (9999 : Nat)))) rNil)))) (Nu 99999) := fun c e _ => de_mono (de_addi 1 (de_draw 0 e 9999 (by decide) (by decide))) fun x ⟨v, e, h1, h2⟩ => ⟨v, e, by omega⟩
  let ρ : Env := [some (.ref t), some (.ref p), some (.ref M1.length), none]
  obtain ⟨M2, s7, w1⟩ := cond_one (t := t) (g := g) (m := 1) (ρ := ρ) s__law_loose_door_1 rfl (by omega) (by omega) w0 (by omega) (fun N hN => set_one (m := 1) (ρ := ρ) (de_mono (Q := Nu 99999) (de_ixl (R := Nu 99999) (L := 6) tt (dl_cons tt (de_nu (v := 1) (by decide)) (dl_cons tt (de_nu (v := 2) (by decide)) (dl_cons tt (de_nu (v := 3) (by decide)) (dl_cons tt (de_nu (v := 0) (by decide)) (dl_cons tt (de_nu (v := 4) (by decide)) (dl_cons tt (de_nu (v := 99999) (by decide)) dl_nil)))))) (de_draw 0 rfl 6 (by decide) (by decide)) (by decide)) fun x h => h) 4 (.inl rfl) rfl (by omega) (by omega) k1.len hN (by omega))
  obtain ⟨M3, s8, w2⟩ := cond_one (t := t) (g := g) (m := 1) (ρ := ρ) s__law_loose_door_2 rfl (by omega) (by omega) w1 (by omega) (fun N hN => set_one (m := 1) (ρ := ρ) (de_mono (Q := Nu 99999) (de_ixl (R := Nu 99999) (L := 6) tt (dl_cons tt (de_nu (v := 1) (by decide)) (dl_cons tt (de_nu (v := 2) (by decide)) (dl_cons tt (de_nu (v := 3) (by decide)) (dl_cons tt (de_nu (v := 0) (by decide)) (dl_cons tt (de_nu (v := 4) (by decide)) (dl_cons tt (de_nu (v := 10) (by decide)) dl_nil)))))) (de_draw 0 rfl 6 (by decide) (by decide)) (by decide)) fun x h => h) 5 (.inr (.inl rfl)) rfl (by omega) (by omega) k1.len hN (by omega))
  obtain ⟨M4, s9, w3⟩ := cond_one (t := t) (g := g) (m := 2 + 2) (ρ := ρ) b__law_loose_door_5 rfl (by omega) (by omega) w2 (by omega) (fun N hN => by
    obtain ⟨N1, a1, a2⟩ := set_one (m := 2) (ρ := ρ) (de_mono (Q := Nu 99999) (de_ixl (R := Nu 99999) (L := 6) tt (dl_cons tt (de_nu (v := 0) (by decide)) (dl_cons tt (de_nu (v := 1) (by decide)) (dl_cons tt (de_nu (v := 2) (by decide)) (dl_cons tt (de_nu (v := 5) (by decide)) (dl_cons tt (de_nu (v := 9999) (by decide)) (dl_cons tt (nu1 9999 rfl (by decide)) dl_nil)))))) (de_draw 0 rfl 6 (by decide) (by decide)) (by decide)) fun x h => h) 6 (.inr (.inr (.inl rfl))) rfl (by omega) (by omega) k1.len hN (by omega)
    obtain ⟨N2, b1, b2⟩ := set_one (m := 2) (ρ := ρ) (de_mono (Q := Nu 99999) (de_ixl (R := Nu 99999) (L := 6) tt (dl_cons tt (de_nu (v := 1) (by decide)) (dl_cons tt (de_nu (v := 5) (by decide)) (dl_cons tt (de_nu (v := 9999) (by decide)) (dl_cons tt (de_nu (v := 10000) (by decide)) (dl_cons tt (de_nu (v := 20000) (by decide)) (dl_cons tt (nu1 9999 rfl (by decide)) dl_nil)))))) (de_draw 0 rfl 6 (by decide) (by decide)) (by decide)) fun x h => h) 7 (.inr (.inr (.inr rfl))) rfl (by omega) (by omega) k1.len a2 (by omega)
    refine ⟨N2, ?_, by rw [← Nat.add_assoc]; exact b2⟩
    unfold b__law_loose_door_5
    rw [e_seq, show s__law_loose_door_3 ρ N = _ from a1, Out.bind_nx]
    exact b1)
  have d10 : DE t g _ (fun _ => True) ρ (rBin dIx (rLst (rCons (rC (.p (.int 0))) (rCons (rC (.p (.int 0))) (rCons (rC (.p (.int 1))) (rCons (rC (.p (.int 99))) (rCons (rC (.p (.int 100))) (rCons (rCallN 2 F__law_draw (rCons (rVar 0) (rCons (rC (.p (.int 100000))) rNil))) rNil))))))) (rCallN 2 F__law_draw (rCons (rVar 0) (rCons (rC (.p (.int 6))) rNil)))) (Nu 99999) :=
    de_ixl (L := 6) tt (dl_cons tt (de_nu (v := 0) (by decide)) (dl_cons tt (de_nu (v := 0) (by decide)) (dl_cons tt (de_nu (v := 1) (by decide)) (dl_cons tt (de_nu (v := 99) (by decide)) (dl_cons tt (de_nu (v := 100) (by decide)) (dl_cons tt (de_mono (de_draw 0 rfl 100000 (by decide) (by decide)) fun x ⟨v, e, h⟩ => ⟨v, e, by omega⟩) dl_nil)))))) (de_draw 0 rfl 6 (by decide) (by decide)) (by decide)
  obtain ⟨sp, M5, e5, hsp, T5, k5⟩ := d10 M4 _ w3.tape (by omega) trivial
  have s10 : s__law_loose_door_10 ρ M4 = .nx [some (.ref t), some (.ref p), some (.ref M1.length), some (.p sp)] M5 := by
    simp only [s__law_loose_door_10, e_set]
    rw [e5]
    rfl
  obtain ⟨L, hL, hM⟩ := w3.at_
  have hM5 := k5.at_ _ _ (by omega) (by omega) hM
  obtain ⟨ys, M6, e6, ⟨bk, s, bx, by', hk, hs, hx, hy, rfl⟩, T6, k6⟩ := (da4 (Q2 := fun s => s = sp) tt (de_bit 0 rfl) (de_var 3 rfl rfl) (de_bit 0 rfl) (de_bit 0 rfl) : DA t g _ (fun _ => True) [some (.ref t), some (.ref p), some (.ref M1.length), some (.p sp)] (rCons (rCallN 2 F__law_draw (rCons (rVar 0) (rCons (rC (.p (.int 2))) rNil))) (rCons (rVar 3) (rCons (rCallN 2 F__law_draw (rCons (rVar 0) (rCons (rC (.p (.int 2))) rNil))) (rCons (rCallN 2 F__law_draw (rCons (rVar 0) (rCons (rC (.p (.int 2))) rNil))) rNil)))) _) M5 _ T5 (by omega) trivial
  subst hs
  have hM6 := k6.at_ _ _ (by omega) (by omega) hM5
  have ct := v_cat M1.length M6.length (L.map D.p) ([bk, s, bx, by'].map D.p) (M6 ++ [O.lst ([bk, s, bx, by'].map D.p)]) (get_app hM6 _) (get_new _ _) (by
    obtain ⟨a, n, i, o, b, c, d, e, _, _, _, _, _, _, _, _, rfl⟩ := hL
    exact le_line (by simp))
  rw [← List.map_append] at ct
  have tp := v_tuple (M6 ++ [O.lst ([bk, s, bx, by'].map D.p)]).length (L ++ [bk, s, bx, by']) (M6 ++ [O.lst ([bk, s, bx, by'].map D.p)] ++ [O.lst ((L ++ [bk, s, bx, by']).map D.p)]) (get_new _ _)
  have kk := (w3.kp.trans k5).trans k6
  refine ⟨.tup (L ++ [bk, s, bx, by']), M6 ++ [O.lst ([bk, s, bx, by'].map D.p)] ++ [O.lst ((L ++ [bk, s, bx, by']).map D.p)], selfF_ok ?_ ((kk.trans (Kp.app t g _ _)).trans (Kp.app t g _ _)).len, ?_, ((T6.app _).app _).mono (by omega), (kk.trans (Kp.app t g _ _)).trans (Kp.app t g _ _)⟩
  · unfold m__law_loose_door
    rw [e_seq, s6, Out.bind_nx, e_seq, show s__law_loose_door_7 [some (.ref t), some (.ref p), some (.ref M1.length), none] _ = _ from s7, Out.bind_nx, e_seq, show s__law_loose_door_8 ρ M2 = _ from s8, Out.bind_nx, e_seq, show s__law_loose_door_9 ρ M3 = _ from s9, Out.bind_nx, e_seq, s10, Out.bind_nx]
    unfold s__law_loose_door_11
    generalize (rCons (rCallN 2 F__law_draw (rCons (rVar 0) (rCons (rC (.p (.int 2))) rNil))) (rCons (rVar 3) (rCons (rCallN 2 F__law_draw (rCons (rVar 0) (rCons (rC (.p (.int 2))) rNil))) (rCons (rCallN 2 F__law_draw (rCons (rVar 0) (rCons (rC (.p (.int 2))) rNil))) rNil)))) = fs4 at e6 ⊢
    simp only [e_ret, e_CB, e_cons, e_bin, e_var, e_lst, e_nil, List.getElem?_cons_succ, List.getElem?_cons_zero, Fl.R.bind_ok, e6]
    rw [if_pos (by simp), Fl.R.bind_ok, ct]
    simp only [ofO_some, Fl.R.bind_ok]
    rw [tp]
    rfl
  · obtain ⟨a, n, i, o, b, c, d, e, ha, hn, hi, ho, hb, hc, hd, he, rfl⟩ := hL
    exact door_of ha hn hi ho hb hc hd he hk hsp hx hy

-- slots: 0:tape 1:pools 2:kind 3:port 4:goal
noncomputable def s__law_loose_item_1  : RS :=
  (rRet (rTup (rCons (rC (.p (.str "net"))) (rCons (rCallN 2 F__law_pick (rCons (rVar 0) (rCons (rBin dIx (rVar 1) (rC (.p (.int 0)))) rNil))) rNil))))
noncomputable def s__law_loose_item_2  : RS :=
  (rRet (rTup (rCons (rC (.p (.str "host"))) (rCons (rCallN 2 F__law_pick (rCons (rVar 0) (rCons (rBin dIx (rVar 1) (rC (.p (.int 1)))) rNil))) (rCons (rCallN 2 F__law_pick (rCons (rVar 0) (rCons (rBin dIx (rVar 1) (rC (.p (.int 0)))) rNil))) rNil)))))
noncomputable def s__law_loose_item_3  : RS :=
  (rRet (rCallN 2 F__law_loose_door (rCons (rVar 0) (rCons (rVar 1) rNil))))
noncomputable def s__law_loose_item_4  : RS :=
  (rSet 3 (rBin dIx (rLst (rCons (rBin dAdd (rC (.p (.int 1))) (rCallN 2 F__law_draw (rCons (rVar 0) (rCons (rC (.p (.int 9))) rNil)))) (rCons (rBin dAdd (rC (.p (.int 1))) (rCallN 2 F__law_draw (rCons (rVar 0) (rCons (rC (.p (.int 9999))) rNil)))) (rCons (rC (.p (.int 99999))) rNil)))) (rCallN 2 F__law_draw (rCons (rVar 0) (rCons (rC (.p (.int 3))) rNil)))))
noncomputable def s__law_loose_item_5  : RS :=
  (rSet 4 (rBin dIx (rLst (rCons (rC (.p (.int 0))) (rCons (rC (.p (.int 1))) (rCons (rC (.p (.int 9999))) (rCons (rC (.p (.int 10000))) (rCons (rC (.p (.int 99999))) (rCons (rBin dAdd (rC (.p (.int 1))) (rCallN 2 F__law_draw (rCons (rVar 0) (rCons (rC (.p (.int 9999))) rNil)))) rNil))))))) (rCallN 2 F__law_draw (rCons (rVar 0) (rCons (rC (.p (.int 6))) rNil)))))
noncomputable def s__law_loose_item_6  : RS :=
  (rRet (rTup (rCons (rC (.p (.str "open"))) (rCons (rCallN 2 F__law_pick (rCons (rVar 0) (rCons (rBin dIx (rVar 1) (rC (.p (.int 1)))) rNil))) (rCons (rVar 3) (rCons (rCallN 2 F__law_pick (rCons (rVar 0) (rCons (rBin dIx (rVar 1) (rC (.p (.int 1)))) rNil))) (rCons (rVar 4) rNil)))))))
noncomputable def b__law_loose_item_7  : RS :=
  (rSeq s__law_loose_item_4
  (rSeq s__law_loose_item_5
  s__law_loose_item_6))
noncomputable def s__law_loose_item_8  : RS :=
  (rSet 2 (rCallN 2 F__law_draw (rCons (rVar 0) (rCons (rC (.p (.int 8))) rNil))))
noncomputable def s__law_loose_item_9  : RS :=
  (rIfS (rTst asBool (rBin dLt (rVar 2) (rC (.p (.int 2)))))
  s__law_loose_item_1
  rSkip)
noncomputable def s__law_loose_item_10  : RS :=
  (rIfS (rTst asBool (rBin dLt (rVar 2) (rC (.p (.int 4)))))
  s__law_loose_item_2
  rSkip)
noncomputable def s__law_loose_item_11  : RS :=
  (rIfS (rTst asBool (rBin dLt (rVar 2) (rC (.p (.int 6)))))
  s__law_loose_item_3
  rSkip)
noncomputable def s__law_loose_item_12  : RS :=
  (rIfS (rTst asBool (rBin dEq (rVar 2) (rC (.p (.int 6)))))
  b__law_loose_item_7
  rSkip)
noncomputable def s__law_loose_item_13  : RS :=
  (rRet (rTup (rCons (rC (.p (.str "wall"))) (rCons (rCallN 2 F__law_pick (rCons (rVar 0) (rCons (rBin dIx (rVar 1) (rC (.p (.int 2)))) rNil))) (rCons (rCallN 2 F__law_loose_rules (rCons (rVar 0) (rCons (rCallN 2 F__law_draw (rCons (rVar 0) (rCons (rC (.p (.int 4))) rNil))) rNil))) rNil)))))
noncomputable def m__law_loose_item  : RS :=
  (rSeq s__law_loose_item_8
  (rSeq s__law_loose_item_9
  (rSeq s__law_loose_item_10
  (rSeq s__law_loose_item_11
  (rSeq s__law_loose_item_12
  s__law_loose_item_13)))))

noncomputable def F__law_loose_item : List D → Store → R D := selfF 5 m__law_loose_item
theorem r__law_loose_item : Ref 2 5 F__law_loose_item m__law_loose_item := ref_self 2 5 m__law_loose_item
theorem x_loose_item {t g p : Nat} : DF t g 200 (Pools t g p) F__law_loose_item [.ref t, .ref p] ItemP := fun M b T hb hW => by
  have sb : Stb t g (Pools t g p) := Pools.stb
  obtain ⟨x0, M1, e0, ⟨k, rfl, hk⟩, T1, k1⟩ := de_draw (t := t) (g := g) (W := Pools t g p) (ρ := [some (.ref t), some (.ref p), none, none, none]) 0 rfl 8 (by decide) (by decide) M b T (by omega) hW
  have W1 := sb _ _ k1 hW
  have s8 : s__law_loose_item_8 (startD 5 [.ref t, .ref p]) M = .nx [some (.ref t), some (.ref p), some (.p (.int k)), none, none] M1 := by
    simp only [s__law_loose_item_8, e_set]
    rw [show startD 5 [D.ref t, D.ref p] = [some (.ref t), some (.ref p), none, none, none] from rfl, show rCallN 2 F__law_draw (rCons (rVar 0) (rCons (rC (.p (.int 8))) rNil)) [some (.ref t), some (.ref p), none, none, none] M = _ from e0]
    rfl
  by_cases h0 : k < 2
  · have h0' : (k : Int) < 2 := by omega
    have d : DE t g _ (Pools t g p) [some (.ref t), some (.ref p), some (.p (.int k)), none, none] (rTup (rCons (rC (.p (.str "net"))) (rCons (rCallN 2 F__law_pick (rCons (rVar 0) (rCons (rBin dIx (rVar 1) (rC (.p (.int 0)))) rNil))) rNil))) ItemP :=
      de_tup (da2 (Q1 := fun a => a = .str "net") sb (de_const rfl) (de_net 0 1 rfl rfl)) (fun xs ⟨a, c, h1, ⟨s, e1, hs⟩, e⟩ => ⟨by rw [e]; simp, .net s, .net hs, trivial, by rw [e, h1, e1]; rfl⟩)
    obtain ⟨x, M2, e1, hx, T2, k2⟩ := d M1 _ T1 (by omega) W1
    refine ⟨x, M2, selfF_ok ?_ (k1.trans k2).len, hx, T2.mono (by omega), k1.trans k2⟩
    unfold m__law_loose_item
    rw [e_seq, s8, Out.bind_nx, e_seq]
    have s9 : s__law_loose_item_9 [some (.ref t), some (.ref p), some (.p (.int k)), none, none] M1 = .rt (.p x) M2 := by
      simp only [s__law_loose_item_9, e_ifS]
      simp [h0', s__law_loose_item_1, e1, -e_tup, -e_cons]
    rw [s9]
    rfl
  · have h0' : ¬ (k : Int) < 2 := by omega
    have s9 : s__law_loose_item_9 [some (.ref t), some (.ref p), some (.p (.int k)), none, none] M1 = .nx [some (.ref t), some (.ref p), some (.p (.int k)), none, none] M1 := by
      simp [s__law_loose_item_9, h0']
    by_cases h1 : k < 4
    · have h1' : (k : Int) < 4 := by omega
      have d : DE t g _ (Pools t g p) [some (.ref t), some (.ref p), some (.p (.int k)), none, none] (rTup (rCons (rC (.p (.str "host"))) (rCons (rCallN 2 F__law_pick (rCons (rVar 0) (rCons (rBin dIx (rVar 1) (rC (.p (.int 1)))) rNil))) (rCons (rCallN 2 F__law_pick (rCons (rVar 0) (rCons (rBin dIx (rVar 1) (rC (.p (.int 0)))) rNil))) rNil)))) ItemP :=
        de_tup (da_cons (Q2 := fun xs => ∃ a c : P, NmP a ∧ NmP c ∧ xs = [.str "host", a, c]) sb (de_const (Q := fun a => a = .str "host") rfl) (da2 sb (de_name 0 1 rfl rfl) (de_net 0 1 rfl rfl)) (fun x xs e1 ⟨a, c, h1, h2, e2⟩ => ⟨a, c, h1, h2, by rw [e1, e2]⟩)) (fun xs ⟨a, c, ⟨s, e1, hs⟩, ⟨s2, e2, hs2⟩, e⟩ => ⟨by rw [e]; simp, .host s s2, .host hs hs2, trivial, by rw [e, e1, e2]; rfl⟩)
      obtain ⟨x, M2, e1, hx, T2, k2⟩ := d M1 _ T1 (by omega) W1
      refine ⟨x, M2, selfF_ok ?_ (k1.trans k2).len, hx, T2.mono (by omega), k1.trans k2⟩
      unfold m__law_loose_item
      rw [e_seq, s8, Out.bind_nx, e_seq, s9, Out.bind_nx, e_seq]
      have s10 : s__law_loose_item_10 [some (.ref t), some (.ref p), some (.p (.int k)), none, none] M1 = .rt (.p x) M2 := by
        simp only [s__law_loose_item_10, e_ifS]
        simp [h1', s__law_loose_item_2, e1, -e_tup, -e_cons]
      rw [s10]
      rfl
    · have h1' : ¬ (k : Int) < 4 := by omega
      have s10 : s__law_loose_item_10 [some (.ref t), some (.ref p), some (.p (.int k)), none, none] M1 = .nx [some (.ref t), some (.ref p), some (.p (.int k)), none, none] M1 := by
        simp [s__law_loose_item_10, h1']
      by_cases h2 : k < 6
      · have h2' : (k : Int) < 6 := by omega
        obtain ⟨x, M2, e1, hx, T2, k2⟩ := x_loose_door (t := t) (g := g) (p := p) M1 _ T1 (by omega) W1
        refine ⟨x, M2, selfF_ok ?_ (k1.trans k2).len, hx, T2.mono (by omega), k1.trans k2⟩
        unfold m__law_loose_item
        rw [e_seq, s8, Out.bind_nx, e_seq, s9, Out.bind_nx, e_seq, s10, Out.bind_nx, e_seq]
        have s11 : s__law_loose_item_11 [some (.ref t), some (.ref p), some (.p (.int k)), none, none] M1 = .rt (.p x) M2 := by
          simp [s__law_loose_item_11, h2', s__law_loose_item_3, e1]
        rw [s11]
        rfl
      · have h2' : ¬ (k : Int) < 6 := by omega
        have s11 : s__law_loose_item_11 [some (.ref t), some (.ref p), some (.p (.int k)), none, none] M1 = .nx [some (.ref t), some (.ref p), some (.p (.int k)), none, none] M1 := by
          simp [s__law_loose_item_11, h2']
        by_cases h3 : k = 6
        · subst h3
          have nu1 : ∀ {ρ : Env} (c : Nat), ρ[0]? = some (some (.ref t)) → 0 < c → c ≤ 9999 → DE t g 1 (Pools t g p) ρ (rBin dAdd (rC (.p (.int (1 : Nat)))) (rCallN 2 F__law_draw (rCons (rVar 0) (rCons (rC (.p (.int (c : Nat)))) rNil)))) (Nu 99999) := fun c e h0 _ => de_mono (de_addi 1 (de_draw 0 e c h0 (by omega))) fun x ⟨v, e, h1, h2⟩ => ⟨v, e, by omega⟩
          have d4 : DE t g _ (Pools t g p) [some (.ref t), some (.ref p), some (.p (.int 6)), none, none] (rBin dIx (rLst (rCons (rBin dAdd (rC (.p (.int 1))) (rCallN 2 F__law_draw (rCons (rVar 0) (rCons (rC (.p (.int 9))) rNil)))) (rCons (rBin dAdd (rC (.p (.int 1))) (rCallN 2 F__law_draw (rCons (rVar 0) (rCons (rC (.p (.int 9999))) rNil)))) (rCons (rC (.p (.int 99999))) rNil)))) (rCallN 2 F__law_draw (rCons (rVar 0) (rCons (rC (.p (.int 3))) rNil)))) (Nu 99999) :=
            de_ixl (L := 3) sb (dl_cons sb (nu1 9 rfl (by decide) (by decide)) (dl_cons sb (nu1 9999 rfl (by decide) (by decide)) (dl_cons sb (de_nu (v := 99999) (by decide)) dl_nil))) (de_draw 0 rfl 3 (by decide) (by decide)) (by decide)
          obtain ⟨x4, M2, e4, ⟨pt, rfl, hpt⟩, T2, k2⟩ := d4 M1 _ T1 (by omega) W1
          have W2 := sb _ _ k2 W1
          have d5 : DE t g _ (Pools t g p) [some (.ref t), some (.ref p), some (.p (.int 6)), some (.p (.int pt)), none] (rBin dIx (rLst (rCons (rC (.p (.int 0))) (rCons (rC (.p (.int 1))) (rCons (rC (.p (.int 9999))) (rCons (rC (.p (.int 10000))) (rCons (rC (.p (.int 99999))) (rCons (rBin dAdd (rC (.p (.int 1))) (rCallN 2 F__law_draw (rCons (rVar 0) (rCons (rC (.p (.int 9999))) rNil)))) rNil))))))) (rCallN 2 F__law_draw (rCons (rVar 0) (rCons (rC (.p (.int 6))) rNil)))) (Nu 99999) :=
            de_ixl (L := 6) sb (dl_cons sb (de_nu (v := 0) (by decide)) (dl_cons sb (de_nu (v := 1) (by decide)) (dl_cons sb (de_nu (v := 9999) (by decide)) (dl_cons sb (de_nu (v := 10000) (by decide)) (dl_cons sb (de_nu (v := 99999) (by decide)) (dl_cons sb (nu1 9999 rfl (by decide) (by decide)) dl_nil)))))) (de_draw 0 rfl 6 (by decide) (by decide)) (by decide)
          obtain ⟨x5, M3, e5, ⟨gl, rfl, hgl⟩, T3, k3⟩ := d5 M2 _ T2 (by omega) W2
          have W3 := sb _ _ k3 W2
          have d6 : DE t g _ (Pools t g p) [some (.ref t), some (.ref p), some (.p (.int 6)), some (.p (.int pt)), some (.p (.int gl))] (rTup (rCons (rC (.p (.str "open"))) (rCons (rCallN 2 F__law_pick (rCons (rVar 0) (rCons (rBin dIx (rVar 1) (rC (.p (.int 1)))) rNil))) (rCons (rVar 3) (rCons (rCallN 2 F__law_pick (rCons (rVar 0) (rCons (rBin dIx (rVar 1) (rC (.p (.int 1)))) rNil))) (rCons (rVar 4) rNil)))))) ItemP :=
            de_tup (da_cons (Q2 := fun xs => ∃ a c : P, NmP a ∧ NmP c ∧ xs = [.str "open", a, .int pt, c, .int gl]) sb (de_const (Q := fun a => a = .str "open") rfl) (da4 (Q2 := fun x => x = .int pt) (Q4 := fun x => x = .int gl) sb (de_name 0 1 rfl rfl) (de_var 3 rfl rfl) (de_name 0 1 rfl rfl) (de_var 4 rfl rfl)) (fun x xs e1 ⟨a, c1, c, c2, h1, h2, h3, h4, e2⟩ => ⟨a, c, h1, h3, by rw [e1, e2, h2, h4]⟩)) (fun xs ⟨a, c, ⟨s, e1, hs⟩, ⟨s2, e2, hs2⟩, e⟩ => ⟨by rw [e]; simp, .opn s pt s2 gl, .opn hs hs2 hpt hgl, trivial, by rw [e, e1, e2]; rfl⟩)
          obtain ⟨x, M4, e6, hx, T4, k4⟩ := d6 M3 _ T3 (by omega) W3
          have kk := ((k1.trans k2).trans k3).trans k4
          refine ⟨x, M4, selfF_ok ?_ kk.len, hx, T4.mono (by omega), kk⟩
          unfold m__law_loose_item
          rw [e_seq, s8, Out.bind_nx, e_seq, s9, Out.bind_nx, e_seq, s10, Out.bind_nx, e_seq, s11, Out.bind_nx, e_seq]
          have b7 : b__law_loose_item_7 [some (.ref t), some (.ref p), some (.p (.int (6 : Nat))), none, none] M1 = .rt (.p x) M4 := by
            have q4 : s__law_loose_item_4 [some (.ref t), some (.ref p), some (.p (.int (6 : Nat))), none, none] M1 = .nx [some (.ref t), some (.ref p), some (.p (.int 6)), some (.p (.int pt)), none] M2 := by
              simp only [s__law_loose_item_4, e_set]
              rw [show ((6 : Nat) : Int) = 6 from rfl, e4]
              rfl
            have q5 : s__law_loose_item_5 [some (.ref t), some (.ref p), some (.p (.int 6)), some (.p (.int pt)), none] M2 = .nx [some (.ref t), some (.ref p), some (.p (.int 6)), some (.p (.int pt)), some (.p (.int gl))] M3 := by
              simp only [s__law_loose_item_5, e_set]
              rw [e5]
              rfl
            unfold b__law_loose_item_7
            rw [e_seq, q4, Out.bind_nx, e_seq, q5, Out.bind_nx]
            simp only [s__law_loose_item_6, e_ret]
            rw [e6]
            rfl
          have s12 : s__law_loose_item_12 [some (.ref t), some (.ref p), some (.p (.int (6 : Nat))), none, none] M1 = .rt (.p x) M4 := by
            rw [← b7]
            simp [s__law_loose_item_12]
          rw [s12]
          rfl
        · have h3' : ¬ (k : Int) = 6 := by omega
          have s12 : s__law_loose_item_12 [some (.ref t), some (.ref p), some (.p (.int k)), none, none] M1 = .nx [some (.ref t), some (.ref p), some (.p (.int k)), none, none] M1 := by
            simp [s__law_loose_item_12, h3']
          have dr : DE t g (1 + 31 * 3) (Pools t g p) [some (.ref t), some (.ref p), some (.p (.int k)), none, none] (rCallN 2 F__law_loose_rules (rCons (rVar 0) (rCons (rCallN 2 F__law_draw (rCons (rVar 0) (rCons (rC (.p (.int 4))) rNil))) rNil))) (fun x => ∃ rs : List Rule, (∀ r ∈ rs, r.Ok) ∧ rs.length ≤ 20 ∧ x = .tup (rs.map Rule.toP)) := fun M b T hb hW => by
            obtain ⟨x1, N1, e1, ⟨v, rfl, hv⟩, T1, k1⟩ := de_draw (t := t) (g := g) (W := Pools t g p) (ρ := [some (.ref t), some (.ref p), some (.p (.int k)), none, none]) 0 rfl 4 (by decide) (by decide) M b T (by omega) hW
            obtain ⟨x2, N2, e2, q, T2, k2⟩ := x_loose_rules sb v (by omega) N1 _ T1 (by omega) (sb _ _ k1 hW)
            refine ⟨x2, N2, ?_, q, T2.mono (by omega), k1.trans k2⟩
            have e1' : rCallN 2 F__law_draw (rCons (rVar 0) (rCons (rC (.p (.int 4))) rNil)) [some (.ref t), some (.ref p), some (.p (.int k)), none, none] M = .ok (.p (.int v)) N1 := e1
            rw [e_callN, e_cons, e_var]
            simp only [List.getElem?_cons_zero, Fl.R.bind_ok, e_cons (rCallN 2 F__law_draw (rCons (rVar 0) (rCons (rC (.p (.int 4))) rNil))), e1', e_nil]
            simp [e2]
          have d : DE t g _ (Pools t g p) [some (.ref t), some (.ref p), some (.p (.int k)), none, none] (rTup (rCons (rC (.p (.str "wall"))) (rCons (rCallN 2 F__law_pick (rCons (rVar 0) (rCons (rBin dIx (rVar 1) (rC (.p (.int 2)))) rNil))) (rCons (rCallN 2 F__law_loose_rules (rCons (rVar 0) (rCons (rCallN 2 F__law_draw (rCons (rVar 0) (rCons (rC (.p (.int 4))) rNil))) rNil))) rNil)))) ItemP :=
            de_tup (da_cons (Q2 := fun xs => ∃ (s : Str) (rs : List Rule), RowS greatL signG s ∧ (∀ r ∈ rs, r.Ok) ∧ rs.length ≤ 20 ∧ xs = [.str "wall", .str s, .tup (rs.map Rule.toP)]) sb (de_const (Q := fun a => a = .str "wall") rfl) (da2 sb (de_great 0 1 rfl rfl) dr) (fun x xs e1 ⟨a, c, ⟨s, h1, h2⟩, ⟨rs, h3, h4, h5⟩, e2⟩ => ⟨s, rs, h2, h3, h4, by rw [e1, e2, h1, h5]⟩)) (fun xs ⟨s, rs, h1, h2, h3, e⟩ => ⟨by rw [e]; simp, .wall s rs, .wall h1 h2, h3, by rw [e]; rfl⟩)
          obtain ⟨x, M2, e1, hx, T2, k2⟩ := d M1 _ T1 (by omega) W1
          refine ⟨x, M2, selfF_ok ?_ (k1.trans k2).len, hx, T2.mono (by omega), k1.trans k2⟩
          unfold m__law_loose_item
          rw [e_seq, s8, Out.bind_nx, e_seq, s9, Out.bind_nx, e_seq, s10, Out.bind_nx, e_seq, s11, Out.bind_nx, e_seq, s12, Out.bind_nx]
          simp only [s__law_loose_item_13, e_ret]
          rw [e1]
          rfl

-- slots: 0:tape 1:nets 2:names 3:k 4:walls 5:name 6:j
noncomputable def s__law_pools_1  : RS :=
  (rExpr (rCallN 2 F__law_name (rCons (rVar 0) (rCons (rVar 1) rNil))))
noncomputable def s__law_pools_2  : RS :=
  (rExpr (rCallN 2 F__law_name (rCons (rVar 0) (rCons (rVar 2) rNil))))
noncomputable def b__law_pools_3  : RS :=
  (rSeq s__law_pools_1
  s__law_pools_2)
noncomputable def s__law_pools_4  : RS :=
  (rAsg (rBin dIx (rVar 2) (rC (.p (.int 0)))) (gSu (rVar 1) (rC (.p (.int 0))) setD))
noncomputable def s__law_pools_5  : RS :=
  (rSet 5 (rBin dAdd (rVar 5) (rBin dIx (rC (.p (.str "aZ_0ybxQ9"))) (rCallN 2 F__law_draw (rCons (rVar 0) (rCons (rC (.p (.int 9))) rNil))))))
noncomputable def s__law_pools_6  : RS :=
  (rSet 5 (rBin dIx (rC (.p (.str "ABCDEFGHIJKLMNOPQRSTUVWXYZ"))) (rCallN 2 F__law_draw (rCons (rVar 0) (rCons (rC (.p (.int 26))) rNil)))))
noncomputable def s__law_pools_7  : RS :=
  (rForR rng1 (rCons (rCallN 2 F__law_draw (rCons (rVar 0) (rCons (rBin dIx (rLst (rCons (rC (.p (.int 1))) (rCons (rC (.p (.int 3))) (rCons (rC (.p (.int 9))) rNil)))) (rCallN 2 F__law_draw (rCons (rVar 0) (rCons (rC (.p (.int 3))) rNil)))) rNil))) rNil) (gNm 6)
  s__law_pools_5)
noncomputable def s__law_pools_8  : RS :=
  (rExpr (rLM mAppend (rVar 4) (rCons (rVar 5) rNil)))
noncomputable def b__law_pools_9  : RS :=
  (rSeq s__law_pools_6
  (rSeq s__law_pools_7
  s__law_pools_8))
noncomputable def s__law_pools_10  : RS :=
  (rSet 1 (rLst rNil))
noncomputable def s__law_pools_11  : RS :=
  (rSet 2 (rLst rNil))
noncomputable def s__law_pools_12  : RS :=
  (rForR rng1 (rCons (rC (.p (.int 5))) rNil) (gNm 3)
  b__law_pools_3)
noncomputable def s__law_pools_13  : RS :=
  (rIfS (rTst asBool (rBin dNotInX (rBin dIx (rVar 2) (rC (.p (.int 0)))) (rVar 1)))
  s__law_pools_4
  rSkip)
noncomputable def s__law_pools_14  : RS :=
  (rSet 4 (rLst rNil))
noncomputable def s__law_pools_15  : RS :=
  (rForR rng1 (rCons (rC (.p (.int 3))) rNil) (gNm 3)
  b__law_pools_9)
noncomputable def s__law_pools_16  : RS :=
  (rRet (rLst (rCons (rVar 1) (rCons (rVar 2) (rCons (rVar 4) rNil)))))
noncomputable def m__law_pools  : RS :=
  (rSeq s__law_pools_10
  (rSeq s__law_pools_11
  (rSeq s__law_pools_12
  (rSeq s__law_pools_13
  (rSeq s__law_pools_14
  (rSeq s__law_pools_15
  s__law_pools_16))))))

noncomputable def F__law_pools : List D → Store → R D := selfF 7 m__law_pools
theorem r__law_pools : Ref 1 7 F__law_pools m__law_pools := ref_self 1 7 m__law_pools
theorem great_ok : ∀ c ∈ ("ABCDEFGHIJKLMNOPQRSTUVWXYZ" : Str).cps.toList, c ∈ greatL ∧ c ∈ signG := by decide +kernel
theorem great_sign : ∀ c ∈ ("aZ_0ybxQ9" : Str).cps.toList, c ∈ signG := by decide +kernel
theorem pools_turn1 {t g u v : Nat} (M0 M : Store) (b : Nat) (us vs : List Str) (T : Tape M t g b) (hb : b + 40 ≤ 900000000) (hu : M[u]? = some (.lst ((us.map P.str).map D.p))) (hv : M[v]? = some (.lst ((vs.map P.str).map D.p))) (huv : u ≠ v) (n1 : u ≠ t ∧ u ≠ g) (n2 : v ≠ t ∧ v ≠ g) (l1 : us.length ≤ 100) (l2 : vs.length ≤ 100) (z3 z4 z5 z6 : Option D) :
    ∃ s s' M', b__law_pools_3 [some (.ref t), some (.ref u), some (.ref v), z3, z4, z5, z6] M = .nx [some (.ref t), some (.ref u), some (.ref v), z3, z4, z5, z6] M' ∧ Nm s ∧ Nm s' ∧ Tape M' t g (b + 40) ∧ M'[u]? = some (.lst (((us ++ [s]).map P.str).map D.p)) ∧ M'[v]? = some (.lst (((vs ++ [s']).map P.str).map D.p)) ∧ M.length ≤ M'.length ∧ ∀ l o, l ≠ t → l ≠ g → l ≠ u → l ≠ v → M[l]? = some o → M'[l]? = some o := by
  obtain ⟨s, M1, a1, a2, a3, a4, a5, a6⟩ := x_name M t g b u us T (by omega) hu n1.1 n1.2 (by omega)
  obtain ⟨s', M2, b1, b2, b3, b4, b5, b6⟩ := x_name M1 t g (b + 20) v vs a3 (by omega) (a6 v _ n2.1 n2.2 (Ne.symm huv) hv) n2.1 n2.2 (by omega)
  refine ⟨s, s', M2, by simp [b__law_pools_3, s__law_pools_1, s__law_pools_2, a1, b1], a2, b2, b3.mono (by omega), b6 u _ n1.1 n1.2 huv a4, b4, by omega, fun l o h1 h2 h3 h4 h5 => b6 l o h1 h2 h4 (a6 l o h1 h2 h3 h5)⟩
theorem pools_turn2 {t g w : Nat} (M : Store) (b : Nat) (ws : List Str) (T : Tape M t g b) (hb : b + 20 ≤ 900000000) (hw : M[w]? = some (.lst ((ws.map P.str).map D.p))) (n1 : w ≠ t ∧ w ≠ g) (l1 : ws.length ≤ 100) (z1 z2 z3 z5 z6 : Option D) :
    ∃ s M' y5 y6, b__law_pools_9 [some (.ref t), z1, z2, z3, some (.ref w), z5, z6] M = .nx [some (.ref t), z1, z2, z3, some (.ref w), y5, y6] M' ∧ RowS greatL signG s ∧ Tape M' t g (b + 20) ∧ M'[w]? = some (.lst (((ws ++ [s]).map P.str).map D.p)) ∧ M.length ≤ M'.length ∧ ∀ l o, l ≠ t → l ≠ g → l ≠ w → M[l]? = some o → M'[l]? = some o := by
  obtain ⟨v1, M1, a1, a2, a3, a4⟩ := x_draw M t g b 26 (by decide) (by decide) T (by omega)
  obtain ⟨c1, hc1, d1⟩ := lit_ix ("ABCDEFGHIJKLMNOPQRSTUVWXYZ" : Str) v1 (by decide +kernel) (by rw [show ("ABCDEFGHIJKLMNOPQRSTUVWXYZ" : Str).length = 26 by decide +kernel]; omega) M1
  have r1 : RowN greatL signG 1 ⟨#[c1]⟩ := .one (great_ok c1 hc1).1 (great_ok c1 hc1).2
  have e6 : s__law_pools_6 [some (.ref t), z1, z2, z3, some (.ref w), z5, z6] M = .nx [some (.ref t), z1, z2, z3, some (.ref w), some (.p (.str ⟨#[c1]⟩)), z6] M1 := by
    simp [s__law_pools_6, a1, d1]
  have tt : Stb t g (fun _ => True) := Stb.tt
  let R9 : P → Prop := fun x => ∃ v : Nat, x = .int v ∧ 1 ≤ v ∧ v ≤ 9
  have c9 : ∀ {ρ : Env} (v : Nat), 1 ≤ v → v ≤ 9 → DE t g 0 (fun _ => True) ρ (rC (.p (.int (v : Nat)))) R9 := fun v h1 h2 => de_const ⟨v, rfl, h1, h2⟩
  have dk : DE t g _ (fun _ => True) [some (.ref t), z1, z2, z3, some (.ref w), some (.p (.str ⟨#[c1]⟩)), z6] (rBin dIx (rLst (rCons (rC (.p (.int 1))) (rCons (rC (.p (.int 3))) (rCons (rC (.p (.int 9))) rNil)))) (rCallN 2 F__law_draw (rCons (rVar 0) (rCons (rC (.p (.int 3))) rNil)))) R9 :=
    de_ixl (L := 3) tt (dl_cons tt (c9 1 (by decide) (by decide)) (dl_cons tt (c9 3 (by decide) (by decide)) (dl_cons tt (c9 9 (by decide) (by decide)) dl_nil))) (de_draw 0 rfl 3 (by decide) (by decide)) (by decide)
  obtain ⟨x, M2, e2, ⟨k, rfl, hk1, hk2⟩, T2, k2⟩ := dk M1 _ a3 (by omega) trivial
  obtain ⟨v3, M3, g1, g2, g3, g4⟩ := x_draw M2 t g _ k (by omega) (Int.lt_of_le_of_lt (b := 9) (by omega) (by decide)) T2 (by omega)
  have er : rng1 [.p (.int v3)] = some (0, v3) := rng1_len v3 (by omega)
  obtain ⟨ρ4, M4, k4, s4, y6, q1, q2, q3, rfl⟩ := forL_inv (k := none) (g := gNm 6) (body := s__law_pools_5) (intsD 0 v3) (fun i ρ M' => ∃ (s : Str) (z : Option D), RowN greatL signG (1 + i) s ∧ Tape M' t g (b + 3 + i) ∧ Kp t g M3 M' ∧ ρ = [some (.ref t), z1, z2, z3, some (.ref w), some (.p (.str s)), z]) (fun _ _ _ _ => True.intro) (by
    rintro i x ρ M' hi ⟨s, z, q1, q2, q3, rfl⟩
    have hi2 := (List.getElem?_eq_some_iff.mp hi).1
    rw [intsD_len] at hi2
    obtain ⟨q, M5, h1, h2, h3, h4⟩ := x_draw M' t g (b + 3 + i) 9 (by decide) (by decide) q2 (by omega)
    obtain ⟨c, hc, d⟩ := lit_ix ("aZ_0ybxQ9" : Str) q (by decide +kernel) (by rw [show ("aZ_0ybxQ9" : Str).length = 9 by decide +kernel]; omega) M5
    have ad := v_adds s ⟨#[c]⟩ M5 (by have := q1.len; have : (⟨#[c]⟩ : Str).length = 1 := rfl; omega)
    exact ⟨_, _, [some (.ref t), z1, z2, z3, some (.ref w), some (.p (.str (s ++ ⟨#[c]⟩))), some x], M5, rfl, .inl (by simp [s__law_pools_5, h1, d, ad]), _, _, (q1.snoc (great_sign c hc)).mono (by omega), h3.mono (by omega), q3.trans h4, rfl⟩) (ρ := [some (.ref t), z1, z2, z3, some (.ref w), some (.p (.str ⟨#[c1]⟩)), z6]) (M := M3) ⟨_, _, r1, g3.mono (by omega), Kp.refl _ _ _, rfl⟩
  rw [intsD_len] at q1 q2
  have kk := ((a4.trans k2).trans g4).trans q3
  have hw4 := kk.at_ w _ n1.1 n1.2 hw
  have ap := v_append w _ (.p (.str s4)) M4 hw4 (lt_line (by simp; omega))
  have isl := isLst_ref w _ M4 hw4
  have hlt := get_lt hw4
  have e7 : s__law_pools_7 [some (.ref t), z1, z2, z3, some (.ref w), some (.p (.str ⟨#[c1]⟩)), z6] M1 = .nx [some (.ref t), z1, z2, z3, some (.ref w), some (.p (.str s4)), y6] M4 := by
    unfold s__law_pools_7
    generalize (rBin dIx (rLst (rCons (rC (.p (.int 1))) (rCons (rC (.p (.int 3))) (rCons (rC (.p (.int 9))) rNil)))) (rCallN 2 F__law_draw (rCons (rVar 0) (rCons (rC (.p (.int 3))) rNil)))) = fk at e2 ⊢
    simp [e2, g1, er, k4]
  refine ⟨s4, M4.set w (.lst (((ws.map P.str).map D.p) ++ [.p (.str s4)])), some (.p (.str s4)), y6, ?_, q1.row (by omega), (q2.set n1.1 n1.2 _).mono (by omega), by rw [get_set_same hlt]; simp, by rw [List.length_set]; exact kk.len, fun l o h1 h2 h3 h4 => get_set_ne (kk.at_ l o h1 h2 h4) (Ne.symm h3)⟩
  unfold b__law_pools_9
  rw [e_seq, e6, Out.bind_nx, e_seq, e7, Out.bind_nx]
  simp [s__law_pools_8, isl, ap, -List.map_map]
theorem x_pools (M : Store) (t g b : Nat) (T : Tape M t g b) (hb : b + 300 ≤ 900000000) : ∃ p M', F__law_pools [.ref t] M = .ok (.ref p) M' ∧ Pools t g p M' ∧ Tape M' t g (b + 300) ∧ Kp t g M M' := by
  have hlt := T.lt
  obtain ⟨ρ1, M1, k1, us, vs, z3, a1, a2, a3, a4, a5, a6, a7, a8, rfl⟩ := forL_inv (k := none) (g := gNm 3) (body := b__law_pools_3) (intsD 0 5)
    (fun i ρ M' => ∃ (us vs : List Str) (z3 : Option D), us.length = i ∧ vs.length = i ∧ (∀ s ∈ us, Nm s) ∧ (∀ s ∈ vs, Nm s) ∧ M'[M.length]? = some (.lst ((us.map P.str).map D.p)) ∧ M'[M.length + 1]? = some (.lst ((vs.map P.str).map D.p)) ∧ Tape M' t g (b + 40 * i) ∧ Kp t g M M' ∧ ρ = [some (.ref t), some (.ref M.length), some (.ref (M.length + 1)), z3, none, none, none]) (fun _ _ _ _ => True.intro) (by
    rintro i x ρ M1 hi ⟨us, vs, z3, a1, a2, a3, a4, a5, a6, a7, a8, rfl⟩
    have hi2 := (List.getElem?_eq_some_iff.mp hi).1
    rw [intsD_len] at hi2
    obtain ⟨s, s', M2, q1, q2, q3, q4, q5, q6, q7, q8⟩ := pools_turn1 M M1 (b + 40 * i) us vs a7 (by omega) a5 a6 (by omega) ⟨by omega, by omega⟩ ⟨by omega, by omega⟩ (by omega) (by omega) (some x) none none none
    exact ⟨_, _, _, _, rfl, .inl q1, us ++ [s], vs ++ [s'], _, by simp [a1], by simp [a2], fun z hz => (List.mem_append.mp hz).elim (a3 z) (fun h => by rw [List.mem_singleton.mp h]; exact q2), fun z hz => (List.mem_append.mp hz).elim (a4 z) (fun h => by rw [List.mem_singleton.mp h]; exact q3), q5, q6, q4.mono (by omega), ⟨Nat.le_trans a8.len q7, fun l o h1 h2 h3 => by
      have h4 := get_lt h3
      exact q8 l o h1 h2 (by omega) (by omega) (a8.at_ l o h1 h2 h3)⟩, rfl⟩) (ρ := [some (.ref t), some (.ref M.length), some (.ref (M.length + 1)), none, none, none, none]) (M := M ++ [.lst []] ++ [.lst []]) ⟨[], [], none, rfl, rfl, (fun r hr => by simp at hr), (fun r hr => by simp at hr), get_app (get_new _ _) _, by
        have e : M.length + 1 = (M ++ [O.lst []]).length := by simp
        rw [e]
        exact get_new _ _, (T.app _).app _, (Kp.app t g M _).trans (Kp.app t g _ _), rfl⟩
  rw [intsD_len] at a1 a2 a7
  -- one name may be in both
  obtain ⟨v0, hv0⟩ : ∃ v0, vs[0]? = some v0 := ⟨vs[0], List.getElem?_eq_getElem (by omega)⟩
  have hv0m := List.mem_of_getElem? hv0
  have i0 := v_ix_l (M.length + 1) _ 0 (.p (.str v0)) M1 a6 (by simp [hv0])
  have ni := v_notIn_l M1 (.str v0) M.length (us.map P.str) (by simp [P.depth]) a5
  have st := v_set M.length _ 0 (.p (.str v0)) M1 a5 (by simp; omega)
  have hlt1 := get_lt a5
  obtain ⟨us', M2, e13, u1, u2, u3, u4, u5, u6⟩ : ∃ (us' : List Str) (M2 : Store), s__law_pools_13 [some (.ref t), some (.ref M.length), some (.ref (M.length + 1)), z3, none, none, none] M1 = .nx [some (.ref t), some (.ref M.length), some (.ref (M.length + 1)), z3, none, none, none] M2 ∧ us'.length = 5 ∧ (∀ s ∈ us', Nm s) ∧ M2[M.length]? = some (O.lst ((us'.map P.str).map D.p)) ∧ M2[M.length + 1]? = some (O.lst ((vs.map P.str).map D.p)) ∧ Tape M2 t g (b + 200) ∧ Kp t g M M2 := by
    by_cases h : (us.map P.str).any (fun z => P.eqv z (.str v0)) = true
    · refine ⟨us, M1, ?_, a1, a3, a5, a6, a7.mono (by omega), a8⟩
      rw [h] at ni
      simp [s__law_pools_13, show dIx (.ref (M.length + 1)) (.p (.int 0)) M1 = _ from i0, ni]
    · have h : (us.map P.str).any (fun z => P.eqv z (.str v0)) = false := Bool.eq_false_iff.mpr h
      refine ⟨us.set 0 v0, M1.set M.length (.lst (((us.map P.str).map D.p).set 0 (.p (.str v0)))), ?_, by simp [a1], fun s hs => ?_, by rw [get_set_same hlt1]; simp [List.map_set], get_set_ne a6 (by omega), (a7.set (by omega) (by omega) _).mono (by omega), a8.set (Nat.le_refl _) _⟩
      · rw [h] at ni
        simp [s__law_pools_13, s__law_pools_4, show dIx (.ref (M.length + 1)) (.p (.int 0)) M1 = _ from i0, ni, show setD (.ref M.length) (.p (.int 0)) (.p (.str v0)) M1 = _ from st, -List.map_map, -List.map_set]
      · rcases List.mem_or_eq_of_mem_set hs with hs | rfl
        · exact a3 s hs
        · exact a4 _ hv0m
  have hl2 := u6.len
  have hk2 := get_lt u4
  obtain ⟨ρ3, M3, k3, ws, y3, y5, y6, w1, w2, w3, w4, w5, w6, rfl⟩ := forL_inv (k := none) (g := gNm 3) (body := b__law_pools_9) (intsD 0 3)
    (fun i ρ M' => ∃ (ws : List Str) (z3 z5 z6 : Option D), ws.length = i ∧ (∀ s ∈ ws, RowS greatL signG s) ∧ M'[M2.length]? = some (.lst ((ws.map P.str).map D.p)) ∧ Tape M' t g (b + 200 + 20 * i) ∧ Kp t g M2 M' ∧ M2.length < M'.length ∧ ρ = [some (.ref t), some (.ref M.length), some (.ref (M.length + 1)), z3, some (.ref M2.length), z5, z6]) (fun _ _ _ _ => True.intro) (by
    rintro i x ρ M3 hi ⟨ws, z3, z5, z6, w1, w2, w3, w4, w5, w6, rfl⟩
    have hi2 := (List.getElem?_eq_some_iff.mp hi).1
    rw [intsD_len] at hi2
    obtain ⟨s, M4, y5, y6, q1, q2, q3, q4, q5, q6⟩ := pools_turn2 (t := t) (g := g) (w := M2.length) M3 (b + 200 + 20 * i) ws w4 (by omega) w3 ⟨by omega, by omega⟩ (by omega) (some (.ref M.length)) (some (.ref (M.length + 1))) (some x) z5 z6
    exact ⟨_, _, _, _, rfl, .inl q1, ws ++ [s], _, _, _, by simp [w1], fun z hz => (List.mem_append.mp hz).elim (w2 z) (fun h => by rw [List.mem_singleton.mp h]; exact q2), q4, q3.mono (by omega), ⟨Nat.le_trans w5.len q5, fun l o h1 h2 h3 => by
      have h4 := get_lt h3
      exact q6 l o h1 h2 (by omega) (w5.at_ l o h1 h2 h3)⟩, by omega, rfl⟩) (ρ := [some (.ref t), some (.ref M.length), some (.ref (M.length + 1)), z3, some (.ref M2.length), none, none]) (M := M2 ++ [.lst []]) ⟨[], z3, none, none, rfl, (fun r hr => by simp at hr), get_new _ _, u5.app _, Kp.app t g M2 _, by simp, rfl⟩
  rw [intsD_len] at w1 w4
  have r5 : rng1 [.p (.int 5)] = some (0, 5) := rng1_len 5 (by decide)
  have r3 : rng1 [.p (.int 3)] = some (0, 3) := rng1_len 3 (by decide)
  have hu3 := w5.at_ M.length _ (by omega) (by omega) u3
  have hv3 := w5.at_ (M.length + 1) _ (by omega) (by omega) u4
  have kk := (u6.trans w5).trans (Kp.app t g M3 [.lst [.ref M.length, .ref (M.length + 1), .ref M2.length]])
  refine ⟨M3.length, M3 ++ [.lst [.ref M.length, .ref (M.length + 1), .ref M2.length]], selfF_ok ?_ kk.len, ⟨M.length, M.length + 1, M2.length, us', vs, ws, get_new _ _, get_app hu3 _, get_app hv3 _, get_app w3 _, u2, a4, w2, by omega, by omega, by omega, by omega, by omega, by omega, ⟨by omega, by omega⟩, ⟨by omega, by omega⟩, ⟨by omega, by omega⟩, by omega, by omega⟩, (w4.app _).mono (by omega), kk⟩
  have s10 : s__law_pools_10 (startD 7 [.ref t]) M = .nx [some (.ref t), some (.ref M.length), none, none, none, none, none] (M ++ [.lst []]) := by simp [s__law_pools_10]
  have s11 : s__law_pools_11 [some (.ref t), some (.ref M.length), none, none, none, none, none] (M ++ [.lst []]) = .nx [some (.ref t), some (.ref M.length), some (.ref (M.length + 1)), none, none, none, none] (M ++ [.lst []] ++ [.lst []]) := by simp [s__law_pools_11]
  have s12 : s__law_pools_12 [some (.ref t), some (.ref M.length), some (.ref (M.length + 1)), none, none, none, none] (M ++ [.lst []] ++ [.lst []]) = .nx [some (.ref t), some (.ref M.length), some (.ref (M.length + 1)), z3, none, none, none] M1 := by
    simp only [s__law_pools_12, e_forR, e_cons, e_C, e_nil, Fl.R.bind_ok, Fl.R.out_ok, r5, oK_some]
    exact k1
  unfold m__law_pools
  rw [e_seq, s10, Out.bind_nx, e_seq, s11, Out.bind_nx, e_seq, s12, Out.bind_nx, e_seq, e13, Out.bind_nx]
  simp [s__law_pools_14, s__law_pools_15, s__law_pools_16, r3, k3]

-- slots: 0:tape 1:pools 2:items 3:k 4:place
noncomputable def s__law_items_1  : RS :=
  (rExpr (rLM mAppend (rVar 2) (rCons (rCallN 2 F__law_edge_door (rCons (rVar 0) (rCons (rVar 1) rNil))) rNil)))
noncomputable def s__law_items_2  : RS :=
  (rExpr (rLM mAppend (rVar 2) (rCons (rTup (rCons (rC (.p (.str "wall"))) (rCons (rCallN 2 F__law_pick (rCons (rVar 0) (rCons (rBin dIx (rVar 1) (rC (.p (.int 2)))) rNil))) (rCons (rCallN 1 F__law_edge_rules (rCons (rVar 0) rNil)) rNil)))) rNil)))
noncomputable def s__law_items_3  : RS :=
  (rExpr (rLM mAppend (rVar 2) (rCons (rCallN 2 F__law_loose_item (rCons (rVar 0) (rCons (rVar 1) rNil))) rNil)))
noncomputable def b__law_items_4  : RS :=
  (rSeq s__law_items_1
  (rSeq s__law_items_2
  s__law_items_3))
noncomputable def s__law_items_5  : RS :=
  (rSet 4 (rCallN 2 F__law_draw (rCons (rVar 0) (rCons (rCB cLen (rCons (rVar 2) rNil)) rNil))))
noncomputable def s__law_items_6  : RS :=
  (rExpr (rLM mAppend (rVar 2) (rCons (rLM mPopAt (rVar 2) (rCons (rVar 4) rNil)) rNil)))
noncomputable def b__law_items_7  : RS :=
  (rSeq s__law_items_5
  s__law_items_6)
noncomputable def s__law_items_8  : RS :=
  (rSet 1 (rCallN 1 F__law_pools (rCons (rVar 0) rNil)))
noncomputable def s__law_items_9  : RS :=
  (rSet 2 (rLst rNil))
noncomputable def s__law_items_10  : RS :=
  (rForR rng1 (rCons (rBin dAdd (rC (.p (.int 1))) (rCallN 2 F__law_draw (rCons (rVar 0) (rCons (rC (.p (.int 3))) rNil)))) rNil) (gNm 3)
  b__law_items_4)
noncomputable def s__law_items_11  : RS :=
  (rForR rng1 (rCons (rC (.p (.int 2))) rNil) (gNm 3)
  b__law_items_7)
noncomputable def s__law_items_12  : RS :=
  (rRet (rVar 2))
noncomputable def m__law_items  : RS :=
  (rSeq s__law_items_8
  (rSeq s__law_items_9
  (rSeq s__law_items_10
  (rSeq s__law_items_11
  s__law_items_12))))

noncomputable def F__law_items : List D → Store → R D := selfF 5 m__law_items
theorem r__law_items : Ref 1 5 F__law_items m__law_items := ref_self 1 5 m__law_items
abbrev ItsAt (M : Store) (l : Nat) (its : List Item) : Prop := M[l]? = some (O.lst ((its.map Item.toP).map D.p)) ∧ ∀ it ∈ its, it.Ok ∧ it.Sm
theorem ItsAt.snoc {M : Store} {l : Nat} {its : List Item} {x : P} (h : ItsAt M l its) (hx : ItemP x) : ∃ it : Item, (it.Ok ∧ it.Sm) ∧ ((its.map Item.toP).map D.p) ++ [.p x] = ((its ++ [it]).map Item.toP).map D.p := by
  obtain ⟨it, h1, h2, rfl⟩ := hx
  exact ⟨it, ⟨h1, h2⟩, by simp⟩
/-- one more item behind the others -/
theorem push_item {l : Nat} {M : Store} {its : List Item} {x : P} (h : ItsAt M l its) (hx : ItemP x) (hl : its.length ≤ 1000) : ∃ it : Item, mAppend (.ref l) [.p x] M = some (.p .non, M.set l (.lst (((its ++ [it]).map Item.toP).map D.p))) ∧ ItsAt (M.set l (.lst (((its ++ [it]).map Item.toP).map D.p))) l (its ++ [it]) := by
  obtain ⟨it, h1, h2⟩ := h.snoc hx
  refine ⟨it, by rw [v_append _ _ _ _ h.1 (lt_line (by simp; omega)), h2], by rw [get_set_same (get_lt h.1)], fun y hy => ?_⟩
  rcases List.mem_append.mp hy with hy | hy
  · exact h.2 y hy
  · rw [List.mem_singleton.mp hy]; exact h1
structure Its (t g p l b : Nat) (M0 M : Store) (its : List Item) : Prop where
  tape : Tape M t g b
  pools : Pools t g p M
  kp : Kp t g M0 M
  at_ : ItsAt M l its
theorem Pools.set {t g p l : Nat} {M M0 : Store} (h : Pools t g p M0) (k : Kp t g M0 M) (hl : M0.length ≤ l) (o : O) : Pools t g p (M.set l o) := Pools.stb _ _ (k.set hl o) h
theorem Its.push {t g p l b n : Nat} {M0 Mp M M1 : Store} {its : List Item} {x : P} (w : Its t g p l b M0 M its) (hp : Pools t g p Mp) (kp : Kp t g Mp M) (hl : Mp.length ≤ l) (hl0 : M0.length ≤ l) (n1 : l ≠ t) (n2 : l ≠ g) (T1 : Tape M1 t g (b + n)) (k1 : Kp t g M M1) (hx : ItemP x) (hlen : its.length ≤ 1000) :
    ∃ it, mAppend (.ref l) [.p x] M1 = some (.p .non, M1.set l (.lst (((its ++ [it]).map Item.toP).map D.p))) ∧ Its t g p l (b + n) M0 (M1.set l (.lst (((its ++ [it]).map Item.toP).map D.p))) (its ++ [it]) ∧ Kp t g Mp (M1.set l (.lst (((its ++ [it]).map Item.toP).map D.p))) := by
  obtain ⟨it, a1, a2⟩ := push_item (l := l) (M := M1) (its := its) ⟨k1.at_ l _ n1 n2 w.at_.1, w.at_.2⟩ hx hlen
  exact ⟨it, a1, ⟨T1.set n1 n2 _, hp.set (kp.trans k1) hl _, (w.kp.trans k1).set hl0 _, a2⟩, (kp.trans k1).set hl _⟩
theorem items_turn {t g p l b : Nat} {M0 Mp M : Store} {its : List Item} (w : Its t g p l b M0 M its) (hp : Pools t g p Mp) (kp : Kp t g Mp M) (hl : Mp.length ≤ l) (hl0 : M0.length ≤ l) (n1 : l ≠ t) (n2 : l ≠ g) (hlen : its.length ≤ 100) (hb : b + 300 ≤ 900000000) (z3 z4 : Option D) :
    ∃ its' M', b__law_items_4 [some (.ref t), some (.ref p), some (.ref l), z3, z4] M = .nx [some (.ref t), some (.ref p), some (.ref l), z3, z4] M' ∧ Its t g p l (b + 300) M0 M' its' ∧ Kp t g Mp M' ∧ its'.length = its.length + 3 := by
  have sb : Stb t g (Pools t g p) := Pools.stb
  -- a door
  obtain ⟨x1, M1, e1, hx1, T1, k1⟩ := x_edge_door (t := t) (g := g) (p := p) M b w.tape (by omega) w.pools
  obtain ⟨i1, p1, w1, kp1⟩ := w.push hp kp hl hl0 n1 n2 T1 k1 hx1 (by omega)
  have isl0 := isLst_ref l _ M w.at_.1
  have s1 : s__law_items_1 [some (.ref t), some (.ref p), some (.ref l), z3, z4] M = .nx [some (.ref t), some (.ref p), some (.ref l), z3, z4] (M1.set l (.lst (((its ++ [i1]).map Item.toP).map D.p))) := by
    simp [s__law_items_1, isl0, e1, p1, -List.map_map, -List.map_append]
  generalize hN1 : M1.set l (.lst (((its ++ [i1]).map Item.toP).map D.p)) = N1 at s1 w1 kp1
  -- a wall
  have d2 : DE t g _ (Pools t g p) [some (.ref t), some (.ref p), some (.ref l), z3, z4] (rTup (rCons (rC (.p (.str "wall"))) (rCons (rCallN 2 F__law_pick (rCons (rVar 0) (rCons (rBin dIx (rVar 1) (rC (.p (.int 2)))) rNil))) (rCons (rCallN 1 F__law_edge_rules (rCons (rVar 0) rNil)) rNil)))) ItemP :=
    de_tup (da_cons (Q2 := fun xs => ∃ (s : Str) (rs : List Rule), RowS greatL signG s ∧ (∀ r ∈ rs, r.Ok) ∧ rs.length ≤ 20 ∧ xs = [.str "wall", .str s, .tup (rs.map Rule.toP)]) sb (de_const (Q := fun a => a = .str "wall") rfl) (da2 sb (de_great 0 1 rfl rfl) (de_call1 0 rfl (x_edge_rules sb))) (fun x xs e1 ⟨a, c, ⟨s, h1, h2⟩, ⟨rs, h3, h4, h5⟩, e2⟩ => ⟨s, rs, h2, h3, h4, by rw [e1, e2, h1, h5]⟩)) (fun xs ⟨s, rs, h1, h2, h3, e⟩ => ⟨by rw [e]; simp, .wall s rs, .wall h1 h2, h3, by rw [e]; rfl⟩)
  obtain ⟨x2, M2, e2, hx2, T2, k2⟩ := d2 N1 _ w1.tape (by omega) w1.pools
  obtain ⟨i2, p2, w2, kp2⟩ := w1.push hp kp1 hl hl0 n1 n2 T2 k2 hx2 (by simp; omega)
  have isl1 := isLst_ref l _ N1 w1.at_.1
  have s2 : s__law_items_2 [some (.ref t), some (.ref p), some (.ref l), z3, z4] N1 = .nx [some (.ref t), some (.ref p), some (.ref l), z3, z4] (M2.set l (.lst (((its ++ [i1] ++ [i2]).map Item.toP).map D.p))) := by
    unfold s__law_items_2
    generalize (rTup (rCons (rC (.p (.str "wall"))) (rCons (rCallN 2 F__law_pick (rCons (rVar 0) (rCons (rBin dIx (rVar 1) (rC (.p (.int 2)))) rNil))) (rCons (rCallN 1 F__law_edge_rules (rCons (rVar 0) rNil)) rNil)))) = fw at e2 ⊢
    simp [isl1, e2, p2, -List.map_map, -List.map_append, -List.append_assoc]
  generalize hN2 : M2.set l (.lst (((its ++ [i1] ++ [i2]).map Item.toP).map D.p)) = N2 at s2 w2 kp2
  -- any
  obtain ⟨x3, M3, e3, hx3, T3, k3⟩ := x_loose_item (t := t) (g := g) (p := p) N2 _ w2.tape (by omega) w2.pools
  obtain ⟨i3, p3, w3, kp3⟩ := w2.push hp kp2 hl hl0 n1 n2 T3 k3 hx3 (by simp; omega)
  have isl2 := isLst_ref l _ N2 w2.at_.1
  have s3 : s__law_items_3 [some (.ref t), some (.ref p), some (.ref l), z3, z4] N2 = .nx [some (.ref t), some (.ref p), some (.ref l), z3, z4] (M3.set l (.lst (((its ++ [i1] ++ [i2] ++ [i3]).map Item.toP).map D.p))) := by
    simp [s__law_items_3, isl2, e3, p3, -List.map_map, -List.map_append, -List.append_assoc]
  refine ⟨_, _, ?_, ⟨w3.tape.mono (by omega), w3.pools, w3.kp, w3.at_⟩, kp3, by simp⟩
  unfold b__law_items_4
  rw [e_seq, s1, Out.bind_nx, e_seq, s2, Out.bind_nx, s3]
theorem items_mix {t g p l b : Nat} {M0 Mp M : Store} {its : List Item} (w : Its t g p l b M0 M its) (hp : Pools t g p Mp) (kp : Kp t g Mp M) (hl : Mp.length ≤ l) (hl0 : M0.length ≤ l) (n1 : l ≠ t) (n2 : l ≠ g) (hpos : 0 < its.length) (hlen : its.length ≤ 100) (hb : b + 1 ≤ 900000000) (z3 z4 : Option D) :
    ∃ its' M' y4, b__law_items_7 [some (.ref t), some (.ref p), some (.ref l), z3, z4] M = .nx [some (.ref t), some (.ref p), some (.ref l), z3, y4] M' ∧ Its t g p l (b + 1) M0 M' its' ∧ Kp t g Mp M' ∧ its'.length = its.length := by
  obtain ⟨v, M1, a1, a2, a3, a4⟩ := x_draw M t g b (its.length : Nat) (by omega) (Int.lt_of_le_of_lt (b := 100) (by omega) (by decide)) w.tape (by omega)
  have hv : v < its.length := by omega
  have h1 := a4.at_ l _ n1 n2 w.at_.1
  have hlt := get_lt h1
  have ln := v_len_l l _ M w.at_.1
  rw [List.length_map, List.length_map] at ln
  have pp := v_popAt M1 l _ v (.p its[v].toP) h1 (by rw [List.getElem?_map, List.getElem?_map, List.getElem?_eq_getElem hv]; rfl) (by omega)
  have isl := isLst_ref l _ M1 h1
  have hM2 : (M1.set l (.lst (((its.map Item.toP).map D.p).eraseIdx v)))[l]? = some (.lst (((its.map Item.toP).map D.p).eraseIdx v)) := get_set_same hlt
  have ap := v_append l _ (.p its[v].toP) _ hM2 (lt_line (by
    have := List.length_eraseIdx_le ((its.map Item.toP).map D.p) v
    simp at this
    simp
    omega))
  rw [set_set] at ap
  have e : ((its.map Item.toP).map D.p).eraseIdx v ++ [.p its[v].toP] = ((its.eraseIdx v ++ [its[v]]).map Item.toP).map D.p := by
    simp [List.eraseIdx_eq_take_drop_succ]
  rw [e] at ap
  refine ⟨its.eraseIdx v ++ [its[v]], M1.set l (.lst (((its.eraseIdx v ++ [its[v]]).map Item.toP).map D.p)), some (.p (.int v)), ?_, ⟨a3.set n1 n2 _, hp.set (kp.trans a4) hl _, (w.kp.trans a4).set hl0 _, by rw [get_set_same hlt], fun y hy => ?_⟩, (kp.trans a4).set hl _, by simp [List.length_eraseIdx, hv]; omega⟩
  · simp [b__law_items_7, s__law_items_5, s__law_items_6, ln, a1, isl, pp, ap, -List.map_map, -List.map_append]
  · rcases List.mem_append.mp hy with hy | hy
    · exact w.at_.2 y (List.mem_of_mem_eraseIdx hy)
    · rw [List.mem_singleton.mp hy]; exact w.at_.2 _ (List.getElem_mem hv)
theorem x_items (M : Store) (t g : Nat) (T : Tape M t g 0) : ∃ l M' its, F__law_items [.ref t] M = .ok (.ref l) M' ∧ ItsAt M' l its ∧ its.length ≤ 9 ∧ M.length ≤ M'.length := by
  have hlt := T.lt
  obtain ⟨p, M1, e1, hp, T1, k1⟩ := x_pools M t g 0 T (by decide)
  have hk1 := k1.len
  obtain ⟨x, M2, e2, ⟨v, rfl, hv1, hv2⟩, T2, k2⟩ := (de_addi 1 (de_draw 0 rfl 3 (by decide) (by decide)) : DE t g 1 (fun _ => True) [some (.ref t), some (.ref p), some (.ref M1.length), none, none] (rBin dAdd (rC (.p (.int (1 : Nat)))) (rCallN 2 F__law_draw (rCons (rVar 0) (rCons (rC (.p (.int (3 : Nat)))) rNil)))) _) (M1 ++ [.lst []]) (0 + 300) (T1.app _) (by decide) trivial
  have kp2 : Kp t g M1 M2 := (Kp.app t g M1 _).trans k2
  have n1 : M1.length ≠ t := by omega
  have n2 : M1.length ≠ g := by omega
  have h2 := k2.at_ M1.length _ n1 n2 (get_new M1 (.lst []))
  obtain ⟨ρ3, M3, k3, its, z3, w3, kp3, l3, rfl⟩ := forL_inv (k := none) (g := gNm 3) (body := b__law_items_4) (intsD 0 v)
    (fun i ρ M' => ∃ (its : List Item) (z3 : Option D), Its t g p M1.length (301 + 300 * i) M M' its ∧ Kp t g M1 M' ∧ its.length = 3 * i ∧ ρ = [some (.ref t), some (.ref p), some (.ref M1.length), z3, none]) (fun _ _ _ _ => True.intro) (by
    rintro i x ρ M3 hi ⟨its, z3, w3, kp3, l3, rfl⟩
    have hi2 := (List.getElem?_eq_some_iff.mp hi).1
    rw [intsD_len] at hi2
    obtain ⟨its', M4, q1, q2, q3, q4⟩ := items_turn w3 hp kp3 (Nat.le_refl _) hk1 n1 n2 (by omega) (by omega) (some x) none
    exact ⟨_, _, _, _, rfl, .inl q1, its', _, ⟨q2.tape.mono (by omega), q2.pools, q2.kp, q2.at_⟩, q3, by omega, rfl⟩) (ρ := [some (.ref t), some (.ref p), some (.ref M1.length), none, none]) (M := M2) ⟨[], none, ⟨T2.mono (by omega), Pools.stb _ _ kp2 hp, k1.trans kp2, h2, fun it h => by simp at h⟩, kp2, rfl, rfl⟩
  rw [intsD_len] at w3 l3
  obtain ⟨ρ4, M4, k4, its4, z4, z5, w4, kp4, l4, rfl⟩ := forL_inv (k := none) (g := gNm 3) (body := b__law_items_7) (intsD 0 2)
    (fun i ρ M' => ∃ (its : List Item) (z3 z4 : Option D), Its t g p M1.length (301 + 300 * v + i) M M' its ∧ Kp t g M1 M' ∧ its.length = 3 * v ∧ ρ = [some (.ref t), some (.ref p), some (.ref M1.length), z3, z4]) (fun _ _ _ _ => True.intro) (by
    rintro i x ρ M5 hi ⟨its, z3, z4, w3, kp3, l3, rfl⟩
    have hi2 := (List.getElem?_eq_some_iff.mp hi).1
    rw [intsD_len] at hi2
    obtain ⟨its', M6, y4, q1, q2, q3, q4⟩ := items_mix w3 hp kp3 (Nat.le_refl _) hk1 n1 n2 (by omega) (by omega) (by omega) (some x) z4
    exact ⟨_, _, _, _, rfl, .inl q1, its', _, _, ⟨q2.tape.mono (by omega), q2.pools, q2.kp, q2.at_⟩, q3, by omega, rfl⟩) (ρ := [some (.ref t), some (.ref p), some (.ref M1.length), z3, none]) (M := M3) ⟨its, z3, none, ⟨w3.tape, w3.pools, w3.kp, w3.at_⟩, kp3, l3, rfl⟩
  have er : rng1 [.p (.int v)] = some (0, v) := rng1_len v (by omega)
  have er2 : rng1 [.p (.int 2)] = some (0, 2) := rng1_len 2 (by decide)
  refine ⟨M1.length, M4, its4, selfF_ok ?_ w4.kp.len, w4.at_, by omega, w4.kp.len⟩
  have s8 : s__law_items_8 (startD 5 [.ref t]) M = .nx [some (.ref t), some (.ref p), none, none, none] M1 := by simp [s__law_items_8, e1]
  have s9 : s__law_items_9 [some (.ref t), some (.ref p), none, none, none] M1 = .nx [some (.ref t), some (.ref p), some (.ref M1.length), none, none] (M1 ++ [.lst []]) := by simp [s__law_items_9]
  have s10 : s__law_items_10 [some (.ref t), some (.ref p), some (.ref M1.length), none, none] (M1 ++ [.lst []]) = .nx [some (.ref t), some (.ref p), some (.ref M1.length), z3, none] M3 := by
    have e2' : rBin dAdd (rC (.p (.int 1))) (rCallN 2 F__law_draw (rCons (rVar 0) (rCons (rC (.p (.int 3))) rNil))) [some (.ref t), some (.ref p), some (.ref M1.length), none, none] (M1 ++ [.lst []]) = .ok (.p (.int v)) M2 := e2
    unfold s__law_items_10
    generalize (rBin dAdd (rC (.p (.int 1))) (rCallN 2 F__law_draw (rCons (rVar 0) (rCons (rC (.p (.int 3))) rNil)))) = fk at e2' ⊢
    simp [e2', er, k3]
  unfold m__law_items
  rw [e_seq, s8, Out.bind_nx, e_seq, s9, Out.bind_nx, e_seq, s10, Out.bind_nx]
  simp [s__law_items_11, s__law_items_12, er2, k4]
-- slots: 0:script 1:tape 2:items 3:item 4:text 5:k
noncomputable def s__law_asks_1  : RS :=
  (rRet (rC (.p (.bl false))))
noncomputable def s__law_asks_2  : RS :=
  (rIfS (rtNot (rTst truthD (rCallN 2 (Fp_same 9) (rCons (rCallN 1 F_write (rCons (rTup (rCons (rVar 3) rNil)) rNil)) (rCons (rCallN 1 F__law_line (rCons (rVar 3) rNil)) rNil)))))
  s__law_asks_1
  rSkip)
noncomputable def s__law_asks_3  : RS :=
  (rRet (rC (.p (.bl false))))
noncomputable def s__law_asks_4  : RS :=
  (rIfS (rtOr (rtNot (rTst truthD (rCallN 2 (Fp_same 9) (rCons (rCallK 0 1 [(true, 0)] 1 F_write rNil (rCons (rCB cTuple (rCons (rVar 2) rNil)) rNil)) (rCons (rVar 4) rNil))))) (rtNot (rTst truthD (rCallN 2 (Fp_same 9) (rCons (rCallN 1 F_write (rCons (rCB cTuple (rCons (rVar 2) rNil)) rNil)) (rCons (rVar 4) rNil))))))
  s__law_asks_3
  rSkip)
noncomputable def s__law_asks_5  : RS :=
  (rSet 1 (rCallN 1 F__law_tape (rCons (rVar 0) rNil)))
noncomputable def s__law_asks_6  : RS :=
  (rSet 2 (rCallN 1 F__law_items (rCons (rVar 1) rNil)))
noncomputable def s__law_asks_7  : RS :=
  (rFor (rVar 2) (gNm 3)
  s__law_asks_2)
noncomputable def s__law_asks_8  : RS :=
  (rSet 4 (rSM sJoin (rC (.p (.str ""))) (rLC (wRow (rVar 2)) (gNm 3) rYes (rCallN 1 F__law_line (rCons (rVar 3) rNil)) [3])))
noncomputable def s__law_asks_9  : RS :=
  (rForR rng1 (rCons (rC (.p (.int 2))) rNil) (gNm 5)
  s__law_asks_4)
noncomputable def s__law_asks_10  : RS :=
  (rRet (rCallN 2 (Fp_same 9) (rCons (rCallN 1 F_write (rCons (rTup rNil) rNil)) (rCons (rC (.p (.str ""))) rNil))))
noncomputable def m__law_asks  : RS :=
  (rSeq s__law_asks_5
  (rSeq s__law_asks_6
  (rSeq s__law_asks_7
  (rSeq s__law_asks_8
  (rSeq s__law_asks_9
  s__law_asks_10)))))

noncomputable def F__law_asks : List D → Store → R D := selfF 6 m__law_asks
theorem r__law_asks : Ref 1 6 F__law_asks m__law_asks := ref_self 1 6 m__law_asks
theorem fit_str (s : Str) : fitQ 9 (.str s) := trivial
theorem text_one (it : Item) : textS [it] = lineS it := by
  show lineS it ++ Str.empty = _
  rw [Str.append_empty]
theorem whole_ok (s : List Int) (hl : s.length ≤ 63) : ∃ M, F__law_asks [.ref 0] [.ro (bagL s)] = .ok (.p (.bl true)) M := by
  obtain ⟨M1, e1, T1, l1, _⟩ := x_tape s hl
  obtain ⟨l, M2, its, e2, ⟨h2, hit⟩, hlen, hl2⟩ := x_items M1 3 1 T1
  have ems : (its.map Item.toP).map D.p = its.map fun it => D.p it.toP := by rw [List.map_map]; rfl
  -- each alone
  obtain ⟨ρ3, M3, k3, z3, p3, rfl⟩ := forL_inv (k := some (l, .lst ((its.map Item.toP).map D.p))) (g := gNm 3) (body := s__law_asks_2) ((its.map Item.toP).map D.p)
    (fun i ρ M' => ∃ z3, M2 <+: M' ∧ ρ = [some (.ref 0), some (.ref 3), some (.ref l), z3, none, none]) (by
      rintro i ρ M ⟨z3, p, _⟩
      exact pfx_get p h2) (by
      rintro i x ρ M hi ⟨z3, p, rfl⟩
      obtain ⟨y, hy, rfl⟩ := List.mem_map.mp (List.mem_of_getElem? hi)
      obtain ⟨it, hm, rfl⟩ := List.mem_map.mp hy
      obtain ⟨k1, k2⟩ := hit it hm
      obtain ⟨N1, a1, a2⟩ := x_write [it] (fun y hy => by rw [List.mem_singleton.mp hy]; exact ⟨k1, k2⟩) (by simp) M
      obtain ⟨N2, b1, b2⟩ := x_law_line it k1 k2 N1
      rw [text_one] at a1
      have sm := same_ok (.str (lineS it)) (fit_str _) N2
      exact ⟨_, _, [some (.ref 0), some (.ref 3), some (.ref l), some (.p it.toP), none, none], N2, rfl, .inl (by simp at a1; simp [s__law_asks_2, a1, b1, sm]), _, (p.trans a2).trans b2, rfl⟩) (ρ := [some (.ref 0), some (.ref 3), some (.ref l), none, none, none]) (M := M2) ⟨none, List.prefix_refl _, rfl⟩
  have h3 := pfx_get p3 h2
  -- the text
  obtain ⟨M4, k4, p4, q4⟩ := lcL_inv (l := M3.length) (k := some (l, .lst ((its.map Item.toP).map D.p))) (g := gNm 3) (te := rCallN 1 F__law_line (rCons (rVar 3) rNil)) (ρ := [some (.ref 0), some (.ref 3), some (.ref l), none, none, none]) ((its.map Item.toP).map D.p)
    (fun i M' => M3 <+: M' ∧ M'[M3.length]? = some (O.lst ((its.take i).map fun it => D.p (.str (lineS it))))) (by
      rintro i M ⟨p, _⟩
      exact pfx_get p h3) (by
      rintro i x M hi ⟨p, q⟩
      rw [List.getElem?_map, List.getElem?_map] at hi
      obtain ⟨it, hi', hx⟩ : ∃ it, its[i]? = some it ∧ x = .p it.toP := by
        cases e : its[i]? with
        | none => rw [e] at hi; cases hi
        | some it => rw [e] at hi; cases hi; exact ⟨it, rfl, rfl⟩
      subst hx
      have hm := List.mem_of_getElem? hi'
      have hi2 := (List.getElem?_eq_some_iff.mp hi').1
      obtain ⟨N2, b1, b2⟩ := x_law_line it (hit it hm).1 (hit it hm).2 M
      have hq := pfx_get b2 q
      refine ⟨_, .p (.str (lineS it)), N2, (its.take i).map fun it => D.p (.str (lineS it)), rfl, by simp [b1], hq, lt_line (by simp; omega), pfx_set (p.trans b2) (Nat.le_refl _) _, ?_⟩
      rw [get_set_same (get_lt hq), List.take_succ, hi']
      simp) (M := M3 ++ [.lst []]) ⟨List.prefix_append _ _, get_new _ _⟩
  rw [List.length_map, List.length_map, List.take_length] at q4
  have hW := sum_w its hit
  have eL : (its.map fun it => D.p (.str (lineS it))) = (its.map lineS).map fun y => D.p (.str y) := by rw [List.map_map]; rfl
  rw [eL] at q4
  have hsum : ((its.map lineS).map (·.length)).sum = (its.map weight).sum := by
    rw [List.map_map]
    congr 1
    exact List.map_congr_left fun it _ => lineS_len it
  have jn := v_join M4 ("" : Str) M3.length (its.map lineS) q4 (by
    rw [hsum, show ("" : Str).length = 0 by decide +kernel]
    omega)
  rw [join_empty] at jn
  have h4 := pfx_get p4 h3
  -- all together
  obtain ⟨ρ5, M5, k5, z5, p5, rfl⟩ := forL_inv (k := none) (g := gNm 5) (body := s__law_asks_4) (intsD 0 2)
    (fun i ρ M' => ∃ z5, M4 <+: M' ∧ ρ = [some (.ref 0), some (.ref 3), some (.ref l), z3, some (.p (.str (textS its))), z5]) (fun _ _ _ _ => True.intro) (by
      rintro i x ρ M hi ⟨z5, p, rfl⟩
      have h5 := pfx_get p h4
      have tp := v_tuple l _ M h5
      obtain ⟨N1, a1, a2⟩ := x_write its hit (by omega) M
      have tp1 := v_tuple l _ N1 (pfx_get a2 h5)
      obtain ⟨N2, b1, b2⟩ := x_write its hit (by omega) N1
      have s1 := same_ok (.str (textS its)) (fit_str _) N1
      have s2 := same_ok (.str (textS its)) (fit_str _) N2
      exact ⟨_, _, [some (.ref 0), some (.ref 3), some (.ref l), z3, some (.p (.str (textS its))), some x], N2, rfl, .inl (by simp [s__law_asks_4, pick, tp, a1, s1, tp1, b1, s2, -List.map_map]), _, (p.trans a2).trans b2, rfl⟩) (ρ := [some (.ref 0), some (.ref 3), some (.ref l), z3, some (.p (.str (textS its))), none]) (M := M4) ⟨none, List.prefix_refl _, rfl⟩
  obtain ⟨N, a1, a2⟩ := x_write [] (fun y hy => by cases hy) (by simp) M5
  have e0 : textS [] = ("" : Str) := by decide +kernel
  rw [e0] at a1
  have sm := same_ok (.str "") (fit_str _) N
  have er2 : rng1 [.p (.int 2)] = some (0, 2) := rng1_len 2 (by decide)
  have w3 := walk_ref l _ M2 h2
  have w4 := walk_ref l _ M3 h3
  have hN : 1 ≤ N.length := by
    have := pfx_len a2
    have := pfx_len p5
    have := pfx_len p4
    have := pfx_len p3
    omega
  refine ⟨N, selfF_ok ?_ hN⟩
  have t5 : s__law_asks_5 (startD 6 [.ref 0]) [.ro (bagL s)] = .nx [some (.ref 0), some (.ref 3), none, none, none, none] M1 := by simp [s__law_asks_5, e1]
  have t6 : s__law_asks_6 [some (.ref 0), some (.ref 3), none, none, none, none] M1 = .nx [some (.ref 0), some (.ref 3), some (.ref l), none, none, none] M2 := by simp [s__law_asks_6, e2]
  have t7 : s__law_asks_7 [some (.ref 0), some (.ref 3), some (.ref l), none, none, none] M2 = .nx [some (.ref 0), some (.ref 3), some (.ref l), z3, none, none] M3 := by
    simp only [s__law_asks_7, e_for, e_var, List.getElem?_cons_succ, List.getElem?_cons_zero, Fl.R.out_ok, w3, oK_some]
    exact k3
  have t8 : s__law_asks_8 [some (.ref 0), some (.ref 3), some (.ref l), z3, none, none] M3 = .nx [some (.ref 0), some (.ref 3), some (.ref l), z3, some (.p (.str (textS its))), none] M4 := by
    simp [s__law_asks_8, w4, wipeE, k4, jn, textS, -List.map_map]
  have t9 : s__law_asks_9 [some (.ref 0), some (.ref 3), some (.ref l), z3, some (.p (.str (textS its))), none] M4 = .nx [some (.ref 0), some (.ref 3), some (.ref l), z3, some (.p (.str (textS its))), z5] M5 := by
    simp [s__law_asks_9, er2, k5]
  unfold m__law_asks
  rw [e_seq, t5, Out.bind_nx, e_seq, t6, Out.bind_nx, e_seq, t7, Out.bind_nx, e_seq, t8, Out.bind_nx, e_seq, t9, Out.bind_nx]
  simp at a1
  simp [s__law_asks_10, a1, sm]
-- slots: 0:script
noncomputable def m_law  : RS :=
  (rTry []
  (rRet (rCallN 1 F__law_asks (rCons (rVar 0) rNil)))
  (rRet (rC (.p (.bl false)))))

noncomputable def F_law : List D → Store → R D := selfF 1 m_law
theorem r_law : Ref 1 1 F_law m_law := ref_self 1 1 m_law
theorem law_true (s : List Int) (hl : s.length ≤ 63) : ∃ M, F_law [.ref 0] [.ro (s.map fun i => .p (.int i))] = .ok (.p (.bl true)) M := by
  obtain ⟨M, h⟩ := whole_ok s hl
  have hg : 1 ≤ M.length := by
    have h1 := (r__law_asks [.ref 0] [.ro (bagL s)] rfl).1
    rw [h] at h1
    exact h1
  have h' : F__law_asks [.ref 0] [.ro (s.map fun i => D.p (P.int i))] = .ok (.p (.bl true)) M := h
  refine ⟨M, selfF_ok ?_ (by simpa using hg)⟩
  simp [m_law, h']

/-! ### the text -/
def top (i : Nat) : Stmt := PySem.Challenge.pw_holesmet_k03_lines_of_items.main.body.getD i (.Pass ⟨0, 0, 0, 0⟩)
abbrev st_is_int : Stmt := top 4
theorem sc_is_int : FnScope ["value"] ["value"] (defScope st_is_int) := ⟨rfl, rfl, rfl, by decide +kernel, rfl, by decide +kernel, by decide +kernel⟩
abbrev st_is_between : Stmt := top 5
theorem sc_is_between : FnScope ["value", "least", "greatest"] ["value", "least", "greatest"] (defScope st_is_between) := ⟨rfl, rfl, rfl, by decide +kernel, rfl, by decide +kernel, by decide +kernel⟩
abbrev st_is_bit : Stmt := top 6
theorem sc_is_bit : FnScope ["value"] ["value"] (defScope st_is_bit) := ⟨rfl, rfl, rfl, by decide +kernel, rfl, by decide +kernel, by decide +kernel⟩
abbrev st_is_tuple_of : Stmt := top 7
theorem sc_is_tuple_of : FnScope ["value", "length"] ["value", "length"] (defScope st_is_tuple_of) := ⟨rfl, rfl, rfl, by decide +kernel, rfl, by decide +kernel, by decide +kernel⟩
abbrev st_is_all : Stmt := top 13
theorem sc_is_all : FnScope ["row", "signs", "sign"] ["row", "signs"] (defScope st_is_all) := ⟨rfl, rfl, rfl, by decide +kernel, rfl, by decide +kernel, by decide +kernel⟩
abbrev st_is_word : Stmt := top 14
theorem sc_is_word : FnScope ["row"] ["row"] (defScope st_is_word) := ⟨rfl, rfl, rfl, by decide +kernel, rfl, by decide +kernel, by decide +kernel⟩
abbrev st_is_small_row : Stmt := top 15
theorem sc_is_small_row : FnScope ["row"] ["row"] (defScope st_is_small_row) := ⟨rfl, rfl, rfl, by decide +kernel, rfl, by decide +kernel, by decide +kernel⟩
abbrev st_is_small_name : Stmt := top 16
theorem sc_is_small_name : FnScope ["row"] ["row"] (defScope st_is_small_name) := ⟨rfl, rfl, rfl, by decide +kernel, rfl, by decide +kernel, by decide +kernel⟩
abbrev st_is_great_name : Stmt := top 17
theorem sc_is_great_name : FnScope ["row"] ["row"] (defScope st_is_great_name) := ⟨rfl, rfl, rfl, by decide +kernel, rfl, by decide +kernel, by decide +kernel⟩
abbrev st_is_told_name : Stmt := top 23
theorem sc_is_told_name : FnScope ["value"] ["value"] (defScope st_is_told_name) := ⟨rfl, rfl, rfl, by decide +kernel, rfl, by decide +kernel, by decide +kernel⟩
abbrev st_is_told_great : Stmt := top 24
theorem sc_is_told_great : FnScope ["value"] ["value"] (defScope st_is_told_great) := ⟨rfl, rfl, rfl, by decide +kernel, rfl, by decide +kernel, by decide +kernel⟩
abbrev st_is_told_number : Stmt := top 25
theorem sc_is_told_number : FnScope ["value"] ["value"] (defScope st_is_told_number) := ⟨rfl, rfl, rfl, by decide +kernel, rfl, by decide +kernel, by decide +kernel⟩
abbrev st_is_told_range : Stmt := top 26
theorem sc_is_told_range : FnScope ["value"] ["value"] (defScope st_is_told_range) := ⟨rfl, rfl, rfl, by decide +kernel, rfl, by decide +kernel, by decide +kernel⟩
abbrev st_is_told_rule : Stmt := top 27
theorem sc_is_told_rule : FnScope ["value"] ["value"] (defScope st_is_told_rule) := ⟨rfl, rfl, rfl, by decide +kernel, rfl, by decide +kernel, by decide +kernel⟩
abbrev st_are_told_rules : Stmt := top 28
theorem sc_are_told_rules : FnScope ["value", "rule"] ["value"] (defScope st_are_told_rules) := ⟨rfl, rfl, rfl, by decide +kernel, rfl, by decide +kernel, by decide +kernel⟩
abbrev st_is_net : Stmt := top 29
theorem sc_is_net : FnScope ["item"] ["item"] (defScope st_is_net) := ⟨rfl, rfl, rfl, by decide +kernel, rfl, by decide +kernel, by decide +kernel⟩
abbrev st_is_host : Stmt := top 30
theorem sc_is_host : FnScope ["item"] ["item"] (defScope st_is_host) := ⟨rfl, rfl, rfl, by decide +kernel, rfl, by decide +kernel, by decide +kernel⟩
abbrev st_is_door : Stmt := top 31
theorem sc_is_door : FnScope ["item", "_", "name", "inner", "outer", "maps", "lets", "low", "high", "keeps", "span", "both", "turns"] ["item"] (defScope st_is_door) := ⟨rfl, rfl, rfl, by decide +kernel, rfl, by decide +kernel, by decide +kernel⟩
abbrev st_is_open : Stmt := top 32
theorem sc_is_open : FnScope ["item", "_", "door", "port", "name", "inner_port"] ["item"] (defScope st_is_open) := ⟨rfl, rfl, rfl, by decide +kernel, rfl, by decide +kernel, by decide +kernel⟩
abbrev st_is_wall : Stmt := top 33
theorem sc_is_wall : FnScope ["item"] ["item"] (defScope st_is_wall) := ⟨rfl, rfl, rfl, by decide +kernel, rfl, by decide +kernel, by decide +kernel⟩
abbrev st_is_item : Stmt := top 34
theorem sc_is_item : FnScope ["value", "kind"] ["value"] (defScope st_is_item) := ⟨rfl, rfl, rfl, by decide +kernel, rfl, by decide +kernel, by decide +kernel⟩
abbrev st_has_shape : Stmt := top 35
theorem sc_has_shape : FnScope ["value", "item"] ["value"] (defScope st_has_shape) := ⟨rfl, rfl, rfl, by decide +kernel, rfl, by decide +kernel, by decide +kernel⟩
abbrev st_net_line : Stmt := top 41
theorem sc_net_line : FnScope ["item"] ["item"] (defScope st_net_line) := ⟨rfl, rfl, rfl, by decide +kernel, rfl, by decide +kernel, by decide +kernel⟩
abbrev st_host_line : Stmt := top 42
theorem sc_host_line : FnScope ["item"] ["item"] (defScope st_host_line) := ⟨rfl, rfl, rfl, by decide +kernel, rfl, by decide +kernel, by decide +kernel⟩
abbrev st_door_line : Stmt := top 43
theorem sc_door_line : FnScope ["item", "parts", "_", "name", "inner", "outer", "maps", "lets", "low", "high", "keeps", "span", "both", "turns"] ["item"] (defScope st_door_line) := ⟨rfl, rfl, rfl, by decide +kernel, rfl, by decide +kernel, by decide +kernel⟩
abbrev st_open_line : Stmt := top 44
theorem sc_open_line : FnScope ["item"] ["item"] (defScope st_open_line) := ⟨rfl, rfl, rfl, by decide +kernel, rfl, by decide +kernel, by decide +kernel⟩
abbrev st_range_words : Stmt := top 45
theorem sc_range_words : FnScope ["told", "least", "greatest"] ["told"] (defScope st_range_words) := ⟨rfl, rfl, rfl, by decide +kernel, rfl, by decide +kernel, by decide +kernel⟩
abbrev st_rule_line : Stmt := top 46
theorem sc_rule_line : FnScope ["rule", "word", "bit", "first", "second", "third"] ["rule"] (defScope st_rule_line) := ⟨rfl, rfl, rfl, by decide +kernel, rfl, by decide +kernel, by decide +kernel⟩
abbrev st_wall_lines : Stmt := top 47
theorem sc_wall_lines : FnScope ["item", "lines", "rule"] ["item"] (defScope st_wall_lines) := ⟨rfl, rfl, rfl, by decide +kernel, rfl, by decide +kernel, by decide +kernel⟩
abbrev st_item_lines : Stmt := top 48
theorem sc_item_lines : FnScope ["item", "kind"] ["item"] (defScope st_item_lines) := ⟨rfl, rfl, rfl, by decide +kernel, rfl, by decide +kernel, by decide +kernel⟩
abbrev st_write : Stmt := top 49
theorem sc_write : FnScope ["plan", "lines", "item", "line"] ["plan"] (defScope st_write) := ⟨rfl, rfl, rfl, by decide +kernel, rfl, by decide +kernel, by decide +kernel⟩
abbrev st__law_tape : Stmt := top 51
theorem sc__law_tape : FnScope ["script", "great", "seed", "cell"] ["script"] (defScope st__law_tape) := ⟨rfl, rfl, rfl, by decide +kernel, rfl, by decide +kernel, by decide +kernel⟩
abbrev st__law_draw : Stmt := top 52
theorem sc__law_draw : FnScope ["tape", "limit", "great", "mixed", "number"] ["tape", "limit"] (defScope st__law_draw) := ⟨rfl, rfl, rfl, by decide +kernel, rfl, by decide +kernel, by decide +kernel⟩
abbrev st__law_pick : Stmt := top 53
theorem sc__law_pick : FnScope ["tape", "row"] ["tape", "row"] (defScope st__law_pick) := ⟨rfl, rfl, rfl, by decide +kernel, rfl, by decide +kernel, by decide +kernel⟩
abbrev st__law_same : Stmt := top 54
theorem sc__law_same : FnScope ["told", "due", "k"] ["told", "due"] (defScope st__law_same) := ⟨rfl, rfl, rfl, by decide +kernel, rfl, by decide +kernel, by decide +kernel⟩
abbrev st__law_name : Stmt := top 55
theorem sc__law_name : FnScope ["tape", "used", "name", "k", "words"] ["tape", "used"] (defScope st__law_name) := ⟨rfl, rfl, rfl, by decide +kernel, rfl, by decide +kernel, by decide +kernel⟩
abbrev st__law_door_line : Stmt := top 56
theorem sc__law_door_line : FnScope ["item", "text"] ["item"] (defScope st__law_door_line) := ⟨rfl, rfl, rfl, by decide +kernel, rfl, by decide +kernel, by decide +kernel⟩
abbrev st__law_range_text : Stmt := top 57
theorem sc__law_range_text : FnScope ["pair"] ["pair"] (defScope st__law_range_text) := ⟨rfl, rfl, rfl, by decide +kernel, rfl, by decide +kernel, by decide +kernel⟩
abbrev st__law_rules_lines : Stmt := top 58
theorem sc__law_rules_lines : FnScope ["item", "text", "rule"] ["item"] (defScope st__law_rules_lines) := ⟨rfl, rfl, rfl, by decide +kernel, rfl, by decide +kernel, by decide +kernel⟩
abbrev st__law_line : Stmt := top 59
theorem sc__law_line : FnScope ["item"] ["item"] (defScope st__law_line) := ⟨rfl, rfl, rfl, by decide +kernel, rfl, by decide +kernel, by decide +kernel⟩
abbrev st__law_pools : Stmt := top 60
theorem sc__law_pools : FnScope ["tape", "nets", "names", "k", "walls", "name", "j"] ["tape"] (defScope st__law_pools) := ⟨rfl, rfl, rfl, by decide +kernel, rfl, by decide +kernel, by decide +kernel⟩
abbrev st__law_loose_door : Stmt := top 61
theorem sc__law_loose_door : FnScope ["tape", "pools", "item", "span"] ["tape", "pools"] (defScope st__law_loose_door) := ⟨rfl, rfl, rfl, by decide +kernel, rfl, by decide +kernel, by decide +kernel⟩
abbrev st__law_loose_range : Stmt := top 62
theorem sc__law_loose_range : FnScope ["tape", "kind", "one", "other"] ["tape"] (defScope st__law_loose_range) := ⟨rfl, rfl, rfl, by decide +kernel, rfl, by decide +kernel, by decide +kernel⟩
abbrev st__law_loose_rules : Stmt := top 63
theorem sc__law_loose_rules : FnScope ["tape", "many", "rules", "k", "ranges"] ["tape", "many"] (defScope st__law_loose_rules) := ⟨rfl, rfl, rfl, by decide +kernel, rfl, by decide +kernel, by decide +kernel⟩
abbrev st__law_loose_item : Stmt := top 64
theorem sc__law_loose_item : FnScope ["tape", "pools", "kind", "port", "goal"] ["tape", "pools"] (defScope st__law_loose_item) := ⟨rfl, rfl, rfl, by decide +kernel, rfl, by decide +kernel, by decide +kernel⟩
abbrev st__law_edge_door : Stmt := top 65
theorem sc__law_edge_door : FnScope ["tape", "pools", "start", "numbers", "span"] ["tape", "pools"] (defScope st__law_edge_door) := ⟨rfl, rfl, rfl, by decide +kernel, rfl, by decide +kernel, by decide +kernel⟩
abbrev st__law_edge_rules : Stmt := top 66
theorem sc__law_edge_rules : FnScope ["tape", "rules", "k", "rule", "j", "least"] ["tape"] (defScope st__law_edge_rules) := ⟨rfl, rfl, rfl, by decide +kernel, rfl, by decide +kernel, by decide +kernel⟩
abbrev st__law_items : Stmt := top 67
theorem sc__law_items : FnScope ["tape", "pools", "items", "k", "place"] ["tape"] (defScope st__law_items) := ⟨rfl, rfl, rfl, by decide +kernel, rfl, by decide +kernel, by decide +kernel⟩
abbrev st__law_asks : Stmt := top 68
theorem sc__law_asks : FnScope ["script", "tape", "items", "item", "text", "k"] ["script"] (defScope st__law_asks) := ⟨rfl, rfl, rfl, by decide +kernel, rfl, by decide +kernel, by decide +kernel⟩
abbrev st_law : Stmt := top 69
theorem sc_law : FnScope ["script"] ["script"] (defScope st_law) := ⟨rfl, rfl, rfl, by decide +kernel, rfl, by decide +kernel, by decide +kernel⟩
/-! ### what the top leaves -/
structure Tx (w : World) (K : PySem.W.Frag) (mg : Str → Option Value) : Prop where
  f_abs : mg "abs" = none
  f_bool : mg "bool" = none
  f_int : mg "int" = none
  f_isinstance : mg "isinstance" = none
  f_len : mg "len" = none
  f_max : mg "max" = none
  f_min : mg "min" = none
  f_range : mg "range" = none
  f_str : mg "str" = none
  f_tuple : mg "tuple" = none
  c_ALL_PORTS : Cst ⟨K, mg⟩ "ALL_PORTS" (.p c_ALL_PORTS)
  c_ANY : Cst ⟨K, mg⟩ "ANY" (.p c_ANY)
  c_DIGITS : Cst ⟨K, mg⟩ "DIGITS" (.p c_DIGITS)
  c_GREAT_LETTERS : Cst ⟨K, mg⟩ "GREAT_LETTERS" (.p c_GREAT_LETTERS)
  c_KINDS : Cst ⟨K, mg⟩ "KINDS" (.p c_KINDS)
  c_RANGES_OF_A_RULE : Cst ⟨K, mg⟩ "RANGES_OF_A_RULE" (.p c_RANGES_OF_A_RULE)
  c_SMALL_LETTERS : Cst ⟨K, mg⟩ "SMALL_LETTERS" (.p c_SMALL_LETTERS)
  c_TOP : Cst ⟨K, mg⟩ "TOP" (.p c_TOP)
  c_UNWRITTEN_MANNER : Cst ⟨K, mg⟩ "UNWRITTEN_MANNER" (.p c_UNWRITTEN_MANNER)
  c_UNWRITTEN_SPAN : Cst ⟨K, mg⟩ "UNWRITTEN_SPAN" (.p c_UNWRITTEN_SPAN)
  c_WORDS : Cst ⟨K, mg⟩ "WORDS" (.p c_WORDS)
  t_LENGTHS : Dtb K mg w "LENGTHS" t_LENGTHS
  x_BadPlan : ExC ⟨K, mg⟩ "BadPlan" (He.ga K "BadPlan")
  x_DoorError : ExC ⟨K, mg⟩ "DoorError" (He.ga K "DoorError")
  g_BadPlan : mg "BadPlan" = some (.ref (He.ga K "BadPlan"))
  g_DoorError : mg "DoorError" = some (.ref (He.ga K "DoorError"))
  xs_DoorError : ∀ q ∈ ([] : List (Str × Bool)), PySem.W.exmOne K (cval ⟨K, mg⟩ q.1) (.ref (He.ga K "DoorError")) = some q.2
section
variable {P : Program} {w : World} {K : PySem.W.Frag} {mg : Str → Option Value} {base : Heap}
theorem ok_is_int  {f : Addr} {fd : FuncData} (T : Tx w K mg) (F : FunD K "is_int" "is_int" (defArgs st_is_int) (defBody st_is_int) (defScope st_is_int) [] [] f fd)   : FnOk P w K mg base (L2.CX P w) (1) f fd ["value"] (spD ⟨K, mg⟩ F_is_int 1) :=
  fn_E (m := m_is_int ) F sc_is_int (fun cdv A outer s H E hr hp W tk =>
  (s_one (s_ret (i_and (i_isa (by simp) (by rfl) T.f_isinstance (by rfl) T.f_int bi_int (i_var 0)) (i_one (i_not (i_isa (by simp) (by rfl) T.f_isinstance (by rfl) T.f_bool bi_bool (i_var 0)))))))) (r_is_int)
theorem ok_is_between  {f : Addr} {fd : FuncData} (T : Tx w K mg) (F : FunD K "is_between" "is_between" (defArgs st_is_between) (defBody st_is_between) (defScope st_is_between) [] [] f fd) (D_is_int : Df P w K mg base "is_int" ["value"] F_is_int 1)  : FnOk P w K mg base (L2.CX P w) (2) f fd ["value", "least", "greatest"] (spD ⟨K, mg⟩ F_is_between 3) :=
  fn_E (m := m_is_between ) F sc_is_between (fun cdv A outer s H E hr hp W tk =>
  (s_one (s_ret (i_and (i_call D_is_int (hr.mono (by first | decide | omega)) (by rfl) tk (i_cons (i_var 0) i_nil)) (i_one (i_chain o_le d_ord o_le d_ord (i_var 1) (i_var 0) (i_var 2))))))) (r_is_between)
theorem ok_is_bit  {f : Addr} {fd : FuncData} (T : Tx w K mg) (F : FunD K "is_bit" "is_bit" (defArgs st_is_bit) (defBody st_is_bit) (defScope st_is_bit) [] [] f fd) (D_is_between : Df P w K mg base "is_between" ["value", "least", "greatest"] F_is_between 2)  : FnOk P w K mg base (L2.CX P w) (3) f fd ["value"] (spD ⟨K, mg⟩ F_is_bit 1) :=
  fn_E (m := m_is_bit ) F sc_is_bit (fun cdv A outer s H E hr hp W tk =>
  (s_one (s_ret (i_call D_is_between (hr.mono (by first | decide | omega)) (by rfl) tk (i_cons (i_var 0) (i_cons i_int (i_cons i_int i_nil))))))) (r_is_bit)
theorem ok_is_tuple_of  {f : Addr} {fd : FuncData} (T : Tx w K mg) (F : FunD K "is_tuple_of" "is_tuple_of" (defArgs st_is_tuple_of) (defBody st_is_tuple_of) (defScope st_is_tuple_of) [] [] f fd)   : FnOk P w K mg base (L2.CX P w) (1) f fd ["value", "length"] (spD ⟨K, mg⟩ F_is_tuple_of 2) :=
  fn_E (m := m_is_tuple_of ) F sc_is_tuple_of (fun cdv A outer s H E hr hp W tk =>
  (s_one (s_ret (i_and (i_isa (by simp) (by rfl) T.f_isinstance (by rfl) T.f_tuple bi_tuple (i_var 0)) (i_one (i_cmp (o_eq (hu_r hr)) d_eq (i_callB call_len d_len (by rfl) T.f_len bi_len (i_cons (i_var 0) i_nil)) (i_var 1))))))) (r_is_tuple_of)
theorem ok_is_all  {f : Addr} {fd : FuncData} (T : Tx w K mg) (F : FunD K "is_all" "is_all" (defArgs st_is_all) (defBody st_is_all) (defScope st_is_all) [] [] f fd)   : FnOk P w K mg base (L2.CX P w) (1) f fd ["row", "signs"] (spD ⟨K, mg⟩ F_is_all 2) :=
  fn_E (m := m_is_all ) F sc_is_all (fun cdv A outer s H E hr hp W tk =>
  (s_cons (s_forW hp (by rfl) (wi_str (i_var 0)) (g_nm 2 sc_is_all.nd)
  (s_one (s_if (i_tcmp (o_notInX (hu_r hr)) d_notInX (i_var 2) (i_var 1))
  (s_one (s_ret i_bl))
  s_nil)))
  (s_one (s_ret i_bl)))) (r_is_all)
theorem ok_is_word  {f : Addr} {fd : FuncData} (T : Tx w K mg) (F : FunD K "is_word" "is_word" (defArgs st_is_word) (defBody st_is_word) (defScope st_is_word) [] [] f fd)   : FnOk P w K mg base (L2.CX P w) (1) f fd ["row"] (spD ⟨K, mg⟩ F_is_word 1) :=
  fn_E (m := m_is_word ) F sc_is_word (fun cdv A outer s H E hr hp W tk =>
  (s_one (s_ret (i_cmp (o_inX (hu_r hr)) d_inX (i_var 0) (i_glob (by rfl) (by exact T.c_WORDS)))))) (r_is_word)
theorem ok_is_small_row  {f : Addr} {fd : FuncData} (T : Tx w K mg) (F : FunD K "is_small_row" "is_small_row" (defArgs st_is_small_row) (defBody st_is_small_row) (defScope st_is_small_row) [] [] f fd) (D_is_all : Df P w K mg base "is_all" ["row", "signs"] F_is_all 1)  : FnOk P w K mg base (L2.CX P w) (2) f fd ["row"] (spD ⟨K, mg⟩ F_is_small_row 1) :=
  fn_E (m := m_is_small_row ) F sc_is_small_row (fun cdv A outer s H E hr hp W tk =>
  (s_cons (s_if (i_tor (i_tcmp (o_eq (hu_r hr)) d_eq (i_var 0) i_str) (i_or1 (i_tcmp (o_notInX (hu_r hr)) d_notInX (i_ix ix_seq d_ix (i_var 0) i_int) (i_glob (by rfl) (by exact T.c_SMALL_LETTERS))))).pt
  (s_one (s_ret i_bl))
  s_nil)
  (s_one (s_ret (i_call D_is_all (hr.mono (by first | decide | omega)) (by rfl) tk (i_cons (i_var 0) (i_cons (i_bin o_add d_add (i_bin o_add d_add (i_glob (by rfl) (by exact T.c_SMALL_LETTERS)) (i_glob (by rfl) (by exact T.c_DIGITS))) i_str) i_nil))))))) (r_is_small_row)
theorem ok_is_small_name  {f : Addr} {fd : FuncData} (T : Tx w K mg) (F : FunD K "is_small_name" "is_small_name" (defArgs st_is_small_name) (defBody st_is_small_name) (defScope st_is_small_name) [] [] f fd) (D_is_small_row : Df P w K mg base "is_small_row" ["row"] F_is_small_row 2) (D_is_word : Df P w K mg base "is_word" ["row"] F_is_word 1)  : FnOk P w K mg base (L2.CX P w) (3) f fd ["row"] (spD ⟨K, mg⟩ F_is_small_name 1) :=
  fn_E (m := m_is_small_name ) F sc_is_small_name (fun cdv A outer s H E hr hp W tk =>
  (s_one (s_ret (i_and (i_call D_is_small_row (hr.mono (by first | decide | omega)) (by rfl) tk (i_cons (i_var 0) i_nil)) (i_one (i_not (i_call D_is_word (hr.mono (by first | decide | omega)) (by rfl) tk (i_cons (i_var 0) i_nil)))))))) (r_is_small_name)
theorem ok_is_great_name  {f : Addr} {fd : FuncData} (T : Tx w K mg) (F : FunD K "is_great_name" "is_great_name" (defArgs st_is_great_name) (defBody st_is_great_name) (defScope st_is_great_name) [] [] f fd) (D_is_all : Df P w K mg base "is_all" ["row", "signs"] F_is_all 1)  : FnOk P w K mg base (L2.CX P w) (2) f fd ["row"] (spD ⟨K, mg⟩ F_is_great_name 1) :=
  fn_E (m := m_is_great_name ) F sc_is_great_name (fun cdv A outer s H E hr hp W tk =>
  (s_cons (s_if (i_tor (i_tcmp (o_eq (hu_r hr)) d_eq (i_var 0) i_str) (i_or1 (i_tcmp (o_notInX (hu_r hr)) d_notInX (i_ix ix_seq d_ix (i_var 0) i_int) (i_glob (by rfl) (by exact T.c_GREAT_LETTERS))))).pt
  (s_one (s_ret i_bl))
  s_nil)
  (s_one (s_ret (i_call D_is_all (hr.mono (by first | decide | omega)) (by rfl) tk (i_cons (i_var 0) (i_cons (i_bin o_add d_add (i_bin o_add d_add (i_bin o_add d_add (i_glob (by rfl) (by exact T.c_SMALL_LETTERS)) (i_glob (by rfl) (by exact T.c_GREAT_LETTERS))) (i_glob (by rfl) (by exact T.c_DIGITS))) i_str) i_nil))))))) (r_is_great_name)
theorem ok_is_told_name  {f : Addr} {fd : FuncData} (T : Tx w K mg) (F : FunD K "is_told_name" "is_told_name" (defArgs st_is_told_name) (defBody st_is_told_name) (defScope st_is_told_name) [] [] f fd) (D_is_small_name : Df P w K mg base "is_small_name" ["row"] F_is_small_name 3)  : FnOk P w K mg base (L2.CX P w) (4) f fd ["value"] (spD ⟨K, mg⟩ F_is_told_name 1) :=
  fn_E (m := m_is_told_name ) F sc_is_told_name (fun cdv A outer s H E hr hp W tk =>
  (s_one (s_ret (i_and (i_isa (by simp) (by rfl) T.f_isinstance (by rfl) T.f_str bi_str (i_var 0)) (i_one (i_call D_is_small_name (hr.mono (by first | decide | omega)) (by rfl) tk (i_cons (i_var 0) i_nil))))))) (r_is_told_name)
theorem ok_is_told_great  {f : Addr} {fd : FuncData} (T : Tx w K mg) (F : FunD K "is_told_great" "is_told_great" (defArgs st_is_told_great) (defBody st_is_told_great) (defScope st_is_told_great) [] [] f fd) (D_is_great_name : Df P w K mg base "is_great_name" ["row"] F_is_great_name 2)  : FnOk P w K mg base (L2.CX P w) (3) f fd ["value"] (spD ⟨K, mg⟩ F_is_told_great 1) :=
  fn_E (m := m_is_told_great ) F sc_is_told_great (fun cdv A outer s H E hr hp W tk =>
  (s_one (s_ret (i_and (i_isa (by simp) (by rfl) T.f_isinstance (by rfl) T.f_str bi_str (i_var 0)) (i_one (i_call D_is_great_name (hr.mono (by first | decide | omega)) (by rfl) tk (i_cons (i_var 0) i_nil))))))) (r_is_told_great)
theorem ok_is_told_number  {f : Addr} {fd : FuncData} (T : Tx w K mg) (F : FunD K "is_told_number" "is_told_number" (defArgs st_is_told_number) (defBody st_is_told_number) (defScope st_is_told_number) [] [] f fd) (D_is_between : Df P w K mg base "is_between" ["value", "least", "greatest"] F_is_between 2)  : FnOk P w K mg base (L2.CX P w) (3) f fd ["value"] (spD ⟨K, mg⟩ F_is_told_number 1) :=
  fn_E (m := m_is_told_number ) F sc_is_told_number (fun cdv A outer s H E hr hp W tk =>
  (s_one (s_ret (i_call D_is_between (hr.mono (by first | decide | omega)) (by rfl) tk (i_cons (i_var 0) (i_cons i_int (i_cons (i_glob (by rfl) (by exact T.c_TOP)) i_nil))))))) (r_is_told_number)
theorem ok_is_told_range  {f : Addr} {fd : FuncData} (T : Tx w K mg) (F : FunD K "is_told_range" "is_told_range" (defArgs st_is_told_range) (defBody st_is_told_range) (defScope st_is_told_range) [] [] f fd) (D_is_tuple_of : Df P w K mg base "is_tuple_of" ["value", "length"] F_is_tuple_of 1) (D_is_told_number : Df P w K mg base "is_told_number" ["value"] F_is_told_number 3)  : FnOk P w K mg base (L2.CX P w) (4) f fd ["value"] (spD ⟨K, mg⟩ F_is_told_range 1) :=
  fn_E (m := m_is_told_range ) F sc_is_told_range (fun cdv A outer s H E hr hp W tk =>
  (s_one (s_ret (i_and (i_call D_is_tuple_of (hr.mono (by first | decide | omega)) (by rfl) tk (i_cons (i_var 0) (i_cons i_int i_nil))) (i_and (i_call D_is_told_number (hr.mono (by first | decide | omega)) (by rfl) tk (i_cons (i_ix ix_seq d_ix (i_var 0) i_int) i_nil)) (i_one (i_call D_is_told_number (hr.mono (by first | decide | omega)) (by rfl) tk (i_cons (i_ix ix_seq d_ix (i_var 0) i_int) i_nil)))))))) (r_is_told_range)
theorem ok_is_told_rule  {f : Addr} {fd : FuncData} (T : Tx w K mg) (F : FunD K "is_told_rule" "is_told_rule" (defArgs st_is_told_rule) (defBody st_is_told_rule) (defScope st_is_told_rule) [] [] f fd) (D_is_tuple_of : Df P w K mg base "is_tuple_of" ["value", "length"] F_is_tuple_of 1) (D_is_bit : Df P w K mg base "is_bit" ["value"] F_is_bit 3) (D_is_told_range : Df P w K mg base "is_told_range" ["value"] F_is_told_range 4)  : FnOk P w K mg base (L2.CX P w) (5) f fd ["value"] (spD ⟨K, mg⟩ F_is_told_rule 1) :=
  fn_E (m := m_is_told_rule ) F sc_is_told_rule (fun cdv A outer s H E hr hp W tk =>
  (s_cons (s_if (i_tor (i_tnot (i_truth (i_call D_is_tuple_of (hr.mono (by first | decide | omega)) (by rfl) tk (i_cons (i_var 0) (i_cons (i_bin o_add d_add i_int (i_glob (by rfl) (by exact T.c_RANGES_OF_A_RULE))) i_nil))))) (i_or1 (i_tnot (i_truth (i_call D_is_bit (hr.mono (by first | decide | omega)) (by rfl) tk (i_cons (i_ix ix_seq d_ix (i_var 0) i_int) i_nil)))))).pt
  (s_one (s_ret i_bl))
  s_nil)
  (s_one (s_ret (i_and (i_call D_is_told_range (hr.mono (by first | decide | omega)) (by rfl) tk (i_cons (i_ix ix_seq d_ix (i_var 0) i_int) i_nil)) (i_and (i_call D_is_told_range (hr.mono (by first | decide | omega)) (by rfl) tk (i_cons (i_ix ix_seq d_ix (i_var 0) i_int) i_nil)) (i_one (i_call D_is_told_range (hr.mono (by first | decide | omega)) (by rfl) tk (i_cons (i_ix ix_seq d_ix (i_var 0) i_int) i_nil))))))))) (r_is_told_rule)
theorem ok_are_told_rules  {f : Addr} {fd : FuncData} (T : Tx w K mg) (F : FunD K "are_told_rules" "are_told_rules" (defArgs st_are_told_rules) (defBody st_are_told_rules) (defScope st_are_told_rules) [] [] f fd) (D_is_told_rule : Df P w K mg base "is_told_rule" ["value"] F_is_told_rule 5)  : FnOk P w K mg base (L2.CX P w) (6) f fd ["value"] (spD ⟨K, mg⟩ F_are_told_rules 1) :=
  fn_E (m := m_are_told_rules ) F sc_are_told_rules (fun cdv A outer s H E hr hp W tk =>
  (s_cons (s_if (i_tnot (i_truth (i_isa (by simp) (by rfl) T.f_isinstance (by rfl) T.f_tuple bi_tuple (i_var 0))))
  (s_one (s_ret i_bl))
  s_nil)
  (s_cons (s_for hp (by rfl) (i_var 0) (g_nm 1 sc_are_told_rules.nd)
  (s_one (s_if (i_tnot (i_truth (i_call D_is_told_rule (hr.mono (by first | decide | omega)) (by rfl) tk (i_cons (i_var 1) i_nil))))
  (s_one (s_ret i_bl))
  s_nil)))
  (s_one (s_ret i_bl))))) (r_are_told_rules)
theorem ok_is_net  {f : Addr} {fd : FuncData} (T : Tx w K mg) (F : FunD K "is_net" "is_net" (defArgs st_is_net) (defBody st_is_net) (defScope st_is_net) [] [] f fd) (D_is_told_name : Df P w K mg base "is_told_name" ["value"] F_is_told_name 4)  : FnOk P w K mg base (L2.CX P w) (5) f fd ["item"] (spD ⟨K, mg⟩ F_is_net 1) :=
  fn_E (m := m_is_net ) F sc_is_net (fun cdv A outer s H E hr hp W tk =>
  (s_one (s_ret (i_call D_is_told_name (hr.mono (by first | decide | omega)) (by rfl) tk (i_cons (i_ix ix_seq d_ix (i_var 0) i_int) i_nil))))) (r_is_net)
theorem ok_is_host  {f : Addr} {fd : FuncData} (T : Tx w K mg) (F : FunD K "is_host" "is_host" (defArgs st_is_host) (defBody st_is_host) (defScope st_is_host) [] [] f fd) (D_is_told_name : Df P w K mg base "is_told_name" ["value"] F_is_told_name 4)  : FnOk P w K mg base (L2.CX P w) (5) f fd ["item"] (spD ⟨K, mg⟩ F_is_host 1) :=
  fn_E (m := m_is_host ) F sc_is_host (fun cdv A outer s H E hr hp W tk =>
  (s_one (s_ret (i_and (i_call D_is_told_name (hr.mono (by first | decide | omega)) (by rfl) tk (i_cons (i_ix ix_seq d_ix (i_var 0) i_int) i_nil)) (i_one (i_call D_is_told_name (hr.mono (by first | decide | omega)) (by rfl) tk (i_cons (i_ix ix_seq d_ix (i_var 0) i_int) i_nil))))))) (r_is_host)
theorem ok_is_door  {f : Addr} {fd : FuncData} (T : Tx w K mg) (F : FunD K "is_door" "is_door" (defArgs st_is_door) (defBody st_is_door) (defScope st_is_door) [] [] f fd) (D_is_told_name : Df P w K mg base "is_told_name" ["value"] F_is_told_name 4) (D_is_told_number : Df P w K mg base "is_told_number" ["value"] F_is_told_number 3) (D_is_bit : Df P w K mg base "is_bit" ["value"] F_is_bit 3)  : FnOk P w K mg base (L2.CX P w) (5) f fd ["item"] (spD ⟨K, mg⟩ F_is_door 1) :=
  fn_E (m := m_is_door ) F sc_is_door (fun cdv A outer s H E hr hp W tk =>
  (s_cons (s_asg (i_var 0) (g_tup (by rfl) (g_cons (g_nm 1 sc_is_door.nd) (g_cons (g_nm 2 sc_is_door.nd) (g_cons (g_nm 3 sc_is_door.nd) (g_cons (g_nm 4 sc_is_door.nd) (g_cons (g_nm 5 sc_is_door.nd) (g_cons (g_nm 6 sc_is_door.nd) (g_cons (g_nm 7 sc_is_door.nd) (g_cons (g_nm 8 sc_is_door.nd) (g_cons (g_nm 9 sc_is_door.nd) (g_cons (g_nm 10 sc_is_door.nd) (g_cons (g_nm 11 sc_is_door.nd) (g_cons (g_nm 12 sc_is_door.nd) g_nil))))))))))))))
  (s_cons (s_if (i_tnot (i_tand (i_truth (i_call D_is_told_name (hr.mono (by first | decide | omega)) (by rfl) tk (i_cons (i_var 2) i_nil))) (i_tand (i_truth (i_call D_is_told_name (hr.mono (by first | decide | omega)) (by rfl) tk (i_cons (i_var 3) i_nil))) (i_and1 (i_truth (i_call D_is_told_name (hr.mono (by first | decide | omega)) (by rfl) tk (i_cons (i_var 4) i_nil)))))).pt)
  (s_one (s_ret i_bl))
  s_nil)
  (s_cons (s_if (i_tnot (i_tand (i_truth (i_call D_is_told_number (hr.mono (by first | decide | omega)) (by rfl) tk (i_cons (i_var 5) i_nil))) (i_tand (i_truth (i_call D_is_told_number (hr.mono (by first | decide | omega)) (by rfl) tk (i_cons (i_var 6) i_nil))) (i_and1 (i_truth (i_call D_is_told_number (hr.mono (by first | decide | omega)) (by rfl) tk (i_cons (i_var 10) i_nil)))))).pt)
  (s_one (s_ret i_bl))
  s_nil)
  (s_cons (s_if (i_tnot (i_tand (i_truth (i_call D_is_told_number (hr.mono (by first | decide | omega)) (by rfl) tk (i_cons (i_var 7) i_nil))) (i_and1 (i_truth (i_call D_is_told_number (hr.mono (by first | decide | omega)) (by rfl) tk (i_cons (i_var 8) i_nil))))).pt)
  (s_one (s_ret i_bl))
  s_nil)
  (s_one (s_ret (i_and (i_call D_is_bit (hr.mono (by first | decide | omega)) (by rfl) tk (i_cons (i_var 9) i_nil)) (i_and (i_call D_is_bit (hr.mono (by first | decide | omega)) (by rfl) tk (i_cons (i_var 11) i_nil)) (i_one (i_call D_is_bit (hr.mono (by first | decide | omega)) (by rfl) tk (i_cons (i_var 12) i_nil)))))))))))) (r_is_door)
theorem ok_is_open  {f : Addr} {fd : FuncData} (T : Tx w K mg) (F : FunD K "is_open" "is_open" (defArgs st_is_open) (defBody st_is_open) (defScope st_is_open) [] [] f fd) (D_is_told_name : Df P w K mg base "is_told_name" ["value"] F_is_told_name 4) (D_is_told_number : Df P w K mg base "is_told_number" ["value"] F_is_told_number 3)  : FnOk P w K mg base (L2.CX P w) (5) f fd ["item"] (spD ⟨K, mg⟩ F_is_open 1) :=
  fn_E (m := m_is_open ) F sc_is_open (fun cdv A outer s H E hr hp W tk =>
  (s_cons (s_asg (i_var 0) (g_tup (by rfl) (g_cons (g_nm 1 sc_is_open.nd) (g_cons (g_nm 2 sc_is_open.nd) (g_cons (g_nm 3 sc_is_open.nd) (g_cons (g_nm 4 sc_is_open.nd) (g_cons (g_nm 5 sc_is_open.nd) g_nil)))))))
  (s_cons (s_if (i_tnot (i_tand (i_truth (i_call D_is_told_name (hr.mono (by first | decide | omega)) (by rfl) tk (i_cons (i_var 2) i_nil))) (i_and1 (i_truth (i_call D_is_told_name (hr.mono (by first | decide | omega)) (by rfl) tk (i_cons (i_var 4) i_nil))))).pt)
  (s_one (s_ret i_bl))
  s_nil)
  (s_one (s_ret (i_and (i_call D_is_told_number (hr.mono (by first | decide | omega)) (by rfl) tk (i_cons (i_var 3) i_nil)) (i_one (i_call D_is_told_number (hr.mono (by first | decide | omega)) (by rfl) tk (i_cons (i_var 5) i_nil))))))))) (r_is_open)
theorem ok_is_wall  {f : Addr} {fd : FuncData} (T : Tx w K mg) (F : FunD K "is_wall" "is_wall" (defArgs st_is_wall) (defBody st_is_wall) (defScope st_is_wall) [] [] f fd) (D_is_told_great : Df P w K mg base "is_told_great" ["value"] F_is_told_great 3) (D_are_told_rules : Df P w K mg base "are_told_rules" ["value"] F_are_told_rules 6)  : FnOk P w K mg base (L2.CX P w) (7) f fd ["item"] (spD ⟨K, mg⟩ F_is_wall 1) :=
  fn_E (m := m_is_wall ) F sc_is_wall (fun cdv A outer s H E hr hp W tk =>
  (s_one (s_ret (i_and (i_call D_is_told_great (hr.mono (by first | decide | omega)) (by rfl) tk (i_cons (i_ix ix_seq d_ix (i_var 0) i_int) i_nil)) (i_one (i_call D_are_told_rules (hr.mono (by first | decide | omega)) (by rfl) tk (i_cons (i_ix ix_seq d_ix (i_var 0) i_int) i_nil))))))) (r_is_wall)
theorem ok_is_item  {f : Addr} {fd : FuncData} (T : Tx w K mg) (F : FunD K "is_item" "is_item" (defArgs st_is_item) (defBody st_is_item) (defScope st_is_item) [] [] f fd) (D_is_net : Df P w K mg base "is_net" ["item"] F_is_net 5) (D_is_host : Df P w K mg base "is_host" ["item"] F_is_host 5) (D_is_door : Df P w K mg base "is_door" ["item"] F_is_door 5) (D_is_open : Df P w K mg base "is_open" ["item"] F_is_open 5) (D_is_wall : Df P w K mg base "is_wall" ["item"] F_is_wall 7)  : FnOk P w K mg base (L2.CX P w) (8) f fd ["value"] (spD ⟨K, mg⟩ F_is_item 1) :=
  fn_E (m := m_is_item ) F sc_is_item (fun cdv A outer s H E hr hp W tk =>
  (s_cons (s_if (i_tor (i_tnot (i_truth (i_isa (by simp) (by rfl) T.f_isinstance (by rfl) T.f_tuple bi_tuple (i_var 0)))) (i_tor (i_tnot (i_truth (i_var 0))) (i_or1 (i_tnot (i_truth (i_isa (by simp) (by rfl) T.f_isinstance (by rfl) T.f_str bi_str (i_ix ix_seq d_ix (i_var 0) i_int))))))).pt
  (s_one (s_ret i_bl))
  s_nil)
  (s_cons (s_set 1 (i_ix ix_seq d_ix (i_var 0) i_int) sc_is_item.nd)
  (s_cons (s_if (i_tor (i_tcmp (o_notInX (hu_r hr)) d_notInX (i_var 1) (i_glob (by rfl) (by exact T.c_KINDS))) (i_or1 (i_tcmp (o_ne (hu_r hr)) d_ne (i_callB call_len d_len (by rfl) T.f_len bi_len (i_cons (i_var 0) i_nil)) (i_ix ix_kdict (by exact d_tab T.t_LENGTHS) (i_glob (by rfl) (by exact dtb_cst T.t_LENGTHS)) (i_var 1))))).pt
  (s_one (s_ret i_bl))
  s_nil)
  (s_cons (s_if (i_tcmp (o_eq (hu_r hr)) d_eq (i_var 1) i_str)
  (s_one (s_ret (i_call D_is_net (hr.mono (by first | decide | omega)) (by rfl) tk (i_cons (i_var 0) i_nil))))
  s_nil)
  (s_cons (s_if (i_tcmp (o_eq (hu_r hr)) d_eq (i_var 1) i_str)
  (s_one (s_ret (i_call D_is_host (hr.mono (by first | decide | omega)) (by rfl) tk (i_cons (i_var 0) i_nil))))
  s_nil)
  (s_cons (s_if (i_tcmp (o_eq (hu_r hr)) d_eq (i_var 1) i_str)
  (s_one (s_ret (i_call D_is_door (hr.mono (by first | decide | omega)) (by rfl) tk (i_cons (i_var 0) i_nil))))
  s_nil)
  (s_cons (s_if (i_tcmp (o_eq (hu_r hr)) d_eq (i_var 1) i_str)
  (s_one (s_ret (i_call D_is_open (hr.mono (by first | decide | omega)) (by rfl) tk (i_cons (i_var 0) i_nil))))
  s_nil)
  (s_one (s_ret (i_call D_is_wall (hr.mono (by first | decide | omega)) (by rfl) tk (i_cons (i_var 0) i_nil)))))))))))) (r_is_item)
theorem ok_has_shape  {f : Addr} {fd : FuncData} (T : Tx w K mg) (F : FunD K "has_shape" "has_shape" (defArgs st_has_shape) (defBody st_has_shape) (defScope st_has_shape) [] [] f fd) (D_is_item : Df P w K mg base "is_item" ["value"] F_is_item 8)  : FnOk P w K mg base (L2.CX P w) (9) f fd ["value"] (spD ⟨K, mg⟩ F_has_shape 1) :=
  fn_E (m := m_has_shape ) F sc_has_shape (fun cdv A outer s H E hr hp W tk =>
  (s_cons (s_if (i_tnot (i_truth (i_isa (by simp) (by rfl) T.f_isinstance (by rfl) T.f_tuple bi_tuple (i_var 0))))
  (s_one (s_ret i_bl))
  s_nil)
  (s_cons (s_for hp (by rfl) (i_var 0) (g_nm 1 sc_has_shape.nd)
  (s_one (s_if (i_tnot (i_truth (i_call D_is_item (hr.mono (by first | decide | omega)) (by rfl) tk (i_cons (i_var 1) i_nil))))
  (s_one (s_ret i_bl))
  s_nil)))
  (s_one (s_ret i_bl))))) (r_has_shape)
theorem ok_net_line  {f : Addr} {fd : FuncData} (T : Tx w K mg) (F : FunD K "net_line" "net_line" (defArgs st_net_line) (defBody st_net_line) (defScope st_net_line) [] [] f fd)   : FnOk P w K mg base (L2.CX P w) (1) f fd ["item"] (spD ⟨K, mg⟩ F_net_line 1) :=
  fn_E (m := m_net_line ) F sc_net_line (fun cdv A outer s H E hr hp W tk =>
  (s_one (s_ret (i_fs (pj_cons i_str (pj_cons (i_fmt (i_ix ix_seq d_ix (i_var 0) i_int)) (pj_cons i_str pj_nil))))))) (r_net_line)
theorem ok_host_line  {f : Addr} {fd : FuncData} (T : Tx w K mg) (F : FunD K "host_line" "host_line" (defArgs st_host_line) (defBody st_host_line) (defScope st_host_line) [] [] f fd)   : FnOk P w K mg base (L2.CX P w) (1) f fd ["item"] (spD ⟨K, mg⟩ F_host_line 1) :=
  fn_E (m := m_host_line ) F sc_host_line (fun cdv A outer s H E hr hp W tk =>
  (s_one (s_ret (i_fs (pj_cons i_str (pj_cons (i_fmt (i_ix ix_seq d_ix (i_var 0) i_int)) (pj_cons i_str (pj_cons (i_fmt (i_ix ix_seq d_ix (i_var 0) i_int)) (pj_cons i_str pj_nil))))))))) (r_host_line)
theorem ok_door_line  {f : Addr} {fd : FuncData} (T : Tx w K mg) (F : FunD K "door_line" "door_line" (defArgs st_door_line) (defBody st_door_line) (defScope st_door_line) [] [] f fd)   : FnOk P w K mg base (L2.CX P w) (1) f fd ["item"] (spD ⟨K, mg⟩ F_door_line 1) :=
  fn_E (m := m_door_line ) F sc_door_line (fun cdv A outer s H E hr hp W tk =>
  (s_cons (s_asg (i_var 0) (g_tup (by rfl) (g_cons (g_nm 2 sc_door_line.nd) (g_cons (g_nm 3 sc_door_line.nd) (g_cons (g_nm 4 sc_door_line.nd) (g_cons (g_nm 5 sc_door_line.nd) (g_cons (g_nm 6 sc_door_line.nd) (g_cons (g_nm 7 sc_door_line.nd) (g_cons (g_nm 8 sc_door_line.nd) (g_cons (g_nm 9 sc_door_line.nd) (g_cons (g_nm 10 sc_door_line.nd) (g_cons (g_nm 11 sc_door_line.nd) (g_cons (g_nm 12 sc_door_line.nd) (g_cons (g_nm 13 sc_door_line.nd) g_nil))))))))))))))
  (s_cons (s_set 1 (i_lst (i_cons (i_fs (pj_cons i_str (pj_cons (i_fmt (i_var 3)) (pj_cons i_str (pj_cons (i_fmt (i_var 4)) (pj_cons i_str (pj_cons (i_fmt (i_var 5)) pj_nil))))))) i_nil)) sc_door_line.nd)
  (s_cons (s_if (i_tcmp (o_ne (hu_r hr)) d_ne (i_var 6) (i_glob (by rfl) (by exact T.c_UNWRITTEN_MANNER)))
  (s_one (s_expr (i_lm PySem.F.slot_list_append PySem.F.type_list_append mt_append d_append (i_var 1) (i_cons (i_fs (pj_cons i_str (pj_cons (i_fmt (i_var 6)) pj_nil))) i_nil))))
  s_nil)
  (s_cons (s_if (i_tcmp (o_ne (hu_r hr)) d_ne (i_var 7) (i_glob (by rfl) (by exact T.c_UNWRITTEN_MANNER)))
  (s_one (s_expr (i_lm PySem.F.slot_list_append PySem.F.type_list_append mt_append d_append (i_var 1) (i_cons (i_fs (pj_cons i_str (pj_cons (i_fmt (i_var 7)) pj_nil))) i_nil))))
  s_nil)
  (s_cons (s_if (i_tcmp (o_ne (hu_r hr)) d_ne (i_tup (i_cons (i_var 8) (i_cons (i_var 9) i_nil))) (i_glob (by rfl) (by exact T.c_ALL_PORTS)))
  (s_one (s_expr (i_lm PySem.F.slot_list_append PySem.F.type_list_append mt_append d_append (i_var 1) (i_cons (i_fs (pj_cons i_str (pj_cons (i_fmt (i_var 8)) (pj_cons i_str (pj_cons (i_fmt (i_var 9)) pj_nil))))) i_nil))))
  s_nil)
  (s_cons (s_if (i_truth (i_var 10))
  (s_one (s_expr (i_lm PySem.F.slot_list_append PySem.F.type_list_append mt_append d_append (i_var 1) (i_cons i_str i_nil))))
  s_nil)
  (s_cons (s_if (i_tcmp (o_ne (hu_r hr)) d_ne (i_var 11) (i_glob (by rfl) (by exact T.c_UNWRITTEN_SPAN)))
  (s_one (s_expr (i_lm PySem.F.slot_list_append PySem.F.type_list_append mt_append d_append (i_var 1) (i_cons (i_fs (pj_cons i_str (pj_cons (i_fmt (i_var 11)) pj_nil))) i_nil))))
  s_nil)
  (s_cons (s_if (i_truth (i_var 12))
  (s_one (s_expr (i_lm PySem.F.slot_list_append PySem.F.type_list_append mt_append d_append (i_var 1) (i_cons i_str i_nil))))
  s_nil)
  (s_cons (s_if (i_truth (i_var 13))
  (s_one (s_expr (i_lm PySem.F.slot_list_append PySem.F.type_list_append mt_append d_append (i_var 1) (i_cons i_str i_nil))))
  s_nil)
  (s_one (s_ret (i_bin o_add d_add (i_join i_str (i_var 1)) i_str))))))))))))) (r_door_line)
theorem ok_open_line  {f : Addr} {fd : FuncData} (T : Tx w K mg) (F : FunD K "open_line" "open_line" (defArgs st_open_line) (defBody st_open_line) (defScope st_open_line) [] [] f fd)   : FnOk P w K mg base (L2.CX P w) (1) f fd ["item"] (spD ⟨K, mg⟩ F_open_line 1) :=
  fn_E (m := m_open_line ) F sc_open_line (fun cdv A outer s H E hr hp W tk =>
  (s_one (s_ret (i_fs (pj_cons i_str (pj_cons (i_fmt (i_ix ix_seq d_ix (i_var 0) i_int)) (pj_cons i_str (pj_cons (i_fmt (i_ix ix_seq d_ix (i_var 0) i_int)) (pj_cons i_str (pj_cons (i_fmt (i_ix ix_seq d_ix (i_var 0) i_int)) (pj_cons i_str (pj_cons (i_fmt (i_ix ix_seq d_ix (i_var 0) i_int)) (pj_cons i_str pj_nil))))))))))))) (r_open_line)
theorem ok_range_words  {f : Addr} {fd : FuncData} (T : Tx w K mg) (F : FunD K "range_words" "range_words" (defArgs st_range_words) (defBody st_range_words) (defScope st_range_words) [] [] f fd)   : FnOk P w K mg base (L2.CX P w) (1) f fd ["told"] (spD ⟨K, mg⟩ F_range_words 1) :=
  fn_E (m := m_range_words ) F sc_range_words (fun cdv A outer s H E hr hp W tk =>
  (s_cons (s_asg (i_var 0) (g_tup (by rfl) (g_cons (g_nm 1 sc_range_words.nd) (g_cons (g_nm 2 sc_range_words.nd) g_nil))))
  (s_cons (s_if (i_tcmp (o_eq (hu_r hr)) d_eq (i_var 0) (i_glob (by rfl) (by exact T.c_ANY)))
  (s_one (s_ret i_str))
  s_nil)
  (s_cons (s_if (i_tcmp (o_eq (hu_r hr)) d_eq (i_var 1) (i_var 2))
  (s_one (s_ret (i_fs1 (i_fmt (i_var 1)))))
  s_nil)
  (s_one (s_ret (i_fs (pj_cons (i_fmt (i_var 1)) (pj_cons i_str (pj_cons (i_fmt (i_var 2)) pj_nil)))))))))) (r_range_words)
theorem ok_rule_line  {f : Addr} {fd : FuncData} (T : Tx w K mg) (F : FunD K "rule_line" "rule_line" (defArgs st_rule_line) (defBody st_rule_line) (defScope st_rule_line) [] [] f fd) (D_range_words : Df P w K mg base "range_words" ["told"] F_range_words 1)  : FnOk P w K mg base (L2.CX P w) (2) f fd ["rule"] (spD ⟨K, mg⟩ F_rule_line 1) :=
  fn_E (m := m_rule_line ) F sc_rule_line (fun cdv A outer s H E hr hp W tk =>
  (s_cons (s_asg (i_var 0) (g_tup (by rfl) (g_cons (g_nm 2 sc_rule_line.nd) (g_cons (g_nm 3 sc_rule_line.nd) (g_cons (g_nm 4 sc_rule_line.nd) (g_cons (g_nm 5 sc_rule_line.nd) g_nil))))))
  (s_cons (s_set 1 (i_ifx (i_truth (i_var 2)) i_str i_str) sc_rule_line.nd)
  (s_one (s_ret (i_fs (pj_cons i_str (pj_cons (i_fmt (i_var 1)) (pj_cons i_str (pj_cons (i_fmt (i_call D_range_words (hr.mono (by first | decide | omega)) (by rfl) tk (i_cons (i_var 3) i_nil))) (pj_cons i_str (pj_cons (i_fmt (i_call D_range_words (hr.mono (by first | decide | omega)) (by rfl) tk (i_cons (i_var 4) i_nil))) (pj_cons i_str (pj_cons (i_fmt (i_call D_range_words (hr.mono (by first | decide | omega)) (by rfl) tk (i_cons (i_var 5) i_nil))) (pj_cons i_str pj_nil))))))))))))))) (r_rule_line)
theorem ok_wall_lines  {f : Addr} {fd : FuncData} (T : Tx w K mg) (F : FunD K "wall_lines" "wall_lines" (defArgs st_wall_lines) (defBody st_wall_lines) (defScope st_wall_lines) [] [] f fd) (D_rule_line : Df P w K mg base "rule_line" ["rule"] F_rule_line 2)  : FnOk P w K mg base (L2.CX P w) (3) f fd ["item"] (spD ⟨K, mg⟩ F_wall_lines 1) :=
  fn_E (m := m_wall_lines ) F sc_wall_lines (fun cdv A outer s H E hr hp W tk =>
  (s_cons (s_set 1 (i_lst (i_cons (i_fs (pj_cons i_str (pj_cons (i_fmt (i_ix ix_seq d_ix (i_var 0) i_int)) (pj_cons i_str pj_nil)))) i_nil)) sc_wall_lines.nd)
  (s_cons (s_for hp (by rfl) (i_ix ix_seq d_ix (i_var 0) i_int) (g_nm 2 sc_wall_lines.nd)
  (s_one (s_expr (i_lm PySem.F.slot_list_append PySem.F.type_list_append mt_append d_append (i_var 1) (i_cons (i_call D_rule_line (hr.mono (by first | decide | omega)) (by rfl) tk (i_cons (i_var 2) i_nil)) i_nil)))))
  (s_cons (s_expr (i_lm PySem.F.slot_list_append PySem.F.type_list_append mt_append d_append (i_var 1) (i_cons i_str i_nil)))
  (s_one (s_ret (i_var 1))))))) (r_wall_lines)
theorem ok_item_lines  {f : Addr} {fd : FuncData} (T : Tx w K mg) (F : FunD K "item_lines" "item_lines" (defArgs st_item_lines) (defBody st_item_lines) (defScope st_item_lines) [] [] f fd) (D_net_line : Df P w K mg base "net_line" ["item"] F_net_line 1) (D_host_line : Df P w K mg base "host_line" ["item"] F_host_line 1) (D_door_line : Df P w K mg base "door_line" ["item"] F_door_line 1) (D_open_line : Df P w K mg base "open_line" ["item"] F_open_line 1) (D_wall_lines : Df P w K mg base "wall_lines" ["item"] F_wall_lines 3)  : FnOk P w K mg base (L2.CX P w) (4) f fd ["item"] (spD ⟨K, mg⟩ F_item_lines 1) :=
  fn_E (m := m_item_lines ) F sc_item_lines (fun cdv A outer s H E hr hp W tk =>
  (s_cons (s_set 1 (i_ix ix_seq d_ix (i_var 0) i_int) sc_item_lines.nd)
  (s_cons (s_if (i_tcmp (o_eq (hu_r hr)) d_eq (i_var 1) i_str)
  (s_one (s_ret (i_lst (i_cons (i_call D_net_line (hr.mono (by first | decide | omega)) (by rfl) tk (i_cons (i_var 0) i_nil)) i_nil))))
  s_nil)
  (s_cons (s_if (i_tcmp (o_eq (hu_r hr)) d_eq (i_var 1) i_str)
  (s_one (s_ret (i_lst (i_cons (i_call D_host_line (hr.mono (by first | decide | omega)) (by rfl) tk (i_cons (i_var 0) i_nil)) i_nil))))
  s_nil)
  (s_cons (s_if (i_tcmp (o_eq (hu_r hr)) d_eq (i_var 1) i_str)
  (s_one (s_ret (i_lst (i_cons (i_call D_door_line (hr.mono (by first | decide | omega)) (by rfl) tk (i_cons (i_var 0) i_nil)) i_nil))))
  s_nil)
  (s_cons (s_if (i_tcmp (o_eq (hu_r hr)) d_eq (i_var 1) i_str)
  (s_one (s_ret (i_lst (i_cons (i_call D_open_line (hr.mono (by first | decide | omega)) (by rfl) tk (i_cons (i_var 0) i_nil)) i_nil))))
  s_nil)
  (s_one (s_ret (i_call D_wall_lines (hr.mono (by first | decide | omega)) (by rfl) tk (i_cons (i_var 0) i_nil)))))))))) (r_item_lines)
theorem ok_write  {f : Addr} {fd : FuncData} (T : Tx w K mg) (F : FunD K "write" "write" (defArgs st_write) (defBody st_write) (defScope st_write) [] [] f fd) (D_has_shape : Df P w K mg base "has_shape" ["value"] F_has_shape 9) (D_item_lines : Df P w K mg base "item_lines" ["item"] F_item_lines 4)  : FnOk P w K mg base (L2.CX P w) (10) f fd ["plan"] (spD ⟨K, mg⟩ F_write 1) :=
  fn_E (m := m_write ) F sc_write (fun cdv A outer s H E hr hp W tk =>
  (s_cons (s_if (i_tnot (i_truth (i_call D_has_shape (hr.mono (by first | decide | omega)) (by rfl) tk (i_cons (i_var 0) i_nil))))
  (s_one (s_raise T.x_BadPlan (by rfl) tk (by rfl)))
  s_nil)
  (s_cons (s_set 1 (i_lst i_nil) sc_write.nd)
  (s_cons (s_for hp (by rfl) (i_var 0) (g_nm 2 sc_write.nd)
  (s_one (s_expr (i_lm PySem.F.slot_list_extend PySem.F.type_list_extend mt_extend d_extend (i_var 1) (i_cons (i_call D_item_lines (hr.mono (by first | decide | omega)) (by rfl) tk (i_cons (i_var 2) i_nil)) i_nil)))))
  (s_one (s_ret (i_join i_str (i_lc (own := [("line", 3)]) (by rfl) sc_write.nd (wi_row (i_var 1)) (blkOk_by (N := ["plan", "lines", "item", "line"]) (sc := defScope st_write) (by decide +kernel)) (own_nm (by decide)) (fun _ _ _ _ _ => pg_name (i := 3) sc_write.nd (by rfl) (by first | exact Or.inl (by rfl) | exact Or.inr (by rfl))) (by exact fun _ _ _ _ _ => pts_yes) (by exact fun _ _ _ _ _ => (i_bin o_add d_add (i_var 3) i_str)))))))))) (r_write)
theorem ok__law_tape  {f : Addr} {fd : FuncData} (T : Tx w K mg) (F : FunD K "_law_tape" "_law_tape" (defArgs st__law_tape) (defBody st__law_tape) (defScope st__law_tape) [] [] f fd)   : FnOk P w K mg base (L2.CX P w) (1) f fd ["script"] (spD ⟨K, mg⟩ F__law_tape 1) :=
  fn_E (m := m__law_tape ) F sc__law_tape (fun cdv A outer s H E hr hp W tk =>
  (s_cons (s_set 1 (i_lst i_nil) sc__law_tape.nd)
  (s_cons (s_set 2 i_int sc__law_tape.nd)
  (s_cons (s_for hp (by rfl) (i_slice (i_var 0) i_nopart (i_part i_int)) (g_nm 3 sc__law_tape.nd)
  (s_cons (s_set 2 (i_bin op_modN d_mod (i_callTy call_int1 d_int (by rfl) T.f_int bi_int (i_cons (i_bin o_add d_add (i_bin o_mul d_mul (i_var 2) i_int) (i_callTy call_int1 d_int (by rfl) T.f_int bi_int (i_cons (i_var 3) i_nil))) i_nil)) i_int) sc__law_tape.nd)
  (s_one (s_if (i_tcmp o_ge d_ord (i_callB call_abs d_abs (by rfl) T.f_abs bi_abs (i_cons (i_callTy call_int1 d_int (by rfl) T.f_int bi_int (i_cons (i_var 3) i_nil)) i_nil)) (i_bin op_pow d_pow i_int i_int))
  (s_one (s_expr (i_lm PySem.F.slot_list_append PySem.F.type_list_append mt_append d_append (i_var 1) (i_cons (i_callB call_abs d_abs (by rfl) T.f_abs bi_abs (i_cons (i_callTy call_int1 d_int (by rfl) T.f_int bi_int (i_cons (i_var 3) i_nil)) i_nil)) i_nil))))
  s_nil))))
  (s_cons (s_expr (i_lm0 PySem.F.slot_list_reverse PySem.F.type_list_reverse mt_reverse d_reverse (i_var 1)))
  (s_one (s_ret (i_lst (i_cons (i_var 1) (i_cons (i_var 2) (i_cons i_int i_nil))))))))))) (r__law_tape)
theorem ok__law_draw  {f : Addr} {fd : FuncData} (T : Tx w K mg) (F : FunD K "_law_draw" "_law_draw" (defArgs st__law_draw) (defBody st__law_draw) (defScope st__law_draw) [] [] f fd)   : FnOk P w K mg base (L2.CX P w) (1) f fd ["tape", "limit"] (spD ⟨K, mg⟩ F__law_draw 2) :=
  fn_E (m := m__law_draw ) F sc__law_draw (fun cdv A outer s H E hr hp W tk =>
  (s_cons (s_set 2 (i_ix ix_seq d_ix (i_var 0) i_int) sc__law_draw.nd)
  (s_cons (s_if (i_tand (i_truth (i_var 2)) (i_and1 (i_tcmp o_gt d_ord (i_var 1) i_int))).pt
  (s_cons (s_set 4 (i_lm0 PySem.F.slot_list_pop PySem.F.type_list_pop mt_pop d_pop (i_var 2)) sc__law_draw.nd)
  (s_cons (s_if (i_tcmp o_ge d_ord (i_var 4) (i_var 1))
  (s_one (s_expr (i_lm PySem.F.slot_list_append PySem.F.type_list_append mt_append d_append (i_var 2) (i_cons (i_bin op_fdivW d_div (i_var 4) (i_var 1)) i_nil))))
  s_nil)
  (s_one (s_ret (i_bin op_modN d_mod (i_callTy call_int1 d_int (by rfl) T.f_int bi_int (i_cons (i_var 4) i_nil)) (i_var 1))))))
  s_nil)
  (s_cons (s_asg (i_bin o_add d_add (i_ix ix_seq d_ix (i_var 0) i_int) i_int) (g_sub (W := W) (i_var 0) i_int))
  (s_cons (s_set 3 (i_bin op_modN d_mod (i_callTy call_int1 d_int (by rfl) T.f_int bi_int (i_cons (i_bin o_add d_add (i_bin o_mul d_mul (i_callTy call_int1 d_int (by rfl) T.f_int bi_int (i_cons (i_bin o_add d_add (i_ix ix_seq d_ix (i_var 0) i_int) (i_ix ix_seq d_ix (i_var 0) i_int)) i_nil)) i_int) (i_bin o_mul d_mul (i_bin o_mul d_mul (i_ix ix_seq d_ix (i_var 0) i_int) (i_ix ix_seq d_ix (i_var 0) i_int)) i_int)) i_nil)) i_int) sc__law_draw.nd)
  (s_one (s_ret (i_bin op_modN d_mod (i_callTy call_int1 d_int (by rfl) T.f_int bi_int (i_cons (i_bin op_fdivW d_div (i_bin op_modN d_mod (i_callTy call_int1 d_int (by rfl) T.f_int bi_int (i_cons (i_bin o_add d_add (i_bin o_mul d_mul (i_var 3) (i_var 3)) (i_bin o_mul d_mul (i_ix ix_seq d_ix (i_var 0) i_int) i_int)) i_nil)) i_int) i_int) i_nil)) (i_var 1))))))))) (r__law_draw)
theorem ok__law_pick  {f : Addr} {fd : FuncData} (T : Tx w K mg) (F : FunD K "_law_pick" "_law_pick" (defArgs st__law_pick) (defBody st__law_pick) (defScope st__law_pick) [] [] f fd) (D__law_draw : Df P w K mg base "_law_draw" ["tape", "limit"] F__law_draw 1)  : FnOk P w K mg base (L2.CX P w) (2) f fd ["tape", "row"] (spD ⟨K, mg⟩ F__law_pick 2) :=
  fn_E (m := m__law_pick ) F sc__law_pick (fun cdv A outer s H E hr hp W tk =>
  (s_one (s_ret (i_ix ix_seq d_ix (i_var 1) (i_call D__law_draw (hr.mono (by first | decide | omega)) (by rfl) tk (i_cons (i_var 0) (i_cons (i_callB call_len d_len (by rfl) T.f_len bi_len (i_cons (i_var 1) i_nil)) i_nil))))))) (r__law_pick)
theorem ok__law_same (n : Nat) {f : Addr} {fd : FuncData} (T : Tx w K mg) (F : FunD K "_law_same" "_law_same" (defArgs st__law_same) (defBody st__law_same) (defScope st__law_same) [] [] f fd) (D__law_same : Df P w K mg base "_law_same" ["told", "due"] (Fp_same n) n)  : FnOk P w K mg base (L2.CX P w) (n + 1) f fd ["told", "due"] (spD ⟨K, mg⟩ (Fp_same (n + 1)) 2) :=
  fn_E (m := m__law_same n) F sc__law_same (fun cdv A outer s H E hr hp W tk =>
  (s_cons (s_if (i_tcmp op_isN d_isN (i_var 1) i_non)
  (s_one (s_ret (i_cmp op_isN d_isN (i_var 0) i_non)))
  s_nil)
  (s_cons (s_if (i_tcmp op_isB d_isB (i_var 1) i_bl)
  (s_one (s_ret (i_cmp op_isB d_isB (i_var 0) i_bl)))
  s_nil)
  (s_cons (s_if (i_tcmp op_isB d_isB (i_var 1) i_bl)
  (s_one (s_ret (i_cmp op_isB d_isB (i_var 0) i_bl)))
  s_nil)
  (s_cons (s_if (i_truth (i_isa (by simp) (by rfl) T.f_isinstance (by rfl) T.f_str bi_str (i_var 1)))
  (s_one (s_ret (i_and (i_isa (by simp) (by rfl) T.f_isinstance (by rfl) T.f_str bi_str (i_var 0)) (i_one (i_cmp (o_eq (hu_r hr)) d_eq (i_var 0) (i_var 1))))))
  s_nil)
  (s_cons (s_if (i_truth (i_isa (by simp) (by rfl) T.f_isinstance (by rfl) T.f_int bi_int (i_var 1)))
  (s_one (s_ret (i_and (i_isa (by simp) (by rfl) T.f_isinstance (by rfl) T.f_int bi_int (i_var 0)) (i_and (i_not (i_isa (by simp) (by rfl) T.f_isinstance (by rfl) T.f_bool bi_bool (i_var 0))) (i_one (i_cmp (o_eq (hu_r hr)) d_eq (i_var 0) (i_var 1)))))))
  s_nil)
  (s_cons (s_if (i_tor (i_tnot (i_truth (i_isa (by simp) (by rfl) T.f_isinstance (by rfl) T.f_tuple bi_tuple (i_var 0)))) (i_or1 (i_tcmp (o_ne (hu_r hr)) d_ne (i_callB call_len d_len (by rfl) T.f_len bi_len (i_cons (i_var 0) i_nil)) (i_callB call_len d_len (by rfl) T.f_len bi_len (i_cons (i_var 1) i_nil))))).pt
  (s_one (s_ret i_bl))
  s_nil)
  (s_cons (s_range1 hp (by rfl) (by rfl) T.f_range (i_cons (i_callB call_len d_len (by rfl) T.f_len bi_len (i_cons (i_var 1) i_nil)) i_nil) (g_nm 2 sc__law_same.nd)
  (s_one (s_if (i_tnot (i_truth (i_call D__law_same (hr.mono (by first | decide | omega)) (by rfl) tk (i_cons (i_ix ix_seq d_ix (i_var 0) (i_var 2)) (i_cons (i_ix ix_seq d_ix (i_var 1) (i_var 2)) i_nil)))))
  (s_one (s_ret i_bl))
  s_nil)))
  (s_one (s_ret i_bl)))))))))) (r__law_same n)
theorem rec__law_same {f : Addr} {fd : FuncData} (T : Tx w K mg) (F : FunD K "_law_same" "_law_same" (defArgs st__law_same) (defBody st__law_same) (defScope st__law_same) [] [] f fd) (g : mg "_law_same" = some (.ref f)) (b : Binds K fd ["told", "due"] [])  : ∀ n : Nat, FnOk P w K mg base (L2.CX P w) n f fd ["told", "due"] (spD ⟨K, mg⟩ (Fp_same n) 2)
  | 0 => fnok_no
  | n + 1 => ok__law_same n T F (df_mk F g b (rec__law_same T F g b  n))
theorem ok__law_name  {f : Addr} {fd : FuncData} (T : Tx w K mg) (F : FunD K "_law_name" "_law_name" (defArgs st__law_name) (defBody st__law_name) (defScope st__law_name) [] [] f fd) (D__law_draw : Df P w K mg base "_law_draw" ["tape", "limit"] F__law_draw 1)  : FnOk P w K mg base (L2.CX P w) (2) f fd ["tape", "used"] (spD ⟨K, mg⟩ F__law_name 2) :=
  fn_E (m := m__law_name ) F sc__law_name (fun cdv A outer s H E hr hp W tk =>
  (s_cons (s_set 2 (i_ix ix_seq d_ix i_str (i_call D__law_draw (hr.mono (by first | decide | omega)) (by rfl) tk (i_cons (i_var 0) (i_cons i_int i_nil)))) sc__law_name.nd)
  (s_cons (s_range1 hp (by rfl) (by rfl) T.f_range (i_cons (i_call D__law_draw (hr.mono (by first | decide | omega)) (by rfl) tk (i_cons (i_var 0) (i_cons (i_ix ix_seq d_ix (i_lst (i_cons i_int (i_cons i_int (i_cons i_int (i_cons i_int i_nil))))) (i_call D__law_draw (hr.mono (by first | decide | omega)) (by rfl) tk (i_cons (i_var 0) (i_cons i_int i_nil)))) i_nil))) i_nil) (g_nm 3 sc__law_name.nd)
  (s_one (s_set 2 (i_bin o_add d_add (i_var 2) (i_ix ix_seq d_ix i_str (i_call D__law_draw (hr.mono (by first | decide | omega)) (by rfl) tk (i_cons (i_var 0) (i_cons i_int i_nil))))) sc__law_name.nd)))
  (s_cons (s_set 4 (i_lst (i_cons i_str (i_cons i_str (i_cons i_str (i_cons i_str (i_cons i_str (i_cons i_str (i_cons i_str (i_cons i_str (i_cons i_str (i_cons i_str (i_cons i_str (i_cons i_str (i_cons i_str i_nil)))))))))))))) sc__law_name.nd)
  (s_cons (s_set 4 (i_bin o_add d_add (i_var 4) (i_lst (i_cons i_str (i_cons i_str (i_cons i_str (i_cons i_str (i_cons i_str (i_cons i_str i_nil)))))))) sc__law_name.nd)
  (s_cons (s_range1 hp (by rfl) (by rfl) T.f_range (i_cons i_int i_nil) (g_nm 3 sc__law_name.nd)
  (s_cons (s_if (i_tand (i_tcmp (o_notInX (hu_r hr)) d_notInX (i_var 2) (i_var 1)) (i_and1 (i_tcmp (o_notInX (hu_r hr)) d_notInX (i_var 2) (i_var 4)))).pt
  (s_one s_break)
  s_nil)
  (s_one (s_set 2 (i_bin o_add d_add (i_var 2) (i_ix ix_seq d_ix i_str (i_bin op_modN d_mod (i_var 3) i_int))) sc__law_name.nd))))
  (s_cons (s_expr (i_lm PySem.F.slot_list_append PySem.F.type_list_append mt_append d_append (i_var 1) (i_cons (i_var 2) i_nil)))
  (s_one (s_ret (i_var 2)))))))))) (r__law_name)
theorem ok__law_door_line  {f : Addr} {fd : FuncData} (T : Tx w K mg) (F : FunD K "_law_door_line" "_law_door_line" (defArgs st__law_door_line) (defBody st__law_door_line) (defScope st__law_door_line) [] [] f fd)   : FnOk P w K mg base (L2.CX P w) (1) f fd ["item"] (spD ⟨K, mg⟩ F__law_door_line 1) :=
  fn_E (m := m__law_door_line ) F sc__law_door_line (fun cdv A outer s H E hr hp W tk =>
  (s_cons (s_set 1 (i_bin o_add d_add (i_bin o_add d_add (i_bin o_add d_add (i_bin o_add d_add (i_bin o_add d_add i_str (i_ix ix_seq d_ix (i_var 0) i_int)) i_str) (i_ix ix_seq d_ix (i_var 0) i_int)) i_str) (i_ix ix_seq d_ix (i_var 0) i_int)) sc__law_door_line.nd)
  (s_cons (s_if (i_tcmp (o_ne (hu_r hr)) d_ne (i_ix ix_seq d_ix (i_var 0) i_int) i_int)
  (s_one (s_set 1 (i_bin o_add d_add (i_bin o_add d_add (i_var 1) i_str) (i_callTy call_str_int d_str (by rfl) T.f_str bi_str (i_cons (i_ix ix_seq d_ix (i_var 0) i_int) i_nil))) sc__law_door_line.nd))
  s_nil)
  (s_cons (s_if (i_tcmp (o_ne (hu_r hr)) d_ne (i_ix ix_seq d_ix (i_var 0) i_int) i_int)
  (s_one (s_set 1 (i_bin o_add d_add (i_bin o_add d_add (i_var 1) i_str) (i_callTy call_str_int d_str (by rfl) T.f_str bi_str (i_cons (i_ix ix_seq d_ix (i_var 0) i_int) i_nil))) sc__law_door_line.nd))
  s_nil)
  (s_cons (s_if (i_tor (i_tcmp (o_ne (hu_r hr)) d_ne (i_ix ix_seq d_ix (i_var 0) i_int) i_int) (i_or1 (i_tcmp (o_ne (hu_r hr)) d_ne (i_ix ix_seq d_ix (i_var 0) i_int) i_int))).pt
  (s_one (s_set 1 (i_bin o_add d_add (i_bin o_add d_add (i_bin o_add d_add (i_bin o_add d_add (i_var 1) i_str) (i_callTy call_str_int d_str (by rfl) T.f_str bi_str (i_cons (i_ix ix_seq d_ix (i_var 0) i_int) i_nil))) i_str) (i_callTy call_str_int d_str (by rfl) T.f_str bi_str (i_cons (i_ix ix_seq d_ix (i_var 0) i_int) i_nil))) sc__law_door_line.nd))
  s_nil)
  (s_cons (s_if (i_tcmp (o_eq (hu_r hr)) d_eq (i_ix ix_seq d_ix (i_var 0) i_int) i_int)
  (s_one (s_set 1 (i_bin o_add d_add (i_var 1) i_str) sc__law_door_line.nd))
  s_nil)
  (s_cons (s_if (i_tcmp (o_ne (hu_r hr)) d_ne (i_ix ix_seq d_ix (i_var 0) i_int) i_int)
  (s_one (s_set 1 (i_bin o_add d_add (i_bin o_add d_add (i_var 1) i_str) (i_callTy call_str_int d_str (by rfl) T.f_str bi_str (i_cons (i_ix ix_seq d_ix (i_var 0) i_int) i_nil))) sc__law_door_line.nd))
  s_nil)
  (s_cons (s_if (i_tcmp (o_eq (hu_r hr)) d_eq (i_ix ix_seq d_ix (i_var 0) i_int) i_int)
  (s_one (s_set 1 (i_bin o_add d_add (i_var 1) i_str) sc__law_door_line.nd))
  s_nil)
  (s_cons (s_if (i_tcmp (o_eq (hu_r hr)) d_eq (i_ix ix_seq d_ix (i_var 0) i_int) i_int)
  (s_one (s_set 1 (i_bin o_add d_add (i_var 1) i_str) sc__law_door_line.nd))
  s_nil)
  (s_one (s_ret (i_bin o_add d_add (i_var 1) i_str)))))))))))) (r__law_door_line)
theorem ok__law_range_text  {f : Addr} {fd : FuncData} (T : Tx w K mg) (F : FunD K "_law_range_text" "_law_range_text" (defArgs st__law_range_text) (defBody st__law_range_text) (defScope st__law_range_text) [] [] f fd)   : FnOk P w K mg base (L2.CX P w) (1) f fd ["pair"] (spD ⟨K, mg⟩ F__law_range_text 1) :=
  fn_E (m := m__law_range_text ) F sc__law_range_text (fun cdv A outer s H E hr hp W tk =>
  (s_cons (s_if (i_tcmp (o_eq (hu_r hr)) d_eq (i_var 0) (i_tup (i_cons i_int (i_cons i_int i_nil))))
  (s_one (s_ret i_str))
  s_nil)
  (s_cons (s_if (i_tcmp (o_eq (hu_r hr)) d_eq (i_ix ix_seq d_ix (i_var 0) i_int) (i_ix ix_seq d_ix (i_var 0) i_int))
  (s_one (s_ret (i_callTy call_str_int d_str (by rfl) T.f_str bi_str (i_cons (i_ix ix_seq d_ix (i_var 0) i_int) i_nil))))
  s_nil)
  (s_one (s_ret (i_bin o_add d_add (i_bin o_add d_add (i_callTy call_str_int d_str (by rfl) T.f_str bi_str (i_cons (i_ix ix_seq d_ix (i_var 0) i_int) i_nil)) i_str) (i_callTy call_str_int d_str (by rfl) T.f_str bi_str (i_cons (i_ix ix_seq d_ix (i_var 0) i_int) i_nil)))))))) (r__law_range_text)
theorem ok__law_rules_lines  {f : Addr} {fd : FuncData} (T : Tx w K mg) (F : FunD K "_law_rules_lines" "_law_rules_lines" (defArgs st__law_rules_lines) (defBody st__law_rules_lines) (defScope st__law_rules_lines) [] [] f fd) (D__law_range_text : Df P w K mg base "_law_range_text" ["pair"] F__law_range_text 1)  : FnOk P w K mg base (L2.CX P w) (2) f fd ["item"] (spD ⟨K, mg⟩ F__law_rules_lines 1) :=
  fn_E (m := m__law_rules_lines ) F sc__law_rules_lines (fun cdv A outer s H E hr hp W tk =>
  (s_cons (s_set 1 (i_bin o_add d_add (i_bin o_add d_add i_str (i_ix ix_seq d_ix (i_var 0) i_int)) i_str) sc__law_rules_lines.nd)
  (s_cons (s_for hp (by rfl) (i_ix ix_seq d_ix (i_var 0) i_int) (g_nm 2 sc__law_rules_lines.nd)
  (s_cons (s_set 1 (i_bin o_add d_add (i_bin o_add d_add (i_bin o_add d_add (i_bin o_add d_add (i_bin o_add d_add (i_var 1) i_str) (i_ix ix_seq d_ix (i_lst (i_cons i_str (i_cons i_str i_nil))) (i_ix ix_seq d_ix (i_var 2) i_int))) i_str) (i_call D__law_range_text (hr.mono (by first | decide | omega)) (by rfl) tk (i_cons (i_ix ix_seq d_ix (i_var 2) i_int) i_nil))) i_str) sc__law_rules_lines.nd)
  (s_one (s_set 1 (i_bin o_add d_add (i_bin o_add d_add (i_bin o_add d_add (i_bin o_add d_add (i_var 1) (i_call D__law_range_text (hr.mono (by first | decide | omega)) (by rfl) tk (i_cons (i_ix ix_seq d_ix (i_var 2) i_int) i_nil))) i_str) (i_call D__law_range_text (hr.mono (by first | decide | omega)) (by rfl) tk (i_cons (i_ix ix_seq d_ix (i_var 2) i_int) i_nil))) i_str) sc__law_rules_lines.nd))))
  (s_one (s_ret (i_bin o_add d_add (i_var 1) i_str)))))) (r__law_rules_lines)
theorem ok__law_line  {f : Addr} {fd : FuncData} (T : Tx w K mg) (F : FunD K "_law_line" "_law_line" (defArgs st__law_line) (defBody st__law_line) (defScope st__law_line) [] [] f fd) (D__law_rules_lines : Df P w K mg base "_law_rules_lines" ["item"] F__law_rules_lines 2) (D__law_door_line : Df P w K mg base "_law_door_line" ["item"] F__law_door_line 1)  : FnOk P w K mg base (L2.CX P w) (3) f fd ["item"] (spD ⟨K, mg⟩ F__law_line 1) :=
  fn_E (m := m__law_line ) F sc__law_line (fun cdv A outer s H E hr hp W tk =>
  (s_cons (s_if (i_tcmp (o_eq (hu_r hr)) d_eq (i_ix ix_seq d_ix (i_var 0) i_int) i_str)
  (s_one (s_ret (i_bin o_add d_add (i_bin o_add d_add i_str (i_ix ix_seq d_ix (i_var 0) i_int)) i_str)))
  s_nil)
  (s_cons (s_if (i_tcmp (o_eq (hu_r hr)) d_eq (i_ix ix_seq d_ix (i_var 0) i_int) i_str)
  (s_one (s_ret (i_bin o_add d_add (i_bin o_add d_add (i_bin o_add d_add (i_bin o_add d_add i_str (i_ix ix_seq d_ix (i_var 0) i_int)) i_str) (i_ix ix_seq d_ix (i_var 0) i_int)) i_str)))
  s_nil)
  (s_cons (s_if (i_tcmp (o_eq (hu_r hr)) d_eq (i_ix ix_seq d_ix (i_var 0) i_int) i_str)
  (s_one (s_ret (i_bin o_add d_add (i_bin o_add d_add (i_bin o_add d_add (i_bin o_add d_add (i_bin o_add d_add (i_bin o_add d_add (i_bin o_add d_add (i_bin o_add d_add i_str (i_ix ix_seq d_ix (i_var 0) i_int)) i_str) (i_callTy call_str_int d_str (by rfl) T.f_str bi_str (i_cons (i_ix ix_seq d_ix (i_var 0) i_int) i_nil))) i_str) (i_ix ix_seq d_ix (i_var 0) i_int)) i_str) (i_callTy call_str_int d_str (by rfl) T.f_str bi_str (i_cons (i_ix ix_seq d_ix (i_var 0) i_int) i_nil))) i_str)))
  s_nil)
  (s_cons (s_if (i_tcmp (o_eq (hu_r hr)) d_eq (i_ix ix_seq d_ix (i_var 0) i_int) i_str)
  (s_one (s_ret (i_call D__law_rules_lines (hr.mono (by first | decide | omega)) (by rfl) tk (i_cons (i_var 0) i_nil))))
  s_nil)
  (s_one (s_ret (i_call D__law_door_line (hr.mono (by first | decide | omega)) (by rfl) tk (i_cons (i_var 0) i_nil))))))))) (r__law_line)
theorem ok__law_pools  {f : Addr} {fd : FuncData} (T : Tx w K mg) (F : FunD K "_law_pools" "_law_pools" (defArgs st__law_pools) (defBody st__law_pools) (defScope st__law_pools) [] [] f fd) (D__law_name : Df P w K mg base "_law_name" ["tape", "used"] F__law_name 2) (D__law_draw : Df P w K mg base "_law_draw" ["tape", "limit"] F__law_draw 1)  : FnOk P w K mg base (L2.CX P w) (3) f fd ["tape"] (spD ⟨K, mg⟩ F__law_pools 1) :=
  fn_E (m := m__law_pools ) F sc__law_pools (fun cdv A outer s H E hr hp W tk =>
  (s_cons (s_set 1 (i_lst i_nil) sc__law_pools.nd)
  (s_cons (s_set 2 (i_lst i_nil) sc__law_pools.nd)
  (s_cons (s_range1 hp (by rfl) (by rfl) T.f_range (i_cons i_int i_nil) (g_nm 3 sc__law_pools.nd)
  (s_cons (s_expr (i_call D__law_name (hr.mono (by first | decide | omega)) (by rfl) tk (i_cons (i_var 0) (i_cons (i_var 1) i_nil))))
  (s_one (s_expr (i_call D__law_name (hr.mono (by first | decide | omega)) (by rfl) tk (i_cons (i_var 0) (i_cons (i_var 2) i_nil)))))))
  (s_cons (s_if (i_tcmp (o_notInX (hu_r hr)) d_notInX (i_ix ix_seq d_ix (i_var 2) i_int) (i_var 1))
  (s_one (s_asg (i_ix ix_seq d_ix (i_var 2) i_int) (g_sub (W := W) (i_var 1) i_int)))
  s_nil)
  (s_cons (s_set 4 (i_lst i_nil) sc__law_pools.nd)
  (s_cons (s_range1 hp (by rfl) (by rfl) T.f_range (i_cons i_int i_nil) (g_nm 3 sc__law_pools.nd)
  (s_cons (s_set 5 (i_ix ix_seq d_ix i_str (i_call D__law_draw (hr.mono (by first | decide | omega)) (by rfl) tk (i_cons (i_var 0) (i_cons i_int i_nil)))) sc__law_pools.nd)
  (s_cons (s_range1 hp (by rfl) (by rfl) T.f_range (i_cons (i_call D__law_draw (hr.mono (by first | decide | omega)) (by rfl) tk (i_cons (i_var 0) (i_cons (i_ix ix_seq d_ix (i_lst (i_cons i_int (i_cons i_int (i_cons i_int i_nil)))) (i_call D__law_draw (hr.mono (by first | decide | omega)) (by rfl) tk (i_cons (i_var 0) (i_cons i_int i_nil)))) i_nil))) i_nil) (g_nm 6 sc__law_pools.nd)
  (s_one (s_set 5 (i_bin o_add d_add (i_var 5) (i_ix ix_seq d_ix i_str (i_call D__law_draw (hr.mono (by first | decide | omega)) (by rfl) tk (i_cons (i_var 0) (i_cons i_int i_nil))))) sc__law_pools.nd)))
  (s_one (s_expr (i_lm PySem.F.slot_list_append PySem.F.type_list_append mt_append d_append (i_var 4) (i_cons (i_var 5) i_nil)))))))
  (s_one (s_ret (i_lst (i_cons (i_var 1) (i_cons (i_var 2) (i_cons (i_var 4) i_nil))))))))))))) (r__law_pools)
theorem ok__law_loose_door  {f : Addr} {fd : FuncData} (T : Tx w K mg) (F : FunD K "_law_loose_door" "_law_loose_door" (defArgs st__law_loose_door) (defBody st__law_loose_door) (defScope st__law_loose_door) [] [] f fd) (D__law_pick : Df P w K mg base "_law_pick" ["tape", "row"] F__law_pick 2) (D__law_draw : Df P w K mg base "_law_draw" ["tape", "limit"] F__law_draw 1)  : FnOk P w K mg base (L2.CX P w) (3) f fd ["tape", "pools"] (spD ⟨K, mg⟩ F__law_loose_door 2) :=
  fn_E (m := m__law_loose_door ) F sc__law_loose_door (fun cdv A outer s H E hr hp W tk =>
  (s_cons (s_set 2 (i_lst (i_cons i_str (i_cons (i_call D__law_pick (hr.mono (by first | decide | omega)) (by rfl) tk (i_cons (i_var 0) (i_cons (i_ix ix_seq d_ix (i_var 1) i_int) i_nil))) (i_cons (i_call D__law_pick (hr.mono (by first | decide | omega)) (by rfl) tk (i_cons (i_var 0) (i_cons (i_ix ix_seq d_ix (i_var 1) i_int) i_nil))) (i_cons (i_call D__law_pick (hr.mono (by first | decide | omega)) (by rfl) tk (i_cons (i_var 0) (i_cons (i_ix ix_seq d_ix (i_var 1) i_int) i_nil))) (i_cons i_int (i_cons i_int (i_cons i_int (i_cons i_int i_nil))))))))) sc__law_loose_door.nd)
  (s_cons (s_if (i_tcmp (o_eq (hu_r hr)) d_eq (i_call D__law_draw (hr.mono (by first | decide | omega)) (by rfl) tk (i_cons (i_var 0) (i_cons i_int i_nil))) i_int)
  (s_one (s_asg (i_ix ix_seq d_ix (i_lst (i_cons i_int (i_cons i_int (i_cons i_int (i_cons i_int (i_cons i_int (i_cons i_int i_nil))))))) (i_call D__law_draw (hr.mono (by first | decide | omega)) (by rfl) tk (i_cons (i_var 0) (i_cons i_int i_nil)))) (g_sub (W := W) (i_var 2) i_int)))
  s_nil)
  (s_cons (s_if (i_tcmp (o_eq (hu_r hr)) d_eq (i_call D__law_draw (hr.mono (by first | decide | omega)) (by rfl) tk (i_cons (i_var 0) (i_cons i_int i_nil))) i_int)
  (s_one (s_asg (i_ix ix_seq d_ix (i_lst (i_cons i_int (i_cons i_int (i_cons i_int (i_cons i_int (i_cons i_int (i_cons i_int i_nil))))))) (i_call D__law_draw (hr.mono (by first | decide | omega)) (by rfl) tk (i_cons (i_var 0) (i_cons i_int i_nil)))) (g_sub (W := W) (i_var 2) i_int)))
  s_nil)
  (s_cons (s_if (i_tcmp (o_eq (hu_r hr)) d_eq (i_call D__law_draw (hr.mono (by first | decide | omega)) (by rfl) tk (i_cons (i_var 0) (i_cons i_int i_nil))) i_int)
  (s_cons (s_asg (i_ix ix_seq d_ix (i_lst (i_cons i_int (i_cons i_int (i_cons i_int (i_cons i_int (i_cons i_int (i_cons (i_bin o_add d_add i_int (i_call D__law_draw (hr.mono (by first | decide | omega)) (by rfl) tk (i_cons (i_var 0) (i_cons i_int i_nil)))) i_nil))))))) (i_call D__law_draw (hr.mono (by first | decide | omega)) (by rfl) tk (i_cons (i_var 0) (i_cons i_int i_nil)))) (g_sub (W := W) (i_var 2) i_int))
  (s_one (s_asg (i_ix ix_seq d_ix (i_lst (i_cons i_int (i_cons i_int (i_cons i_int (i_cons i_int (i_cons i_int (i_cons (i_bin o_add d_add i_int (i_call D__law_draw (hr.mono (by first | decide | omega)) (by rfl) tk (i_cons (i_var 0) (i_cons i_int i_nil)))) i_nil))))))) (i_call D__law_draw (hr.mono (by first | decide | omega)) (by rfl) tk (i_cons (i_var 0) (i_cons i_int i_nil)))) (g_sub (W := W) (i_var 2) i_int))))
  s_nil)
  (s_cons (s_set 3 (i_ix ix_seq d_ix (i_lst (i_cons i_int (i_cons i_int (i_cons i_int (i_cons i_int (i_cons i_int (i_cons (i_call D__law_draw (hr.mono (by first | decide | omega)) (by rfl) tk (i_cons (i_var 0) (i_cons i_int i_nil))) i_nil))))))) (i_call D__law_draw (hr.mono (by first | decide | omega)) (by rfl) tk (i_cons (i_var 0) (i_cons i_int i_nil)))) sc__law_loose_door.nd)
  (s_one (s_ret (i_callTy o_tuple d_tuple (by rfl) T.f_tuple bi_tuple (i_cons (i_bin o_add d_add (i_var 2) (i_lst (i_cons (i_call D__law_draw (hr.mono (by first | decide | omega)) (by rfl) tk (i_cons (i_var 0) (i_cons i_int i_nil))) (i_cons (i_var 3) (i_cons (i_call D__law_draw (hr.mono (by first | decide | omega)) (by rfl) tk (i_cons (i_var 0) (i_cons i_int i_nil))) (i_cons (i_call D__law_draw (hr.mono (by first | decide | omega)) (by rfl) tk (i_cons (i_var 0) (i_cons i_int i_nil))) i_nil)))))) i_nil)))))))))) (r__law_loose_door)
theorem ok__law_loose_range  {f : Addr} {fd : FuncData} (T : Tx w K mg) (F : FunD K "_law_loose_range" "_law_loose_range" (defArgs st__law_loose_range) (defBody st__law_loose_range) (defScope st__law_loose_range) [] [] f fd) (D__law_draw : Df P w K mg base "_law_draw" ["tape", "limit"] F__law_draw 1)  : FnOk P w K mg base (L2.CX P w) (2) f fd ["tape"] (spD ⟨K, mg⟩ F__law_loose_range 1) :=
  fn_E (m := m__law_loose_range ) F sc__law_loose_range (fun cdv A outer s H E hr hp W tk =>
  (s_cons (s_set 1 (i_call D__law_draw (hr.mono (by first | decide | omega)) (by rfl) tk (i_cons (i_var 0) (i_cons i_int i_nil))) sc__law_loose_range.nd)
  (s_cons (s_if (i_tcmp (o_eq (hu_r hr)) d_eq (i_var 1) i_int)
  (s_one (s_ret (i_tup (i_cons i_int (i_cons i_int i_nil)))))
  s_nil)
  (s_cons (s_set 2 (i_ix ix_seq d_ix (i_lst (i_cons i_int (i_cons (i_call D__law_draw (hr.mono (by first | decide | omega)) (by rfl) tk (i_cons (i_var 0) (i_cons i_int i_nil))) (i_cons (i_call D__law_draw (hr.mono (by first | decide | omega)) (by rfl) tk (i_cons (i_var 0) (i_cons i_int i_nil))) (i_cons i_int i_nil))))) (i_call D__law_draw (hr.mono (by first | decide | omega)) (by rfl) tk (i_cons (i_var 0) (i_cons i_int i_nil)))) sc__law_loose_range.nd)
  (s_cons (s_if (i_tcmp (o_eq (hu_r hr)) d_eq (i_var 1) i_int)
  (s_one (s_ret (i_tup (i_cons (i_var 2) (i_cons (i_var 2) i_nil)))))
  s_nil)
  (s_cons (s_set 3 (i_ix ix_seq d_ix (i_lst (i_cons i_int (i_cons (i_call D__law_draw (hr.mono (by first | decide | omega)) (by rfl) tk (i_cons (i_var 0) (i_cons i_int i_nil))) (i_cons i_int i_nil)))) (i_call D__law_draw (hr.mono (by first | decide | omega)) (by rfl) tk (i_cons (i_var 0) (i_cons i_int i_nil)))) sc__law_loose_range.nd)
  (s_cons (s_if (i_tcmp (o_eq (hu_r hr)) d_eq (i_var 1) i_int)
  (s_one (s_ret (i_tup (i_cons (i_var 2) (i_cons (i_var 3) i_nil)))))
  s_nil)
  (s_one (s_ret (i_tup (i_cons (i_callB (call_min2 (by rfl)) d_min2 (by rfl) T.f_min bi_min (i_cons (i_var 2) (i_cons (i_var 3) i_nil))) (i_cons (i_callB (call_max2 (by rfl)) d_max2 (by rfl) T.f_max bi_max (i_cons (i_var 2) (i_cons (i_var 3) i_nil))) i_nil)))))))))))) (r__law_loose_range)
theorem ok__law_loose_rules  {f : Addr} {fd : FuncData} (T : Tx w K mg) (F : FunD K "_law_loose_rules" "_law_loose_rules" (defArgs st__law_loose_rules) (defBody st__law_loose_rules) (defScope st__law_loose_rules) [] [] f fd) (D__law_loose_range : Df P w K mg base "_law_loose_range" ["tape"] F__law_loose_range 2) (D__law_draw : Df P w K mg base "_law_draw" ["tape", "limit"] F__law_draw 1)  : FnOk P w K mg base (L2.CX P w) (3) f fd ["tape", "many"] (spD ⟨K, mg⟩ F__law_loose_rules 2) :=
  fn_E (m := m__law_loose_rules ) F sc__law_loose_rules (fun cdv A outer s H E hr hp W tk =>
  (s_cons (s_set 2 (i_lst i_nil) sc__law_loose_rules.nd)
  (s_cons (s_range1 hp (by rfl) (by rfl) T.f_range (i_cons (i_var 1) i_nil) (g_nm 3 sc__law_loose_rules.nd)
  (s_cons (s_set 4 (i_tup (i_cons (i_call D__law_loose_range (hr.mono (by first | decide | omega)) (by rfl) tk (i_cons (i_var 0) i_nil)) (i_cons (i_call D__law_loose_range (hr.mono (by first | decide | omega)) (by rfl) tk (i_cons (i_var 0) i_nil)) (i_cons (i_call D__law_loose_range (hr.mono (by first | decide | omega)) (by rfl) tk (i_cons (i_var 0) i_nil)) i_nil)))) sc__law_loose_rules.nd)
  (s_one (s_expr (i_lm PySem.F.slot_list_append PySem.F.type_list_append mt_append d_append (i_var 2) (i_cons (i_bin o_add d_add (i_tup (i_cons (i_call D__law_draw (hr.mono (by first | decide | omega)) (by rfl) tk (i_cons (i_var 0) (i_cons i_int i_nil))) i_nil)) (i_var 4)) i_nil))))))
  (s_one (s_ret (i_callTy o_tuple d_tuple (by rfl) T.f_tuple bi_tuple (i_cons (i_var 2) i_nil))))))) (r__law_loose_rules)
theorem ok__law_loose_item  {f : Addr} {fd : FuncData} (T : Tx w K mg) (F : FunD K "_law_loose_item" "_law_loose_item" (defArgs st__law_loose_item) (defBody st__law_loose_item) (defScope st__law_loose_item) [] [] f fd) (D__law_draw : Df P w K mg base "_law_draw" ["tape", "limit"] F__law_draw 1) (D__law_pick : Df P w K mg base "_law_pick" ["tape", "row"] F__law_pick 2) (D__law_loose_door : Df P w K mg base "_law_loose_door" ["tape", "pools"] F__law_loose_door 3) (D__law_loose_rules : Df P w K mg base "_law_loose_rules" ["tape", "many"] F__law_loose_rules 3)  : FnOk P w K mg base (L2.CX P w) (4) f fd ["tape", "pools"] (spD ⟨K, mg⟩ F__law_loose_item 2) :=
  fn_E (m := m__law_loose_item ) F sc__law_loose_item (fun cdv A outer s H E hr hp W tk =>
  (s_cons (s_set 2 (i_call D__law_draw (hr.mono (by first | decide | omega)) (by rfl) tk (i_cons (i_var 0) (i_cons i_int i_nil))) sc__law_loose_item.nd)
  (s_cons (s_if (i_tcmp o_lt d_ord (i_var 2) i_int)
  (s_one (s_ret (i_tup (i_cons i_str (i_cons (i_call D__law_pick (hr.mono (by first | decide | omega)) (by rfl) tk (i_cons (i_var 0) (i_cons (i_ix ix_seq d_ix (i_var 1) i_int) i_nil))) i_nil)))))
  s_nil)
  (s_cons (s_if (i_tcmp o_lt d_ord (i_var 2) i_int)
  (s_one (s_ret (i_tup (i_cons i_str (i_cons (i_call D__law_pick (hr.mono (by first | decide | omega)) (by rfl) tk (i_cons (i_var 0) (i_cons (i_ix ix_seq d_ix (i_var 1) i_int) i_nil))) (i_cons (i_call D__law_pick (hr.mono (by first | decide | omega)) (by rfl) tk (i_cons (i_var 0) (i_cons (i_ix ix_seq d_ix (i_var 1) i_int) i_nil))) i_nil))))))
  s_nil)
  (s_cons (s_if (i_tcmp o_lt d_ord (i_var 2) i_int)
  (s_one (s_ret (i_call D__law_loose_door (hr.mono (by first | decide | omega)) (by rfl) tk (i_cons (i_var 0) (i_cons (i_var 1) i_nil)))))
  s_nil)
  (s_cons (s_if (i_tcmp (o_eq (hu_r hr)) d_eq (i_var 2) i_int)
  (s_cons (s_set 3 (i_ix ix_seq d_ix (i_lst (i_cons (i_bin o_add d_add i_int (i_call D__law_draw (hr.mono (by first | decide | omega)) (by rfl) tk (i_cons (i_var 0) (i_cons i_int i_nil)))) (i_cons (i_bin o_add d_add i_int (i_call D__law_draw (hr.mono (by first | decide | omega)) (by rfl) tk (i_cons (i_var 0) (i_cons i_int i_nil)))) (i_cons i_int i_nil)))) (i_call D__law_draw (hr.mono (by first | decide | omega)) (by rfl) tk (i_cons (i_var 0) (i_cons i_int i_nil)))) sc__law_loose_item.nd)
  (s_cons (s_set 4 (i_ix ix_seq d_ix (i_lst (i_cons i_int (i_cons i_int (i_cons i_int (i_cons i_int (i_cons i_int (i_cons (i_bin o_add d_add i_int (i_call D__law_draw (hr.mono (by first | decide | omega)) (by rfl) tk (i_cons (i_var 0) (i_cons i_int i_nil)))) i_nil))))))) (i_call D__law_draw (hr.mono (by first | decide | omega)) (by rfl) tk (i_cons (i_var 0) (i_cons i_int i_nil)))) sc__law_loose_item.nd)
  (s_one (s_ret (i_tup (i_cons i_str (i_cons (i_call D__law_pick (hr.mono (by first | decide | omega)) (by rfl) tk (i_cons (i_var 0) (i_cons (i_ix ix_seq d_ix (i_var 1) i_int) i_nil))) (i_cons (i_var 3) (i_cons (i_call D__law_pick (hr.mono (by first | decide | omega)) (by rfl) tk (i_cons (i_var 0) (i_cons (i_ix ix_seq d_ix (i_var 1) i_int) i_nil))) (i_cons (i_var 4) i_nil))))))))))
  s_nil)
  (s_one (s_ret (i_tup (i_cons i_str (i_cons (i_call D__law_pick (hr.mono (by first | decide | omega)) (by rfl) tk (i_cons (i_var 0) (i_cons (i_ix ix_seq d_ix (i_var 1) i_int) i_nil))) (i_cons (i_call D__law_loose_rules (hr.mono (by first | decide | omega)) (by rfl) tk (i_cons (i_var 0) (i_cons (i_call D__law_draw (hr.mono (by first | decide | omega)) (by rfl) tk (i_cons (i_var 0) (i_cons i_int i_nil))) i_nil))) i_nil)))))))))))) (r__law_loose_item)
theorem ok__law_edge_door  {f : Addr} {fd : FuncData} (T : Tx w K mg) (F : FunD K "_law_edge_door" "_law_edge_door" (defArgs st__law_edge_door) (defBody st__law_edge_door) (defScope st__law_edge_door) [] [] f fd) (D__law_pick : Df P w K mg base "_law_pick" ["tape", "row"] F__law_pick 2) (D__law_draw : Df P w K mg base "_law_draw" ["tape", "limit"] F__law_draw 1)  : FnOk P w K mg base (L2.CX P w) (3) f fd ["tape", "pools"] (spD ⟨K, mg⟩ F__law_edge_door 2) :=
  fn_E (m := m__law_edge_door ) F sc__law_edge_door (fun cdv A outer s H E hr hp W tk =>
  (s_cons (s_set 2 (i_tup (i_cons i_str (i_cons (i_call D__law_pick (hr.mono (by first | decide | omega)) (by rfl) tk (i_cons (i_var 0) (i_cons (i_ix ix_seq d_ix (i_var 1) i_int) i_nil))) (i_cons (i_call D__law_pick (hr.mono (by first | decide | omega)) (by rfl) tk (i_cons (i_var 0) (i_cons (i_ix ix_seq d_ix (i_var 1) i_int) i_nil))) (i_cons (i_call D__law_pick (hr.mono (by first | decide | omega)) (by rfl) tk (i_cons (i_var 0) (i_cons (i_ix ix_seq d_ix (i_var 1) i_int) i_nil))) i_nil))))) sc__law_edge_door.nd)
  (s_cons (s_set 3 (i_tup (i_cons (i_call D__law_pick (hr.mono (by first | decide | omega)) (by rfl) tk (i_cons (i_var 0) (i_cons (i_lst (i_cons i_int (i_cons i_int (i_cons i_int (i_cons i_int (i_cons i_int i_nil)))))) i_nil))) (i_cons (i_call D__law_pick (hr.mono (by first | decide | omega)) (by rfl) tk (i_cons (i_var 0) (i_cons (i_lst (i_cons i_int (i_cons i_int (i_cons i_int (i_cons i_int (i_cons i_int i_nil)))))) i_nil))) i_nil))) sc__law_edge_door.nd)
  (s_cons (s_set 3 (i_bin o_add d_add (i_var 3) (i_tup (i_cons (i_call D__law_pick (hr.mono (by first | decide | omega)) (by rfl) tk (i_cons (i_var 0) (i_cons (i_lst (i_cons i_int (i_cons i_int (i_cons i_int (i_cons i_int (i_cons i_int i_nil)))))) i_nil))) (i_cons (i_call D__law_pick (hr.mono (by first | decide | omega)) (by rfl) tk (i_cons (i_var 0) (i_cons (i_lst (i_cons i_int (i_cons i_int (i_cons i_int (i_cons i_int (i_cons i_int (i_cons i_int i_nil))))))) i_nil))) i_nil)))) sc__law_edge_door.nd)
  (s_cons (s_set 4 (i_call D__law_pick (hr.mono (by first | decide | omega)) (by rfl) tk (i_cons (i_var 0) (i_cons (i_lst (i_cons i_int (i_cons i_int (i_cons i_int (i_cons i_int (i_cons i_int i_nil)))))) i_nil))) sc__law_edge_door.nd)
  (s_one (s_ret (i_bin o_add d_add (i_bin o_add d_add (i_var 2) (i_var 3)) (i_tup (i_cons (i_call D__law_draw (hr.mono (by first | decide | omega)) (by rfl) tk (i_cons (i_var 0) (i_cons i_int i_nil))) (i_cons (i_var 4) (i_cons (i_call D__law_draw (hr.mono (by first | decide | omega)) (by rfl) tk (i_cons (i_var 0) (i_cons i_int i_nil))) (i_cons (i_call D__law_draw (hr.mono (by first | decide | omega)) (by rfl) tk (i_cons (i_var 0) (i_cons i_int i_nil))) i_nil))))))))))))) (r__law_edge_door)
theorem ok__law_edge_rules  {f : Addr} {fd : FuncData} (T : Tx w K mg) (F : FunD K "_law_edge_rules" "_law_edge_rules" (defArgs st__law_edge_rules) (defBody st__law_edge_rules) (defScope st__law_edge_rules) [] [] f fd) (D__law_draw : Df P w K mg base "_law_draw" ["tape", "limit"] F__law_draw 1) (D__law_pick : Df P w K mg base "_law_pick" ["tape", "row"] F__law_pick 2)  : FnOk P w K mg base (L2.CX P w) (3) f fd ["tape"] (spD ⟨K, mg⟩ F__law_edge_rules 1) :=
  fn_E (m := m__law_edge_rules ) F sc__law_edge_rules (fun cdv A outer s H E hr hp W tk =>
  (s_cons (s_set 1 (i_lst i_nil) sc__law_edge_rules.nd)
  (s_cons (s_range1 hp (by rfl) (by rfl) T.f_range (i_cons (i_call D__law_draw (hr.mono (by first | decide | omega)) (by rfl) tk (i_cons (i_var 0) (i_cons i_int i_nil))) i_nil) (g_nm 2 sc__law_edge_rules.nd)
  (s_cons (s_set 3 (i_lst (i_cons (i_call D__law_draw (hr.mono (by first | decide | omega)) (by rfl) tk (i_cons (i_var 0) (i_cons i_int i_nil))) i_nil)) sc__law_edge_rules.nd)
  (s_cons (s_range1 hp (by rfl) (by rfl) T.f_range (i_cons i_int i_nil) (g_nm 4 sc__law_edge_rules.nd)
  (s_cons (s_set 5 (i_call D__law_pick (hr.mono (by first | decide | omega)) (by rfl) tk (i_cons (i_var 0) (i_cons (i_lst (i_cons i_int (i_cons i_int (i_cons i_int (i_cons i_int (i_cons i_int i_nil)))))) i_nil))) sc__law_edge_rules.nd)
  (s_one (s_expr (i_lm PySem.F.slot_list_append PySem.F.type_list_append mt_append d_append (i_var 3) (i_cons (i_tup (i_cons (i_var 5) (i_cons (i_call D__law_pick (hr.mono (by first | decide | omega)) (by rfl) tk (i_cons (i_var 0) (i_cons (i_lst (i_cons i_int (i_cons i_int (i_cons i_int (i_cons (i_var 5) (i_cons i_int (i_cons i_int i_nil))))))) i_nil))) i_nil))) i_nil))))))
  (s_one (s_expr (i_lm PySem.F.slot_list_append PySem.F.type_list_append mt_append d_append (i_var 1) (i_cons (i_callTy o_tuple d_tuple (by rfl) T.f_tuple bi_tuple (i_cons (i_var 3) i_nil)) i_nil)))))))
  (s_one (s_ret (i_callTy o_tuple d_tuple (by rfl) T.f_tuple bi_tuple (i_cons (i_var 1) i_nil))))))) (r__law_edge_rules)
theorem ok__law_items  {f : Addr} {fd : FuncData} (T : Tx w K mg) (F : FunD K "_law_items" "_law_items" (defArgs st__law_items) (defBody st__law_items) (defScope st__law_items) [] [] f fd) (D__law_pools : Df P w K mg base "_law_pools" ["tape"] F__law_pools 3) (D__law_draw : Df P w K mg base "_law_draw" ["tape", "limit"] F__law_draw 1) (D__law_edge_door : Df P w K mg base "_law_edge_door" ["tape", "pools"] F__law_edge_door 3) (D__law_pick : Df P w K mg base "_law_pick" ["tape", "row"] F__law_pick 2) (D__law_edge_rules : Df P w K mg base "_law_edge_rules" ["tape"] F__law_edge_rules 3) (D__law_loose_item : Df P w K mg base "_law_loose_item" ["tape", "pools"] F__law_loose_item 4)  : FnOk P w K mg base (L2.CX P w) (5) f fd ["tape"] (spD ⟨K, mg⟩ F__law_items 1) :=
  fn_E (m := m__law_items ) F sc__law_items (fun cdv A outer s H E hr hp W tk =>
  (s_cons (s_set 1 (i_call D__law_pools (hr.mono (by first | decide | omega)) (by rfl) tk (i_cons (i_var 0) i_nil)) sc__law_items.nd)
  (s_cons (s_set 2 (i_lst i_nil) sc__law_items.nd)
  (s_cons (s_range1 hp (by rfl) (by rfl) T.f_range (i_cons (i_bin o_add d_add i_int (i_call D__law_draw (hr.mono (by first | decide | omega)) (by rfl) tk (i_cons (i_var 0) (i_cons i_int i_nil)))) i_nil) (g_nm 3 sc__law_items.nd)
  (s_cons (s_expr (i_lm PySem.F.slot_list_append PySem.F.type_list_append mt_append d_append (i_var 2) (i_cons (i_call D__law_edge_door (hr.mono (by first | decide | omega)) (by rfl) tk (i_cons (i_var 0) (i_cons (i_var 1) i_nil))) i_nil)))
  (s_cons (s_expr (i_lm PySem.F.slot_list_append PySem.F.type_list_append mt_append d_append (i_var 2) (i_cons (i_tup (i_cons i_str (i_cons (i_call D__law_pick (hr.mono (by first | decide | omega)) (by rfl) tk (i_cons (i_var 0) (i_cons (i_ix ix_seq d_ix (i_var 1) i_int) i_nil))) (i_cons (i_call D__law_edge_rules (hr.mono (by first | decide | omega)) (by rfl) tk (i_cons (i_var 0) i_nil)) i_nil)))) i_nil)))
  (s_one (s_expr (i_lm PySem.F.slot_list_append PySem.F.type_list_append mt_append d_append (i_var 2) (i_cons (i_call D__law_loose_item (hr.mono (by first | decide | omega)) (by rfl) tk (i_cons (i_var 0) (i_cons (i_var 1) i_nil))) i_nil)))))))
  (s_cons (s_range1 hp (by rfl) (by rfl) T.f_range (i_cons i_int i_nil) (g_nm 3 sc__law_items.nd)
  (s_cons (s_set 4 (i_call D__law_draw (hr.mono (by first | decide | omega)) (by rfl) tk (i_cons (i_var 0) (i_cons (i_callB call_len d_len (by rfl) T.f_len bi_len (i_cons (i_var 2) i_nil)) i_nil))) sc__law_items.nd)
  (s_one (s_expr (i_lm PySem.F.slot_list_append PySem.F.type_list_append mt_append d_append (i_var 2) (i_cons (i_lm PySem.F.slot_list_pop PySem.F.type_list_pop mt_popAt d_popAt (i_var 2) (i_cons (i_var 4) i_nil)) i_nil))))))
  (s_one (s_ret (i_var 2)))))))) (r__law_items)
theorem ok__law_asks  {f : Addr} {fd : FuncData} (T : Tx w K mg) (F : FunD K "_law_asks" "_law_asks" (defArgs st__law_asks) (defBody st__law_asks) (defScope st__law_asks) [] [] f fd) (D__law_tape : Df P w K mg base "_law_tape" ["script"] F__law_tape 1) (D__law_items : Df P w K mg base "_law_items" ["tape"] F__law_items 5) (D__law_same : Df P w K mg base "_law_same" ["told", "due"] (Fp_same 9) 9) (D_write : Df P w K mg base "write" ["plan"] F_write 10) (D__law_line : Df P w K mg base "_law_line" ["item"] F__law_line 3) (K_write_0_plan : DfK P w K mg base "write" ["plan"] F_write 10 0 ["plan"] [(true, 0)]) : FnOk P w K mg base (L2.CX P w) (12) f fd ["script"] (spD ⟨K, mg⟩ F__law_asks 1) :=
  fn_E (m := m__law_asks ) F sc__law_asks (fun cdv A outer s H E hr hp W tk =>
  (s_cons (s_set 1 (i_call D__law_tape (hr.mono (by first | decide | omega)) (by rfl) tk (i_cons (i_var 0) i_nil)) sc__law_asks.nd)
  (s_cons (s_set 2 (i_call D__law_items (hr.mono (by first | decide | omega)) (by rfl) tk (i_cons (i_var 1) i_nil)) sc__law_asks.nd)
  (s_cons (s_for hp (by rfl) (i_var 2) (g_nm 3 sc__law_asks.nd)
  (s_one (s_if (i_tnot (i_truth (i_call D__law_same (hr.mono (by first | decide | omega)) (by rfl) tk (i_cons (i_call D_write (hr.mono (by first | decide | omega)) (by rfl) tk (i_cons (i_tup (i_cons (i_var 3) i_nil)) i_nil)) (i_cons (i_call D__law_line (hr.mono (by first | decide | omega)) (by rfl) tk (i_cons (i_var 3) i_nil)) i_nil)))))
  (s_one (s_ret i_bl))
  s_nil)))
  (s_cons (s_set 4 (i_join i_str (i_lc (own := [("item", 3)]) (by rfl) sc__law_asks.nd (wi_row (i_var 2)) (blkOk_by (N := ["script", "tape", "items", "item", "text", "k"]) (sc := defScope st__law_asks) (by decide +kernel)) (own_nm (by decide)) (fun _ _ _ _ _ => pg_name (i := 3) sc__law_asks.nd (by rfl) (by first | exact Or.inl (by rfl) | exact Or.inr (by rfl))) (by exact fun _ _ _ _ _ => pts_yes) (by exact fun _ _ _ _ _ => (i_callI (X := cxOf (L2.CX P w) P w K mg base ["script", "tape", "items", "item", "text", "k"] "_law_asks" (defScope st__law_asks) f cdv A outer s H E) D__law_line (hr.mono (by first | decide | omega)) (by rfl) tk0 (i_cons (i_var 3) i_nil))))) sc__law_asks.nd)
  (s_cons (s_range1 hp (by rfl) (by rfl) T.f_range (i_cons i_int i_nil) (g_nm 5 sc__law_asks.nd)
  (s_one (s_if (i_tor (i_tnot (i_truth (i_call D__law_same (hr.mono (by first | decide | omega)) (by rfl) tk (i_cons (i_callK0 K_write_0_plan (hr.mono (by first | decide | omega)) (by rfl) tk (k_cons (i_callTy o_tuple d_tuple (by rfl) T.f_tuple bi_tuple (i_cons (i_var 2) i_nil)) k_nil)) (i_cons (i_var 4) i_nil))))) (i_or1 (i_tnot (i_truth (i_call D__law_same (hr.mono (by first | decide | omega)) (by rfl) tk (i_cons (i_call D_write (hr.mono (by first | decide | omega)) (by rfl) tk (i_cons (i_callTy o_tuple d_tuple (by rfl) T.f_tuple bi_tuple (i_cons (i_var 2) i_nil)) i_nil)) (i_cons (i_var 4) i_nil))))))).pt
  (s_one (s_ret i_bl))
  s_nil)))
  (s_one (s_ret (i_call D__law_same (hr.mono (by first | decide | omega)) (by rfl) tk (i_cons (i_call D_write (hr.mono (by first | decide | omega)) (by rfl) tk (i_cons (i_tup i_nil) i_nil)) (i_cons i_str i_nil))))))))))) (r__law_asks)
theorem ok_law  {f : Addr} {fd : FuncData} (T : Tx w K mg) (F : FunD K "law" "law" (defArgs st_law) (defBody st_law) (defScope st_law) [] [] f fd) (D__law_asks : Df P w K mg base "_law_asks" ["script"] F__law_asks 12)  : FnOk P w K mg base (L2.CX P w) (13) f fd ["script"] (spD ⟨K, mg⟩ F_law 1) :=
  fn_E (m := m_law ) F sc_law (fun cdv A outer s H E hr hp W tk =>
  (s_one (s_try (exs := []) (by rfl) (by rfl) ⟨rfl, by decide, .inl T.g_DoorError⟩ tk T.xs_DoorError (fun W pn xe tk hp =>
  (s_one (s_ret (i_call D__law_asks (hr.mono (by first | decide | omega)) (by rfl) tk (i_cons (i_var 0) i_nil))))) (fun a pn =>
  (s_one (s_ret i_bl)))))) (r_law)
end
/-! ### the head -/
def dd (x : Str) (i : Nat) : He.DefD := ⟨(x, none), x, x, defArgs (top i), defBody (top i), defScope (top i), [], []⟩
def hfn : List He.DefD := [dd "is_int" 4, dd "is_between" 5, dd "is_bit" 6, dd "is_tuple_of" 7, dd "is_all" 13, dd "is_word" 14, dd "is_small_row" 15, dd "is_small_name" 16, dd "is_great_name" 17, dd "is_told_name" 23, dd "is_told_great" 24, dd "is_told_number" 25, dd "is_told_range" 26, dd "is_told_rule" 27, dd "are_told_rules" 28, dd "is_net" 29, dd "is_host" 30, dd "is_door" 31, dd "is_open" 32, dd "is_wall" 33, dd "is_item" 34, dd "has_shape" 35, dd "net_line" 41, dd "host_line" 42, dd "door_line" 43, dd "open_line" 44, dd "range_words" 45, dd "rule_line" 46, dd "wall_lines" 47, dd "item_lines" 48, dd "write" 49, dd "_law_tape" 51, dd "_law_draw" 52, dd "_law_pick" 53, dd "_law_same" 54, dd "_law_name" 55, dd "_law_door_line" 56, dd "_law_range_text" 57, dd "_law_rules_lines" 58, dd "_law_line" 59, dd "_law_pools" 60, dd "_law_loose_door" 61, dd "_law_loose_range" 62, dd "_law_loose_rules" 63, dd "_law_loose_item" 64, dd "_law_edge_door" 65, dd "_law_edge_rules" 66, dd "_law_items" 67, dd "_law_asks" 68, dd "law" 69]
def hfa : List He.Fa := [.glo "is_int", .glo "is_between", .glo "is_bit", .glo "is_tuple_of", .glo "is_all", .glo "is_word", .glo "is_small_row", .glo "is_small_name", .glo "is_great_name", .glo "is_told_name", .glo "is_told_great", .glo "is_told_number", .glo "is_told_range", .glo "is_told_rule", .glo "are_told_rules", .glo "is_net", .glo "is_host", .glo "is_door", .glo "is_open", .glo "is_wall", .glo "is_item", .glo "has_shape", .glo "net_line", .glo "host_line", .glo "door_line", .glo "open_line", .glo "range_words", .glo "rule_line", .glo "wall_lines", .glo "item_lines", .glo "write", .glo "_law_tape", .glo "_law_draw", .glo "_law_pick", .glo "_law_same", .glo "_law_name", .glo "_law_door_line", .glo "_law_range_text", .glo "_law_rules_lines", .glo "_law_line", .glo "_law_pools", .glo "_law_loose_door", .glo "_law_loose_range", .glo "_law_loose_rules", .glo "_law_loose_item", .glo "_law_edge_door", .glo "_law_edge_rules", .glo "_law_items", .glo "_law_asks", .glo "law", .free "abs", .free "bool", .free "int", .free "isinstance", .free "len", .free "max", .free "min", .free "range", .free "str", .free "tuple", .exc "BadPlan", .exc "DoorError", .glo "BadPlan", .glo "DoorError", .glo "LENGTHS"]
def hcs : List (Str × CK) := [("ALL_PORTS", .p c_ALL_PORTS), ("ANY", .p c_ANY), ("DIGITS", .p c_DIGITS), ("GREAT_LETTERS", .p c_GREAT_LETTERS), ("KINDS", .p c_KINDS), ("RANGES_OF_A_RULE", .p c_RANGES_OF_A_RULE), ("SMALL_LETTERS", .p c_SMALL_LETTERS), ("TOP", .p c_TOP), ("UNWRITTEN_MANNER", .p c_UNWRITTEN_MANNER), ("UNWRITTEN_SPAN", .p c_UNWRITTEN_SPAN), ("WORDS", .p c_WORDS)]
def hts : List Tb := [("LENGTHS", t_LENGTHS)]
abbrev RR : PySem.W.OpenRow := PySem.W.OpenLaw.row PySem.Challenge.rw_holesmet_k03_lines_of_items
abbrev hk : PySem.W.Hook := hookY 5 hfa hfn hcs hts
def ob (s : PySem.W.SharedT) : AlY := obsYG 5 hfa hfn hcs hts (HandSHeadRun.getT s)
theorem ob_eq (s : PySem.W.SharedT) : ob s = hk.obs s.abs := obsYG_eq (HandSHeadRun.getT_eq s)
def loose : List Str := (["DoorError", "BadPlan", "SMALL_LETTERS", "GREAT_LETTERS", "DIGITS", "WORDS", "TOP", "KINDS", "LENGTHS", "RANGES_OF_A_RULE", "ANY", "ALL_PORTS", "UNWRITTEN_MANNER", "UNWRITTEN_SPAN", "is_int", "is_between", "is_bit", "is_tuple_of", "is_all", "is_word", "is_small_row", "is_small_name", "is_great_name", "is_told_name", "is_told_great", "is_told_number", "is_told_range", "is_told_rule", "are_told_rules", "is_net"] : List Str) ++ (["is_host", "is_door", "is_open", "is_wall", "is_item", "has_shape", "net_line", "host_line", "door_line", "open_line", "range_words", "rule_line", "wall_lines", "item_lines", "write", "_law_tape", "_law_draw", "_law_pick", "_law_same", "_law_name", "_law_door_line", "_law_range_text", "_law_rules_lines", "_law_line", "_law_pools", "_law_loose_door", "_law_loose_range", "_law_loose_rules", "_law_loose_item", "_law_edge_door"] : List Str) ++ (["_law_edge_rules", "_law_items", "_law_asks"] : List Str)
set_option maxHeartbeats 0 in
theorem run (w : World) : HandSHeadRun.RunEq RR (PySem.W.view RR.prog [69]) hk ob 4000 loose w := by
  refine PySem.W.byRow2 "special-get-raises" (P := fun w => HandSHeadRun.RunEq RR (PySem.W.view RR.prog [69]) hk ob 4000 loose w) (fun w => ?_) (fun w => ?_) w
  · intro os; kernel_rfl
  · intro os; kernel_rfl
set_option maxHeartbeats 0 in
theorem facts {P : Program} {w : World} {K : PySem.W.Frag} {h : Heap} {mg : Str → Option Value} {f : Addr} (X : K.In h) (G : h.Ns mainGlobals mg) (hfa1 : mg ("law" : Str) = some (.ref f)) (c : SaysY hfa hfn hcs hts w K) :
    ∃ fd : FuncData, (∀ (s : Shared) (v : Value), BindsTo s fd ⟨[v], []⟩ [("script", v)]) ∧ ∀ base : Heap, K.In base → base.Ns mainGlobals mg → FnOk P w K mg base (L2.CX P w) (13) f fd ["script"] (spD ⟨K, mg⟩ F_law 1) := by
  have T : Tx w K mg := ⟨(He.free_ok X G (c.d.fact 50 (f := .free "abs") rfl)),
    (He.free_ok X G (c.d.fact 51 (f := .free "bool") rfl)),
    (He.free_ok X G (c.d.fact 52 (f := .free "int") rfl)),
    (He.free_ok X G (c.d.fact 53 (f := .free "isinstance") rfl)),
    (He.free_ok X G (c.d.fact 54 (f := .free "len") rfl)),
    (He.free_ok X G (c.d.fact 55 (f := .free "max") rfl)),
    (He.free_ok X G (c.d.fact 56 (f := .free "min") rfl)),
    (He.free_ok X G (c.d.fact 57 (f := .free "range") rfl)),
    (He.free_ok X G (c.d.fact 58 (f := .free "str") rfl)),
    (He.free_ok X G (c.d.fact 59 (f := .free "tuple") rfl)),
    (cB_ok X G (c.c ("ALL_PORTS", .p c_ALL_PORTS) (by simp [hcs]))),
    (cB_ok X G (c.c ("ANY", .p c_ANY) (by simp [hcs]))),
    (cB_ok X G (c.c ("DIGITS", .p c_DIGITS) (by simp [hcs]))),
    (cB_ok X G (c.c ("GREAT_LETTERS", .p c_GREAT_LETTERS) (by simp [hcs]))),
    (cB_ok X G (c.c ("KINDS", .p c_KINDS) (by simp [hcs]))),
    (cB_ok X G (c.c ("RANGES_OF_A_RULE", .p c_RANGES_OF_A_RULE) (by simp [hcs]))),
    (cB_ok X G (c.c ("SMALL_LETTERS", .p c_SMALL_LETTERS) (by simp [hcs]))),
    (cB_ok X G (c.c ("TOP", .p c_TOP) (by simp [hcs]))),
    (cB_ok X G (c.c ("UNWRITTEN_MANNER", .p c_UNWRITTEN_MANNER) (by simp [hcs]))),
    (cB_ok X G (c.c ("UNWRITTEN_SPAN", .p c_UNWRITTEN_SPAN) (by simp [hcs]))),
    (cB_ok X G (c.c ("WORDS", .p c_WORDS) (by simp [hcs]))),
    (dtb_ok X G c (t := ("LENGTHS", t_LENGTHS)) (by simp [hts]) (c.d.fact 64 (f := .glo "LENGTHS") rfl)),
    (exc_C X G (c.d.fact 60 (f := .exc "BadPlan") rfl) (c.d.fact 62 (f := .glo "BadPlan") rfl)),
    (exc_C X G (c.d.fact 61 (f := .exc "DoorError") rfl) (c.d.fact 63 (f := .glo "DoorError") rfl)),
    (He.glo_ok X G (c.d.fact 62 (f := .glo "BadPlan") rfl)),
    (He.glo_ok X G (c.d.fact 63 (f := .glo "DoorError") rfl)),
    (by
    intro q hq
    cases hq
    )⟩
  obtain ⟨fd0, F0⟩ := c.d.def_ 0 (d := dd "is_int" 4) rfl
  obtain ⟨fd1, F1⟩ := c.d.def_ 1 (d := dd "is_between" 5) rfl
  obtain ⟨fd2, F2⟩ := c.d.def_ 2 (d := dd "is_bit" 6) rfl
  obtain ⟨fd3, F3⟩ := c.d.def_ 3 (d := dd "is_tuple_of" 7) rfl
  obtain ⟨fd4, F4⟩ := c.d.def_ 4 (d := dd "is_all" 13) rfl
  obtain ⟨fd5, F5⟩ := c.d.def_ 5 (d := dd "is_word" 14) rfl
  obtain ⟨fd6, F6⟩ := c.d.def_ 6 (d := dd "is_small_row" 15) rfl
  obtain ⟨fd7, F7⟩ := c.d.def_ 7 (d := dd "is_small_name" 16) rfl
  obtain ⟨fd8, F8⟩ := c.d.def_ 8 (d := dd "is_great_name" 17) rfl
  obtain ⟨fd9, F9⟩ := c.d.def_ 9 (d := dd "is_told_name" 23) rfl
  obtain ⟨fd10, F10⟩ := c.d.def_ 10 (d := dd "is_told_great" 24) rfl
  obtain ⟨fd11, F11⟩ := c.d.def_ 11 (d := dd "is_told_number" 25) rfl
  obtain ⟨fd12, F12⟩ := c.d.def_ 12 (d := dd "is_told_range" 26) rfl
  obtain ⟨fd13, F13⟩ := c.d.def_ 13 (d := dd "is_told_rule" 27) rfl
  obtain ⟨fd14, F14⟩ := c.d.def_ 14 (d := dd "are_told_rules" 28) rfl
  obtain ⟨fd15, F15⟩ := c.d.def_ 15 (d := dd "is_net" 29) rfl
  obtain ⟨fd16, F16⟩ := c.d.def_ 16 (d := dd "is_host" 30) rfl
  obtain ⟨fd17, F17⟩ := c.d.def_ 17 (d := dd "is_door" 31) rfl
  obtain ⟨fd18, F18⟩ := c.d.def_ 18 (d := dd "is_open" 32) rfl
  obtain ⟨fd19, F19⟩ := c.d.def_ 19 (d := dd "is_wall" 33) rfl
  obtain ⟨fd20, F20⟩ := c.d.def_ 20 (d := dd "is_item" 34) rfl
  obtain ⟨fd21, F21⟩ := c.d.def_ 21 (d := dd "has_shape" 35) rfl
  obtain ⟨fd22, F22⟩ := c.d.def_ 22 (d := dd "net_line" 41) rfl
  obtain ⟨fd23, F23⟩ := c.d.def_ 23 (d := dd "host_line" 42) rfl
  obtain ⟨fd24, F24⟩ := c.d.def_ 24 (d := dd "door_line" 43) rfl
  obtain ⟨fd25, F25⟩ := c.d.def_ 25 (d := dd "open_line" 44) rfl
  obtain ⟨fd26, F26⟩ := c.d.def_ 26 (d := dd "range_words" 45) rfl
  obtain ⟨fd27, F27⟩ := c.d.def_ 27 (d := dd "rule_line" 46) rfl
  obtain ⟨fd28, F28⟩ := c.d.def_ 28 (d := dd "wall_lines" 47) rfl
  obtain ⟨fd29, F29⟩ := c.d.def_ 29 (d := dd "item_lines" 48) rfl
  obtain ⟨fd30, F30⟩ := c.d.def_ 30 (d := dd "write" 49) rfl
  obtain ⟨fd31, F31⟩ := c.d.def_ 31 (d := dd "_law_tape" 51) rfl
  obtain ⟨fd32, F32⟩ := c.d.def_ 32 (d := dd "_law_draw" 52) rfl
  obtain ⟨fd33, F33⟩ := c.d.def_ 33 (d := dd "_law_pick" 53) rfl
  obtain ⟨fd34, F34⟩ := c.d.def_ 34 (d := dd "_law_same" 54) rfl
  obtain ⟨fd35, F35⟩ := c.d.def_ 35 (d := dd "_law_name" 55) rfl
  obtain ⟨fd36, F36⟩ := c.d.def_ 36 (d := dd "_law_door_line" 56) rfl
  obtain ⟨fd37, F37⟩ := c.d.def_ 37 (d := dd "_law_range_text" 57) rfl
  obtain ⟨fd38, F38⟩ := c.d.def_ 38 (d := dd "_law_rules_lines" 58) rfl
  obtain ⟨fd39, F39⟩ := c.d.def_ 39 (d := dd "_law_line" 59) rfl
  obtain ⟨fd40, F40⟩ := c.d.def_ 40 (d := dd "_law_pools" 60) rfl
  obtain ⟨fd41, F41⟩ := c.d.def_ 41 (d := dd "_law_loose_door" 61) rfl
  obtain ⟨fd42, F42⟩ := c.d.def_ 42 (d := dd "_law_loose_range" 62) rfl
  obtain ⟨fd43, F43⟩ := c.d.def_ 43 (d := dd "_law_loose_rules" 63) rfl
  obtain ⟨fd44, F44⟩ := c.d.def_ 44 (d := dd "_law_loose_item" 64) rfl
  obtain ⟨fd45, F45⟩ := c.d.def_ 45 (d := dd "_law_edge_door" 65) rfl
  obtain ⟨fd46, F46⟩ := c.d.def_ 46 (d := dd "_law_edge_rules" 66) rfl
  obtain ⟨fd47, F47⟩ := c.d.def_ 47 (d := dd "_law_items" 67) rfl
  obtain ⟨fd48, F48⟩ := c.d.def_ 48 (d := dd "_law_asks" 68) rfl
  obtain ⟨fd49, F49⟩ := c.d.def_ 49 (d := dd "law" 69) rfl
  have e := hfa1.symm.trans (He.glo_ok X G (c.d.fact 49 (f := .glo "law") rfl))
  cases e
  have b := FunD.bindsA (ps := ["script"]) F49 fun _ _ _ _ _ _ us hl => match us, hl with | [_], _ => rfl
  refine ⟨fd49, fun s v => b s [v] rfl, fun base hb1 hb2 => ?_⟩
  have O_is_int : FnOk P w K mg base (L2.CX P w) (1) _ fd0 ["value"] (spD ⟨K, mg⟩ F_is_int 1) := ok_is_int T F0  
  have D_is_int : Df P w K mg base "is_int" ["value"] F_is_int 1 := df_mk F0 (He.glo_ok X G (c.d.fact 0 (f := .glo "is_int") rfl)) (F0.bindsN fun _ _ _ _ _ _ us hl => match us, hl with | [_], _ => rfl) O_is_int
  have O_is_between : FnOk P w K mg base (L2.CX P w) (2) _ fd1 ["value", "least", "greatest"] (spD ⟨K, mg⟩ F_is_between 3) := ok_is_between T F1 D_is_int 
  have D_is_between : Df P w K mg base "is_between" ["value", "least", "greatest"] F_is_between 2 := df_mk F1 (He.glo_ok X G (c.d.fact 1 (f := .glo "is_between") rfl)) (F1.bindsN fun _ _ _ _ _ _ us hl => match us, hl with | [_, _, _], _ => rfl) O_is_between
  have O_is_bit : FnOk P w K mg base (L2.CX P w) (3) _ fd2 ["value"] (spD ⟨K, mg⟩ F_is_bit 1) := ok_is_bit T F2 D_is_between 
  have D_is_bit : Df P w K mg base "is_bit" ["value"] F_is_bit 3 := df_mk F2 (He.glo_ok X G (c.d.fact 2 (f := .glo "is_bit") rfl)) (F2.bindsN fun _ _ _ _ _ _ us hl => match us, hl with | [_], _ => rfl) O_is_bit
  have O_is_tuple_of : FnOk P w K mg base (L2.CX P w) (1) _ fd3 ["value", "length"] (spD ⟨K, mg⟩ F_is_tuple_of 2) := ok_is_tuple_of T F3  
  have D_is_tuple_of : Df P w K mg base "is_tuple_of" ["value", "length"] F_is_tuple_of 1 := df_mk F3 (He.glo_ok X G (c.d.fact 3 (f := .glo "is_tuple_of") rfl)) (F3.bindsN fun _ _ _ _ _ _ us hl => match us, hl with | [_, _], _ => rfl) O_is_tuple_of
  have O_is_all : FnOk P w K mg base (L2.CX P w) (1) _ fd4 ["row", "signs"] (spD ⟨K, mg⟩ F_is_all 2) := ok_is_all T F4  
  have D_is_all : Df P w K mg base "is_all" ["row", "signs"] F_is_all 1 := df_mk F4 (He.glo_ok X G (c.d.fact 4 (f := .glo "is_all") rfl)) (F4.bindsN fun _ _ _ _ _ _ us hl => match us, hl with | [_, _], _ => rfl) O_is_all
  have O_is_word : FnOk P w K mg base (L2.CX P w) (1) _ fd5 ["row"] (spD ⟨K, mg⟩ F_is_word 1) := ok_is_word T F5  
  have D_is_word : Df P w K mg base "is_word" ["row"] F_is_word 1 := df_mk F5 (He.glo_ok X G (c.d.fact 5 (f := .glo "is_word") rfl)) (F5.bindsN fun _ _ _ _ _ _ us hl => match us, hl with | [_], _ => rfl) O_is_word
  have O_is_small_row : FnOk P w K mg base (L2.CX P w) (2) _ fd6 ["row"] (spD ⟨K, mg⟩ F_is_small_row 1) := ok_is_small_row T F6 D_is_all 
  have D_is_small_row : Df P w K mg base "is_small_row" ["row"] F_is_small_row 2 := df_mk F6 (He.glo_ok X G (c.d.fact 6 (f := .glo "is_small_row") rfl)) (F6.bindsN fun _ _ _ _ _ _ us hl => match us, hl with | [_], _ => rfl) O_is_small_row
  have O_is_small_name : FnOk P w K mg base (L2.CX P w) (3) _ fd7 ["row"] (spD ⟨K, mg⟩ F_is_small_name 1) := ok_is_small_name T F7 D_is_small_row D_is_word 
  have D_is_small_name : Df P w K mg base "is_small_name" ["row"] F_is_small_name 3 := df_mk F7 (He.glo_ok X G (c.d.fact 7 (f := .glo "is_small_name") rfl)) (F7.bindsN fun _ _ _ _ _ _ us hl => match us, hl with | [_], _ => rfl) O_is_small_name
  have O_is_great_name : FnOk P w K mg base (L2.CX P w) (2) _ fd8 ["row"] (spD ⟨K, mg⟩ F_is_great_name 1) := ok_is_great_name T F8 D_is_all 
  have D_is_great_name : Df P w K mg base "is_great_name" ["row"] F_is_great_name 2 := df_mk F8 (He.glo_ok X G (c.d.fact 8 (f := .glo "is_great_name") rfl)) (F8.bindsN fun _ _ _ _ _ _ us hl => match us, hl with | [_], _ => rfl) O_is_great_name
  have O_is_told_name : FnOk P w K mg base (L2.CX P w) (4) _ fd9 ["value"] (spD ⟨K, mg⟩ F_is_told_name 1) := ok_is_told_name T F9 D_is_small_name 
  have D_is_told_name : Df P w K mg base "is_told_name" ["value"] F_is_told_name 4 := df_mk F9 (He.glo_ok X G (c.d.fact 9 (f := .glo "is_told_name") rfl)) (F9.bindsN fun _ _ _ _ _ _ us hl => match us, hl with | [_], _ => rfl) O_is_told_name
  have O_is_told_great : FnOk P w K mg base (L2.CX P w) (3) _ fd10 ["value"] (spD ⟨K, mg⟩ F_is_told_great 1) := ok_is_told_great T F10 D_is_great_name 
  have D_is_told_great : Df P w K mg base "is_told_great" ["value"] F_is_told_great 3 := df_mk F10 (He.glo_ok X G (c.d.fact 10 (f := .glo "is_told_great") rfl)) (F10.bindsN fun _ _ _ _ _ _ us hl => match us, hl with | [_], _ => rfl) O_is_told_great
  have O_is_told_number : FnOk P w K mg base (L2.CX P w) (3) _ fd11 ["value"] (spD ⟨K, mg⟩ F_is_told_number 1) := ok_is_told_number T F11 D_is_between 
  have D_is_told_number : Df P w K mg base "is_told_number" ["value"] F_is_told_number 3 := df_mk F11 (He.glo_ok X G (c.d.fact 11 (f := .glo "is_told_number") rfl)) (F11.bindsN fun _ _ _ _ _ _ us hl => match us, hl with | [_], _ => rfl) O_is_told_number
  have O_is_told_range : FnOk P w K mg base (L2.CX P w) (4) _ fd12 ["value"] (spD ⟨K, mg⟩ F_is_told_range 1) := ok_is_told_range T F12 D_is_tuple_of D_is_told_number 
  have D_is_told_range : Df P w K mg base "is_told_range" ["value"] F_is_told_range 4 := df_mk F12 (He.glo_ok X G (c.d.fact 12 (f := .glo "is_told_range") rfl)) (F12.bindsN fun _ _ _ _ _ _ us hl => match us, hl with | [_], _ => rfl) O_is_told_range
  have O_is_told_rule : FnOk P w K mg base (L2.CX P w) (5) _ fd13 ["value"] (spD ⟨K, mg⟩ F_is_told_rule 1) := ok_is_told_rule T F13 D_is_tuple_of D_is_bit D_is_told_range 
  have D_is_told_rule : Df P w K mg base "is_told_rule" ["value"] F_is_told_rule 5 := df_mk F13 (He.glo_ok X G (c.d.fact 13 (f := .glo "is_told_rule") rfl)) (F13.bindsN fun _ _ _ _ _ _ us hl => match us, hl with | [_], _ => rfl) O_is_told_rule
  have O_are_told_rules : FnOk P w K mg base (L2.CX P w) (6) _ fd14 ["value"] (spD ⟨K, mg⟩ F_are_told_rules 1) := ok_are_told_rules T F14 D_is_told_rule 
  have D_are_told_rules : Df P w K mg base "are_told_rules" ["value"] F_are_told_rules 6 := df_mk F14 (He.glo_ok X G (c.d.fact 14 (f := .glo "are_told_rules") rfl)) (F14.bindsN fun _ _ _ _ _ _ us hl => match us, hl with | [_], _ => rfl) O_are_told_rules
  have O_is_net : FnOk P w K mg base (L2.CX P w) (5) _ fd15 ["item"] (spD ⟨K, mg⟩ F_is_net 1) := ok_is_net T F15 D_is_told_name 
  have D_is_net : Df P w K mg base "is_net" ["item"] F_is_net 5 := df_mk F15 (He.glo_ok X G (c.d.fact 15 (f := .glo "is_net") rfl)) (F15.bindsN fun _ _ _ _ _ _ us hl => match us, hl with | [_], _ => rfl) O_is_net
  have O_is_host : FnOk P w K mg base (L2.CX P w) (5) _ fd16 ["item"] (spD ⟨K, mg⟩ F_is_host 1) := ok_is_host T F16 D_is_told_name 
  have D_is_host : Df P w K mg base "is_host" ["item"] F_is_host 5 := df_mk F16 (He.glo_ok X G (c.d.fact 16 (f := .glo "is_host") rfl)) (F16.bindsN fun _ _ _ _ _ _ us hl => match us, hl with | [_], _ => rfl) O_is_host
  have O_is_door : FnOk P w K mg base (L2.CX P w) (5) _ fd17 ["item"] (spD ⟨K, mg⟩ F_is_door 1) := ok_is_door T F17 D_is_told_name D_is_told_number D_is_bit 
  have D_is_door : Df P w K mg base "is_door" ["item"] F_is_door 5 := df_mk F17 (He.glo_ok X G (c.d.fact 17 (f := .glo "is_door") rfl)) (F17.bindsN fun _ _ _ _ _ _ us hl => match us, hl with | [_], _ => rfl) O_is_door
  have O_is_open : FnOk P w K mg base (L2.CX P w) (5) _ fd18 ["item"] (spD ⟨K, mg⟩ F_is_open 1) := ok_is_open T F18 D_is_told_name D_is_told_number 
  have D_is_open : Df P w K mg base "is_open" ["item"] F_is_open 5 := df_mk F18 (He.glo_ok X G (c.d.fact 18 (f := .glo "is_open") rfl)) (F18.bindsN fun _ _ _ _ _ _ us hl => match us, hl with | [_], _ => rfl) O_is_open
  have O_is_wall : FnOk P w K mg base (L2.CX P w) (7) _ fd19 ["item"] (spD ⟨K, mg⟩ F_is_wall 1) := ok_is_wall T F19 D_is_told_great D_are_told_rules 
  have D_is_wall : Df P w K mg base "is_wall" ["item"] F_is_wall 7 := df_mk F19 (He.glo_ok X G (c.d.fact 19 (f := .glo "is_wall") rfl)) (F19.bindsN fun _ _ _ _ _ _ us hl => match us, hl with | [_], _ => rfl) O_is_wall
  have O_is_item : FnOk P w K mg base (L2.CX P w) (8) _ fd20 ["value"] (spD ⟨K, mg⟩ F_is_item 1) := ok_is_item T F20 D_is_net D_is_host D_is_door D_is_open D_is_wall 
  have D_is_item : Df P w K mg base "is_item" ["value"] F_is_item 8 := df_mk F20 (He.glo_ok X G (c.d.fact 20 (f := .glo "is_item") rfl)) (F20.bindsN fun _ _ _ _ _ _ us hl => match us, hl with | [_], _ => rfl) O_is_item
  have O_has_shape : FnOk P w K mg base (L2.CX P w) (9) _ fd21 ["value"] (spD ⟨K, mg⟩ F_has_shape 1) := ok_has_shape T F21 D_is_item 
  have D_has_shape : Df P w K mg base "has_shape" ["value"] F_has_shape 9 := df_mk F21 (He.glo_ok X G (c.d.fact 21 (f := .glo "has_shape") rfl)) (F21.bindsN fun _ _ _ _ _ _ us hl => match us, hl with | [_], _ => rfl) O_has_shape
  have O_net_line : FnOk P w K mg base (L2.CX P w) (1) _ fd22 ["item"] (spD ⟨K, mg⟩ F_net_line 1) := ok_net_line T F22  
  have D_net_line : Df P w K mg base "net_line" ["item"] F_net_line 1 := df_mk F22 (He.glo_ok X G (c.d.fact 22 (f := .glo "net_line") rfl)) (F22.bindsN fun _ _ _ _ _ _ us hl => match us, hl with | [_], _ => rfl) O_net_line
  have O_host_line : FnOk P w K mg base (L2.CX P w) (1) _ fd23 ["item"] (spD ⟨K, mg⟩ F_host_line 1) := ok_host_line T F23  
  have D_host_line : Df P w K mg base "host_line" ["item"] F_host_line 1 := df_mk F23 (He.glo_ok X G (c.d.fact 23 (f := .glo "host_line") rfl)) (F23.bindsN fun _ _ _ _ _ _ us hl => match us, hl with | [_], _ => rfl) O_host_line
  have O_door_line : FnOk P w K mg base (L2.CX P w) (1) _ fd24 ["item"] (spD ⟨K, mg⟩ F_door_line 1) := ok_door_line T F24  
  have D_door_line : Df P w K mg base "door_line" ["item"] F_door_line 1 := df_mk F24 (He.glo_ok X G (c.d.fact 24 (f := .glo "door_line") rfl)) (F24.bindsN fun _ _ _ _ _ _ us hl => match us, hl with | [_], _ => rfl) O_door_line
  have O_open_line : FnOk P w K mg base (L2.CX P w) (1) _ fd25 ["item"] (spD ⟨K, mg⟩ F_open_line 1) := ok_open_line T F25  
  have D_open_line : Df P w K mg base "open_line" ["item"] F_open_line 1 := df_mk F25 (He.glo_ok X G (c.d.fact 25 (f := .glo "open_line") rfl)) (F25.bindsN fun _ _ _ _ _ _ us hl => match us, hl with | [_], _ => rfl) O_open_line
  have O_range_words : FnOk P w K mg base (L2.CX P w) (1) _ fd26 ["told"] (spD ⟨K, mg⟩ F_range_words 1) := ok_range_words T F26  
  have D_range_words : Df P w K mg base "range_words" ["told"] F_range_words 1 := df_mk F26 (He.glo_ok X G (c.d.fact 26 (f := .glo "range_words") rfl)) (F26.bindsN fun _ _ _ _ _ _ us hl => match us, hl with | [_], _ => rfl) O_range_words
  have O_rule_line : FnOk P w K mg base (L2.CX P w) (2) _ fd27 ["rule"] (spD ⟨K, mg⟩ F_rule_line 1) := ok_rule_line T F27 D_range_words 
  have D_rule_line : Df P w K mg base "rule_line" ["rule"] F_rule_line 2 := df_mk F27 (He.glo_ok X G (c.d.fact 27 (f := .glo "rule_line") rfl)) (F27.bindsN fun _ _ _ _ _ _ us hl => match us, hl with | [_], _ => rfl) O_rule_line
  have O_wall_lines : FnOk P w K mg base (L2.CX P w) (3) _ fd28 ["item"] (spD ⟨K, mg⟩ F_wall_lines 1) := ok_wall_lines T F28 D_rule_line 
  have D_wall_lines : Df P w K mg base "wall_lines" ["item"] F_wall_lines 3 := df_mk F28 (He.glo_ok X G (c.d.fact 28 (f := .glo "wall_lines") rfl)) (F28.bindsN fun _ _ _ _ _ _ us hl => match us, hl with | [_], _ => rfl) O_wall_lines
  have O_item_lines : FnOk P w K mg base (L2.CX P w) (4) _ fd29 ["item"] (spD ⟨K, mg⟩ F_item_lines 1) := ok_item_lines T F29 D_net_line D_host_line D_door_line D_open_line D_wall_lines 
  have D_item_lines : Df P w K mg base "item_lines" ["item"] F_item_lines 4 := df_mk F29 (He.glo_ok X G (c.d.fact 29 (f := .glo "item_lines") rfl)) (F29.bindsN fun _ _ _ _ _ _ us hl => match us, hl with | [_], _ => rfl) O_item_lines
  have O_write : FnOk P w K mg base (L2.CX P w) (10) _ fd30 ["plan"] (spD ⟨K, mg⟩ F_write 1) := ok_write T F30 D_has_shape D_item_lines 
  have D_write : Df P w K mg base "write" ["plan"] F_write 10 := df_mk F30 (He.glo_ok X G (c.d.fact 30 (f := .glo "write") rfl)) (F30.bindsN fun _ _ _ _ _ _ us hl => match us, hl with | [_], _ => rfl) O_write
  have K_write_0_plan : DfK P w K mg base "write" ["plan"] F_write 10 0 ["plan"] [(true, 0)] := by
    refine ⟨_, fd30, He.glo_ok X G (c.d.fact 30 (f := .glo "write") rfl), F30.kp, ?_, O_write⟩
    obtain ⟨oc, od, dV, kV, doc, pm, an, cdv, ct, osl, e1, lk, hcd, hD, hK⟩ := F30.ex
    rcases hD with ⟨_, e2⟩ | ⟨e2, _⟩
    · subst e2
      rw [e1]
      exact fun s us ws h1 h2 => match us, h1, ws, h2 with | [], _, [_], _ => .of_eq rfl
    · exact absurd rfl e2
  have O__law_tape : FnOk P w K mg base (L2.CX P w) (1) _ fd31 ["script"] (spD ⟨K, mg⟩ F__law_tape 1) := ok__law_tape T F31  
  have D__law_tape : Df P w K mg base "_law_tape" ["script"] F__law_tape 1 := df_mk F31 (He.glo_ok X G (c.d.fact 31 (f := .glo "_law_tape") rfl)) (F31.bindsN fun _ _ _ _ _ _ us hl => match us, hl with | [_], _ => rfl) O__law_tape
  have O__law_draw : FnOk P w K mg base (L2.CX P w) (1) _ fd32 ["tape", "limit"] (spD ⟨K, mg⟩ F__law_draw 2) := ok__law_draw T F32  
  have D__law_draw : Df P w K mg base "_law_draw" ["tape", "limit"] F__law_draw 1 := df_mk F32 (He.glo_ok X G (c.d.fact 32 (f := .glo "_law_draw") rfl)) (F32.bindsN fun _ _ _ _ _ _ us hl => match us, hl with | [_, _], _ => rfl) O__law_draw
  have O__law_pick : FnOk P w K mg base (L2.CX P w) (2) _ fd33 ["tape", "row"] (spD ⟨K, mg⟩ F__law_pick 2) := ok__law_pick T F33 D__law_draw 
  have D__law_pick : Df P w K mg base "_law_pick" ["tape", "row"] F__law_pick 2 := df_mk F33 (He.glo_ok X G (c.d.fact 33 (f := .glo "_law_pick") rfl)) (F33.bindsN fun _ _ _ _ _ _ us hl => match us, hl with | [_, _], _ => rfl) O__law_pick
  have D__law_same : Df P w K mg base "_law_same" ["told", "due"] (Fp_same 9) 9 := df_mk F34 (He.glo_ok X G (c.d.fact 34 (f := .glo "_law_same") rfl)) (F34.bindsN fun _ _ _ _ _ _ us hl => match us, hl with | [_, _], _ => rfl) (rec__law_same T F34 (He.glo_ok X G (c.d.fact 34 (f := .glo "_law_same") rfl)) (F34.bindsN fun _ _ _ _ _ _ us hl => match us, hl with | [_, _], _ => rfl)  9)
  have O__law_name : FnOk P w K mg base (L2.CX P w) (2) _ fd35 ["tape", "used"] (spD ⟨K, mg⟩ F__law_name 2) := ok__law_name T F35 D__law_draw 
  have D__law_name : Df P w K mg base "_law_name" ["tape", "used"] F__law_name 2 := df_mk F35 (He.glo_ok X G (c.d.fact 35 (f := .glo "_law_name") rfl)) (F35.bindsN fun _ _ _ _ _ _ us hl => match us, hl with | [_, _], _ => rfl) O__law_name
  have O__law_door_line : FnOk P w K mg base (L2.CX P w) (1) _ fd36 ["item"] (spD ⟨K, mg⟩ F__law_door_line 1) := ok__law_door_line T F36  
  have D__law_door_line : Df P w K mg base "_law_door_line" ["item"] F__law_door_line 1 := df_mk F36 (He.glo_ok X G (c.d.fact 36 (f := .glo "_law_door_line") rfl)) (F36.bindsN fun _ _ _ _ _ _ us hl => match us, hl with | [_], _ => rfl) O__law_door_line
  have O__law_range_text : FnOk P w K mg base (L2.CX P w) (1) _ fd37 ["pair"] (spD ⟨K, mg⟩ F__law_range_text 1) := ok__law_range_text T F37  
  have D__law_range_text : Df P w K mg base "_law_range_text" ["pair"] F__law_range_text 1 := df_mk F37 (He.glo_ok X G (c.d.fact 37 (f := .glo "_law_range_text") rfl)) (F37.bindsN fun _ _ _ _ _ _ us hl => match us, hl with | [_], _ => rfl) O__law_range_text
  have O__law_rules_lines : FnOk P w K mg base (L2.CX P w) (2) _ fd38 ["item"] (spD ⟨K, mg⟩ F__law_rules_lines 1) := ok__law_rules_lines T F38 D__law_range_text 
  have D__law_rules_lines : Df P w K mg base "_law_rules_lines" ["item"] F__law_rules_lines 2 := df_mk F38 (He.glo_ok X G (c.d.fact 38 (f := .glo "_law_rules_lines") rfl)) (F38.bindsN fun _ _ _ _ _ _ us hl => match us, hl with | [_], _ => rfl) O__law_rules_lines
  have O__law_line : FnOk P w K mg base (L2.CX P w) (3) _ fd39 ["item"] (spD ⟨K, mg⟩ F__law_line 1) := ok__law_line T F39 D__law_rules_lines D__law_door_line 
  have D__law_line : Df P w K mg base "_law_line" ["item"] F__law_line 3 := df_mk F39 (He.glo_ok X G (c.d.fact 39 (f := .glo "_law_line") rfl)) (F39.bindsN fun _ _ _ _ _ _ us hl => match us, hl with | [_], _ => rfl) O__law_line
  have O__law_pools : FnOk P w K mg base (L2.CX P w) (3) _ fd40 ["tape"] (spD ⟨K, mg⟩ F__law_pools 1) := ok__law_pools T F40 D__law_name D__law_draw 
  have D__law_pools : Df P w K mg base "_law_pools" ["tape"] F__law_pools 3 := df_mk F40 (He.glo_ok X G (c.d.fact 40 (f := .glo "_law_pools") rfl)) (F40.bindsN fun _ _ _ _ _ _ us hl => match us, hl with | [_], _ => rfl) O__law_pools
  have O__law_loose_door : FnOk P w K mg base (L2.CX P w) (3) _ fd41 ["tape", "pools"] (spD ⟨K, mg⟩ F__law_loose_door 2) := ok__law_loose_door T F41 D__law_pick D__law_draw 
  have D__law_loose_door : Df P w K mg base "_law_loose_door" ["tape", "pools"] F__law_loose_door 3 := df_mk F41 (He.glo_ok X G (c.d.fact 41 (f := .glo "_law_loose_door") rfl)) (F41.bindsN fun _ _ _ _ _ _ us hl => match us, hl with | [_, _], _ => rfl) O__law_loose_door
  have O__law_loose_range : FnOk P w K mg base (L2.CX P w) (2) _ fd42 ["tape"] (spD ⟨K, mg⟩ F__law_loose_range 1) := ok__law_loose_range T F42 D__law_draw 
  have D__law_loose_range : Df P w K mg base "_law_loose_range" ["tape"] F__law_loose_range 2 := df_mk F42 (He.glo_ok X G (c.d.fact 42 (f := .glo "_law_loose_range") rfl)) (F42.bindsN fun _ _ _ _ _ _ us hl => match us, hl with | [_], _ => rfl) O__law_loose_range
  have O__law_loose_rules : FnOk P w K mg base (L2.CX P w) (3) _ fd43 ["tape", "many"] (spD ⟨K, mg⟩ F__law_loose_rules 2) := ok__law_loose_rules T F43 D__law_loose_range D__law_draw 
  have D__law_loose_rules : Df P w K mg base "_law_loose_rules" ["tape", "many"] F__law_loose_rules 3 := df_mk F43 (He.glo_ok X G (c.d.fact 43 (f := .glo "_law_loose_rules") rfl)) (F43.bindsN fun _ _ _ _ _ _ us hl => match us, hl with | [_, _], _ => rfl) O__law_loose_rules
  have O__law_loose_item : FnOk P w K mg base (L2.CX P w) (4) _ fd44 ["tape", "pools"] (spD ⟨K, mg⟩ F__law_loose_item 2) := ok__law_loose_item T F44 D__law_draw D__law_pick D__law_loose_door D__law_loose_rules 
  have D__law_loose_item : Df P w K mg base "_law_loose_item" ["tape", "pools"] F__law_loose_item 4 := df_mk F44 (He.glo_ok X G (c.d.fact 44 (f := .glo "_law_loose_item") rfl)) (F44.bindsN fun _ _ _ _ _ _ us hl => match us, hl with | [_, _], _ => rfl) O__law_loose_item
  have O__law_edge_door : FnOk P w K mg base (L2.CX P w) (3) _ fd45 ["tape", "pools"] (spD ⟨K, mg⟩ F__law_edge_door 2) := ok__law_edge_door T F45 D__law_pick D__law_draw 
  have D__law_edge_door : Df P w K mg base "_law_edge_door" ["tape", "pools"] F__law_edge_door 3 := df_mk F45 (He.glo_ok X G (c.d.fact 45 (f := .glo "_law_edge_door") rfl)) (F45.bindsN fun _ _ _ _ _ _ us hl => match us, hl with | [_, _], _ => rfl) O__law_edge_door
  have O__law_edge_rules : FnOk P w K mg base (L2.CX P w) (3) _ fd46 ["tape"] (spD ⟨K, mg⟩ F__law_edge_rules 1) := ok__law_edge_rules T F46 D__law_draw D__law_pick 
  have D__law_edge_rules : Df P w K mg base "_law_edge_rules" ["tape"] F__law_edge_rules 3 := df_mk F46 (He.glo_ok X G (c.d.fact 46 (f := .glo "_law_edge_rules") rfl)) (F46.bindsN fun _ _ _ _ _ _ us hl => match us, hl with | [_], _ => rfl) O__law_edge_rules
  have O__law_items : FnOk P w K mg base (L2.CX P w) (5) _ fd47 ["tape"] (spD ⟨K, mg⟩ F__law_items 1) := ok__law_items T F47 D__law_pools D__law_draw D__law_edge_door D__law_pick D__law_edge_rules D__law_loose_item 
  have D__law_items : Df P w K mg base "_law_items" ["tape"] F__law_items 5 := df_mk F47 (He.glo_ok X G (c.d.fact 47 (f := .glo "_law_items") rfl)) (F47.bindsN fun _ _ _ _ _ _ us hl => match us, hl with | [_], _ => rfl) O__law_items
  have O__law_asks : FnOk P w K mg base (L2.CX P w) (12) _ fd48 ["script"] (spD ⟨K, mg⟩ F__law_asks 1) := ok__law_asks T F48 D__law_tape D__law_items D__law_same D_write D__law_line K_write_0_plan
  have D__law_asks : Df P w K mg base "_law_asks" ["script"] F__law_asks 12 := df_mk F48 (He.glo_ok X G (c.d.fact 48 (f := .glo "_law_asks") rfl)) (F48.bindsN fun _ _ _ _ _ _ us hl => match us, hl with | [_], _ => rfl) O__law_asks
  exact ok_law T F49 D__law_asks 

end Law
open PySem PySem.W PySem.Calls PyProof.Rows
set_option maxRecDepth 100000 in
set_option maxHeartbeats 0 in
theorem PySem.Challenge.cw_holesmet_k03_lines_of_items_holds : PySem.Challenge.rw_holesmet_k03_lines_of_items.Holds := by
  w_on; o_law
  refine HandSHeadRun.head_any (r := OpenLaw.row PySem.Challenge.rw_holesmet_k03_lines_of_items) (q := view (OpenLaw.row PySem.Challenge.rw_holesmet_k03_lines_of_items).prog [69]) (H := Law.hk) (ob := Law.ob) (M := 4000) (loose := Law.loose) (d := HandSHeadRun.topDef (OpenLaw.row PySem.Challenge.rw_holesmet_k03_lines_of_items).prog 69) (kwd := []) Law.ob_eq
    (by kernel_rfl) (fun s => by kernel_rfl) Law.run (by kernel_rfl) (by kernel_rfl) (by kernel_rfl) (by rfl) (by first | assumption | decide +kernel) (by decide +kernel) ⟨rfl, rfl, rfl, rfl, rfl, by decide +kernel⟩ ?hw ?hc
  case hw => w_witness2
  case hc =>
    refine Fl.walk_ofXE (l := PySem.Challenge.rw_holesmet_k03_lines_of_items) (n := 63) (k := 13) (x := "script") (CX := fun w => L2.CX (PySem.Challenge.rw_holesmet_k03_lines_of_items).prog w) rfl (by decide) (by kernel_rfl) ⟨rfl, by decide, by decide⟩ ?F ?G
    case G =>
      rintro w H s e s' ⟨_, _, _, _, _, _, _, _, _, _, _, _, z⟩
      exact z
    case F =>
      intro w mg fa h Y G hmg0
      obtain ⟨K, KX, c⟩ := Y
      have hmg : mg ("law" : PySem.Str) = some (.ref fa) := by
        have e : (HandSHeadRun.topDef (OpenLaw.row PySem.Challenge.rw_holesmet_k03_lines_of_items).prog 69).name = ("law" : PySem.Str) := by kernel_rfl
        rw [← e]
        exact hmg0
      obtain ⟨fd, hb, hF⟩ := Law.facts (P := (PySem.Challenge.rw_holesmet_k03_lines_of_items).prog) (w := w) KX G hmg c
      exact ⟨K, fd, _, KX, hb, fun H a ns hl hO hS => Fl.law_spec Law.law_true H a ns hl hO hS, hF⟩
#print axioms PySem.Challenge.cw_holesmet_k03_lines_of_items_holds

