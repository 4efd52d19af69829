import PyProof.Rows.All
import Wide.All
import OpenK.AllK
import Wide.FinOn
import HandS.ForMost
import HandS.ForExc
import HandS.Flow
import HandS.CallSlots
import HandS.Lambda
import HandS.ExcCtx
import HandS.Dict
import HandS.Wide
import HandS.IsInst
import HandS.TupAny
import HandS.Style
import HandS.Deep
import HandS.Defaults
import HandS.HeadEnd
import HandS.HeadHook1
import HandS.HeadHook2
import HandS.HeadHook3
import HandS.Head0
import HandS.Head1
import HandS.Head2
import HandS.Conv
import KE.KMathG
import KE.KMathGC
import HandS.FStr
import HandS.Text
import HandS.More
import HandS.List
import HandS.Exc
import HandS.ExcIs
import HandS.EndTab
import HandS.HotCalls
import PyProof.EnumMake
import KE.GoesMore
import HandS.Iter
import PySem.Challenge.RW_holesmet_k86_doors_joined_in_rows
set_option Elab.async false
set_option linter.all false
set_option maxRecDepth 100000
/-! Fl, part A: data, what they stand for, readings over plain functions. -/
namespace Fl
open PySem PySem.Spec L2
set_option autoImplicit false

/-- pure data -/
inductive P where
  | non | bl (b : Bool) | int (i : Int) | str (x : Str) | tup (xs : List P)
/-- a lambda: the function object, its code object and name; how the store, the abstract heap, the heap and the frames stood when it was made -/
structure LamI where
  f : Nat
  c : Nat
  q : Str
  ν : List Addr
  H0 : Hp
  h0 : Heap
  F : List Addr
/-- data: pure, a place in the store, a tuple with places in it, what a name of the module stands for -/
inductive D where
  | p (x : P) | ref (l : Nat) | tup (xs : List D) | gl (x : Str)
  /-- an exception that a suite holds; a lambda, its code object and name -/
  | exv (a : Nat) | lam (i : LamI)
/-- what stands at a place -/
inductive O where
  | lst (xs : List D) | ro (xs : List D) | ins (c : Str) (fs : List (Str × D))
  /-- dicts by ints and texts, by tuples of them; the table of code objects of the def x -/
  | dk (kvs : List (L2.Key × D)) | dt (kvs : List (List L2.Key × D)) | tab (x : Str)
  /-- dicts that are walked over and must stay -/
  | rod (kvs : List (L2.Key × D)) | rodt (kvs : List (List L2.Key × D))
abbrev Env := List (Option D)
abbrev Store := List O

def dicty : HO → Bool
  | .dK _ => true
  | .dT _ => true
  | _ => false
/-- the heap grew or changed, tuples and locked things (but dicts) stay -/
structure Ext (H H' : Hp) : Prop where
  tup : ∀ a xs, H a = some (.tup xs) → H' a = some (.tup xs)
  frz : ∀ a o u, dicty u = false → H a = some (.frz o u) → H' a = some (.frz o u)
  ext : ∀ a φ, H a = some (.ext φ) → H' a = some (.ext φ)
theorem Ext.refl (H : Hp) : Ext H H := ⟨fun _ _ h => h, fun _ _ _ _ h => h, fun _ _ h => h⟩
theorem Ext.trans {H H1 H2 : Hp} (a : Ext H H1) (b : Ext H1 H2) : Ext H H2 := ⟨fun c x h => b.tup c x (a.tup c x h), fun c o u d h => b.frz c o u d (a.frz c o u d h), fun c u h => b.ext c u (a.ext c u h)⟩
theorem Ext.new {H : Hp} {p : Addr} {o : HO} (h : H p = none) : Ext H (upd H p o) :=
  ⟨fun a xs e => by rw [upd_ne (ne_of_none e h)]; exact e, fun a ob u _ e => by rw [upd_ne (ne_of_none e h)]; exact e, fun a u e => by rw [upd_ne (ne_of_none e h)]; exact e⟩
theorem Ext.of_ne {H : Hp} {p : Addr} {x o : HO} (h : H p = some x) (h1 : ∀ xs, x ≠ .tup xs) (h2 : ∀ ob u, dicty u = false → x ≠ .frz ob u) (h3 : ∀ φ, x ≠ .ext φ) : Ext H (upd H p o) :=
  ⟨fun a ys e => by rw [upd_ne (ne_of e h (fun z => h1 _ z.symm))]; exact e, fun a ob u d e => by rw [upd_ne (ne_of e h (fun z => h2 _ _ d z.symm))]; exact e, fun a u e => by rw [upd_ne (ne_of e h (fun z => h3 _ z.symm))]; exact e⟩
theorem Ext.lst {H : Hp} {p : Addr} {xs : List V} {o : HO} (h : H p = some (.lst xs)) : Ext H (upd H p o) :=
  .of_ne h (fun _ z => by cases z) (fun _ _ _ z => by cases z) (fun _ z => by cases z)
theorem Ext.ins {H : Hp} {p : Addr} {C dx fs} {o : HO} (h : H p = some (.ins C dx fs)) : Ext H (upd H p o) :=
  .of_ne h (fun _ z => by cases z) (fun _ _ _ z => by cases z) (fun _ z => by cases z)
theorem Ext.dk {H : Hp} {p : Addr} {kvs} {o : HO} (h : H p = some (.dK kvs)) : Ext H (upd H p o) :=
  .of_ne h (fun _ z => by cases z) (fun _ _ _ z => by cases z) (fun _ z => by cases z)
theorem Ext.dt {H : Hp} {p : Addr} {kvs} {o : HO} (h : H p = some (.dT kvs)) : Ext H (upd H p o) :=
  .of_ne h (fun _ z => by cases z) (fun _ _ _ z => by cases z) (fun _ z => by cases z)
theorem Ext.unlock {H : Hp} {p : Addr} {od u} {o : HO} (h : H p = some (.frz od u)) (d : dicty u = true) : Ext H (upd H p o) :=
  .of_ne h (fun _ z => by cases z) (fun _ _ n z => by cases z; rw [d] at n; cases n) (fun _ z => by cases z)
/-- all but the tables of code objects stay -/
theorem Ext.extN {H H' : Hp} (h : LamX.ExtN H H') : Ext H H' :=
  ⟨fun a xs e => h a _ e (fun ps z => by cases z), fun a o u _ e => h a _ e (fun ps z => by cases z), fun a u e => h a _ e (fun ps z => by cases z)⟩
mutual
def RepP (K : PySem.W.Frag) (H : Hp) : P → V → Prop
  | .non, v => v = .non
  | .bl b, v => v = .bl b
  | .int i, v => v = .int i
  | .str x, v => v = .str x
  | .tup xs, v => ∃ a vs, v = .ref a ∧ SqT K H a vs ∧ RepPs K H xs vs
def RepPs (K : PySem.W.Frag) (H : Hp) : List P → List V → Prop
  | [], vs => vs = []
  | x :: xs, vs => ∃ v r, vs = v :: r ∧ RepP K H x v ∧ RepPs K H xs r
end
structure Gm where
  K : PySem.W.Frag
  mg : Str → Option Value
mutual
def Rep (G : Gm) (μ : List Addr) (H : Hp) : D → V → Prop
  | .p x, v => RepP G.K H x v
  | .ref l, v => ∃ a, μ[l]? = some a ∧ v = .ref a
  | .tup xs, v => ∃ a vs, v = .ref a ∧ SqT G.K H a vs ∧ Reps G μ H xs vs
  | .gl x, v => ∃ a, G.mg x = some (.ref a) ∧ v = .ref a
  | .exv a, v => v = .ref a
  | .lam i, v => v = .ref i.f ∧ H i.c = some (LamX.CodeO i.c i.q) ∧ i.ν <+: μ ∧ Ext i.H0 H
def Reps (G : Gm) (μ : List Addr) (H : Hp) : List D → List V → Prop
  | [], vs => vs = []
  | x :: xs, vs => ∃ v r, vs = v :: r ∧ Rep G μ H x v ∧ Reps G μ H xs r
end
def FsRep {κ : Type} (G : Gm) (μ : List Addr) (H : Hp) : List (κ × D) → List (κ × V) → Prop
  | [], gs => gs = []
  | (f, d) :: fs, gs => ∃ v r, gs = (f, v) :: r ∧ Rep G μ H d v ∧ FsRep G μ H fs r
/-- a list of the written part -/
def KL (K : PySem.W.Frag) (a : Addr) (xs : List V) : Prop :=
  ∃ (o : Obj) (its : Array Value) (n : Nat), K.lookup a = some o ∧ o.cls = .type "list" ∧ o.dict = none ∧ o.data = .seq its n ∧ its.size ≤ sizeLine ∧ Vals xs its.toList
/-- a list that is read and never changed -/
def RoL (K : PySem.W.Frag) (H : Hp) (a : Addr) (xs : List V) : Prop := (∃ o, H a = some (.frz o (.lst xs))) ∨ KL K a xs
theorem RoL.sql {K : PySem.W.Frag} {H : Hp} {a : Addr} {xs : List V} (h : RoL K H a xs) : SqL K H a xs := h.elim (fun h => .inl (.inr h)) fun h => .inr h
def O.isRo : O → Bool
  | .ro _ => true
  | _ => false
/-- the name of a lambda in the def x -/
def lamQ (x : Str) : Str := x ++ ".<locals>." ++ "<lambda>"
def ObjRep (G : Gm) (μ : List Addr) (H : Hp) (a : Addr) : O → Prop
  | .lst xs => ∃ vs, H a = some (.lst vs) ∧ Reps G μ H xs vs
  | .ro xs => ∃ vs, RoL G.K H a vs ∧ Reps G μ H xs vs
  | .ins c fs => ∃ C dx gs, G.mg c = some (.ref C) ∧ H a = some (.ins C dx gs) ∧ FsRep G μ H fs gs
  | .dk kvs => ∃ ws, H a = some (.dK ws) ∧ FsRep G μ H kvs ws
  | .dt kvs => ∃ ws, H a = some (.dT ws) ∧ FsRep G μ H kvs ws
  | .tab x => (∃ c, PySem.W.tabIn G.K x = some (c, a)) ∧ LamX.TabS H a (lamQ x)
  | .rod kvs => ∃ od ws, H a = some (.frz od (.dK ws)) ∧ FsRep G μ H kvs ws
  | .rodt kvs => ∃ od ws, H a = some (.frz od (.dT ws)) ∧ FsRep G μ H kvs ws
structure SR (G : Gm) (μ : List Addr) (H : Hp) (M : Store) : Prop where
  len : μ.length = M.length
  nd : ∀ (i j : Nat) (a : Addr) (x y : O), μ[i]? = some a → μ[j]? = some a → M[i]? = some x → M[j]? = some y → x.isRo = true ∨ y.isRo = true ∨ i = j
  obj : ∀ (l : Nat) (a : Addr) (o : O), μ[l]? = some a → M[l]? = some o → ObjRep G μ H a o
structure ER (G : Gm) (μ : List Addr) (H : Hp) (ρ : Env) (σ : St) : Prop where
  len : ρ.length = σ.length
  at_ : ∀ (i : Nat) (d : D), ρ[i]? = some (some d) → ∃ v, σ[i]? = some (some v) ∧ Rep G μ H d v

theorem Ext.sqt {K : PySem.W.Frag} {H H' : Hp} (e : Ext H H') {a : Addr} {xs : List V} (h : SqT K H a xs) : SqT K H' a xs := by
  rcases h with (h | ⟨o, h⟩) | h
  · exact .inl (.inl (e.tup _ _ h))
  · exact .inl (.inr ⟨o, e.frz _ _ _ rfl h⟩)
  · exact .inr h
section
variable {G : Gm} {μ μ' : List Addr} {H H' : Hp}
mutual
theorem RepP.ext {K : PySem.W.Frag} (e : Ext H H') : ∀ {x : P} {v : V}, RepP K H x v → RepP K H' x v
  | .non, _, h => by simpa only [RepP] using h
  | .bl _, _, h => by simpa only [RepP] using h
  | .int _, _, h => by simpa only [RepP] using h
  | .str _, _, h => by simpa only [RepP] using h
  | .tup xs, _, h => by
    simp only [RepP] at h ⊢
    obtain ⟨a, vs, rfl, h1, h2⟩ := h
    exact ⟨a, vs, rfl, e.sqt h1, RepPs.ext e h2⟩
theorem RepPs.ext {K : PySem.W.Frag} (e : Ext H H') : ∀ {xs : List P} {vs : List V}, RepPs K H xs vs → RepPs K H' xs vs
  | [], _, h => by simpa only [RepPs] using h
  | x :: xs, _, h => by
    simp only [RepPs] at h ⊢
    obtain ⟨v, r, rfl, h1, h2⟩ := h
    exact ⟨v, r, rfl, RepP.ext e h1, RepPs.ext e h2⟩
end
theorem pre_get {μ μ' : List Addr} (p : μ <+: μ') {l : Nat} {a : Addr} (h : μ[l]? = some a) : μ'[l]? = some a := by
  obtain ⟨t, rfl⟩ := p
  obtain ⟨hl, e⟩ := List.getElem?_eq_some_iff.mp h
  rw [List.getElem?_append_left hl]
  exact h
mutual
theorem Rep.ext (e : Ext H H') (p : μ <+: μ') : ∀ {x : D} {v : V}, Rep G μ H x v → Rep G μ' H' x v
  | .p x, _, h => by
    simp only [Rep] at h ⊢
    exact RepP.ext e h
  | .ref l, _, h => by
    simp only [Rep] at h ⊢
    obtain ⟨a, h1, h2⟩ := h
    exact ⟨a, pre_get p h1, h2⟩
  | .tup xs, _, h => by
    simp only [Rep] at h ⊢
    obtain ⟨a, vs, rfl, h1, h2⟩ := h
    exact ⟨a, vs, rfl, e.sqt h1, Reps.ext e p h2⟩
  | .gl x, _, h => by
    simpa only [Rep] using h
  | .exv a, _, h => by
    simpa only [Rep] using h
  | .lam i, _, h => by
    simp only [Rep] at h ⊢
    exact ⟨h.1, e.ext _ _ h.2.1, h.2.2.1.trans p, h.2.2.2.trans e⟩
theorem Reps.ext (e : Ext H H') (p : μ <+: μ') : ∀ {xs : List D} {vs : List V}, Reps G μ H xs vs → Reps G μ' H' xs vs
  | [], _, h => by simpa only [Reps] using h
  | x :: xs, _, h => by
    simp only [Reps] at h ⊢
    obtain ⟨v, r, rfl, h1, h2⟩ := h
    exact ⟨v, r, rfl, Rep.ext e p h1, Reps.ext e p h2⟩
end
theorem FsRep.ext {κ : Type} (e : Ext H H') (p : μ <+: μ') : ∀ {fs : List (κ × D)} {gs : List (κ × V)}, FsRep G μ H fs gs → FsRep G μ' H' fs gs
  | [], _, h => h
  | (f, d) :: fs, _, h => by
    obtain ⟨v, r, rfl, h1, h2⟩ := h
    exact ⟨v, r, rfl, Rep.ext e p h1, FsRep.ext e p h2⟩
theorem Reps.length : ∀ {xs : List D} {vs : List V}, Reps G μ H xs vs → xs.length = vs.length
  | [], _, h => by simp only [Reps] at h; subst h; rfl
  | x :: xs, _, h => by
    simp only [Reps] at h
    obtain ⟨v, r, rfl, h1, h2⟩ := h
    rw [List.length_cons, List.length_cons, Reps.length h2]
theorem RepPs.length {K : PySem.W.Frag} : ∀ {xs : List P} {vs : List V}, RepPs K H xs vs → xs.length = vs.length
  | [], _, h => by simp only [RepPs] at h; subst h; rfl
  | x :: xs, _, h => by
    simp only [RepPs] at h
    obtain ⟨v, r, rfl, h1, h2⟩ := h
    rw [List.length_cons, List.length_cons, RepPs.length h2]
theorem Reps.nil : Reps G μ H [] [] := by simp only [Reps]
theorem Reps.cons {x xs v vs} (h : Rep G μ H x v) (t : Reps G μ H xs vs) : Reps G μ H (x :: xs) (v :: vs) := by
  simp only [Reps]
  exact ⟨v, vs, rfl, h, t⟩
theorem Reps.inv {x xs ws} (h : Reps G μ H (x :: xs) ws) : ∃ v vs, ws = v :: vs ∧ Rep G μ H x v ∧ Reps G μ H xs vs := by
  simpa only [Reps] using h
theorem Reps.inv0 {ws} (h : Reps G μ H [] ws) : ws = [] := by
  simpa only [Reps] using h
theorem Reps.app : ∀ {xs ys : List D} {vs ws : List V}, Reps G μ H xs vs → Reps G μ H ys ws → Reps G μ H (xs ++ ys) (vs ++ ws)
  | [], _, _, _, h, t => by rw [h.inv0]; exact t
  | x :: xs, _, _, _, h, t => by
    obtain ⟨v, r, rfl, h1, h2⟩ := h.inv
    exact .cons h1 (Reps.app h2 t)
theorem Reps.get : ∀ {xs : List D} {vs : List V}, Reps G μ H xs vs → ∀ {i : Nat} {x : D}, xs[i]? = some x → ∃ v, vs[i]? = some v ∧ Rep G μ H x v
  | [], _, _, i, x, e => by simp at e
  | y :: xs, _, h, 0, x, e => by
    obtain ⟨v, r, rfl, h1, h2⟩ := h.inv
    simp at e
    subst e
    exact ⟨v, rfl, h1⟩
  | y :: xs, _, h, i + 1, x, e => by
    obtain ⟨v, r, rfl, h1, h2⟩ := h.inv
    obtain ⟨u, e1, e2⟩ := Reps.get h2 (i := i) (x := x) (by simpa using e)
    exact ⟨u, by simpa using e1, e2⟩
theorem Reps.drop : ∀ {xs : List D} {vs : List V} (n : Nat), Reps G μ H xs vs → Reps G μ H (xs.drop n) (vs.drop n)
  | _, _, 0, h => h
  | [], _, n + 1, h => by rw [h.inv0]; exact .nil
  | x :: xs, _, n + 1, h => by
    obtain ⟨v, r, rfl, h1, h2⟩ := h.inv
    exact Reps.drop n h2
theorem Reps.take : ∀ {xs : List D} {vs : List V} (n : Nat), Reps G μ H xs vs → Reps G μ H (xs.take n) (vs.take n)
  | _, _, 0, h => .nil
  | [], _, n + 1, h => by rw [h.inv0]; exact .nil
  | x :: xs, _, n + 1, h => by
    obtain ⟨v, r, rfl, h1, h2⟩ := h.inv
    exact .cons h1 (Reps.take n h2)
theorem Reps.rev : ∀ {xs : List D} {vs : List V}, Reps G μ H xs vs → Reps G μ H xs.reverse vs.reverse
  | [], _, h => by rw [h.inv0]; exact .nil
  | x :: xs, _, h => by
    obtain ⟨v, r, rfl, h1, h2⟩ := h.inv
    rw [List.reverse_cons, List.reverse_cons]
    exact Reps.app (Reps.rev h2) (.cons h1 .nil)
theorem Reps.set : ∀ {xs : List D} {vs : List V} (i : Nat) {x : D} {v : V}, Reps G μ H xs vs → Rep G μ H x v → Reps G μ H (xs.set i x) (vs.set i v)
  | [], _, _, _, _, h, _ => by rw [h.inv0]; exact .nil
  | y :: xs, _, 0, x, v, h, hx => by
    obtain ⟨u, r, rfl, h1, h2⟩ := h.inv
    exact .cons hx h2
  | y :: xs, _, i + 1, x, v, h, hx => by
    obtain ⟨u, r, rfl, h1, h2⟩ := h.inv
    exact .cons h1 (Reps.set i h2 hx)
theorem Reps.dropLast {xs : List D} {vs : List V} (h : Reps G μ H xs vs) : Reps G μ H xs.dropLast vs.dropLast := by
  rw [List.dropLast_eq_take, List.dropLast_eq_take, h.length]
  exact h.take _
theorem Reps.of_P : ∀ {xs : List P} {vs : List V}, RepPs G.K H xs vs → Reps G μ H (xs.map D.p) vs
  | [], _, h => by simp only [RepPs] at h; subst h; exact .nil
  | x :: xs, _, h => by
    simp only [RepPs] at h
    obtain ⟨v, r, rfl, h1, h2⟩ := h
    exact .cons (by simpa only [Rep] using h1) (Reps.of_P h2)
theorem Reps.to_P : ∀ {xs : List P} {vs : List V}, Reps G μ H (xs.map D.p) vs → RepPs G.K H xs vs
  | [], _, h => by rw [h.inv0]; simp only [RepPs]
  | x :: xs, _, h => by
    obtain ⟨v, r, rfl, h1, h2⟩ := h.inv
    simp only [RepPs]
    exact ⟨v, r, rfl, by simpa only [Rep] using h1, Reps.to_P h2⟩
/-- the object at a stands as it stood, or it is of the written part -/
theorem ObjRep.ext (e : Ext H H') (p : μ <+: μ') {a : Addr} {o : O} (h : ObjRep G μ H a o) (st : H' a = H a ∨ (o.isRo = true ∧ ∀ ob xs, H a ≠ some (.frz ob (.lst xs)))) : ObjRep G μ' H' a o := by
  cases o with
  | lst xs =>
    rcases st with st | st
    · obtain ⟨vs, h1, h2⟩ := h; exact ⟨vs, by rw [st]; exact h1, h2.ext e p⟩
    · cases st.1
  | ro xs =>
    obtain ⟨vs, h1, h2⟩ := h
    refine ⟨vs, ?_, h2.ext e p⟩
    rcases h1 with ⟨ob, h1⟩ | h1
    · rcases st with st | st
      · exact .inl ⟨ob, by rw [st]; exact h1⟩
      · exact absurd h1 (st.2 _ _)
    · exact .inr h1
  | ins c fs =>
    rcases st with st | st
    · obtain ⟨C, dx, gs, h0, h1, h2⟩ := h; exact ⟨C, dx, gs, h0, by rw [st]; exact h1, h2.ext e p⟩
    · cases st.1
  | dk kvs =>
    rcases st with st | st
    · obtain ⟨ws, h1, h2⟩ := h; exact ⟨ws, by rw [st]; exact h1, h2.ext e p⟩
    · cases st.1
  | dt kvs =>
    rcases st with st | st
    · obtain ⟨ws, h1, h2⟩ := h; exact ⟨ws, by rw [st]; exact h1, h2.ext e p⟩
    · cases st.1
  | tab x =>
    rcases st with st | st
    · obtain ⟨h0, ps, h1, h2, h3⟩ := h
      refine ⟨h0, ps, by rw [st]; exact h1, h2, fun pos cv hc => ?_⟩
      obtain ⟨c, e1, e2⟩ := h3 pos cv hc
      exact ⟨c, e1, e.ext _ _ e2⟩
    · cases st.1
  | rod kvs =>
    rcases st with st | st
    · obtain ⟨od, ws, h1, h2⟩ := h; exact ⟨od, ws, by rw [st]; exact h1, h2.ext e p⟩
    · cases st.1
  | rodt kvs =>
    rcases st with st | st
    · obtain ⟨od, ws, h1, h2⟩ := h; exact ⟨od, ws, by rw [st]; exact h1, h2.ext e p⟩
    · cases st.1
theorem ObjRep.some {a : Addr} {o : O} (h : ObjRep G μ H a o) (n : o.isRo = false) : ∃ u, H a = some u := by
  cases o with
  | lst xs => obtain ⟨vs, h1, h2⟩ := h; exact ⟨_, h1⟩
  | ro xs => cases n
  | ins c fs => obtain ⟨C, dx, gs, h0, h1, h2⟩ := h; exact ⟨_, h1⟩
  | dk kvs => obtain ⟨ws, h1, h2⟩ := h; exact ⟨_, h1⟩
  | dt kvs => obtain ⟨ws, h1, h2⟩ := h; exact ⟨_, h1⟩
  | tab x => obtain ⟨h0, ps, h1, h2, h3⟩ := h; exact ⟨_, h1⟩
  | rod kvs => obtain ⟨od, ws, h1, h2⟩ := h; exact ⟨_, h1⟩
  | rodt kvs => obtain ⟨od, ws, h1, h2⟩ := h; exact ⟨_, h1⟩
theorem SR.at_ {M : Store} (S : SR G μ H M) {l : Nat} {a : Addr} (h : μ[l]? = some a) : ∃ o, M[l]? = some o ∧ ObjRep G μ H a o := by
  have hl : l < M.length := by
    rw [← S.len]
    exact (List.getElem?_eq_some_iff.mp h).1
  exact ⟨M[l], List.getElem?_eq_getElem hl, S.obj l a _ h (List.getElem?_eq_getElem hl)⟩
theorem SR.adr {M : Store} (S : SR G μ H M) {l : Nat} {o : O} (h : M[l]? = some o) : ∃ a, μ[l]? = some a ∧ ObjRep G μ H a o := by
  have hl : l < μ.length := by
    rw [S.len]
    exact (List.getElem?_eq_some_iff.mp h).1
  exact ⟨μ[l], List.getElem?_eq_getElem hl, S.obj l _ o (List.getElem?_eq_getElem hl) h⟩
/-- what stands at a new place: nothing but a list of the written part -/
theorem ObjRep.at_new {a p : Addr} {o : O} {u : HO} (h : ObjRep G μ H a o) (hp : H p = none) : (upd H p u) a = H a ∨ (o.isRo = true ∧ ∀ ob xs, H a ≠ Option.some (.frz ob (.lst xs))) := by
  by_cases e : a = p
  · subst e
    cases q : o.isRo with
    | false =>
      obtain ⟨v, hv⟩ := h.some q
      rw [hp] at hv
      cases hv
    | true => exact .inr ⟨rfl, fun ob w z => by rw [hp] at z; cases z⟩
  · exact .inl (upd_ne e)
theorem isRo_new {a : Addr} {o : O} (h : ObjRep G μ H a o) (hp : H a = none) : o.isRo = true := by
  cases q : o.isRo with
  | true => rfl
  | false =>
    obtain ⟨v, hv⟩ := h.some q
    rw [hp] at hv
    cases hv
/-- a new object of the store -/
theorem SR.new {M : Store} (S : SR G μ H M) {p : Addr} {o : O} {u : HO} (hp : H p = none) (h : ObjRep G (μ ++ [p]) (upd H p u) p o) : SR G (μ ++ [p]) (upd H p u) (M ++ [o]) := by
  have old : ∀ {l : Nat} {a : Addr} {x : O}, (μ ++ [p])[l]? = some a → (M ++ [o])[l]? = some x → (l < μ.length ∧ μ[l]? = some a ∧ M[l]? = some x) ∨ (l = μ.length ∧ a = p ∧ x = o) := fun {l a x} h1 h2 => by
    by_cases hl : l < μ.length
    · rw [List.getElem?_append_left hl] at h1
      rw [List.getElem?_append_left (by rw [← S.len]; exact hl)] at h2
      exact .inl ⟨hl, h1, h2⟩
    · have e1 : l = μ.length := by
        have := (List.getElem?_eq_some_iff.mp h1).1
        simp at this
        omega
      subst e1
      refine .inr ⟨rfl, by simpa using h1.symm, ?_⟩
      rw [S.len] at h2
      simpa using h2.symm
  refine ⟨by simp [S.len], fun i j a x y h1 h2 h3 h4 => ?_, fun l a ob h1 h2 => ?_⟩
  · rcases old h1 h3 with ⟨_, k1, k3⟩ | ⟨k0, k1, k3⟩
    · rcases old h2 h4 with ⟨_, k2, k4⟩ | ⟨_, k2, k4⟩
      · exact S.nd i j a x y k1 k2 k3 k4
      · subst k2
        exact .inl (isRo_new (S.obj i a x k1 k3) hp)
    · rcases old h2 h4 with ⟨_, k2, k4⟩ | ⟨k5, k2, k4⟩
      · subst k1
        exact .inr (.inl (isRo_new (S.obj j a y k2 k4) hp))
      · exact .inr (.inr (by rw [k0, k5]))
  · rcases old h1 h2 with ⟨_, k1, k2⟩ | ⟨_, k1, k2⟩
    · have r := S.obj l a ob k1 k2
      exact r.ext (.new hp) (List.prefix_append _ _) (r.at_new hp)
    · rw [k1, k2]
      exact h
/-- another heap with more in it -/
theorem SR.grow {M : Store} (S : SR G μ H M) {p : Addr} {u : HO} (hp : H p = none) : SR G μ (upd H p u) M :=
  ⟨S.len, S.nd, fun l a o h1 h2 => (S.obj l a o h1 h2).ext (.new hp) (List.prefix_refl _) ((S.obj l a o h1 h2).at_new hp)⟩
/-- an object of the store is changed -/
theorem SR.put {M : Store} (S : SR G μ H M) {l : Nat} {a : Addr} {o o0 : O} {u : HO} (h : μ[l]? = some a) (h0 : M[l]? = some o0) (n0 : o0.isRo = false) (n1 : o.isRo = false) (nf : ∀ ob xs, H a ≠ Option.some (.frz ob (.lst xs))) (e : Ext H (upd H a u)) (r : ObjRep G μ (upd H a u) a o) : SR G μ (upd H a u) (M.set l o) := by
  have hlt : l < M.length := by rw [← S.len]; exact (List.getElem?_eq_some_iff.mp h).1
  have old : ∀ {k : Nat} {x : O}, (M.set l o)[k]? = some x → (k = l ∧ x = o) ∨ (k ≠ l ∧ M[k]? = some x) := fun {k x} h2 => by
    by_cases hk : k = l
    · subst hk
      rw [List.getElem?_set_self hlt] at h2
      exact .inl ⟨rfl, (Option.some.inj h2).symm⟩
    · rw [List.getElem?_set_ne (Ne.symm hk)] at h2
      exact .inr ⟨hk, h2⟩
  refine ⟨by simp [S.len], fun i j b x y h1 h2 h3 h4 => ?_, fun k b ob h1 h2 => ?_⟩
  · rcases old h3 with ⟨k1, k2⟩ | ⟨k1, k2⟩
    · rcases old h4 with ⟨k3, k4⟩ | ⟨k3, k4⟩
      · exact .inr (.inr (by rw [k1, k3]))
      · subst k1
        rcases S.nd i j b o0 y h1 h2 h0 k4 with z | z | z
        · rw [n0] at z; cases z
        · exact .inr (.inl z)
        · exact .inr (.inr z)
    · rcases old h4 with ⟨k3, k4⟩ | ⟨k3, k4⟩
      · subst k3
        rcases S.nd i j b x o0 h1 h2 k2 h0 with z | z | z
        · exact .inl z
        · rw [n0] at z; cases z
        · exact .inr (.inr z)
      · exact S.nd i j b x y h1 h2 k2 k4
  · rcases old h2 with ⟨k1, k2⟩ | ⟨k1, k2⟩
    · subst k1
      rw [h] at h1
      cases h1
      rw [k2]
      exact r
    · refine (S.obj k b ob h1 k2).ext e (List.prefix_refl _) ?_
      by_cases z : b = a
      · subst z
        rcases S.nd k l b ob o0 h1 h k2 h0 with q | q | q
        · exact .inr ⟨q, nf⟩
        · rw [n0] at q; cases q
        · exact absurd q k1
      · exact .inl (upd_ne z)
theorem ER.ext (e : Ext H H') (p : μ <+: μ') {ρ : Env} {σ : St} (h : ER G μ H ρ σ) : ER G μ' H' ρ σ :=
  ⟨h.len, fun i d q => by
    obtain ⟨v, h1, h2⟩ := h.at_ i d q
    exact ⟨v, h1, h2.ext e p⟩⟩
theorem ER.set {ρ : Env} {σ : St} (h : ER G μ H ρ σ) (i : Nat) {d : D} {v : V} (r : Rep G μ H d v) : ER G μ H (ρ.set i (some d)) (σ.set i (some v)) :=
  ⟨by simp [h.len], fun j e q => by
    by_cases hj : j = i
    · subst hj
      have hlt : j < ρ.length := by
        have := (List.getElem?_eq_some_iff.mp q).1
        simpa using this
      rw [List.getElem?_set_self hlt] at q
      cases q
      exact ⟨v, by rw [List.getElem?_set_self (by rw [← h.len]; exact hlt)], r⟩
    · rw [List.getElem?_set_ne (Ne.symm hj)] at q ⊢
      exact h.at_ j e q⟩
end

/-! ### what comes of a piece of code -/
inductive R (α : Type) where
  | ok (a : α) (M : Store) | ex (c : Str) (fs : Option (List (Str × D))) (M : Store) | no
def R.bind {α β : Type} : R α → (α → Store → R β) → R β
  | .ok a M, g => g a M
  | .ex c fs M, _ => .ex c fs M
  | .no, _ => .no
inductive Out where
  | nx (ρ : Env) (M : Store) | rt (d : D) (M : Store) | bk (ρ : Env) (M : Store) | ct (ρ : Env) (M : Store) | ex (c : Str) (fs : Option (List (Str × D))) (ρ : Env) (M : Store) | no
def Out.bind : Out → (Env → Store → Out) → Out
  | .nx ρ M, g => g ρ M
  | o, _ => o
def R.out {α : Type} (ρ : Env) : R α → (α → Store → Out) → Out
  | .ok a M, g => g a M
  | .ex c fs M, _ => .ex c fs ρ M
  | .no, _ => .no
abbrev RX (α : Type) := Env → Store → R α
abbrev RE := RX D
abbrev RT := RX Bool
abbrev RA := RX (List D)
abbrev RS := Env → Store → Out
@[simp] theorem R.bind_ok {α β : Type} (a : α) (M : Store) (g : α → Store → R β) : (R.ok a M).bind g = g a M := (rfl)
@[simp] theorem R.bind_ex {α β : Type} (c fs M) (g : α → Store → R β) : (R.ex c fs M).bind g = .ex c fs M := (rfl)
@[simp] theorem R.bind_no {α β : Type} (g : α → Store → R β) : (R.no).bind g = .no := (rfl)
@[simp] theorem R.out_ok {α : Type} (ρ : Env) (a : α) (M : Store) (g : α → Store → Out) : (R.ok a M).out ρ g = g a M := (rfl)
@[simp] theorem R.out_ex {α : Type} (ρ : Env) (c fs M) (g : α → Store → Out) : (R.ex c fs M).out ρ g = .ex c fs ρ M := (rfl)
@[simp] theorem R.out_no {α : Type} (ρ : Env) (g : α → Store → Out) : (R.no).out ρ g = .no := (rfl)
@[simp] theorem Out.bind_nx (ρ M) (g : Env → Store → Out) : (Out.nx ρ M).bind g = g ρ M := (rfl)
@[simp] theorem Out.bind_rt (d M) (g : Env → Store → Out) : (Out.rt d M).bind g = .rt d M := (rfl)
@[simp] theorem Out.bind_bk (ρ M) (g : Env → Store → Out) : (Out.bk ρ M).bind g = .bk ρ M := (rfl)
@[simp] theorem Out.bind_ct (ρ M) (g : Env → Store → Out) : (Out.ct ρ M).bind g = .ct ρ M := (rfl)
@[simp] theorem Out.bind_ex (c fs ρ M) (g : Env → Store → Out) : (Out.ex c fs ρ M).bind g = .ex c fs ρ M := (rfl)
@[simp] theorem Out.bind_no (g : Env → Store → Out) : (Out.no).bind g = .no := (rfl)

/-- how an exception's own fields lie -/
def XR (G : Gm) (μ : List Addr) (H : Hp) : Option (List (Str × D)) → Option Addr → Prop
  | none, d => d = none
  | some fs, d => ∃ a gs, d = some a ∧ H a = some (.xd gs) ∧ FsRep G μ H fs gs
/-- the class that a name stands for -/
def cval (G : Gm) (c : Str) : Value := (G.mg c).getD .none
section
variable {α β γ ι κ : Type} (G : Gm) (rel : List Addr → Hp → α → ι → Prop) (W : WX) (μ : List Addr) (σ : St) (H : Hp) (Q : ι → Hp → Prop)
def Fin : R α → Prop
  | .ok d M => ∀ μ' v H', Ext H H' → μ <+: μ' → SR G μ' H' M → rel μ' H' d v → Q v H'
  | .ex c fs M => ∀ μ' H' dx, Ext H H' → μ <+: μ' → SR G μ' H' M → XR G μ' H' fs dx → W (cval G c) dx σ H'
  | .no => False
end
def tX {α ι : Type} (G : Gm) (rel : List Addr → Hp → α → ι → Prop) (W : WX) (f : RX α) (σ : St) (H : Hp) (Q : ι → Hp → Prop) : Prop :=
  ∃ μ ρ M, ER G μ H ρ σ ∧ SR G μ H M ∧ Fin G rel W μ σ H Q (f ρ M)
abbrev tE (G : Gm) (W : WX) (f : RE) : TE := tX G (Rep G) W f
abbrev tT (G : Gm) (W : WX) (f : RT) : TT := tX G (fun _ _ (a b : Bool) => a = b) W f
abbrev tA (G : Gm) (W : WX) (f : RA) : TA := tX G (Reps G) W f
/-- what holds behind the first part: the rest is to come -/
def Go {α β ι κ : Type} (G : Gm) (rel : List Addr → Hp → α → ι → Prop) (rel2 : List Addr → Hp → β → κ → Prop) (W : WX) (g : α → RX β) (σ : St) (Q : κ → Hp → Prop) (v : ι) (H : Hp) : Prop :=
  ∃ μ ρ M a, ER G μ H ρ σ ∧ SR G μ H M ∧ rel μ H a v ∧ Fin G rel2 W μ σ H Q (g a ρ M)
section
variable {α β γ ι κ τ : Type} {G : Gm} {rel : List Addr → Hp → α → ι → Prop} {rel2 : List Addr → Hp → β → κ → Prop} {rel3 : List Addr → Hp → γ → τ → Prop} {W : WX} {μ μ1 : List Addr} {σ : St} {H H1 : Hp} {Q : ι → Hp → Prop} {Q2 : κ → Hp → Prop}
theorem Fin.later {r : R α} (e : Ext H H1) (p : μ <+: μ1) (h : Fin G rel W μ σ H Q r) : Fin G rel W μ1 σ H1 Q r := by
  cases r with
  | ok d M => exact fun μ' v H' e' p' => h μ' v H' (e.trans e') (p.trans p')
  | ex c fs M => exact fun μ' H' dx e' p' => h μ' H' dx (e.trans e') (p.trans p')
  | no => exact h
theorem Fin.mono {r : R α} {Q' : ι → Hp → Prop} (h : Fin G rel W μ σ H Q r) (hq : ∀ v H', Q v H' → Q' v H') : Fin G rel W μ σ H Q' r := by
  cases r with
  | ok d M => exact fun μ' v H' e' p' s r => hq _ _ (h μ' v H' e' p' s r)
  | ex c fs M => exact h
  | no => exact h
theorem tX.bind {f : RX α} {g : α → RX β} (h : tX G rel2 W (fun ρ M => (f ρ M).bind fun a M1 => g a ρ M1) σ H Q2) : tX G rel W f σ H (Go G rel rel2 W g σ Q2) := by
  obtain ⟨μ, ρ, M, hE, hS, hF⟩ := h
  have hF : Fin G rel2 W μ σ H Q2 ((f ρ M).bind fun a M1 => g a ρ M1) := hF
  refine ⟨μ, ρ, M, hE, hS, ?_⟩
  cases q : f ρ M with
  | ok a M1 =>
    rw [q] at hF
    intro μ' v H' e p s r
    exact ⟨μ', ρ, M1, a, hE.ext e p, s, r, Fin.later e p hF⟩
  | ex c fs M1 =>
    rw [q] at hF
    exact hF
  | no =>
    rw [q] at hF
    exact hF
theorem tX.mono {f : RX α} {Q' : ι → Hp → Prop} (h : tX G rel W f σ H Q) (hq : ∀ v H', Q v H' → Q' v H') : tX G rel W f σ H Q' := by
  obtain ⟨μ, ρ, M, hE, hS, hF⟩ := h
  exact ⟨μ, ρ, M, hE, hS, hF.mono hq⟩
/-- what holds behind two parts -/
def Go2 (G : Gm) (rel : List Addr → Hp → α → ι → Prop) (rel2 : List Addr → Hp → β → κ → Prop) (rel3 : List Addr → Hp → γ → τ → Prop) (W : WX) (g : α → β → RX γ) (σ : St) (Q : τ → Hp → Prop) (v : ι) (u : κ) (H : Hp) : Prop :=
  ∃ μ ρ M a b, ER G μ H ρ σ ∧ SR G μ H M ∧ rel μ H a v ∧ rel2 μ H b u ∧ Fin G rel3 W μ σ H Q (g a b ρ M)
theorem Go.bind {f2 : RX β} {g : α → β → RX γ} {Q3 : τ → Hp → Prop} {v : ι} (mono : ∀ μ μ' H H' a v, Ext H H' → μ <+: μ' → rel μ H a v → rel μ' H' a v)
    (h : Go G rel rel3 W (fun a ρ M => (f2 ρ M).bind fun b M2 => g a b ρ M2) σ Q3 v H) : tX G rel2 W f2 σ H (Go2 G rel rel2 rel3 W g σ Q3 v) := by
  obtain ⟨μ, ρ, M, a, hE, hS, ra, hF⟩ := h
  have hF : Fin G rel3 W μ σ H Q3 ((f2 ρ M).bind fun b M2 => g a b ρ M2) := hF
  refine ⟨μ, ρ, M, hE, hS, ?_⟩
  cases q : f2 ρ M with
  | ok b M1 =>
    rw [q] at hF
    intro μ' v H' e p s r
    exact ⟨μ', ρ, M1, a, b, hE.ext e p, s, mono _ _ _ _ _ _ e p ra, r, Fin.later e p hF⟩
  | ex c fs M1 =>
    rw [q] at hF
    exact hF
  | no =>
    rw [q] at hF
    exact hF
end
end Fl

set_option Elab.async false
set_option linter.all false
set_option maxRecDepth 100000
/-! Fl, part B: expressions. -/
namespace Fl
open PySem PySem.Spec L2
set_option autoImplicit false

def gm (X : Cx) : Gm := ⟨X.K, X.mg⟩
theorem PEimp {X : Cx} {e : Expr} {t t' : TE} (h : PE X e t) (w : ∀ σ H Q, t' σ H Q → t σ H Q) : PE X e t' := ⟨fun pins s σ H Q I q => h.run pins s σ H Q I (w σ H Q q)⟩
theorem PTimp {X : Cx} {e : Expr} {t t' : TT} (h : PT X e t) (w : ∀ σ H Q, t' σ H Q → t σ H Q) : PT X e t' := ⟨fun pins s σ H Q I q => h.run pins s σ H Q I (w σ H Q q)⟩
theorem PAimp {X : Cx} {e : List Expr} {t t' : TA} (h : PA X e t) (w : ∀ σ H Q, t' σ H Q → t σ H Q) : PA X e t' := ⟨fun pos pins s σ H Q I q => h.run pos pins s σ H Q I (w σ H Q q)⟩
theorem PWimp {X : Cx} {e : Expr} {t t' : TT} (h : PW X e t) (w : ∀ σ H Q, t' σ H Q → t σ H Q) : PW X e t' := ⟨fun wh pins s σ H Q I q => h.run wh pins s σ H Q I (w σ H Q q)⟩

def ofO {α : Type} : Option (α × Store) → R α
  | some (a, M) => .ok a M
  | none => .no
@[simp] theorem ofO_some {α : Type} (a : α) (M : Store) : ofO (some (a, M)) = .ok a M := (rfl)
@[simp] theorem ofO_none {α : Type} : ofO (none : Option (α × Store)) = .no := (rfl)

/-! ### names, constants -/
def rVar (i : Nat) : RE := fun ρ M => match ρ[i]? with
  | some (some d) => .ok d M
  | _ => .no
def rC (d : D) : RE := fun _ M => .ok d M
section
variable {X : Cx} {W : WX}
theorem i_var (i : Nat) {x : Str} {pos : Pos} (hN : X.N[i]? = some x := by rfl) (hv : Vis X.env.scope x := by first | exact Or.inl rfl | exact Or.inr (Or.inl rfl) | exact Or.inr (Or.inr rfl)) (hd : (x == ("__debug__" : Str)) = false := by decide)
    (hcd : (x == ("__classdict__" : Str)) = false := by decide) : PE X (.Name x pos) (tE (gm X) W (rVar i)) := by
  refine PEimp (pv i hN hv hd hcd) fun σ H Q h => ?_
  obtain ⟨μ, ρ, M, hE, hS, hF⟩ := h
  unfold rVar at hF
  split at hF
  · rename_i d e
    obtain ⟨v, e1, r⟩ := hE.at_ i d e
    exact ⟨v, e1, hF μ v H (.refl H) (List.prefix_refl _) hS r⟩
  · exact hF.elim
theorem rC_of {d : D} {v : V} {σ : St} {H : Hp} {Q : VK} (h : tE (gm X) W (rC d) σ H Q) (r : ∀ μ, Rep (gm X) μ H d v) : Q v H := by
  obtain ⟨μ, ρ, M, hE, hS, hF⟩ := h
  exact hF μ v H (.refl H) (List.prefix_refl _) hS (r μ)
theorem i_int {i : Int} {j pos} : PE X (.Constant (.int i) j pos) (tE (gm X) W (rC (.p (.int i)))) := PEimp pe_int fun σ H Q h => rC_of h fun μ => by simp only [Rep, RepP]
theorem i_bl {b : Bool} {j pos} : PE X (.Constant (.bool b) j pos) (tE (gm X) W (rC (.p (.bl b)))) := PEimp pe_bl fun σ H Q h => rC_of h fun μ => by simp only [Rep, RepP]
theorem i_non {j pos} : PE X (.Constant .none j pos) (tE (gm X) W (rC (.p .non))) := PEimp pe_non fun σ H Q h => rC_of h fun μ => by simp only [Rep, RepP]
theorem i_str {x : Str} {j pos} : PE X (.Constant (.str x) j pos) (tE (gm X) W (rC (.p (.str x)))) := PEimp pe_str fun σ H Q h => rC_of h fun μ => by simp only [Rep, RepP]
/-- a name of the module that stands for the data d -/
structure Cst (G : Gm) (x : Str) (d : D) : Prop where
  is_ : ∃ v u, G.mg x = some u ∧ RelV v u ∧ ∀ μ H, Rep G μ H d v
theorem i_glob {x : Str} {d : D} {pos : Pos} (hg : Gl X x) (c : Cst (gm X) x d) (hd : (x == ("__debug__" : Str)) = false := by decide) : PE X (.Name x pos) (tE (gm X) W (rC d)) := by
  obtain ⟨v, u, h1, h2, h3⟩ := c.is_
  exact PEimp (pe_glob hg h1 h2 hd) fun σ H Q h => rC_of h fun μ => h3 μ H
end

/-! ### operators -/
def OpD (G : Gm) (op : D → D → Store → Option (D × Store)) (r : R2) : Prop :=
  ∀ (μ : List Addr) (H : Hp) (M : Store) (x y : D) (v u : V) (Q : VK) (d : D) (M' : Store), SR G μ H M → Rep G μ H x v → Rep G μ H y u → op x y M = some (d, M') →
    (∀ μ' w H', Ext H H' → μ <+: μ' → SR G μ' H' M' → Rep G μ' H' d w → Q w H') → r v u H Q
def rBin (op : D → D → Store → Option (D × Store)) (fa fb : RE) : RE := fun ρ M => (fa ρ M).bind fun x M1 => (fb ρ M1).bind fun y M2 => ofO (op x y M2)
section
variable {X : Cx} {W : WX} {a b e : Expr} {fa fb : RE} {pos : Pos}
theorem Rep.mono {G : Gm} : ∀ (μ μ' : List Addr) (H H' : Hp) (a : D) (v : V), Ext H H' → μ <+: μ' → Rep G μ H a v → Rep G μ' H' a v := fun _ _ _ _ _ _ e p h => h.ext e p
theorem Reps.mono {G : Gm} : ∀ (μ μ' : List Addr) (H H' : Hp) (a : List D) (v : List V), Ext H H' → μ <+: μ' → Reps G μ H a v → Reps G μ' H' a v := fun _ _ _ _ _ _ e p h => h.ext e p
theorem bin_in {op r} (hd : OpD (gm X) op r) {σ : St} {H : Hp} {Q : VK} (h : tE (gm X) W (rBin op fa fb) σ H Q) : tOp r (tE (gm X) W fa) (tE (gm X) W fb) σ H Q := by
  refine (tX.bind h).mono fun v H1 g1 => ?_
  refine (Go.bind Rep.mono g1).mono fun u H2 g2 => ?_
  obtain ⟨μ, ρ, M, x, y, hE, hS, rx, ry, hF⟩ := g2
  have hF : Fin (gm X) (Rep (gm X)) W μ σ H2 Q (ofO (op x y M)) := hF
  cases q : op x y M with
  | none => rw [q] at hF; exact hF.elim
  | some p =>
    obtain ⟨d, M'⟩ := p
    rw [q] at hF
    exact hd μ H2 M x y v u Q d M' hS rx ry q hF
theorem i_bin {o : Operator} {op r} (ho : OpR X (binaryOp o) r) (hd : OpD (gm X) op r) (ha : PE X a (tE (gm X) W fa)) (hb : PE X b (tE (gm X) W fb)) : PE X (.BinOp a o b pos) (tE (gm X) W (rBin op fa fb)) :=
  PEimp (pe_op ho ha hb) fun _ _ _ h => bin_in hd h
theorem i_cmp {o : CmpOp} {op r} (ho : OpR X (compareOp o) r) (hd : OpD (gm X) op r) (ha : PE X a (tE (gm X) W fa)) (hb : PE X b (tE (gm X) W fb)) (hm : behindInMarks o b = false := by first | exact nomark _ | rfl) : PE X (.Compare a [o] [b] pos) (tE (gm X) W (rBin op fa fb)) :=
  PEimp (pe_cmpR ho ha hb hm) fun _ _ _ h => bin_in hd h
/-- a[b] -/
theorem i_ix {op r} (ho : IxR X r) (hd : OpD (gm X) op r) (ha : PE X a (tE (gm X) W fa)) (hb : PE X b (tE (gm X) W fb)) (hs : PlainIx b := by exact fun _ _ => rfl) : PE X (.Subscript a b pos) (tE (gm X) W (rBin op fa fb)) :=
  PEimp (pe_ix ho ha hb hs) fun _ _ _ h => bin_in hd h
end
/-- a test of a value, without a change -/
def rTst (t : D → Store → Option Bool) (fa : RE) : RT := fun ρ M => (fa ρ M).bind fun x M1 => match t x M1 with
  | some b => .ok b M1
  | none => .no
def asBool : D → Store → Option Bool
  | .p (.bl b), _ => some b
  | _, _ => none
def OpU (G : Gm) (op : D → Store → Option (D × Store)) (r : V → Hp → VK → Prop) : Prop :=
  ∀ (μ : List Addr) (H : Hp) (M : Store) (x : D) (v : V) (Q : VK) (d : D) (M' : Store), SR G μ H M → Rep G μ H x v → op x M = some (d, M') →
    (∀ μ' w H', Ext H H' → μ <+: μ' → SR G μ' H' M' → Rep G μ' H' d w → Q w H') → r v H Q
def rUn (op : D → Store → Option (D × Store)) (fa : RE) : RE := fun ρ M => (fa ρ M).bind fun x M1 => ofO (op x M1)
section
variable {X : Cx} {W : WX} {a b e : Expr} {fa fb : RE} {pos : Pos}
theorem un_in {op r} (hd : OpU (gm X) op r) {σ : St} {H : Hp} {Q : VK} (h : tE (gm X) W (rUn op fa) σ H Q) : tUn r (tE (gm X) W fa) σ H Q := by
  refine (tX.bind h).mono fun v H1 g1 => ?_
  obtain ⟨μ, ρ, M, x, hE, hS, rx, hF⟩ := g1
  have hF : Fin (gm X) (Rep (gm X)) W μ σ H1 Q (ofO (op x M)) := hF
  cases q : op x M with
  | none => rw [q] at hF; exact hF.elim
  | some p =>
    obtain ⟨d, M'⟩ := p
    rw [q] at hF
    exact hd μ H1 M x v Q d M' hS rx q hF
theorem i_un {o : UnaryOp} {op r} (ho : UnR X (unaryOp o) r) (hd : OpU (gm X) op r) (ha : PE X a (tE (gm X) W fa)) : PE X (.UnaryOp o a pos) (tE (gm X) W (rUn op fa)) :=
  PEimp (pe_un ho ha) fun _ _ _ h => un_in hd h
end

/-! ### arithmetic of data -/
def mulOk (i j : Int) : Prop := ((-(2 ^ 64) < i ∧ i < 2 ^ 64) ∨ (-(2 ^ 64) < j ∧ j < 2 ^ 64)) ∨ i.natAbs.log2 + j.natAbs.log2 < 1000000
def divOk (j : Int) : Prop := 0 < j ∧ j.natAbs.log2 < 9000
open Classical in
noncomputable def dAdd : D → D → Store → Option (D × Store)
  | .p (.int i), .p (.int j), M => some (.p (.int (i + j)), M)
  | .p (.str x), .p (.str y), M => if x.length + y.length ≤ sizeLine then some (.p (.str (x ++ y)), M) else none
  | .p (.tup xs), .p (.tup ys), M => if xs.length + ys.length ≤ sizeLine then some (.p (.tup (xs ++ ys)), M) else none
  | .ref l, .ref k, M => (match M[l]?, M[k]? with
    | some (.lst xs), some (.lst ys) => if xs.length + ys.length ≤ sizeLine then some (.ref M.length, M ++ [.lst (xs ++ ys)]) else none
    | _, _ => none)
  | _, _, _ => none
def dSub : D → D → Store → Option (D × Store)
  | .p (.int i), .p (.int j), M => some (.p (.int (i - j)), M)
  | _, _, _ => none
open Classical in
noncomputable def dMul : D → D → Store → Option (D × Store)
  | .p (.int i), .p (.int j), M => if mulOk i j then some (.p (.int (i * j)), M) else none
  | .ref l, .p (.int k), M => (match M[l]? with
    | some (.lst xs) => if -(2 ^ 63) ≤ k ∧ k < 2 ^ 63 ∧ xs.length * k.toNat ≤ sizeLine then some (.ref M.length, M ++ [.lst (List.replicate k.toNat xs).flatten]) else none
    | _ => none)
  | _, _, _ => none
open Classical in
noncomputable def dDiv : D → D → Store → Option (D × Store)
  | .p (.int i), .p (.int j), M => if divOk j then some (.p (.int (i / j)), M) else none
  | _, _, _ => none
open Classical in
noncomputable def dMod : D → D → Store → Option (D × Store)
  | .p (.int i), .p (.int j), M => if j ≠ 0 then some (.p (.int (i.fmod j)), M) else none
  | _, _, _ => none
open Classical in
noncomputable def dPow : D → D → Store → Option (D × Store)
  | .p (.int i), .p (.int j), M => if 0 ≤ j ∧ j ≤ 1000000 ∧ i.natAbs < 2 ^ 64 then some (.p (.int (i ^ j.toNat)), M) else none
  | _, _, _ => none
def dNeg : D → Store → Option (D × Store)
  | .p (.int i), M => some (.p (.int (-i)), M)
  | _, _ => none
theorem RepPs.append {K : PySem.W.Frag} {H : Hp} : ∀ {xs ys : List P} {vs ws : List V}, RepPs K H xs vs → RepPs K H ys ws → RepPs K H (xs ++ ys) (vs ++ ws)
  | [], _, _, _, h, t => by simp only [RepPs] at h; subst h; exact t
  | x :: xs, _, _, _, h, t => by
    simp only [RepPs] at h
    obtain ⟨v, r, rfl, h1, h2⟩ := h
    show RepPs K H (x :: (xs ++ _)) (v :: (r ++ _))
    simp only [RepPs]
    exact ⟨v, _, rfl, h1, RepPs.append h2 t⟩
section
variable {G : Gm} {X : Cx}
theorem Rep.int {μ H i v} : Rep G μ H (.p (.int i)) v ↔ v = .int i := by simp only [Rep, RepP]
theorem Rep.bl {μ H b v} : Rep G μ H (.p (.bl b)) v ↔ v = .bl b := by simp only [Rep, RepP]
theorem Rep.str {μ H b v} : Rep G μ H (.p (.str b)) v ↔ v = .str b := by simp only [Rep, RepP]
theorem Rep.non {μ H v} : Rep G μ H (.p .non) v ↔ v = .non := by simp only [Rep, RepP]
theorem Rep.ptup {μ H xs v} : Rep G μ H (.p (.tup xs)) v ↔ ∃ a vs, v = .ref a ∧ SqT G.K H a vs ∧ RepPs G.K H xs vs := by simp only [Rep, RepP]
theorem Rep.ref {μ H l v} : Rep G μ H (.ref l) v ↔ ∃ a, μ[l]? = some a ∧ v = .ref a := by simp only [Rep]
theorem Rep.tup {μ H xs v} : Rep G μ H (.tup xs) v ↔ ∃ a vs, v = .ref a ∧ SqT G.K H a vs ∧ Reps G μ H xs vs := by simp only [Rep]
/-- a new tuple -/
theorem new_ptup {μ : List Addr} {H : Hp} {M : Store} {xs : List P} {vs : List V} {p : Addr} (hp : H p = none) (r : RepPs G.K H xs vs) : Rep G μ (upd H p (.tup vs)) (.p (.tup xs)) (.ref p) :=
  Rep.ptup.mpr ⟨p, vs, rfl, SqT.of upd_same, r.ext (.new hp)⟩
theorem new_ref {μ : List Addr} {H : Hp} {M : Store} (S : SR G μ H M) (p : Addr) : Rep G (μ ++ [p]) H (.ref M.length) (.ref p) :=
  Rep.ref.mpr ⟨p, by rw [← S.len]; simp, rfl⟩
theorem new_lst {μ : List Addr} {H : Hp} {M : Store} {xs : List D} {vs : List V} {p : Addr} (S : SR G μ H M) (hp : H p = none) (r : Reps G μ H xs vs) : SR G (μ ++ [p]) (upd H p (.lst vs)) (M ++ [.lst xs]) :=
  S.new hp ⟨vs, upd_same, r.ext (.new hp) (List.prefix_append _ _)⟩
theorem SR.lst {μ : List Addr} {H : Hp} {M : Store} (S : SR G μ H M) {l : Nat} {a : Addr} {xs : List D} (h : μ[l]? = some a) (e : M[l]? = some (.lst xs)) : ∃ vs, H a = some (.lst vs) ∧ Reps G μ H xs vs := S.obj l a _ h e
abbrev rAddU (K : PySem.W.Frag) : R2 := fun x y H Q => (∃ i j, x = .int i ∧ y = .int j ∧ Q (.int (i + j)) H) ∨ (∃ i j, x = .str i ∧ y = .str j ∧ i.length + j.length ≤ sizeLine ∧ Q (.str (i ++ j)) H) ∨ rCatA K x y H Q ∨ rCat x y H Q
theorem o_add : OpR X (binaryOp .Add) (rAddU X.K) := op_add.or (op_add_str.or (op_catA.or op_cat))
theorem d_add : OpD G dAdd (rAddU G.K) := by
  intro μ H M x y v u Q d M' S rx ry q k
  unfold dAdd at q
  split at q
  · cases q
    rw [Rep.int] at rx ry
    exact .inl ⟨_, _, rx, ry, k μ _ H (.refl H) (List.prefix_refl _) S (Rep.int.mpr rfl)⟩
  · split at q
    · rename_i h
      cases q
      rw [Rep.str] at rx ry
      exact .inr (.inl ⟨_, _, rx, ry, h, k μ _ H (.refl H) (List.prefix_refl _) S (Rep.str.mpr rfl)⟩)
    · cases q
  · split at q
    · rename_i h
      cases q
      rw [Rep.ptup] at rx ry
      obtain ⟨a, vs, rfl, ha, hx⟩ := rx
      obtain ⟨b, ws, rfl, hb, hy⟩ := ry
      refine .inr (.inr (.inl ⟨a, b, vs, ws, rfl, rfl, ha, hb, by rw [← hx.length, ← hy.length]; exact h, fun e => ?_, fun e e2 => ?_, fun e e2 p hp => ?_⟩))
      · subst e
        refine k μ _ H (.refl H) (List.prefix_refl _) S (Rep.ptup.mpr ⟨b, ws, rfl, hb, ?_⟩)
        rw [List.eq_nil_of_length_eq_zero hx.length]
        exact hy
      · subst e2
        refine k μ _ H (.refl H) (List.prefix_refl _) S (Rep.ptup.mpr ⟨a, vs, rfl, ha, ?_⟩)
        rw [List.eq_nil_of_length_eq_zero hy.length, List.append_nil]
        exact hx
      · exact k μ _ _ (.new hp) (List.prefix_refl _) (S.grow hp) (new_ptup (M := M) hp (hx.append hy))
    · cases q
  · rename_i l m
    split at q
    · rename_i xs ys e1 e2
      split at q
      · rename_i h
        cases q
        rw [Rep.ref] at rx ry
        obtain ⟨a, h1, rfl⟩ := rx
        obtain ⟨b, h2, rfl⟩ := ry
        obtain ⟨vs, h3, h4⟩ := S.lst h1 e1
        obtain ⟨ws, h5, h6⟩ := S.lst h2 e2
        refine .inr (.inr (.inr ⟨a, b, vs, ws, rfl, rfl, h3, h5, by rw [← h4.length, ← h6.length]; exact h, fun p hp => ?_⟩))
        exact k (μ ++ [p]) _ _ (.new hp) (List.prefix_append _ _) (new_lst S hp (h4.app h6)) (new_ref S p)
      · cases q
    · cases q
  · cases q
theorem d_sub : OpD G dSub (rI0 fun i j => .int (i - j)) := by
  intro μ H M x y v u Q d M' S rx ry q k
  unfold dSub at q
  split at q
  · cases q
    rw [Rep.int] at rx ry
    exact ⟨_, _, rx, ry, k μ _ H (.refl H) (List.prefix_refl _) S (Rep.int.mpr rfl)⟩
  · cases q
theorem o_mul : OpR X (binaryOp .Mult) (fun x y H Q => rI CMul (fun i j => .int (i * j)) x y H Q ∨ rI CMulW (fun i j => .int (i * j)) x y H Q ∨ rRep x y H Q) := op_mul.or (op_mulW.or op_rep)
theorem d_mul : OpD G dMul (fun x y H Q => rI CMul (fun i j => .int (i * j)) x y H Q ∨ rI CMulW (fun i j => .int (i * j)) x y H Q ∨ rRep x y H Q) := by
  intro μ H M x y v u Q d M' S rx ry q k
  unfold dMul at q
  split at q
  · split at q
    · rename_i h
      cases q
      rw [Rep.int] at rx ry
      rcases h with h | h
      · exact .inl ⟨_, _, rx, ry, h, k μ _ H (.refl H) (List.prefix_refl _) S (Rep.int.mpr rfl)⟩
      · exact .inr (.inl ⟨_, _, rx, ry, h, k μ _ H (.refl H) (List.prefix_refl _) S (Rep.int.mpr rfl)⟩)
    · cases q
  · split at q
    · rename_i xs e1
      split at q
      · rename_i h
        cases q
        rw [Rep.int] at ry
        rw [Rep.ref] at rx
        obtain ⟨a, h1, rfl⟩ := rx
        obtain ⟨vs, h3, h4⟩ := S.lst h1 e1
        refine .inr (.inr ⟨a, _, vs, rfl, ry, h3, h.1, h.2.1, by rw [← h4.length]; exact h.2.2, fun p hp => ?_⟩)
        have rep : ∀ n : Nat, Reps G μ H (List.replicate n xs).flatten (List.replicate n vs).flatten := fun n => by
          induction n with
          | zero => exact .nil
          | succ n ih => rw [List.replicate_succ, List.replicate_succ, List.flatten_cons, List.flatten_cons]; exact h4.app ih
        exact k (μ ++ [p]) _ _ (.new hp) (List.prefix_append _ _) (new_lst S hp (rep _)) (new_ref S p)
      · cases q
    · cases q
  · cases q
theorem d_div : OpD G dDiv (rI CDivW fun i j => .int (i / j)) := by
  intro μ H M x y v u Q d M' S rx ry q k
  unfold dDiv at q
  split at q
  · split at q
    · rename_i h
      cases q
      rw [Rep.int] at rx ry
      exact ⟨_, _, rx, ry, h, k μ _ H (.refl H) (List.prefix_refl _) S (Rep.int.mpr rfl)⟩
    · cases q
  · cases q
theorem d_mod : OpD G dMod (rI (fun _ j => j ≠ 0) fun i j => .int (i.fmod j)) := by
  intro μ H M x y v u Q d M' S rx ry q k
  unfold dMod at q
  split at q
  · split at q
    · rename_i h
      cases q
      rw [Rep.int] at rx ry
      exact ⟨_, _, rx, ry, h, k μ _ H (.refl H) (List.prefix_refl _) S (Rep.int.mpr rfl)⟩
    · cases q
  · cases q
theorem d_pow : OpD G dPow (rI CPow fun i j => .int (i ^ j.toNat)) := by
  intro μ H M x y v u Q d M' S rx ry q k
  unfold dPow at q
  split at q
  · split at q
    · rename_i h
      cases q
      rw [Rep.int] at rx ry
      exact ⟨_, _, rx, ry, h, k μ _ H (.refl H) (List.prefix_refl _) S (Rep.int.mpr rfl)⟩
    · cases q
  · cases q
theorem d_neg : OpU G dNeg (rU fun i => .int (-i)) := by
  intro μ H M x v Q d M' S rx q k
  unfold dNeg at q
  split at q
  · cases q
    rw [Rep.int] at rx
    exact ⟨_, rx, k μ _ H (.refl H) (List.prefix_refl _) S (Rep.int.mpr rfl)⟩
  · cases q
end
end Fl

set_option Elab.async false
set_option linter.all false
set_option maxRecDepth 100000
/-! Fl, part C: equality of data. -/
namespace Fl
open PySem PySem.Spec L2 PySem.SeqAt
set_option autoImplicit false

mutual
def P.eqv : P → P → Bool
  | .non, .non => true
  | .bl a, .bl b => a == b
  | .bl a, .int j => (if a then 1 else 0) == j
  | .int i, .bl b => i == (if b then 1 else 0)
  | .int i, .int j => i == j
  | .str x, .str y => x == y
  | .tup xs, .tup ys => P.eqvs xs ys
  | .non, .bl _ | .non, .int _ | .non, .str _ | .non, .tup _ => false
  | .bl _, .non | .bl _, .str _ | .bl _, .tup _ => false
  | .int _, .non | .int _, .str _ | .int _, .tup _ => false
  | .str _, .non | .str _, .bl _ | .str _, .int _ | .str _, .tup _ => false
  | .tup _, .non | .tup _, .bl _ | .tup _, .int _ | .tup _, .str _ => false
def P.eqvs : List P → List P → Bool
  | [], [] => true
  | x :: xs, y :: ys => P.eqv x y && P.eqvs xs ys
  | [], _ :: _ => false
  | _ :: _, [] => false
end
mutual
def P.depth : P → Nat
  | .tup xs => P.depths xs + 1
  | .non => 0
  | .bl _ => 0
  | .int _ => 0
  | .str _ => 0
def P.depths : List P → Nat
  | [] => 0
  | x :: xs => max (P.depth x) (P.depths xs)
end
mutual
theorem P.eqv_refl : ∀ x : P, P.eqv x x = true
  | .non => rfl
  | .bl b => by simp [P.eqv]
  | .int i => by simp [P.eqv]
  | .str x => by simp [P.eqv]
  | .tup xs => by rw [P.eqv]; exact P.eqvs_refl xs
theorem P.eqvs_refl : ∀ xs : List P, P.eqvs xs xs = true
  | [] => rfl
  | x :: xs => by rw [P.eqvs, P.eqv_refl x, P.eqvs_refl xs]; rfl
end
abbrev pairP (xs ys : List P) (j : Nat) : Bool := P.eqv (xs.getD j .non) (ys.getD j .non)
theorem P.eqvs_eq : ∀ xs ys : List P, ((List.range (min xs.length ys.length)).all (pairP xs ys) && xs.length == ys.length) = P.eqvs xs ys
  | [], [] => rfl
  | [], _ :: _ => by simp [P.eqvs]
  | _ :: _, [] => by simp [P.eqvs]
  | x :: xs, y :: ys => by
    have ih := P.eqvs_eq xs ys
    have e1 : min (x :: xs).length (y :: ys).length = min xs.length ys.length + 1 := by simp only [List.length_cons]; omega
    have e2 : ((x :: xs).length == (y :: ys).length) = (xs.length == ys.length) := by simp
    have e3 : (List.range (min xs.length ys.length + 1)).all (pairP (x :: xs) (y :: ys)) = (P.eqv x y && (List.range (min xs.length ys.length)).all (pairP xs ys)) := by
      rw [List.range_succ_eq_map, List.all_cons, List.all_map]
      first | rfl | simp [pairP, Function.comp_def]
    rw [e1, e2, e3, P.eqvs, ← ih, Bool.and_assoc]
section
variable {X : Cx} {pins : List (Addr × Obj)} {σ : St} {H : Hp} {s : Shared}
mutual
theorem RepP.inj (I : Inv X pins σ H s) : ∀ (x y : P) (v : V), RepP X.K H x v → RepP X.K H y v → x = y
  | .non, y, v, h, h' => by
    simp only [RepP] at h; subst h
    cases y <;> simp [RepP] at h'; rfl
  | .bl b, y, v, h, h' => by
    simp only [RepP] at h; subst h
    cases y <;> simp [RepP] at h'; rw [h']
  | .int b, y, v, h, h' => by
    simp only [RepP] at h; subst h
    cases y <;> simp [RepP] at h'; rw [h']
  | .str b, y, v, h, h' => by
    simp only [RepP] at h; subst h
    cases y <;> simp [RepP] at h'; rw [h']
  | .tup xs, y, v, h, h' => by
    simp only [RepP] at h
    obtain ⟨a, vs, rfl, h1, h2⟩ := h
    cases y with
    | tup ys =>
      simp only [RepP] at h'
      obtain ⟨b, ws, e, h3, h4⟩ := h'
      cases e
      rw [← I.tuple_inj h1 h3] at h4
      rw [RepPs.inj I xs ys vs h2 h4]
    | _ => simp [RepP] at h'
theorem RepPs.inj (I : Inv X pins σ H s) : ∀ (xs ys : List P) (vs : List V), RepPs X.K H xs vs → RepPs X.K H ys vs → xs = ys
  | [], ys, vs, h, h' => by
    simp only [RepPs] at h; subst h
    cases ys with
    | nil => rfl
    | cons y ys => simp [RepPs] at h'
  | x :: xs, ys, vs, h, h' => by
    simp only [RepPs] at h
    obtain ⟨v, r, rfl, h1, h2⟩ := h
    cases ys with
    | nil => simp [RepPs] at h'
    | cons y ys =>
      simp only [RepPs] at h'
      obtain ⟨v', r', e, h3, h4⟩ := h'
      cases e
      rw [RepP.inj I x y v h1 h3, RepPs.inj I xs ys r h2 h4]
end
theorem tup_at (I : Inv X pins σ H s) {a : Addr} {vs : List V} {xs : List P} (h : SqT X.K H a vs) (r : RepPs X.K H xs vs) : ∃ its : List Value, Vals vs its ∧ s.heap.IsTuple a its.toArray ∧ its.toArray.size = xs.length := by
  obtain ⟨its, rv, p, _⟩ := I.tuple h
  exact ⟨its, rv, p, by simp [← rv.length, ← r.length]⟩
theorem room1 {A : Around} {m n : Nat} (h : A.units + min (m + 1) (n + 1) < cLine) : A.units < cLine := by omega
mutual
theorem eqAt_P (I : Inv X pins σ H s) : ∀ (x y : P) (A : Around) (v u : V) (a b : Value), RepP X.K H x v → RepP X.K H y u → RelV v a → RelV u b → A.units + min x.depth y.depth < cLine → A.units < cLine → EqAt A s a b (P.eqv x y)
  | .non, y, A, v, u, a, b, hx, hy, ra, rb, hu, h0 => by
    simp only [RepP] at hx; subst hx; cases ra
    cases y with
    | non => simp only [RepP] at hy; subst hy; cases rb; exact EqAt.same _
    | bl c => simp only [RepP] at hy; subst hy; cases rb; exact EqAt.none_bool c
    | int c => simp only [RepP] at hy; subst hy; obtain ⟨t, rfl⟩ := rb; exact EqAt.none_int c t
    | str c => simp only [RepP] at hy; subst hy; obtain ⟨t, rfl⟩ := rb; exact EqAt.none_str c t
    | tup ys =>
      simp only [RepP] at hy
      obtain ⟨l, ws, rfl, k1, k2⟩ := hy
      cases rb
      obtain ⟨its, _, p, _⟩ := tup_at I k1 k2
      exact EqAt.none_tuple p h0
  | .bl x, y, A, v, u, a, b, hx, hy, ra, rb, hu, h0 => by
    simp only [RepP] at hx; subst hx; cases ra
    cases y with
    | non => simp only [RepP] at hy; subst hy; cases rb; exact EqAt.bool_none x
    | bl c => simp only [RepP] at hy; subst hy; cases rb; exact EqAt.bool_bool x c
    | int c => simp only [RepP] at hy; subst hy; obtain ⟨t, rfl⟩ := rb; exact EqAt.bool_int x c t
    | str c => simp only [RepP] at hy; subst hy; obtain ⟨t, rfl⟩ := rb; exact EqAt.bool_str x c t
    | tup ys =>
      simp only [RepP] at hy
      obtain ⟨l, ws, rfl, k1, k2⟩ := hy
      cases rb
      obtain ⟨its, _, p, _⟩ := tup_at I k1 k2
      exact EqAt.bool_tuple x p h0
  | .int x, y, A, v, u, a, b, hx, hy, ra, rb, hu, h0 => by
    simp only [RepP] at hx; subst hx; obtain ⟨tx, rfl⟩ := ra
    cases y with
    | non => simp only [RepP] at hy; subst hy; cases rb; exact EqAt.int_none x tx
    | bl c => simp only [RepP] at hy; subst hy; cases rb; exact EqAt.int_bool x tx c
    | int c => simp only [RepP] at hy; subst hy; obtain ⟨t, rfl⟩ := rb; exact EqAt.int_int x tx c t
    | str c => simp only [RepP] at hy; subst hy; obtain ⟨t, rfl⟩ := rb; exact EqAt.int_str x tx c t
    | tup ys =>
      simp only [RepP] at hy
      obtain ⟨l, ws, rfl, k1, k2⟩ := hy
      cases rb
      obtain ⟨its, _, p, _⟩ := tup_at I k1 k2
      exact EqAt.int_tuple x tx p h0
  | .str x, y, A, v, u, a, b, hx, hy, ra, rb, hu, h0 => by
    simp only [RepP] at hx; subst hx; obtain ⟨tx, rfl⟩ := ra
    cases y with
    | non => simp only [RepP] at hy; subst hy; cases rb; exact EqAt.str_none x tx
    | bl c => simp only [RepP] at hy; subst hy; cases rb; exact EqAt.str_bool x tx c
    | int c => simp only [RepP] at hy; subst hy; obtain ⟨t, rfl⟩ := rb; exact EqAt.str_int x tx c t
    | str c => simp only [RepP] at hy; subst hy; obtain ⟨t, rfl⟩ := rb; exact EqAt.str_str x tx c t
    | tup ys =>
      simp only [RepP] at hy
      obtain ⟨l, ws, rfl, k1, k2⟩ := hy
      cases rb
      obtain ⟨its, _, p, _⟩ := tup_at I k1 k2
      exact EqAt.str_tuple x tx p h0
  | .tup xs, y, A, v, u, a, b, hx, hy, ra, rb, hu, h0 => by
    simp only [RepP] at hx
    obtain ⟨l, vs, rfl, h1, h2⟩ := hx
    cases ra
    obtain ⟨its, rv, p, n1⟩ := tup_at I h1 h2
    cases y with
    | non => simp only [RepP] at hy; subst hy; cases rb; exact EqAt.tuple_none p h0
    | bl c => simp only [RepP] at hy; subst hy; cases rb; exact EqAt.tuple_bool c p h0
    | int c => simp only [RepP] at hy; subst hy; obtain ⟨t, rfl⟩ := rb; exact EqAt.tuple_int c t p h0
    | str c => simp only [RepP] at hy; subst hy; obtain ⟨t, rfl⟩ := rb; exact EqAt.tuple_str c t p h0
    | tup ys =>
      simp only [RepP] at hy
      obtain ⟨m, ws, rfl, k1, k2⟩ := hy
      cases rb
      obtain ⟨its2, rw2, p2, n2⟩ := tup_at I k1 k2
      rw [P.eqv]
      by_cases hll : l = m
      · subst hll
        rw [← I.tuple_inj h1 k1] at k2
        rw [RepPs.inj I xs ys vs h2 k2, P.eqvs_refl]
        exact EqAt.same _
      · rw [← P.eqvs_eq xs ys, ← n1, ← n2]
        have hu' : A.units + min (P.depths xs + 1) (P.depths ys + 1) < cLine := by simpa only [P.depth] using hu
        refine EqAt.of_refs hll (RcAt.tuples p p2 h0 fun j j1 j2 => ?_)
        have e1 : A.in1.units = A.units + 1 := by first | rfl | simp [Around.in1]
        have := eqAt_Ps I xs ys A.in1 vs ws its its2 h2 k2 rv rw2 (by rw [e1]; omega) (by rw [e1]; omega) j (by simpa using j1) (by simpa using j2)
        simpa using this
theorem eqAt_Ps (I : Inv X pins σ H s) : ∀ (xs ys : List P) (A : Around) (vs us : List V) (as bs : List Value), RepPs X.K H xs vs → RepPs X.K H ys us → Vals vs as → Vals us bs → A.units + min (P.depths xs) (P.depths ys) < cLine → A.units < cLine →
    ∀ j (h1 : j < as.length) (h2 : j < bs.length), EqAt A s as[j] bs[j] (pairP xs ys j)
  | [], ys, A, vs, us, as, bs, hx, hy, ra, rb, hu, h0, j, h1, h2 => by
    simp only [RepPs] at hx; subst hx; cases ra; exact absurd h1 (Nat.not_lt_zero _)
  | _ :: _, [], A, vs, us, as, bs, hx, hy, ra, rb, hu, h0, j, h1, h2 => by
    simp only [RepPs] at hy; subst hy; cases rb; exact absurd h2 (Nat.not_lt_zero _)
  | x :: xs, y :: ys, A, vs, us, as, bs, hx, hy, ra, rb, hu, h0, j, h1, h2 => by
    simp only [RepPs] at hx hy
    obtain ⟨v, r, rfl, hx1, hx2⟩ := hx
    obtain ⟨u, r', rfl, hy1, hy2⟩ := hy
    simp only [P.depths] at hu
    cases ra with
    | cons q qs =>
      cases rb with
      | cons q' qs' =>
        cases j with
        | zero => exact eqAt_P I x y A v u _ _ hx1 hy1 q q' (by omega) h0
        | succ j => exact eqAt_Ps I xs ys A r r' _ _ hx2 hy2 qs qs' (by omega) h0 j (Nat.lt_of_succ_lt_succ h1) (Nat.lt_of_succ_lt_succ h2)
end
theorem rcAt_P (I : Inv X pins σ H s) (x y : P) (A : Around) (v u : V) (a b : Value) (hx : RepP X.K H x v) (hy : RepP X.K H y u) (ra : RelV v a) (rb : RelV u b) (hu : A.units + min x.depth y.depth < cLine) (h0 : A.units < cLine) : RcAt A s a b (P.eqv x y) := by
  cases x with
  | non =>
    simp only [RepP] at hx; subst hx; cases ra
    cases y with
    | non => simp only [RepP] at hy; subst hy; cases rb; exact RcAt.none_none
    | bl c => simp only [RepP] at hy; subst hy; cases rb; exact RcAt.none_bool c
    | int c => simp only [RepP] at hy; subst hy; obtain ⟨t, rfl⟩ := rb; exact RcAt.none_int c t
    | str c => simp only [RepP] at hy; subst hy; obtain ⟨t, rfl⟩ := rb; exact RcAt.none_str c t
    | tup ys =>
      simp only [RepP] at hy
      obtain ⟨l, ws, rfl, k1, k2⟩ := hy
      cases rb
      obtain ⟨its, _, p, _⟩ := tup_at I k1 k2
      exact RcAt.none_tuple p h0
  | bl x =>
    simp only [RepP] at hx; subst hx; cases ra
    cases y with
    | non => simp only [RepP] at hy; subst hy; cases rb; exact RcAt.bool_none x
    | bl c => simp only [RepP] at hy; subst hy; cases rb; exact RcAt.bool_bool x c
    | int c => simp only [RepP] at hy; subst hy; obtain ⟨t, rfl⟩ := rb; exact RcAt.bool_int x c t
    | str c => simp only [RepP] at hy; subst hy; obtain ⟨t, rfl⟩ := rb; exact RcAt.bool_str x c t
    | tup ys =>
      simp only [RepP] at hy
      obtain ⟨l, ws, rfl, k1, k2⟩ := hy
      cases rb
      obtain ⟨its, _, p, _⟩ := tup_at I k1 k2
      exact RcAt.bool_tuple x p h0
  | int x =>
    simp only [RepP] at hx; subst hx; obtain ⟨tx, rfl⟩ := ra
    cases y with
    | non => simp only [RepP] at hy; subst hy; cases rb; exact RcAt.int_none x tx
    | bl c => simp only [RepP] at hy; subst hy; cases rb; exact RcAt.int_bool x tx c
    | int c => simp only [RepP] at hy; subst hy; obtain ⟨t, rfl⟩ := rb; exact RcAt.int_int x tx c t
    | str c => simp only [RepP] at hy; subst hy; obtain ⟨t, rfl⟩ := rb; exact RcAt.int_str x tx c t
    | tup ys =>
      simp only [RepP] at hy
      obtain ⟨l, ws, rfl, k1, k2⟩ := hy
      cases rb
      obtain ⟨its, _, p, _⟩ := tup_at I k1 k2
      exact RcAt.int_tuple x tx p h0
  | str x =>
    simp only [RepP] at hx; subst hx; obtain ⟨tx, rfl⟩ := ra
    cases y with
    | non => simp only [RepP] at hy; subst hy; cases rb; exact RcAt.str_none x tx
    | bl c => simp only [RepP] at hy; subst hy; cases rb; exact RcAt.str_bool x tx c
    | int c => simp only [RepP] at hy; subst hy; obtain ⟨t, rfl⟩ := rb; exact RcAt.str_int x tx c t
    | str c => simp only [RepP] at hy; subst hy; obtain ⟨t, rfl⟩ := rb; exact RcAt.str_str x tx c t
    | tup ys =>
      simp only [RepP] at hy
      obtain ⟨l, ws, rfl, k1, k2⟩ := hy
      cases rb
      obtain ⟨its, _, p, _⟩ := tup_at I k1 k2
      exact RcAt.str_tuple x tx p h0
  | tup xs =>
    simp only [RepP] at hx
    obtain ⟨l, vs, rfl, h1, h2⟩ := hx
    cases ra
    obtain ⟨its, rv, p, n1⟩ := tup_at I h1 h2
    cases y with
    | non => simp only [RepP] at hy; subst hy; cases rb; exact RcAt.tuple_none p h0
    | bl c => simp only [RepP] at hy; subst hy; cases rb; exact RcAt.tuple_bool c p h0
    | int c => simp only [RepP] at hy; subst hy; obtain ⟨t, rfl⟩ := rb; exact RcAt.tuple_int c t p h0
    | str c => simp only [RepP] at hy; subst hy; obtain ⟨t, rfl⟩ := rb; exact RcAt.tuple_str c t p h0
    | tup ys =>
      simp only [RepP] at hy
      obtain ⟨m, ws, rfl, k1, k2⟩ := hy
      cases rb
      obtain ⟨its2, rw2, p2, n2⟩ := tup_at I k1 k2
      have hu' : A.units + min (P.depths xs + 1) (P.depths ys + 1) < cLine := by simpa only [P.depth] using hu
      rw [P.eqv, ← P.eqvs_eq xs ys, ← n1, ← n2]
      refine RcAt.tuples p p2 h0 fun j j1 j2 => ?_
      have e1 : A.in1.units = A.units + 1 := by first | rfl | simp [Around.in1]
      have := eqAt_Ps I xs ys A.in1 vs ws its its2 h2 k2 rv rw2 (by rw [e1]; omega) (by rw [e1]; omega) j (by simpa using j1) (by simpa using j2)
      simpa using this
end
end Fl

set_option Elab.async false
set_option linter.all false
set_option maxRecDepth 100000
/-! Fl, part D: comparisons, tests, displays. -/
namespace Fl
open PySem PySem.Spec L2 PySem.SeqAt
set_option autoImplicit false
section
variable {X : Cx} {pins : List (Addr × Obj)} {σ : St} {H : Hp} {s : Shared}
theorem rcNeAt_P (I : Inv X pins σ H s) (x y : P) (A : Around) (v u : V) (a b : Value) (hx : RepP X.K H x v) (hy : RepP X.K H y u) (ra : RelV v a) (rb : RelV u b) (hu : A.units + min x.depth y.depth < cLine) (h0 : A.units < cLine) : RcNeAt A s a b (!P.eqv x y) := by
  cases x with
  | non =>
    simp only [RepP] at hx; subst hx; cases ra
    cases y with
    | non => simp only [RepP] at hy; subst hy; cases rb; exact RcNeAt.none_none
    | bl c => simp only [RepP] at hy; subst hy; cases rb; exact RcNeAt.none_bool c
    | int c => simp only [RepP] at hy; subst hy; obtain ⟨t, rfl⟩ := rb; exact RcNeAt.none_int c t
    | str c => simp only [RepP] at hy; subst hy; obtain ⟨t, rfl⟩ := rb; exact RcNeAt.none_str c t
    | tup ys =>
      simp only [RepP] at hy
      obtain ⟨l, ws, rfl, k1, k2⟩ := hy
      cases rb
      obtain ⟨its, _, p, _⟩ := tup_at I k1 k2
      exact RcNeAt.none_tuple p h0
  | bl x =>
    simp only [RepP] at hx; subst hx; cases ra
    cases y with
    | non => simp only [RepP] at hy; subst hy; cases rb; exact RcNeAt.bool_none x
    | bl c => simp only [RepP] at hy; subst hy; cases rb; exact RcNeAt.bool_bool x c
    | int c => simp only [RepP] at hy; subst hy; obtain ⟨t, rfl⟩ := rb; exact RcNeAt.bool_int x c t
    | str c => simp only [RepP] at hy; subst hy; obtain ⟨t, rfl⟩ := rb; exact RcNeAt.bool_str x c t
    | tup ys =>
      simp only [RepP] at hy
      obtain ⟨l, ws, rfl, k1, k2⟩ := hy
      cases rb
      obtain ⟨its, _, p, _⟩ := tup_at I k1 k2
      exact RcNeAt.bool_tuple x p h0
  | int x =>
    simp only [RepP] at hx; subst hx; obtain ⟨tx, rfl⟩ := ra
    cases y with
    | non => simp only [RepP] at hy; subst hy; cases rb; exact RcNeAt.int_none x tx
    | bl c => simp only [RepP] at hy; subst hy; cases rb; exact RcNeAt.int_bool x tx c
    | int c => simp only [RepP] at hy; subst hy; obtain ⟨t, rfl⟩ := rb; exact RcNeAt.int_int x tx c t
    | str c => simp only [RepP] at hy; subst hy; obtain ⟨t, rfl⟩ := rb; exact RcNeAt.int_str x tx c t
    | tup ys =>
      simp only [RepP] at hy
      obtain ⟨l, ws, rfl, k1, k2⟩ := hy
      cases rb
      obtain ⟨its, _, p, _⟩ := tup_at I k1 k2
      exact RcNeAt.int_tuple x tx p h0
  | str x =>
    simp only [RepP] at hx; subst hx; obtain ⟨tx, rfl⟩ := ra
    cases y with
    | non => simp only [RepP] at hy; subst hy; cases rb; exact RcNeAt.str_none x tx
    | bl c => simp only [RepP] at hy; subst hy; cases rb; exact RcNeAt.str_bool x tx c
    | int c => simp only [RepP] at hy; subst hy; obtain ⟨t, rfl⟩ := rb; exact RcNeAt.str_int x tx c t
    | str c => simp only [RepP] at hy; subst hy; obtain ⟨t, rfl⟩ := rb; exact RcNeAt.str_str x tx c t
    | tup ys =>
      simp only [RepP] at hy
      obtain ⟨l, ws, rfl, k1, k2⟩ := hy
      cases rb
      obtain ⟨its, _, p, _⟩ := tup_at I k1 k2
      exact RcNeAt.str_tuple x tx p h0
  | tup xs =>
    simp only [RepP] at hx
    obtain ⟨l, vs, rfl, h1, h2⟩ := hx
    cases ra
    obtain ⟨its, rv, p, n1⟩ := tup_at I h1 h2
    cases y with
    | non => simp only [RepP] at hy; subst hy; cases rb; exact RcNeAt.tuple_none p h0
    | bl c => simp only [RepP] at hy; subst hy; cases rb; exact RcNeAt.tuple_bool c p h0
    | int c => simp only [RepP] at hy; subst hy; obtain ⟨t, rfl⟩ := rb; exact RcNeAt.tuple_int c t p h0
    | str c => simp only [RepP] at hy; subst hy; obtain ⟨t, rfl⟩ := rb; exact RcNeAt.tuple_str c t p h0
    | tup ys =>
      simp only [RepP] at hy
      obtain ⟨m, ws, rfl, k1, k2⟩ := hy
      cases rb
      obtain ⟨its2, rw2, p2, n2⟩ := tup_at I k1 k2
      have hu' : A.units + min (P.depths xs + 1) (P.depths ys + 1) < cLine := by simpa only [P.depth] using hu
      rw [P.eqv, ← P.eqvs_eq xs ys, ← n1, ← n2]
      refine RcNeAt.tuples p p2 h0 fun j j1 j2 => ?_
      have e1 : A.in1.units = A.units + 1 := by first | rfl | simp [Around.in1]
      have := eqAt_Ps I xs ys A.in1 vs ws its its2 h2 k2 rv rw2 (by rw [e1]; omega) (by rw [e1]; omega) j (by simpa using j1) (by simpa using j2)
      simpa using this

/-- the item of a row that a value is -/
theorem any_P (I : Inv X pins σ H s) {x : P} {b : Value} : ∀ {xs : List P} {vs : List V} {its : List Value}, RepPs X.K H xs vs → Vals vs its →
    ∃ e : Value → Bool, its.any e = xs.any (fun z => P.eqv z x) ∧ ∀ y ∈ its, ∃ z v, z ∈ xs ∧ RepP X.K H z v ∧ RelV v y ∧ e y = P.eqv z x := by
  classical
  intro xs vs its h r
  have key : ∀ (xs : List P) (vs : List V) (its : List Value), RepPs X.K H xs vs → Vals vs its → ∀ e : Value → Bool, (∀ z v y, RepP X.K H z v → RelV v y → e y = P.eqv z x) →
      its.any e = xs.any (fun z => P.eqv z x) ∧ ∀ y ∈ its, ∃ z v, z ∈ xs ∧ RepP X.K H z v ∧ RelV v y ∧ e y = P.eqv z x := by
    intro xs
    induction xs with
    | nil =>
      intro vs its h r e he
      simp only [RepPs] at h; subst h; cases r
      exact ⟨rfl, fun y hy => nomatch hy⟩
    | cons z xs ih =>
      intro vs its h r e he
      simp only [RepPs] at h
      obtain ⟨v, vr, rfl, h1, h2⟩ := h
      cases r with
      | cons q qs =>
        obtain ⟨a1, a2⟩ := ih _ _ h2 qs e he
        refine ⟨by rw [List.any_cons, List.any_cons, a1, he z v _ h1 q], fun y hy => ?_⟩
        rcases List.mem_cons.mp hy with rfl | hy
        · exact ⟨z, v, List.mem_cons_self, h1, q, he z v _ h1 q⟩
        · obtain ⟨z', v', hz, k⟩ := a2 y hy
          exact ⟨z', v', List.mem_cons_of_mem _ hz, k⟩
  let e : Value → Bool := fun y => decide (∃ z v, RepP X.K H z v ∧ RelV v y ∧ P.eqv z x = true)
  refine ⟨e, key xs vs its h r e fun z v y h1 h2 => ?_⟩
  show decide (∃ z v, RepP X.K H z v ∧ RelV v y ∧ P.eqv z x = true) = P.eqv z x
  cases q : P.eqv z x with
  | true => exact decide_eq_true ⟨z, v, h1, h2, q⟩
  | false =>
    refine decide_eq_false ?_
    rintro ⟨z', v', g1, g2, g3⟩
    have := g2.inj h2
    subst this
    rw [RepP.inj I z' z v' g1 h1, q] at g3
    cases g3
end
/-! ### comparisons -/
def dOk (x y : P) : Prop := min x.depth y.depth ≤ 100
instance (x y : P) : Decidable (dOk x y) := by unfold dOk; infer_instance
def dEq : D → D → Store → Option (D × Store)
  | .p x, .p y, M => if dOk x y then some (.p (.bl (P.eqv x y)), M) else none
  | _, _, _ => none
def dNe : D → D → Store → Option (D × Store)
  | .p x, .p y, M => if dOk x y then some (.p (.bl (!P.eqv x y)), M) else none
  | _, _, _ => none
def rEqP (K : PySem.W.Frag) : R2 := fun v u H Q => ∃ x y, RepP K H x v ∧ RepP K H y u ∧ dOk x y ∧ Q (.bl (P.eqv x y)) H
def rNeP (K : PySem.W.Frag) : R2 := fun v u H Q => ∃ x y, RepP K H x v ∧ RepP K H y u ∧ dOk x y ∧ Q (.bl (!P.eqv x y)) H
section
variable {X : Cx} {G : Gm}
theorem o_eq (hu : X.A.units + 120 < cLine) : OpR X (compareOp .Eq) (rEqP X.K) := by
  intro pins s σ H v u a b Q I ra rb h
  obtain ⟨x, y, hx, hy, hd, q⟩ := h
  unfold dOk at hd
  exact rcAt_P I x y X.A v u a b hx hy ra rb (by omega) (by omega) _ _ _ _ ⟨.bl _, H, I, rfl, q⟩
theorem o_ne (hu : X.A.units + 120 < cLine) : OpR X (compareOp .NotEq) (rNeP X.K) := by
  intro pins s σ H v u a b Q I ra rb h
  obtain ⟨x, y, hx, hy, hd, q⟩ := h
  unfold dOk at hd
  exact rcNeAt_P I x y X.A v u a b hx hy ra rb (by omega) (by omega) _ _ _ _ ⟨.bl _, H, I, rfl, q⟩
theorem d_eq : OpD G dEq (rEqP G.K) := by
  intro μ H M x y v u Q d M' S rx ry q k
  unfold dEq at q
  split at q
  · split at q
    · rename_i h
      cases q
      simp only [Rep] at rx ry
      exact ⟨_, _, rx, ry, h, k μ _ H (.refl H) (List.prefix_refl _) S (Rep.bl.mpr rfl)⟩
    · cases q
  · cases q
theorem d_ne : OpD G dNe (rNeP G.K) := by
  intro μ H M x y v u Q d M' S rx ry q k
  unfold dNe at q
  split at q
  · split at q
    · rename_i h
      cases q
      simp only [Rep] at rx ry
      exact ⟨_, _, rx, ry, h, k μ _ H (.refl H) (List.prefix_refl _) S (Rep.bl.mpr rfl)⟩
    · cases q
  · cases q
end
/-- ints, texts -/
def dOrd (p : Int → Int → Bool) (q : List Nat → List Nat → Bool) : D → D → Store → Option (D × Store)
  | .p (.int i), .p (.int j), M => some (.p (.bl (p i j)), M)
  | .p (.str x), .p (.str y), M => some (.p (.bl (q x.cps.toList y.cps.toList)), M)
  | _, _, _ => none
abbrev rOrd (p : Int → Int → Bool) (q : List Nat → List Nat → Bool) : R2 := fun x y H Q => (∃ i j, x = .int i ∧ y = .int j ∧ Q (.bl (p i j)) H) ∨ (∃ i j, x = .str i ∧ y = .str j ∧ Q (.bl (q i.cps.toList j.cps.toList)) H)
def dLt := dOrd (fun i j => decide (i < j)) (fun x y => decide (x < y))
def dLe := dOrd (fun i j => decide (i ≤ j)) (fun x y => !decide (y < x))
def dGt := dOrd (fun i j => decide (j < i)) (fun x y => decide (y < x))
def dGe := dOrd (fun i j => decide (j ≤ i)) (fun x y => !decide (x < y))
section
variable {X : Cx} {G : Gm}
theorem d_ord {p q} : OpD G (dOrd p q) (rOrd p q) := by
  intro μ H M x y v u Q d M' S rx ry e k
  unfold dOrd at e
  split at e
  · cases e
    rw [Rep.int] at rx ry
    exact .inl ⟨_, _, rx, ry, k μ _ H (.refl H) (List.prefix_refl _) S (Rep.bl.mpr rfl)⟩
  · cases e
    rw [Rep.str] at rx ry
    exact .inr ⟨_, _, rx, ry, k μ _ H (.refl H) (List.prefix_refl _) S (Rep.bl.mpr rfl)⟩
  · cases e
theorem o_lt : OpR X (compareOp .Lt) (rOrd (fun i j => decide (i < j)) (fun x y => decide (x < y))) := op_lt.or op_lt_str
theorem o_le : OpR X (compareOp .LtE) (rOrd (fun i j => decide (i ≤ j)) (fun x y => !decide (y < x))) := op_le.or op_le_str
theorem o_gt : OpR X (compareOp .Gt) (rOrd (fun i j => decide (j < i)) (fun x y => decide (y < x))) := op_gt.or op_gt_str
theorem o_ge : OpR X (compareOp .GtE) (rOrd (fun i j => decide (j ≤ i)) (fun x y => !decide (x < y))) := op_ge.or op_ge_str
end
/-- x is None -/
def isNon : D → Bool
  | .p .non => true
  | _ => false
def dIsN : D → D → Store → Option (D × Store)
  | x, .p .non, M => some (.p (.bl (isNon x)), M)
  | _, _, _ => none
def dNotN : D → D → Store → Option (D × Store)
  | x, .p .non, M => some (.p (.bl (!isNon x)), M)
  | _, _, _ => none
section
variable {X : Cx} {G : Gm}
theorem isNon_ok {μ H} {x : D} {v : V} (r : Rep G μ H x v) : isNon x = decide (v = .non) := by
  cases x with
  | p x =>
    cases x with
    | non => rw [Rep.non] at r; subst r; rfl
    | bl b => rw [Rep.bl] at r; subst r; rfl
    | int b => rw [Rep.int] at r; subst r; rfl
    | str b => rw [Rep.str] at r; subst r; rfl
    | tup b => rw [Rep.ptup] at r; obtain ⟨_, _, rfl, _⟩ := r; rfl
  | ref l => rw [Rep.ref] at r; obtain ⟨_, _, rfl⟩ := r; rfl
  | tup b => rw [Rep.tup] at r; obtain ⟨_, _, rfl, _⟩ := r; rfl
  | gl x => simp only [Rep] at r; obtain ⟨_, _, rfl⟩ := r; rfl
  | exv a => simp only [Rep] at r; subst r; rfl
  | lam i => simp only [Rep] at r; obtain ⟨rfl, _⟩ := r; rfl
theorem d_isN : OpD G dIsN (fun x y H Q => y = .non ∧ Q (.bl (decide (x = .non))) H) := by
  intro μ H M x y v u Q d M' S rx ry e k
  unfold dIsN at e
  split at e
  · cases e
    rw [Rep.non] at ry
    refine ⟨ry, ?_⟩
    rw [← isNon_ok rx]
    exact k μ _ H (.refl H) (List.prefix_refl _) S (Rep.bl.mpr rfl)
  · cases e
theorem d_notN : OpD G dNotN (fun x y H Q => y = .non ∧ Q (.bl (!decide (x = .non))) H) := by
  intro μ H M x y v u Q d M' S rx ry e k
  unfold dNotN at e
  split at e
  · cases e
    rw [Rep.non] at ry
    refine ⟨ry, ?_⟩
    rw [← isNon_ok rx]
    exact k μ _ H (.refl H) (List.prefix_refl _) S (Rep.bl.mpr rfl)
  · cases e
end
/-! ### membership -/
def allP : List D → Option (List P)
  | [] => some []
  | .p x :: xs => (allP xs).map fun r => x :: r
  | _ :: _ => none
theorem allP_map (xs : List P) : allP (xs.map D.p) = some xs := by
  induction xs with
  | nil => rfl
  | cons x xs ih => rw [List.map_cons, allP, ih]; rfl
theorem allP_eq : ∀ {xs : List D} {ys : List P}, allP xs = some ys → xs = ys.map D.p
  | [], ys, h => by simp only [allP, Option.some.injEq] at h; subst h; rfl
  | .p x :: xs, ys, h => by
    simp only [allP, Option.map_eq_some_iff] at h
    obtain ⟨r, h1, rfl⟩ := h
    rw [allP_eq h1]
    rfl
  | .ref _ :: _, _, h => by simp [allP] at h
  | .tup _ :: _, _, h => by simp [allP] at h
  | .gl _ :: _, _, h => by simp [allP] at h
  | .exv _ :: _, _, h => by simp [allP] at h
  | .lam _ :: _, _, h => by simp [allP] at h
/-- the items of a pure tuple, of a list of pure things -/
def rowP : D → Store → Option (List P)
  | .p (.tup xs), _ => some xs
  | .ref l, M => (match M[l]? with
    | some (.lst xs) => allP xs
    | some (.ro xs) => allP xs
    | _ => none)
  | _, _ => none
def dIn : D → D → Store → Option (D × Store)
  | .p x, c, M => (match rowP c M with
    | some xs => if x.depth ≤ 100 then some (.p (.bl (xs.any fun z => P.eqv z x)), M) else none
    | none => none)
  | _, _, _ => none
def dNotIn : D → D → Store → Option (D × Store)
  | .p x, c, M => (match rowP c M with
    | some xs => if x.depth ≤ 100 then some (.p (.bl (!xs.any fun z => P.eqv z x)), M) else none
    | none => none)
  | _, _, _ => none
def rInP (K : PySem.W.Frag) (neg : Bool) : R2 := fun v u H Q => ∃ x a vs xs, RepP K H x v ∧ u = .ref a ∧ (SqT K H a vs ∨ SqL K H a vs) ∧ RepPs K H xs vs ∧ x.depth ≤ 100 ∧ Q (.bl (if neg then !xs.any fun z => P.eqv z x else xs.any fun z => P.eqv z x)) H
section
variable {X : Cx} {G : Gm}
theorem rowP_ok {μ H M} {c : D} {u : V} {xs : List P} (S : SR G μ H M) (r : Rep G μ H c u) (h : rowP c M = some xs) : ∃ a vs, u = .ref a ∧ (SqT G.K H a vs ∨ SqL G.K H a vs) ∧ RepPs G.K H xs vs := by
  unfold rowP at h
  split at h
  · cases h
    rw [Rep.ptup] at r
    obtain ⟨a, vs, rfl, h1, h2⟩ := r
    exact ⟨a, vs, rfl, .inl h1, h2⟩
  · rw [Rep.ref] at r
    obtain ⟨a, h1, rfl⟩ := r
    split at h
    · rename_i ys e
      obtain ⟨vs, h2, h3⟩ := S.lst h1 e
      rw [allP_eq h] at h3
      exact ⟨a, vs, rfl, .inr (SqL.of h2), h3.to_P⟩
    · rename_i ys e
      obtain ⟨vs, h2, h3⟩ := S.obj _ a _ h1 e
      rw [allP_eq h] at h3
      exact ⟨a, vs, rfl, .inr h2.sql, h3.to_P⟩
    · cases h
  · cases h
theorem d_in : OpD G dIn (rInP G.K false) := by
  intro μ H M x y v u Q d M' S rx ry e k
  unfold dIn at e
  split at e
  · split at e
    · rename_i xs h
      split at e
      · rename_i hd
        cases e
        obtain ⟨a, vs, h1, h2, h3⟩ := rowP_ok S ry h
        simp only [Rep] at rx
        exact ⟨_, a, vs, xs, rx, h1, h2, h3, hd, k μ _ H (.refl H) (List.prefix_refl _) S (Rep.bl.mpr rfl)⟩
      · cases e
    · cases e
  · cases e
theorem d_notIn : OpD G dNotIn (rInP G.K true) := by
  intro μ H M x y v u Q d M' S rx ry e k
  unfold dNotIn at e
  split at e
  · split at e
    · rename_i xs h
      split at e
      · rename_i hd
        cases e
        obtain ⟨a, vs, h1, h2, h3⟩ := rowP_ok S ry h
        simp only [Rep] at rx
        exact ⟨_, a, vs, xs, rx, h1, h2, h3, hd, k μ _ H (.refl H) (List.prefix_refl _) S (Rep.bl.mpr rfl)⟩
      · cases e
    · cases e
  · cases e
theorem o_in_aux (hu : X.A.units + 120 < cLine) {pins : List (Addr × Obj)} {s : Shared} {σ : St} {H : Hp} (I : Inv X pins σ H s) {x : P} {v : V} {b : Value} {vs : List V} {xs : List P} {its : List Value} (hx : RepP X.K H x v) (rb : RelV v b) (hxs : RepPs X.K H xs vs) (r : Vals vs its) (hd : x.depth ≤ 100) :
    ∃ e : Value → Bool, its.toArray.any e = xs.any (fun z => P.eqv z x) ∧ ∀ y, y ∈ its.toArray → EqAt X.A.in1 s y b (e y) := by
  obtain ⟨e, h1, h2⟩ := any_P (b := b) (x := x) I hxs r
  refine ⟨e, by simpa using h1, fun y hy => ?_⟩
  obtain ⟨z, w, hz, g1, g2, g3⟩ := h2 y (by simpa using hy)
  rw [g3]
  have e1 : X.A.in1.units = X.A.units + 1 := by first | rfl | simp [Around.in1]
  exact eqAt_P I z x X.A.in1 w v y b g1 hx g2 rb (by rw [e1]; omega) (by rw [e1]; omega)
theorem o_in (hu : X.A.units + 120 < cLine) : OpR X (compareOp .In) (rInP X.K false) := by
  intro pins s σ H v u b c Q I rb rc h
  obtain ⟨x, a, vs, xs, hx, rfl, hq, hxs, hd, q⟩ := h
  cases rc
  rcases hq with hq | hq
  · obtain ⟨its, r, p, _⟩ := I.tuple hq
    obtain ⟨e, h1, h2⟩ := o_in_aux hu I hx rb hxs r hd
    exact in_tupleAt e (show s.heap.IsTuple a its.toArray from p) h2 (by rw [h1]; exact ⟨.bl _, H, I, rfl, q⟩)
  · obtain ⟨its, r, p, _⟩ := I.list hq
    obtain ⟨e, h1, h2⟩ := o_in_aux hu I hx rb hxs r hd
    exact in_listAt e p.isList h2 (by rw [h1]; exact ⟨.bl _, H, I, rfl, q⟩)
theorem o_notIn (hu : X.A.units + 120 < cLine) : OpR X (compareOp .NotIn) (rInP X.K true) := by
  intro pins s σ H v u b c Q I rb rc h
  obtain ⟨x, a, vs, xs, hx, rfl, hq, hxs, hd, q⟩ := h
  cases rc
  rcases hq with hq | hq
  · obtain ⟨its, r, p, _⟩ := I.tuple hq
    obtain ⟨e, h1, h2⟩ := o_in_aux hu I hx rb hxs r hd
    exact notIn_tupleAt e (show s.heap.IsTuple a its.toArray from p) h2 (by rw [h1]; exact ⟨.bl _, H, I, rfl, q⟩)
  · obtain ⟨its, r, p, _⟩ := I.list hq
    obtain ⟨e, h1, h2⟩ := o_in_aux hu I hx rb hxs r hd
    exact notIn_listAt e p.isList h2 (by rw [h1]; exact ⟨.bl _, H, I, rfl, q⟩)
end
end Fl

set_option Elab.async false
set_option linter.all false
set_option maxRecDepth 100000
/-! Fl, part E: tests, displays, arguments, calls, items, slices, methods. -/
namespace Fl
open PySem PySem.Spec L2
set_option autoImplicit false

/-! ### truth -/
def truthD : D → Store → Option Bool
  | .p .non, _ => some false
  | .p (.bl b), _ => some b
  | .p (.int i), _ => some (i != 0)
  | .p (.str x), _ => if x.length ≤ sizeLine then some ((x.length : Int) != 0) else none
  | .p (.tup xs), _ => some (!xs.isEmpty)
  | .tup xs, _ => some (!xs.isEmpty)
  | .ref l, M => (match M[l]? with
    | some (.lst xs) => some (!xs.isEmpty)
    | some (.ro xs) => some (!xs.isEmpty)
    | _ => none)
  | .gl _, _ => none
  | .exv _, _ => none
  | .lam _, _ => none
theorem isE_len {α β : Type} {xs : List α} {ys : List β} (h : xs.length = ys.length) : xs.isEmpty = ys.isEmpty := by
  cases xs <;> cases ys <;> simp_all
section
variable {X : Cx} {G : Gm} {W : WX} {a b e c : Expr} {fa fb fc : RE} {ta tb : RT} {pos : Pos} {rest : List Expr}
theorem truthD_ok {μ H M} {x : D} {v : V} {k : Bool} (S : SR G μ H M) (r : Rep G μ H x v) (h : truthD x M = some k) : TruV G.K v H k := by
  cases x with
  | p x =>
    cases x with
    | non => rw [Rep.non] at r; subst r; cases h; rfl
    | bl b => rw [Rep.bl] at r; subst r; cases h; rfl
    | int b => rw [Rep.int] at r; subst r; cases h; rfl
    | str b =>
      rw [Rep.str] at r; subst r
      have h : (if b.length ≤ sizeLine then some ((b.length : Int) != 0) else none) = some k := h
      split at h
      · rename_i hl; cases h; exact ⟨hl, rfl⟩
      · cases h
    | tup b =>
      rw [Rep.ptup] at r; obtain ⟨_, vs, rfl, h1, h2⟩ := r
      cases h
      exact .inr (.inl ⟨vs, h1, by rw [isE_len h2.length]⟩)
  | ref l =>
    rw [Rep.ref] at r; obtain ⟨p, h1, rfl⟩ := r
    have h : (match M[l]? with
      | some (.lst xs) => some (!xs.isEmpty)
      | some (.ro xs) => some (!xs.isEmpty)
      | _ => none) = some k := h
    split at h
    · rename_i xs e
      obtain ⟨vs, h2, h3⟩ := S.lst h1 e
      cases h
      exact .inl ⟨vs, SqL.of h2, by rw [isE_len h3.length]⟩
    · rename_i xs e
      obtain ⟨vs, h2, h3⟩ := S.obj _ p _ h1 e
      cases h
      exact .inl ⟨vs, h2.sql, by rw [isE_len h3.length]⟩
    · cases h
  | tup b =>
    rw [Rep.tup] at r; obtain ⟨_, vs, rfl, h1, h2⟩ := r
    cases h
    exact .inr (.inl ⟨vs, h1, by rw [isE_len h2.length]⟩)
  | gl x => cases h
  | exv x => cases h
  | lam i => cases h
theorem tst_in {t : D → Store → Option Bool} {σ : St} {H : Hp} {Q : Bool → Hp → Prop} (h : tT (gm X) W (rTst t fa) σ H Q) :
    tE (gm X) W fa σ H fun v H1 => ∃ μ M x k, SR (gm X) μ H1 M ∧ Rep (gm X) μ H1 x v ∧ t x M = some k ∧ Q k H1 := by
  refine (tX.bind h).mono fun v H1 g1 => ?_
  obtain ⟨μ, ρ, M, x, hE, hS, rx, hF⟩ := g1
  have hF : Fin (gm X) (fun _ _ (a b : Bool) => a = b) W μ σ H1 Q (match t x M with | some b => .ok b M | none => .no) := hF
  cases q : t x M with
  | none => rw [q] at hF; exact hF.elim
  | some k =>
    rw [q] at hF
    exact ⟨μ, M, x, k, hS, rx, q, hF μ k H1 (.refl _) (List.prefix_refl _) hS rfl⟩
/-- if x: -/
theorem i_truth (ha : PE X a (tE (gm X) W fa)) (he : ∀ whole, isTrue a X.env whole = (do let v ← whole; standAt a.pos; holding [v] (truthy v)) := by exact fun _ => rfl) : PT X a (tT (gm X) W (rTst truthD fa)) :=
  PTimp (pt_truth ha he) fun σ H Q h => (tst_in h).mono fun v H1 ⟨μ, M, x, k, hS, rx, q, w⟩ => ⟨k, truthD_ok hS rx q, w⟩
theorem asBool_ok {x : D} {M : Store} {k : Bool} (h : asBool x M = some k) : x = .p (.bl k) := by
  unfold asBool at h
  split at h
  · cases h; rfl
  · cases h
/-- if x < y: -/
theorem i_tcmp {o : CmpOp} {op r} (ho : OpR X (compareOp o) r) (hd : OpD (gm X) op r) (ha : PE X a (tE (gm X) W fa)) (hb : PE X b (tE (gm X) W fb)) (hm : behindInMarks o b = false := by first | exact nomark _ | rfl) :
    PT X (.Compare a [o] [b] pos) (tT (gm X) W (rTst asBool (rBin op fa fb))) :=
  PTimp (pt_cmpR ho ha hb hm) fun σ H Q h => by
    have h1 : tE (gm X) W (rBin op fa fb) σ H fun v H1 => ∃ k, v = .bl k ∧ Q k H1 := (tst_in h).mono fun v H1 ⟨μ, M, x, k, hS, rx, q, w⟩ => by
      rw [asBool_ok q, Rep.bl] at rx
      exact ⟨k, rx, w⟩
    exact bin_in (X := X) hd h1
/-! ### and, or, not -/
def rtAnd (f g : RT) : RT := fun ρ M => (f ρ M).bind fun b M1 => match b with
  | true => g ρ M1
  | false => .ok false M1
def rtOr (f g : RT) : RT := fun ρ M => (f ρ M).bind fun b M1 => match b with
  | true => .ok true M1
  | false => g ρ M1
def rtNot (f : RT) : RT := fun ρ M => (f ρ M).bind fun b M1 => .ok (!b) M1
/-- behind a test: the test's answer is known -/
theorem tT_bind {β κ : Type} {rel2 : List Addr → Hp → β → κ → Prop} {f : RT} {g : Bool → RX β} {σ : St} {H : Hp} {Q : κ → Hp → Prop} (h : tX G rel2 W (fun ρ M => (f ρ M).bind fun b M1 => g b ρ M1) σ H Q) :
    tT G W f σ H fun b H1 => tX G rel2 W (g b) σ H1 Q :=
  (tX.bind h).mono fun b H1 ⟨μ, ρ, M, c, hE, hS, e, hF⟩ => by
    subst e
    exact ⟨μ, ρ, M, hE, hS, hF⟩
theorem tT_ok {f : RT} {σ : St} {H : Hp} {Q : Bool → Hp → Prop} {k : Bool} (h : tT G W (fun _ M => .ok k M) σ H Q) : Q k H := by
  obtain ⟨μ, ρ, M, hE, hS, hF⟩ := h
  exact hF μ k H (.refl H) (List.prefix_refl _) hS rfl
theorem i_and1 (ha : PT X a (tT (gm X) W ta)) : PW X (.BoolOp .And [a] pos) (tT (gm X) W ta) := pw_and1 ha
theorem i_or1 (ha : PT X a (tT (gm X) W ta)) : PW X (.BoolOp .Or [a] pos) (tT (gm X) W ta) := pw_or1 ha
theorem i_tand (ha : PT X a (tT (gm X) W ta)) (hb : PW X (.BoolOp .And (b :: rest) pos) (tT (gm X) W tb)) : PW X (.BoolOp .And (a :: b :: rest) pos) (tT (gm X) W (rtAnd ta tb)) :=
  PWimp (pw_and ha hb) fun σ H Q h => by
    have h1 := tT_bind (g := fun b ρ M1 => match b with | true => tb ρ M1 | false => .ok false M1) h
    refine h1.mono fun k H1 w => ?_
    cases k with
    | true => exact w
    | false => exact tT_ok (f := ta) w
theorem i_tor (ha : PT X a (tT (gm X) W ta)) (hb : PW X (.BoolOp .Or (b :: rest) pos) (tT (gm X) W tb)) : PW X (.BoolOp .Or (a :: b :: rest) pos) (tT (gm X) W (rtOr ta tb)) :=
  PWimp (pw_or ha hb) fun σ H Q h => by
    have h1 := tT_bind (g := fun b ρ M1 => match b with | true => .ok true M1 | false => tb ρ M1) h
    refine h1.mono fun k H1 w => ?_
    cases k with
    | true => exact tT_ok (f := ta) w
    | false => exact w
theorem i_tnot (ha : PT X a (tT (gm X) W ta)) : PT X (.UnaryOp .Not a pos) (tT (gm X) W (rtNot ta)) :=
  PTimp (pt_not ha) fun σ H Q h => by
    have h1 := tT_bind (g := fun b ρ M1 => .ok (!b) M1) h
    exact h1.mono fun k H1 w => tT_ok (f := ta) w
/-- as values -/
def rNot (f : RT) : RE := fun ρ M => (f ρ M).bind fun b M1 => .ok (.p (.bl (!b))) M1
def rIf (t : RT) (f g : RE) : RE := fun ρ M => (t ρ M).bind fun b M1 => match b with
  | true => f ρ M1
  | false => g ρ M1
def rAnd (f g : RE) : RE := fun ρ M => (f ρ M).bind fun x M1 => match truthD x M1 with
  | some true => g ρ M1
  | some false => .ok x M1
  | none => .no
def rOr (f g : RE) : RE := fun ρ M => (f ρ M).bind fun x M1 => match truthD x M1 with
  | some true => .ok x M1
  | some false => g ρ M1
  | none => .no
theorem i_one {op : BoolOp} (ha : PE X a (tE (gm X) W fa)) : PE X (.BoolOp op [a] pos) (tE (gm X) W fa) := pe_one ha
theorem i_and (ha : PE X a (tE (gm X) W fa)) (hb : PE X (.BoolOp .And (b :: rest) pos) (tE (gm X) W fb)) : PE X (.BoolOp .And (a :: b :: rest) pos) (tE (gm X) W (rAnd fa fb)) :=
  PEimp (pe_andT ha hb) fun σ H Q h => by
    refine (tX.bind (g := fun x ρ M1 => match truthD x M1 with | some true => fb ρ M1 | some false => .ok x M1 | none => .no) h).mono fun v H1 ⟨μ, ρ, M, x, hE, hS, rx, hF⟩ => ?_
    have hF : Fin (gm X) (Rep (gm X)) W μ σ H1 Q (match truthD x M with | some true => fb ρ M | some false => .ok x M | none => .no) := hF
    cases q : truthD x M with
    | none => rw [q] at hF; exact hF.elim
    | some k =>
      rw [q] at hF
      refine ⟨k, truthD_ok hS rx q, ?_⟩
      cases k with
      | true => exact iteT ⟨μ, ρ, M, hE, hS, hF⟩
      | false => exact iteF (hF μ v H1 (.refl _) (List.prefix_refl _) hS rx)
theorem i_or (ha : PE X a (tE (gm X) W fa)) (hb : PE X (.BoolOp .Or (b :: rest) pos) (tE (gm X) W fb)) : PE X (.BoolOp .Or (a :: b :: rest) pos) (tE (gm X) W (rOr fa fb)) :=
  PEimp (pe_orT ha hb) fun σ H Q h => by
    refine (tX.bind (g := fun x ρ M1 => match truthD x M1 with | some true => .ok x M1 | some false => fb ρ M1 | none => .no) h).mono fun v H1 ⟨μ, ρ, M, x, hE, hS, rx, hF⟩ => ?_
    have hF : Fin (gm X) (Rep (gm X)) W μ σ H1 Q (match truthD x M with | some true => .ok x M | some false => fb ρ M | none => .no) := hF
    cases q : truthD x M with
    | none => rw [q] at hF; exact hF.elim
    | some k =>
      rw [q] at hF
      refine ⟨k, truthD_ok hS rx q, ?_⟩
      cases k with
      | true => exact iteT (hF μ v H1 (.refl _) (List.prefix_refl _) hS rx)
      | false => exact iteF ⟨μ, ρ, M, hE, hS, hF⟩
/-- not x as a value -/
theorem i_not (ha : PE X a (tE (gm X) W fa)) : PE X (.UnaryOp .Not a pos) (tE (gm X) W (rNot (rTst truthD fa))) :=
  PEimp (pe_notT ha) fun σ H Q h => by
    have h1 : tT (gm X) W (rTst truthD fa) σ H _ := tT_bind (rel2 := Rep (gm X)) (g := fun b ρ M1 => R.ok (D.p (P.bl (!b))) M1) h
    refine (tst_in h1).mono fun v H1 ⟨μ, M, x, k, hS, rx, q, w⟩ => ⟨k, truthD_ok hS rx q, ?_⟩
    obtain ⟨μ, ρ, M, hE, hS, hF⟩ := w
    exact hF μ _ H1 (.refl _) (List.prefix_refl _) hS (Rep.bl.mpr rfl)
theorem i_ifx (hc : PT X c (tT (gm X) W ta)) (ha : PE X a (tE (gm X) W fa)) (hb : PE X b (tE (gm X) W fb)) : PE X (.IfExp c a b pos) (tE (gm X) W (rIf ta fa fb)) :=
  PEimp (pe_ifExp hc ha hb) fun σ H Q h => by
    have h1 := tT_bind (g := fun b ρ M1 => match b with | true => fa ρ M1 | false => fb ρ M1) h
    refine h1.mono fun k H1 w => ?_
    cases k with
    | true => exact iteT w
    | false => exact iteF w
/-! ### chains a < b < c -/
def rChain (op op' : D → D → Store → Option (D × Store)) (fa fb fc : RE) : RE := fun ρ M => (fa ρ M).bind fun x M1 => (fb ρ M1).bind fun y M2 => match op x y M2 with
  | some (.p (.bl true), M3) => (fc ρ M3).bind fun z M4 => ofO (op' y z M4)
  | some (.p (.bl false), M3) => .ok (.p (.bl false)) M3
  | _ => .no
theorem chain_in {op op' r r'} (hd : OpD (gm X) op r) (hd' : OpD (gm X) op' r') {σ : St} {H : Hp} {Q : VK} (h : tE (gm X) W (rChain op op' fa fb fc) σ H Q) : tChain r r' (tE (gm X) W fa) (tE (gm X) W fb) (tE (gm X) W fc) σ H Q := by
  refine (tX.bind h).mono fun v H1 g1 => ?_
  refine (Go.bind Rep.mono g1).mono fun u H2 g2 => ?_
  obtain ⟨μ, ρ, M, x, y, hE, hS, rx, ry, hF⟩ := g2
  have hF : Fin (gm X) (Rep (gm X)) W μ σ H2 Q (match op x y M with
    | some (.p (.bl true), M3) => (fc ρ M3).bind fun z M4 => ofO (op' y z M4)
    | some (.p (.bl false), M3) => .ok (.p (.bl false)) M3
    | _ => .no) := hF
  cases q : op x y M with
  | none => rw [q] at hF; exact hF.elim
  | some p =>
    obtain ⟨d, M'⟩ := p
    rw [q] at hF
    refine hd μ H2 M x y v u _ d M' hS rx ry q fun μ3 w H3 e3 p3 S3 r3 => ?_
    split at hF
    · rename_i M3 e
      cases e
      rw [Rep.bl] at r3
      refine ⟨true, r3, iteT ?_⟩
      have g3 : Go (gm X) (Rep (gm X)) (Rep (gm X)) W (fun y ρ M3 => (fc ρ M3).bind fun z M4 => ofO (op' y z M4)) σ Q u H3 := ⟨μ3, ρ, M', y, hE.ext e3 p3, S3, ry.ext e3 p3, Fin.later e3 p3 hF⟩
      refine (Go.bind Rep.mono g3).mono fun t H4 g4 => ?_
      obtain ⟨μ4, ρ4, M4, y4, z4, hE4, hS4, ry4, rz4, hF4⟩ := g4
      have hF4 : Fin (gm X) (Rep (gm X)) W μ4 σ H4 Q (ofO (op' y4 z4 M4)) := hF4
      cases q4 : op' y4 z4 M4 with
      | none => rw [q4] at hF4; exact hF4.elim
      | some p4 =>
        obtain ⟨d4, M5⟩ := p4
        rw [q4] at hF4
        exact hd' μ4 H4 M4 y4 z4 u t Q d4 M5 hS4 ry4 rz4 q4 hF4
    · rename_i M3 e
      cases e
      rw [Rep.bl] at r3
      exact ⟨false, r3, iteF (hF μ3 _ H3 e3 p3 S3 (Rep.bl.mpr rfl))⟩
    · exact hF.elim
theorem i_chain {o o' : CmpOp} {op op' r r'} (ho : OpR X (compareOp o) r) (hd : OpD (gm X) op r) (ho' : OpR X (compareOp o') r') (hd' : OpD (gm X) op' r') (ha : PE X a (tE (gm X) W fa)) (hb : PE X b (tE (gm X) W fb)) (hc : PE X c (tE (gm X) W fc))
    (hm : lastMarks [o, o'] [b, c] = false := by with_unfolding_all rfl) : PE X (.Compare a [o, o'] [b, c] pos) (tE (gm X) W (rChain op op' fa fb fc)) :=
  PEimp (pe_chain ho ho' ha hb hc hm) fun _ _ _ h => chain_in hd hd' h
theorem i_tchain {o o' : CmpOp} {op op' r r'} (ho : OpR X (compareOp o) r) (hd : OpD (gm X) op r) (ho' : OpR X (compareOp o') r') (hd' : OpD (gm X) op' r') (ha : PE X a (tE (gm X) W fa)) (hb : PE X b (tE (gm X) W fb)) (hc : PE X c (tE (gm X) W fc))
    (hm : lastMarks [o, o'] [b, c] = false := by with_unfolding_all rfl) : PT X (.Compare a [o, o'] [b, c] pos) (tT (gm X) W (rTst asBool (rChain op op' fa fb fc))) :=
  PTimp (pt_chain ho ho' ha hb hc hm) fun σ H Q h => by
    have h1 : tE (gm X) W (rChain op op' fa fb fc) σ H fun v H1 => ∃ k, v = .bl k ∧ Q k H1 := (tst_in h).mono fun v H1 ⟨μ, M, x, k, hS, rx, q, w⟩ => by
      rw [asBool_ok q, Rep.bl] at rx
      exact ⟨k, rx, w⟩
    exact chain_in (X := X) hd hd' h1
end
/-! ### arguments, displays -/
def rNil : RA := fun _ M => .ok [] M
def rCons (f : RE) (g : RA) : RA := fun ρ M => (f ρ M).bind fun x M1 => (g ρ M1).bind fun xs M2 => .ok (x :: xs) M2
def mkTup (xs : List D) : D := match allP xs with
  | some ys => .p (.tup ys)
  | none => .tup xs
def rTup (f : RA) : RE := fun ρ M => (f ρ M).bind fun xs M1 => if xs.length ≤ 1000 then .ok (mkTup xs) M1 else .no
def rLst (f : RA) : RE := fun ρ M => (f ρ M).bind fun xs M1 => if xs.length ≤ 1000 then .ok (.ref M1.length) (M1 ++ [.lst xs]) else .no
theorem small_line {n : Nat} (h : n ≤ 1000) : n ≤ sizeLine := by rw [sizeLine_eq]; omega
section
variable {X : Cx} {G : Gm} {W : WX} {a b e c : Expr} {fa fb fc : RE} {fs : RA} {pos : Pos} {es : List Expr}
theorem mkTup_ok {μ H} {xs : List D} {vs : List V} {p : Addr} (h : SqT G.K H p vs) (r : Reps G μ H xs vs) : Rep G μ H (mkTup xs) (.ref p) := by
  unfold mkTup
  split
  · rename_i ys e
    rw [allP_eq e] at r
    exact Rep.ptup.mpr ⟨p, vs, rfl, h, r.to_P⟩
  · exact Rep.tup.mpr ⟨p, vs, rfl, h, r⟩
theorem i_nil : PA X [] (tA (gm X) W rNil) := PAimp pa_nil fun σ H Q h => by
  obtain ⟨μ, ρ, M, hE, hS, hF⟩ := h
  exact hF μ [] H (.refl _) (List.prefix_refl _) hS .nil
theorem i_cons (ha : PE X e (tE (gm X) W fa)) (hr : PA X es (tA (gm X) W fs)) (hs : starEach (e :: es) X.env = (false, eval e X.env) :: starEach es X.env := by rfl) : PA X (e :: es) (tA (gm X) W (rCons fa fs)) :=
  PAimp (pa_cons ha hr hs) fun σ H Q h => by
    refine (tX.bind h).mono fun v H1 g1 => ?_
    refine (Go.bind Rep.mono g1).mono fun vs H2 ⟨μ, ρ, M, x, xs, hE, hS, rx, rxs, hF⟩ => ?_
    exact hF μ (v :: vs) H2 (.refl _) (List.prefix_refl _) hS (.cons rx rxs)
theorem i_tup {x1 : Nat} (h : PA X es (tA (gm X) W fs)) : PE X (.Tuple es x1 pos) (tE (gm X) W (rTup fs)) :=
  PEimp (pe_tup h) fun σ H Q h => by
    refine (tX.bind h).mono fun vs H1 ⟨μ, ρ, M, xs, hE, hS, rx, hF⟩ => ?_
    have hF : Fin (gm X) (Rep (gm X)) W μ σ H1 Q (if xs.length ≤ 1000 then .ok (mkTup xs) M else .no) := hF
    split at hF
    · rename_i hl
      refine ⟨by rw [← rx.length]; exact small_line hl, fun p hp => ?_⟩
      exact hF μ _ _ (.new hp) (List.prefix_refl _) (hS.grow hp) (mkTup_ok (SqT.of upd_same) (rx.ext (.new hp) (List.prefix_refl _)))
    · exact hF.elim
theorem i_lst (h : PA X es (tA (gm X) W fs)) : PE X (.List es pos) (tE (gm X) W (rLst fs)) :=
  PEimp (pe_lst h) fun σ H Q h => by
    refine (tX.bind h).mono fun vs H1 ⟨μ, ρ, M, xs, hE, hS, rx, hF⟩ => ?_
    have hF : Fin (gm X) (Rep (gm X)) W μ σ H1 Q (if xs.length ≤ 1000 then .ok (.ref M.length) (M ++ [.lst xs]) else .no) := hF
    split at hF
    · rename_i hl
      refine ⟨by rw [← rx.length]; exact small_line hl, fun p hp => ?_⟩
      exact hF (μ ++ [p]) _ _ (.new hp) (List.prefix_append _ _) (new_lst hS hp rx) (new_ref hS p)
    · exact hF.elim
end
/-! ### calls of built-ins by name -/
def CallD (G : Gm) (op : List D → Store → Option (D × Store)) (r : List V → Hp → VK → Prop) : Prop :=
  ∀ (μ : List Addr) (H : Hp) (M : Store) (xs : List D) (vs : List V) (Q : VK) (d : D) (M' : Store), SR G μ H M → Reps G μ H xs vs → op xs M = some (d, M') →
    (∀ μ' w H', Ext H H' → μ <+: μ' → SR G μ' H' M' → Rep G μ' H' d w → Q w H') → r vs H Q
def rCB (op : List D → Store → Option (D × Store)) (fs : RA) : RE := fun ρ M => (fs ρ M).bind fun xs M1 => ofO (op xs M1)
section
variable {X : Cx} {G : Gm} {W : WX} {a b e c : Expr} {fa fb fc : RE} {fs : RA} {p pos : Pos} {es : List Expr}
theorem cb_in {op r} (hd : CallD (gm X) op r) {σ : St} {H : Hp} {Q : VK} (h : tE (gm X) W (rCB op fs) σ H Q) : tCB r (tA (gm X) W fs) σ H Q := by
  refine (tX.bind h).mono fun vs H1 ⟨μ, ρ, M, xs, hE, hS, rx, hF⟩ => ?_
  have hF : Fin (gm X) (Rep (gm X)) W μ σ H1 Q (ofO (op xs M)) := hF
  cases q : op xs M with
  | none => rw [q] at hF; exact hF.elim
  | some p =>
    obtain ⟨d, M'⟩ := p
    rw [q] at hF
    exact hd μ H1 M xs vs Q d M' hS rx q hF
theorem i_callB {x : Str} {id : String} {op r} (hc : CallR X (.builtin id) r) (hd : CallD (gm X) op r) (hg : Gl X x) (hm : X.mg x = none) (hv : bootBuiltins x = some (.builtin id)) (ha : PA X (e :: es) (tA (gm X) W fs))
    (hn : x ≠ "__name__" := by decide) (hdb : (x == ("__debug__" : Str)) = false := by decide) (he : starEach (e :: es) X.env = (false, eval e X.env) :: starEach es X.env := by rfl) (hpl : (backTo pos (starEach es X.env)).any (·.1) = false := by rfl) :
    PE X (.Call (.Name x p) (e :: es) [] pos) (tE (gm X) W (rCB op fs)) :=
  PEimp (pe_callB hc hg hm hv ha hn hdb he hpl) fun _ _ _ h => cb_in hd h
theorem i_callTy {x : Str} {T : String} {op r} (hc : CallR X (.type T) r) (hd : CallD (gm X) op r) (hg : Gl X x) (hm : X.mg x = none) (hv : bootBuiltins x = some (.type T)) (ha : PA X (e :: es) (tA (gm X) W fs))
    (hn : x ≠ "__name__" := by decide) (hdb : (x == ("__debug__" : Str)) = false := by decide) (he : starEach (e :: es) X.env = (false, eval e X.env) :: starEach es X.env := by rfl) (hpl : (backTo pos (starEach es X.env)).any (·.1) = false := by rfl) :
    PE X (.Call (.Name x p) (e :: es) [] pos) (tE (gm X) W (rCB op fs)) :=
  PEimp (pe_callTy hc hg hm hv ha hn hdb he hpl) fun _ _ _ h => cb_in hd h
end
end Fl

set_option Elab.async false
set_option linter.all false
set_option maxRecDepth 100000
/-! Fl, part F: built-ins, items, slices, methods of lists, calls of defs. -/
namespace Fl
open PySem PySem.Spec L2
set_option autoImplicit false
section
variable {X : Cx} {G : Gm} {W : WX}
theorem Reps.inv1 {μ : List Addr} {H : Hp} {x : D} {vs : List V} (h : Reps G μ H [x] vs) : ∃ v, vs = [v] ∧ Rep G μ H x v := by
  obtain ⟨v, r, rfl, h1, h2⟩ := h.inv
  rw [h2.inv0]
  exact ⟨v, rfl, h1⟩
theorem Reps.inv2 {μ : List Addr} {H : Hp} {x y : D} {vs : List V} (h : Reps G μ H [x, y] vs) : ∃ v u, vs = [v, u] ∧ Rep G μ H x v ∧ Rep G μ H y u := by
  obtain ⟨v, r, rfl, h1, h2⟩ := h.inv
  obtain ⟨u, rfl, h3⟩ := h2.inv1
  exact ⟨v, u, rfl, h1, h3⟩
/-! ### len, int, abs, min, max -/
def lenD : D → Store → Option Nat
  | .p (.str x), _ => if x.length ≤ sizeLine then some x.length else none
  | .p (.tup xs), _ => some xs.length
  | .tup xs, _ => some xs.length
  | .ref l, M => (match M[l]? with
    | some (.lst xs) => some xs.length
    | some (.ro xs) => some xs.length
    | _ => none)
  | _, _ => none
def cLen : List D → Store → Option (D × Store)
  | [x], M => (lenD x M).map fun (n : Nat) => (.p (.int (n : Int)), M)
  | _, _ => none
theorem lenD_ok {μ H M} {x : D} {v : V} {n : Nat} (S : SR G μ H M) (r : Rep G μ H x v) (h : lenD x M = some n) : LenV G.K v H n := by
  cases x with
  | p x =>
    cases x with
    | str b =>
      rw [Rep.str] at r; subst r
      have h : (if b.length ≤ sizeLine then some b.length else none) = some n := h
      split at h
      · rename_i hl; cases h; exact ⟨hl, rfl⟩
      · cases h
    | tup b =>
      rw [Rep.ptup] at r; obtain ⟨_, vs, rfl, h1, h2⟩ := r
      cases h
      exact .inr ⟨vs, h1, h2.length⟩
    | _ => cases h
  | ref l =>
    rw [Rep.ref] at r; obtain ⟨p, h1, rfl⟩ := r
    have h : (match M[l]? with
      | some (.lst xs) => some xs.length
      | some (.ro xs) => some xs.length
      | _ => none) = some n := h
    split at h
    · rename_i xs e
      obtain ⟨vs, h2, h3⟩ := S.lst h1 e
      cases h
      exact .inl ⟨vs, SqL.of h2, h3.length⟩
    · rename_i xs e
      obtain ⟨vs, h2, h3⟩ := S.obj _ p _ h1 e
      cases h
      exact .inl ⟨vs, h2.sql, h3.length⟩
    · cases h
  | tup b =>
    rw [Rep.tup] at r; obtain ⟨_, vs, rfl, h1, h2⟩ := r
    cases h
    exact .inr ⟨vs, h1, h2.length⟩
  | gl x => cases h
  | exv x => cases h
  | lam i => cases h
theorem d_len : CallD G cLen (fun xs H Q => ∃ (x : V) (n : Nat), xs = [x] ∧ LenV G.K x H n ∧ Q (.int (n : Int)) H) := by
  intro μ H M xs vs Q d M' S r q k
  unfold cLen at q
  split at q
  · rename_i x
    obtain ⟨n, h1, h2⟩ := Option.map_eq_some_iff.mp q
    cases h2
    obtain ⟨v, rfl, r1⟩ := r.inv1
    exact ⟨v, n, rfl, lenD_ok S r1 h1, k μ _ H (.refl _) (List.prefix_refl _) S (Rep.int.mpr rfl)⟩
  · cases q
def cInt : List D → Store → Option (D × Store)
  | [.p (.int i)], M => some (.p (.int i), M)
  | [.p (.bl b)], M => some (.p (.int (if b then 1 else 0)), M)
  | _, _ => none
theorem d_int : CallD G cInt (fun xs H Q => (∃ i, xs = [.int i] ∧ Q (.int i) H) ∨ ∃ k, xs = [.bl k] ∧ Q (.int (if k then 1 else 0)) H) := by
  intro μ H M xs vs Q d M' S r q k
  unfold cInt at q
  split at q
  · cases q
    obtain ⟨v, rfl, r1⟩ := r.inv1
    rw [Rep.int] at r1
    subst r1
    exact .inl ⟨_, rfl, k μ _ H (.refl _) (List.prefix_refl _) S (Rep.int.mpr rfl)⟩
  · cases q
    obtain ⟨v, rfl, r1⟩ := r.inv1
    rw [Rep.bl] at r1
    subst r1
    exact .inr ⟨_, rfl, k μ _ H (.refl _) (List.prefix_refl _) S (Rep.int.mpr rfl)⟩
  · cases q
def cAbs : List D → Store → Option (D × Store)
  | [.p (.int i)], M => some (.p (.int (if i < 0 then -i else i)), M)
  | _, _ => none
theorem d_abs : CallD G cAbs (fun xs H Q => ∃ i, xs = [.int i] ∧ Q (.int (if i < 0 then -i else i)) H) := by
  intro μ H M xs vs Q d M' S r q k
  unfold cAbs at q
  split at q
  · cases q
    obtain ⟨v, rfl, r1⟩ := r.inv1
    rw [Rep.int] at r1
    subst r1
    exact ⟨_, rfl, k μ _ H (.refl _) (List.prefix_refl _) S (Rep.int.mpr rfl)⟩
  · cases q
def cMax2 : List D → Store → Option (D × Store)
  | [.p (.int i), .p (.int j)], M => some (.p (.int (if j > i then j else i)), M)
  | _, _ => none
def cMin2 : List D → Store → Option (D × Store)
  | [.p (.int i), .p (.int j)], M => some (.p (.int (if j < i then j else i)), M)
  | _, _ => none
theorem d_max2 : CallD G cMax2 (fun xs H Q => ∃ i j, xs = [.int i, .int j] ∧ Q (.int (if j > i then j else i)) H) := by
  intro μ H M xs vs Q d M' S r q k
  unfold cMax2 at q
  split at q
  · cases q
    obtain ⟨v, u, rfl, r1, r2⟩ := r.inv2
    rw [Rep.int] at r1 r2
    subst r1 r2
    exact ⟨_, _, rfl, k μ _ H (.refl _) (List.prefix_refl _) S (Rep.int.mpr rfl)⟩
  · cases q
theorem d_min2 : CallD G cMin2 (fun xs H Q => ∃ i j, xs = [.int i, .int j] ∧ Q (.int (if j < i then j else i)) H) := by
  intro μ H M xs vs Q d M' S r q k
  unfold cMin2 at q
  split at q
  · cases q
    obtain ⟨v, u, rfl, r1, r2⟩ := r.inv2
    rw [Rep.int] at r1 r2
    subst r1 r2
    exact ⟨_, _, rfl, k μ _ H (.refl _) (List.prefix_refl _) S (Rep.int.mpr rfl)⟩
  · cases q
/-! ### isinstance(x, T), T a built-in type -/
/-- the type of a value, by its name -/
def tyD : D → Store → Option String
  | .p .non, _ => some "NoneType"
  | .p (.bl _), _ => some "bool"
  | .p (.int _), _ => some "int"
  | .p (.str _), _ => some "str"
  | .p (.tup _), _ => some "tuple"
  | .tup _, _ => some "tuple"
  | .ref l, M => (match M[l]? with
    | some (.lst _) => some "list"
    | some (.ro _) => some "list"
    | _ => none)
  | _, _ => none
theorem tyD_ok {μ H M} {x : D} {v : V} {t : String} (S : SR G μ H M) (r : Rep G μ H x v) (h : tyD x M = some t) : TyX G.K H v (.type t) := by
  have tupc : ∀ {p : Addr} {vs : List V}, SqT G.K H p vs → TyX G.K H (.ref p) (.type "tuple") := fun {p vs} h1 => by
    rcases h1 with (h1 | ⟨o, h1⟩) | ⟨o, its, n, h1, h2, _⟩
    · exact .base (.tup h1)
    · exact .fTuple h1
    · exact .kTuple h1 h2
  cases x with
  | p x =>
    cases x with
    | non => rw [Rep.non] at r; subst r; cases h; exact .base .non
    | bl b => rw [Rep.bl] at r; subst r; cases h; exact .base (.bl b)
    | int b => rw [Rep.int] at r; subst r; cases h; exact .base (.int b)
    | str b => rw [Rep.str] at r; subst r; cases h; exact .base (.str b)
    | tup b =>
      rw [Rep.ptup] at r; obtain ⟨p, vs, rfl, h1, h2⟩ := r
      cases h
      exact tupc h1
  | ref l =>
    rw [Rep.ref] at r; obtain ⟨p, h1, rfl⟩ := r
    have h : (match M[l]? with
      | some (.lst _) => some "list"
      | some (.ro _) => some "list"
      | _ => none) = some t := h
    split at h
    · rename_i xs e
      obtain ⟨vs, h2, h3⟩ := S.lst h1 e
      cases h
      exact .base (.lst h2)
    · rename_i xs e
      obtain ⟨vs, h2, h3⟩ := S.obj _ p _ h1 e
      cases h
      rcases h2 with ⟨o, h2⟩ | ⟨o, its, n, h2, h4, _⟩
      · exact .base (.frz h2)
      · exact .kList h2 h4
    · cases h
  | tup b =>
    rw [Rep.tup] at r; obtain ⟨p, vs, rfl, h1, h2⟩ := r
    cases h
    exact tupc h1
  | gl x => cases h
  | exv x => cases h
  | lam i => cases h
/-- is a value of the type t one of T: for the built-in types that are told here -/
def isaT (t T : String) : Bool := t == T || (t == "bool" && T == "int")
theorem isaT_ok (t T : String) (ht : t = "NoneType" ∨ t = "bool" ∨ t = "int" ∨ t = "str" ∨ t = "tuple" ∨ t = "list" ∨ t = "dict") (hT : T = "int" ∨ T = "bool" ∨ T = "str" ∨ T = "tuple" ∨ T = "list" ∨ T = "dict") :
    kitB t T = some (isaT t T) := by
  rcases ht with rfl | rfl | rfl | rfl | rfl | rfl | rfl <;> rcases hT with rfl | rfl | rfl | rfl | rfl | rfl <;> decide +kernel
theorem tyD_names {x : D} {M : Store} {t : String} (h : tyD x M = some t) : t = "NoneType" ∨ t = "bool" ∨ t = "int" ∨ t = "str" ∨ t = "tuple" ∨ t = "list" ∨ t = "dict" := by
  unfold tyD at h
  split at h
  all_goals first
    | (cases h; simp; done)
    | (cases h; done)
    | (split at h <;> first | (cases h; simp; done) | (cases h; done))
def cIsa (T : String) : D → Store → Option (D × Store) := fun x M => (tyD x M).map fun t => (.p (.bl (isaT t T)), M)
/-- isinstance(e, T) -/
def rIsa (T : String) (f : RE) : RE := rUn (cIsa T) f
theorem i_isa {e : Expr} {f : RE} {T : String} {x : Str} {p p2 pos : Pos} (hT : T = "int" ∨ T = "bool" ∨ T = "str" ∨ T = "tuple" ∨ T = "list" ∨ T = "dict") (hg : Gl X "isinstance") (hm : X.mg "isinstance" = none) (hg2 : Gl X x) (hm2 : X.mg x = none) (hv2 : bootBuiltins x = some (.type T))
    (ha : PE X e (tE (gm X) W f)) (hn2 : x ≠ "__name__" := by decide) (hd2 : (x == ("__debug__" : Str)) = false := by decide)
    (hs : starEach [e, .Name x p2] X.env = (false, eval e X.env) :: starEach [.Name x p2] X.env := by rfl) (hs2 : starEach [.Name x p2] X.env = (false, eval (.Name x p2) X.env) :: starEach [] X.env := by rfl) (hpl : (backTo pos (starEach [.Name x p2] X.env)).any (·.1) = false := by rfl) :
    PE X (.Call (.Name "isinstance" p) [e, .Name x p2] [] pos) (tE (gm X) W (rIsa T f)) := by
  refine PEimp (pe_callB call_isi hg hm PyProof.Rows.boot_isinstance (pa_cons ha (pa_cons (pe_bltn (v := .ty T) hg2 hm2 hv2 rfl hn2 hd2) pa_nil hs2) hs) (by decide) (by decide) hs hpl) fun σ H Q h => ?_
  refine (tX.bind h).mono fun v H1 ⟨μ, ρ, M, x, hE, hS, rx, hF⟩ => ?_
  have hF : Fin (gm X) (Rep (gm X)) W μ σ H1 Q (ofO (cIsa T x M)) := hF
  cases q : tyD x M with
  | none =>
    unfold cIsa at hF
    rw [q] at hF
    exact hF.elim
  | some t =>
    unfold cIsa at hF
    rw [q] at hF
    exact ⟨v, .ty T, .type t, .type T, isaT t T, rfl, .ty T, tyD_ok hS rx q, kit_ty (isaT_ok t T (tyD_names q) hT), hF μ _ H1 (.refl _) (List.prefix_refl _) hS (Rep.bl.mpr rfl)⟩
/-! ### tuple(x), list(x) -/
/-- the items of a row -/
def rowD : D → Store → Option (List D)
  | .p (.tup xs), _ => some (xs.map D.p)
  | .tup xs, _ => some xs
  | .ref l, M => (match M[l]? with
    | some (.lst xs) => some xs
    | some (.ro xs) => some xs
    | _ => none)
  | _, _ => none
theorem rowD_ok {μ H M} {c : D} {u : V} {xs : List D} (S : SR G μ H M) (r : Rep G μ H c u) (h : rowD c M = some xs) : ∃ a vs, u = .ref a ∧ (SqT G.K H a vs ∨ SqL G.K H a vs) ∧ Reps G μ H xs vs := by
  unfold rowD at h
  split at h
  · cases h
    rw [Rep.ptup] at r
    obtain ⟨a, vs, rfl, h1, h2⟩ := r
    exact ⟨a, vs, rfl, .inl h1, Reps.of_P h2⟩
  · cases h
    rw [Rep.tup] at r
    obtain ⟨a, vs, rfl, h1, h2⟩ := r
    exact ⟨a, vs, rfl, .inl h1, h2⟩
  · rw [Rep.ref] at r
    obtain ⟨a, h1, rfl⟩ := r
    split at h
    · rename_i ys e
      cases h
      obtain ⟨vs, h2, h3⟩ := S.lst h1 e
      exact ⟨a, vs, rfl, .inr (SqL.of h2), h3⟩
    · rename_i ys e
      cases h
      obtain ⟨vs, h2, h3⟩ := S.obj _ a _ h1 e
      exact ⟨a, vs, rfl, .inr h2.sql, h3⟩
    · cases h
  · cases h
def cTuple : List D → Store → Option (D × Store)
  | [.p (.tup xs)], M => some (.p (.tup xs), M)
  | [.tup xs], M => some (.tup xs, M)
  | [.ref l], M => (rowD (.ref l) M).map fun xs => (mkTup xs, M)
  | _, _ => none
def cList : List D → Store → Option (D × Store)
  | [x], M => (rowD x M).map fun xs => (.ref M.length, M ++ [.lst xs])
  | _, _ => none
abbrev rTupleU (K : PySem.W.Frag) : List V → Hp → VK → Prop := fun xs H Q => (∃ a ys, xs = [.ref a] ∧ SqT K H a ys ∧ Q (.ref a) H) ∨ (∃ p ys, xs = [.ref p] ∧ (SqL K H p ys ∧ ∀ l, H l = none → Q (.ref l) (upd H l (.tup ys))))
theorem o_tuple : CallR X (.type "tuple") (rTupleU X.K) := by
  intro pins s σ H xs us Q I r h
  rcases h with h | ⟨p, ys, e, h1, h2⟩
  · exact call_tupleT pins s σ H xs us Q I r h
  · exact call_tuple_of pins s σ H xs us Q I r ⟨p, ys, e, .inl ⟨h1, h2⟩⟩
theorem d_tuple : CallD G cTuple (rTupleU G.K) := by
  intro μ H M xs vs Q d M' S r q k
  unfold cTuple at q
  split at q
  · cases q
    obtain ⟨v, rfl, r1⟩ := r.inv1
    obtain ⟨a, ws, e, h1, h2⟩ := Rep.ptup.mp r1
    subst e
    exact .inl ⟨a, ws, rfl, h1, k μ _ H (.refl _) (List.prefix_refl _) S r1⟩
  · cases q
    obtain ⟨v, rfl, r1⟩ := r.inv1
    obtain ⟨a, ws, e, h1, h2⟩ := Rep.tup.mp r1
    subst e
    exact .inl ⟨a, ws, rfl, h1, k μ _ H (.refl _) (List.prefix_refl _) S r1⟩
  · rename_i l
    obtain ⟨ys, h1, h2⟩ := Option.map_eq_some_iff.mp q
    cases h2
    obtain ⟨v, rfl, r1⟩ := r.inv1
    obtain ⟨a, ha, e⟩ := Rep.ref.mp r1
    subst e
    have h : ∃ ws, SqL G.K H a ws ∧ Reps G μ H ys ws := by
      have h1 : (match M[l]? with
        | some (.lst xs) => some xs
        | some (.ro xs) => some xs
        | _ => none) = some ys := h1
      split at h1
      · rename_i zs e
        cases h1
        obtain ⟨ws, h2, h3⟩ := S.lst ha e
        exact ⟨ws, SqL.of h2, h3⟩
      · rename_i zs e
        cases h1
        obtain ⟨ws, h2, h3⟩ := S.obj _ a _ ha e
        exact ⟨ws, h2.sql, h3⟩
      · cases h1
    obtain ⟨ws, h2, h3⟩ := h
    exact .inr ⟨a, ws, rfl, h2, fun p hp => k μ _ _ (.new hp) (List.prefix_refl _) (S.grow hp) (mkTup_ok (SqT.of upd_same) (h3.ext (.new hp) (List.prefix_refl _)))⟩
  · cases q
theorem d_list : CallD G cList (fun xs H Q => ∃ p ys, xs = [.ref p] ∧ (SqL G.K H p ys ∨ SqT G.K H p ys) ∧ ∀ l, H l = none → Q (.ref l) (upd H l (.lst ys))) := by
  intro μ H M xs vs Q d M' S r q k
  unfold cList at q
  split at q
  · obtain ⟨ys, h1, h2⟩ := Option.map_eq_some_iff.mp q
    cases h2
    obtain ⟨v, rfl, r1⟩ := r.inv1
    obtain ⟨a, ws, rfl, h2, h3⟩ := rowD_ok S r1 h1
    exact ⟨a, ws, rfl, h2.symm, fun p hp => k (μ ++ [p]) _ _ (.new hp) (List.prefix_append _ _) (new_lst S hp h3) (new_ref S p)⟩
  · cases q
/-! ### items -/
def dIx : D → D → Store → Option (D × Store)
  | .p (.str z), .p (.int i), M => if z.length ≤ sizeLine then (atI z.cps.toList i).map fun c => (.p (.str ⟨#[c]⟩), M) else none
  | c, .p (.int i), M => (match rowD c M with
    | some xs => (atI xs i).map fun x => (x, M)
    | none => none)
  | _, _, _ => none
theorem Reps.atI {μ : List Addr} {H : Hp} {xs : List D} {vs : List V} (h : Reps G μ H xs vs) {i : Int} {x : D} (e : L2.atI xs i = some x) : ∃ v, L2.atI vs i = some v ∧ Rep G μ H x v := by
  unfold L2.atI at e ⊢
  rw [← h.length]
  cases q : ixN xs.length i with
  | none => rw [q] at e; cases e
  | some j =>
    rw [q] at e
    exact h.get (show xs[j]? = some x from e)
theorem d_ix : OpD G dIx (rIx G.K) := by
  intro μ H M x y v u Q d M' S rx ry q k
  unfold dIx at q
  split at q
  · split at q
    · rename_i hz
      obtain ⟨c, h1, h2⟩ := Option.map_eq_some_iff.mp q
      cases h2
      rw [Rep.str] at rx
      rw [Rep.int] at ry
      exact .inr (.inr ⟨_, _, c, rx, ry, hz, h1, k μ _ H (.refl _) (List.prefix_refl _) S (Rep.str.mpr rfl)⟩)
    · cases q
  · split at q
    · rename_i xs h0
      obtain ⟨c, h1, h2⟩ := Option.map_eq_some_iff.mp q
      cases h2
      rw [Rep.int] at ry
      obtain ⟨a, vs, rfl, h3, h4⟩ := rowD_ok S rx h0
      obtain ⟨w, h5, h6⟩ := h4.atI h1
      have fin := k μ _ H (.refl _) (List.prefix_refl _) S h6
      rcases h3 with h3 | h3
      · exact .inr (.inl ⟨a, vs, _, w, rfl, ry, h3, h5, fin⟩)
      · exact .inl ⟨a, vs, _, w, rfl, ry, h3, h5, fin⟩
    · cases q
  · cases q
end
end Fl

set_option Elab.async false
set_option linter.all false
set_option maxRecDepth 100000
/-! Fl, part G: slices, methods of lists, calls of defs. -/
namespace Fl
open PySem PySem.Spec L2
set_option autoImplicit false
/-! ### slices -/
def cutL {α : Type} (xs : List α) (lo hi : Option Int) : List α := (xs.drop (HT.sIx xs.length 0 lo)).take (HT.sIx xs.length xs.length hi - HT.sIx xs.length 0 lo)
def rNoPart : RX (Option Int) := fun _ M => .ok none M
def asPart : D → Store → Option (Option Int × Store)
  | .p (.int i), M => some (some i, M)
  | _, _ => none
def rPart (f : RE) : RX (Option Int) := fun ρ M => (f ρ M).bind fun x M1 => ofO (asPart x M1)
abbrev tPt (G : Gm) (W : WX) (f : RX (Option Int)) : St → Hp → (Option Int → Hp → Prop) → Prop := tX G (fun _ _ (a b : Option Int) => a = b) W f
def dSl (x : D) (lo hi : Option Int) (M : Store) : Option (D × Store) := match x with
  | .p (.str z) => if z.length ≤ sizeLine then some (.p (.str (cutS z lo hi)), M) else none
  | .p (.tup xs) => some (.p (.tup (cutL xs lo hi)), M)
  | .tup xs => some (mkTup (cutL xs lo hi), M)
  | .ref l => (match M[l]? with
    | some (.lst xs) => some (.ref M.length, M ++ [.lst (cutL xs lo hi)])
    | some (.ro xs) => some (.ref M.length, M ++ [.lst (cutL xs lo hi)])
    | _ => none)
  | _ => none
def rSl (f : RE) (lo hi : RX (Option Int)) : RE := fun ρ M => (f ρ M).bind fun x M1 => (lo ρ M1).bind fun a M2 => (hi ρ M2).bind fun b M3 => ofO (dSl x a b M3)
abbrev rSlU (K : PySem.W.Frag) : V → Option Int → Option Int → Hp → VK → Prop := fun x lo hi H Q => rSlS x lo hi H Q ∨ rSlA K x lo hi H Q ∨ rSlL K x lo hi H Q
def dRev : D → Store → Option (D × Store)
  | .ref l, M => (match M[l]? with
    | some (.lst xs) => some (.ref M.length, M ++ [.lst xs.reverse])
    | _ => none)
  | _, _ => none
def rRev (f : RE) : RE := rUn dRev f
section
variable {X : Cx} {G : Gm} {W : WX} {e : Expr} {fe fa : RE}
theorem o_sl : SlR X (rSlU X.K) := sl_str.or (sl_tupA.or sl_list)
theorem Reps.cut {μ H} {xs : List D} {vs : List V} (h : Reps G μ H xs vs) (lo hi : Option Int) : Reps G μ H (cutL xs lo hi) (cutV vs lo hi) := by
  unfold cutL cutV
  rw [h.length]
  exact (h.drop _).take _
theorem cutL_map {α β : Type} (f : α → β) (xs : List α) (lo hi : Option Int) : cutL (xs.map f) lo hi = (cutL xs lo hi).map f := by
  unfold cutL
  rw [List.length_map, List.map_take, List.map_drop]
theorem cutV_whole {xs : List V} {lo hi : Option Int} (h : HT.sIx xs.length 0 lo = 0 ∧ HT.sIx xs.length xs.length hi = xs.length) : cutV xs lo hi = xs := by
  unfold cutV
  rw [h.1, h.2]
  simp
theorem d_sl {μ H M} {x : D} {v : V} {lo hi : Option Int} {Q : VK} {d : D} {M' : Store} (S : SR G μ H M) (r : Rep G μ H x v) (q : dSl x lo hi M = some (d, M'))
    (k : ∀ μ' w H', Ext H H' → μ <+: μ' → SR G μ' H' M' → Rep G μ' H' d w → Q w H') : rSlU G.K v lo hi H Q := by
  unfold dSl at q
  split at q
  · split at q
    · rename_i hz
      cases q
      rw [Rep.str] at r
      exact .inl ⟨_, r, hz, k μ _ H (.refl _) (List.prefix_refl _) S (Rep.str.mpr rfl)⟩
    · cases q
  · rename_i xs
    cases q
    obtain ⟨a, vs, rfl, h1, h2⟩ := Rep.ptup.mp r
    have h3 : RepPs G.K H (cutL xs lo hi) (cutV vs lo hi) := by
      have h4 := (Reps.of_P (G := G) (μ := μ) h2).cut lo hi
      rw [cutL_map] at h4
      exact h4.to_P
    refine .inr (.inl ⟨a, vs, rfl, h1, fun hw => ?_, fun hw p hp => ?_⟩)
    · rw [cutV_whole hw] at h3
      exact k μ _ H (.refl _) (List.prefix_refl _) S (Rep.ptup.mpr ⟨a, vs, rfl, h1, h3⟩)
    · exact k μ _ _ (.new hp) (List.prefix_refl _) (S.grow hp) (new_ptup (M := M) hp h3)
  · rename_i xs
    cases q
    obtain ⟨a, vs, rfl, h1, h2⟩ := Rep.tup.mp r
    have h3 := h2.cut lo hi
    refine .inr (.inl ⟨a, vs, rfl, h1, fun hw => ?_, fun hw p hp => ?_⟩)
    · rw [cutV_whole hw] at h3
      exact k μ _ H (.refl _) (List.prefix_refl _) S (mkTup_ok h1 h3)
    · exact k μ _ _ (.new hp) (List.prefix_refl _) (S.grow hp) (mkTup_ok (SqT.of upd_same) (h3.ext (.new hp) (List.prefix_refl _)))
  · rename_i l
    obtain ⟨a, h1, rfl⟩ := Rep.ref.mp r
    split at q
    · rename_i xs e
      cases q
      obtain ⟨vs, h2, h3⟩ := S.lst h1 e
      exact .inr (.inr ⟨a, vs, rfl, SqL.of h2, fun p hp => k (μ ++ [p]) _ _ (.new hp) (List.prefix_append _ _) (new_lst S hp (h3.cut lo hi)) (new_ref S p)⟩)
    · rename_i xs e
      cases q
      obtain ⟨vs, h2, h3⟩ := S.obj _ a _ h1 e
      exact .inr (.inr ⟨a, vs, rfl, h2.sql, fun p hp => k (μ ++ [p]) _ _ (.new hp) (List.prefix_append _ _) (new_lst S hp (h3.cut lo hi)) (new_ref S p)⟩)
    · cases q
  · cases q
theorem i_nopart : PO X none (tPt (gm X) W rNoPart) := ⟨fun pins s σ H Q I h => po_none.run pins s σ H Q I (by
  obtain ⟨μ, ρ, M, hE, hS, hF⟩ := h
  exact hF μ none H (.refl _) (List.prefix_refl _) hS rfl)⟩
theorem i_part (ha : PE X e (tE (gm X) W fa)) : PO X (some e) (tPt (gm X) W (rPart fa)) := ⟨fun pins s σ H Q I h => (po_some ha).run pins s σ H Q I (by
  refine (tX.bind h).mono fun v H1 ⟨μ, ρ, M, x, hE, hS, rx, hF⟩ => ?_
  have hF : Fin (gm X) (fun _ _ (a b : Option Int) => a = b) W μ σ H1 Q (ofO (asPart x M)) := hF
  cases q : asPart x M with
  | none => rw [q] at hF; exact hF.elim
  | some p =>
    obtain ⟨o, M'⟩ := p
    rw [q] at hF
    unfold asPart at q
    split at q
    · rename_i i
      cases q
      rw [Rep.int] at rx
      exact ⟨i, rx, hF μ (some i) H1 (.refl _) (List.prefix_refl _) hS rfl⟩
    · cases q)⟩
theorem i_slice {lo hi : Option Expr} {fl fh : RX (Option Int)} {p2 pos : Pos} (he : PE X e (tE (gm X) W fe)) (hl : PO X lo (tPt (gm X) W fl)) (hu : PO X hi (tPt (gm X) W fh)) : PE X (.Subscript e (.Slice lo hi none p2) pos) (tE (gm X) W (rSl fe fl fh)) :=
  PEimp (pe_slice o_sl he hl hu) fun σ H Q h => by
    refine (tX.bind h).mono fun v H1 g1 => ?_
    refine (Go.bind (rel2 := fun _ _ (a b : Option Int) => a = b) Rep.mono g1).mono fun a H2 g2 => ?_
    obtain ⟨μ, ρ, M, x, a', hE, hS, rx, ea, hF⟩ := g2
    subst ea
    have g3 : Go (gm X) (Rep (gm X)) (Rep (gm X)) W (fun x ρ M2 => (fh ρ M2).bind fun b M3 => ofO (dSl x a' b M3)) σ Q v H2 := ⟨μ, ρ, M, x, hE, hS, rx, hF⟩
    refine (Go.bind (rel2 := fun _ _ (a b : Option Int) => a = b) Rep.mono g3).mono fun b H3 g4 => ?_
    obtain ⟨μ4, ρ4, M4, x4, b', hE4, hS4, rx4, eb, hF4⟩ := g4
    subst eb
    have hF4 : Fin (gm X) (Rep (gm X)) W μ4 σ H3 Q (ofO (dSl x4 a' b' M4)) := hF4
    cases q : dSl x4 a' b' M4 with
    | none => rw [q] at hF4; exact hF4.elim
    | some p =>
      obtain ⟨d, M'⟩ := p
      rw [q] at hF4
      exact d_sl hS4 rx4 q hF4
/-- xs[::-1] -/
theorem i_rev {k : Nat} {p1 p2 p3 pos : Pos} (he : PE X e (tE (gm X) W fe)) : PE X (.Subscript e (.Slice none none (some (.UnaryOp .USub (.Constant (.int 1) k p1) p2)) p3) pos) (tE (gm X) W (rRev fe)) :=
  PEimp (pe_revL he) fun σ H Q h => by
    refine (tX.bind h).mono fun v H1 ⟨μ, ρ, M, x, hE, hS, rx, hF⟩ => ?_
    have hF : Fin (gm X) (Rep (gm X)) W μ σ H1 Q (ofO (dRev x M)) := hF
    cases q : dRev x M with
    | none => rw [q] at hF; exact hF.elim
    | some p =>
      obtain ⟨o, M'⟩ := p
      rw [q] at hF
      unfold dRev at q
      split at q
      · rename_i l
        split at q
        · rename_i xs e
          cases q
          obtain ⟨a, h1, rfl⟩ := Rep.ref.mp rx
          obtain ⟨vs, h2, h3⟩ := hS.lst h1 e
          exact ⟨a, vs, rfl, SqL.of h2, fun p hp => hF (μ ++ [p]) _ _ (.new hp) (List.prefix_append _ _) (new_lst hS hp h3.rev) (new_ref hS p)⟩
        · cases q
      · cases q
end
/-! ### methods of lists -/
def isLst : D → Store → Bool
  | .ref l, M => (match M[l]? with
    | some (.lst _) => true
    | _ => false)
  | _, _ => false
def MtD (G : Gm) (op : D → List D → Store → Option (D × Store)) (r : V → List V → Hp → VK → Prop) : Prop :=
  ∀ (μ : List Addr) (H : Hp) (M : Store) (x : D) (xs : List D) (v : V) (vs : List V) (Q : VK) (d : D) (M' : Store), SR G μ H M → Rep G μ H x v → Reps G μ H xs vs → op x xs M = some (d, M') →
    (∀ μ' w H', Ext H H' → μ <+: μ' → SR G μ' H' M' → Rep G μ' H' d w → Q w H') → r v vs H Q
def rLM (op : D → List D → Store → Option (D × Store)) (fo : RE) (fs : RA) : RE := fun ρ M => (fo ρ M).bind fun x M1 => match isLst x M1 with
  | true => (fs ρ M1).bind fun xs M2 => ofO (op x xs M2)
  | false => .no
def rLM0 (op : D → List D → Store → Option (D × Store)) (fo : RE) : RE := fun ρ M => (fo ρ M).bind fun x M1 => match isLst x M1 with
  | true => ofO (op x [] M1)
  | false => .no
section
variable {X : Cx} {G : Gm} {W : WX} {o e : Expr} {es : List Expr} {fo : RE} {fs : RA} {name : Str} {apos cpos : Pos} {id : String} {r : V → List V → Hp → VK → Prop} {op : D → List D → Store → Option (D × Store)}
theorem isLst_ok {μ H M} {x : D} {v : V} (S : SR G μ H M) (r : Rep G μ H x v) (h : isLst x M = true) : tyV G.K "list" v H := by
  unfold isLst at h
  split at h
  · rename_i l
    split at h
    · rename_i xs e
      obtain ⟨a, h1, rfl⟩ := Rep.ref.mp r
      obtain ⟨vs, h2, h3⟩ := S.lst h1 e
      exact .inl ⟨rfl, vs, SqL.of h2⟩
    · cases h
  · cases h
theorem i_lm (slot : Slot "list" name id) (hty : typeOf (.builtin id) = pure (.type "method_descriptor")) (hm : MtR X id r) (hd : MtD (gm X) op r) (ho : PE X o (tE (gm X) W fo)) (ha : PA X (e :: es) (tA (gm X) W fs))
    (hbase : attributeBase o name X.env (eval o X.env) = eval o X.env := by rfl)
    (hfew : ((backTo cpos (starEach (e :: es) X.env)).all (fun x => !x.1) && (backToKw cpos (keywordEach [] X.env)).all (fun x => x.1.isSome)
      && decide ((e :: es).length + ([] : List Keyword).length + (if ([] : List Keyword).isEmpty then 0 else 1) < 30)) = true := by rfl)
    (hline : (apos.endLine == cpos.line) = true := by rfl) (hs : starEach (e :: es) X.env = (false, eval e X.env) :: starEach es X.env := by rfl) (hplain : (backTo cpos (starEach es X.env)).any (·.1) = false := by rfl) :
    PE X (.Call (.Attribute o name apos) (e :: es) [] cpos) (tE (gm X) W (rLM op fo fs)) :=
  PEimp (pe_bm PySem.F.plainAttrs_list slot hty hm ho ha hbase hfew hline hs hplain) fun σ H Q h => by
    refine (tX.bind h).mono fun v H1 ⟨μ, ρ, M, x, hE, hS, rx, hF⟩ => ?_
    have hF : Fin (gm X) (Rep (gm X)) W μ σ H1 Q (match isLst x M with
      | true => (fs ρ M).bind fun xs M2 => ofO (op x xs M2)
      | false => .no) := hF
    cases q : isLst x M with
    | false => rw [q] at hF; exact hF.elim
    | true =>
      rw [q] at hF
      refine ⟨isLst_ok hS rx q, ?_⟩
      have g1 : Go (gm X) (Rep (gm X)) (Rep (gm X)) W (fun x ρ M => (fs ρ M).bind fun xs M2 => ofO (op x xs M2)) σ Q v H1 := ⟨μ, ρ, M, x, hE, hS, rx, hF⟩
      refine (Go.bind Rep.mono g1).mono fun vs H2 ⟨μ2, ρ2, M2, x2, xs, hE2, hS2, rx2, rxs, hF2⟩ => ?_
      have hF2 : Fin (gm X) (Rep (gm X)) W μ2 σ H2 Q (ofO (op x2 xs M2)) := hF2
      cases q2 : op x2 xs M2 with
      | none => rw [q2] at hF2; exact hF2.elim
      | some p =>
        obtain ⟨d, M'⟩ := p
        rw [q2] at hF2
        exact hd μ2 H2 M2 x2 xs v vs Q d M' hS2 rx2 rxs q2 hF2
theorem i_lm0 (slot : Slot "list" name id) (hty : typeOf (.builtin id) = pure (.type "method_descriptor")) (hm : MtR X id r) (hd : MtD (gm X) op r) (ho : PE X o (tE (gm X) W fo))
    (hbase : attributeBase o name X.env (eval o X.env) = eval o X.env := by rfl) (hline : (apos.endLine == cpos.line) = true := by rfl) :
    PE X (.Call (.Attribute o name apos) [] [] cpos) (tE (gm X) W (rLM0 op fo)) :=
  PEimp (pe_bm0 PySem.F.plainAttrs_list slot hty hm ho hbase hline) fun σ H Q h => by
    refine (tX.bind h).mono fun v H1 ⟨μ, ρ, M, x, hE, hS, rx, hF⟩ => ?_
    have hF : Fin (gm X) (Rep (gm X)) W μ σ H1 Q (match isLst x M with
      | true => ofO (op x [] M)
      | false => .no) := hF
    cases q : isLst x M with
    | false => rw [q] at hF; exact hF.elim
    | true =>
      rw [q] at hF
      refine ⟨isLst_ok hS rx q, ?_⟩
      have hF2 : Fin (gm X) (Rep (gm X)) W μ σ H1 Q (ofO (op x [] M)) := hF
      cases q2 : op x [] M with
      | none => rw [q2] at hF2; exact hF2.elim
      | some p =>
        obtain ⟨d, M'⟩ := p
        rw [q2] at hF2
        exact hd μ H1 M x [] v [] Q d M' hS rx .nil q2 hF2
def mAppend : D → List D → Store → Option (D × Store)
  | .ref l, [y], M => (match M[l]? with
    | some (.lst xs) => if xs.length < sizeLine then some (.p .non, M.set l (.lst (xs ++ [y]))) else none
    | _ => none)
  | _, _, _ => none
theorem d_append : MtD G mAppend rAppend := by
  intro μ H M x xs v vs Q d M' S rx rxs q k
  unfold mAppend at q
  split at q
  · rename_i l y
    split at q
    · rename_i ys e
      split at q
      · rename_i hl
        cases q
        obtain ⟨a, h1, rfl⟩ := Rep.ref.mp rx
        obtain ⟨ws, h2, h3⟩ := S.lst h1 e
        obtain ⟨w, rfl, h4⟩ := rxs.inv1
        refine ⟨a, ws, w, rfl, rfl, h2, by rw [← h3.length]; exact hl, ?_⟩
        have ex := Ext.lst (o := .lst (ws ++ [w])) h2
        exact k μ _ _ ex (List.prefix_refl _) (S.put h1 e rfl rfl (fun ob w z => by rw [h2] at z; cases z) ex ⟨_, upd_same, (h3.app (.cons h4 .nil)).ext ex (List.prefix_refl _)⟩) (Rep.non.mpr rfl)
      · cases q
    · cases q
  · cases q
def mPop : D → List D → Store → Option (D × Store)
  | .ref l, [], M => (match M[l]? with
    | some (.lst xs) => (match xs[xs.length - 1]? with
      | some y => some (y, M.set l (.lst xs.dropLast))
      | none => none)
    | _ => none)
  | _, _, _ => none
theorem d_pop : MtD G mPop rPop := by
  intro μ H M x xs v vs Q d M' S rx rxs q k
  unfold mPop at q
  split at q
  · rename_i l
    split at q
    · rename_i ys e
      split at q
      · rename_i y hy
        cases q
        obtain ⟨a, h1, rfl⟩ := Rep.ref.mp rx
        obtain ⟨ws, h2, h3⟩ := S.lst h1 e
        obtain ⟨w, h4, h5⟩ := h3.get hy
        have e0 := rxs.inv0
        subst e0
        refine ⟨a, ws, w, rfl, rfl, h2, by rw [← h3.length]; exact h4, ?_⟩
        have ex := Ext.lst (o := .lst ws.dropLast) h2
        exact k μ _ _ ex (List.prefix_refl _) (S.put h1 e rfl rfl (fun ob w z => by rw [h2] at z; cases z) ex ⟨_, upd_same, h3.dropLast.ext ex (List.prefix_refl _)⟩) (h5.ext ex (List.prefix_refl _))
      · cases q
    · cases q
  · cases q
end
/-! ### calls of defs -/
def FinC (G : Gm) (E : XK) (μ : List Addr) (H : Hp) (Q : VK) (r : R D) : Prop := Fin G (Rep G) (fun c d _ H => E c d H) μ [] H Q r
/-- the promise: F tells what comes -/
def spD (G : Gm) (F : List D → Store → R D) (n : Nat) : Sp := fun vs H Q E => ∃ μ ds M, vs.length = n ∧ Reps G μ H ds vs ∧ SR G μ H M ∧ FinC G E μ H Q (F ds M)
/-- a def that keeps it stands under the name x -/
structure Df (P : Program) (w : World) (K : PySem.W.Frag) (mg : Str → Option Value) (base : Heap) (x : Str) (ps : List Str) (F : List D → Store → R D) (k : Nat) : Prop where
  is_ : ∃ f fd, mg x = some (.ref f) ∧ PySem.W.keepIn K (.ref f) = true ∧ Binds K fd ps [] ∧ FnOk P w K mg base (L2N.CX P w) k f fd ps (spD ⟨K, mg⟩ F ps.length)
section
variable {X : Cx} {W : WX} {x : Str} {ps : List Str} {F : List D → Store → R D} {k j : Nat} {e : Expr} {es : List Expr} {fs : RA} {p pos : Pos}
theorem Df.mono (D : Df X.prog X.w X.K X.mg X.base x ps F k) (h : k ≤ j) : Df X.prog X.w X.K X.mg X.base x ps F j := by
  obtain ⟨f, fd, h1, h2, h3, h4⟩ := D.is_
  exact ⟨f, fd, h1, h2, h3, h4.mono h⟩
theorem Reps.len_eq {G : Gm} {μ : List Addr} {H : Hp} {ds : List D} {vs : List V} (r : Reps G μ H ds vs) : vs.length = ds.length := r.length.symm
theorem FinC_of {σ : St} {μ : List Addr} {H : Hp} {Q : VK} {r : R D} (h : Fin (gm X) (Rep (gm X)) W μ σ H Q r) : FinC (gm X) (WE W σ) μ H Q r := by
  cases r with
  | ok d M' => exact h
  | ex c gs M' => exact h
  | no => exact h
/-- the arguments are as many as the parameters -/
def rCallN (n : Nat) (F : List D → Store → R D) (fs : RA) : RE := fun ρ M => (fs ρ M).bind fun ds M1 => if ds.length = n then F ds M1 else .no
theorem call_in {n : Nat} {σ : St} {H : Hp} {Q : VK} (h : tE (gm X) W (rCallN n F fs) σ H Q) : tA (gm X) W fs σ H fun vs H1 => spD (gm X) F n vs H1 Q (WE W σ) := by
  refine (tX.bind (g := fun ds _ M => if ds.length = n then F ds M else .no) h).mono fun vs H1 ⟨μ, ρ, M, ds, hE, hS, rx, hF⟩ => ?_
  have hF : Fin (gm X) (Rep (gm X)) W μ σ H1 Q (if ds.length = n then F ds M else .no) := hF
  split at hF
  · rename_i hn
    exact ⟨μ, ds, M, by rw [rx.len_eq]; exact hn, rx, hS, FinC_of hF⟩
  · exact hF.elim
/-- f(e, ..) -/
theorem i_call (D : Df X.prog X.w X.K X.mg X.base x ps F k) (hr : Room k X.A) (hg : Gl X x) (tk : L2N.Takes X W) (ha : PA X (e :: es) (tA (gm X) W fs)) (hdb : (x == ("__debug__" : Str)) = false := by decide)
    (he : starEach (e :: es) X.env = (false, eval e X.env) :: starEach es X.env := by rfl) (hpl : (backTo pos (starEach es X.env)).any (·.1) = false := by rfl) : PE X (.Call (.Name x p) (e :: es) [] pos) (tE (gm X) W (rCallN ps.length F fs)) := by
  obtain ⟨f, fd, h1, h2, h3, h4⟩ := D.is_
  refine PEimp (pe_callSD (E := WE W) (dvs := []) h4 hr hg h1 h2 h3 .nil (fun σ => L2N.passAt tk σ) ha hdb he hpl) fun σ H Q h => ?_
  refine (call_in h).mono fun vs H1 q => ?_
  rw [List.append_nil]
  exact q
/-- f() -/
theorem i_call0 (D : Df X.prog X.w X.K X.mg X.base x [] F k) (hr : Room k X.A) (hg : Gl X x) (tk : L2N.Takes X W) (hdb : (x == ("__debug__" : Str)) = false := by decide) : PE X (.Call (.Name x p) [] [] pos) (tE (gm X) W (rCallN 0 F rNil)) := by
  obtain ⟨f, fd, h1, h2, h3, h4⟩ := D.is_
  refine ⟨fun pins s σ H Q I h => ?_⟩
  obtain ⟨μ, ρ, M, hE, hS, hF⟩ := h
  have hF : Fin (gm X) (Rep (gm X)) W μ σ H Q (F [] M) := hF
  refine wpAny_Call_Name_kw (ld_glob I hg h1 ?_ hdb)
  exact PySem.W.callWith_K0 I.kIn h2 (run_fnSD (us := []) (dvs := []) (E := WE W) h4 hr h3 .nil (L2N.passAt tk σ) I .nil ⟨μ, [], M, rfl, .nil, hS, FinC_of hF⟩)
end
end Fl

set_option Elab.async false
set_option linter.all false
set_option maxRecDepth 100000
/-! Fl, part H: statements. -/
namespace Fl
open PySem PySem.Spec L2
set_option autoImplicit false
theorem PSimp {X : Cx} {e : Stmt} {t t' : TS} (h : PS X e t) (w : ∀ D σ H, t' D σ H → t D σ H) : PS X e t' := ⟨fun pins s σ H D I q => h.run pins s σ H D I (w D σ H q)⟩
theorem PSsimp {X : Cx} {e : List Stmt} {t t' : TS} (h : PSs X e t) (w : ∀ D σ H, t' D σ H → t D σ H) : PSs X e t' := ⟨fun pins s σ H D I q => h.run pins s σ H D I (w D σ H q)⟩
theorem PGimp {X : Cx} {e : Expr} {t t' : TG} (h : PG X e t) (w : ∀ v σ H Q, t' v σ H Q → t v σ H Q) : PG X e t' := ⟨fun pins s σ H v u Q I r q => h.run pins s σ H v u Q I r (w v σ H Q q)⟩
theorem PGsimp {X : Cx} {e : List Expr} {t t' : TGs} (h : PGs X e t) (w : ∀ v σ H Q, t' v σ H Q → t v σ H Q) : PGs X e t' := ⟨fun pins s σ H v u Q I r q => h.run pins s σ H v u Q I r (w v σ H Q q)⟩
theorem PIimp {X : Cx} {tg e : Expr} {t t' : TI} (h : PI X tg e t) (w : ∀ σ H Q, t' σ H Q → t σ H Q) : PI X tg e t' := ⟨fun pins s σ H Q I q => h.run pins s σ H Q I (w σ H Q q)⟩

def FinS (G : Gm) (W : WX) (D : Ends) (μ : List Addr) (H : Hp) : Out → Prop
  | .nx ρ M => ∀ μ' σ' H', Ext H H' → μ <+: μ' → ER G μ' H' ρ σ' → SR G μ' H' M → D.nx σ' H'
  | .rt d M => ∀ μ' v H', Ext H H' → μ <+: μ' → SR G μ' H' M → Rep G μ' H' d v → D.rt v H'
  | .bk ρ M => ∀ μ' σ' H', Ext H H' → μ <+: μ' → ER G μ' H' ρ σ' → SR G μ' H' M → D.bk σ' H'
  | .ct ρ M => ∀ μ' σ' H', Ext H H' → μ <+: μ' → ER G μ' H' ρ σ' → SR G μ' H' M → D.ct σ' H'
  | .ex c fs ρ M => ∀ μ' σ' H' dx, Ext H H' → μ <+: μ' → ER G μ' H' ρ σ' → SR G μ' H' M → XR G μ' H' fs dx → W (cval G c) dx σ' H'
  | .no => False
def tS (G : Gm) (W : WX) (m : RS) : TS := fun D σ H => ∃ μ ρ M, ER G μ H ρ σ ∧ SR G μ H M ∧ FinS G W D μ H (m ρ M)
section
variable {G : Gm} {W : WX} {D : Ends} {μ μ1 : List Addr} {H H1 : Hp}
theorem FinS.later {r : Out} (e : Ext H H1) (p : μ <+: μ1) (h : FinS G W D μ H r) : FinS G W D μ1 H1 r := by
  cases r with
  | nx ρ M => exact fun μ' σ' H' e' p' => h μ' σ' H' (e.trans e') (p.trans p')
  | rt d M => exact fun μ' v H' e' p' => h μ' v H' (e.trans e') (p.trans p')
  | bk ρ M => exact fun μ' σ' H' e' p' => h μ' σ' H' (e.trans e') (p.trans p')
  | ct ρ M => exact fun μ' σ' H' e' p' => h μ' σ' H' (e.trans e') (p.trans p')
  | ex c fs ρ M => exact fun μ' σ' H' dx e' p' => h μ' σ' H' dx (e.trans e') (p.trans p')
  | no => exact h
/-- an expression, then the rest -/
theorem tX.out {α ι : Type} {rel : List Addr → Hp → α → ι → Prop} {f : RX α} {g : α → Env → Store → Out} {σ : St} (h : tS G W (fun ρ M => (f ρ M).out ρ fun a M1 => g a ρ M1) D σ H) :
    tX G rel W f σ H fun v H1 => ∃ μ ρ M a, ER G μ H1 ρ σ ∧ SR G μ H1 M ∧ rel μ H1 a v ∧ FinS G W D μ H1 (g a ρ M) := by
  obtain ⟨μ, ρ, M, hE, hS, hF⟩ := h
  have hF : FinS G W D μ H ((f ρ M).out ρ fun a M1 => g a ρ M1) := hF
  refine ⟨μ, ρ, M, hE, hS, ?_⟩
  cases q : f ρ M with
  | ok a M1 =>
    rw [q] at hF
    intro μ' v H' e p s r
    exact ⟨μ', ρ, M1, a, hE.ext e p, s, r, FinS.later e p hF⟩
  | ex c fs M1 =>
    rw [q] at hF
    exact fun μ' H' dx e p s x => hF μ' σ H' dx e p (hE.ext e p) s x
  | no =>
    rw [q] at hF
    exact hF
end
/-! ### blocks, small statements -/
def rSkip : RS := fun ρ M => .nx ρ M
def rSeq (a b : RS) : RS := fun ρ M => (a ρ M).bind b
def rExpr (f : RE) : RS := fun ρ M => (f ρ M).out ρ fun _ M1 => .nx ρ M1
def rRet (f : RE) : RS := fun ρ M => (f ρ M).out ρ fun d M1 => .rt d M1
def rRetN : RS := fun _ M => .rt (.p .non) M
def rBreak : RS := fun ρ M => .bk ρ M
def rCont : RS := fun ρ M => .ct ρ M
def rIfS (t : RT) (a b : RS) : RS := fun ρ M => (t ρ M).out ρ fun k M1 => match k with
  | true => a ρ M1
  | false => b ρ M1
section
variable {X : Cx} {W : WX} {e c : Expr} {st : Stmt} {rest sa sb : List Stmt} {a b : RS} {fe : RE} {tc : RT} {pos : Pos}
theorem s_nil : PSs X [] (tS (gm X) W rSkip) := PSsimp pss_nil fun D σ H h => by
  obtain ⟨μ, ρ, M, hE, hS, hF⟩ := h
  exact hF μ σ H (.refl _) (List.prefix_refl _) hE hS
theorem tS_seq {D : Ends} {σ : St} {H : Hp} (h : tS (gm X) W (rSeq a b) D σ H) : tSeq (tS (gm X) W a) (tS (gm X) W b) D σ H := by
  obtain ⟨μ, ρ, M, hE, hS, hF⟩ := h
  have hF : FinS (gm X) W D μ H ((a ρ M).bind b) := hF
  refine ⟨μ, ρ, M, hE, hS, ?_⟩
  cases q : a ρ M with
  | nx ρ' M' =>
    rw [q] at hF
    intro μ' σ' H' e p hE' hS'
    exact ⟨μ', ρ', M', hE', hS', FinS.later e p hF⟩
  | rt d M' => rw [q] at hF; exact hF
  | bk ρ' M' => rw [q] at hF; exact hF
  | ct ρ' M' => rw [q] at hF; exact hF
  | ex c fs ρ' M' => rw [q] at hF; exact hF
  | no => rw [q] at hF; exact hF
theorem s_cons (h1 : PS X st (tS (gm X) W a)) (h2 : PSs X rest (tS (gm X) W b)) : PSs X (st :: rest) (tS (gm X) W (rSeq a b)) := PSsimp (pss_cons h1 h2) fun _ _ _ h => tS_seq h
theorem s_one (h1 : PS X st (tS (gm X) W a)) : PSs X [st] (tS (gm X) W a) := pss_one h1
theorem s_pass : PS X (.Pass pos) (tS (gm X) W rSkip) := PSimp ps_pass fun D σ H h => by
  obtain ⟨μ, ρ, M, hE, hS, hF⟩ := h
  exact hF μ σ H (.refl _) (List.prefix_refl _) hE hS
theorem s_break : PS X (.Break pos) (tS (gm X) W rBreak) := PSimp ps_break fun D σ H h => by
  obtain ⟨μ, ρ, M, hE, hS, hF⟩ := h
  exact hF μ σ H (.refl _) (List.prefix_refl _) hE hS
theorem s_cont : PS X (.Continue pos) (tS (gm X) W rCont) := PSimp ps_continue fun D σ H h => by
  obtain ⟨μ, ρ, M, hE, hS, hF⟩ := h
  exact hF μ σ H (.refl _) (List.prefix_refl _) hE hS
theorem s_expr (he : PE X e (tE (gm X) W fe)) (hs : swapsWith e none pos.line X.env = pure false := by rfl) : PS X (.Expr e pos) (tS (gm X) W (rExpr fe)) :=
  PSimp (ps_expr he hs) fun D σ H h => (tX.out h).mono fun v H1 ⟨μ, ρ, M, x, hE, hS, rx, hF⟩ => hF μ σ H1 (.refl _) (List.prefix_refl _) hE hS
theorem s_ret (he : PE X e (tE (gm X) W fe)) : PS X (.Return (some e) pos) (tS (gm X) W (rRet fe)) :=
  PSimp (ps_ret he) fun D σ H h => (tX.out h).mono fun v H1 ⟨μ, ρ, M, x, hE, hS, rx, hF⟩ => hF μ v H1 (.refl _) (List.prefix_refl _) hS rx
theorem s_retN : PS X (.Return none pos) (tS (gm X) W rRetN) := PSimp ps_retN fun D σ H h => by
  obtain ⟨μ, ρ, M, hE, hS, hF⟩ := h
  exact hF μ .non H (.refl _) (List.prefix_refl _) hS (Rep.non.mpr rfl)
theorem s_if (hc : PT X c (tT (gm X) W tc)) (ha : PSs X sa (tS (gm X) W a)) (hb : PSs X sb (tS (gm X) W b)) : PS X (.If c sa sb pos) (tS (gm X) W (rIfS tc a b)) :=
  PSimp (ps_if hc ha hb) fun D σ H h => by
    refine (tX.out (rel := fun _ _ (a b : Bool) => a = b) (g := fun k ρ M => match k with | true => a ρ M | false => b ρ M) h).mono fun k H1 ⟨μ, ρ, M, x, hE, hS, rx, hF⟩ => ?_
    subst rx
    cases x with
    | true => exact iteT ⟨μ, ρ, M, hE, hS, hF⟩
    | false => exact iteF ⟨μ, ρ, M, hE, hS, hF⟩
end
/-! ### targets -/
abbrev RG := D → Env → Store → Option (Env × Store)
def FinG (G : Gm) (μ : List Addr) (H : Hp) (Q : St → Hp → Prop) : Option (Env × Store) → Prop
  | some (ρ, M) => ∀ μ' σ' H', Ext H H' → μ <+: μ' → ER G μ' H' ρ σ' → SR G μ' H' M → Q σ' H'
  | none => False
def tG (G : Gm) (g : RG) : TG := fun v σ H Q => ∃ μ ρ M d, ER G μ H ρ σ ∧ SR G μ H M ∧ Rep G μ H d v ∧ FinG G μ H Q (g d ρ M)
abbrev RGs := List D → Env → Store → Option (Env × Store)
def tGs (G : Gm) (g : RGs) : TGs := fun vs σ H Q => ∃ μ ρ M ds, ER G μ H ρ σ ∧ SR G μ H M ∧ Reps G μ H ds vs ∧ FinG G μ H Q (g ds ρ M)
theorem FinG.later {G : Gm} {μ μ1 : List Addr} {H H1 : Hp} {Q : St → Hp → Prop} {r : Option (Env × Store)} (e : Ext H H1) (p : μ <+: μ1) (h : FinG G μ H Q r) : FinG G μ1 H1 Q r := by
  cases r with
  | some q => obtain ⟨ρ, M⟩ := q; exact fun μ' σ' H' e' p' => h μ' σ' H' (e.trans e') (p.trans p')
  | none => exact h
def gNm (i : Nat) : RG := fun d ρ M => some (ρ.set i (some d), M)
def gNi : RGs := fun ds ρ M => match ds with
  | [] => some (ρ, M)
  | _ :: _ => none
def gCo (g : RG) (gs : RGs) : RGs := fun ds ρ M => match ds with
  | [] => none
  | d :: r => (match g d ρ M with
    | some (ρ1, M1) => gs r ρ1 M1
    | none => none)
/-- the items of a tuple -/
def tupD : D → Option (List D)
  | .p (.tup xs) => some (xs.map D.p)
  | .tup xs => some xs
  | _ => none
def gTp (n : Nat) (gs : RGs) : RG := fun d ρ M => match tupD d with
  | some xs => if xs.length = n then gs xs ρ M else none
  | none => none
def rAsg (f : RE) (g : RG) : RS := fun ρ M => (f ρ M).out ρ fun d M1 => match g d ρ M1 with
  | some (ρ2, M2) => .nx ρ2 M2
  | none => .no
def rSet (i : Nat) (f : RE) : RS := fun ρ M => (f ρ M).out ρ fun d M1 => .nx (ρ.set i (some d)) M1
def rPar (i j : Nat) (f : RA) : RS := fun ρ M => (f ρ M).out ρ fun ds M1 => match ds with
  | [x, y] => .nx ((ρ.set i (some x)).set j (some y)) M1
  | _ => .no
section
variable {X : Cx} {W : WX} {e tg : Expr} {es : List Expr} {fe : RE} {g : RG} {gs : RGs} {fs : RA} {pos : Pos}
theorem tupD_ok {G : Gm} {μ : List Addr} {H : Hp} {d : D} {v : V} {xs : List D} (r : Rep G μ H d v) (h : tupD d = some xs) : ∃ a vs, v = .ref a ∧ SqT G.K H a vs ∧ Reps G μ H xs vs := by
  unfold tupD at h
  split at h
  · cases h
    obtain ⟨a, vs, rfl, h1, h2⟩ := Rep.ptup.mp r
    exact ⟨a, vs, rfl, h1, Reps.of_P h2⟩
  · cases h
    exact Rep.tup.mp r
  · cases h
theorem g_nm (i : Nat) {x : Str} (hN : X.N.Nodup) (hi : X.N[i]? = some x := by rfl) (hx : Loc X.env.scope x := by first | exact Or.inl rfl | exact Or.inr rfl) (hf : X.fn x = true ∨ X.env.scope.names.lookup x = some .local := by first | exact .inl rfl | exact .inr rfl | assumption) : PG X (.Name x pos) (tG (gm X) (gNm i)) :=
  PGimp (pg_name hN hi hx hf) fun v σ H Q h => by
    obtain ⟨μ, ρ, M, d, hE, hS, r, hF⟩ := h
    exact hF μ _ H (.refl _) (List.prefix_refl _) (hE.set i r) hS
theorem g_nil : PGs X [] (tGs (gm X) gNi) := PGsimp pgs_nil fun v σ H Q h => by
  obtain ⟨μ, ρ, M, ds, hE, hS, r, hF⟩ := h
  cases ds with
  | nil => exact ⟨r.inv0, hF μ _ H (.refl _) (List.prefix_refl _) hE hS⟩
  | cons d ds => exact hF.elim
theorem g_cons (h1 : PG X e (tG (gm X) g)) (h2 : PGs X es (tGs (gm X) gs)) (hs : (assignEach (e :: es) X.env).map (·.2) = assign e X.env :: (assignEach es X.env).map (·.2) := by rfl) : PGs X (e :: es) (tGs (gm X) (gCo g gs)) :=
  PGsimp (pgs_cons h1 h2 hs) fun v σ H Q h => by
    obtain ⟨μ, ρ, M, ds, hE, hS, r, hF⟩ := h
    cases ds with
    | nil => exact hF.elim
    | cons d ds =>
      obtain ⟨v, vr, rfl, r1, r2⟩ := r.inv
      refine ⟨v, vr, rfl, μ, ρ, M, d, hE, hS, r1, ?_⟩
      have hF : FinG (gm X) μ H Q (match g d ρ M with
        | some (ρ1, M1) => gs ds ρ1 M1
        | none => none) := hF
      cases q : g d ρ M with
      | none => rw [q] at hF; exact hF.elim
      | some p =>
        obtain ⟨ρ1, M1⟩ := p
        rw [q] at hF
        exact fun μ' σ' H' e p hE' hS' => ⟨μ', ρ1, M1, ds, hE', hS', r2.ext e p, FinG.later e p hF⟩
theorem g_tup {k n : Nat} (hc : X.calm = true) (h : PGs X es (tGs (gm X) gs)) (hn : (assignEach es X.env).length = n := by rfl) (hst : (assignEach es X.env).findIdx? (·.1) = none := by rfl) : PG X (.Tuple es k pos) (tG (gm X) (gTp n gs)) :=
  PGimp (pg_tup hc h hn hst) fun v σ H Q h => by
    obtain ⟨μ, ρ, M, d, hE, hS, r, hF⟩ := h
    have hF : FinG (gm X) μ H Q (match tupD d with
      | some xs => if xs.length = n then gs xs ρ M else none
      | none => none) := hF
    cases q : tupD d with
    | none => rw [q] at hF; exact hF.elim
    | some xs =>
      rw [q] at hF
      obtain ⟨a, vs, rfl, h1, h2⟩ := tupD_ok r q
      have hF : FinG (gm X) μ H Q (if xs.length = n then gs xs ρ M else none) := hF
      split at hF
      · rename_i hl
        exact ⟨a, vs, rfl, h1, by rw [h2.len_eq]; exact hl, μ, ρ, M, xs, hE, hS, h2, hF⟩
      · exact hF.elim
theorem s_asg (he : PE X e (tE (gm X) W fe)) (hg : PG X tg (tG (gm X) g)) (hs : swapsWithSole [tg] e pos.line X.env = pure false := by rfl) (hw : swappedStores [tg] e X.env = pure none := by rfl)
    (h1 : (assignEach [tg] X.env).map (·.2) = [assign tg X.env] := by rfl) : PS X (.Assign [tg] e pos) (tS (gm X) W (rAsg fe g)) :=
  PSimp (ps_asg he hg hs hw h1) fun D σ H h => by
    refine (tX.out (g := fun d ρ M => match g d ρ M with | some (ρ2, M2) => .nx ρ2 M2 | none => .no) h).mono fun v H1 ⟨μ, ρ, M, x, hE, hS, rx, hF⟩ => ⟨μ, ρ, M, x, hE, hS, rx, ?_⟩
    have hF : FinS (gm X) W D μ H1 (match g x ρ M with | some (ρ2, M2) => .nx ρ2 M2 | none => .no) := hF
    cases q : g x ρ M with
    | none => rw [q] at hF; exact hF.elim
    | some p => rw [q] at hF; exact hF
theorem s_set (i : Nat) {x : Str} {pos' : Pos} (he : PE X e (tE (gm X) W fe)) (hN : X.N.Nodup) (hi : X.N[i]? = some x := by rfl) (hx : Loc X.env.scope x := by first | exact Or.inl rfl | exact Or.inr rfl)
    (hs : swapsWith e (some (.Name x pos')) pos.line X.env = pure false := by rfl) (hf : X.fn x = true ∨ X.env.scope.names.lookup x = some .local := by first | exact .inl rfl | exact .inr rfl | assumption) :
    PS X (.Assign [.Name x pos'] e pos) (tS (gm X) W (rSet i fe)) :=
  PSimp (ps_set hN hi hx he hs hf) fun D σ H h => (tX.out h).mono fun v H1 ⟨μ, ρ, M, x, hE, hS, rx, hF⟩ => hF μ _ H1 (.refl _) (List.prefix_refl _) (hE.set i rx) hS
/-- a, b = x, y -/
theorem s_par (i j : Nat) {x y : Str} {a b : Expr} {px py pt : Pos} {kt k2 : Nat} {pt2 : Pos} (ha : PA X [a, b] (tA (gm X) W fs)) (hc : X.calm = true) (hN : X.N.Nodup) (hi : X.N[i]? = some x := by rfl) (hj : X.N[j]? = some y := by rfl) (hij : i ≠ j := by decide)
    (hx : X.env.scope.names.lookup x = some .local := by rfl) (hy : X.env.scope.names.lookup y = some .local := by rfl)
    (hw : swappedStores [.Tuple [.Name x px, .Name y py] kt pt] (.Tuple [a, b] k2 pt2) X.env = pure (some [x, y]) := by rfl)
    (hs : swapsWithSole [.Tuple [.Name x px, .Name y py] kt pt] (.Tuple [a, b] k2 pt2) pos.line X.env = pure false := by rfl) :
    PS X (.Assign [.Tuple [.Name x px, .Name y py] kt pt] (.Tuple [a, b] k2 pt2) pos) (tS (gm X) W (rPar i j fs)) :=
  PSimp (ps_par hc hN hi hj hij hx hy ha hw hs) fun D σ H h => by
    refine (tX.out (rel := Reps (gm X)) (g := fun ds ρ M1 => match ds with | [x, y] => .nx ((ρ.set i (some x)).set j (some y)) M1 | _ => .no) h).mono fun vs H1 ⟨μ, ρ, M, ds, hE, hS, rx, hF⟩ => ?_
    match ds, rx, hF with
    | [], _, hF => exact hF.elim
    | [_], _, hF => exact hF.elim
    | [d1, d2], rx, hF =>
      obtain ⟨v, u, rfl, r1, r2⟩ := rx.inv2
      exact ⟨v, u, rfl, hF μ _ H1 (.refl _) (List.prefix_refl _) ((hE.set i r1).set j r2) hS⟩
    | _ :: _ :: _ :: _, _, hF => exact hF.elim
end
/-! ### x op= e -/
def rAug (i : Nat) (op : D → D → Store → Option (D × Store)) (f : RE) : RS := fun ρ M => match ρ[i]? with
  | some (some x) => (f ρ M).out ρ fun y M1 => (match op x y M1 with
    | some (z, M2) => .nx (ρ.set i (some z)) M2
    | none => .no)
  | _ => .no
section
variable {X : Cx} {W : WX} {e : Expr} {fe : RE} {pos : Pos}
theorem s_aug (i : Nat) {x : Str} {o : Operator} {op r} {pos' : Pos} (ho : OpR X (inplaceOp o) r) (hd : OpD (gm X) op r) (he : PE X e (tE (gm X) W fe)) (hN : X.N.Nodup) (hi : X.N[i]? = some x := by rfl) (hx : Loc X.env.scope x := by first | exact Or.inl rfl | exact Or.inr rfl)
    (hf : X.fn x = true ∨ X.env.scope.names.lookup x = some .local := by first | exact .inl rfl | exact .inr rfl | assumption) : PS X (.AugAssign (.Name x pos') o e pos) (tS (gm X) W (rAug i op fe)) :=
  PSimp (ps_aug hN hi hx he (show PIp X o r from fun pins s σ H x y v u Q I r1 r2 h => ho pins s σ H x y v u Q I r1 r2 h) hf) fun D σ H h => by
    obtain ⟨μ, ρ, M, hE, hS, hF⟩ := h
    unfold rAug at hF
    split at hF
    · rename_i x e0
      obtain ⟨v, e1, r1⟩ := hE.at_ i x e0
      refine ⟨v, e1, ?_⟩
      refine ⟨μ, ρ, M, hE, hS, ?_⟩
      cases q : fe ρ M with
      | ok y M1 =>
        rw [q] at hF
        intro μ' u H' e p s r2
        have hF : FinS (gm X) W D μ H (match op x y M1 with
          | some (z, M2) => .nx (ρ.set i (some z)) M2
          | none => .no) := hF
        cases q2 : op x y M1 with
        | none => rw [q2] at hF; exact hF.elim
        | some zz =>
          obtain ⟨z, M2⟩ := zz
          rw [q2] at hF
          refine hd μ' H' M1 x y v u _ z M2 s (r1.ext e p) r2 q2 fun μ3 w H3 e3 p3 s3 r3 => ?_
          exact hF μ3 _ H3 (e.trans e3) (p.trans p3) ((hE.ext (e.trans e3) (p.trans p3)).set i r3) s3
      | ex c fs M1 =>
        rw [q] at hF
        exact fun μ' H' dx e p s x => hF μ' σ H' dx e p (hE.ext e p) s x
      | no =>
        rw [q] at hF
        exact hF
    · exact hF.elim
abbrev rAddI : R2 := fun x y H Q => (∃ i j, x = .int i ∧ y = .int j ∧ Q (.int (i + j)) H) ∨ (∃ i j, x = .str i ∧ y = .str j ∧ i.length + j.length ≤ sizeLine ∧ Q (.str (i ++ j)) H)
def dAddI : D → D → Store → Option (D × Store)
  | .p (.int i), .p (.int j), M => some (.p (.int (i + j)), M)
  | .p (.str x), .p (.str y), M => if x.length + y.length ≤ sizeLine then some (.p (.str (x ++ y)), M) else none
  | _, _, _ => none
theorem o_iadd : OpR X (inplaceOp .Add) rAddI := iop_add.or iop_add_str
theorem o_isub : OpR X (inplaceOp .Sub) (rI0 fun i j => .int (i - j)) := iop_sub
theorem o_imul : OpR X (inplaceOp .Mult) (rI CMul fun i j => .int (i * j)) := iop_mul
theorem d_iadd {G : Gm} : OpD G dAddI rAddI := by
  intro μ H M x y v u Q d M' S rx ry q k
  unfold dAddI at q
  split at q
  · cases q
    rw [Rep.int] at rx ry
    exact .inl ⟨_, _, rx, ry, k μ _ H (.refl H) (List.prefix_refl _) S (Rep.int.mpr rfl)⟩
  · split at q
    · rename_i h
      cases q
      rw [Rep.str] at rx ry
      exact .inr ⟨_, _, rx, ry, h, k μ _ H (.refl H) (List.prefix_refl _) S (Rep.str.mpr rfl)⟩
    · cases q
  · cases q
end
end Fl

set_option Elab.async false
set_option linter.all false
set_option maxRecDepth 100000
/-! Fl, part I: loops, raise, try, a def's promise. -/
namespace Fl
open PySem PySem.Spec L2
set_option autoImplicit false
/-! ### for -/
/-- what must stand as it stood while a loop walks: nothing, or an object of the store -/
def chk : Option (Nat × O) → Store → Prop
  | none, _ => True
  | some (l, o), M => M[l]? = some o
open Classical in
noncomputable def forL (k : Option (Nat × O)) (g : RG) (body : RS) : List D → Env → Store → Out
  | [], ρ, M => if chk k M then .nx ρ M else .no
  | x :: xs, ρ, M => if chk k M then (match g x ρ M with
      | some (ρ1, M1) => (match body ρ1 M1 with
        | .nx ρ2 M2 => forL k g body xs ρ2 M2
        | .ct ρ2 M2 => forL k g body xs ρ2 M2
        | .bk ρ2 M2 => .nx ρ2 M2
        | o => o)
      | none => .no) else .no
/-- the items of what is walked, and what must stand -/
def walkD : D → Store → Option (List D × Option (Nat × O))
  | .p (.tup xs), _ => some (xs.map D.p, none)
  | .tup xs, _ => some (xs, none)
  | .ref l, M => (match M[l]? with
    | some (.lst xs) => some (xs, some (l, .lst xs))
    | some (.ro xs) => some (xs, some (l, .ro xs))
    | _ => none)
  | _, _ => none
noncomputable def rFor (f : RE) (g : RG) (body : RS) : RS := fun ρ M => (f ρ M).out ρ fun d M1 => match walkD d M1 with
  | some (xs, k) => forL k g body xs ρ M1
  | none => .no
def intsD (lo : Int) (n : Nat) : List D := (List.range n).map fun (i : Nat) => D.p (.int (lo + (i : Int)))
def rng1 : List D → Option (Int × Nat)
  | [.p (.int j)] => if -(2 ^ 62) ≤ j ∧ j < 2 ^ 62 then some (0, j.toNat) else none
  | _ => none
def rng2 : List D → Option (Int × Nat)
  | [.p (.int i), .p (.int j)] => if -(2 ^ 62) ≤ i ∧ i < 2 ^ 62 ∧ -(2 ^ 62) ≤ j ∧ j < 2 ^ 62 then some (i, (j - i).toNat) else none
  | _ => none
noncomputable def rForR (rg : List D → Option (Int × Nat)) (f : RA) (g : RG) (body : RS) : RS := fun ρ M => (f ρ M).out ρ fun ds M1 => match rg ds with
  | some (lo, n) => forL none g body (intsD lo n) ρ M1
  | none => .no
section
variable {X : Cx} {W : WX} {e tg : Expr} {fe : RE} {g : RG} {body : RS} {fs : RA} {pos : Pos} {sb : List Stmt}
/-- a row, walked: a list or a tuple -/
def iRow (K : PySem.W.Frag) (tl : TE) : TI := fun σ H R => tl σ H fun x H1 => ∃ a, x = .ref a ∧ (((∃ xs, SqL K H1 a xs) ∧ R (Itl K a) H1) ∨ ((∃ xs, SqT K H1 a xs) ∧ R (Itt K a) H1))
theorem pi_row {l : Expr} {tl : TE} (hl : PE X l tl) : PI X tg l (iRow X.K tl) := by
  refine ⟨fun pins s σ H R I h => ?_⟩
  refine thn (hl.run pins s σ H _ I h) fun v s1 ⟨x, H1, I1, r1, q1⟩ => ?_
  obtain ⟨a, e, q1⟩ := q1
  subst e
  cases r1
  rcases q1 with ⟨⟨xs, hq⟩, q⟩ | ⟨⟨xs, hq⟩, q⟩
  · obtain ⟨its, rv, p, hz⟩ := I1.list hq
    refine wpAny_pyIter_list p.isList ?_
    refine ⟨s1.heap.objs.size, [s1.heap.objs.size], _, _, H1, rfl, I1.kept (t' := s1.toks) fun b o e => Heap.get?_push_of_some _ e, turn_list a _, ⟨_, Heap.get?_push_size _ rfl, rfl, rfl⟩, fun b hb => ?_, q⟩
    have e : b = s1.heap.objs.size := by simpa using hb
    subst e
    exact I1.fpOk (Nat.le_refl _) (I1.hok.fresh (Nat.le_refl _))
  · obtain ⟨its, rv, p, hz⟩ := I1.tuple hq
    refine wpAny_pyIter_tuple (show s1.heap.IsTuple a its.toArray from p) ?_
    refine ⟨s1.heap.objs.size, [s1.heap.objs.size], _, _, H1, rfl, I1.kept (t' := s1.toks) fun b o e => Heap.get?_push_of_some _ e, turn_tuple a _, ⟨_, Heap.get?_push_size _ rfl, rfl, rfl⟩, fun b hb => ?_, q⟩
    have e : b = s1.heap.objs.size := by simpa using hb
    subst e
    exact I1.fpOk (Nat.le_refl _) (I1.hok.fresh (Nat.le_refl _))
theorem loop_by {J : It} {g : TG} {tb : TS} {D : Ends} {σ : St} {H : Hp} (n : Nat) (Pv : Nat → St → Hp → Prop) (h0 : Pv 0 σ H) (hgo : ∀ i σ H, i < n → Pv i σ H → J.go i H) (hstop : ∀ σ H, Pv n σ H → J.stop n H)
    (hs : ∀ i x σ H H', i < n → Pv i σ H → J.yld i H x H' → g x σ H' fun σ2 H2 => tb { D with nx := Pv (i + 1), ct := Pv (i + 1), bk := D.nx } σ2 H2) (hd : ∀ σ H, Pv n σ H → D.nx σ H) :
    ∃ W : Nat → Nat → St → Hp → Prop, (∃ m, W 0 m σ H) ∧ ∀ i m σ H, W i m σ H →
      (J.stop i H ∧ D.nx σ H) ∨ (J.go i H ∧ ∃ N : St → Hp → Prop, (∀ σ' H', N σ' H' → ∃ m', m' < m ∧ W (i + 1) m' σ' H') ∧ ∀ x H', J.yld i H x H' → g x σ H' fun σ2 H2 => tb { D with nx := N, ct := N, bk := D.nx } σ2 H2) := by
  refine ⟨fun i m σ H => m = n - i ∧ i ≤ n ∧ Pv i σ H, ⟨n, by simp, Nat.zero_le _, h0⟩, ?_⟩
  rintro i m σ H ⟨rfl, hi, p⟩
  by_cases hlt : i < n
  · exact .inr ⟨hgo i σ H hlt p, Pv (i + 1), fun σ' H' p' => ⟨n - (i + 1), by omega, rfl, hlt, p'⟩, fun x H' y => hs i x σ H H' hlt p y⟩
  · have e : i = n := by omega
    rw [e] at p ⊢
    exact .inl ⟨hstop σ H p, hd σ H p⟩
theorem loop_chk {D : Ends} {k} {μ : List Addr} {H : Hp} {xs : List Fl.D} {ρ : Env} {M : Store} (h : FinS (gm X) W D μ H (forL k g body xs ρ M)) : chk k M := by
  cases xs with
  | nil =>
    unfold forL at h
    split at h
    · assumption
    · exact h.elim
  | cons x xs =>
    unfold forL at h
    split at h
    · assumption
    · exact h.elim
/-- a walk whose items stand for xs: B tells what stays of it -/
theorem loop_gen {J : It} {D : Ends} {k : Option (Nat × O)} {xs : List Fl.D} {μ : List Addr} {ρ : Env} {M : Store} {σ : St} {H : Hp} (B : List Addr → Hp → Prop) (mono : ∀ μ μ' H H', Ext H H' → μ <+: μ' → B μ H → B μ' H')
    (hgo : ∀ i μ H M, i < xs.length → SR (gm X) μ H M → B μ H → chk k M → J.go i H) (hstop : ∀ μ H M, SR (gm X) μ H M → B μ H → chk k M → J.stop xs.length H)
    (hyld : ∀ i μ H M v H', i < xs.length → SR (gm X) μ H M → B μ H → chk k M → J.yld i H v H' → ∃ d, xs[i]? = some d ∧ Ext H H' ∧ SR (gm X) μ H' M ∧ Rep (gm X) μ H' d v)
    (hE : ER (gm X) μ H ρ σ) (hS : SR (gm X) μ H M) (hB : B μ H) (hF : FinS (gm X) W D μ H (forL k g body xs ρ M)) :
    ∃ W' : Nat → Nat → St → Hp → Prop, (∃ m, W' 0 m σ H) ∧ ∀ i m σ H, W' i m σ H →
      (J.stop i H ∧ D.nx σ H) ∨ (J.go i H ∧ ∃ N : St → Hp → Prop, (∀ σ' H', N σ' H' → ∃ m', m' < m ∧ W' (i + 1) m' σ' H') ∧ ∀ x H', J.yld i H x H' → tG (gm X) g x σ H' fun σ2 H2 => tS (gm X) W body { D with nx := N, ct := N, bk := D.nx } σ2 H2) := by
  refine loop_by xs.length (fun i σ H => ∃ μ ρ M, ER (gm X) μ H ρ σ ∧ SR (gm X) μ H M ∧ B μ H ∧ FinS (gm X) W D μ H (forL k g body (xs.drop i) ρ M)) ⟨μ, ρ, M, hE, hS, hB, hF⟩ ?_ ?_ ?_ ?_
  · rintro i σ H hi ⟨μ, ρ, M, hE, hS, hB, hF⟩
    exact hgo i μ H M hi hS hB (loop_chk hF)
  · rintro σ H ⟨μ, ρ, M, hE, hS, hB, hF⟩
    exact hstop μ H M hS hB (loop_chk hF)
  · rintro i v σ H H1 hi ⟨μ, ρ, M, hE, hS, hB, hF⟩ y
    obtain ⟨x, hx, ex, hS1, r⟩ := hyld i μ H M v H1 hi hS hB (loop_chk hF) y
    have hE1 := hE.ext ex (List.prefix_refl _)
    have hB1 := mono _ _ _ _ ex (List.prefix_refl _) hB
    have hF := FinS.later ex (List.prefix_refl _) hF
    obtain ⟨hi', e⟩ := List.getElem?_eq_some_iff.mp hx
    rw [List.drop_eq_getElem_cons hi', e] at hF
    unfold forL at hF
    split at hF
    · refine ⟨μ, ρ, M, x, hE1, hS1, r, ?_⟩
      cases q : g x ρ M with
      | none => rw [q] at hF; exact hF.elim
      | some p =>
        obtain ⟨ρ1, M1⟩ := p
        rw [q] at hF
        intro μ' σ' H' ex pr hE' hS'
        refine ⟨μ', ρ1, M1, hE', hS', ?_⟩
        have hF : FinS (gm X) W D μ H1 (match body ρ1 M1 with
          | .nx ρ2 M2 => forL k g body (xs.drop (i + 1)) ρ2 M2
          | .ct ρ2 M2 => forL k g body (xs.drop (i + 1)) ρ2 M2
          | .bk ρ2 M2 => .nx ρ2 M2
          | o => o) := hF
        cases q2 : body ρ1 M1 with
        | nx ρ2 M2 => rw [q2] at hF; exact fun μ3 σ3 H3 e3 p3 E3 S3 => ⟨μ3, ρ2, M2, E3, S3, mono _ _ _ _ (ex.trans e3) (pr.trans p3) hB1, FinS.later (ex.trans e3) (pr.trans p3) hF⟩
        | ct ρ2 M2 => rw [q2] at hF; exact fun μ3 σ3 H3 e3 p3 E3 S3 => ⟨μ3, ρ2, M2, E3, S3, mono _ _ _ _ (ex.trans e3) (pr.trans p3) hB1, FinS.later (ex.trans e3) (pr.trans p3) hF⟩
        | bk ρ2 M2 => rw [q2] at hF; exact fun μ3 σ3 H3 e3 p3 => hF μ3 σ3 H3 (ex.trans e3) (pr.trans p3)
        | rt d M2 => rw [q2] at hF; exact fun μ3 v3 H3 e3 p3 => hF μ3 v3 H3 (ex.trans e3) (pr.trans p3)
        | ex c fs ρ2 M2 => rw [q2] at hF; exact fun μ3 σ3 H3 dx e3 p3 => hF μ3 σ3 H3 dx (ex.trans e3) (pr.trans p3)
        | no => rw [q2] at hF; exact hF.elim
    · exact hF.elim
  · rintro σ H ⟨μ, ρ, M, hE, hS, hB, hF⟩
    rw [List.drop_length] at hF
    unfold forL at hF
    split at hF
    · exact hF μ σ H (.refl _) (List.prefix_refl _) hE hS
    · exact hF.elim
theorem SR.list_at {G : Gm} {μ : List Addr} {H : Hp} {M : Store} {l : Nat} {a : Addr} {o : O} {xs : List Fl.D} (S : SR G μ H M) (ha : μ[l]? = some a) (e : M[l]? = some o) (h : o = .lst xs ∨ o = .ro xs) : ∃ vs, SqL G.K H a vs ∧ Reps G μ H xs vs := by
  rcases h with h | h
  · subst h
    obtain ⟨vs, h1, h2⟩ := S.obj l a _ ha e
    exact ⟨vs, SqL.of h1, h2⟩
  · subst h
    obtain ⟨vs, h1, h2⟩ := S.obj l a _ ha e
    exact ⟨vs, h1.sql, h2⟩
abbrev LoopW (X : Cx) (W : WX) (g : RG) (body : RS) (J : It) (D : Ends) (σ : St) (H : Hp) : Prop := ∃ W' : Nat → Nat → St → Hp → Prop, (∃ m, W' 0 m σ H) ∧ ∀ i m σ H, W' i m σ H →
      (J.stop i H ∧ D.nx σ H) ∨ (J.go i H ∧ ∃ N : St → Hp → Prop, (∀ σ' H', N σ' H' → ∃ m', m' < m ∧ W' (i + 1) m' σ' H') ∧ ∀ x H', J.yld i H x H' → tG (gm X) g x σ H' fun σ2 H2 => tS (gm X) W body { D with nx := N, ct := N, bk := D.nx } σ2 H2)
theorem tup_loop {D : Ends} {μ : List Addr} {ρ : Env} {M : Store} {σ : St} {H1 : Hp} {xs : List Fl.D} {a : Addr} {vs : List V} (hE : ER (gm X) μ H1 ρ σ) (hS : SR (gm X) μ H1 M) (h1 : SqT X.K H1 a vs) (h2 : Reps (gm X) μ H1 xs vs) (hF : FinS (gm X) W D μ H1 (forL none g body xs ρ M)) : LoopW X W g body (Itt X.K a) D σ H1 := by
  refine loop_gen (X := X) (W := W) (J := Itt X.K a) (k := none) (xs := xs) (fun μ H => SqT X.K H a vs ∧ Reps (gm X) μ H xs vs) (fun _ _ _ _ e p z => ⟨e.sqt z.1, z.2.ext e p⟩) ?_ ?_ ?_ hE hS ⟨h1, h2⟩ hF
  · rintro i μ H M hi _ ⟨z1, z2⟩ _
    obtain ⟨w, hw, _⟩ := z2.get (List.getElem?_eq_getElem hi)
    exact ⟨vs, w, z1, hw⟩
  · rintro μ H M _ ⟨z1, z2⟩ _
    exact ⟨vs, z1, by rw [z2.len_eq]; exact Nat.le_refl _⟩
  · rintro i μ H M w H' hi S ⟨z1, z2⟩ _ ⟨rfl, y⟩
    obtain ⟨w', hw, r⟩ := z2.get (List.getElem?_eq_getElem hi)
    have := (y vs z1).symm.trans hw
    cases this
    exact ⟨_, List.getElem?_eq_getElem hi, .refl _, S, r⟩
theorem lst_loop {D : Ends} {μ : List Addr} {ρ : Env} {M : Store} {σ : St} {H1 : Hp} {xs : List Fl.D} {a : Addr} {l : Nat} {o : O} (hE : ER (gm X) μ H1 ρ σ) (hS : SR (gm X) μ H1 M) (ha : μ[l]? = some a) (hk : o = .lst xs ∨ o = .ro xs) (hF : FinS (gm X) W D μ H1 (forL (some (l, o)) g body xs ρ M)) : LoopW X W g body (Itl X.K a) D σ H1 := by
  refine loop_gen (X := X) (W := W) (J := Itl X.K a) (k := some (l, o)) (xs := xs) (fun μ H => μ[l]? = some a) (fun _ _ _ _ e p z => pre_get p z) ?_ ?_ ?_ hE hS ha hF
  · rintro i μ H M hi S z c
    obtain ⟨vs, z1, z2⟩ := SR.list_at S z c hk
    obtain ⟨w, hw, _⟩ := z2.get (List.getElem?_eq_getElem hi)
    exact ⟨vs, w, z1, hw⟩
  · rintro μ H M S z c
    obtain ⟨vs, z1, z2⟩ := SR.list_at S z c hk
    exact ⟨vs, z1, by rw [z2.len_eq]; exact Nat.le_refl _⟩
  · rintro i μ H M w H' hi S z c ⟨rfl, y⟩
    obtain ⟨vs, z1, z2⟩ := SR.list_at S z c hk
    obtain ⟨w', hw, r⟩ := z2.get (List.getElem?_eq_getElem hi)
    have := (y vs z1).symm.trans hw
    cases this
    exact ⟨_, List.getElem?_eq_getElem hi, .refl _, S, r⟩
theorem s_for (hp : PassesOwn (model X.prog X.w) X.A X.env X.xe) (hc : X.calm = true) (he : PE X e (tE (gm X) W fe)) (hg : PG X tg (tG (gm X) g)) (hb : PSs X sb (tS (gm X) W body))
    (hs : ∀ x, foldedSetIterable e X.env x = pure x := by intro _; rfl) : PS X (.For tg e sb [] pos) (tS (gm X) W (rFor fe g body)) :=
  PSimp (ps_for hp hc (pi_row he) hg hb hs) fun D σ H h => by
    refine (tX.out (g := fun d ρ M => match walkD d M with | some (xs, k) => forL k g body xs ρ M | none => .no) h).mono fun v H1 ⟨μ, ρ, M, d, hE, hS, rd, hF⟩ => ?_
    have hF : FinS (gm X) W D μ H1 (match walkD d M with | some (xs, k) => forL k g body xs ρ M | none => .no) := hF
    cases q : walkD d M with
    | none => rw [q] at hF; exact hF.elim
    | some p =>
      obtain ⟨xs, k⟩ := p
      rw [q] at hF
      have hF : FinS (gm X) W D μ H1 (forL k g body xs ρ M) := hF
      unfold walkD at q
      split at q
      · cases q
        obtain ⟨a, vs, e1, h1, h2⟩ := Rep.ptup.mp rd
        exact ⟨a, e1, .inr ⟨⟨vs, h1⟩, tup_loop hE hS h1 (Reps.of_P h2) hF⟩⟩
      · cases q
        obtain ⟨a, vs, e1, h1, h2⟩ := Rep.tup.mp rd
        exact ⟨a, e1, .inr ⟨⟨vs, h1⟩, tup_loop hE hS h1 h2 hF⟩⟩
      · obtain ⟨a, ha, e1⟩ := Rep.ref.mp rd
        split at q
        · rename_i ys e2
          cases q
          obtain ⟨vs, z1, z2⟩ := SR.list_at hS ha e2 (.inl rfl)
          exact ⟨a, e1, .inl ⟨⟨vs, z1⟩, lst_loop hE hS ha (.inl rfl) hF⟩⟩
        · rename_i ys e2
          cases q
          obtain ⟨vs, z1, z2⟩ := SR.list_at hS ha e2 (.inr rfl)
          exact ⟨a, e1, .inl ⟨⟨vs, z1⟩, lst_loop hE hS ha (.inr rfl) hF⟩⟩
        · cases q
      · cases q
theorem intsD_len (lo : Int) (n : Nat) : (intsD lo n).length = n := by simp [intsD]
theorem intsD_get (lo : Int) (n i : Nat) (h : i < n) : (intsD lo n)[i]? = some (.p (.int (lo + (i : Int)))) := by simp [intsD, h]
theorem range_loop {D : Ends} {lo : Int} {n : Nat} {μ : List Addr} {ρ : Env} {M : Store} {σ : St} {H : Hp} (hE : ER (gm X) μ H ρ σ) (hS : SR (gm X) μ H M) (hF : FinS (gm X) W D μ H (forL none g body (intsD lo n) ρ M)) : LoopW X W g body (Itr lo n) D σ H := by
  refine loop_gen (X := X) (W := W) (J := Itr lo n) (k := none) (xs := intsD lo n) (fun _ _ => True) (fun _ _ _ _ _ _ z => z) ?_ ?_ ?_ hE hS trivial hF
  · rintro i μ H M hi _ _ _
    rw [intsD_len] at hi
    exact hi
  · rintro μ H M _ _ _
    rw [intsD_len]
    exact Nat.le_refl _
  · rintro i μ H M w H' hi S _ _ ⟨rfl, rfl⟩
    rw [intsD_len] at hi
    exact ⟨_, intsD_get lo n i hi, .refl _, S, Rep.int.mpr rfl⟩
theorem s_range1 {a : Expr} {p pos' : Pos} (hp : PassesOwn (model X.prog X.w) X.A X.env X.xe) (hc : X.calm = true) (hgl : Gl X "range") (hm : X.mg "range" = none) (ha : PA X [a] (tA (gm X) W fs)) (hg : PG X tg (tG (gm X) g)) (hb : PSs X sb (tS (gm X) W body))
    (hs1 : starEach [a] X.env = [(false, eval a X.env)] := by rfl) (hs : ∀ x, foldedSetIterable (.Call (.Name "range" p) [a] [] pos') X.env x = pure x := by intro _; rfl) : PS X (.For tg (.Call (.Name "range" p) [a] [] pos') sb [] pos) (tS (gm X) W (rForR rng1 fs g body)) :=
  PSimp (ps_for hp hc (pi_range1 hgl hm ha hs1) hg hb hs) fun D σ H h => by
    refine (tX.out (rel := Reps (gm X)) (g := fun ds ρ M1 => match rng1 ds with | some (lo, n) => forL none g body (intsD lo n) ρ M1 | none => .no) h).mono fun vs H1 ⟨μ, ρ, M, ds, hE, hS, rd, hF⟩ => ?_
    have hF : FinS (gm X) W D μ H1 (match rng1 ds with | some (lo, n) => forL none g body (intsD lo n) ρ M | none => .no) := hF
    cases q : rng1 ds with
    | none => rw [q] at hF; exact hF.elim
    | some p =>
      obtain ⟨lo, n⟩ := p
      rw [q] at hF
      have hF : FinS (gm X) W D μ H1 (forL none g body (intsD lo n) ρ M) := hF
      unfold rng1 at q
      split at q
      · split at q
        · rename_i j hj
          cases q
          obtain ⟨v, rfl, r⟩ := rd.inv1
          rw [Rep.int] at r
          subst r
          exact ⟨j, rfl, hj.1, hj.2, range_loop hE hS hF⟩
        · cases q
      · cases q
theorem s_range2 {a b : Expr} {p pos' : Pos} (hp : PassesOwn (model X.prog X.w) X.A X.env X.xe) (hc : X.calm = true) (hgl : Gl X "range") (hm : X.mg "range" = none) (ha : PA X [a, b] (tA (gm X) W fs)) (hg : PG X tg (tG (gm X) g)) (hb : PSs X sb (tS (gm X) W body))
    (hs1 : starEach [a, b] X.env = [(false, eval a X.env), (false, eval b X.env)] := by rfl) (hs2 : starEach [b] X.env = [(false, eval b X.env)] := by rfl) (hs : ∀ x, foldedSetIterable (.Call (.Name "range" p) [a, b] [] pos') X.env x = pure x := by intro _; rfl) :
    PS X (.For tg (.Call (.Name "range" p) [a, b] [] pos') sb [] pos) (tS (gm X) W (rForR rng2 fs g body)) :=
  PSimp (ps_for hp hc (pi_range2 hgl hm ha hs1 hs2) hg hb hs) fun D σ H h => by
    refine (tX.out (rel := Reps (gm X)) (g := fun ds ρ M1 => match rng2 ds with | some (lo, n) => forL none g body (intsD lo n) ρ M1 | none => .no) h).mono fun vs H1 ⟨μ, ρ, M, ds, hE, hS, rd, hF⟩ => ?_
    have hF : FinS (gm X) W D μ H1 (match rng2 ds with | some (lo, n) => forL none g body (intsD lo n) ρ M | none => .no) := hF
    cases q : rng2 ds with
    | none => rw [q] at hF; exact hF.elim
    | some p =>
      obtain ⟨lo, n⟩ := p
      rw [q] at hF
      have hF : FinS (gm X) W D μ H1 (forL none g body (intsD lo n) ρ M) := hF
      unfold rng2 at q
      split at q
      · split at q
        · rename_i i j hj
          cases q
          obtain ⟨v, u, rfl, r1, r2⟩ := rd.inv2
          rw [Rep.int] at r1 r2
          subst r1 r2
          exact ⟨_, _, rfl, hj, range_loop hE hS hF⟩
        · cases q
      · cases q
end
end Fl

set_option Elab.async false
set_option linter.all false
set_option maxRecDepth 100000
/-! Fl, part J: while, raise, try, a def's promise, the law's end. -/
namespace Fl
open PySem PySem.Spec L2
set_option autoImplicit false
/-! ### while -/
def whileN (c : RT) (b : RS) : Nat → Env → Store → Option Out
  | 0, _, _ => none
  | n + 1, ρ, M => match c ρ M with
    | .ok true M1 => (match b ρ M1 with
      | .nx ρ2 M2 => whileN c b n ρ2 M2
      | .ct ρ2 M2 => whileN c b n ρ2 M2
      | .bk ρ2 M2 => some (.nx ρ2 M2)
      | o => some o)
    | .ok false M1 => some (.nx ρ M1)
    | .ex x fs M1 => some (.ex x fs ρ M1)
    | .no => some .no
theorem whileN_succ {c : RT} {b : RS} : ∀ {n : Nat} {ρ : Env} {M : Store} {o : Out}, whileN c b n ρ M = some o → whileN c b (n + 1) ρ M = some o
  | 0, _, _, _, h => by cases h
  | n + 1, ρ, M, o, h => by
    unfold whileN at h ⊢
    cases q : c ρ M with
    | ok k M1 =>
      simp only [q] at h ⊢
      cases k with
      | false => exact h
      | true =>
        cases q2 : b ρ M1 with
        | nx ρ2 M2 => simp only [q2] at h ⊢; exact whileN_succ h
        | ct ρ2 M2 => simp only [q2] at h ⊢; exact whileN_succ h
        | bk ρ2 M2 => simp only [q2] at h ⊢; exact h
        | rt d M2 => simp only [q2] at h ⊢; exact h
        | ex x fs ρ2 M2 => simp only [q2] at h ⊢; exact h
        | no => simp only [q2] at h ⊢; exact h
    | ex x fs M1 => simp only [q] at h ⊢; exact h
    | no => simp only [q] at h ⊢; exact h
theorem whileN_mono {c : RT} {b : RS} {n m : Nat} {ρ : Env} {M : Store} {o : Out} (h : whileN c b n ρ M = some o) (k : n ≤ m) : whileN c b m ρ M = some o := by
  induction k with
  | refl => exact h
  | step _ ih => exact whileN_succ ih
theorem whileN_det {c : RT} {b : RS} {n m : Nat} {ρ : Env} {M : Store} {o o' : Out} (h : whileN c b n ρ M = some o) (h' : whileN c b m ρ M = some o') : o = o' := by
  have h1 := whileN_mono h (Nat.le_max_left n m)
  have h2 := whileN_mono h' (Nat.le_max_right n m)
  exact Option.some.inj (h1.symm.trans h2)
open Classical in
noncomputable def rWh (c : RT) (b : RS) : RS := fun ρ M => if h : ∃ o n, whileN c b n ρ M = some o then h.choose else .no
theorem rWh_of {c : RT} {b : RS} {n : Nat} {ρ : Env} {M : Store} {o : Out} (h : whileN c b n ρ M = some o) : rWh c b ρ M = o := by
  unfold rWh
  have q : ∃ o n, whileN c b n ρ M = some o := ⟨o, n, h⟩
  rw [dif_pos q]
  obtain ⟨m, hm⟩ := q.choose_spec
  exact whileN_det hm h
section
variable {X : Cx} {W : WX} {e c : Expr} {b : RS} {tc : RT} {pos : Pos} {sb : List Stmt}
theorem s_while (hp : PassesOwn (model X.prog X.w) X.A X.env X.xe) (hc : PT X c (tT (gm X) W tc)) (hb : PSs X sb (tS (gm X) W b)) : PS X (.While c sb [] pos) (tS (gm X) W (rWh tc b)) :=
  PSimp (ps_while hp hc hb) fun D σ H h => by
    obtain ⟨μ, ρ, M, hE, hS, hF⟩ := h
    have hq : ∃ o n, whileN tc b n ρ M = some o := by
      apply Classical.byContradiction
      intro hn
      unfold rWh at hF
      rw [dif_neg hn] at hF
      exact hF
    obtain ⟨o, n, hn⟩ := hq
    rw [rWh_of hn] at hF
    refine ⟨fun m σ H => ∃ μ ρ M o, ER (gm X) μ H ρ σ ∧ SR (gm X) μ H M ∧ whileN tc b m ρ M = some o ∧ FinS (gm X) W D μ H o, ⟨n, μ, ρ, M, o, hE, hS, hn, hF⟩, ?_⟩
    rintro m σ H ⟨μ, ρ, M, o, hE, hS, hn, hF⟩
    cases m with
    | zero => cases hn
    | succ m =>
      unfold whileN at hn
      refine ⟨μ, ρ, M, hE, hS, ?_⟩
      cases q : tc ρ M with
      | ok k M1 =>
        rw [q] at hn
        intro μ' v H' e p s r
        subst r
        cases k with
        | false =>
          cases hn
          exact iteF (hF μ' σ H' e p (hE.ext e p) s)
        | true =>
          refine iteT ⟨fun σ' H' => ∃ μ ρ M o, ER (gm X) μ H' ρ σ' ∧ SR (gm X) μ H' M ∧ whileN tc b m ρ M = some o ∧ FinS (gm X) W D μ H' o, fun σ' H' z => ⟨m, Nat.lt_succ_self _, z⟩, ⟨μ', ρ, M1, hE.ext e p, s, ?_⟩⟩
          cases q2 : b ρ M1 with
          | nx ρ2 M2 => simp only [q2] at hn; exact fun μ3 σ3 H3 e3 p3 E3 S3 => ⟨μ3, ρ2, M2, o, E3, S3, hn, FinS.later (e.trans e3) (p.trans p3) hF⟩
          | ct ρ2 M2 => simp only [q2] at hn; exact fun μ3 σ3 H3 e3 p3 E3 S3 => ⟨μ3, ρ2, M2, o, E3, S3, hn, FinS.later (e.trans e3) (p.trans p3) hF⟩
          | bk ρ2 M2 => simp only [q2] at hn; cases hn; exact fun μ3 σ3 H3 e3 p3 => hF μ3 σ3 H3 (e.trans e3) (p.trans p3)
          | rt d M2 => simp only [q2] at hn; cases hn; exact fun μ3 v3 H3 e3 p3 => hF μ3 v3 H3 (e.trans e3) (p.trans p3)
          | ex c fs ρ2 M2 => simp only [q2] at hn; cases hn; exact fun μ3 σ3 H3 dx e3 p3 => hF μ3 σ3 H3 dx (e.trans e3) (p.trans p3)
          | no => simp only [q2] at hn; cases hn; exact hF
      | ex c fs M1 =>
        rw [q] at hn
        cases hn
        exact fun μ' H' dx e p s x => hF μ' σ H' dx e p (hE.ext e p) s x
      | no =>
        rw [q] at hn
        cases hn
        exact hF
end
/-! ### raise X("..") of an own class without __init__ -/
structure ExC (G : Gm) (c : Str) (C : Addr) : Prop where
  mgC : G.mg c = some (.ref C)
  exc : PySem.W.excIn G.K C He.veBase "ValueError.__new__" = true
  kp : PySem.W.keepIn G.K (.ref C) = true
  sub : PySem.W.subIn G.K (.ref C) (.type "BaseException") = some true
  ty : PySem.W.typeIn G.K (.ref C) = some (.type "type")
def rRaise (c : Str) : RS := fun ρ M => .ex c none ρ M
section
variable {X : Cx} {W Wout : WX} {pos : Pos}
theorem s_raise {c m : Str} {C : Addr} {j : Nat} {p p2 pos' : Pos} (h : ExC (gm X) c C) (hc : X.calm = true) (tk : L2N.Takes X W) (hg : Gl X c) (hdb : (c == ("__debug__" : Str)) = false := by decide) :
    PS X (.Raise (some (.Call (.Name c p) [.Constant (.str m) j p2] [] pos')) none pos) (tS (gm X) W (rRaise c)) :=
  PSimp (L2N.ps_raise hc tk (L2N.pmk_own PySem.F.excBase_ValueError h.exc h.mgC h.kp (raises_own h.sub h.ty) hg hdb)) fun D σ H q => by
    obtain ⟨μ, ρ, M, hE, hS, hF⟩ := q
    have z := hF μ σ H none (.refl _) (List.prefix_refl _) hE hS rfl
    unfold cval at z
    rw [h.mgC] at z
    exact z
/-! ### try .. except X: suite -/
def noEx : Out → Out
  | .ex _ _ _ _ => .no
  | o => o
theorem noEx_fin {G : Gm} {W W' : WX} {D : Ends} {μ : List Addr} {H : Hp} {o : Out} (h : FinS G W D μ H (noEx o)) : FinS G W' D μ H o := by
  cases o with
  | ex c fs ρ1 M1 => exact h.elim
  | nx ρ1 M1 => exact h
  | rt d M1 => exact h
  | bk ρ1 M1 => exact h
  | ct ρ1 M1 => exact h
  | no => exact h
/-- exs: the classes that may come, and whether the clause takes them -/
def rTry (exs : List (Str × Bool)) (body suite : RS) : RS := fun ρ M => match body ρ M with
  | .ex c fs ρ1 M1 => (match exs.lookup c with
    | some true => noEx (suite ρ1 M1)
    | some false => .ex c fs ρ1 M1
    | none => .no)
  | o => o
theorem lookup_mem {α : Type} {c : Str} {b : α} : ∀ {l : List (Str × α)}, l.lookup c = some b → (c, b) ∈ l
  | [], h => by cases h
  | (d, x) :: l, h => by
    rw [List.lookup_cons] at h
    split at h
    · rename_i e
      have e1 : c = d := by simpa using e
      cases h
      rw [e1]
      exact List.mem_cons_self
    · exact List.mem_cons_of_mem _ (lookup_mem h)
theorem s_try {x : Str} {xc : Value} {exs : List (Str × Bool)} {body suite : RS} {sb sc : List Stmt} {b0 : Stmt} {np pos' : Pos} (hs : X.stack = X.env :: X.outer) (hf : X.env.frame = some X.env.locals) (hc : Names X x xc) (tk : L2N.Takes X Wout)
    (hx : ∀ q ∈ exs, PySem.W.exmOne X.K (cval (gm X) q.1) xc = some q.2)
    (hb : ∀ (W : WX) (pn : List (Addr × Obj)) (xe : Value → Shared → Prop), L2N.Takes (X.tr pn xe) W → PassesOwn (model X.prog X.w) X.A X.env xe → PSs (X.tr pn xe) sb (tS (gm X) W body))
    (hsu : ∀ (a : Addr) (pn : List (Addr × Obj)), PSs (X.suite a pn) (b0 :: sc) (tS (gm X) (fun _ _ _ _ => False) suite)) :
    PS X (.Try sb [.ExceptHandler (some (.Name x np)) none (b0 :: sc) pos'] [] [] pos) (tS (gm X) Wout (rTry exs body suite)) :=
  PSimp (L2N.ps_try_many (tb := fun W => tS (gm X) W body) hs hf tk (fun W pn xe h1 h2 => hb W pn xe h1 h2) (.cons (ts := fun _ _ _ => tS (gm X) (fun _ _ _ _ => False) suite) hc (fun a oe cls d pn _ _ => hsu a _) .nil)) fun D σ H h => by
    obtain ⟨μ, ρ, M, hE, hS, hF⟩ := h
    refine ⟨μ, ρ, M, hE, hS, ?_⟩
    have hF : FinS (gm X) Wout D μ H (match body ρ M with
      | .ex c fs ρ1 M1 => (match exs.lookup c with
        | some true => noEx (suite ρ1 M1)
        | some false => .ex c fs ρ1 M1
        | none => .no)
      | o => o) := hF
    cases q : body ρ M with
    | ex c fs ρ1 M1 =>
      rw [q] at hF
      have hF : FinS (gm X) Wout D μ H (match exs.lookup c with
        | some true => noEx (suite ρ1 M1)
        | some false => .ex c fs ρ1 M1
        | none => .no) := hF
      intro μ' σ' H' dx e p hE' hS' xr
      cases q2 : exs.lookup c with
      | none => rw [q2] at hF; exact hF.elim
      | some k =>
        rw [q2] at hF
        refine ⟨k, hx (c, k) (lookup_mem q2), fun hk a _ => ?_, fun hk => ?_⟩
        · subst hk
          have hF : FinS (gm X) Wout D μ H (noEx (suite ρ1 M1)) := hF
          exact ⟨μ', ρ1, M1, hE', hS', FinS.later e p (noEx_fin hF)⟩
        · subst hk
          exact hF μ' σ' H' dx e p hE' hS' xr
    | nx ρ1 M1 => rw [q] at hF; exact hF
    | rt d M1 => rw [q] at hF; exact hF
    | bk ρ1 M1 => rw [q] at hF; exact hF
    | ct ρ1 M1 => rw [q] at hF; exact hF
    | no => rw [q] at hF; exact hF
end
/-! ### a def's promise -/
/-- what comes of a body as a def's answer: the objects that were made and are not handed out may be forgotten -/
def bodyR : Out → R D
  | .nx _ M => .ok (.p .non) M
  | .rt d M => .ok d M
  | .ex c fs _ M => .ex c fs M
  | _ => .no
mutual
def D.clo (n : Nat) : D → Bool
  | .p _ => true
  | .ref l => decide (l < n)
  | .tup xs => D.clos n xs
  | .gl _ => true
  | .exv _ => true
  | .lam i => decide (i.ν.length ≤ n)
def D.clos (n : Nat) : List D → Bool
  | [] => true
  | x :: xs => D.clo n x && D.clos n xs
end
def O.clo (n : Nat) : O → Bool
  | .lst xs => D.clos n xs
  | .ro xs => D.clos n xs
  | .ins _ fs => fs.all fun q => q.2.clo n
  | .dk fs => fs.all fun q => q.2.clo n
  | .dt fs => fs.all fun q => q.2.clo n
  | .tab _ => true
  | .rod fs => fs.all fun q => q.2.clo n
  | .rodt fs => fs.all fun q => q.2.clo n
def Store.clo (M : Store) : Prop := ∀ o ∈ M, o.clo M.length = true
/-- r is told, s is what comes: the same, but for objects behind the told ones -/
def Tells (r s : R D) : Prop := match r with
  | .ok d M => ∃ ext, s = .ok d (M ++ ext) ∧ (ext = [] ∨ (d.clo M.length = true ∧ Store.clo M))
  | .ex c fs M => fs = none ∧ ∃ ext, s = .ex c none (M ++ ext) ∧ (ext = [] ∨ Store.clo M)
  | .no => True
section
variable {G : Gm} {μ : List Addr} {H : Hp} {n : Nat}
mutual
theorem Rep.cut : ∀ {d : D} {v : V}, Rep G μ H d v → d.clo n = true → Rep G (μ.take n) H d v
  | .p x, v, r, h => by simpa only [Rep] using r
  | .ref l, v, r, h => by
    obtain ⟨a, h1, h2⟩ := Rep.ref.mp r
    have hl : l < n := by simpa [D.clo] using h
    exact Rep.ref.mpr ⟨a, by rw [List.getElem?_take_of_lt hl]; exact h1, h2⟩
  | .tup xs, v, r, h => by
    obtain ⟨a, vs, h1, h2, h3⟩ := Rep.tup.mp r
    exact Rep.tup.mpr ⟨a, vs, h1, h2, Reps.cutn h3 (by simpa [D.clo] using h)⟩
  | .gl x, v, r, h => by simpa only [Rep] using r
  | .exv x, v, r, h => by simpa only [Rep] using r
  | .lam i, v, r, h => by
    simp only [Rep] at r ⊢
    have hl : i.ν.length ≤ n := by simpa [D.clo] using h
    obtain ⟨r1, r2, ⟨t, r3⟩, r4⟩ := r
    refine ⟨r1, r2, ?_, r4⟩
    rw [← r3, List.take_append, List.take_of_length_le hl]
    exact List.prefix_append _ _
theorem Reps.cutn : ∀ {ds : List D} {vs : List V}, Reps G μ H ds vs → D.clos n ds = true → Reps G (μ.take n) H ds vs
  | [], vs, r, h => by rw [r.inv0]; exact .nil
  | d :: ds, vs, r, h => by
    obtain ⟨v, w, rfl, r1, r2⟩ := r.inv
    have h' : d.clo n = true ∧ D.clos n ds = true := by simpa [D.clos] using h
    exact .cons (Rep.cut r1 h'.1) (Reps.cutn r2 h'.2)
end
theorem FsRep.cut {κ : Type} : ∀ {fs : List (κ × D)} {gs : List (κ × V)}, FsRep G μ H fs gs → (fs.all fun q => q.2.clo n) = true → FsRep G (μ.take n) H fs gs
  | [], gs, r, h => r
  | (f, d) :: fs, gs, r, h => by
    obtain ⟨v, w, rfl, r1, r2⟩ := r
    have h' : d.clo n = true ∧ (fs.all fun q => q.2.clo n) = true := by simpa using h
    exact ⟨v, w, rfl, Rep.cut r1 h'.1, FsRep.cut r2 (by simpa using h'.2)⟩
theorem ObjRep.cut {a : Addr} {o : O} (r : ObjRep G μ H a o) (h : o.clo n = true) : ObjRep G (μ.take n) H a o := by
  cases o with
  | lst xs => obtain ⟨vs, h1, h2⟩ := r; exact ⟨vs, h1, h2.cutn (by simpa [O.clo] using h)⟩
  | ro xs => obtain ⟨vs, h1, h2⟩ := r; exact ⟨vs, h1, h2.cutn (by simpa [O.clo] using h)⟩
  | ins c fs => obtain ⟨C, dx, gs, h0, h1, h2⟩ := r; exact ⟨C, dx, gs, h0, h1, h2.cut (by simpa only [O.clo] using h)⟩
  | dk fs => obtain ⟨gs, h1, h2⟩ := r; exact ⟨gs, h1, h2.cut (by simpa only [O.clo] using h)⟩
  | dt fs => obtain ⟨gs, h1, h2⟩ := r; exact ⟨gs, h1, h2.cut (by simpa only [O.clo] using h)⟩
  | tab x => exact r
  | rod fs => obtain ⟨od, gs, h1, h2⟩ := r; exact ⟨od, gs, h1, h2.cut (by simpa only [O.clo] using h)⟩
  | rodt fs => obtain ⟨od, gs, h1, h2⟩ := r; exact ⟨od, gs, h1, h2.cut (by simpa only [O.clo] using h)⟩
theorem SR.cut {M ext : Store} (S : SR G μ H (M ++ ext)) (h : Store.clo M) : SR G (μ.take M.length) H M := by
  have hl : μ.length = M.length + ext.length := by rw [S.len, List.length_append]
  have lt : ∀ {l : Nat} {o : O}, M[l]? = some o → l < M.length := fun h => (List.getElem?_eq_some_iff.mp h).1
  refine ⟨by rw [List.length_take]; omega, fun i j a x y h1 h2 h3 h4 => ?_, fun l a o h1 h2 => ?_⟩
  · rw [List.getElem?_take_of_lt (lt h3)] at h1
    rw [List.getElem?_take_of_lt (lt h4)] at h2
    exact S.nd i j a x y h1 h2 (by rw [List.getElem?_append_left (lt h3)]; exact h3) (by rw [List.getElem?_append_left (lt h4)]; exact h4)
  have hlt : l < M.length := (List.getElem?_eq_some_iff.mp h2).1
  rw [List.getElem?_take_of_lt hlt] at h1
  exact (S.obj l a o h1 (by rw [List.getElem?_append_left hlt]; exact h2)).cut (h o (List.mem_of_getElem? h2))
theorem pre_take {μ0 : List Addr} {k : Nat} (p : μ0 <+: μ) (h : μ0.length ≤ k) : μ0 <+: μ.take k := by
  obtain ⟨t, rfl⟩ := p
  rw [List.take_append]
  rw [List.take_of_length_le h]
  exact List.prefix_append _ _
end
/-- every object of the store in the told one stands (the told store is not shorter than the one ahead) -/
def Grows (M : Store) : R D → Prop
  | .ok _ M' => M.length ≤ M'.length
  | .ex _ _ M' => M.length ≤ M'.length
  | .no => True
theorem FinC_tells {G : Gm} {E : XK} {μ : List Addr} {H : Hp} {Q : VK} {M : Store} {r s : R D} (hl : μ.length = M.length) (g : Grows M r) (t : Tells r s) (h : FinC G E μ H Q r) : FinC G E μ H Q s := by
  cases r with
  | no => exact h.elim
  | ok d M' =>
    obtain ⟨ext, rfl, c⟩ := t
    intro μ' v H' e p S r
    rcases c with rfl | ⟨c1, c2⟩
    · rw [List.append_nil] at S
      exact h μ' v H' e p S r
    · exact h (μ'.take M'.length) v H' e (pre_take p (by rw [hl]; exact g)) (S.cut c2) (r.cut c1)
  | ex c fs M' =>
    obtain ⟨rfl, ext, rfl, c⟩ := t
    intro μ' H' dx e p S x
    rcases c with rfl | c2
    · rw [List.append_nil] at S
      exact h μ' H' dx e p S x
    · exact h (μ'.take M'.length) H' dx e (pre_take p (by rw [hl]; exact g)) (S.cut c2) x
def startD (n : Nat) (ds : List D) : Env := ds.map some ++ List.replicate (n - ds.length) none
theorem startD_ok {G : Gm} {μ : List Addr} {H : Hp} {N : List Str} {ds : List D} {vs : List V} (r : Reps G μ H ds vs) : ER G μ H (startD N.length ds) (L2.start N vs) := by
  have hl := r.length
  refine ⟨by simp [startD, L2.start, hl], fun i d e => ?_⟩
  unfold startD at e
  by_cases hi : i < ds.length
  · rw [List.getElem?_append_left (by simpa using hi), List.getElem?_map] at e
    cases q : ds[i]? with
    | none => rw [q] at e; cases e
    | some d' =>
      rw [q] at e
      have e2 : d' = d := by simpa using e
      subst e2
      obtain ⟨v, h1, h2⟩ := r.get q
      refine ⟨v, ?_, h2⟩
      unfold L2.start
      rw [List.getElem?_append_left (by rw [List.length_map, ← hl]; exact hi), List.getElem?_map, h1]
      rfl
  · rw [List.getElem?_append_right (by simpa using hi), List.getElem?_replicate] at e
    split at e
    · cases e
    · cases e
section
variable {P : Program} {w : World} {K : PySem.W.Frag} {mg : Str → Option Value} {base : Heap}
/-- THE RULE for a def: m is its body's reading; F is told of it -/
theorem fn_D {x qual : Str} {params : Arguments} {body : List Stmt} {scope : Scope} {dvs : List V} {kws : List (Str × V)} {f : Addr} {fd : FuncData} {N ps : List Str} {k : Nat} {m : RS} {F : List D → Store → R D}
    (Fu : FunD K x qual params body scope dvs kws f fd) (S : FnScope N ps scope)
    (hb : ∀ (cdv : Value) (A : Around) (outer : List PySem.Env) (s : Shared) (H : Hp) (E : XK), Room k (A.deeper (PyProof.Rows.envOfC qual scope s.heap.objs.size f cdv)) →
      ∀ W : WX, L2N.Takes (cxOf (L2N.CX P w) P w K mg base N qual scope f cdv A outer s H E) W → PSs (cxOf (L2N.CX P w) P w K mg base N qual scope f cdv A outer s H E) body (tS ⟨K, mg⟩ W m))
    (hF : ∀ ds M, ds.length = ps.length → Grows M (F ds M) ∧ Tells (F ds M) (bodyR (m (startD N.length ds) M))) :
    FnOk P w K mg base (L2N.CX P w) (k + 1) f fd ps (spD ⟨K, mg⟩ F ps.length) := by
  refine Fu.ok S (fun vs H Q E h => h.choose_spec.choose_spec.choose_spec.1) fun cdv A outer s H vs Q E hr h => ?_
  obtain ⟨μ, ds, M, hn, hds, hS, hQ⟩ := h
  have tk : L2N.Takes (cxOf (L2N.CX P w) P w K mg base N qual scope f cdv A outer s H E) (fun c d _ H' => E c d H') := L2N.takes_of rfl rfl rfl rfl
  refine ⟨_, hb cdv A outer s H E hr _ tk, μ, startD N.length ds, M, startD_ok hds, hS, ?_⟩
  obtain ⟨g, t⟩ := hF ds M (by rw [hds.length]; exact hn)
  have hq := FinC_tells hS.len g t hQ
  cases q : m (startD N.length ds) M with
  | nx ρ M' => rw [q] at hq; exact fun μ' σ' H' e p _ s => hq μ' .non H' e p s (Rep.non.mpr rfl)
  | rt d M' => rw [q] at hq; exact fun μ' v H' e p s r => hq μ' v H' e p s r
  | bk ρ M' => rw [q] at hq; exact hq.elim
  | ct ρ M' => rw [q] at hq; exact hq.elim
  | ex c fs ρ M' => rw [q] at hq; exact fun μ' σ' H' dx e p _ s x => hq μ' H' dx e p s x
  | no => rw [q] at hq; exact hq.elim
end
end Fl

set_option Elab.async false
set_option linter.all false
set_option maxRecDepth 100000
/-! Fl, part K: calls with keywords; facts of the head; the law's end. -/
namespace Fl
open PySem PySem.Spec L2
set_option autoImplicit false
/-! ### f(e, .., k = v, ..) -/
def pick {α : Type} (ix : List (Bool × Nat)) (us ws : List α) : List α := ix.filterMap fun q => if q.1 then ws[q.2]? else us[q.2]?
theorem Reps.pick {G : Gm} {μ : List Addr} {H : Hp} {ds zs : List D} {vs ws : List V} (r : Reps G μ H ds vs) (q : Reps G μ H zs ws) : ∀ ix : List (Bool × Nat), Reps G μ H (Fl.pick ix ds zs) (Fl.pick ix vs ws)
  | [] => .nil
  | (b, i) :: ix => by
    have ih := Reps.pick r q ix
    unfold Fl.pick at ih ⊢
    rw [List.filterMap_cons, List.filterMap_cons]
    have key : ∀ {as : List D} {us : List V}, Reps G μ H as us → (as[i]? = none ∧ us[i]? = none) ∨ ∃ d v, as[i]? = some d ∧ us[i]? = some v ∧ Rep G μ H d v := fun {as us} r => by
      cases e : as[i]? with
      | none =>
        have h1 : as.length ≤ i := List.getElem?_eq_none_iff.mp e
        exact .inl ⟨rfl, List.getElem?_eq_none_iff.mpr (by rw [← r.length]; exact h1)⟩
      | some d =>
        obtain ⟨v, h1, h2⟩ := r.get e
        exact .inr ⟨d, v, rfl, h1, h2⟩
    cases b with
    | true =>
      rcases key q with ⟨h1, h2⟩ | ⟨d, v, h1, h2, h3⟩
      · simp only [if_true, h1, h2]; exact ih
      · simp only [if_true, h1, h2]; exact .cons h3 ih
    | false =>
      rcases key r with ⟨h1, h2⟩ | ⟨d, v, h1, h2, h3⟩
      · simp only [Bool.false_eq_true, if_false, h1, h2]; exact ih
      · simp only [Bool.false_eq_true, if_false, h1, h2]; exact .cons h3 ih
theorem Vals.pick {vs zs : List V} {us ws : List Value} (r : Vals vs us) (q : Vals zs ws) : ∀ ix : List (Bool × Nat), Vals (Fl.pick ix vs zs) (Fl.pick ix us ws)
  | [] => .nil
  | (b, i) :: ix => by
    have ih := Vals.pick r q ix
    unfold Fl.pick at ih ⊢
    rw [List.filterMap_cons, List.filterMap_cons]
    have key : ∀ {as : List V} {us : List Value}, Vals as us → (as[i]? = none ∧ us[i]? = none) ∨ ∃ d v, as[i]? = some d ∧ us[i]? = some v ∧ RelV d v := fun {as us} r => by
      cases e : as[i]? with
      | none => exact .inl ⟨rfl, r.none_of e⟩
      | some d =>
        obtain ⟨v, h1, h2⟩ := r.get e
        exact .inr ⟨d, v, rfl, h1, h2⟩
    cases b with
    | true =>
      rcases key q with ⟨h1, h2⟩ | ⟨d, v, h1, h2, h3⟩
      · simp only [if_true, h1, h2]; exact ih
      · simp only [if_true, h1, h2]; exact .cons h3 ih
    | false =>
      rcases key r with ⟨h1, h2⟩ | ⟨d, v, h1, h2, h3⟩
      · simp only [Bool.false_eq_true, if_false, h1, h2]; exact ih
      · simp only [Bool.false_eq_true, if_false, h1, h2]; exact .cons h3 ih
structure DfK (P : Program) (w : World) (K : PySem.W.Frag) (mg : Str → Option Value) (base : Heap) (x : Str) (ps : List Str) (F : List D → Store → R D) (k n : Nat) (ks : List Str) (ix : List (Bool × Nat)) : Prop where
  is_ : ∃ f fd, mg x = some (.ref f) ∧ PySem.W.keepIn K (.ref f) = true ∧ (∀ (s : Shared) (us ws : List Value), us.length = n → ws.length = ks.length → BindsTo s fd ⟨us, ks.zip ws⟩ (ps.zip (pick ix us ws))) ∧ FnOk P w K mg base (L2N.CX P w) k f fd ps (spD ⟨K, mg⟩ F ps.length)
def rCallK (n m : Nat) (ix : List (Bool × Nat)) (p : Nat) (F : List D → Store → R D) (fa fk : RA) : RE := fun ρ M => (fa ρ M).bind fun ds M1 => (fk ρ M1).bind fun zs M2 => if ds.length = n ∧ zs.length = m ∧ (pick ix ds zs).length = p then F (pick ix ds zs) M2 else .no
section
variable {X : Cx} {W : WX} {x : Str} {ps ks : List Str} {F : List D → Store → R D} {k n : Nat} {ix : List (Bool × Nat)} {e : Expr} {es : List Expr} {kws : List Keyword} {fs fk : RA} {p pos kpos : Pos} {nm : Option Str} {fe : RE}
theorem k_nil : PK X [] (tA (gm X) W rNil) := ⟨fun pos pins s σ H Q I h => pk_nil.run pos pins s σ H Q I (by
  obtain ⟨μ, ρ, M, hE, hS, hF⟩ := h
  exact hF μ [] H (.refl _) (List.prefix_refl _) hS .nil)⟩
theorem k_cons (ha : PE X e (tE (gm X) W fe)) (hr : PK X kws (tA (gm X) W fk)) : PK X (⟨nm, e, kpos⟩ :: kws) (tA (gm X) W (rCons fe fk)) := ⟨fun pos pins s σ H Q I h => (pk_cons ha hr).run pos pins s σ H Q I (by
  refine (tX.bind h).mono fun v H1 g1 => ?_
  refine (Go.bind Rep.mono g1).mono fun vs H2 ⟨μ, ρ, M, x, xs, hE, hS, rx, rxs, hF⟩ => ?_
  exact hF μ (v :: vs) H2 (.refl _) (List.prefix_refl _) hS (.cons rx rxs))⟩
theorem callK_in {σ : St} {H : Hp} {Q : VK} {m q : Nat} (h : tE (gm X) W (rCallK n m ix q F fs fk) σ H Q) : tA (gm X) W fs σ H fun vs H1 => tA (gm X) W fk σ H1 fun zs H2 => vs.length = n ∧ zs.length = m ∧ spD (gm X) F q (pick ix vs zs) H2 Q (WE W σ) := by
  refine (tX.bind h).mono fun vs H1 g1 => ?_
  refine (Go.bind Reps.mono g1).mono fun zs H2 ⟨μ, ρ, M, ds, es, hE, hS, rx, rxs, hF⟩ => ?_
  have hF : Fin (gm X) (Rep (gm X)) W μ σ H2 Q (if ds.length = n ∧ es.length = m ∧ (pick ix ds es).length = q then F (pick ix ds es) M else .no) := hF
  split at hF
  · rename_i hn
    have r := rx.pick rxs ix
    exact ⟨by rw [rx.len_eq]; exact hn.1, by rw [rxs.len_eq]; exact hn.2.1, μ, pick ix ds es, M, by rw [r.len_eq]; exact hn.2.2, r, hS, FinC_of hF⟩
  · exact hF.elim
theorem runK {pins : List (Addr × Obj)} {σ : St} {H : Hp} {s : Shared} {Q : VK} {us ws : List Value} {vs zs : List V} {f : Addr} {fd : FuncData} (h4 : FnOk X.prog X.w X.K X.mg X.base (L2N.CX X.prog X.w) k f fd ps (spD (gm X) F ps.length)) (hr : Room k X.A) (tk : L2N.Takes X W)
    (hb : ∀ (s : Shared) (us ws : List Value), us.length = n → ws.length = ks.length → BindsTo s fd ⟨us, ks.zip ws⟩ (ps.zip (pick ix us ws))) (I : Inv X pins σ H s) (r : Vals vs us) (rz : Vals zs ws) (l1 : vs.length = n) (l2 : zs.length = ks.length) (h : spD (gm X) F ps.length (pick ix vs zs) H Q (WE W σ)) :
    wpAny (model X.prog X.w) X.A (call (.ref f) us (ks.zip ws)) (EP X pins σ Q) X.xe s := by
  refine wpAny_call (codeAny_mono (h4.run X.A X.stack s H ⟨us, ks.zip ws⟩ (pick ix us ws) (pick ix vs zs) Q (WE W σ) hr I.env0 (hb s us ws (by rw [← r.length]; exact l1) (by rw [← rz.length]; exact l2)) (Vals.pick r rz ix) h) fun r s' hq => ?_)
  cases r with
  | error e => exact L2N.passAt tk σ pins H s e s' I hq
  | ok fl =>
    cases fl with
    | ret u => exact I.after hq
    | next => exact False.elim hq
    | brk => exact False.elim hq
    | cont => exact False.elim hq
/-- keywords alone -/
theorem i_callK0 (D : DfK X.prog X.w X.K X.mg X.base x ps F k 0 ks ix) (hr : Room k X.A) (hg : Gl X x) (tk : L2N.Takes X W) (hkw : PK X kws (tA (gm X) W fk)) (hall : (backToKw pos (keywordEach kws X.env)).all (·.1.isSome) = true := by rfl) (hks : (backToKw pos (keywordEach kws X.env)).filterMap (·.1) = ks := by rfl)
    (hdb : (x == ("__debug__" : Str)) = false := by decide) (hpl : ((backTo pos (starEach [] X.env)).any (·.1) || (backToKw pos (keywordEach kws X.env)).any (·.1.isNone)) = false := by rfl) :
    PE X (.Call (.Name x p) [] kws pos) (tE (gm X) W (rCallK 0 ks.length ix ps.length F rNil fk)) := by
  obtain ⟨f, fd, h1, h2, h3, h4⟩ := D.is_
  refine ⟨fun pins s σ H Q I h => ?_⟩
  have h0 := callK_in h
  have h0' : tA (gm X) W fk σ H fun zs H2 => zs.length = ks.length ∧ spD (gm X) F ps.length (pick ix [] zs) H2 Q (WE W σ) := by
    obtain ⟨μ, ρ, M, hE, hS, hF⟩ := h0
    have := hF μ [] H (.refl _) (List.prefix_refl _) hS .nil
    exact this.mono fun zs H2 z => ⟨z.2.1, z.2.2⟩
  refine wpAny_Call_Name_kw (ld_glob I hg h1 ?_ hdb)
  refine PySem.W.callWith_KW0 (h₀ := X.base) I.ok.mod.kin h2 hall (thn (hkw.run pos pins s σ H _ I h0') fun ws s2 ⟨zs, H2, I2, rz, q2⟩ => ⟨I2.kIn, ?_⟩) hpl
  rw [hks]
  exact runK h4 hr tk h3 I2 .nil rz rfl q2.1 q2.2
/-- positional ones and keywords -/
theorem i_callK (D : DfK X.prog X.w X.K X.mg X.base x ps F k n ks ix) (hr : Room k X.A) (hg : Gl X x) (tk : L2N.Takes X W) (ha : PA X (e :: es) (tA (gm X) W fs)) (hkw : PK X kws (tA (gm X) W fk)) (hall : (backToKw pos (keywordEach kws X.env)).all (·.1.isSome) = true := by rfl) (hks : (backToKw pos (keywordEach kws X.env)).filterMap (·.1) = ks := by rfl)
    (hdb : (x == ("__debug__" : Str)) = false := by decide) (he : starEach (e :: es) X.env = (false, eval e X.env) :: starEach es X.env := by rfl) (hpl : ((backTo pos (starEach (e :: es) X.env)).any (·.1) || (backToKw pos (keywordEach kws X.env)).any (·.1.isNone)) = false := by rfl) :
    PE X (.Call (.Name x p) (e :: es) kws pos) (tE (gm X) W (rCallK n ks.length ix ps.length F fs fk)) := by
  obtain ⟨f, fd, h1, h2, h3, h4⟩ := D.is_
  refine ⟨fun pins s σ H Q I h => ?_⟩
  refine wpAny_Call_Name_kw (ld_glob I hg h1 ?_ hdb)
  refine PySem.W.callWith_KW (h₀ := X.base) I.ok.mod.kin h2 hall (thn (ha.run pos pins s σ H _ I (callK_in h)) fun us s1 ⟨vs, H1, I1, r, q⟩ => ?_) hpl he
  refine thn (hkw.run pos pins s1 σ H1 _ I1 q) fun ws s2 ⟨zs, H2, I2, rz, q2⟩ => ⟨I2.kIn, ?_⟩
  rw [hks]
  exact runK h4 hr tk h3 I2 r rz q2.1 q2.2.1 q2.2.2
end
/-! ### facts of the head -/
/-! the value u is the data x, in the written part -/
mutual
def pB (K : PySem.W.Frag) : P → Value → Bool
  | .non, .none => true
  | .bl b, .bool c => b == c
  | .int i, .int j _ => decide (i = j)
  | .str x, .str y _ => decide (x = y)
  | .tup xs, .ref a => (match K.lookup a with
    | some ⟨.type c, _, .seq its _, _⟩ => decide (c = "tuple") && (decide (its.size ≤ sizeLine) && pBs K xs its.toList)
    | _ => false)
  | _, _ => false
def pBs (K : PySem.W.Frag) : List P → List Value → Bool
  | [], [] => true
  | x :: xs, u :: us => pB K x u && pBs K xs us
  | _, _ => false
end
mutual
theorem pB_ok {K : PySem.W.Frag} : ∀ {x : P} {u : Value}, pB K x u = true → ∃ v, RelV v u ∧ ∀ H, RepP K H x v
  | .non, u, h => by
    cases u with
    | none => exact ⟨.non, rfl, fun H => by simp only [RepP]⟩
    | _ => simp [pB] at h
  | .bl b, u, h => by
    cases u with
    | bool c =>
      have e : b = c := by simpa [pB] using h
      exact ⟨.bl c, rfl, fun H => by simp only [RepP, e]⟩
    | _ => simp [pB] at h
  | .int i, u, h => by
    cases u with
    | int j t =>
      have e : i = j := by simpa [pB] using h
      exact ⟨.int j, ⟨t, rfl⟩, fun H => by simp only [RepP, e]⟩
    | _ => simp [pB] at h
  | .str i, u, h => by
    cases u with
    | str j t =>
      have e : i = j := by simpa [pB] using h
      exact ⟨.str j, ⟨t, rfl⟩, fun H => by simp only [RepP, e]⟩
    | _ => simp [pB] at h
  | .tup xs, u, h => by
    cases u with
    | ref a =>
      simp only [pB] at h
      split at h
      · rename_i c od its n sl e
        simp only [Bool.and_eq_true, decide_eq_true_eq] at h
        obtain ⟨h1, h2, h3⟩ := h
        obtain ⟨vs, r1, r2⟩ := pBs_ok h3
        refine ⟨.ref a, rfl, fun H => ?_⟩
        simp only [RepP]
        exact ⟨a, vs, rfl, .inr ⟨_, its, n, e, by rw [h1], rfl, h2, r1⟩, r2 H⟩
      · cases h
    | _ => simp [pB] at h
theorem pBs_ok {K : PySem.W.Frag} : ∀ {xs : List P} {us : List Value}, pBs K xs us = true → ∃ vs, Vals vs us ∧ ∀ H, RepPs K H xs vs
  | [], [], _ => ⟨[], .nil, fun H => by simp only [RepPs]⟩
  | [], _ :: _, h => by simp [pBs] at h
  | _ :: _, [], h => by simp [pBs] at h
  | x :: xs, u :: us, h => by
    simp only [pBs, Bool.and_eq_true] at h
    obtain ⟨v, r1, r2⟩ := pB_ok h.1
    obtain ⟨vs, r3, r4⟩ := pBs_ok h.2
    exact ⟨v :: vs, .cons r1 r3, fun H => by simp only [RepPs]; exact ⟨v, vs, rfl, r2 H, r4 H⟩⟩
end
/-- the module's name x stands for the data d -/
def cB (K : PySem.W.Frag) (x : Str) (d : P) : Bool := match PySem.W.nsIn K mainGlobals x with
  | some (some u) => pB K d u
  | _ => false
theorem cB_ok {K : PySem.W.Frag} {mg : Str → Option Value} {h : Heap} {x : Str} {d : P} (X : K.In h) (G : h.Ns mainGlobals mg) (c : cB K x d = true) : Cst ⟨K, mg⟩ x (.p d) := by
  unfold cB at c
  split at c
  · rename_i u e
    obtain ⟨v, r1, r2⟩ := pB_ok c
    exact ⟨v, u, PySem.W.mg_of X G e, r1, fun μ H => by simpa only [Rep] using r2 H⟩
  · cases c
/-- what a name of the top is asked for: data, or a builtin -/
inductive CK where
  | p : P → CK
  | b : String → CK
def cK (K : PySem.W.Frag) (x : Str) : CK → Bool
  | .p d => cB K x d
  | .b id => match PySem.W.nsIn K mainGlobals x with
    | some (some (.builtin j)) => decide (j = id)
    | _ => false
theorem cK_b {K : PySem.W.Frag} {mg : Str → Option Value} {h : Heap} {x : Str} {id : String} (X : K.In h) (G : h.Ns mainGlobals mg) (c : cK K x (.b id) = true) : mg x = some (.builtin id) := by
  unfold cK at c
  dsimp only at c
  split at c
  · rename_i j e
    have e2 : j = id := by simpa using c
    subst e2
    exact PySem.W.mg_of X G e
  · cases c
abbrev AlX : Type := He.AlD × Bool
def obsX (fa : List He.Fa) (fn : List He.DefD) (cs : List (Str × CK)) (K : PySem.W.Frag) : AlX := (He.obsD fa fn K, cs.all fun q => cK K q.1 q.2)
def valX (fn : List He.DefD) : AlX := (He.valD fn, true)
def obsXG (n : Nat) (fa : List He.Fa) (fn : List He.DefD) (cs : List (Str × CK)) (g : Addr → Option Obj) : AlX := obsX fa fn cs (He.frG g (He.asD g n))
structure SaysX (fa : List He.Fa) (fn : List He.DefD) (cs : List (Str × CK)) (K : PySem.W.Frag) : Prop where
  d : He.SaysD fa fn K
  c : ∀ q ∈ cs, cK K q.1 q.2 = true
def hookX (n : Nat) (fa : List He.Fa) (fn : List He.DefD) (cs : List (Str × CK)) : PySem.W.Hook where
  α := AlX
  obs := fun s => obsXG n fa fn cs s.heap.get?
  val := fun _ => valX fn
  says := fun _ h => ∃ K : PySem.W.Frag, K.In h ∧ SaysX fa fn cs K
  of := fun _ _ e => ⟨_, He.frG_in, congrArg (fun z : AlX => z.1) e, List.all_eq_true.mp (congrArg (fun z : AlX => z.2) e)⟩
  keeps := fun _ _ _ ⟨K, hK, c⟩ k => ⟨K, PySem.W.Frag.In.keeps hK k, c⟩
theorem obsXG_eq {n : Nat} {fa : List He.Fa} {fn : List He.DefD} {cs : List (Str × CK)} {g : Addr → Option Obj} {s : Shared} (h : ∀ a, g a = s.heap.get? a) : obsXG n fa fn cs g = (hookX n fa fn cs).obs s := by
  have e : g = s.heap.get? := funext h
  rw [e] <;> rfl
theorem exc_C {K : PySem.W.Frag} {mg : Str → Option Value} {h : Heap} {x : Str} (X : K.In h) (G : h.Ns mainGlobals mg) (c : (He.Fa.exc x).ok K = true) (g : (He.Fa.glo x).ok K = true) : ExC ⟨K, mg⟩ x (He.ga K x) := by
  obtain ⟨h1, h2, h3, h4⟩ := He.exc_ok c
  exact ⟨He.glo_ok X G g, h1, h2, h3, h4⟩
theorem exm_C {K : PySem.W.Frag} {mg : Str → Option Value} {h : Heap} {x y : Str} {b : Bool} (X : K.In h) (G : h.Ns mainGlobals mg) (c : (He.Fa.exm x y b).ok K = true) (g : (He.Fa.glo x).ok K = true) : PySem.W.exmOne K (cval ⟨K, mg⟩ x) (.ref (He.ga K y)) = some b := by
  have e : cval ⟨K, mg⟩ x = .ref (He.ga K x) := by
    unfold cval
    show (mg x).getD .none = _
    rw [He.glo_ok X G g]
    rfl
  rw [e]
  exact He.exm_ok c
theorem hu_r {A : Around} {k : Nat} (r : Room k A) : A.units + 120 < cLine := by have := r.un; omega
theorem df_mk {P : Program} {w : World} {K : PySem.W.Frag} {mg : Str → Option Value} {base : Heap} {x qual : Str} {params : Arguments} {body : List Stmt} {scope : Scope} {f : Addr} {fd : FuncData} {ps : List Str} {F : List D → Store → R D} {k : Nat}
    (Fu : FunD K x qual params body scope [] [] f fd) (g : mg x = some (.ref f)) (b : Binds K fd ps []) (h : FnOk P w K mg base (L2N.CX P w) k f fd ps (spD ⟨K, mg⟩ F ps.length)) : Df P w K mg base x ps F k := ⟨f, fd, g, Fu.kp, b, h⟩
/-- the law's end: F tells True of every script -/
theorem law_spec {K : PySem.W.Frag} {mg : Str → Option Value} {F : List D → Store → R D} {n : Nat} (hF : ∀ ns : List Int, ns.length ≤ n → ∃ M, F [.ref 0] [.ro (ns.map fun i => .p (.int i))] = .ok (.p (.bl true)) M) :
    ∀ (H : Hp) (a : Addr) (ns : List Int), ns.length ≤ n → Only H → SqL K H a (ns.map V.int) → spD ⟨K, mg⟩ F 1 [.ref a] H (fun v _ => v = .bl true) fun _ _ _ => False := by
  intro H a ns hl hO hq
  have ha : RoL K H a (ns.map V.int) := by
    rcases hq with (hq | hq) | hq
    · rcases hO a with z | ⟨o, xs, z⟩
      · rw [z] at hq; cases hq
      · rw [z] at hq; cases hq
    · exact .inl hq
    · exact .inr hq
  obtain ⟨M, e⟩ := hF ns hl
  refine ⟨[a], [.ref 0], [.ro (ns.map fun i => .p (.int i))], rfl, .cons (Rep.ref.mpr ⟨a, rfl, rfl⟩) .nil, ?_, ?_⟩
  · refine ⟨rfl, fun i j b x y h1 h2 h3 h4 => ?_, fun l b ob h1 h2 => ?_⟩
    · cases i with
      | zero => cases h3; exact .inl rfl
      | succ i => simp at h3
    cases l with
    | zero =>
      cases h1
      cases h2
      refine ⟨ns.map V.int, ha, ?_⟩
      clear ha hl e hq
      induction ns with
      | nil => exact .nil
      | cons x xs ih => exact .cons (Rep.int.mpr rfl) ih
    | succ l => simp at h1
  · rw [e]
    exact fun μ' v H' _ _ _ r => Rep.bl.mp r
/-- a law: F gives the written part, the function object, the promise over every base; what leaves may hang on the world -/
theorem walk_ofXE {l : PySem.W.OpenLaw} {n k : Nat} {q : Program} {loose : List Str} {XP : (Str → Option Value) → Heap → Prop} {YP : World → Heap → Prop} {d : DefRec} {CX : World → CXT} {x : Str}
    (hn : l.most = some n) (hn2 : n ≤ sizeLine) (hdf : d.params.defaults = []) (hr : Room k callerA)
    (F : ∀ (w : World) (mg : Str → Option Value) (fa : Addr) (h : Heap), YP w h → h.Ns mainGlobals mg → mg d.name = some (.ref fa) →
      ∃ (K : PySem.W.Frag) (fd : FuncData) (sp : Sp), K.In h ∧ (∀ (s : Shared) (u : Value), BindsTo s fd ⟨[u], []⟩ [(x, u)]) ∧
        (∀ (H : Hp) (a : Addr) (ns : List Int), ns.length ≤ n → Only H → SqL K H a (ns.map V.int) → sp [.ref a] H (fun v _ => v = .bl true) fun _ _ _ => False) ∧
        ∀ base : Heap, K.In base → base.Ns mainGlobals mg → FnOk l.prog w K mg base (CX w) k fa fd [x] sp)
    (hCX : ∀ (w : World) (H : Hp) (s : Shared) (e : Value) (s' : Shared), CX w [] H s (fun _ _ _ => False) e s' → False) :
    PySem.W.WalkO q loose XP YP l.row.toRowW d [] (fun f vs => PySem.call f vs) := by
  refine Att.attach_call hn hdf fun w s₀ s₁ mg mb fa o pm cd doc a vs ns G Y ho hd hcd hmg hobj hints hlen hg => ?_
  obtain ⟨K, fd, sp, KX, hb, hsp, hF⟩ := F w mg fa _ Y G.T.g hmg
  exact law_call KX G.T.g G.T.b G.T.builtins G.T.nolimit hg hobj hints (Nat.le_trans hlen hn2) hr hF hb (fun H hO hS => hsp H a ns hlen hO hS) fun H e s' => hCX w H s₁ e s'
theorem bi_len : bootBuiltins "len" = some (.builtin "len") := by decide +kernel
theorem bi_abs : bootBuiltins "abs" = some (.builtin "abs") := by decide +kernel
theorem bi_min : bootBuiltins "min" = some (.builtin "min") := by decide +kernel
theorem bi_max : bootBuiltins "max" = some (.builtin "max") := by decide +kernel
theorem bi_sorted : bootBuiltins "sorted" = some (.builtin "sorted") := by decide +kernel
theorem bi_int : bootBuiltins "int" = some (.type "int") := by decide +kernel
theorem bi_bool : bootBuiltins "bool" = some (.type "bool") := by decide +kernel
theorem bi_str : bootBuiltins "str" = some (.type "str") := by decide +kernel
theorem bi_list : bootBuiltins "list" = some (.type "list") := by decide +kernel
theorem bi_tuple : bootBuiltins "tuple" = some (.type "tuple") := by decide +kernel
theorem bi_dict : bootBuiltins "dict" = some (.type "dict") := by decide +kernel
/-- F is told of a body's reading -/
def Ref (n N : Nat) (F : List D → Store → R D) (m : RS) : Prop := ∀ ds M, ds.length = n → Grows M (F ds M) ∧ Tells (F ds M) (bodyR (m (startD N ds) M))
/-- nothing is promised -/
theorem fnok_no {P : Program} {w : World} {K : PySem.W.Frag} {mg : Str → Option Value} {base : Heap} {G : Gm} {k n : Nat} {f : Addr} {fd : FuncData} {ps : List Str} : FnOk P w K mg base (L2N.CX P w) k f fd ps (spD G (fun _ _ => .no) n) :=
  ⟨fun _ _ _ _ ⟨_, _, _, _, _, _, z⟩ => z.elim, fun _ _ _ _ _ _ _ _ _ _ _ _ _ ⟨_, _, _, _, _, _, z⟩ => z.elim⟩
end Fl

set_option Elab.async false
set_option linter.all false
set_option maxRecDepth 100000
/-! Fl, part S: readings are reckoned by simp; loops by folds and invariants. -/
namespace Fl
open PySem PySem.Spec L2
set_option autoImplicit false
def oK {α β : Type} (o : Option (α × β)) (f : α → β → Out) : Out := match o with
  | some (a, b) => f a b
  | none => .no
@[simp] theorem oK_some {α β : Type} (a : α) (b : β) (f : α → β → Out) : oK (some (a, b)) f = f a b := (rfl)
@[simp] theorem oK_none {α β : Type} (f : α → β → Out) : oK (none : Option (α × β)) f = .no := (rfl)
section
variable {ρ : Env} {M : Store}
@[simp] theorem e_var (i : Nat) : rVar i ρ M = (match ρ[i]? with
  | some (some d) => .ok d M
  | _ => .no) := (rfl)
@[simp] theorem e_C (d : D) : rC d ρ M = .ok d M := (rfl)
@[simp] theorem e_bin (op fa fb) : rBin op fa fb ρ M = (fa ρ M).bind fun x M1 => (fb ρ M1).bind fun y M2 => ofO (op x y M2) := (rfl)
@[simp] theorem e_un (op fa) : rUn op fa ρ M = (fa ρ M).bind fun x M1 => ofO (op x M1) := (rfl)
def tsK (o : Option Bool) (M : Store) : R Bool := match o with
  | some b => .ok b M
  | none => .no
@[simp] theorem tsK_some (b : Bool) : tsK (some b) M = .ok b M := (rfl)
@[simp] theorem e_tst (t fa) : rTst t fa ρ M = (fa ρ M).bind fun x M1 => tsK (t x M1) M1 := (rfl)
@[simp] theorem e_tand (f g : RT) : rtAnd f g ρ M = (f ρ M).bind fun b M1 => if b = true then g ρ M1 else .ok false M1 := by
  unfold rtAnd; congr; funext b M1; cases b <;> simp
@[simp] theorem e_tor (f g : RT) : rtOr f g ρ M = (f ρ M).bind fun b M1 => if b = true then .ok true M1 else g ρ M1 := by
  unfold rtOr; congr; funext b M1; cases b <;> simp
@[simp] theorem e_tnot (f : RT) : rtNot f ρ M = (f ρ M).bind fun b M1 => .ok (!b) M1 := (rfl)
@[simp] theorem e_not (f : RT) : rNot f ρ M = (f ρ M).bind fun b M1 => .ok (.p (.bl (!b))) M1 := (rfl)
@[simp] theorem e_if (t : RT) (f g : RE) : rIf t f g ρ M = (t ρ M).bind fun b M1 => if b = true then f ρ M1 else g ρ M1 := by
  unfold rIf; congr; funext b M1; cases b <;> simp
def chK (o : Option (D × Store)) (f : Store → R D) : R D := match o with
  | some (.p (.bl true), M3) => f M3
  | some (.p (.bl false), M3) => .ok (.p (.bl false)) M3
  | _ => .no
@[simp] theorem chK_bl (b : Bool) (M : Store) (f : Store → R D) : chK (some (.p (.bl b), M)) f = if b = true then f M else .ok (.p (.bl false)) M := by cases b <;> rfl
@[simp] theorem e_chain (op op' fa fb fc) : rChain op op' fa fb fc ρ M = (fa ρ M).bind fun x M1 => (fb ρ M1).bind fun y M2 => chK (op x y M2) fun M3 => (fc ρ M3).bind fun z M4 => ofO (op' y z M4) := (rfl)
def trK {α : Type} (o : Option Bool) (f g : R α) : R α := match o with
  | some true => f
  | some false => g
  | none => .no
@[simp] theorem trK_some {α : Type} (b : Bool) (f g : R α) : trK (some b) f g = if b = true then f else g := by cases b <;> rfl
@[simp] theorem e_and (f g : RE) : rAnd f g ρ M = (f ρ M).bind fun x M1 => trK (truthD x M1) (g ρ M1) (.ok x M1) := (rfl)
@[simp] theorem e_or (f g : RE) : rOr f g ρ M = (f ρ M).bind fun x M1 => trK (truthD x M1) (.ok x M1) (g ρ M1) := (rfl)
@[simp] theorem e_nil : rNil ρ M = .ok [] M := (rfl)
@[simp] theorem e_cons (f g) : rCons f g ρ M = (f ρ M).bind fun x M1 => (g ρ M1).bind fun xs M2 => .ok (x :: xs) M2 := (rfl)
@[simp] theorem e_tup (f) : rTup f ρ M = (f ρ M).bind fun xs M1 => if xs.length ≤ 1000 then .ok (mkTup xs) M1 else .no := (rfl)
@[simp] theorem e_lst (f) : rLst f ρ M = (f ρ M).bind fun xs M1 => if xs.length ≤ 1000 then .ok (.ref M1.length) (M1 ++ [.lst xs]) else .no := (rfl)
@[simp] theorem e_CB (op f) : rCB op f ρ M = (f ρ M).bind fun xs M1 => ofO (op xs M1) := (rfl)
@[simp] theorem e_isa (T f) : rIsa T f ρ M = (f ρ M).bind fun x M1 => ofO (cIsa T x M1) := (rfl)
@[simp] theorem e_nopart : rNoPart ρ M = .ok none M := (rfl)
@[simp] theorem e_part (f) : rPart f ρ M = (f ρ M).bind fun x M1 => ofO (asPart x M1) := (rfl)
@[simp] theorem e_sl (f lo hi) : rSl f lo hi ρ M = (f ρ M).bind fun x M1 => (lo ρ M1).bind fun a M2 => (hi ρ M2).bind fun b M3 => ofO (dSl x a b M3) := (rfl)
@[simp] theorem e_rev (f) : rRev f ρ M = (f ρ M).bind fun x M1 => ofO (dRev x M1) := (rfl)
@[simp] theorem e_LM (op fo fs) : rLM op fo fs ρ M = (fo ρ M).bind fun x M1 => if isLst x M1 = true then (fs ρ M1).bind fun xs M2 => ofO (op x xs M2) else .no := by
  unfold rLM; congr; funext x M1; cases isLst x M1 <;> simp
@[simp] theorem e_LM0 (op fo) : rLM0 op fo ρ M = (fo ρ M).bind fun x M1 => if isLst x M1 = true then ofO (op x [] M1) else .no := by
  unfold rLM0; congr; funext x M1; cases isLst x M1 <;> simp
@[simp] theorem e_callN (n F fs) : rCallN n F fs ρ M = (fs ρ M).bind fun ds M1 => if ds.length = n then F ds M1 else .no := (rfl)
@[simp] theorem e_callK (n m ix p F fa fk) : rCallK n m ix p F fa fk ρ M = (fa ρ M).bind fun ds M1 => (fk ρ M1).bind fun zs M2 => if ds.length = n ∧ zs.length = m ∧ (pick ix ds zs).length = p then F (pick ix ds zs) M2 else .no := (rfl)
@[simp] theorem e_skip : rSkip ρ M = .nx ρ M := (rfl)
@[simp] theorem e_seq (a b) : rSeq a b ρ M = (a ρ M).bind b := (rfl)
@[simp] theorem e_expr (f) : rExpr f ρ M = (f ρ M).out ρ fun _ M1 => .nx ρ M1 := (rfl)
@[simp] theorem e_ret (f) : rRet f ρ M = (f ρ M).out ρ fun d M1 => .rt d M1 := (rfl)
@[simp] theorem e_retN : rRetN ρ M = .rt (.p .non) M := (rfl)
@[simp] theorem e_break : rBreak ρ M = .bk ρ M := (rfl)
@[simp] theorem e_cont : rCont ρ M = .ct ρ M := (rfl)
@[simp] theorem e_ifS (t a b) : rIfS t a b ρ M = (t ρ M).out ρ fun k M1 => if k = true then a ρ M1 else b ρ M1 := by
  unfold rIfS; congr; funext k M1; cases k <;> simp
@[simp] theorem e_set (i f) : rSet i f ρ M = (f ρ M).out ρ fun d M1 => .nx (ρ.set i (some d)) M1 := (rfl)
@[simp] theorem e_asg (f g) : rAsg f g ρ M = (f ρ M).out ρ fun d M1 => oK (g d ρ M1) fun ρ2 M2 => .nx ρ2 M2 := by
  unfold rAsg; congr; funext ds M1; rcases g ds ρ M1 with _ | ⟨a, b⟩ <;> rfl
@[simp] theorem e_par (i j f) : rPar i j f ρ M = (f ρ M).out ρ fun ds M1 => match ds with
  | [x, y] => .nx ((ρ.set i (some x)).set j (some y)) M1
  | _ => .no := (rfl)
@[simp] theorem e_gNm (i d) : gNm i d ρ M = some (ρ.set i (some d), M) := (rfl)
@[simp] theorem e_gNi : gNi [] ρ M = some (ρ, M) := (rfl)
@[simp] theorem e_gCo (g gs d r) : gCo g gs (d :: r) ρ M = (match g d ρ M with
  | some (ρ1, M1) => gs r ρ1 M1
  | none => none) := (rfl)
@[simp] theorem e_gTp (n gs d) : gTp n gs d ρ M = (match tupD d with
  | some xs => if xs.length = n then gs xs ρ M else none
  | none => none) := (rfl)
def vK (o : Option (Option D)) (f : D → Out) : Out := match o with
  | some (some x) => f x
  | _ => .no
@[simp] theorem vK_some (x : D) (f : D → Out) : vK (some (some x)) f = f x := (rfl)
@[simp] theorem e_aug (i op f) : rAug i op f ρ M = vK ρ[i]? fun x => (f ρ M).out ρ fun y M1 => oK (op x y M1) fun z M2 => .nx (ρ.set i (some z)) M2 := by
  unfold rAug; rcases ρ[i]? with _ | _ | x
  · rfl
  · rfl
  · show (f ρ M).out ρ _ = (f ρ M).out ρ _; congr; funext y M1; rcases op x y M1 with _ | ⟨a, b⟩ <;> rfl
@[simp] theorem e_forR (rg f g body) : rForR rg f g body ρ M = (f ρ M).out ρ fun ds M1 => oK (rg ds) fun lo n => forL none g body (intsD lo n) ρ M1 := by
  unfold rForR; congr; funext ds M1; rcases rg ds with _ | ⟨a, b⟩ <;> rfl
@[simp] theorem e_for (f g body) : rFor f g body ρ M = (f ρ M).out ρ fun d M1 => oK (walkD d M1) fun xs k => forL k g body xs ρ M1 := by
  unfold rFor; congr; funext ds M1; rcases walkD ds M1 with _ | ⟨a, b⟩ <;> rfl
@[simp] theorem e_raise (c) : rRaise c ρ M = .ex c none ρ M := (rfl)
@[simp] theorem e_try (exs a b) : rTry exs a b ρ M = (match a ρ M with
  | .ex c fs ρ1 M1 => (match exs.lookup c with
    | some true => noEx (b ρ1 M1)
    | some false => .ex c fs ρ1 M1
    | none => .no)
  | o => o) := (rfl)
@[simp] theorem e_noEx_nx : noEx (.nx ρ M) = .nx ρ M := (rfl)
@[simp] theorem e_noEx_rt (d) : noEx (.rt d M) = .rt d M := (rfl)
@[simp] theorem e_body_nx : bodyR (.nx ρ M) = .ok (.p .non) M := (rfl)
@[simp] theorem e_body_rt (d) : bodyR (.rt d M) = .ok d M := (rfl)
@[simp] theorem e_body_ex (c fs) : bodyR (.ex c fs ρ M) = .ex c fs M := (rfl)
@[simp] theorem e_body_no : bodyR .no = .no := (rfl)
end
@[simp] theorem mkTup_nil : mkTup [] = .p (.tup []) := (rfl)
theorem mkTup_map (xs : List P) : mkTup (xs.map D.p) = .p (.tup xs) := by unfold mkTup; rw [allP_map]
@[simp] theorem mkTup_1 (a : P) : mkTup [.p a] = .p (.tup [a]) := (rfl)
@[simp] theorem mkTup_2 (a b : P) : mkTup [.p a, .p b] = .p (.tup [a, b]) := (rfl)
@[simp] theorem mkTup_3 (a b c : P) : mkTup [.p a, .p b, .p c] = .p (.tup [a, b, c]) := (rfl)
@[simp] theorem mkTup_4 (a b c d : P) : mkTup [.p a, .p b, .p c, .p d] = .p (.tup [a, b, c, d]) := (rfl)
@[simp] theorem mkTup_5 (a b c d e : P) : mkTup [.p a, .p b, .p c, .p d, .p e] = .p (.tup [a, b, c, d, e]) := (rfl)
@[simp] theorem mkTup_8 (a b c d e f g h : P) : mkTup [.p a, .p b, .p c, .p d, .p e, .p f, .p g, .p h] = .p (.tup [a, b, c, d, e, f, g, h]) := (rfl)
@[simp] theorem tells_no (s : R D) : Tells .no s := trivial
@[simp] theorem grows_no (M : Store) : Grows M .no := trivial
@[simp] theorem tells_same (d : D) (M : Store) : Tells (.ok d M) (.ok d M) := ⟨[], by simp, .inl rfl⟩
@[simp] theorem tells_same_ex (c : Str) (M : Store) : Tells (.ex c none M) (.ex c none M) := ⟨rfl, [], by simp, .inl rfl⟩
@[simp] theorem grows_ok (M M' : Store) (d : D) : Grows M (.ok d M') = (M.length ≤ M'.length) := (rfl)
@[simp] theorem grows_ex (M M' : Store) (c fs) : Grows M (.ex c fs M') = (M.length ≤ M'.length) := (rfl)
@[simp] theorem start_n0 (n : Nat) (ds : List D) : startD n ds = ds.map some ++ List.replicate (n - ds.length) none := (rfl)
/-! ### values -/
@[simp] theorem v_asBool (b M) : asBool (.p (.bl b)) M = some b := (rfl)
@[simp] theorem v_tr_bl (b M) : truthD (.p (.bl b)) M = some b := (rfl)
@[simp] theorem v_tr_int (b M) : truthD (.p (.int b)) M = some (b != 0) := (rfl)
@[simp] theorem v_tr_non (M) : truthD (.p .non) M = some false := (rfl)
@[simp] theorem v_tr_tup (xs M) : truthD (.p (.tup xs)) M = some (!xs.isEmpty) := (rfl)
@[simp] theorem v_add (i j M) : dAdd (.p (.int i)) (.p (.int j)) M = some (.p (.int (i + j)), M) := by simp [dAdd]
@[simp] theorem v_sub (i j M) : dSub (.p (.int i)) (.p (.int j)) M = some (.p (.int (i - j)), M) := (rfl)
theorem v_mul (i j M) (h : mulOk i j) : dMul (.p (.int i)) (.p (.int j)) M = some (.p (.int (i * j)), M) := by simp [dMul, h]
theorem v_div (i j M) (h : divOk j) : dDiv (.p (.int i)) (.p (.int j)) M = some (.p (.int (i / j)), M) := by simp [dDiv, h]
theorem v_mod (i j M) (h : 0 < j) : dMod (.p (.int i)) (.p (.int j)) M = some (.p (.int (i % j)), M) := by
  have h0 : j ≠ 0 := by omega
  simp [dMod, h0, Int.fmod_eq_emod_of_nonneg _ (Int.le_of_lt h)]
theorem v_pow (i j M) (h : 0 ≤ j ∧ j ≤ 1000000 ∧ i.natAbs < 2 ^ 64) : dPow (.p (.int i)) (.p (.int j)) M = some (.p (.int (i ^ j.toNat)), M) := by simp [dPow, h]
@[simp] theorem v_neg (i M) : dNeg (.p (.int i)) M = some (.p (.int (-i)), M) := (rfl)
@[simp] theorem v_lt (i j M) : dLt (.p (.int i)) (.p (.int j)) M = some (.p (.bl (decide (i < j))), M) := (rfl)
@[simp] theorem v_le (i j M) : dLe (.p (.int i)) (.p (.int j)) M = some (.p (.bl (decide (i ≤ j))), M) := (rfl)
@[simp] theorem v_gt (i j M) : dGt (.p (.int i)) (.p (.int j)) M = some (.p (.bl (decide (j < i))), M) := (rfl)
@[simp] theorem v_ge (i j M) : dGe (.p (.int i)) (.p (.int j)) M = some (.p (.bl (decide (j ≤ i))), M) := (rfl)
@[simp] theorem v_eq_i (x : P) (j M) : dEq (.p x) (.p (.int j)) M = some (.p (.bl (P.eqv x (.int j))), M) := by simp [dEq, dOk, P.depth]
@[simp] theorem v_ne_i (x : P) (j M) : dNe (.p x) (.p (.int j)) M = some (.p (.bl (!P.eqv x (.int j))), M) := by simp [dNe, dOk, P.depth]
@[simp] theorem v_eq_s (x : P) (j M) : dEq (.p x) (.p (.str j)) M = some (.p (.bl (P.eqv x (.str j))), M) := by simp [dEq, dOk, P.depth]
@[simp] theorem v_ne_s (x : P) (j M) : dNe (.p x) (.p (.str j)) M = some (.p (.bl (!P.eqv x (.str j))), M) := by simp [dNe, dOk, P.depth]
@[simp] theorem v_eqv_ii (i j) : P.eqv (.int i) (.int j) = decide (i = j) := by rw [P.eqv]; exact (Bool.eq_iff_iff.mpr (by simp))
@[simp] theorem v_eqv_ss (i j : Str) : P.eqv (.str i) (.str j) = decide (i = j) := by rw [P.eqv]; exact (Bool.eq_iff_iff.mpr (by simp))
@[simp] theorem v_eqv_bb (i j) : P.eqv (.bl i) (.bl j) = decide (i = j) := by rw [P.eqv]; exact (Bool.eq_iff_iff.mpr (by simp))
@[simp] theorem v_isN (x : D) (M) : dIsN x (.p .non) M = some (.p (.bl (isNon x)), M) := (rfl)
@[simp] theorem v_notN (x : D) (M) : dNotN x (.p .non) M = some (.p (.bl (!isNon x)), M) := (rfl)
@[simp] theorem v_isNon : isNon (.p .non) = true := (rfl)
@[simp] theorem v_isNon_i (i) : isNon (.p (.int i)) = false := (rfl)
@[simp] theorem v_isNon_t (i) : isNon (.p (.tup i)) = false := (rfl)
@[simp] theorem v_isNon_s (i) : isNon (.p (.str i)) = false := (rfl)
@[simp] theorem v_isNon_b (i) : isNon (.p (.bl i)) = false := (rfl)
@[simp] theorem v_int (i M) : cInt [.p (.int i)] M = some (.p (.int i), M) := (rfl)
@[simp] theorem v_int_b (b M) : cInt [.p (.bl b)] M = some (.p (.int (if b then 1 else 0)), M) := (rfl)
@[simp] theorem v_abs (i M) : cAbs [.p (.int i)] M = some (.p (.int (if i < 0 then -i else i)), M) := (rfl)
@[simp] theorem v_max (i j M) : cMax2 [.p (.int i), .p (.int j)] M = some (.p (.int (max i j)), M) := by
  have e : (if j > i then j else i) = max i j := by omega
  simp only [cMax2, e]
@[simp] theorem v_min (i j M) : cMin2 [.p (.int i), .p (.int j)] M = some (.p (.int (min i j)), M) := by
  have e : (if j < i then j else i) = min i j := by omega
  simp only [cMin2, e]
@[simp] theorem v_isa_i (T : String) (i M) : cIsa T (.p (.int i)) M = some (.p (.bl (isaT "int" T)), M) := (rfl)
@[simp] theorem v_isa_b (T : String) (i M) : cIsa T (.p (.bl i)) M = some (.p (.bl (isaT "bool" T)), M) := (rfl)
@[simp] theorem v_isa_s (T : String) (i M) : cIsa T (.p (.str i)) M = some (.p (.bl (isaT "str" T)), M) := (rfl)
@[simp] theorem v_isa_t (T : String) (i M) : cIsa T (.p (.tup i)) M = some (.p (.bl (isaT "tuple" T)), M) := (rfl)
@[simp] theorem v_isa_n (T : String) (M) : cIsa T (.p .non) M = some (.p (.bl (isaT "NoneType" T)), M) := (rfl)
@[simp] theorem v_len_t (xs M) : cLen [.p (.tup xs)] M = some (.p (.int (xs.length : Int)), M) := (rfl)
@[simp] theorem v_ix_t (xs : List P) (i M) : dIx (.p (.tup xs)) (.p (.int i)) M = (atI (xs.map D.p) i).map fun x => (x, M) := by
  simp only [dIx, rowD]
@[simp] theorem v_tupD (xs : List P) : tupD (.p (.tup xs)) = some (xs.map D.p) := (rfl)
@[simp] theorem v_walk_t (xs : List P) (M) : walkD (.p (.tup xs)) M = some (xs.map D.p, none) := (rfl)
theorem atI_map {α β : Type} (f : α → β) (xs : List α) (i : Int) : atI (xs.map f) i = (atI xs i).map f := by
  unfold atI
  rw [List.length_map]
  cases ixN xs.length i with
  | none => rfl
  | some j => simp
/-! ### loops -/
theorem forL_fold {σ : Type} {k : Option (Nat × O)} {g : RG} {body : RS} (st : σ → Env × Store) (f : σ → D → σ) (I : σ → Prop) : ∀ (xs : List D) (s : σ), I s → (∀ s, I s → chk k (st s).2) →
    (∀ s x, x ∈ xs → I s → I (f s x) ∧ ∃ ρ1 M1, g x (st s).1 (st s).2 = some (ρ1, M1) ∧ (body ρ1 M1 = .nx (st (f s x)).1 (st (f s x)).2 ∨ body ρ1 M1 = .ct (st (f s x)).1 (st (f s x)).2)) →
    forL k g body xs (st s).1 (st s).2 = .nx (st (xs.foldl f s)).1 (st (xs.foldl f s)).2 ∧ I (xs.foldl f s)
  | [], s, hs, hc, h => by
    refine ⟨?_, hs⟩
    unfold forL
    rw [if_pos (hc s hs)]
    rfl
  | x :: xs, s, hs, hc, h => by
    obtain ⟨h1, ρ1, M1, h2, h3⟩ := h s x List.mem_cons_self hs
    have ih := forL_fold st f I xs (f s x) h1 hc fun s y hy => h s y (List.mem_cons_of_mem _ hy)
    refine ⟨?_, ih.2⟩
    unfold forL
    rw [if_pos (hc s hs), h2]
    rcases h3 with h3 | h3
    · simp only [h3]; exact ih.1
    · simp only [h3]; exact ih.1
theorem forL_inv {k : Option (Nat × O)} {g : RG} {body : RS} (xs : List D) (I : Nat → Env → Store → Prop) (hc : ∀ i ρ M, I i ρ M → chk k M)
    (h : ∀ i x ρ M, xs[i]? = some x → I i ρ M → ∃ ρ1 M1 ρ2 M2, g x ρ M = some (ρ1, M1) ∧ (body ρ1 M1 = .nx ρ2 M2 ∨ body ρ1 M1 = .ct ρ2 M2) ∧ I (i + 1) ρ2 M2) :
    ∀ {ρ M}, I 0 ρ M → ∃ ρ' M', forL k g body xs ρ M = .nx ρ' M' ∧ I xs.length ρ' M' := by
  have go : ∀ (n i : Nat) (ρ M), n = xs.length - i → i ≤ xs.length → I i ρ M → ∃ ρ' M', forL k g body (xs.drop i) ρ M = .nx ρ' M' ∧ I xs.length ρ' M' := by
    intro n
    induction n with
    | zero =>
      intro i ρ M hn hi hI
      have e : i = xs.length := by omega
      subst e
      refine ⟨ρ, M, ?_, hI⟩
      rw [List.drop_length]
      unfold forL
      rw [if_pos (hc _ _ _ hI)]
    | succ n ih =>
      intro i ρ M hn hi hI
      have hlt : i < xs.length := by omega
      obtain ⟨ρ1, M1, ρ2, M2, h1, h2, h3⟩ := h i xs[i] ρ M (List.getElem?_eq_getElem hlt) hI
      obtain ⟨ρ', M', h4, h5⟩ := ih (i + 1) ρ2 M2 (by omega) (by omega) h3
      refine ⟨ρ', M', ?_, h5⟩
      rw [List.drop_eq_getElem_cons hlt]
      unfold forL
      rw [if_pos (hc _ _ _ hI), h1]
      rcases h2 with h2 | h2
      · simp only [h2]; exact h4
      · simp only [h2]; exact h4
  intro ρ M hI
  exact go _ 0 ρ M rfl (Nat.zero_le _) hI
/-- some turn may return -/
theorem forL_find {k : Option (Nat × O)} {g : RG} {body : RS} (xs : List D) (I : Nat → Env → Store → Prop) (Q : Out → Prop) (hc : ∀ i ρ M, I i ρ M → chk k M)
    (h : ∀ i x ρ M, xs[i]? = some x → I i ρ M → ∃ ρ1 M1, g x ρ M = some (ρ1, M1) ∧ ((∃ ρ2 M2, (body ρ1 M1 = .nx ρ2 M2 ∨ body ρ1 M1 = .ct ρ2 M2) ∧ I (i + 1) ρ2 M2) ∨ (∃ ρ2 M2, body ρ1 M1 = .bk ρ2 M2 ∧ Q (.nx ρ2 M2)) ∨ (∃ d M2, body ρ1 M1 = .rt d M2 ∧ Q (.rt d M2)) ∨ ∃ c fs ρ2 M2, body ρ1 M1 = .ex c fs ρ2 M2 ∧ Q (.ex c fs ρ2 M2)))
    (hd : ∀ ρ M, I xs.length ρ M → Q (.nx ρ M)) : ∀ {ρ M}, I 0 ρ M → Q (forL k g body xs ρ M) := by
  have go : ∀ (n i : Nat) (ρ M), n = xs.length - i → i ≤ xs.length → I i ρ M → Q (forL k g body (xs.drop i) ρ M) := by
    intro n
    induction n with
    | zero =>
      intro i ρ M hn hi hI
      have e : i = xs.length := by omega
      subst e
      rw [List.drop_length]
      unfold forL
      rw [if_pos (hc _ _ _ hI)]
      exact hd _ _ hI
    | succ n ih =>
      intro i ρ M hn hi hI
      have hlt : i < xs.length := by omega
      obtain ⟨ρ1, M1, h1, h2⟩ := h i xs[i] ρ M (List.getElem?_eq_getElem hlt) hI
      rw [List.drop_eq_getElem_cons hlt]
      unfold forL
      rw [if_pos (hc _ _ _ hI), h1]
      rcases h2 with ⟨ρ2, M2, h2, h3⟩ | ⟨ρ2, M2, h2, h3⟩ | ⟨d, M2, h2, h3⟩ | ⟨c, fs, ρ2, M2, h2, h3⟩
      · have ih' := ih (i + 1) ρ2 M2 (by omega) (by omega) h3
        rcases h2 with h2 | h2
        · simp only [h2]; exact ih'
        · simp only [h2]; exact ih'
      · simp only [h2]; exact h3
      · simp only [h2]; exact h3
      · simp only [h2]; exact h3
  intro ρ M hI
  exact go _ 0 ρ M rfl (Nat.zero_le _) hI
/-- a def that is told by its own reading -/
def tellOk (M : Store) (r : R D) : R D := match r with
  | .ok d M' => if M.length ≤ M'.length then .ok d M' else .no
  | .ex c none M' => if M.length ≤ M'.length then .ex c none M' else .no
  | _ => .no
def selfF (N : Nat) (m : RS) : List D → Store → R D := fun ds M => tellOk M (bodyR (m (startD N ds) M))
theorem ref_self (n N : Nat) (m : RS) : Ref n N (selfF N m) m := by
  intro ds M _
  unfold selfF tellOk
  split
  · rename_i d M' e
    split
    · rename_i h
      exact ⟨h, by rw [e]; exact tells_same d M'⟩
    · exact ⟨trivial, trivial⟩
  · rename_i c M' e
    split
    · rename_i h
      exact ⟨h, by rw [e]; exact tells_same_ex c M'⟩
    · exact ⟨trivial, trivial⟩
  · exact ⟨trivial, trivial⟩
theorem selfF_ok {N : Nat} {m : RS} {ds : List D} {M M' : Store} {d : D} (h : bodyR (m (startD N ds) M) = .ok d M') (hl : M.length ≤ M'.length) : selfF N m ds M = .ok d M' := by
  unfold selfF tellOk
  rw [h]
  exact if_pos hl
theorem selfF_ex {N : Nat} {m : RS} {ds : List D} {M M' : Store} {c : Str} (h : bodyR (m (startD N ds) M) = .ex c none M') (hl : M.length ≤ M'.length) : selfF N m ds M = .ex c none M' := by
  unfold selfF tellOk
  rw [h]
  exact if_pos hl
/-- an answer that does not shrink the store -/
def Gr (M : Store) (r : R D) : Prop := match r with
  | .ok _ M' => M.length ≤ M'.length
  | .ex _ none M' => M.length ≤ M'.length
  | _ => False
theorem selfF_eq {N : Nat} {m : RS} {ds : List D} {M : Store} {r : R D} (h : bodyR (m (startD N ds) M) = r) (hl : Gr M r) : selfF N m ds M = r := by
  unfold selfF tellOk
  rw [h]
  match r, hl with
  | .ok _ M', hl => exact if_pos hl
  | .ex _ none M', hl => exact if_pos hl
theorem mul_small {i j : Int} (h1 : -(2 ^ 64) < j) (h2 : j < 2 ^ 64) : mulOk i j := .inl (.inr ⟨h1, h2⟩)
theorem mul_small' {i j : Int} (h1 : -(2 ^ 64) < i) (h2 : i < 2 ^ 64) : mulOk i j := .inl (.inl ⟨h1, h2⟩)
theorem div_small {j : Int} (h1 : 0 < j) (h2 : j < 2 ^ 1000) : divOk j := wide_div (i := 0) h1 (b := 1000) (by have h3 : (j.natAbs : Int) = j := Int.natAbs_of_nonneg (Int.le_of_lt h1); exact Int.ofNat_lt.mp (by rw [h3]; exact_mod_cast h2)) (by decide) (by decide)
theorem rng1_ok (j : Int) (h0 : 0 ≤ j) (h : j ≤ 1000000000) : rng1 [.p (.int j)] = some (0, j.toNat) := by
  have h1 : -(2 ^ 62) ≤ j ∧ j < 2 ^ 62 := by
    constructor
    · have : (-(2 ^ 62) : Int) ≤ 0 := by decide
      omega
    · have : (1000000000 : Int) < 2 ^ 62 := by decide
      omega
  unfold rng1
  exact if_pos h1
theorem rng2_ok (i j : Int) (h0 : -1000000000 ≤ i) (h1 : i ≤ 1000000000) (h2 : -1000000000 ≤ j) (h3 : j ≤ 1000000000) : rng2 [.p (.int i), .p (.int j)] = some (i, (j - i).toNat) := by
  have a : (-(2 ^ 62) : Int) ≤ -1000000000 := by decide
  have b : (1000000000 : Int) < 2 ^ 62 := by decide
  have h : -(2 ^ 62) ≤ i ∧ i < 2 ^ 62 ∧ -(2 ^ 62) ≤ j ∧ j < 2 ^ 62 := ⟨by omega, by omega, by omega, by omega⟩
  unfold rng2
  exact if_pos h
theorem rng1_len (n : Nat) (h : n ≤ 1000000) : rng1 [.p (.int (n : Int))] = some (0, n) := by
  have e := rng1_ok (n : Int) (by omega) (by omega)
  simpa using e
section
variable {P : Program} {w : World} {K : PySem.W.Frag} {mg : Str → Option Value} {base : Heap}
/-- `fn_D`, with the way out told -/
theorem fn_E {x qual : Str} {params : Arguments} {body : List Stmt} {scope : Scope} {dvs : List V} {kws : List (Str × V)} {f : Addr} {fd : FuncData} {N ps : List Str} {k : Nat} {m : RS} {F : List D → Store → R D}
    (Fu : FunD K x qual params body scope dvs kws f fd) (S : FnScope N ps scope)
    (hb : ∀ (cdv : Value) (A : Around) (outer : List PySem.Env) (s : Shared) (H : Hp) (E : XK), Room k (A.deeper (PyProof.Rows.envOfC qual scope s.heap.objs.size f cdv)) →
      PassesOwn (model P w) (cxOf (L2N.CX P w) P w K mg base N qual scope f cdv A outer s H E).A (cxOf (L2N.CX P w) P w K mg base N qual scope f cdv A outer s H E).env (cxOf (L2N.CX P w) P w K mg base N qual scope f cdv A outer s H E).xe →
      ∀ W : WX, L2N.Takes (cxOf (L2N.CX P w) P w K mg base N qual scope f cdv A outer s H E) W → PSs (cxOf (L2N.CX P w) P w K mg base N qual scope f cdv A outer s H E) body (tS ⟨K, mg⟩ W m))
    (hF : ∀ ds M, ds.length = ps.length → Grows M (F ds M) ∧ Tells (F ds M) (bodyR (m (startD N.length ds) M))) :
    FnOk P w K mg base (L2N.CX P w) (k + 1) f fd ps (spD ⟨K, mg⟩ F ps.length) :=
  fn_D Fu S (fun cdv A outer s H E hr W tk => hb cdv A outer s H E hr (passes_of rfl) W tk) hF
end
end Fl

set_option Elab.async false
set_option linter.all false
set_option maxRecDepth 100000
/-! Fl, part T: builtins under a name of the top; comb and gcd. -/
namespace Fl
open PySem PySem.Spec L2
set_option autoImplicit false
section
variable {X : Cx} {W : WX} {e : Expr} {es : List Expr} {fs : RA} {p pos : Pos}
theorem pe_callM {x : Str} {t : TA} {id : String} {r : List V → Hp → VK → Prop} (hc : CallR X (.builtin id) r) (hg : Gl X x) (hm : X.mg x = some (.builtin id)) (ha : PA X (e :: es) t)
    (hdb : (x == ("__debug__" : Str)) = false := by decide) (he : starEach (e :: es) X.env = (false, eval e X.env) :: starEach es X.env := by rfl) (hpl : (backTo pos (starEach es X.env)).any (·.1) = false := by rfl) :
    PE X (.Call (.Name x p) (e :: es) [] pos) (tCB r t) :=
  ⟨fun pins s σ H Q I h => wpAny_Call_Name_kw (ld_glob I hg hm (PyProof.Rows.callWith_builtin1 (thn (ha.run pos pins s σ H (fun vs H1 => r vs H1 Q) I h) fun us s1 x => match x with
    | ⟨vs, H1, I1, r1, q1⟩ => hc pins s1 σ H1 vs us Q I1 r1 q1) he hpl) hdb)⟩
theorem i_callM {x : Str} {id : String} {op r} (hc : CallR X (.builtin id) r) (hd : CallD (gm X) op r) (hg : Gl X x) (hm : X.mg x = some (.builtin id)) (ha : PA X (e :: es) (tA (gm X) W fs))
    (hdb : (x == ("__debug__" : Str)) = false := by decide) (he : starEach (e :: es) X.env = (false, eval e X.env) :: starEach es X.env := by rfl) (hpl : (backTo pos (starEach es X.env)).any (·.1) = false := by rfl) :
    PE X (.Call (.Name x p) (e :: es) [] pos) (tE (gm X) W (rCB op fs)) :=
  PEimp (pe_callM hc hg hm ha hdb he hpl) fun _ _ _ h => cb_in hd h
theorem vals2 {a b : Int} {us : List Value} (h : Vals [.int a, .int b] us) : ∃ t u, us = [.int a t, .int b u] := by
  cases h with
  | cons h1 h2 =>
    cases h2 with
    | cons h2 h3 =>
      cases h3
      obtain ⟨t, rfl⟩ := h1
      obtain ⟨u, rfl⟩ := h2
      exact ⟨t, u, rfl⟩
def combOk (a b : Int) : Prop := 0 ≤ a ∧ 0 ≤ b ∧ a < 2 ^ 64 ∧ (b ≤ 9000 ∨ a ≤ 18000)
theorem call_comb : CallR X (.builtin "math.comb") (fun xs H Q => ∃ a b, xs = [.int a, .int b] ∧ combOk a b ∧ Q (.int (PySem.W.mcComb a b)) H) := by
  intro pins s σ H xs us Q I vs h
  obtain ⟨a, b, rfl, ⟨h1, h2, h3, h4⟩, hq⟩ := h
  obtain ⟨t, u, rfl⟩ := vals2 vs
  exact PySem.W.mc_comb h1 h2 h3 h4 fun _ => ⟨.int _, H, I.tok _, ⟨_, rfl⟩, hq⟩
theorem call_gcd : CallR X (.builtin "math.gcd") (fun xs H Q => ∃ a b, xs = [.int a, .int b] ∧ Q (.int (Nat.gcd a.natAbs b.natAbs : Nat)) H) := by
  intro pins s σ H xs us Q I vs h
  obtain ⟨a, b, rfl, hq⟩ := h
  obtain ⟨t, u, rfl⟩ := vals2 vs
  exact PySem.W.mg_gcd fun _ => ⟨.int _, H, I.tok _, ⟨_, rfl⟩, hq⟩
end
open Classical in
noncomputable def cComb : List D → Store → Option (D × Store)
  | [.p (.int a), .p (.int b)], M => if combOk a b then some (.p (.int (PySem.W.mcComb a b)), M) else none
  | _, _ => none
def cGcd : List D → Store → Option (D × Store)
  | [.p (.int a), .p (.int b)], M => some (.p (.int (Nat.gcd a.natAbs b.natAbs : Nat)), M)
  | _, _ => none
section
variable {G : Gm}
theorem d_comb : CallD G cComb (fun xs H Q => ∃ a b, xs = [.int a, .int b] ∧ combOk a b ∧ Q (.int (PySem.W.mcComb a b)) H) := by
  intro μ H M xs vs Q d M' S r q k
  unfold cComb at q
  split at q
  · split at q
    · rename_i h
      cases q
      obtain ⟨v, u, rfl, r1, r2⟩ := r.inv2
      rw [Rep.int] at r1 r2
      subst r1 r2
      exact ⟨_, _, rfl, h, k μ _ H (.refl _) (List.prefix_refl _) S (Rep.int.mpr rfl)⟩
    · cases q
  · cases q
theorem d_gcd : CallD G cGcd (fun xs H Q => ∃ a b, xs = [.int a, .int b] ∧ Q (.int (Nat.gcd a.natAbs b.natAbs : Nat)) H) := by
  intro μ H M xs vs Q d M' S r q k
  unfold cGcd at q
  split at q
  · cases q
    obtain ⟨v, u, rfl, r1, r2⟩ := r.inv2
    rw [Rep.int] at r1 r2
    subst r1 r2
    exact ⟨_, _, rfl, k μ _ H (.refl _) (List.prefix_refl _) S (Rep.int.mpr rfl)⟩
  · cases q
end
theorem v_comb (a b : Int) (M : Store) (h : combOk a b) : cComb [.p (.int a), .p (.int b)] M = some (.p (.int (PySem.W.mcComb a b)), M) := by simp [cComb, h]
@[simp] theorem v_gcd (a b : Int) (M : Store) : cGcd [.p (.int a), .p (.int b)] M = some (.p (.int (Nat.gcd a.natAbs b.natAbs : Nat)), M) := (rfl)
/-! ### o[i] = v, o a list -/
def kOk (r : R D) (f : D → Store → Option (Env × Store)) : Option (Env × Store) := match r with
  | .ok d M => f d M
  | _ => none
@[simp] theorem kOk_ok (d M) (f : D → Store → Option (Env × Store)) : kOk (.ok d M) f = f d M := (rfl)
def gSu (fo fi : RE) (op : D → D → D → Store → Option Store) : RG := fun v ρ M => kOk (fo ρ M) fun o M1 => kOk (fi ρ M1) fun i M2 => (op o i v M2).map fun M3 => (ρ, M3)
def setD : D → D → D → Store → Option Store
  | .ref l, .p (.int k), v, M => (match M[l]? with
    | some (.lst xs) => (ixN xs.length k).map fun j => M.set l (.lst (xs.set j v))
    | _ => none)
  | _, _, _, _ => none
section
variable {X : Cx} {W : WX} {o i : Expr} {fo fi : RE} {pos : Pos}
theorem g_sub (ho : PE X o (tE (gm X) W fo)) (hi : PE X i (tE (gm X) W fi)) (hs : ∀ (v : Value), assign (o.Subscript i pos) X.env v = (do
      let ov ← holding [v] (eval o X.env)
      let iv ← holding [v, ov] (eval i X.env)
      standAt pos
      holding [v, ov, iv] (setItem ov iv v)
      release [v, ov, iv] []) := by exact fun _ => rfl) : PG X (.Subscript o i pos) (tG (gm X) (gSu fo fi setD)) :=
  PGimp (pg_sub ho hi set_list hs) fun v σ H Q h => by
    obtain ⟨μ, ρ, M, d, hE, hS, r, hF⟩ := h
    have hF : FinG (gm X) μ H Q (kOk (fo ρ M) fun o M1 => kOk (fi ρ M1) fun i M2 => (setD o i d M2).map fun M3 => (ρ, M3)) := hF
    refine ⟨μ, ρ, M, hE, hS, ?_⟩
    cases q : fo ρ M with
    | no => rw [q] at hF; exact hF.elim
    | ex c fs M1 => rw [q] at hF; exact hF.elim
    | ok x M1 =>
      rw [q, kOk_ok] at hF
      intro μ1 vo H1 e1 p1 s1 r1
      refine ⟨μ1, ρ, M1, hE.ext e1 p1, s1, ?_⟩
      cases q2 : fi ρ M1 with
      | no => rw [q2] at hF; exact hF.elim
      | ex c fs M2 => rw [q2] at hF; exact hF.elim
      | ok y M2 =>
        rw [q2, kOk_ok] at hF
        intro μ2 vi H2 e2 p2 s2 r2
        unfold setD at hF
        split at hF
        · rename_i l k
          split at hF
          · rename_i xs e
            cases q3 : ixN xs.length k with
            | none => rw [q3] at hF; exact hF.elim
            | some j =>
              rw [q3] at hF
              obtain ⟨a, h1, rfl⟩ := Rep.ref.mp (r1.ext e2 p2)
              rw [Rep.int] at r2
              subst r2
              obtain ⟨ws, h2, h3⟩ := s2.lst h1 e
              have rv := (r.ext e1 p1).ext e2 p2
              refine ⟨a, ws, k, j, rfl, rfl, h2, by rw [← h3.length]; exact q3, ?_⟩
              have ex := Ext.lst (o := .lst (ws.set j v)) h2
              exact hF μ2 σ _ ((e1.trans e2).trans ex) (p1.trans p2) ((hE.ext e1 p1).ext (e2.trans ex) p2) (s2.put h1 e rfl rfl (fun ob w z => by rw [h2] at z; cases z) ex ⟨_, upd_same, (h3.set j rv).ext ex (List.prefix_refl _)⟩)
          · exact hF.elim
        · exact hF.elim
end
@[simp] theorem e_gSu (fo fi : RE) (op) (v ρ M) : gSu fo fi op v ρ M = kOk (fo ρ M) fun o M1 => kOk (fi ρ M1) fun i M2 => (op o i v M2).map fun M3 => (ρ, M3) := (rfl)
/-- a while with a measure -/
theorem rWh_find {c : RT} {b : RS} (I : Nat → Env → Store → Prop) (Q : Out → Prop)
    (h : ∀ n ρ M, I n ρ M → (∃ M1, c ρ M = .ok false M1 ∧ Q (.nx ρ M1)) ∨ (∃ M1, c ρ M = .ok true M1 ∧ ((∃ ρ2 M2 m, (b ρ M1 = .nx ρ2 M2 ∨ b ρ M1 = .ct ρ2 M2) ∧ m < n ∧ I m ρ2 M2) ∨ (∃ ρ2 M2, b ρ M1 = .bk ρ2 M2 ∧ Q (.nx ρ2 M2)) ∨ ∃ d M2, b ρ M1 = .rt d M2 ∧ Q (.rt d M2)))) :
    ∀ n ρ M, I n ρ M → Q (rWh c b ρ M) := by
  have go : ∀ n ρ M, I n ρ M → ∃ k o, whileN c b k ρ M = some o ∧ Q o := by
    intro n
    induction n using Nat.strongRecOn with
    | ind n ih =>
      intro ρ M hI
      rcases h n ρ M hI with ⟨M1, h1, h2⟩ | ⟨M1, h1, ⟨ρ2, M2, m, h2, h3, h4⟩ | ⟨ρ2, M2, h2, h3⟩ | ⟨d, M2, h2, h3⟩⟩
      · exact ⟨1, _, by unfold whileN; rw [h1], h2⟩
      · obtain ⟨k, o, h5, h6⟩ := ih m h3 ρ2 M2 h4
        refine ⟨k + 1, o, ?_, h6⟩
        unfold whileN
        rcases h2 with h2 | h2
        · simp only [h1, h2]; exact h5
        · simp only [h1, h2]; exact h5
      · exact ⟨1, _, by unfold whileN; simp only [h1, h2], h3⟩
      · exact ⟨1, _, by unfold whileN; simp only [h1, h2], h3⟩
  intro n ρ M hI
  obtain ⟨k, o, h1, h2⟩ := go n ρ M hI
  rw [rWh_of h1]
  exact h2
/-- small enough to be multiplied -/
def Sm (i : Int) : Prop := ∃ k : Nat, k ≤ 20000 ∧ i.natAbs < 2 ^ k
theorem Sm.log {i : Int} (h : Sm i) : i.natAbs.log2 ≤ 20000 := by
  obtain ⟨k, hk, h⟩ := h
  by_cases e : i.natAbs = 0
  · rw [e]; simp
  · have := (Nat.log2_lt e).mpr h
    omega
theorem Sm.mulOk {i j : Int} (h1 : Sm i) (h2 : Sm j) : mulOk i j := .inr (by have := h1.log; have := h2.log; omega)
theorem Sm.divOk {j : Int} (k : Nat) (h : 0 < j) (hk : k ≤ 9000) (h2 : j.natAbs < 2 ^ k) : divOk j := ⟨h, (Nat.log2_lt (by omega)).mpr (Nat.lt_of_lt_of_le h2 (Nat.pow_le_pow_right (by decide) hk))⟩
theorem Sm.le {i j : Int} (h : Sm j) (k : i.natAbs ≤ j.natAbs) : Sm i := by
  obtain ⟨n, hn, h⟩ := h
  exact ⟨n, hn, by omega⟩
end Fl

set_option Elab.async false
set_option linter.all false
set_option maxRecDepth 100000
/-! Fl, part U: walks in general; list comprehensions. -/
namespace Fl
open PySem PySem.Spec L2
set_option autoImplicit false
/-- J walks xs; k: what must stand -/
def Wk (G : Gm) (J : It) (k : Option (Nat × O)) (xs : List D) (μ : List Addr) (H : Hp) : Prop :=
  ∃ B : List Addr → Hp → Prop, (∀ μ μ' H H', Ext H H' → μ <+: μ' → B μ H → B μ' H') ∧
    (∀ i μ H M, i < xs.length → SR G μ H M → B μ H → chk k M → J.go i H) ∧ (∀ μ H M, SR G μ H M → B μ H → chk k M → J.stop xs.length H) ∧
    (∀ i μ H M v H', i < xs.length → SR G μ H M → B μ H → chk k M → J.yld i H v H' → ∃ d, xs[i]? = some d ∧ Ext H H' ∧ SR G μ H' M ∧ Rep G μ H' d v) ∧ B μ H
abbrev RW := RX (List D × Option (Nat × O))
abbrev tW (G : Gm) (W : WX) (f : RW) : TI := fun σ H R => tX G (fun μ H (a : List D × Option (Nat × O)) J => Wk G J a.2 a.1 μ H) W f σ H R
theorem wk_tup {G : Gm} {a : Addr} {xs : List D} {vs : List V} {μ : List Addr} {H : Hp} (h1 : SqT G.K H a vs) (h2 : Reps G μ H xs vs) : Wk G (Itt G.K a) none xs μ H := by
  refine ⟨fun μ H => SqT G.K H a vs ∧ Reps G μ H xs vs, fun _ _ _ _ e p z => ⟨e.sqt z.1, z.2.ext e p⟩, ?_, ?_, ?_, h1, h2⟩
  · rintro i μ H M hi _ ⟨z1, z2⟩ _
    obtain ⟨w, hw, _⟩ := z2.get (List.getElem?_eq_getElem hi)
    exact ⟨vs, w, z1, hw⟩
  · rintro μ H M _ ⟨z1, z2⟩ _
    exact ⟨vs, z1, by rw [z2.len_eq]; exact Nat.le_refl _⟩
  · rintro i μ H M w H' hi S ⟨z1, z2⟩ _ ⟨rfl, y⟩
    obtain ⟨w', hw, r⟩ := z2.get (List.getElem?_eq_getElem hi)
    have := (y vs z1).symm.trans hw
    cases this
    exact ⟨_, List.getElem?_eq_getElem hi, .refl _, S, r⟩
theorem wk_lst {G : Gm} {a : Addr} {l : Nat} {o : O} {xs : List D} {μ : List Addr} {H : Hp} (ha : μ[l]? = some a) (hk : o = .lst xs ∨ o = .ro xs) : Wk G (Itl G.K a) (some (l, o)) xs μ H := by
  refine ⟨fun μ H => μ[l]? = some a, fun _ _ _ _ e p z => pre_get p z, ?_, ?_, ?_, ha⟩
  · rintro i μ H M hi S z c
    obtain ⟨vs, z1, z2⟩ := SR.list_at S z c hk
    obtain ⟨w, hw, _⟩ := z2.get (List.getElem?_eq_getElem hi)
    exact ⟨vs, w, z1, hw⟩
  · rintro μ H M S z c
    obtain ⟨vs, z1, z2⟩ := SR.list_at S z c hk
    exact ⟨vs, z1, by rw [z2.len_eq]; exact Nat.le_refl _⟩
  · rintro i μ H M w H' hi S z c ⟨rfl, y⟩
    obtain ⟨vs, z1, z2⟩ := SR.list_at S z c hk
    obtain ⟨w', hw, r⟩ := z2.get (List.getElem?_eq_getElem hi)
    have := (y vs z1).symm.trans hw
    cases this
    exact ⟨_, List.getElem?_eq_getElem hi, .refl _, S, r⟩
theorem wk_rng {G : Gm} {lo : Int} {n : Nat} {μ : List Addr} {H : Hp} : Wk G (Itr lo n) none (intsD lo n) μ H := by
  refine ⟨fun _ _ => True, fun _ _ _ _ _ _ z => z, ?_, ?_, ?_, trivial⟩
  · rintro i μ H M hi _ _ _
    rw [intsD_len] at hi
    exact hi
  · rintro μ H M _ _ _
    rw [intsD_len]
    exact Nat.le_refl _
  · rintro i μ H M w H' hi S _ _ ⟨rfl, rfl⟩
    rw [intsD_len] at hi
    exact ⟨_, intsD_get lo n i hi, .refl _, S, Rep.int.mpr rfl⟩
def ofW : Option (List D × Option (Nat × O)) → Store → R (List D × Option (Nat × O))
  | some q, M => .ok q M
  | none, _ => .no
/-- the walk of a list or a tuple -/
def wRow (f : RE) : RW := fun ρ M => (f ρ M).bind fun d M1 => ofW (walkD d M1) M1
/-- the walk of a range -/
def wRng (rg : List D → Option (Int × Nat)) (f : RA) : RW := fun ρ M => (f ρ M).bind fun ds M1 => ofW ((rg ds).map fun q => (intsD q.1 q.2, none)) M1
section
variable {X : Cx} {W : WX} {e tg : Expr} {fe : RE} {fs : RA} {pos : Pos}
theorem wi_row (he : PE X e (tE (gm X) W fe)) : PI X tg e (tW (gm X) W (wRow fe)) :=
  PIimp (pi_row he) fun σ H R h => by
    refine (tX.bind (f := fe) (g := fun d ρ M1 => ofW (walkD d M1) M1) (rel := Rep (gm X)) h).mono fun v H1 ⟨μ, ρ, M, d, hE, hS, rd, hF⟩ => ?_
    have hF : Fin (gm X) _ W μ σ H1 R (ofW (walkD d M) M) := hF
    cases q : walkD d M with
    | none => rw [q] at hF; exact hF.elim
    | some p =>
      obtain ⟨xs, k⟩ := p
      rw [q] at hF
      unfold walkD at q
      split at q
      · cases q
        obtain ⟨a, vs, e1, h1, h2⟩ := Rep.ptup.mp rd
        exact ⟨a, e1, .inr ⟨⟨vs, h1⟩, hF μ _ H1 (.refl _) (List.prefix_refl _) hS (wk_tup h1 (Reps.of_P h2))⟩⟩
      · cases q
        obtain ⟨a, vs, e1, h1, h2⟩ := Rep.tup.mp rd
        exact ⟨a, e1, .inr ⟨⟨vs, h1⟩, hF μ _ H1 (.refl _) (List.prefix_refl _) hS (wk_tup h1 h2)⟩⟩
      · obtain ⟨a, ha, e1⟩ := Rep.ref.mp rd
        split at q
        · rename_i ys e2
          cases q
          obtain ⟨vs, z1, z2⟩ := SR.list_at hS ha e2 (.inl rfl)
          exact ⟨a, e1, .inl ⟨⟨vs, z1⟩, hF μ _ H1 (.refl _) (List.prefix_refl _) hS (wk_lst ha (.inl rfl))⟩⟩
        · rename_i ys e2
          cases q
          obtain ⟨vs, z1, z2⟩ := SR.list_at hS ha e2 (.inr rfl)
          exact ⟨a, e1, .inl ⟨⟨vs, z1⟩, hF μ _ H1 (.refl _) (List.prefix_refl _) hS (wk_lst ha (.inr rfl))⟩⟩
        · cases q
      · cases q
end
/-! ### list comprehensions -/
theorem wipe_get (σ : St) (k : Nat) : ∀ vs : List Nat, (L2.wipe σ vs)[k]? = if k ∈ vs ∧ k < σ.length then some none else σ[k]?
  | [] => by simp [L2.wipe]
  | i :: is => by
    have ih := wipe_get σ k is
    have il : (L2.wipe σ is).length = σ.length := L2.wipe_length ..
    unfold L2.wipe
    by_cases e : i = k
    · subst e
      by_cases hk : i < σ.length
      · rw [List.getElem?_set_self (by rw [il]; exact hk), if_pos ⟨List.mem_cons_self, hk⟩]
      · rw [if_neg (fun h => hk h.2), List.getElem?_eq_none (by rw [List.length_set, il]; omega), List.getElem?_eq_none (by omega)]
    · rw [List.getElem?_set_ne e, ih]
      have e' : ¬ k = i := fun z => e z.symm
      simp only [List.mem_cons, e', false_or]
theorem wipe_set (σ : St) (i : Nat) (x : Option V) (vs : List Nat) (h : i ∈ vs) : L2.wipe (σ.set i x) vs = L2.wipe σ vs := by
  apply List.ext_getElem?
  intro k
  rw [wipe_get, wipe_get, List.length_set]
  by_cases e : k ∈ vs ∧ k < σ.length
  · rw [if_pos e, if_pos e]
  · rw [if_neg e, if_neg e]
    by_cases e2 : i = k
    · subst e2
      have : ¬ i < σ.length := fun z => e ⟨h, z⟩
      rw [List.getElem?_eq_none (by rw [List.length_set]; omega), List.getElem?_eq_none (by omega)]
    · rw [List.getElem?_set_ne e2]
def wipeE (ρ : Env) : List Nat → Env
  | [] => ρ
  | i :: is => (wipeE ρ is).set i none
theorem ER.unset {G : Gm} {μ : List Addr} {H : Hp} {ρ : Env} {σ : St} (h : ER G μ H ρ σ) (i : Nat) : ER G μ H (ρ.set i none) (σ.set i none) := by
  refine ⟨by simp [h.len], fun j d hj => ?_⟩
  by_cases e : i = j
  · subst e
    by_cases hl : i < ρ.length
    · rw [List.getElem?_set_self hl] at hj
      cases hj
    · rw [List.getElem?_eq_none (by rw [List.length_set]; omega)] at hj
      cases hj
  · rw [List.getElem?_set_ne e] at hj ⊢
    exact h.at_ j d hj
theorem ER.wipe {G : Gm} {μ : List Addr} {H : Hp} {ρ : Env} {σ : St} (h : ER G μ H ρ σ) : ∀ vs : List Nat, ER G μ H (wipeE ρ vs) (L2.wipe σ vs)
  | [] => h
  | i :: is => by
    unfold wipeE L2.wipe
    exact (ER.wipe h is).unset i
open Classical in
noncomputable def lcL (l : Nat) (k : Option (Nat × O)) (g : RG) (tt : RT) (te : RE) (ρ : Env) : List D → Store → R D
  | [], M => if chk k M then .ok (.ref l) M else .no
  | x :: xs, M => if chk k M then (match g x ρ M with
    | some (ρ1, M1) => (match tt ρ1 M1 with
      | .ok true M2 => (match te ρ1 M2 with
        | .ok y M3 => (match M3[l]? with
          | some (.lst acc) => if acc.length < sizeLine then lcL l k g tt te ρ xs (M3.set l (.lst (acc ++ [y]))) else .no
          | _ => .no)
        | _ => .no)
      | .ok false M2 => lcL l k g tt te ρ xs M2
      | _ => .no)
    | none => .no) else .no
noncomputable def rLC (fw : RW) (g : RG) (tt : RT) (te : RE) (vs : List Nat) : RE := fun ρ M => (fw ρ M).bind fun q M1 => lcL M1.length q.2 g tt te (wipeE ρ vs) q.1 (M1 ++ [.lst []])
/-- the targets of a comprehension: names of its own -/
def Own (G : Gm) (vs : List Nat) (g : RG) (graw : TG) : Prop := ∀ (d : D) (v : V) (μ : List Addr) (H : Hp) (M : Store) (σ : St) (ρ ρ1 : Env) (M1 : Store) (Q : St → Hp → Prop), ER G μ H ρ σ → Rep G μ H d v → g d ρ M = some (ρ1, M1) →
  (∀ σ1, M1 = M → ER G μ H ρ1 σ1 → L2.wipe σ1 vs = L2.wipe σ vs → Q σ1 H) → graw v σ H Q
theorem own_nm {G : Gm} {vs : List Nat} {i : Nat} (h : i ∈ vs) : Own G vs (gNm i) (gName i) := by
  intro d v μ H M σ ρ ρ1 M1 Q hE r e k
  cases e
  exact k _ rfl (hE.set i r) (wipe_set σ i _ vs h)
def W0 : WX := fun _ _ _ _ => False
def rYes : RT := fun _ M => .ok true M
section
variable {X : Cx} {W : WX} {e tg iter elt : Expr} {ifs : List Expr} {scope : Scope} {own : List (Str × Nat)} {fw : RW} {g : RG} {graw : TG} {tt : RT} {te : RE} {pos : Pos}
theorem pts_yes : PTs X [] (tT (gm X) W rYes) :=
  ⟨fun pins s σ H Q I h => pts_nil.run pins s σ H Q I (by
    obtain ⟨μ, ρ, M, hE, hS, hF⟩ := h
    exact hF μ true H (.refl _) (List.prefix_refl _) hS rfl)⟩
theorem lc_in {X : Cx} {W : WX} {fw : RW} {g : RG} {graw : TG} {tt : RT} {te : RE} {vs : List Nat} (ho : Own (gm X) vs g graw) {σ : St} {H : Hp} {Q : VK} (h : tE (gm X) W (rLC fw g tt te vs) σ H Q) :
    tLc (tW (gm X) W fw) graw (tT (gm X) W0 tt) (tE (gm X) W0 te) vs σ H Q := by
  refine (tX.bind (f := fw) (g := fun q ρ M1 => lcL M1.length q.2 g tt te (wipeE ρ vs) q.1 (M1 ++ [.lst []])) (rel := fun μ H (a : List D × Option (Nat × O)) J => Wk (gm X) J a.2 a.1 μ H) h).mono fun J H1 ⟨μ, ρ, M, q, hE, hS, hW, hF⟩ => ?_
  obtain ⟨xs, k⟩ := q
  obtain ⟨B, mono, hgo, hstop, hyld, hB⟩ := hW
  have hF : Fin (gm X) (Rep (gm X)) W μ σ H1 Q (lcL M.length k g tt te (wipeE ρ vs) xs (M ++ [.lst []])) := hF
  intro D hD
  have exD : Ext H1 (upd H1 D (.lst [])) := .new hD
  have hS1 : SR (gm X) (μ ++ [D]) (upd H1 D (.lst [])) (M ++ [.lst []]) := hS.new hD ⟨[], upd_same, .nil⟩
  have hl : (μ ++ [D])[M.length]? = some D := by rw [← hS.len]; simp
  generalize M.length = l at hF hl
  have hchk : ∀ {xs M}, Fin (gm X) (Rep (gm X)) W μ σ H1 Q (lcL l k g tt te (wipeE ρ vs) xs M) → True := fun _ => trivial
  refine ⟨fun i m H => m = xs.length - i ∧ i ≤ xs.length ∧ ∃ μ M, ER (gm X) μ H ρ σ ∧ SR (gm X) μ H M ∧ B μ H ∧ μ[l]? = some D ∧ Fin (gm X) (Rep (gm X)) W μ σ H Q (lcL l k g tt te (wipeE ρ vs) (xs.drop i) M), ⟨_, rfl, Nat.zero_le _, μ ++ [D], M ++ [.lst []], hE.ext exD (List.prefix_append _ _), hS1, mono _ _ _ _ exD (List.prefix_append _ _) hB, hl, (by rw [List.drop_zero]; exact Fin.later exD (List.prefix_append _ _) hF)⟩, ?_⟩
  rintro i m H ⟨rfl, hi, μ, M, hE, hS, hB, hl, hF⟩
  by_cases hlt : i < xs.length
  · rw [List.drop_eq_getElem_cons hlt] at hF
    unfold lcL at hF
    split at hF
    · rename_i hk
      refine .inr ⟨hgo i μ H M hlt hS hB hk, fun H' => (∃ μ M, ER (gm X) μ H' ρ σ ∧ SR (gm X) μ H' M ∧ B μ H' ∧ μ[l]? = some D ∧ Fin (gm X) (Rep (gm X)) W μ σ H' Q (lcL l k g tt te (wipeE ρ vs) (xs.drop (i + 1)) M)), fun H' h => ⟨_, by omega, rfl, hlt, h⟩, ?_⟩
      intro x H2 hy
      obtain ⟨d, hd, ex2, hS2, rd⟩ := hyld i μ H M x H2 hlt hS hB hk hy
      have e0 : d = xs[i] := by
        rw [List.getElem?_eq_getElem hlt] at hd
        exact (Option.some.inj hd).symm
      subst e0
      have hE2 := hE.ext ex2 (List.prefix_refl _)
      have hB2 := mono _ _ _ _ ex2 (List.prefix_refl _) hB
      cases q1 : g xs[i] (wipeE ρ vs) M with
      | none => rw [q1] at hF; exact hF.elim
      | some p =>
        obtain ⟨ρ1, M1⟩ := p
        rw [q1] at hF
        refine ho _ x μ H2 M _ (wipeE ρ vs) ρ1 M1 _ (hE2.wipe vs) rd q1 fun σ2 eM hE3 hw => ⟨hw.trans ?_, ?_⟩
        · apply List.ext_getElem?
          intro k
          rw [wipe_get, wipe_get, L2.wipe_length]
          split
          · rfl
          · rfl
        · subst eM
          refine ⟨μ, ρ1, M1, hE3, hS2, ?_⟩
          cases q2 : tt ρ1 M1 with
          | no => simp only [q2] at hF; exact hF.elim
          | ex c fs M2 => simp only [q2] at hF; exact hF.elim
          | ok b M2 =>
            intro μ3 b' H3 ex3 p3 hS3 eb
            cases eb
            cases b with
            | false =>
              simp only [q2] at hF
              show ∃ μ M, _
              exact ⟨μ3, M2, hE2.ext ex3 p3, hS3, mono _ _ _ _ ex3 p3 hB2, pre_get p3 hl, Fin.later (ex2.trans ex3) p3 hF⟩
            | true =>
              simp only [q2] at hF
              show tE (gm X) W0 te _ _ _
              refine ⟨μ3, ρ1, M2, hE3.ext ex3 p3, hS3, ?_⟩
              cases q3 : te ρ1 M2 with
              | no => simp only [q3] at hF; exact hF.elim
              | ex c fs M3 => simp only [q3] at hF; exact hF.elim
              | ok y M3 =>
                simp only [q3] at hF
                intro μ4 v H4 ex4 p4 hS4 rv
                split at hF
                · rename_i acc eacc
                  split at hF
                  · rename_i hlen
                    have hl4 := pre_get p4 (pre_get p3 hl)
                    obtain ⟨ws, h2, h3⟩ := hS4.lst hl4 eacc
                    have ex := Ext.lst (o := .lst (ws ++ [v])) h2
                    refine ⟨ws, h2, by rw [← h3.length]; exact hlen, μ4, _, hE2.ext (ex3.trans (ex4.trans ex)) (p3.trans p4), hS4.put (o := .lst (acc ++ [y])) hl4 eacc rfl rfl (fun ob w z => by rw [h2] at z; cases z) ex ⟨_, upd_same, (h3.app (.cons rv .nil)).ext ex (List.prefix_refl _)⟩, mono _ _ _ _ (ex3.trans (ex4.trans ex)) (p3.trans p4) hB2, hl4, Fin.later (ex2.trans (ex3.trans (ex4.trans ex))) (p3.trans p4) hF⟩
                  · exact hF.elim
                · exact hF.elim
    · exact hF.elim
  · have e0 : i = xs.length := by omega
    subst e0
    rw [List.drop_length] at hF
    unfold lcL at hF
    split at hF
    · rename_i hk
      exact .inl ⟨hstop μ H M hS hB hk, hF μ _ H (.refl _) (List.prefix_refl _) hS (Rep.ref.mpr ⟨D, hl, rfl⟩)⟩
    · exact hF.elim
theorem i_lc (hc : X.calm = true) (hN : X.N.Nodup) (hi : PI X tg iter (tW (gm X) W fw)) (ok : BlkOk X.N X.env.scope scope own) (ho : Own (gm X) (own.map (·.2)) g graw)
    (hg : ∀ (s : Shared) (H : Hp) (C : Addr) (cl : List (Str × Addr)) (fp : List Addr), PG (X.blk s H scope (compEnvC scope cl C X.env) fp) tg graw)
    (ht : ∀ (s : Shared) (H : Hp) (C : Addr) (cl : List (Str × Addr)) (fp : List Addr), PTs (X.blk s H scope (compEnvC scope cl C X.env) fp) ifs (tT (gm X) W0 tt))
    (he : ∀ (s : Shared) (H : Hp) (C : Addr) (cl : List (Str × Addr)) (fp : List Addr), PE (X.blk s H scope (compEnvC scope cl C X.env) fp) elt (tE (gm X) W0 te))
    (hs : ∀ (x : Value), foldedSetIterable iter X.env x = pure x := by exact fun _ => rfl) :
    PE X (.ListComp elt [{ target := tg, iter := iter, ifs := ifs, is_async := 0 }] scope pos) (tE (gm X) W (rLC fw g tt te (own.map (·.2)))) :=
  PEimp (pe_lc hc hN hi ok hg ht he hs) fun σ H Q h => lc_in ho h
/-- y = [..] -/
theorem s_setLc (i : Nat) {y : Str} {py spos : Pos} (hc : X.calm = true) (hN : X.N.Nodup) (hi : PI X tg iter (tW (gm X) W fw)) (ok : BlkOk X.N X.env.scope scope own) (ho : Own (gm X) (own.map (·.2)) g graw)
    (hg : ∀ (s : Shared) (H : Hp) (C : Addr) (cl : List (Str × Addr)) (fp : List Addr), PG (X.blk s H scope (compEnvC scope cl C X.env) fp) tg graw)
    (ht : ∀ (s : Shared) (H : Hp) (C : Addr) (cl : List (Str × Addr)) (fp : List Addr), PTs (X.blk s H scope (compEnvC scope cl C X.env) fp) ifs (tT (gm X) W0 tt))
    (he : ∀ (s : Shared) (H : Hp) (C : Addr) (cl : List (Str × Addr)) (fp : List Addr), PE (X.blk s H scope (compEnvC scope cl C X.env) fp) elt (tE (gm X) W0 te))
    (hy : X.N[i]? = some y := by rfl) (hl : X.env.scope.names.lookup y = some .local := by rfl)
    (hw : swapsWith (elt.ListComp [{ target := tg, iter := iter, ifs := ifs, is_async := 0 }] scope pos) (some (Expr.Name y py)) spos.line X.env = pure true := by exact sw_true rfl rfl rfl (by decide +kernel))
    (hs : ∀ (x : Value), foldedSetIterable iter X.env x = pure x := by exact fun _ => rfl) :
    PS X (.Assign [.Name y py] (.ListComp elt [{ target := tg, iter := iter, ifs := ifs, is_async := 0 }] scope pos) spos) (tS (gm X) W (rSet i (rLC fw g tt te (own.map (·.2))))) :=
  PSimp (ps_setLc hc hN hy hl hw hi ok hg ht he hs) fun D σ H h => lc_in ho ((tX.out h).mono fun v H1 ⟨μ, ρ, M, x, hE, hS, rx, hF⟩ => hF μ _ H1 (.refl _) (List.prefix_refl _) (hE.set i rx) hS)
end
/-! ### for over any walk -/
noncomputable def rForW (fw : RW) (g : RG) (body : RS) : RS := fun ρ M => (fw ρ M).out ρ fun q M1 => forL q.2 g body q.1 ρ M1
def enumD (xs : List D) : List D := (List.range xs.length).map fun (i : Nat) => mkTup [.p (.int (i : Int)), xs.getD i (.p .non)]
theorem enumD_get {xs : List D} {i : Nat} (h : i < xs.length) : (enumD xs)[i]? = some (mkTup [.p (.int (i : Int)), xs[i]]) := by
  simp [enumD, h]
theorem enumD_len (xs : List D) : (enumD xs).length = xs.length := by simp [enumD]
/-- enumerate of a list -/
def enumK (ds : List D) (M1 : Store) : R (List D × Option (Nat × O)) := match ds with
  | [.ref l] => (match M1[l]? with
    | some (.lst xs) => .ok (enumD xs, some (l, .lst xs)) M1
    | some (.ro xs) => .ok (enumD xs, some (l, .ro xs)) M1
    | _ => .no)
  | _ => .no
def wEnum (f : RA) : RW := fun ρ M => (f ρ M).bind enumK
theorem wk_enum {G : Gm} {a : Addr} {l : Nat} {o : O} {xs : List D} {μ : List Addr} {H : Hp} (ha : μ[l]? = some a) (hk : o = .lst xs ∨ o = .ro xs) : Wk G (Ite G.K a) (some (l, o)) (enumD xs) μ H := by
  refine ⟨fun μ H => μ[l]? = some a, fun _ _ _ _ e p z => pre_get p z, ?_, ?_, ?_, ha⟩
  · rintro i μ H M hi S z c
    rw [enumD_len] at hi
    obtain ⟨vs, z1, z2⟩ := SR.list_at S z c hk
    obtain ⟨w, hw, _⟩ := z2.get (List.getElem?_eq_getElem hi)
    exact ⟨vs, w, z1, hw⟩
  · rintro μ H M S z c
    obtain ⟨vs, z1, z2⟩ := SR.list_at S z c hk
    exact ⟨vs, z1, by rw [enumD_len, z2.len_eq]; exact Nat.le_refl _⟩
  · rintro i μ H M w H' hi S z c ⟨T, x, rfl, hT, rfl, y⟩
    rw [enumD_len] at hi
    obtain ⟨vs, z1, z2⟩ := SR.list_at S z c hk
    obtain ⟨w', hw, r⟩ := z2.get (List.getElem?_eq_getElem hi)
    have := (y vs z1).symm.trans hw
    cases this
    have ex : Ext H (upd H T (.tup [.int i, x])) := .new hT
    exact ⟨_, enumD_get hi, ex, S.grow hT, mkTup_ok (SqT.of upd_same) (.cons (Rep.int.mpr rfl) (.cons (r.ext ex (List.prefix_refl _)) .nil))⟩
section
variable {X : Cx} {W : WX} {e tg : Expr} {fs : RA} {fw : RW} {g : RG} {body : RS} {pos p tpos : Pos} {sb : List Stmt}
theorem s_forW (hp : PassesOwn (model X.prog X.w) X.A X.env X.xe) (hc : X.calm = true) (hi : PI X tg e (tW (gm X) W fw)) (hg : PG X tg (tG (gm X) g)) (hb : PSs X sb (tS (gm X) W body))
    (hs : ∀ x, foldedSetIterable e X.env x = pure x := by intro _; rfl) : PS X (.For tg e sb [] pos) (tS (gm X) W (rForW fw g body)) :=
  PSimp (ps_for hp hc hi hg hb hs) fun D σ H h => by
    refine (tX.out (f := fw) (rel := fun μ H (a : List Fl.D × Option (Nat × O)) J => Wk (gm X) J a.2 a.1 μ H) (g := fun q ρ M => forL q.2 g body q.1 ρ M) h).mono fun J H1 ⟨μ, ρ, M, q, hE, hS, hW, hF⟩ => ?_
    obtain ⟨B, mono, hgo, hstop, hyld, hB⟩ := hW
    exact loop_gen (X := X) (W := W) (J := J) (k := q.2) (xs := q.1) B mono hgo hstop hyld hE hS hB hF
theorem wi_enum {elts : List Expr} {kk : Nat} (hgl : Gl X "enumerate") (hm : X.mg "enumerate" = none) (ha : PA X [e] (tA (gm X) W fs)) (hs1 : starEach [e] X.env = [(false, eval e X.env)] := by rfl) :
    PI X (.Tuple elts kk tpos) (.Call (.Name "enumerate" p) [e] [] pos) (tW (gm X) W (wEnum fs)) :=
  PIimp (pi_enum hgl hm ha hs1) fun σ H R h => by
    refine (tX.bind (f := fs) (g := fun ds ρ M1 => enumK ds M1) (rel := Reps (gm X)) h).mono fun vs H1 ⟨μ, ρ, M, ds, hE, hS, rd, hF⟩ => ?_
    have hF : Fin (gm X) (fun μ H (a : List Fl.D × Option (Nat × O)) J => Wk (gm X) J a.2 a.1 μ H) W μ σ H1 R (enumK ds M) := hF
    unfold enumK at hF
    split at hF
    · rename_i l
      obtain ⟨v, rfl, r⟩ := rd.inv1
      obtain ⟨a, ha, rfl⟩ := Rep.ref.mp r
      split at hF
      · rename_i ys e2
        obtain ⟨vs, z1, z2⟩ := SR.list_at hS ha e2 (.inl rfl)
        exact ⟨a, vs, rfl, z1, hF μ _ H1 (.refl _) (List.prefix_refl _) hS (wk_enum ha (.inl rfl))⟩
      · rename_i ys e2
        obtain ⟨vs, z1, z2⟩ := SR.list_at hS ha e2 (.inr rfl)
        exact ⟨a, vs, rfl, z1, hF μ _ H1 (.refl _) (List.prefix_refl _) hS (wk_enum ha (.inr rfl))⟩
      · exact hF.elim
    · exact hF.elim
theorem wi_rng1 {a : Expr} (hgl : Gl X "range") (hm : X.mg "range" = none) (ha : PA X [a] (tA (gm X) W fs)) (hs1 : starEach [a] X.env = [(false, eval a X.env)] := by rfl) :
    PI X tg (.Call (.Name "range" p) [a] [] pos) (tW (gm X) W (wRng rng1 fs)) :=
  PIimp (pi_range1 hgl hm ha hs1) fun σ H R h => by
    refine (tX.bind (f := fs) (g := fun ds ρ M1 => ofW ((rng1 ds).map fun q => (intsD q.1 q.2, none)) M1) (rel := Reps (gm X)) h).mono fun vs H1 ⟨μ, ρ, M, ds, hE, hS, rd, hF⟩ => ?_
    have hF : Fin (gm X) (fun μ H (a : List Fl.D × Option (Nat × O)) J => Wk (gm X) J a.2 a.1 μ H) W μ σ H1 R (ofW ((rng1 ds).map fun q => (intsD q.1 q.2, none)) M) := hF
    cases q : rng1 ds with
    | none => rw [q] at hF; exact hF.elim
    | some r =>
      obtain ⟨lo, n⟩ := r
      rw [q] at hF
      unfold rng1 at q
      split at q
      · split at q
        · rename_i j hj
          cases q
          obtain ⟨v, rfl, r⟩ := rd.inv1
          rw [Rep.int] at r
          subst r
          exact ⟨j, rfl, hj.1, hj.2, hF μ _ H1 (.refl _) (List.prefix_refl _) hS wk_rng⟩
        · cases q
      · cases q
theorem wi_rng2 {a b : Expr} (hgl : Gl X "range") (hm : X.mg "range" = none) (ha : PA X [a, b] (tA (gm X) W fs)) (hs1 : starEach [a, b] X.env = [(false, eval a X.env), (false, eval b X.env)] := by rfl) (hs2 : starEach [b] X.env = [(false, eval b X.env)] := by rfl) :
    PI X tg (.Call (.Name "range" p) [a, b] [] pos) (tW (gm X) W (wRng rng2 fs)) :=
  PIimp (pi_range2 hgl hm ha hs1 hs2) fun σ H R h => by
    refine (tX.bind (f := fs) (g := fun ds ρ M1 => ofW ((rng2 ds).map fun q => (intsD q.1 q.2, none)) M1) (rel := Reps (gm X)) h).mono fun vs H1 ⟨μ, ρ, M, ds, hE, hS, rd, hF⟩ => ?_
    have hF : Fin (gm X) (fun μ H (a : List Fl.D × Option (Nat × O)) J => Wk (gm X) J a.2 a.1 μ H) W μ σ H1 R (ofW ((rng2 ds).map fun q => (intsD q.1 q.2, none)) M) := hF
    cases q : rng2 ds with
    | none => rw [q] at hF; exact hF.elim
    | some r =>
      obtain ⟨lo, n⟩ := r
      rw [q] at hF
      unfold rng2 at q
      split at q
      · split at q
        · rename_i i j hj
          cases q
          obtain ⟨v, u, rfl, r1, r2⟩ := rd.inv2
          rw [Rep.int] at r1 r2
          subst r1 r2
          exact ⟨_, _, rfl, hj, hF μ _ H1 (.refl _) (List.prefix_refl _) hS wk_rng⟩
        · cases q
      · cases q
end
end Fl

set_option Elab.async false
set_option linter.all false
set_option maxRecDepth 100000
/-! Fl, part V: words within a comprehension; bits; sum. -/
namespace Fl
open PySem PySem.Spec L2
set_option autoImplicit false
theorem tk0 {X : Cx} : L2N.Takes X W0 := fun u s' h => by
  obtain ⟨_, _, _, _, _, _, _, _, _, _, _, _, _, _, _, _, z⟩ := h
  exact (z : False).elim
open Classical in
noncomputable def dShl : D → D → Store → Option (D × Store)
  | .p (.int i), .p (.int j), M => if CPow i j then some (.p (.int (i * 2 ^ j.toNat)), M) else none
  | _, _, _ => none
def dShr : D → D → Store → Option (D × Store)
  | .p (.int i), .p (.int j), M => if 0 ≤ j then some (.p (.int (i / 2 ^ j.toNat)), M) else none
  | _, _, _ => none
def dBAnd : D → D → Store → Option (D × Store)
  | .p (.int i), .p (.int j), M => some (.p (.int (Builtin.bitAnd i j)), M)
  | _, _, _ => none
section
variable {G : Gm}
theorem d_shl : OpD G dShl (rI CPow fun i j => .int (i * 2 ^ j.toNat)) := by
  intro μ H M x y v u Q d M' S rx ry q k
  unfold dShl at q
  split at q
  · split at q
    · rename_i h
      cases q
      rw [Rep.int] at rx ry
      exact ⟨_, _, rx, ry, h, k μ _ H (.refl H) (List.prefix_refl _) S (Rep.int.mpr rfl)⟩
    · cases q
  · cases q
theorem d_shr : OpD G dShr (rI (fun x j => 0 ≤ j) fun i j => .int (i / 2 ^ j.toNat)) := by
  intro μ H M x y v u Q d M' S rx ry q k
  unfold dShr at q
  split at q
  · split at q
    · rename_i h
      cases q
      rw [Rep.int] at rx ry
      exact ⟨_, _, rx, ry, h, k μ _ H (.refl H) (List.prefix_refl _) S (Rep.int.mpr rfl)⟩
    · cases q
  · cases q
theorem d_band : OpD G dBAnd (rI0 fun i j => .int (Builtin.bitAnd i j)) := by
  intro μ H M x y v u Q d M' S rx ry q k
  unfold dBAnd at q
  split at q
  · cases q
    rw [Rep.int] at rx ry
    exact ⟨_, _, rx, ry, k μ _ H (.refl H) (List.prefix_refl _) S (Rep.int.mpr rfl)⟩
  · cases q
end
def intsOf : List D → Option (List Int)
  | [] => some []
  | .p (.int i) :: r => (intsOf r).map fun s => i :: s
  | _ :: _ => none
theorem intsOf_eq : ∀ {xs : List D} {ns : List Int}, intsOf xs = some ns → xs = ns.map fun i => .p (.int i)
  | [], ns, h => by cases h; rfl
  | .p (.int i) :: r, ns, h => by
    obtain ⟨s, h1, rfl⟩ := Option.map_eq_some_iff.mp h
    rw [intsOf_eq h1]
    rfl
  | .p .non :: _, _, h => by cases h
  | .p (.bl _) :: _, _, h => by cases h
  | .p (.str _) :: _, _, h => by cases h
  | .p (.tup _) :: _, _, h => by cases h
  | .ref _ :: _, _, h => by cases h
  | .tup _ :: _, _, h => by cases h
  | .gl _ :: _, _, h => by cases h
  | .exv _ :: _, _, h => by cases h
  | .lam _ :: _, _, h => by cases h
theorem intsOf_map (ns : List Int) : intsOf (ns.map fun i => D.p (.int i)) = some ns := by
  induction ns with
  | nil => rfl
  | cons n ns ih => show (intsOf (ns.map _)).map _ = _; rw [ih]; rfl
theorem Reps.ints {G : Gm} {μ : List Addr} {H : Hp} : ∀ {ns : List Int} {vs : List V}, Reps G μ H (ns.map fun i => D.p (.int i)) vs → vs = ns.map V.int
  | [], vs, h => h.inv0
  | n :: ns, vs, h => by
    obtain ⟨v, ws, rfl, r, t⟩ := h.inv
    rw [Rep.int] at r
    subst r
    rw [Reps.ints t]
    rfl
/-- sum of a list of ints -/
def cSum : List D → Store → Option (D × Store)
  | [.ref l], M => (match M[l]? with
    | some (.lst xs) => (intsOf xs).map fun ns => (.p (.int ns.sum), M)
    | _ => none)
  | _, _ => none
theorem d_sum {G : Gm} : CallD G cSum (rSum G.K) := by
  intro μ H M xs vs Q d M' S r q k
  unfold cSum at q
  split at q
  · rename_i l
    obtain ⟨v, rfl, r1⟩ := r.inv1
    obtain ⟨a, ha, rfl⟩ := Rep.ref.mp r1
    split at q
    · rename_i ys e
      obtain ⟨ns, h1, h2⟩ := Option.map_eq_some_iff.mp q
      cases h2
      obtain ⟨ws, z1, z2⟩ := SR.list_at S ha e (.inl rfl)
      rw [intsOf_eq h1] at z2
      rw [z2.ints] at z1
      exact ⟨a, ns, rfl, z1, k μ _ H (.refl _) (List.prefix_refl _) S (Rep.int.mpr rfl)⟩
    · cases q
  · cases q
theorem bi_sum : bootBuiltins "sum" = some (.builtin "sum") := by decide +kernel
section
variable {X : Cx} {s : Shared} {H : Hp} {scope : Scope} {cenv : PySem.Env} {fp : List Addr} {x : Str} {ps : List Str} {F : List D → Store → R D} {k : Nat} {e : Expr} {es : List Expr} {fs : RA} {p pos : Pos}
/-- a def called within a comprehension -/
theorem i_callI (D : Df X.prog X.w X.K X.mg X.base x ps F k) (hr : Room k X.A) (hg : Gl (X.blk s H scope cenv fp) x) (tk : L2N.Takes (X.blk s H scope cenv fp) W0) (ha : PA (X.blk s H scope cenv fp) (e :: es) (tA (gm X) W0 fs)) (hdb : (x == ("__debug__" : Str)) = false := by decide)
    (he : starEach (e :: es) (X.blk s H scope cenv fp).env = (false, eval e (X.blk s H scope cenv fp).env) :: starEach es (X.blk s H scope cenv fp).env := by rfl) (hpl : (backTo pos (starEach es (X.blk s H scope cenv fp).env)).any (·.1) = false := by rfl) :
    PE (X.blk s H scope cenv fp) (.Call (.Name x p) (e :: es) [] pos) (tE (gm X) W0 (rCallN ps.length F fs)) :=
  i_call (X := X.blk s H scope cenv fp) D hr hg tk ha hdb he hpl
end
/-! ### comprehensions whose turns leave the store alone -/
@[simp] theorem e_lc (fw g tt te vs ρ M) : rLC fw g tt te vs ρ M = (fw ρ M).bind fun q M1 => lcL M1.length q.2 g tt te (wipeE ρ vs) q.1 (M1 ++ [.lst []]) := (rfl)
@[simp] theorem e_yes (ρ : Env) (M : Store) : rYes ρ M = .ok true M := (rfl)
@[simp] theorem e_ofW_some (q M) : ofW (some q) M = .ok q M := (rfl)
@[simp] theorem e_wRow (f : RE) (ρ : Env) (M : Store) : wRow f ρ M = (f ρ M).bind fun d M1 => ofW (walkD d M1) M1 := (rfl)
@[simp] theorem e_wRng (rg f) (ρ : Env) (M : Store) : wRng rg f ρ M = (f ρ M).bind fun ds M1 => ofW ((rg ds).map fun q => (intsD q.1 q.2, none)) M1 := (rfl)
@[simp] theorem e_forW (fw g body) (ρ : Env) (M : Store) : rForW fw g body ρ M = (fw ρ M).out ρ fun q M1 => forL q.2 g body q.1 ρ M1 := (rfl)
@[simp] theorem e_wEnum (f : RA) (ρ : Env) (M : Store) : wEnum f ρ M = (f ρ M).bind enumK := (rfl)
theorem set_set {α : Type} (M : List α) (l : Nat) (x y : α) : (M.set l x).set l y = M.set l y := by simp
theorem lc_pure {l : Nat} {k : Option (Nat × O)} {g : RG} {tt : RT} {te : RE} {ρ : Env} (p : D → Bool) (f : D → D) (M : Store) (hl : l < M.length) (hk : ∀ ys, chk k (M.set l (.lst ys))) : ∀ (xs acc : List D), acc.length + xs.length < sizeLine →
    (∀ x ∈ xs, ∀ ys, ∃ ρ1, g x ρ (M.set l (.lst ys)) = some (ρ1, M.set l (.lst ys)) ∧ tt ρ1 (M.set l (.lst ys)) = .ok (p x) (M.set l (.lst ys)) ∧ (p x = true → te ρ1 (M.set l (.lst ys)) = .ok (f x) (M.set l (.lst ys)))) →
    lcL l k g tt te ρ xs (M.set l (.lst acc)) = .ok (.ref l) (M.set l (.lst (acc ++ (xs.filter p).map f)))
  | [], acc, _, _ => by
    unfold lcL
    rw [if_pos (hk acc)]
    simp
  | x :: xs, acc, hlen, h => by
    obtain ⟨ρ1, h1, h2, h3⟩ := h x List.mem_cons_self acc
    have hr : ∀ y ∈ xs, _ := fun y hy => h y (List.mem_cons_of_mem _ hy)
    unfold lcL
    rw [if_pos (hk acc), h1]
    dsimp only
    rw [h2]
    cases q : p x with
    | false =>
      dsimp only
      rw [lc_pure p f M hl hk xs acc (by simp only [List.length_cons] at hlen; omega) hr, List.filter_cons_of_neg (by simp [q])]
    | true =>
      dsimp only
      rw [h3 q]
      dsimp only
      rw [List.getElem?_set_self hl]
      dsimp only
      rw [if_pos (by simp only [List.length_cons] at hlen; omega), set_set, lc_pure p f M hl hk xs (acc ++ [f x]) (by simp only [List.length_cons, List.length_append, List.length_nil] at hlen ⊢; omega) hr, List.filter_cons_of_pos (by simp [q])]
      simp
/-! ### a, b, c = x, y, z -/
def rPar3 (i j l : Nat) (f : RA) : RS := fun ρ M => (f ρ M).out ρ fun ds M1 => match ds with
  | [x, y, z] => .nx (((ρ.set i (some x)).set j (some y)).set l (some z)) M1
  | _ => .no
@[simp] theorem e_par3 (i j l f) (ρ : Env) (M : Store) : rPar3 i j l f ρ M = (f ρ M).out ρ fun ds M1 => match ds with
  | [x, y, z] => .nx (((ρ.set i (some x)).set j (some y)).set l (some z)) M1
  | _ => .no := (rfl)
section
variable {X : Cx} {W : WX} {fs : RA} {pos : Pos}
theorem s_par3 (i j l : Nat) {x y z : Str} {a b c : Expr} {px py pz pt : Pos} {kt k2 : Nat} {pt2 : Pos} (ha : PA X [a, b, c] (tA (gm X) W fs)) (hc : X.calm = true) (hN : X.N.Nodup) (hi : X.N[i]? = some x := by rfl) (hj : X.N[j]? = some y := by rfl) (hl : X.N[l]? = some z := by rfl) (hij : i ≠ j := by decide) (hil : i ≠ l := by decide) (hjl : j ≠ l := by decide)
    (hx : X.env.scope.names.lookup x = some .local := by rfl) (hy : X.env.scope.names.lookup y = some .local := by rfl) (hz : X.env.scope.names.lookup z = some .local := by rfl)
    (hw : swappedStores [.Tuple [.Name x px, .Name y py, .Name z pz] kt pt] (.Tuple [a, b, c] k2 pt2) X.env = pure (some [x, y, z]) := by rfl)
    (hs : swapsWithSole [.Tuple [.Name x px, .Name y py, .Name z pz] kt pt] (.Tuple [a, b, c] k2 pt2) pos.line X.env = pure false := by rfl) :
    PS X (.Assign [.Tuple [.Name x px, .Name y py, .Name z pz] kt pt] (.Tuple [a, b, c] k2 pt2) pos) (tS (gm X) W (rPar3 i j l fs)) :=
  PSimp (ps_par3 hc hN hi hj hl hij hil hjl hx hy hz ha hw hs) fun D σ H h => by
    refine (tX.out (rel := Reps (gm X)) (g := fun ds ρ M1 => match ds with | [x, y, z] => .nx (((ρ.set i (some x)).set j (some y)).set l (some z)) M1 | _ => .no) h).mono fun vs H1 ⟨μ, ρ, M, ds, hE, hS, rx, hF⟩ => ?_
    match ds, rx, hF with
    | [], _, hF => exact hF.elim
    | [_], _, hF => exact hF.elim
    | [_, _], _, hF => exact hF.elim
    | [d1, d2, d3], rx, hF =>
      obtain ⟨v1, w1, rfl, r1, t1⟩ := rx.inv
      obtain ⟨v2, w2, rfl, r2, t2⟩ := t1.inv
      obtain ⟨v3, w3, rfl, r3, t3⟩ := t2.inv
      have e := t3.inv0
      subst e
      exact ⟨v1, v2, v3, rfl, hF μ _ H1 (.refl _) (List.prefix_refl _) (((hE.set i r1).set j r2).set l r3) hS⟩
    | _ :: _ :: _ :: _ :: _, _, hF => exact hF.elim
end
/-! ### isinstance(e, (S, T)) -/
def cIsa2 (T1 T2 : String) : D → Store → Option (D × Store) := fun x M => (tyD x M).map fun t => (.p (.bl (isaT t T1 || isaT t T2)), M)
/-- isinstance(e, (T1, T2)) -/
def rIsa2 (T1 T2 : String) (f : RE) : RE := rUn (cIsa2 T1 T2) f
section
variable {X : Cx} {W : WX}
theorem i_isa2 {e : Expr} {f : RE} {T1 T2 : String} {x1 x2 : Str} {p p1 p2 pt pos : Pos} {kk : Nat} (hT1 : T1 = "int" ∨ T1 = "bool" ∨ T1 = "str" ∨ T1 = "tuple" ∨ T1 = "list" ∨ T1 = "dict") (hT2 : T2 = "int" ∨ T2 = "bool" ∨ T2 = "str" ∨ T2 = "tuple" ∨ T2 = "list" ∨ T2 = "dict") (hg : Gl X "isinstance") (hm : X.mg "isinstance" = none)
    (hg1 : Gl X x1) (hm1 : X.mg x1 = none) (hv1 : bootBuiltins x1 = some (.type T1)) (hg2 : Gl X x2) (hm2 : X.mg x2 = none) (hv2 : bootBuiltins x2 = some (.type T2))
    (ha : PE X e (tE (gm X) W f)) (hn1 : x1 ≠ "__name__" := by decide) (hd1 : (x1 == ("__debug__" : Str)) = false := by decide) (hn2 : x2 ≠ "__name__" := by decide) (hd2 : (x2 == ("__debug__" : Str)) = false := by decide)
    (hs : starEach [e, .Tuple [.Name x1 p1, .Name x2 p2] kk pt] X.env = (false, eval e X.env) :: starEach [.Tuple [.Name x1 p1, .Name x2 p2] kk pt] X.env := by rfl) (hs2 : starEach [.Tuple [.Name x1 p1, .Name x2 p2] kk pt] X.env = (false, eval (.Tuple [.Name x1 p1, .Name x2 p2] kk pt) X.env) :: starEach [] X.env := by rfl)
    (hs3 : starEach [.Name x1 p1, .Name x2 p2] X.env = (false, eval (.Name x1 p1) X.env) :: starEach [.Name x2 p2] X.env := by rfl) (hs4 : starEach [.Name x2 p2] X.env = (false, eval (.Name x2 p2) X.env) :: starEach [] X.env := by rfl)
    (hpl : (backTo pos (starEach [.Tuple [.Name x1 p1, .Name x2 p2] kk pt] X.env)).any (·.1) = false := by rfl) :
    PE X (.Call (.Name "isinstance" p) [e, .Tuple [.Name x1 p1, .Name x2 p2] kk pt] [] pos) (tE (gm X) W (rIsa2 T1 T2 f)) := by
  refine PEimp (pe_callB call_isiT hg hm PyProof.Rows.boot_isinstance (pa_cons ha (pa_cons (pe_tup (pa_cons (pe_bltn (v := .ty T1) hg1 hm1 hv1 rfl hn1 hd1) (pa_cons (pe_bltn (v := .ty T2) hg2 hm2 hv2 rfl hn2 hd2) pa_nil hs4) hs3)) pa_nil hs2) hs) (by decide) (by decide) hs hpl) fun σ H Q h => ?_
  refine (tX.bind h).mono fun v H1 ⟨μ, ρ, M, x, hE, hS, rx, hF⟩ => ?_
  have hF : Fin (gm X) (Rep (gm X)) W μ σ H1 Q (ofO (cIsa2 T1 T2 x M)) := hF
  cases q : tyD x M with
  | none =>
    unfold cIsa2 at hF
    rw [q] at hF
    exact hF.elim
  | some t =>
    unfold cIsa2 at hF
    rw [q] at hF
    refine ⟨(by decide : 2 ≤ sizeLine), fun a ha0 => ?_⟩
    have ex : Ext H1 (upd H1 a (.tup [.ty T1, .ty T2])) := .new ha0
    have hk : PySem.W.kitAny X.K (.type t) [.type T1, .type T2] = some (isaT t T1 || isaT t T2) := by
      have k1 := kit_ty (K := X.K) (isaT_ok t T1 (tyD_names q) hT1)
      have k2 := kit_ty (K := X.K) (isaT_ok t T2 (tyD_names q) hT2)
      simp only [PySem.W.kitAny, k1, k2]
      cases isaT t T1 <;> cases isaT t T2 <;> rfl
    exact ⟨v, a, [.ty T1, .ty T2], .type t, [.type T1, .type T2], _, rfl, upd_same, .cons (.ty T1) (.cons (.ty T2) .nil), tyD_ok (hS.grow ha0) (rx.ext ex (List.prefix_refl _)) q, hk, hF μ _ _ ex (List.prefix_refl _) (hS.grow ha0) (Rep.bl.mpr rfl)⟩
end
@[simp] theorem e_isa2 (T1 T2 f) (ρ : Env) (M : Store) : rIsa2 T1 T2 f ρ M = (f ρ M).bind fun x M1 => ofO (cIsa2 T1 T2 x M1) := (rfl)
/-! ### more methods of lists -/
def mReverse : D → List D → Store → Option (D × Store)
  | .ref l, [], M => (match M[l]? with
    | some (.lst xs) => some (.p .non, M.set l (.lst xs.reverse))
    | _ => none)
  | _, _, _ => none
def mInsert : D → List D → Store → Option (D × Store)
  | .ref l, [.p (.int i), y], M => (match M[l]? with
    | some (.lst xs) => if xs.length < sizeLine ∧ 0 ≤ i ∧ i < 2 ^ 63 then some (.p .non, M.set l (.lst (xs.take i.toNat ++ [y] ++ xs.drop i.toNat))) else none
    | _ => none)
  | _, _, _ => none
section
variable {G : Gm}
theorem d_reverse : MtD G mReverse rReverse := by
  intro μ H M x xs v vs Q d M' S rx rxs q k
  unfold mReverse at q
  split at q
  · rename_i l
    split at q
    · rename_i ys e
      cases q
      obtain ⟨a, h1, rfl⟩ := Rep.ref.mp rx
      obtain ⟨ws, h2, h3⟩ := S.lst h1 e
      have e0 := rxs.inv0
      subst e0
      have ex := Ext.lst (o := .lst ws.reverse) h2
      exact ⟨a, ws, rfl, rfl, h2, k μ _ _ ex (List.prefix_refl _) (S.put (o := .lst ys.reverse) h1 e rfl rfl (fun ob w z => by rw [h2] at z; cases z) ex ⟨_, upd_same, h3.rev.ext ex (List.prefix_refl _)⟩) (Rep.non.mpr rfl)⟩
    · cases q
  · cases q
theorem d_insert : MtD G mInsert (fun x vs H Q => ∃ l xs i y, x = V.ref l ∧ vs = [V.int i, y] ∧ H l = some (HO.lst xs) ∧ xs.length < sizeLine ∧ 0 ≤ i ∧ i < 2 ^ 63 ∧ Q V.non (upd H l (HO.lst (List.take i.toNat xs ++ [y] ++ List.drop i.toNat xs)))) := by
  intro μ H M x xs v vs Q d M' S rx rxs q k
  unfold mInsert at q
  split at q
  · rename_i l i y
    split at q
    · rename_i ys e
      split at q
      · rename_i hl
        cases q
        obtain ⟨a, h1, rfl⟩ := Rep.ref.mp rx
        obtain ⟨ws, h2, h3⟩ := S.lst h1 e
        obtain ⟨w1, w, rfl, r1, h4⟩ := rxs.inv2
        rw [Rep.int] at r1
        subst r1
        have ex := Ext.lst (o := .lst (ws.take i.toNat ++ [w] ++ ws.drop i.toNat)) h2
        exact ⟨a, ws, i, w, rfl, rfl, h2, by rw [← h3.length]; exact hl.1, hl.2.1, hl.2.2, k μ _ _ ex (List.prefix_refl _) (S.put (o := .lst (ys.take i.toNat ++ [y] ++ ys.drop i.toNat)) h1 e rfl rfl (fun ob w z => by rw [h2] at z; cases z) ex ⟨_, upd_same, (((h3.take _).app (.cons h4 .nil)).app (h3.drop _)).ext ex (List.prefix_refl _)⟩) (Rep.non.mpr rfl)⟩
      · cases q
    · cases q
  · cases q
end
/-! ### a comprehension, turn by turn -/
@[simp] theorem lcL_nil {l : Nat} {g : RG} {tt : RT} {te : RE} {ρ : Env} {M : Store} : lcL l none g tt te ρ [] M = .ok (.ref l) M := by
  unfold lcL
  exact if_pos True.intro
/-- one turn that is kept -/
theorem lcL_keep {l : Nat} {k : Option (Nat × O)} {g : RG} {tt : RT} {te : RE} {ρ ρ1 : Env} {x y : D} {xs acc : List D} {M M1 M2 M3 : Store} (hk : chk k M) (h1 : g x ρ M = some (ρ1, M1)) (h2 : tt ρ1 M1 = .ok true M2) (h3 : te ρ1 M2 = .ok y M3) (h4 : M3[l]? = some (.lst acc)) (h5 : acc.length < sizeLine) :
    lcL l k g tt te ρ (x :: xs) M = lcL l k g tt te ρ xs (M3.set l (.lst (acc ++ [y]))) := by
  conv => lhs; unfold lcL
  rw [if_pos hk, h1]
  dsimp only
  rw [h2]
  dsimp only
  rw [h3]
  dsimp only
  rw [h4]
  dsimp only
  rw [if_pos h5]
theorem lcL_skip {l : Nat} {k : Option (Nat × O)} {g : RG} {tt : RT} {te : RE} {ρ ρ1 : Env} {x : D} {xs : List D} {M M1 M2 : Store} (hk : chk k M) (h1 : g x ρ M = some (ρ1, M1)) (h2 : tt ρ1 M1 = .ok false M2) :
    lcL l k g tt te ρ (x :: xs) M = lcL l k g tt te ρ xs M2 := by
  conv => lhs; unfold lcL
  rw [if_pos hk, h1]
  dsimp only
  rw [h2]
/-- an invariant of a comprehension that keeps every item -/
theorem lcL_inv {l : Nat} {k : Option (Nat × O)} {g : RG} {te : RE} {ρ : Env} (xs : List D) (I : Nat → Store → Prop) (hc : ∀ i M, I i M → chk k M)
    (h : ∀ i x M, xs[i]? = some x → I i M → ∃ ρ1 y M3 acc, g x ρ M = some (ρ1, M) ∧ te ρ1 M = .ok y M3 ∧ M3[l]? = some (.lst acc) ∧ acc.length < sizeLine ∧ I (i + 1) (M3.set l (.lst (acc ++ [y])))) :
    ∀ {M}, I 0 M → ∃ M', lcL l k g rYes te ρ xs M = .ok (.ref l) M' ∧ I xs.length M' := by
  have go : ∀ (n i : Nat) (M), n = xs.length - i → i ≤ xs.length → I i M → ∃ M', lcL l k g rYes te ρ (xs.drop i) M = .ok (.ref l) M' ∧ I xs.length M' := by
    intro n
    induction n with
    | zero =>
      intro i M hn hi hI
      have e : i = xs.length := by omega
      subst e
      refine ⟨M, ?_, hI⟩
      rw [List.drop_length]
      unfold lcL
      exact if_pos (hc _ _ hI)
    | succ n ih =>
      intro i M hn hi hI
      have hlt : i < xs.length := by omega
      obtain ⟨ρ1, y, M3, acc, h1, h2, h3, h4, h5⟩ := h i xs[i] M (List.getElem?_eq_getElem hlt) hI
      obtain ⟨M', h6, h7⟩ := ih (i + 1) _ (by omega) (by omega) h5
      refine ⟨M', ?_, h7⟩
      rw [List.drop_eq_getElem_cons hlt, lcL_keep (hc _ _ hI) h1 rfl h2 h3 h4]
      exact h6
  intro M hI
  exact go _ 0 M rfl (Nat.zero_le _) hI
end Fl

set_option Elab.async false
set_option linter.all false
set_option maxRecDepth 100000
/-! Fl, part W: what stays in the store. -/
namespace Fl
open PySem PySem.Spec L2
set_option autoImplicit false
theorem pfx_get {α : Type} {M M' : List α} (p : M <+: M') {l : Nat} {o : α} (h : M[l]? = some o) : M'[l]? = some o := by
  obtain ⟨t, rfl⟩ := p
  obtain ⟨hl, e⟩ := List.getElem?_eq_some_iff.mp h
  rw [List.getElem?_append_left hl]
  exact h
theorem pfx_app {α : Type} {M M' : List α} (p : M <+: M') (x : List α) : M <+: M' ++ x := p.trans (List.prefix_append _ _)
theorem pfx_set {α : Type} {M M' : List α} (p : M <+: M') {l : Nat} (h : M.length ≤ l) (x : α) : M <+: M'.set l x := by
  obtain ⟨t, rfl⟩ := p
  rw [List.set_append_right _ _ h]
  exact List.prefix_append _ _
theorem pfx_len {α : Type} {M M' : List α} (p : M <+: M') : M.length ≤ M'.length := p.length_le
theorem get_app {α : Type} {M : List α} {l : Nat} {o : α} (h : M[l]? = some o) (x : List α) : (M ++ x)[l]? = some o := pfx_get (List.prefix_append _ _) h
theorem get_new {α : Type} (M : List α) (o : α) : (M ++ [o])[M.length]? = some o := by simp
theorem get_lt {α : Type} {M : List α} {l : Nat} {o : α} (h : M[l]? = some o) : l < M.length := (List.getElem?_eq_some_iff.mp h).1
theorem get_set_ne {α : Type} {M : List α} {l k : Nat} {o x : α} (h : M[l]? = some o) (n : k ≠ l) : (M.set k x)[l]? = some o := by rw [List.getElem?_set_ne n]; exact h
theorem get_set_same {α : Type} {M : List α} {l : Nat} {x : α} (h : l < M.length) : (M.set l x)[l]? = some x := List.getElem?_set_self h
theorem chk_some {l : Nat} {o : O} {M : Store} (h : M[l]? = some o) : chk (some (l, o)) M := h
theorem v_len_l (l : Nat) (xs : List D) (M : Store) (h : M[l]? = some (.lst xs)) : cLen [.ref l] M = some (.p (.int (xs.length : Nat)), M) := by simp [cLen, lenD, h]
theorem v_ix_l (l : Nat) (xs : List D) (i : Nat) (d : D) (M : Store) (h : M[l]? = some (.lst xs)) (hi : xs[i]? = some d) : dIx (.ref l) (.p (.int i)) M = some (d, M) := by
  simp only [dIx, rowD, h, atI_nat hi, Option.map_some]
theorem v_cat (l k : Nat) (xs ys : List D) (M : Store) (h : M[l]? = some (.lst xs)) (h2 : M[k]? = some (.lst ys)) (hl : xs.length + ys.length ≤ sizeLine) : dAdd (.ref l) (.ref k) M = some (.ref M.length, M ++ [.lst (xs ++ ys)]) := by
  simp [dAdd, h, h2, hl]
theorem v_set (l : Nat) (xs : List D) (i : Nat) (d : D) (M : Store) (h : M[l]? = some (.lst xs)) (hi : i < xs.length) : setD (.ref l) (.p (.int i)) d M = some (M.set l (.lst (xs.set i d))) := by
  have e : ixN xs.length (i : Int) = some i := by
    unfold ixN
    rw [if_pos (by omega), if_pos (by omega)]
    simp
  simp only [setD, h, e, Option.map_some]
theorem v_append (l : Nat) (xs : List D) (d : D) (M : Store) (h : M[l]? = some (.lst xs)) (hl : xs.length < sizeLine) : mAppend (.ref l) [d] M = some (.p .non, M.set l (.lst (xs ++ [d]))) := by
  simp [mAppend, h, hl]
theorem isLst_ref (l : Nat) (xs : List D) (M : Store) (h : M[l]? = some (.lst xs)) : isLst (.ref l) M = true := by simp [isLst, h]
theorem walk_ref (l : Nat) (xs : List D) (M : Store) (h : M[l]? = some (.lst xs)) : walkD (.ref l) M = some (xs, some (l, .lst xs)) := by simp [walkD, h]
theorem lt_line {n : Nat} (h : n ≤ 1000000) : n < sizeLine := by rw [sizeLine_eq]; omega
theorem le_line {n : Nat} (h : n ≤ 1000000) : n ≤ sizeLine := by rw [sizeLine_eq]; omega
/-- a comprehension that reads alone: filter and map -/
theorem lc_new {k : Option (Nat × O)} {g : RG} {tt : RT} {te : RE} {ρ : Env} (p : D → Bool) (f : D → D) (M : Store) (hk : ∀ ys, chk k (M ++ [.lst ys])) (xs : List D) (hl : xs.length ≤ 1000000)
    (h : ∀ x ∈ xs, ∀ ys, ∃ ρ1, g x ρ (M ++ [.lst ys]) = some (ρ1, M ++ [.lst ys]) ∧ tt ρ1 (M ++ [.lst ys]) = .ok (p x) (M ++ [.lst ys]) ∧ (p x = true → te ρ1 (M ++ [.lst ys]) = .ok (f x) (M ++ [.lst ys]))) :
    lcL M.length k g tt te ρ xs (M ++ [.lst []]) = .ok (.ref M.length) (M ++ [.lst ((xs.filter p).map f)]) := by
  have hset : ∀ ys, (M ++ [O.lst []]).set M.length (.lst ys) = M ++ [.lst ys] := fun ys => by simp
  have key := lc_pure (l := M.length) (k := k) (g := g) (tt := tt) (te := te) (ρ := ρ) p f (M ++ [.lst []]) (by simp) (fun ys => by rw [hset]; exact hk ys) xs [] (by simpa using lt_line hl) (fun x hx ys => by rw [hset]; exact h x hx ys)
  rw [hset, hset, List.nil_append] at key
  exact key
/-- the same without a test -/
theorem lc_map {k : Option (Nat × O)} {g : RG} {te : RE} {ρ : Env} (f : D → D) (M : Store) (hk : ∀ ys, chk k (M ++ [.lst ys])) (xs : List D) (hl : xs.length ≤ 1000000)
    (h : ∀ x ∈ xs, ∀ ys, ∃ ρ1, g x ρ (M ++ [.lst ys]) = some (ρ1, M ++ [.lst ys]) ∧ te ρ1 (M ++ [.lst ys]) = .ok (f x) (M ++ [.lst ys])) :
    lcL M.length k g rYes te ρ xs (M ++ [.lst []]) = .ok (.ref M.length) (M ++ [.lst (xs.map f)]) := by
  have key := lc_new (k := k) (g := g) (tt := rYes) (te := te) (ρ := ρ) (fun _ => true) f M hk xs hl (fun x hx ys => by
    obtain ⟨ρ1, h1, h2⟩ := h x hx ys
    exact ⟨ρ1, h1, rfl, fun _ => h2⟩)
  have e : xs.filter (fun _ => true) = xs := List.filter_eq_self.mpr fun _ _ => rfl
  rw [e] at key
  exact key
theorem chk_app {l : Nat} {o : O} {M : Store} (h : M[l]? = some o) (ys : List O) : chk (some (l, o)) (M ++ ys) := get_app h ys
end Fl

set_option Elab.async false
set_option linter.all false
set_option maxRecDepth 100000
/-! Fl, part X: texts, f-strings, written tables, is of bools. -/
namespace Fl
open PySem PySem.Spec L2 PyProof.Rows
set_option autoImplicit false
/-! ### is of bools -/
def isBl : D → Bool → Bool
  | .p (.bl a), b => a == b
  | _, _ => false
def dIsB : D → D → Store → Option (D × Store)
  | x, .p (.bl b), M => some (.p (.bl (isBl x b)), M)
  | _, _, _ => none
section
variable {X : Cx}
theorem op_isB : OpR X (compareOp .Is) (fun x y H Q => ∃ b, y = .bl b ∧ Q (.bl (decide (x = .bl b))) H) := by
  intro pins s σ H x y v u Q I rx ry h
  obtain ⟨b, rfl, q⟩ := h
  cases (show u = Value.bool b from ry)
  cases x with
  | bl a =>
    cases (show v = Value.bool a from rx)
    by_cases e : a = b
    · subst e
      exact wpAny_is_self rfl ⟨.bl true, H, I, rfl, by simpa using q⟩
    · exact wpAny_is_other rfl (fun z => e (Value.bool.inj z)) ⟨.bl false, H, I, rfl, by simpa [e] using q⟩
  | non => cases rx; exact wpAny_is_other rfl (fun z => by cases z) ⟨.bl false, H, I, rfl, by simpa using q⟩
  | int i => obtain ⟨t, rfl⟩ := rx; exact wpAny_is_other rfl (fun z => by cases z) ⟨.bl false, H, I, rfl, by simpa using q⟩
  | str i => obtain ⟨t, rfl⟩ := rx; exact wpAny_is_other rfl (fun z => by cases z) ⟨.bl false, H, I, rfl, by simpa using q⟩
  | byt i => obtain ⟨t, rfl⟩ := rx; exact wpAny_is_other rfl (fun z => by cases z) ⟨.bl false, H, I, rfl, by simpa using q⟩
  | flt i => obtain ⟨t, rfl⟩ := rx; exact wpAny_is_other rfl (fun z => by cases z) ⟨.bl false, H, I, rfl, by simpa using q⟩
  | ref a => cases rx; exact wpAny_is_other rfl (fun z => by cases z) ⟨.bl false, H, I, rfl, by simpa using q⟩
  | ty a => cases rx; exact wpAny_is_other rfl (fun z => by cases z) ⟨.bl false, H, I, rfl, by simpa using q⟩
theorem isBl_ok {G : Gm} {μ : List Addr} {H : Hp} {x : D} {v : V} (r : Rep G μ H x v) (b : Bool) : isBl x b = decide (v = .bl b) := by
  unfold isBl
  split
  · rw [Rep.bl] at r
    subst r
    rename_i a _
    cases a <;> cases b <;> simp
  · rename_i h
    cases x with
    | p x => cases x with
      | bl a => exact absurd rfl (h a)
      | non => rw [Rep.non] at r; subst r; simp
      | int i => rw [Rep.int] at r; subst r; simp
      | str i => rw [Rep.str] at r; subst r; simp
      | tup xs => obtain ⟨a, vs, rfl, _⟩ := Rep.ptup.mp r; simp
    | ref l => obtain ⟨a, _, rfl⟩ := Rep.ref.mp r; simp
    | tup xs => obtain ⟨a, vs, rfl, _⟩ := Rep.tup.mp r; simp
    | gl x => simp only [Rep] at r; obtain ⟨a, _, rfl⟩ := r; simp
    | exv x => simp only [Rep] at r; subst r; simp
    | lam i => simp only [Rep] at r; obtain ⟨rfl, _⟩ := r; simp
theorem d_isB {G : Gm} : OpD G dIsB (fun x y H Q => ∃ b, y = .bl b ∧ Q (.bl (decide (x = .bl b))) H) := by
  intro μ H M x y v u Q d M' S rx ry q k
  unfold dIsB at q
  split at q
  · rename_i x' b
    cases q
    rw [Rep.bl] at ry
    subst ry
    refine ⟨b, rfl, ?_⟩
    rw [← isBl_ok rx b]
    exact k μ _ H (.refl _) (List.prefix_refl _) S (Rep.bl.mpr rfl)
  · cases q
end
/-! ### str of an int -/
def numS (i : Int) : Str := toString i
def cStr : List D → Store → Option (D × Store)
  | [.p (.int i)], M => if i.natAbs.log2 < 1920 then some (.p (.str (numS i)), M) else none
  | _, _ => none
theorem d_str {G : Gm} : CallD G cStr (fun xs H Q => ∃ i, xs = [.int i] ∧ i.natAbs.log2 < 1920 ∧ Q (.str (toString i)) H) := by
  intro μ H M xs vs Q d M' S r q k
  unfold cStr at q
  split at q
  · rename_i M0 i
    split at q
    · rename_i hz
      cases q
      obtain ⟨v, rfl, rv⟩ := r.inv1
      rw [Rep.int] at rv
      subst rv
      exact ⟨i, rfl, hz, k μ _ H (.refl _) (List.prefix_refl _) S (Rep.str.mpr rfl)⟩
    · cases q
  · cases q
/-! ### xs.extend(ys), xs.pop(i) -/
def mExtend : D → List D → Store → Option (D × Store)
  | .ref l, [.ref b], M => (match M[l]?, M[b]? with
    | some (.lst xs), some (.lst ys) => if xs.length + ys.length ≤ sizeLine then some (.p .non, M.set l (.lst (xs ++ ys))) else none
    | _, _ => none)
  | _, _, _ => none
theorem d_extend {G : Gm} : MtD G mExtend rExtend := by
  intro μ H M x xs v vs Q d M' S r rs q k
  unfold mExtend at q
  split at q
  · rename_i M0 l b
    split at q
    · rename_i ys zs e1 e2
      split at q
      · rename_i hl
        cases q
        obtain ⟨a, ha, rfl⟩ := Rep.ref.mp r
        obtain ⟨w, rfl, rw⟩ := rs.inv1
        obtain ⟨c, hc, rfl⟩ := Rep.ref.mp rw
        obtain ⟨us, h1, h2⟩ := S.lst ha e1
        obtain ⟨ws, h3, h4⟩ := S.lst hc e2
        have ex := Ext.lst (o := .lst (us ++ ws)) h1
        exact ⟨a, c, us, ws, rfl, rfl, h1, h3, by rw [← h2.length, ← h4.length]; exact hl, k μ _ _ ex (List.prefix_refl _) (S.put (o := .lst (ys ++ zs)) ha e1 rfl rfl (fun ob w z => by rw [h1] at z; cases z) ex ⟨_, upd_same, (h2.app h4).ext ex (List.prefix_refl _)⟩) (Rep.non.mpr rfl)⟩
      · cases q
    · cases q
  · cases q
theorem Reps.erase {G : Gm} {μ : List Addr} {H : Hp} {xs : List D} {vs : List V} (h : Reps G μ H xs vs) (n : Nat) : Reps G μ H (xs.eraseIdx n) (vs.eraseIdx n) := by
  rw [List.eraseIdx_eq_take_drop_succ, List.eraseIdx_eq_take_drop_succ]
  exact (h.take n).app (h.drop (n + 1))
def mPopAt : D → List D → Store → Option (D × Store)
  | .ref l, [.p (.int i)], M => (match M[l]? with
    | some (.lst xs) => if 0 ≤ i ∧ i < 1000000000 then (match xs[i.toNat]? with
      | some y => some (y, M.set l (.lst (xs.eraseIdx i.toNat)))
      | none => none) else none
    | _ => none)
  | _, _, _ => none
theorem d_popAt {G : Gm} : MtD G mPopAt rPopAt := by
  intro μ H M x xs v vs Q d M' S r rs q k
  unfold mPopAt at q
  split at q
  · rename_i M0 l i
    split at q
    · rename_i ys e1
      split at q
      · rename_i hi
        split at q
        · rename_i y hy
          cases q
          obtain ⟨a, ha, rfl⟩ := Rep.ref.mp r
          obtain ⟨w, rfl, rw⟩ := rs.inv1
          rw [Rep.int] at rw
          subst rw
          obtain ⟨us, h1, h2⟩ := S.lst ha e1
          obtain ⟨u, hu, ru⟩ := h2.get hy
          have hlt := (List.getElem?_eq_some_iff.mp hu).1
          have ex := Ext.lst (o := .lst (us.eraseIdx i.toNat)) h1
          have hs : seqIndex? i us.length = some i.toNat := by
            refine (ixN_seq (n := us.length) (i := i) (j := i.toNat) ?_).1
            unfold ixN
            rw [if_pos hi.1, if_pos (by omega)]
          exact ⟨a, us, i, i.toNat, u, rfl, rfl, h1, by omega, by omega, hs, hu, k μ _ _ ex (List.prefix_refl _) (S.put (o := .lst (ys.eraseIdx i.toNat)) ha e1 rfl rfl (fun ob w z => by rw [h1] at z; cases z) ex ⟨_, upd_same, (h2.erase _).ext ex (List.prefix_refl _)⟩) (ru.ext ex (List.prefix_refl _))⟩
        · cases q
      · cases q
    · cases q
  · cases q
/-! ### a method of a text, one argument -/
def isStr : D → Bool
  | .p (.str _) => true
  | _ => false
def rSM (op : D → D → Store → Option (D × Store)) (fo fe : RE) : RE := fun ρ M => (fo ρ M).bind fun x M1 => match isStr x with
  | true => (fe ρ M1).bind fun y M2 => ofO (op x y M2)
  | false => .no
def MsD (G : Gm) (op : D → D → Store → Option (D × Store)) (r : V → List V → Hp → VK → Prop) : Prop :=
  ∀ (μ : List Addr) (H : Hp) (M : Store) (x y : D) (v u : V) (Q : VK) (d : D) (M' : Store), SR G μ H M → Rep G μ H x v → Rep G μ H y u → op x y M = some (d, M') →
    (∀ μ' w H', Ext H H' → μ <+: μ' → SR G μ' H' M' → Rep G μ' H' d w → Q w H') → r v [u] H Q
theorem isStr_ok {G : Gm} {μ : List Addr} {H : Hp} {x : D} {v : V} (r : Rep G μ H x v) (h : isStr x = true) : ∃ a, v = .str a := by
  unfold isStr at h
  split at h
  · rw [Rep.str] at r; exact ⟨_, r⟩
  · cases h
section
variable {X : Cx} {W : WX} {fo fe : RE} {r : V → List V → Hp → VK → Prop} {op : D → D → Store → Option (D × Store)}
theorem sm_in (hd : MsD (gm X) op r) {σ : L2.St} {H : Hp} {Q : VK} (h : tE (gm X) W (rSM op fo fe) σ H Q) : tM1 r (tE (gm X) W fo) (tE (gm X) W fe) σ H Q := by
  refine (tX.bind h).mono fun v H1 ⟨μ, ρ, M, x, hE, hS, rx, hF⟩ => ?_
  have hF : Fin (gm X) (Rep (gm X)) W μ σ H1 Q (match isStr x with
    | true => (fe ρ M).bind fun y M2 => ofO (op x y M2)
    | false => .no) := hF
  cases q : isStr x with
  | false => rw [q] at hF; exact hF.elim
  | true =>
    rw [q] at hF
    refine ⟨isStr_ok rx q, ?_⟩
    have g1 : Go (gm X) (Rep (gm X)) (Rep (gm X)) W (fun x ρ M => (fe ρ M).bind fun y M2 => ofO (op x y M2)) σ Q v H1 := ⟨μ, ρ, M, x, hE, hS, rx, hF⟩
    refine (Go.bind Rep.mono g1).mono fun u H2 ⟨μ2, ρ2, M2, x2, y, hE2, hS2, rx2, ry, hF2⟩ => ?_
    have hF2 : Fin (gm X) (Rep (gm X)) W μ2 σ H2 Q (ofO (op x2 y M2)) := hF2
    cases q2 : op x2 y M2 with
    | none => rw [q2] at hF2; exact hF2.elim
    | some p =>
      obtain ⟨d, M'⟩ := p
      rw [q2] at hF2
      exact hd μ2 H2 M2 x2 y v u Q d M' hS2 rx2 ry q2 hF2
end
/-- the texts of a list -/
def strsOf : List D → Option (List Str)
  | [] => some []
  | .p (.str y) :: r => (strsOf r).map (y :: ·)
  | _ => none
theorem strsOf_map : ∀ ys : List Str, strsOf (ys.map fun y => D.p (.str y)) = some ys
  | [] => rfl
  | y :: ys => by simp [strsOf, strsOf_map ys]
theorem Reps.strs {G : Gm} {μ : List Addr} {H : Hp} : ∀ {xs : List D} {ys : List Str} {vs : List V}, strsOf xs = some ys → Reps G μ H xs vs → vs = ys.map V.str
  | [], ys, vs, e, h => by
    cases e
    rw [h.inv0]
    rfl
  | x :: xs, ys, vs, e, h => by
    obtain ⟨v, r, rfl, h1, h2⟩ := h.inv
    unfold strsOf at e
    split at e
    · rename_i h0; cases h0
    · rename_i y r0 h0
      cases h0
      cases q : strsOf xs with
      | none => rw [q] at e; cases e
      | some zs =>
        rw [q] at e
        cases e
        rw [Rep.str] at h1
        rw [h1, Reps.strs q h2]
        rfl
    · cases e
abbrev rJoinU (K : PySem.W.Frag) : V → List V → Hp → VK → Prop := fun x xs H Q => ∃ a p, ∃ ys : List Str, x = .str a ∧ xs = [.ref p] ∧ (SqL K H p (ys.map V.str) ∨ SqT K H p (ys.map V.str)) ∧
      (ys.map (·.length)).sum + ys.length * a.length ≤ 16777216 ∧ Q (.str (Txt.join a ys)) H
def sJoin : D → D → Store → Option (D × Store)
  | .p (.str a), .ref l, M => (match M[l]? with
    | some (.lst xs) => (match strsOf xs with
      | some ys => if (ys.map (·.length)).sum + ys.length * a.length ≤ 16777216 then some (.p (.str (Txt.join a ys)), M) else none
      | none => none)
    | _ => none)
  | _, _, _ => none
theorem d_join {G : Gm} : MsD G sJoin (rJoinU G.K) := by
  intro μ H M x y v u Q d M' S rx ry q k
  unfold sJoin at q
  split at q
  · rename_i M0 a l
    split at q
    · rename_i xs e1
      split at q
      · rename_i ys e2
        split at q
        · rename_i hz
          cases q
          rw [Rep.str] at rx
          subst rx
          obtain ⟨b, hb, rfl⟩ := Rep.ref.mp ry
          obtain ⟨vs, h1, h2⟩ := S.lst hb e1
          have e3 := Reps.strs e2 h2
          subst e3
          exact ⟨a, b, ys, rfl, rfl, .inl (SqL.of h1), hz, k μ _ H (.refl _) (List.prefix_refl _) S (Rep.str.mpr rfl)⟩
        · cases q
      · cases q
    · cases q
  · cases q
section
variable {X : Cx} {W : WX} {o e : Expr} {fo fe : RE} {apos pos : Pos}
theorem i_join (ho : PE X o (tE (gm X) W fo)) (he : PE X e (tE (gm X) W fe)) (hs : starEach [e] X.env = [(false, eval e X.env)] := by rfl) (hbase : attributeBase o "join" X.env (eval o X.env) = eval o X.env := by rfl) (hline : (apos.endLine == pos.line) = true := by rfl) :
    PE X (.Call (.Attribute o "join" apos) [e] [] pos) (tE (gm X) W (rSM sJoin fo fe)) :=
  PEimp (pe_join ho he hs hbase hline) fun σ H Q h => sm_in d_join h
end
/-! ### f-strings -/
def dFmt : D → Store → Option (D × Store)
  | .p (.str y), M => if y.length ≤ sizeLine then some (.p (.str y), M) else none
  | .p (.int i), M => if i.natAbs.log2 < 1920 then some (.p (.str (numS i)), M) else none
  | _, _ => none
abbrev rFmtU : V → Hp → VK → Prop := fun x H1 Q => (∃ y : Str, x = .str y ∧ y.length ≤ sizeLine ∧ Q (.str y) H1) ∨ ∃ i : Int, x = .int i ∧ i.natAbs.log2 < 1920 ∧ Q (.str (toString i)) H1
theorem d_fmt {G : Gm} : OpU G dFmt rFmtU := by
  intro μ H M x v Q d M' S r q k
  unfold dFmt at q
  split at q
  · split at q
    · rename_i hz
      cases q
      rw [Rep.str] at r
      subst r
      exact .inl ⟨_, rfl, hz, k μ _ H (.refl _) (List.prefix_refl _) S (Rep.str.mpr rfl)⟩
    · cases q
  · split at q
    · rename_i hz
      cases q
      rw [Rep.int] at r
      subst r
      exact .inr ⟨_, rfl, hz, k μ _ H (.refl _) (List.prefix_refl _) S (Rep.str.mpr rfl)⟩
    · cases q
  · cases q
def jsK (acc : Str) (k : Str → Store → R Str) : D → Store → R Str
  | .p (.str y), M1 => if (acc ++ y).length ≤ sizeLine then k (acc ++ y) M1 else .no
  | _, _ => .no
def rJs : List RE → Str → RX Str
  | [], acc => fun _ M => .ok acc M
  | f :: fs, acc => fun ρ M => (f ρ M).bind (jsK acc fun a M1 => rJs fs a ρ M1)
def rFS (fs : List RE) : RE := fun ρ M => (rJs fs Str.empty ρ M).bind fun out M1 => .ok (.p (.str out)) M1
section
variable {X : Cx} {W : WX} {e : Expr} {fe : RE} {pos : Pos}
theorem js_in {G : Gm} : ∀ (fs : List RE) (acc : Str) {σ : L2.St} {H : Hp} {Q : Str → Hp → Prop}, tX G (fun _ _ (a b : Str) => a = b) W (rJs fs acc) σ H Q → tJs (fs.map fun f => tE G W f) acc σ H Q
  | [], acc, σ, H, Q, h => by
    obtain ⟨μ, ρ, M, hE, hS, hF⟩ := h
    exact hF μ acc H (.refl _) (List.prefix_refl _) hS rfl
  | f :: fs, acc, σ, H, Q, h => by
    refine (tX.bind (f := f) (rel := Rep G) (g := fun d ρ M1 => jsK acc (fun a M1 => rJs fs a ρ M1) d M1) h).mono fun v H1 ⟨μ, ρ, M, d, hE, hS, rd, hF⟩ => ?_
    have hF : Fin G (fun _ _ (a b : Str) => a = b) W μ σ H1 Q (jsK acc (fun a M1 => rJs fs a ρ M1) d M) := hF
    unfold jsK at hF
    split at hF
    · rw [Rep.str] at rd
      split at hF
      · rename_i hl
        exact ⟨_, rd, hl, js_in fs _ ⟨μ, ρ, _, hE, hS, hF⟩⟩
      · exact hF.elim
    · exact hF.elim
theorem i_fmt (he : PE X e (tE (gm X) W fe)) : PE X (.FormattedValue e (-1) none pos) (tE (gm X) W (rUn dFmt fe)) := PEimp (pe_fmt he) fun σ H Q h => un_in d_fmt h
theorem i_fs {v1 v2 : Expr} {rest : List Expr} {fs : List RE} (h : PJ X (v1 :: v2 :: rest) (fs.map fun f => tE (gm X) W f)) : PE X (.JoinedStr (v1 :: v2 :: rest) pos) (tE (gm X) W (rFS fs)) :=
  PEimp (pe_joined h) fun σ H Q h => js_in fs Str.empty ((tX.bind (rel := fun _ _ (a b : Str) => a = b) (g := fun (out : Str) (_ : Env) (M1 : Store) => (R.ok (D.p (.str out)) M1 : R D)) h).mono fun out H1 ⟨μ, ρ, M, d, hE, hS, rd, hF⟩ => by
    cases rd
    exact hF μ _ H1 (.refl _) (List.prefix_refl _) hS (Rep.str.mpr rfl))
theorem i_fs1 (he : PE X e (tE (gm X) W fe)) : PE X (.JoinedStr [e] pos) (tE (gm X) W fe) := pe_joined1 he
theorem pj_nil : PJ X [] (([] : List RE).map fun f => tE (gm X) W f) := PJ.nil
theorem pj_cons {es : List Expr} {fs : List RE} (he : PE X e (tE (gm X) W fe)) (h : PJ X es (fs.map fun f => tE (gm X) W f)) : PJ X (e :: es) ((fe :: fs).map fun f => tE (gm X) W f) := PJ.cons he h
end
/-! ### written tables with text keys -/
structure Dtb (K : PySem.W.Frag) (mg : Str → Option Value) (w : World) (x : Str) (kvs : List (Str × P)) : Prop where
  ex : ∃ (a : Addr) (es : Array DictEntry) (n : Nat), mg x = some (.ref a) ∧ KDict K w a es n ∧ ∀ q ∈ kvs, ∃ u, PySem.W.nsIn K a q.1 = some (some u) ∧ pB K q.2 u = true
def dTab (x : Str) (kvs : List (Str × P)) : D → D → Store → Option (D × Store)
  | .gl y, .p (.str z), M => if y = x then (kvs.lookup z).map fun p => (.p p, M) else none
  | _, _, _ => none
theorem lookup_in {α : Type} : ∀ {l : List (Str × α)} {k : Str} {v : α}, l.lookup k = some v → (k, v) ∈ l
  | (k0, v0) :: l, k, v, h => by
    rw [List.lookup_cons] at h
    split at h
    · rename_i e
      cases h
      rw [eq_of_beq e]
      exact List.mem_cons_self
    · exact List.mem_cons_of_mem _ (lookup_in h)
theorem d_tab {X : Cx} {x : Str} {kvs : List (Str × P)} (T : Dtb X.K X.mg X.w x kvs) : OpD (gm X) (dTab x kvs) (rIxD X.K X.w) := by
  intro μ H M x0 y v u Q d M' S rx ry q k
  unfold dTab at q
  split at q
  · rename_i M0 y0 z
    split at q
    · rename_i e0
      subst e0
      cases q2 : kvs.lookup z with
      | none => rw [q2] at q; cases q
      | some p =>
        rw [q2] at q
        cases q
        obtain ⟨a, es, n, g, D, hk⟩ := T.ex
        simp only [Rep] at rx
        obtain ⟨b, hb, rfl⟩ := rx
        have e1 : (gm X).mg y0 = some (.ref a) := g
        rw [e1] at hb
        cases hb
        rw [Rep.str] at ry
        subst ry
        obtain ⟨u, h1, h2⟩ := hk _ (lookup_in q2)
        obtain ⟨v, r1, r2⟩ := pB_ok h2
        exact ⟨a, z, v, rfl, rfl, ⟨es, n, u, D.at_, D.lit, h1, r1⟩, k μ v H (.refl _) (List.prefix_refl _) S (by simp only [Rep]; exact r2 H)⟩
    · cases q
  · cases q
theorem dtb_cst {K : PySem.W.Frag} {mg : Str → Option Value} {w : World} {x : Str} {kvs : List (Str × P)} (T : Dtb K mg w x kvs) : Cst ⟨K, mg⟩ x (.gl x) := by
  obtain ⟨a, es, n, g, D, hk⟩ := T.ex
  exact ⟨.ref a, .ref a, g, rfl, fun μ H => by simp only [Rep]; exact ⟨a, g, rfl⟩⟩
/-- the values of a table -/
def tbB (K : PySem.W.Frag) (x : Str) (kvs : List (Str × P)) : Bool := kvs.all fun q => match PySem.W.nsIn K (He.ga K x) q.1 with
  | some (some u) => pB K q.2 u
  | _ => false
abbrev Tb : Type := Str × List (Str × P)
abbrev AlY : Type := (He.AlD × Bool) × (Bool × List (Option (List (Option (Str × Int)))))
def obsY (fa : List He.Fa) (fn : List He.DefD) (cs : List (Str × CK)) (ts : List Tb) (K : PySem.W.Frag) : AlY := (obsX fa fn cs K, (ts.all fun t => tbB K t.1 t.2, ts.map fun t => He.dicW K (He.ga K t.1)))
def valY (fn : List He.DefD) (ts : List Tb) (w : World) : AlY := (valX fn, (true, ts.map fun t => some (He.keysIn w.params (t.2.map (·.1)))))
def obsYG (n : Nat) (fa : List He.Fa) (fn : List He.DefD) (cs : List (Str × CK)) (ts : List Tb) (g : Addr → Option Obj) : AlY := obsY fa fn cs ts (He.frG g (He.asD g n))
structure SaysY (fa : List He.Fa) (fn : List He.DefD) (cs : List (Str × CK)) (ts : List Tb) (w : World) (K : PySem.W.Frag) : Prop where
  d : He.SaysD fa fn K
  c : ∀ q ∈ cs, cK K q.1 q.2 = true
  t : ∀ q ∈ ts, tbB K q.1 q.2 = true ∧ He.dicW K (He.ga K q.1) = some (He.keysIn w.params (q.2.map (·.1)))
theorem map_eq_mem {α β : Type} {f g : α → β} : ∀ {l : List α}, l.map f = l.map g → ∀ x ∈ l, f x = g x
  | a :: l, h, x, hx => by
    simp only [List.map_cons, List.cons.injEq] at h
    rcases List.mem_cons.mp hx with rfl | hx
    · exact h.1
    · exact map_eq_mem h.2 x hx
def hookY (n : Nat) (fa : List He.Fa) (fn : List He.DefD) (cs : List (Str × CK)) (ts : List Tb) : PySem.W.Hook where
  α := AlY
  obs := fun s => obsYG n fa fn cs ts s.heap.get?
  val := fun w => valY fn ts w
  says := fun w h => ∃ K : PySem.W.Frag, K.In h ∧ SaysY fa fn cs ts w K
  of := fun _ _ e => ⟨_, He.frG_in, congrArg (fun z : AlY => z.1.1) e, List.all_eq_true.mp (congrArg (fun z : AlY => z.1.2) e), fun q hq => ⟨List.all_eq_true.mp (congrArg (fun z : AlY => z.2.1) e) q hq, map_eq_mem (congrArg (fun z : AlY => z.2.2) e) q hq⟩⟩
  keeps := fun _ _ _ ⟨K, hK, c⟩ k => ⟨K, PySem.W.Frag.In.keeps hK k, c⟩
theorem obsYG_eq {n : Nat} {fa : List He.Fa} {fn : List He.DefD} {cs : List (Str × CK)} {ts : List Tb} {g : Addr → Option Obj} {s : Shared} (h : ∀ a, g a = s.heap.get? a) : obsYG n fa fn cs ts g = (hookY n fa fn cs ts).obs s := by
  have e : g = s.heap.get? := funext h
  rw [e] <;> rfl
theorem dtb_ok {K : PySem.W.Frag} {mg : Str → Option Value} {h : Heap} {w : World} {fa : List He.Fa} {fn : List He.DefD} {cs : List (Str × CK)} {ts : List Tb} {t : Tb} (X : K.In h) (G : h.Ns mainGlobals mg) (c : SaysY fa fn cs ts w K) (ht : t ∈ ts) (g : (He.Fa.glo t.1).ok K = true) : Dtb K mg w t.1 t.2 := by
  obtain ⟨h1, h2⟩ := c.t t ht
  obtain ⟨es, n, D⟩ := He.dicW_ok h2
  refine ⟨_, es, n, He.glo_ok X G g, D, fun q hq => ?_⟩
  have h3 := List.all_eq_true.mp h1 q hq
  split at h3
  · rename_i u e
    exact ⟨u, e, h3⟩
  · cases h3
/-! ### readings -/
section
variable (ρ : Env) (M : Store)
@[simp] theorem e_SM (op fo fe) : rSM op fo fe ρ M = (fo ρ M).bind fun x M1 => if isStr x = true then (fe ρ M1).bind fun y M2 => ofO (op x y M2) else .no := by
  unfold rSM
  congr 1
  funext x M1
  cases isStr x <;> rfl
@[simp] theorem e_FS (fs : List RE) : rFS fs ρ M = (rJs fs Str.empty ρ M).bind fun out M1 => .ok (.p (.str out)) M1 := (rfl)
@[simp] theorem e_Js0 (acc : Str) : rJs [] acc ρ M = .ok acc M := (rfl)
@[simp] theorem e_Js1 (f : RE) (fs : List RE) (acc : Str) : rJs (f :: fs) acc ρ M = (f ρ M).bind (jsK acc fun a M1 => rJs fs a ρ M1) := (rfl)
@[simp] theorem e_jsK (acc : Str) (k : Str → Store → R Str) (y : Str) : jsK acc k (.p (.str y)) M = if (acc ++ y).length ≤ sizeLine then k (acc ++ y) M else .no := (rfl)
@[simp] theorem v_isStr (y : Str) : isStr (.p (.str y)) = true := (rfl)
@[simp] theorem v_isB (x : D) (b : Bool) : dIsB x (.p (.bl b)) M = some (.p (.bl (isBl x b)), M) := (rfl)
@[simp] theorem v_isBl_b (a b : Bool) : isBl (.p (.bl a)) b = (a == b) := (rfl)
@[simp] theorem v_isBl_n (b : Bool) : isBl (.p .non) b = false := (rfl)
@[simp] theorem v_isBl_i (i : Int) (b : Bool) : isBl (.p (.int i)) b = false := (rfl)
@[simp] theorem v_isBl_s (i : Str) (b : Bool) : isBl (.p (.str i)) b = false := (rfl)
@[simp] theorem v_isBl_t (xs : List P) (b : Bool) : isBl (.p (.tup xs)) b = false := (rfl)
theorem v_str (i : Int) (h : i.natAbs.log2 < 1920) : cStr [.p (.int i)] M = some (.p (.str (numS i)), M) := by simp [cStr, h]
theorem v_fmt_i (i : Int) (h : i.natAbs.log2 < 1920) : dFmt (.p (.int i)) M = some (.p (.str (numS i)), M) := by simp [dFmt, h]
theorem v_fmt_s (y : Str) (h : y.length ≤ sizeLine) : dFmt (.p (.str y)) M = some (.p (.str y), M) := by simp [dFmt, h]
theorem v_tab (x : Str) (kvs : List (Str × P)) (z : Str) (p : P) (h : kvs.lookup z = some p) : dTab x kvs (.gl x) (.p (.str z)) M = some (.p p, M) := by simp [dTab, h]
theorem v_extend (l b : Nat) (xs ys : List D) (h : M[l]? = some (.lst xs)) (h2 : M[b]? = some (.lst ys)) (hl : xs.length + ys.length ≤ sizeLine) : mExtend (.ref l) [.ref b] M = some (.p .non, M.set l (.lst (xs ++ ys))) := by simp [mExtend, h, h2, hl]
theorem v_popAt (l : Nat) (xs : List D) (i : Nat) (y : D) (h : M[l]? = some (.lst xs)) (hi : xs[i]? = some y) (hs : i < 1000000000) : mPopAt (.ref l) [.p (.int i)] M = some (y, M.set l (.lst (xs.eraseIdx i))) := by
  have h1 : (0 : Int) ≤ (i : Int) ∧ (i : Int) < 1000000000 := by omega
  simp [mPopAt, h, h1, hi]
theorem v_join (a : Str) (l : Nat) (ys : List Str) (h : M[l]? = some (.lst (ys.map fun y => D.p (.str y)))) (hz : (ys.map (·.length)).sum + ys.length * a.length ≤ 16777216) : sJoin (.p (.str a)) (.ref l) M = some (.p (.str (Txt.join a ys)), M) := by simp [sJoin, h, strsOf_map, hz]
end
end Fl

set_option Elab.async false
set_option linter.all false
set_option maxRecDepth 100000
/-! Fl, part Y: walks over texts, a sign in a text. -/
namespace Fl
open PySem PySem.Spec L2 PyProof.Rows
set_option autoImplicit false
def signsD (z : Str) : List D := z.cps.toList.map fun c => .p (.str ⟨#[c]⟩)
def walkS : D → Option (List D × Option (Nat × O))
  | .p (.str z) => some (signsD z, none)
  | _ => none
def wStr (f : RE) : RW := fun ρ M => (f ρ M).bind fun d M1 => ofW (walkS d) M1
theorem wk_str {G : Gm} {z : Str} {μ : List Addr} {H : Hp} : Wk G (Its z) none (signsD z) μ H := by
  refine ⟨fun _ _ => True, fun _ _ _ _ _ _ z => z, ?_, ?_, ?_, trivial⟩
  · rintro i μ H M hi _ _ _
    show i < z.cps.size
    simpa [signsD] using hi
  · rintro μ H M _ _ _
    show z.cps.size ≤ _
    simp [signsD]
  · rintro i μ H M w H' hi S _ _ ⟨rfl, c, h1, rfl⟩
    refine ⟨.p (.str ⟨#[c]⟩), ?_, .refl _, S, Rep.str.mpr rfl⟩
    unfold signsD
    rw [List.getElem?_map, Array.getElem?_toList, h1]
    rfl
theorem wi_str {X : Cx} {W : WX} {e tg : Expr} {fe : RE} (he : PE X e (tE (gm X) W fe)) : PI X tg e (tW (gm X) W (wStr fe)) :=
  PIimp (pi_str he) fun σ H R h => by
    refine (tX.bind (f := fe) (g := fun d ρ M1 => ofW (walkS d) M1) (rel := Rep (gm X)) h).mono fun v H1 ⟨μ, ρ, M, d, hE, hS, rd, hF⟩ => ?_
    have hF : Fin (gm X) _ W μ σ H1 R (ofW (walkS d) M) := hF
    cases q : walkS d with
    | none => rw [q] at hF; exact hF.elim
    | some p =>
      obtain ⟨xs, k⟩ := p
      rw [q] at hF
      unfold walkS at q
      split at q
      · cases q
        rw [Rep.str] at rd
        exact ⟨_, rd, hF μ _ H1 (.refl _) (List.prefix_refl _) hS wk_str⟩
      · cases q
/-! ### in -/
def sgn (a z : Str) : Option Bool := match a.cps.toList with
  | [c] => some (decide (c ∈ z.cps.toList))
  | _ => none
theorem sgn_ok {a z : Str} {b : Bool} (h : sgn a z = some b) : ∃ c, a = ⟨#[c]⟩ ∧ b = decide (c ∈ z.cps.toList) := by
  unfold sgn at h
  cases e : a.cps.toList with
  | nil => rw [e] at h; cases h
  | cons c r =>
    rw [e] at h
    cases r with
    | nil =>
      refine ⟨c, ?_, (Option.some.inj h).symm⟩
      cases a with
      | mk cps => exact congrArg Str.mk (Array.toList_inj.mp e)
    | cons _ _ => cases h
def dInX : D → D → Store → Option (D × Store)
  | .p (.str a), .p (.str z), M => (sgn a z).map fun b => (.p (.bl b), M)
  | x, y, M => dIn x y M
def dNotInX : D → D → Store → Option (D × Store)
  | .p (.str a), .p (.str z), M => (sgn a z).map fun b => (.p (.bl (!b)), M)
  | x, y, M => dNotIn x y M
theorem o_inX {X : Cx} (hu : X.A.units + 120 < cLine) : OpR X (compareOp .In) (fun x y H Q => rInP X.K false x y H Q ∨ ∃ (c : Nat) (z : Str), x = .str ⟨#[c]⟩ ∧ y = .str z ∧ Q (.bl (decide (c ∈ z.cps.toList))) H) := (o_in hu).or op_in_sign
theorem o_notInX {X : Cx} (hu : X.A.units + 120 < cLine) : OpR X (compareOp .NotIn) (fun x y H Q => rInP X.K true x y H Q ∨ ∃ (c : Nat) (z : Str), x = .str ⟨#[c]⟩ ∧ y = .str z ∧ Q (.bl (!decide (c ∈ z.cps.toList))) H) := (o_notIn hu).or op_notIn_sign
theorem d_inX {G : Gm} : OpD G dInX (fun x y H Q => rInP G.K false x y H Q ∨ ∃ (c : Nat) (z : Str), x = .str ⟨#[c]⟩ ∧ y = .str z ∧ Q (.bl (decide (c ∈ z.cps.toList))) H) := by
  intro μ H M x y v u Q d M' S rx ry q k
  unfold dInX at q
  split at q
  · rename_i M0 a z
    obtain ⟨b, e1, e2⟩ := Option.map_eq_some_iff.mp q
    cases e2
    obtain ⟨c, rfl, rfl⟩ := sgn_ok e1
    rw [Rep.str] at rx ry
    exact .inr ⟨c, z, rx, ry, k μ _ H (.refl _) (List.prefix_refl _) S (Rep.bl.mpr rfl)⟩
  · exact .inl (d_in μ H M x y v u Q d M' S rx ry q k)
theorem d_notInX {G : Gm} : OpD G dNotInX (fun x y H Q => rInP G.K true x y H Q ∨ ∃ (c : Nat) (z : Str), x = .str ⟨#[c]⟩ ∧ y = .str z ∧ Q (.bl (!decide (c ∈ z.cps.toList))) H) := by
  intro μ H M x y v u Q d M' S rx ry q k
  unfold dNotInX at q
  split at q
  · rename_i M0 a z
    obtain ⟨b, e1, e2⟩ := Option.map_eq_some_iff.mp q
    cases e2
    obtain ⟨c, rfl, rfl⟩ := sgn_ok e1
    rw [Rep.str] at rx ry
    exact .inr ⟨c, z, rx, ry, k μ _ H (.refl _) (List.prefix_refl _) S (Rep.bl.mpr rfl)⟩
  · exact .inl (d_notIn μ H M x y v u Q d M' S rx ry q k)
section
variable (ρ : Env) (M : Store)
@[simp] theorem e_wStr (f : RE) : wStr f ρ M = (f ρ M).bind fun d M1 => ofW (walkS d) M1 := (rfl)
@[simp] theorem v_walkS (z : Str) : walkS (.p (.str z)) = some (signsD z, none) := (rfl)
@[simp] theorem v_in_sign (c : Nat) (z : Str) : dInX (.p (.str ⟨#[c]⟩)) (.p (.str z)) M = some (.p (.bl (decide (c ∈ z.cps.toList))), M) := (rfl)
@[simp] theorem v_notIn_sign (c : Nat) (z : Str) : dNotInX (.p (.str ⟨#[c]⟩)) (.p (.str z)) M = some (.p (.bl (!decide (c ∈ z.cps.toList))), M) := (rfl)
theorem v_in_t (x : P) (xs : List P) (h : x.depth ≤ 100) : dInX (.p x) (.p (.tup xs)) M = some (.p (.bl (xs.any fun z => P.eqv z x)), M) := by
  have e : dInX (.p x) (.p (.tup xs)) M = dIn (.p x) (.p (.tup xs)) M := by cases x <;> rfl
  rw [e]
  simp [dIn, rowP, h]
theorem v_notIn_t (x : P) (xs : List P) (h : x.depth ≤ 100) : dNotInX (.p x) (.p (.tup xs)) M = some (.p (.bl (!xs.any fun z => P.eqv z x)), M) := by
  have e : dNotInX (.p x) (.p (.tup xs)) M = dNotIn (.p x) (.p (.tup xs)) M := by cases x <;> rfl
  rw [e]
  simp [dNotIn, rowP, h]
theorem v_in_l (x : P) (l : Nat) (xs : List P) (h : x.depth ≤ 100) (hl : M[l]? = some (.lst (xs.map D.p))) : dInX (.p x) (.ref l) M = some (.p (.bl (xs.any fun z => P.eqv z x)), M) := by
  have e : dInX (.p x) (.ref l) M = dIn (.p x) (.ref l) M := by cases x <;> rfl
  rw [e]
  simp [dIn, rowP, h, hl, allP_map]
theorem v_notIn_l (x : P) (l : Nat) (xs : List P) (h : x.depth ≤ 100) (hl : M[l]? = some (.lst (xs.map D.p))) : dNotInX (.p x) (.ref l) M = some (.p (.bl (!xs.any fun z => P.eqv z x)), M) := by
  have e : dNotInX (.p x) (.ref l) M = dNotIn (.p x) (.ref l) M := by cases x <;> rfl
  rw [e]
  simp [dNotIn, rowP, h, hl, allP_map]
end
end Fl
namespace Fl
open PySem PySem.Spec L2 PyProof.Rows
set_option autoImplicit false
/-! ### loops over what is no list of the store: turn by turn -/
def loopK : Out → (Env → Store → Out) → Out
  | .nx ρ M, k => k ρ M
  | .ct ρ M, k => k ρ M
  | .bk ρ M, _ => .nx ρ M
  | o, _ => o
@[simp] theorem loopK_nx (ρ M k) : loopK (.nx ρ M) k = k ρ M := (rfl)
@[simp] theorem loopK_ct (ρ M k) : loopK (.ct ρ M) k = k ρ M := (rfl)
@[simp] theorem loopK_bk (ρ M k) : loopK (.bk ρ M) k = .nx ρ M := (rfl)
@[simp] theorem loopK_rt (d M k) : loopK (.rt d M) k = .rt d M := (rfl)
@[simp] theorem loopK_ex (c fs ρ M k) : loopK (.ex c fs ρ M) k = .ex c fs ρ M := (rfl)
@[simp] theorem loopK_no (k) : loopK .no k = .no := (rfl)
@[simp] theorem forL0_nil (g : RG) (body : RS) (ρ : Env) (M : Store) : forL none g body [] ρ M = .nx ρ M := by
  unfold forL
  exact if_pos True.intro
@[simp] theorem forL0_cons (g : RG) (body : RS) (x : D) (xs : List D) (ρ : Env) (M : Store) : forL none g body (x :: xs) ρ M = oK (g x ρ M) fun ρ1 M1 => loopK (body ρ1 M1) fun ρ2 M2 => forL none g body xs ρ2 M2 := by
  conv => lhs; unfold forL
  rw [if_pos (show chk none M from True.intro)]
  cases g x ρ M with
  | none => rfl
  | some p =>
    obtain ⟨ρ1, M1⟩ := p
    show (match body ρ1 M1 with | _ => _) = loopK (body ρ1 M1) _
    cases body ρ1 M1 <;> rfl
/-- every turn goes on, the store stays -/
theorem forL_ok {σ : Type} {g : RG} {body : RS} (st : σ → Env) (M : Store) : ∀ (xs : List D), (∀ x ∈ xs, ∀ s, ∃ ρ1 s', g x (st s) M = some (ρ1, M) ∧ body ρ1 M = .nx (st s') M) → ∀ s, ∃ s', forL none g body xs (st s) M = .nx (st s') M
  | [], _, s => ⟨s, by simp⟩
  | x :: xs, h, s => by
    obtain ⟨ρ1, s1, h1, h2⟩ := h x List.mem_cons_self s
    obtain ⟨s2, h3⟩ := forL_ok st M xs (fun y hy => h y (List.mem_cons_of_mem _ hy)) s1
    exact ⟨s2, by rw [forL0_cons, h1, oK_some, h2, loopK_nx, h3]⟩
/-! ### texts put together -/
def catS : List Str → Str
  | [] => Str.empty
  | y :: ys => y ++ catS ys
inductive EvS (ρ : Env) (M : Store) : List RE → List Str → Prop where
  | nil : EvS ρ M [] []
  | lit {y : Str} {fs : List RE} {ys : List Str} (h : y.length ≤ 4000) (r : EvS ρ M fs ys) : EvS ρ M (rC (.p (.str y)) :: fs) (y :: ys)
  | val {f : RE} {y : Str} {fs : List RE} {ys : List Str} (e : f ρ M = .ok (.p (.str y)) M) (h : y.length ≤ 4000) (r : EvS ρ M fs ys) : EvS ρ M (f :: fs) (y :: ys)
theorem js_ok {ρ : Env} {M : Store} {fs : List RE} {ys : List Str} (h : EvS ρ M fs ys) : ∀ acc : Str, acc.length + 4000 * fs.length ≤ 1000000 → rJs fs acc ρ M = .ok (acc ++ catS ys) M := by
  induction h with
  | nil =>
    intro acc _
    show R.ok acc M = _
    rw [catS, Str.append_empty]
  | lit h r ih =>
    intro acc hl
    simp only [List.length_cons] at hl
    rw [e_Js1, e_C, R.bind_ok, e_jsK, if_pos (le_line (by rw [Str.length_append]; omega)), ih _ (by rw [Str.length_append]; omega), catS, Str.append_assoc]
  | val e h r ih =>
    intro acc hl
    simp only [List.length_cons] at hl
    rw [e_Js1, e, R.bind_ok, e_jsK, if_pos (le_line (by rw [Str.length_append]; omega)), ih _ (by rw [Str.length_append]; omega), catS, Str.append_assoc]
theorem fs_ok {ρ : Env} {M : Store} {fs : List RE} {ys : List Str} (h : EvS ρ M fs ys) (hl : fs.length ≤ 200) : rFS fs ρ M = .ok (.p (.str (catS ys))) M := by
  rw [e_FS, js_ok h _ (by show 0 + _ ≤ _; omega), R.bind_ok, Str.empty_append]
theorem v_adds (x y : Str) (M : Store) (h : x.length + y.length ≤ 16000000) : dAdd (.p (.str x)) (.p (.str y)) M = some (.p (.str (x ++ y)), M) := by
  have e : x.length + y.length ≤ sizeLine := by rw [sizeLine_eq]; omega
  simp [dAdd, e]
theorem join_cons (a x : Str) : ∀ ys : List Str, Txt.join a (x :: ys) = x ++ catS (ys.map (a ++ ·)) := by
  intro ys
  unfold Txt.join
  rw [StrLaws.glued_eq_join]
  induction ys generalizing x with
  | nil => rw [List.map_nil, catS, Str.append_empty]; rfl
  | cons y ys ih =>
    show x ++ a ++ Str.join a (y :: ys) = _
    rw [ih y, List.map_cons, catS, Str.append_assoc, Str.append_assoc]
theorem join_empty : ∀ ys : List Str, Txt.join (("" : Str)) ys = catS ys
  | [] => rfl
  | x :: ys => by
    rw [join_cons]
    have e : ys.map ((("" : Str)) ++ ·) = ys := by
      conv => rhs; rw [← List.map_id ys]
      exact List.map_congr_left fun y _ => Str.empty_append y
    rw [e, catS]
theorem catS_app : ∀ xs ys : List Str, catS (xs ++ ys) = catS xs ++ catS ys
  | [], ys => by rw [List.nil_append, catS, Str.empty_append]
  | x :: xs, ys => by rw [List.cons_append, catS, catS, catS_app xs ys, Str.append_assoc]
theorem numS_len (n : Nat) (h : n ≤ 10000000) : (numS (n : Int)).length ≤ 1921 ∧ (n : Int).natAbs.log2 < 1920 := by
  have e : (n : Int).natAbs.log2 < 1920 := by
    rw [Int.natAbs_natCast]
    by_cases h0 : n = 0
    · subst h0; decide
    · exact Nat.lt_of_lt_of_le ((Nat.log2_lt h0).mpr (Nat.lt_of_le_of_lt h (by decide : 10000000 < 2 ^ 24))) (by decide)
  exact ⟨int_text_len_1921 e, e⟩
theorem str_lit_eq (a b : String) : ((a : Str) = (b : Str)) = (a = b) := by
  refine propext ⟨fun h => ?_, fun h => by rw [h]⟩
  rw [Str.ofString_eq_toList, Str.ofString_eq_toList] at h
  have h1 : a.toList.map Char.toNat = b.toList.map Char.toNat := by
    have := congrArg (fun z : Str => z.cps.toList) h
    simpa using this
  have inj : ∀ {c d : Char}, c.toNat = d.toNat → c = d := fun {c d} e => Char.ext (UInt32.toNat_inj.mp e)
  have h2 : a.toList = b.toList := by
    generalize a.toList = x at h1
    generalize b.toList = y at h1
    induction x generalizing y with
    | nil => cases y with
      | nil => rfl
      | cons d y => simp at h1
    | cons c x ih => cases y with
      | nil => simp at h1
      | cons d y =>
        simp only [List.map_cons, List.cons.injEq] at h1
        rw [inj h1.1, ih y h1.2]
  exact String.toList_inj.mp h2
theorem EvS.num {ρ : Env} {M : Store} {f : RE} {n : Nat} {fs : List RE} {ys : List Str} (h : n ≤ 10000000) (e : f ρ M = .ok (.p (.str (numS (n : Int)))) M) (r : EvS ρ M fs ys) : EvS ρ M (f :: fs) (numS (n : Int) :: ys) := .val e (by have := (numS_len n h).1; omega) r
theorem EvS.txt {ρ : Env} {M : Store} {f : RE} (y : Str) {fs : List RE} {ys : List Str} (h : y.length ≤ 4000) (e : f ρ M = .ok (.p (.str y)) M) (r : EvS ρ M fs ys) : EvS ρ M (f :: fs) (y :: ys) := .val e h r
theorem v_eqv_tt (xs ys : List P) : P.eqv (.tup xs) (.tup ys) = P.eqvs xs ys := by rw [P.eqv]
theorem v_eqvs_c (x y : P) (xs ys : List P) : P.eqvs (x :: xs) (y :: ys) = (P.eqv x y && P.eqvs xs ys) := by rw [P.eqvs]
theorem v_eqvs_n : P.eqvs [] [] = true := by rw [P.eqvs]
end Fl

set_option Elab.async false
set_option linter.all false
set_option maxRecDepth 100000
/-! Fl, part Z: equality of data with lists in it, xs[a:b] = ys, except X as e. -/
namespace Fl
open PySem PySem.Spec L2 PyProof.Rows
set_option autoImplicit false
/-! ### data with lists -/
mutual
def pyP : P → PyData
  | .non => .none
  | .bl b => .bool b
  | .int i => .int i
  | .str x => .str x
  | .tup xs => .tuple (pyPs xs)
def pyPs : List P → List PyData
  | [] => []
  | x :: xs => pyP x :: pyPs xs
end
def allD (f : D → Option PyData) : List D → Option (List PyData)
  | [] => some []
  | x :: xs => (f x).bind fun y => (allD f xs).map fun r => y :: r
def datN (M : Store) : Nat → D → Option PyData
  | 0, x => (match x with
    | .p x => some (pyP x)
    | _ => none)
  | n + 1, x => (match x with
    | .p x => some (pyP x)
    | .ref l => (match M[l]? with
      | some (.lst xs) => (allD (datN M n) xs).map .list
      | some (.ro xs) => (allD (datN M n) xs).map .list
      | _ => none)
    | .tup xs => (allD (datN M n) xs).map .tuple
    | _ => none)
mutual
theorem pyP_ok {K : PySem.W.Frag} {H : Hp} : ∀ {x : P} {v : V}, RepP K H x v → Dp K H v (pyP x)
  | .non, v, h => by simp only [RepP] at h; subst h; exact .non
  | .bl b, v, h => by simp only [RepP] at h; subst h; exact .bl b
  | .int b, v, h => by simp only [RepP] at h; subst h; exact .int b
  | .str b, v, h => by simp only [RepP] at h; subst h; exact .str b
  | .tup xs, v, h => by
    simp only [RepP] at h
    obtain ⟨a, vs, rfl, h1, h2⟩ := h
    exact .tup h1 (pyPs_ok h2)
theorem pyPs_ok {K : PySem.W.Frag} {H : Hp} : ∀ {xs : List P} {vs : List V}, RepPs K H xs vs → DpAll K H vs (pyPs xs)
  | [], vs, h => by simp only [RepPs] at h; subst h; exact .nil
  | x :: xs, vs, h => by
    simp only [RepPs] at h
    obtain ⟨v, r, rfl, h1, h2⟩ := h
    exact .cons (pyP_ok h1) (pyPs_ok h2)
end
section
variable {G : Gm} {μ : List Addr} {H : Hp} {M : Store}
theorem allD_ok {f : D → Option PyData} (hf : ∀ x v d, Rep G μ H x v → f x = some d → Dp G.K H v d) : ∀ {xs : List D} {vs : List V} {ds : List PyData}, Reps G μ H xs vs → allD f xs = some ds → DpAll G.K H vs ds
  | [], vs, ds, r, h => by
    rw [r.inv0]
    cases h
    exact .nil
  | x :: xs, vs, ds, r, h => by
    obtain ⟨v, w, rfl, r1, r2⟩ := r.inv
    obtain ⟨y, h1, h2⟩ := Option.bind_eq_some_iff.mp h
    obtain ⟨z, h3, rfl⟩ := Option.map_eq_some_iff.mp h2
    exact .cons (hf _ _ _ r1 h1) (allD_ok hf r2 h3)
theorem datN_ok (S : SR G μ H M) : ∀ (n : Nat) (x : D) (v : V) (d : PyData), Rep G μ H x v → datN M n x = some d → Dp G.K H v d
  | 0, x, v, d, r, h => by
    unfold datN at h
    split at h
    · cases h
      simp only [Rep] at r
      exact pyP_ok r
    · cases h
  | n + 1, x, v, d, r, h => by
    unfold datN at h
    split at h
    · cases h
      simp only [Rep] at r
      exact pyP_ok r
    · rename_i l
      obtain ⟨a, h1, rfl⟩ := Rep.ref.mp r
      split at h
      · rename_i xs e
        obtain ⟨ds, h2, rfl⟩ := Option.map_eq_some_iff.mp h
        obtain ⟨vs, h3, h4⟩ := S.lst h1 e
        exact .lst (SqL.of h3) (allD_ok (datN_ok S n) h4 h2)
      · rename_i xs e
        obtain ⟨ds, h2, rfl⟩ := Option.map_eq_some_iff.mp h
        obtain ⟨vs, h3, h4⟩ := S.obj _ a _ h1 e
        exact .lst h3.sql (allD_ok (datN_ok S n) h4 h2)
      · cases h
    · rename_i xs
      obtain ⟨ds, h2, rfl⟩ := Option.map_eq_some_iff.mp h
      obtain ⟨a, vs, rfl, h3, h4⟩ := Rep.tup.mp r
      exact .tup h3 (allD_ok (datN_ok S n) h4 h2)
    · cases h
end
def eqvD (x y : D) (M : Store) : Option Bool := match datN M 8 x, datN M 8 y with
  | some d, some e => if (SeqAt.shaped d && SeqAt.shaped e) = true then some (PyData.eqv d e) else none
  | _, _ => none
def dEqX (x y : D) (M : Store) : Option (D × Store) := match dEq x y M with
  | some r => some r
  | none => (eqvD x y M).map fun b => (.p (.bl b), M)
def dNeX (x y : D) (M : Store) : Option (D × Store) := match dNe x y M with
  | some r => some r
  | none => (eqvD x y M).map fun b => (.p (.bl (!b)), M)
section
variable {X : Cx} {G : Gm}
theorem o_eqX (hu : X.A.units + 120 < cLine) : OpR X (compareOp .Eq) (fun x y H Q => rEqP X.K x y H Q ∨ rEqD X.K x y H Q) := (o_eq hu).or (op_eqD (by omega))
theorem o_neX (hu : X.A.units + 120 < cLine) : OpR X (compareOp .NotEq) (fun x y H Q => rNeP X.K x y H Q ∨ rNeD X.K x y H Q) := (o_ne hu).or (op_neD (by omega))
theorem eqvD_ok {μ : List Addr} {H : Hp} {M : Store} {x y : D} {v u : V} {b : Bool} (S : SR G μ H M) (rx : Rep G μ H x v) (ry : Rep G μ H y u) (h : eqvD x y M = some b) :
    ∃ d e, Dp G.K H v d ∧ Dp G.K H u e ∧ SeqAt.shaped d = true ∧ SeqAt.shaped e = true ∧ PyData.eqv d e = b := by
  unfold eqvD at h
  split at h
  · rename_i d e h1 h2
    split at h
    · rename_i h3
      cases h
      rw [Bool.and_eq_true] at h3
      exact ⟨d, e, datN_ok S _ _ _ _ rx h1, datN_ok S _ _ _ _ ry h2, h3.1, h3.2, rfl⟩
    · cases h
  · cases h
theorem d_eqX : OpD G dEqX (fun x y H Q => rEqP G.K x y H Q ∨ rEqD G.K x y H Q) := by
  intro μ H M x y v u Q d M' S rx ry q k
  unfold dEqX at q
  split at q
  · rename_i r e
    cases q
    exact .inl (d_eq μ H M x y v u Q d M' S rx ry e k)
  · obtain ⟨b, h1, h2⟩ := Option.map_eq_some_iff.mp q
    cases h2
    obtain ⟨d, e, h3, h4, h5, h6, h7⟩ := eqvD_ok S rx ry h1
    refine .inr ⟨d, e, h3, h4, h5, h6, ?_⟩
    rw [h7]
    exact k μ _ H (.refl H) (List.prefix_refl _) S (Rep.bl.mpr rfl)
theorem d_neX : OpD G dNeX (fun x y H Q => rNeP G.K x y H Q ∨ rNeD G.K x y H Q) := by
  intro μ H M x y v u Q d M' S rx ry q k
  unfold dNeX at q
  split at q
  · rename_i r e
    cases q
    exact .inl (d_ne μ H M x y v u Q d M' S rx ry e k)
  · obtain ⟨b, h1, h2⟩ := Option.map_eq_some_iff.mp q
    cases h2
    obtain ⟨d, e, h3, h4, h5, h6, h7⟩ := eqvD_ok S rx ry h1
    refine .inr ⟨d, e, h3, h4, h5, h6, ?_⟩
    rw [h7]
    exact k μ _ H (.refl H) (List.prefix_refl _) S (Rep.bl.mpr rfl)
end
@[simp] theorem v_eqX_p (x y : P) (M : Store) (h : dOk x y) : dEqX (.p x) (.p y) M = some (.p (.bl (P.eqv x y)), M) := by
  have e : dEq (.p x) (.p y) M = some (.p (.bl (P.eqv x y)), M) := if_pos h
  unfold dEqX
  rw [e]
@[simp] theorem v_neX_p (x y : P) (M : Store) (h : dOk x y) : dNeX (.p x) (.p y) M = some (.p (.bl (!P.eqv x y)), M) := by
  have e : dNe (.p x) (.p y) M = some (.p (.bl (!P.eqv x y)), M) := if_pos h
  unfold dNeX
  rw [e]
/-! ### xs[a:b] = ys -/
section
variable {X : Cx} {o : Expr} {lo hi : Option Expr} {to : TE} {tl th : TO} {p2 pos : Pos}
def gSlice (to : TE) (tl th : TO) : TG := fun v σ H Q => to σ H fun x H1 => tl σ H1 fun l H2 => th σ H2 fun u H3 =>
  ∃ a b xs ys i j, x = .ref a ∧ v = .ref b ∧ a ≠ b ∧ l = some i ∧ u = some j ∧ H3 a = some (.lst xs) ∧ H3 b = some (.lst ys) ∧ 0 ≤ i ∧ i ≤ j ∧ j ≤ xs.length ∧ xs.length + ys.length ≤ sizeLine ∧ Q σ (upd H3 a (.lst (xs.take i.toNat ++ ys ++ xs.drop j.toNat)))
theorem part_int {u : Value} {i : Int} (h : IsPart u (some i)) : RelV (.int i) u := by
  cases h
  exact ⟨_, rfl⟩
theorem pg_slice (ho : PE X o to) (hl : PO X lo tl) (hu : PO X hi th)
    (ha : ∀ v, assign (.Subscript o (.Slice lo hi none p2) pos) X.env v = (do
      let ov ← holding [v] (eval o X.env)
      let iv ← holding [v, ov] (eval (.Slice lo hi none p2) X.env)
      standAt pos
      holding [v, ov, iv] (setItem ov iv v)
      release [iv, v, ov] []) := by intro _; rfl) : PG X (.Subscript o (.Slice lo hi none p2) pos) (gSlice to tl th) := by
  refine ⟨fun pins s σ H v u Q I r h => ?_⟩
  rw [ha]
  refine wpAny_bind (wpAny_holding (thn (ho.run pins s σ H _ I h) fun ov s1 ⟨x, H1, I1, r1, q1⟩ => ?_))
  refine wpAny_bind (wpAny_holding ?_)
  refine wpAny_Slice (thn (hl.run pins s1 σ H1 _ I1 q1) fun vl s2 ⟨l, H2, I2, pl, q2⟩ => thn (hu.run pins s2 σ H2 _ I2 q2) fun vu s3 ⟨w, H3, I3, pu, q3⟩ => ?_)
  rw [evalPart_none]
  refine wpAny_pure ?_
  have I4 : Inv X pins σ H3 { s3 with heap := s3.heap.push { cls := .type "slice", data := .fields #[vl, vu, .none] } } := I3.kept (t' := s3.toks) fun b ob q => Heap.get?_push_of_some _ q
  obtain ⟨a, b, xs, ys, i, j, rfl, rfl, hne, rfl, rfl, h1, h2, h3, h4, h5, h6, q⟩ := q3
  cases r1
  cases r
  refine wpAny_bind (wpAny_standAt (wpAny_bind (wpAny_holding ?_)))
  refine set_slice I4 h1 h2 hne (Heap.IsSliceOf.new ..) (part_int pl) (part_int pu) h3 h4 h5 h6 fun s' I5 => ?_
  exact wpAny_release ⟨σ, _, I5, q⟩
end
def kOp {α : Type} (r : R α) (f : α → Store → Option (Env × Store)) : Option (Env × Store) := match r with
  | .ok d M => f d M
  | _ => none
@[simp] theorem kOp_ok {α : Type} (d : α) (M) (f : α → Store → Option (Env × Store)) : kOp (.ok d M) f = f d M := (rfl)
def setSl : D → Option Int → Option Int → D → Store → Option Store
  | .ref l, some i, some j, .ref m, M => (match M[l]?, M[m]? with
    | some (.lst xs), some (.lst ys) => if l ≠ m ∧ 0 ≤ i ∧ i ≤ j ∧ j ≤ xs.length ∧ xs.length + ys.length ≤ sizeLine then some (M.set l (.lst (xs.take i.toNat ++ ys ++ xs.drop j.toNat))) else none
    | _, _ => none)
  | _, _, _, _, _ => none
def gSlS (fo : RE) (fl fh : RX (Option Int)) : RG := fun v ρ M => kOk (fo ρ M) fun o M1 => kOp (fl ρ M1) fun a M2 => kOp (fh ρ M2) fun b M3 => (setSl o a b v M3).map fun M4 => (ρ, M4)
@[simp] theorem e_gSlS (fo : RE) (fl fh) (v ρ M) : gSlS fo fl fh v ρ M = kOk (fo ρ M) fun o M1 => kOp (fl ρ M1) fun a M2 => kOp (fh ρ M2) fun b M3 => (setSl o a b v M3).map fun M4 => (ρ, M4) := (rfl)
section
variable {X : Cx} {W : WX} {o : Expr} {lo hi : Option Expr} {fo : RE} {fl fh : RX (Option Int)} {p2 pos : Pos}
theorem g_slice (ho : PE X o (tE (gm X) W fo)) (hl : PO X lo (tPt (gm X) W fl)) (hu : PO X hi (tPt (gm X) W fh))
    (ha : ∀ v, assign (.Subscript o (.Slice lo hi none p2) pos) X.env v = (do
      let ov ← holding [v] (eval o X.env)
      let iv ← holding [v, ov] (eval (.Slice lo hi none p2) X.env)
      standAt pos
      holding [v, ov, iv] (setItem ov iv v)
      release [iv, v, ov] []) := by intro _; rfl) : PG X (.Subscript o (.Slice lo hi none p2) pos) (tG (gm X) (gSlS fo fl fh)) :=
  PGimp (pg_slice ho hl hu ha) fun v σ H Q h => by
    obtain ⟨μ, ρ, M, d, hE, hS, r, hF⟩ := h
    have hF : FinG (gm X) μ H Q (kOk (fo ρ M) fun o M1 => kOp (fl ρ M1) fun a M2 => kOp (fh ρ M2) fun b M3 => (setSl o a b d M3).map fun M4 => (ρ, M4)) := hF
    refine ⟨μ, ρ, M, hE, hS, ?_⟩
    cases q : fo ρ M with
    | no => rw [q] at hF; exact hF.elim
    | ex c fs M1 => rw [q] at hF; exact hF.elim
    | ok x M1 =>
      rw [q, kOk_ok] at hF
      intro μ1 vo H1 e1 p1 s1 r1
      refine ⟨μ1, ρ, M1, hE.ext e1 p1, s1, ?_⟩
      cases q2 : fl ρ M1 with
      | no => rw [q2] at hF; exact hF.elim
      | ex c fs M2 => rw [q2] at hF; exact hF.elim
      | ok a M2 =>
        rw [q2, kOp_ok] at hF
        intro μ2 a' H2 e2 p2 s2 ea
        subst ea
        refine ⟨μ2, ρ, M2, (hE.ext e1 p1).ext e2 p2, s2, ?_⟩
        cases q3 : fh ρ M2 with
        | no => rw [q3] at hF; exact hF.elim
        | ex c fs M3 => rw [q3] at hF; exact hF.elim
        | ok b M3 =>
          rw [q3, kOp_ok] at hF
          intro μ3 b' H3 e3 p3 s3 eb
          subst eb
          unfold setSl at hF
          split at hF
          · rename_i l i j m M4
            split at hF
            · rename_i xs ys ex ey
              split at hF
              · rename_i hc
                obtain ⟨hne, h0, h1, h2, h3⟩ := hc
                obtain ⟨pa, ha1, rfl⟩ := Rep.ref.mp ((r1.ext e2 p2).ext e3 p3)
                obtain ⟨pb, hb1, rfl⟩ := Rep.ref.mp (((r.ext e1 p1).ext e2 p2).ext e3 p3)
                obtain ⟨vs, g1, g2⟩ := s3.lst ha1 ex
                obtain ⟨ws, g3, g4⟩ := s3.lst hb1 ey
                have hab : pa ≠ pb := fun z => by
                  subst z
                  rcases s3.nd l m pa _ _ ha1 hb1 ex ey with z | z | z
                  · cases z
                  · cases z
                  · exact hne z
                refine ⟨pa, pb, vs, ws, i, j, rfl, rfl, hab, rfl, rfl, g1, g3, h0, h1, by rw [← g2.length]; exact h2, by rw [← g2.length, ← g4.length]; exact h3, ?_⟩
                have ex2 := Ext.lst (o := .lst (vs.take i.toNat ++ ws ++ vs.drop j.toNat)) g1
                exact hF μ3 σ _ (((e1.trans e2).trans e3).trans ex2) ((p1.trans p2).trans p3) ((hE.ext e1 p1).ext ((e2.trans e3).trans ex2) (p2.trans p3)) (s3.put ha1 ex rfl rfl (fun ob w z => by rw [g1] at z; cases z) ex2 ⟨_, upd_same, (((g2.take _).app g4).app (g2.drop _)).ext ex2 (List.prefix_refl _)⟩)
              · exact hF.elim
            · exact hF.elim
          · exact hF.elim
end
/-! ### try .. except X as e: suite -/
def setI (i : Nat) : Out → Out
  | .nx ρ M => .nx (ρ.set i none) M
  | .rt d M => .rt d M
  | .bk ρ M => .bk (ρ.set i none) M
  | .ct ρ M => .ct (ρ.set i none) M
  | .ex _ _ _ _ => .no
  | .no => .no
/-- exs: the classes that may come, and whether the clause takes them; the suite may read the class -/
def rTryAs (exs : List (Str × Bool)) (i : Nat) (body : RS) (suite : Nat → Str → RS) : RS := fun ρ M => match body ρ M with
  | .ex c fs ρ1 M1 => (match exs.lookup c with
    | some true => setI i (suite 0 c (ρ1.set i (some (.exv 0))) M1)
    | some false => .ex c fs ρ1 M1
    | none => .no)
  | o => o
theorem ER.setN {G : Gm} {μ : List Addr} {H : Hp} {ρ : Fl.Env} {σ : L2.St} (h : ER G μ H ρ σ) (i : Nat) : ER G μ H (ρ.set i none) (σ.set i none) :=
  ⟨by simp [h.len], fun j e q => by
    by_cases hj : j = i
    · subst hj
      have hlt : j < ρ.length := by
        have := (List.getElem?_eq_some_iff.mp q).1
        simpa using this
      rw [List.getElem?_set_self hlt] at q
      cases q
    · rw [List.getElem?_set_ne (Ne.symm hj)] at q ⊢
      exact h.at_ j e q⟩
section
variable {X : Cx} {Wout : WX} {pos : Pos}
def endsI (i : Nat) (D : Ends) : Ends := { nx := fun σ' H' => D.nx (σ'.set i none) H', rt := D.rt, bk := fun σ' H' => D.bk (σ'.set i none) H', ct := fun σ' H' => D.ct (σ'.set i none) H' }
theorem noW_fin {G : Gm} {W W' : WX} {D : Ends} {μ : List Addr} {H : Hp} {o : Out} {i : Nat} (h : FinS G W D μ H (setI i o)) : FinS G W' D μ H (setI i o) := by
  cases o with
  | ex c fs ρ1 M1 => exact h.elim
  | nx ρ1 M1 => exact h
  | rt d M1 => exact h
  | bk ρ1 M1 => exact h
  | ct ρ1 M1 => exact h
  | no => exact h
theorem setI_fin {G : Gm} {W W' : WX} {D : Ends} {μ : List Addr} {H : Hp} {o : Out} {i : Nat} (h : FinS G W D μ H (setI i o)) :
    FinS G W' (endsI i D) μ H o := by
  cases o with
  | ex c fs ρ1 M1 => exact h.elim
  | nx ρ1 M1 => exact fun μ' σ' H' e p hE hS => h μ' _ H' e p (hE.setN i) hS
  | rt d M1 => exact h
  | bk ρ1 M1 => exact fun μ' σ' H' e p hE hS => h μ' _ H' e p (hE.setN i) hS
  | ct ρ1 M1 => exact fun μ' σ' H' e p hE hS => h μ' _ H' e p (hE.setN i) hS
  | no => exact h
theorem s_tryAs {x n : Str} {xc : Value} {exs : List (Str × Bool)} {i : Nat} {body : RS} {suite : Nat → Str → RS} {sb sc : List Stmt} {b0 : Stmt} {np pos' : Pos} (hs : X.stack = X.env :: X.outer) (hf : X.env.frame = some X.env.locals)
    (hN : X.N.Nodup) (hi : X.N[i]? = some n) (hln : X.env.kindOf n = some .local) (hc : Names X x xc) (tk : L2N.Takes X Wout)
    (hx : ∀ q ∈ exs, PySem.W.exmOne X.K (cval (gm X) q.1) xc = some q.2)
    (hb : ∀ (W : WX) (pn : List (Addr × Obj)) (xe : Value → Shared → Prop), L2N.Takes (X.tr pn xe) W → PassesOwn (model X.prog X.w) X.A X.env xe → PSs (X.tr pn xe) sb (tS (gm X) W body))
    (hsu : ∀ (a : Addr) (oe : Obj) (c : Str) (d : Option Addr) (pn : List (Addr × Obj)), (∃ b, (c, b) ∈ exs) → L2N.Zn (cval (gm X) c) d oe → (∃ vs, oe.data = .fields vs) → d = none → PSs (X.suite a ((a, oe) :: pn)) (b0 :: sc) (tS (gm X) (fun _ _ _ _ => False) (suite a c)))
    (hex : ∀ (ρ : Fl.Env) (M : Store) c fs ρ1 M1, body ρ M = .ex c fs ρ1 M1 → fs = none)
    (hind : ∀ (a : Nat) (c : Str) (ρ : Fl.Env) (M : Store), (∃ b, (c, b) ∈ exs) → ρ.length = X.N.length → setI i (suite a c (ρ.set i (some (.exv a))) M) = setI i (suite 0 c (ρ.set i (some (.exv 0))) M)) :
    PS X (.Try sb [.ExceptHandler (some (.Name x np)) (some n) (b0 :: sc) pos'] [] [] pos) (tS (gm X) Wout (rTryAs exs i body suite)) :=
  PSimp (L2N.ps_try_as (tb := fun W => tS (gm X) W body) (ts := fun a cls d D σ H => ∃ c D0, cls = cval (gm X) c ∧ d = none ∧ (∃ b, (c, b) ∈ exs) ∧ D = endsI i D0 ∧ ∃ (μ : List Addr) (ρ : Fl.Env) (M : Store), ER (gm X) μ H (ρ.set i (some (.exv a))) σ ∧ SR (gm X) μ H M ∧ FinS (gm X) (fun _ _ _ _ => False) D0 μ H (setI i (suite 0 c (ρ.set i (some (.exv 0))) M))) hs hf hN hi hln hc tk (fun W pn xe h1 h2 => hb W pn xe h1 h2)
    (fun a oe cls d pn hz hfd => ⟨fun pins s σ H D I h => by
      obtain ⟨c, D0, rfl, rfl, hm, rfl, μ, ρ, M, hE, hS, hF⟩ := h
      have hlen : ρ.length = X.N.length := by
        have h1 := hE.len
        rw [List.length_set] at h1
        exact h1.trans I.len
      rw [← hind a c ρ M hm hlen] at hF
      exact (hsu a oe c none pn hm hz hfd rfl).run pins s σ H _ I ⟨μ, _, M, hE, hS, setI_fin hF⟩⟩)) fun D σ H h => by
    obtain ⟨μ, ρ, M, hE, hS, hF⟩ := h
    refine ⟨μ, ρ, M, hE, hS, ?_⟩
    have hF : FinS (gm X) Wout D μ H (match body ρ M with
      | .ex c fs ρ1 M1 => (match exs.lookup c with
        | some true => setI i (suite 0 c (ρ1.set i (some (.exv 0))) M1)
        | some false => .ex c fs ρ1 M1
        | none => .no)
      | o => o) := hF
    cases q : body ρ M with
    | ex c fs ρ1 M1 =>
      rw [q] at hF
      have hF : FinS (gm X) Wout D μ H (match exs.lookup c with
        | some true => setI i (suite 0 c (ρ1.set i (some (.exv 0))) M1)
        | some false => .ex c fs ρ1 M1
        | none => .no) := hF
      intro μ' σ' H' dx e p hE' hS' xr
      cases q2 : exs.lookup c with
      | none => rw [q2] at hF; exact hF.elim
      | some k =>
        rw [q2] at hF
        refine ⟨k, hx (c, k) (lookup_mem q2), fun hk a _ => ?_, fun hk => ?_⟩
        · subst hk
          have hF : FinS (gm X) Wout D μ H (setI i (suite 0 c (ρ1.set i (some (.exv 0))) M1)) := hF
          have ef := hex _ _ _ _ _ _ q
          subst ef
          exact ⟨c, D, rfl, xr, ⟨_, lookup_mem q2⟩, rfl, μ', ρ1, M1, hE'.set i (by simp only [Rep]), hS', FinS.later e p (noW_fin hF)⟩
        · subst hk
          exact hF μ' σ' H' dx e p hE' hS' xr
    | nx ρ1 M1 => rw [q] at hF; exact hF
    | rt d M1 => rw [q] at hF; exact hF
    | bk ρ1 M1 => rw [q] at hF; exact hF
    | ct ρ1 M1 => rw [q] at hF; exact hF
    | no => rw [q] at hF; exact hF
end
/-! ### isinstance(e, C), e held by the suite -/
def cExIs (a : Nat) (C : Str) (b : Bool) : List D → Store → Option (D × Store)
  | [.exv x, .gl y], M => if x = a ∧ y = C then some (.p (.bl b), M) else none
  | _, _ => none
theorem d_exis {G : Gm} {a : Nat} {C : Str} {b : Bool} {D0 A0 : Addr} (hC : G.mg C = some (.ref A0)) (hk : PySem.W.kitOne G.K (.ref D0) (.ref A0) = some b) : CallD G (cExIs a C b) (rIsE G.K D0 a) := by
  intro μ H M xs vs Q d M' S r q k
  unfold cExIs at q
  split at q
  · split at q
    · rename_i h
      obtain ⟨rfl, rfl⟩ := h
      cases q
      obtain ⟨v, u, rfl, r1, r2⟩ := r.inv2
      simp only [Rep] at r1 r2
      subst r1
      obtain ⟨A1, e1, rfl⟩ := r2
      rw [hC] at e1
      cases e1
      exact ⟨.ref A0, .ref A0, b, rfl, fun u h => h, hk, k μ _ H (.refl _) (List.prefix_refl _) S (Rep.bl.mpr rfl)⟩
    · cases q
  · cases q
@[simp] theorem v_exis (a : Nat) (C : Str) (b : Bool) (M : Store) : cExIs a C b [.exv a, .gl C] M = some (.p (.bl b), M) := by simp [cExIs]
theorem gl_cst {K : PySem.W.Frag} {mg : Str → Option Value} {x : Str} {a : Addr} (h : mg x = some (.ref a)) : Cst ⟨K, mg⟩ x (.gl x) :=
  ⟨.ref a, .ref a, h, rfl, fun μ H => by simp only [Rep]; exact ⟨a, h, rfl⟩⟩
/-! ### i ** j of great numbers -/
def powXOk (i j : Int) : Prop := 0 ≤ j ∧ (Builtin.Int.intBits i : Int) * j ≤ 2 ^ 27
instance (i j : Int) : Decidable (powXOk i j) := by unfold powXOk; infer_instance
def dPowX : D → D → Store → Option (D × Store)
  | .p (.int i), .p (.int j), M => if powXOk i j then some (.p (.int (i ^ j.toNat)), M) else none
  | _, _, _ => none
section
variable {X : Cx} {G : Gm}
theorem op_powX : OpR X (binaryOp .Pow) (rI powXOk fun i j => .int (i ^ j.toNat)) := opI fun _ _ _ _ _ _ _ hc q => pow_int hc.1 hc.2 q
theorem d_powX : OpD G dPowX (rI powXOk fun i j => .int (i ^ j.toNat)) := by
  intro μ H M x y v u Q d M' S rx ry q k
  unfold dPowX at q
  split at q
  · split at q
    · rename_i h
      cases q
      rw [Rep.int] at rx ry
      exact ⟨_, _, rx, ry, h, k μ _ H (.refl H) (List.prefix_refl _) S (Rep.int.mpr rfl)⟩
    · cases q
  · cases q
end
theorem v_powX (i j : Int) (M : Store) (h : powXOk i j) : dPowX (.p (.int i)) (.p (.int j)) M = some (.p (.int (i ^ j.toNat)), M) := by simp [dPowX, h]
end Fl

set_option Elab.async false
set_option linter.all false
set_option maxRecDepth 100000
/-! Fl, part L: lambdas without parameters, handed to defs. -/
namespace Fl
open PySem PySem.Spec L2 PyProof.Rows LamX
set_option autoImplicit false
/-- the context of a lambda's body, what it lets out told with its context -/
abbrev lamCxN (X : Cx) (A : Around) (outer : List PySem.Env) (s : Shared) (H : Hp) (E : XK) (scope : Scope) (f c' : Addr) : Cx :=
  (lamCx X A outer s H E scope f c').wish fun e s' => wpAny (model X.prog X.w) (A.deeper (lamEnv X scope s.heap.objs.size f c')) (leaving (lamEnv X scope s.heap.objs.size f c') e) (fun _ s'' => L2N.CX X.prog X.w outer H s E e s'') (fun e' s'' => L2N.CX X.prog X.w outer H s E e' s'') s'
/-- from the making of the lambda to now -/
def Link (i : LamI) (s : Shared) (H : Hp) : Prop := Un i.F [] i.H0 H i.h0 s.heap
theorem Un.on {F F' : List Addr} {H0 H H1 : Hp} {h0 h h1 : Heap} (a : Un F [] H0 H h0 h) (b : Un F' [] H H1 h h1) (hF : ∀ x ∈ F', x ∈ F ∨ h0.get? x = none) : Un F [] H0 H1 h0 h1 where
  keep := fun c ob q n hc hx => b.keep c ob (a.keep c ob q n hc hx) (a.free c ob q n hx) (fun z => by
    rcases hF c z with z | z
    · exact hc z
    · rw [q] at z; cases z) hx
  slot := fun c ob q n hc hx => by
    obtain ⟨sl, e1⟩ := a.slot c ob q n hc hx
    obtain ⟨sl', e2⟩ := Un.any b e1 (a.free c ob q n hx) hx
    exact ⟨sl', e2⟩
  free := fun c ob q n hx => by
    obtain ⟨o', e1⟩ := a.there c ob q hx
    exact b.free c o' e1 (a.free c ob q n hx) hx
  there := fun c ob q hx => by
    obtain ⟨o', e1⟩ := a.there c ob q hx
    exact b.there c o' e1 hx
  tups := fun c xs q => b.tups c xs (a.tups c xs q)
  frzs := fun c ob xs q => b.frzs c ob xs (a.frzs c ob xs q)
  tbls := fun c ps q => by
    obtain ⟨m1, e1⟩ := a.tbls c ps q
    obtain ⟨m2, e2⟩ := b.tbls c _ e1
    exact ⟨m1 ++ m2, by rw [e2, Array.append_assoc]⟩
/-- what the value stands for -/
def LamR (i : LamI) (μ : List Addr) (H : Hp) : Prop := H i.c = some (CodeO i.c i.q) ∧ i.ν <+: μ ∧ Ext i.H0 H
theorem Rep.lam {G : Gm} {μ : List Addr} {H : Hp} {i : LamI} {v : V} : Rep G μ H (.lam i) v ↔ v = .ref i.f ∧ LamR i μ H := by simp only [Rep, LamR]
/-- what the lambda does when it is called -/
structure LamOk (P : Program) (w : World) (K : PySem.W.Frag) (mg : Str → Option Value) (base : Heap) (k : Nat) (i : LamI) (B : Store → R D) : Prop where
  ob : ∃ q params body scope cl pm ctv, i.h0.get? i.f = some (PySem.W.kla_obj "<lambda>" q params body scope cl pm i.c ctv) ∧ i.H0 i.f = none ∧ i.f ∉ i.F
  run : ∀ (A : Around) (outer : List PySem.Env) (s : Shared) (H : Hp) (μ : List Addr) (M : Store) (Q : VK) (E : XK), Room k A → Env0 P w K mg base A outer s H → Link i s H → LamR i μ H → SR ⟨K, mg⟩ μ H M → FinC ⟨K, mg⟩ E μ H Q (B M) →
    codeAny (model P w) A (.call (.ref i.f) ⟨[], []⟩) (CR (L2N.CX P w) outer P w H s Q E) s
theorem LamOk.mono {P : Program} {w : World} {K : PySem.W.Frag} {mg : Str → Option Value} {base : Heap} {j k : Nat} {i : LamI} {B : Store → R D} (l : LamOk P w K mg base j i B) (h : j ≤ k) : LamOk P w K mg base k i B :=
  ⟨l.ob, fun A outer s H μ M Q E hr => l.run A outer s H μ M Q E (hr.mono h)⟩
theorem Fin_of_C {G : Gm} {E : XK} {σ : L2.St} {μ : List Addr} {H : Hp} {Q : VK} {r : R D} (h : FinC G E μ H Q r) : Fin G (Rep G) (fun c d _ H => E c d H) μ σ H Q r := by
  cases r with
  | ok d M' => exact h
  | ex c gs M' => exact h
  | no => exact h
section
variable {X : Cx} {pins : List (Addr × Obj)} {σ : L2.St} {H : Hp} {s : Shared}
/-- the lambda that was just made -/
theorem lam_ok {ν : List Addr} {ρ : Fl.Env} {params : Arguments} {body : Expr} {scope : Scope} {f c' : Addr} {pm ctv : Value} {k : Nat} {fb : RE} (I : Inv X pins σ H s) (L : LamS X.env.scope scope)
    (hf : s.heap.get? f = some (PySem.W.kla_obj "<lambda>" (X.env.qual ++ "<lambda>") params body scope (cloFrom X.env.cells scope.names []) pm c' ctv)) (hfn : H f = none) (hfr : f ∉ frs X.stack)
    (hbind : bindArgs (PySem.W.kla_fn "<lambda>" (X.env.qual ++ "<lambda>") params body scope (cloFrom X.env.cells scope.names []) pm (.ref c') ctv) ⟨[], []⟩ = pure []) (hE : ER (gm X) ν H ρ σ)
    (hbody : ∀ (A : Around) (outer : List PySem.Env) (s : Shared) (H : Hp) (E : XK), Room k (A.deeper (lamEnv X scope s.heap.objs.size f c')) → ∀ W : WX, L2N.Takes (lamCxN X A outer s H E scope f c') W → PE (lamCxN X A outer s H E scope f c') body (tE (gm X) W fb)) :
    LamOk X.prog X.w X.K X.mg X.base (k + 1) ⟨f, c', X.env.qual ++ "<lambda>", ν, H, s.heap, frs X.stack⟩ (fb ρ) := by
  refine ⟨⟨_, _, _, _, _, _, _, hf, hfn, hfr⟩, fun A outer sZ HZ μ M Q E hr e0 lk lr S hF => ?_⟩
  have un : Un (frs X.stack) [] H HZ s.heap sZ.heap := lk
  obtain ⟨hco, hpre, hext⟩ := lr
  have of1 : sZ.heap.get? f = some (PySem.W.kla_obj "<lambda>" (X.env.qual ++ "<lambda>") params body scope (cloFrom X.env.cells scope.names []) pm c' ctv) := un.keep f _ hf hfn hfr (fun z => nomatch (show f ∈ ([] : List Addr) from z))
  obtain ⟨⟨oc, vs, t, hoc, hdc, hvc⟩, _, _⟩ := e0.hok c' _ hco
  have lim : sZ.heap.NoLimit := e0.mod.nolimit.keeps fun b o e => (e0.bs b o e).1
  refine PySem.W.kla_callFunE hr.depth of1 rfl L.co L.gen rfl ⟨c', oc, vs, t, rfl, hoc, hdc, hvc⟩ ?_
  rw [hbind]
  refine wpAny_pure (wpAny_newFunctionEnv (fun y hy => (L.own y hy).2) (fun y hy => absurd hy (by simp)) (fun h₁ hns hsb => ⟨lim.fresh _ hsb, ?_⟩) L.kind)
  show codeAny _ _ (.expr body (lamEnv X scope sZ.heap.objs.size f c')) _ _
  have kp : ∀ b o, sZ.heap.get? b = some o → h₁.get? b = some o := fun b o e => hsb.extBut b o (Nat.ne_of_lt (Heap.lt_size e)) (Heap.get?_push_of_some _ e)
  have J : Inv (lamCxN X A outer sZ HZ E scope f c') [] σ HZ { sZ with heap := h₁, toks := sZ.toks + ([] : List (Str × Value)).length } := (lam_start2 (E := E) I L e0 hr.hd un hns kp).wish _
  have tk : L2N.Takes (lamCxN X A outer sZ HZ E scope f c') (fun cls d _ H' => E cls d H') := L2N.takes_of rfl rfl rfl rfl
  have ht : tE (gm X) (fun cls d _ H' => E cls d H') fb σ HZ Q := ⟨μ, ρ, M, hE.ext hext hpre, S, Fin_of_C hF⟩
  refine PySem.W.kla_codeExpr (wpAny_mono ((hbody A outer sZ HZ E (hr.deeper _) _ tk).run [] _ σ HZ Q J ht) (fun v s' hq => ?_) fun e s' hq => hq)
  obtain ⟨w', H', J', rv, q⟩ := hq
  exact ⟨w', H', J'.os, J'.bare, J'.base, J'.hok, rv, q⟩
end
/-! ### x(), x a parameter that got a lambda -/
/-- an error with fields of its own is not told -/
def noFs : R D → R D
  | .ex _ (some _) _ => .no
  | r => r
theorem noFs_fin {G : Gm} {E : XK} {μ : List Addr} {H : Hp} {Q : VK} {r : R D} (h : FinC G E μ H Q (noFs r)) : FinC G E μ H Q r := by
  cases r with
  | ok d M => exact h
  | no => exact h
  | ex c fs M =>
    cases fs with
    | none => exact h
    | some gs => exact h.elim
open Classical in
noncomputable def rLam (j : Nat) (i : LamI) (B : Store → R D) : RE := fun ρ M => match ρ[j]? with
  | some (some (.lam i')) => if i' = i then noFs (B M) else .no
  | _ => .no
theorem i_lamcall {Z : Cx} {W : WX} {i : LamI} {B : Store → R D} {k j : Nat} {a : Str} {p1 p2 : Pos} (LO : LamOk Z.prog Z.w Z.K Z.mg Z.base k i B) (hr : Room k Z.A) (tk : L2N.Takes Z W) (hlk : ∀ pins s σ H, Inv Z pins σ H s → Link i s H)
    (hN : Z.N[j]? = some a := by rfl) (hv : Vis Z.env.scope a := by first | exact Or.inl rfl | exact Or.inr (Or.inl rfl) | exact Or.inr (Or.inr rfl)) (hd : (a == ("__debug__" : Str)) = false := by decide) (hcd : (a == ("__classdict__" : Str)) = false := by decide) :
    PE Z (.Call (.Name a p1) [] [] p2) (tE (gm Z) W (rLam j i B)) := by
  refine ⟨fun pins s σ H Q I h => ?_⟩
  obtain ⟨μ, ρ, M, hE, hS, hF⟩ := h
  unfold rLam at hF
  split at hF
  · rename_i i' e
    split at hF
    · rename_i ei
      subst ei
      obtain ⟨v, e1, r⟩ := hE.at_ j _ e
      simp only [Rep] at r
      obtain ⟨rfl, r2⟩ := r
      refine wpAny_Call_Name_kw (thn ((pe_var (pos := p1) (i := j) hN hv hd hcd).run pins s σ H (fun v H1 => v = .ref i'.f ∧ H1 = H) I ⟨_, e1, rfl, rfl⟩) fun u s1 ⟨v, H1, I1, r1, q1⟩ => ?_)
      obtain ⟨ev, eH⟩ := q1
      subst ev eH
      obtain rfl : u = Value.ref i'.f := r1
      have lk := hlk _ _ _ _ I1
      obtain ⟨q, params, body, scope, cl, pm, ctv, o1, o2, o3⟩ := LO.ob
      have of1 := lk.keep _ _ o1 o2 o3 (fun z => nomatch (show _ ∈ ([] : List Addr) from z))
      refine PySem.W.callWith_F0 ⟨_, _, _, _, of1⟩ ?_
      refine wpAny_call (codeAny_mono (LO.run Z.A Z.stack s1 H1 μ M Q (WE W σ) hr I1.env0 lk r2 hS (noFs_fin (FinC_of hF))) fun r s' hq => ?_)
      cases r with
      | error e => exact L2N.passAt tk σ pins H1 s1 e s' I1 hq
      | ok fl =>
        cases fl with
        | ret u => exact I1.after hq
        | next => exact False.elim hq
        | brk => exact False.elim hq
        | cont => exact False.elim hq
    · exact hF.elim
  · exact hF.elim
/-! ### a def that gets a lambda as its first argument -/
/-- the promise: FT tells what comes, by what the lambda does -/
def FnL (P : Program) (w : World) (K : PySem.W.Frag) (mg : Str → Option Value) (base : Heap) (kl k : Nat) (f : Addr) (fd : FuncData) (ps : List Str) (FT : (Store → R D) → List D → Store → R D) : Prop :=
  ∀ (A : Around) (outer : List PySem.Env) (s : Shared) (H : Hp) (i : LamI) (B : Store → R D) (args : Args) (us : List Value) (vs : List V) (μ : List Addr) (ds : List D) (M : Store) (Q : VK) (E : XK), Room k A → Env0 P w K mg base A outer s H →
    LamOk P w K mg base kl i B → Link i s H → (∀ b ∈ frs outer, b ∈ i.F ∨ i.h0.get? b = none) → BindsTo s fd args (ps.zip us) → Vals vs us → Reps ⟨K, mg⟩ μ H (.lam i :: ds) vs → ds.length + 1 = ps.length → SR ⟨K, mg⟩ μ H M → FinC ⟨K, mg⟩ E μ H Q (FT B ds M) →
    codeAny (model P w) A (.call (.ref f) args) (CR (L2N.CX P w) outer P w H s Q E) s
structure DfL (P : Program) (w : World) (K : PySem.W.Frag) (mg : Str → Option Value) (base : Heap) (x : Str) (ps : List Str) (FT : (Store → R D) → List D → Store → R D) (kl k : Nat) : Prop where
  is_ : ∃ f fd, mg x = some (.ref f) ∧ PySem.W.keepIn K (.ref f) = true ∧ Binds K fd ps [] ∧ FnL P w K mg base kl k f fd ps FT
section
variable {P : Program} {w : World} {K : PySem.W.Frag} {mg : Str → Option Value} {base : Heap}
/-- the frame of a def that is entered at s is new -/
theorem link_in {N : List Str} {qual : Str} {scope : Scope} {f : Addr} {cdv : Value} {A : Around} {outer : List PySem.Env} {s : Shared} {H : Hp} {E : XK} {i : LamI} (lk : Link i s H) (hF : ∀ b ∈ frs outer, b ∈ i.F ∨ i.h0.get? b = none) {CX : CXT}
    {pins : List (Addr × Obj)} {s' : Shared} {σ : L2.St} {H' : Hp} (u : Un (frs outer) [] H H' s.heap s'.heap) : Link i s' H' := Un.on lk u hF
theorem frs_in {qual : Str} {scope : Scope} {f : Addr} {cdv : Value} {outer : List PySem.Env} {s : Shared} {H : Hp} {i : LamI} (lk : Link i s H) (hF : ∀ b ∈ frs outer, b ∈ i.F ∨ i.h0.get? b = none) :
    ∀ b ∈ frs (PyProof.Rows.envOfC qual scope s.heap.objs.size f cdv :: outer), b ∈ i.F ∨ i.h0.get? b = none := fun b hb => by
  rcases List.mem_cons.mp (show b ∈ s.heap.objs.size :: frs outer from hb) with rfl | hb
  · refine .inr ?_
    cases q : i.h0.get? s.heap.objs.size with
    | none => rfl
    | some o =>
      obtain ⟨o', e⟩ := lk.there _ o q (fun z => nomatch (show _ ∈ ([] : List Addr) from z))
      exact absurd (Heap.lt_size e) (Nat.lt_irrefl _)
  · exact hF b hb
/-- THE RULE for such a def: m is its body's reading -/
theorem fn_L {x qual : Str} {params : Arguments} {body : List Stmt} {scope : Scope} {dvs : List V} {kws : List (Str × V)} {f : Addr} {fd : FuncData} {N ps : List Str} {kl k : Nat} {m : LamI → (Store → R D) → RS} {FT : (Store → R D) → List D → Store → R D}
    (Fu : FunD K x qual params body scope dvs kws f fd) (S : FnScope N ps scope)
    (hb : ∀ (cdv : Value) (A : Around) (outer : List PySem.Env) (s : Shared) (H : Hp) (E : XK) (i : LamI) (B : Store → R D), Room k (A.deeper (PyProof.Rows.envOfC qual scope s.heap.objs.size f cdv)) → LamOk P w K mg base kl i B → Link i s H → (∀ b ∈ frs outer, b ∈ i.F ∨ i.h0.get? b = none) →
      ∀ W : WX, L2N.Takes (cxOf (L2N.CX P w) P w K mg base N qual scope f cdv A outer s H E) W → PSs (cxOf (L2N.CX P w) P w K mg base N qual scope f cdv A outer s H E) body (tS ⟨K, mg⟩ W (m i B)))
    (hF : ∀ i B ds M, ds.length + 1 = ps.length → Grows M (FT B ds M) ∧ Tells (FT B ds M) (bodyR (m i B (startD N.length (.lam i :: ds)) M))) :
    FnL P w K mg base kl (k + 1) f fd ps FT := by
  obtain ⟨oc, od, dV, kV, doc, pm, an, cdv, ct, osl, rfl, lk, hcd, _, _⟩ := Fu.ex
  intro A outer s H i B args us vs μ ds M Q E hr e0 LO lnk hfr hbd rv hds hn hS hQ
  have hl : vs.length = ps.length := by rw [hds.len_eq]; simpa using hn
  refine run_ofS lk hcd S hr e0 hbd rv hl fun hr' => ?_
  have tk : L2N.Takes (cxOf (L2N.CX P w) P w K mg base N qual scope f cdv A outer s H E) (fun c d _ H' => E c d H') := L2N.takes_of rfl rfl rfl rfl
  refine ⟨_, hb cdv A outer s H E i B hr' LO lnk hfr _ tk, μ, startD N.length (.lam i :: ds), M, startD_ok hds, hS, ?_⟩
  obtain ⟨g, t⟩ := hF i B ds M hn
  have hq := FinC_tells hS.len g t hQ
  cases q : m i B (startD N.length (.lam i :: ds)) M with
  | nx ρ M' => rw [q] at hq; exact fun μ' σ' H' e p _ s => hq μ' .non H' e p s (Rep.non.mpr rfl)
  | rt d M' => rw [q] at hq; exact hq
  | bk ρ M' => rw [q] at hq; exact hq.elim
  | ct ρ M' => rw [q] at hq; exact hq.elim
  | ex c fs ρ M' => rw [q] at hq; exact fun μ' σ' H' dx e p _ s x => hq μ' H' dx e p s x
  | no => rw [q] at hq; exact hq
end
/-! ### the making of a lambda -/
/-- the tables of code objects in the store -/
def tabsOf (μ : List Addr) (M : Store) : List (Addr × Str) := (μ.zip M).filterMap fun q => match q.2 with
  | .tab x => some (q.1, lamQ x)
  | _ => none
theorem tabsOf_mem {μ : List Addr} {M : Store} {a : Addr} {q : Str} : (a, q) ∈ tabsOf μ M ↔ ∃ (l : Nat) (x : Str), μ[l]? = some a ∧ M[l]? = some (O.tab x) ∧ q = lamQ x := by
  unfold tabsOf
  rw [List.mem_filterMap]
  constructor
  · rintro ⟨⟨b, o⟩, hm, h⟩
    obtain ⟨l, hl, e⟩ := List.mem_iff_getElem.mp hm
    have e1 : (μ.zip M)[l]? = some (b, o) := by rw [List.getElem?_eq_getElem hl, e]
    rw [List.getElem?_zip_eq_some] at e1
    obtain ⟨e2, e3⟩ := e1
    cases o with
    | tab x => cases h; exact ⟨l, x, e2, e3, rfl⟩
    | _ => cases h
  · rintro ⟨l, x, e1, e2, rfl⟩
    refine ⟨(a, O.tab x), ?_, rfl⟩
    have e3 : (μ.zip M)[l]? = some (a, O.tab x) := List.getElem?_zip_eq_some.mpr ⟨e1, e2⟩
    exact List.mem_of_getElem? e3
section
variable {G : Gm} {μ : List Addr} {H H1 : Hp} {M : Store}
theorem tabs_SR (S : SR G μ H M) : Tabs (tabsOf μ M) H := by
  rintro ⟨a, q⟩ hm
  obtain ⟨l, x, e1, e2, rfl⟩ := tabsOf_mem.mp hm
  exact (S.obj l a _ e1 e2).2
theorem SR.extN (S : SR G μ H M) (e : ExtN H H1) (T : Tabs (tabsOf μ M) H1) : SR G μ H1 M := by
  refine ⟨S.len, S.nd, fun l a o h1 h2 => ?_⟩
  have r := S.obj l a o h1 h2
  have ex := Ext.extN e
  have keep : ∀ u, H a = some u → (∀ ps, u ≠ .tbl ps) → H1 a = H a := fun u hu n => by rw [hu]; exact e a u hu n
  cases o with
  | tab x => exact ⟨r.1, T (a, lamQ x) (tabsOf_mem.mpr ⟨l, x, h1, h2, rfl⟩)⟩
  | ro xs => exact r.ext ex (List.prefix_refl _) (by
      obtain ⟨vs, k1, k2⟩ := r
      rcases k1 with ⟨ob, k1⟩ | k1
      · exact .inl (keep _ k1 (fun ps z => by cases z))
      · cases q : H a with
        | none => exact .inr ⟨rfl, fun ob w z => by cases z⟩
        | some u =>
          by_cases hu : ∃ ps, u = .tbl ps
          · obtain ⟨ps, rfl⟩ := hu
            exact .inr ⟨rfl, fun ob w z => by cases z⟩
          · rw [← q]
            exact .inl (keep u q fun ps z => hu ⟨ps, z⟩))
  | lst xs => obtain ⟨vs, k1, k2⟩ := r; exact ⟨vs, e _ _ k1 (fun ps z => by cases z), k2.ext ex (List.prefix_refl _)⟩
  | ins c fs => obtain ⟨C, dx, gs, k0, k1, k2⟩ := r; exact ⟨C, dx, gs, k0, e _ _ k1 (fun ps z => by cases z), k2.ext ex (List.prefix_refl _)⟩
  | dk fs => obtain ⟨gs, k1, k2⟩ := r; exact ⟨gs, e _ _ k1 (fun ps z => by cases z), k2.ext ex (List.prefix_refl _)⟩
  | dt fs => obtain ⟨gs, k1, k2⟩ := r; exact ⟨gs, e _ _ k1 (fun ps z => by cases z), k2.ext ex (List.prefix_refl _)⟩
  | rod fs => obtain ⟨od, gs, k1, k2⟩ := r; exact ⟨od, gs, e _ _ k1 (fun ps z => by cases z), k2.ext ex (List.prefix_refl _)⟩
  | rodt fs => obtain ⟨od, gs, k1, k2⟩ := r; exact ⟨od, gs, e _ _ k1 (fun ps z => by cases z), k2.ext ex (List.prefix_refl _)⟩
end
/-- what is known of a def that makes lambdas -/
structure LamT (X : Cx) (y : Str) : Prop where
  is_ : ∃ c P, PySem.W.tabIn X.K y = some (c, P) ∧ X.env.code = .ref c ∧ TabB X.base X.mg c P ∧ X.env.qual ++ "<lambda>" = lamQ y
section
variable {X : Cx} {pins : List (Addr × Obj)} {σ : L2.St} {H : Hp} {s : Shared}
theorem wp_lam {y : Str} {μ : List Addr} {ρ : Fl.Env} {M : Store} {l k : Nat} {params : Arguments} {body : Expr} {scope : Scope} {pos : Pos} {fb : RE} {Q E' : Value → Shared → Prop} (I : Inv X pins σ H s) (hE : ER (gm X) μ H ρ σ) (hS : SR (gm X) μ H M) (hl : M[l]? = some (.tab y))
    (T : LamT X y) (L : LamS X.env.scope scope) (hdef : defaultsOf params X.env = ([], []))
    (hbind : ∀ (q : Str) (cl : List (Str × Addr)) (pm cv ctv : Value), bindArgs (PySem.W.kla_fn "<lambda>" q params body scope cl pm cv ctv) ⟨[], []⟩ = pure [])
    (hbody : ∀ (A : Around) (outer : List PySem.Env) (s : Shared) (H : Hp) (E : XK) (f c' : Addr), Room k (A.deeper (lamEnv X scope s.heap.objs.size f c')) → ∀ W : WX, L2N.Takes (lamCxN X A outer s H E scope f c') W → PE (lamCxN X A outer s H E scope f c') body (tE (gm X) W fb))
    (h : ∀ (i : LamI) (H1 : Hp) (s' : Shared), Inv X pins σ H1 s' → Ext H H1 → SR (gm X) μ H1 M → LamOk X.prog X.w X.K X.mg X.base (k + 1) i (fb ρ) → Link i s' H1 → (∀ b ∈ frs X.stack, b ∈ i.F) → LamR i μ H1 → Q (.ref i.f) s') :
    wpAny (model X.prog X.w) X.A (eval (.Lambda params body scope pos) X.env) Q E' s := by
  obtain ⟨c, P, ht, hcode, TB, hq⟩ := T.is_
  obtain ⟨a, ha, hr⟩ := hS.adr hl
  obtain ⟨⟨c0, ht0⟩, hts⟩ := hr
  have ec := ht.symm.trans ht0
  cases ec
  refine lam_make2 (T := tabsOf μ M) I TB hcode (by rw [hq]; exact tabsOf_mem.mpr ⟨l, y, ha, hl, rfl⟩) (fun p hp hb => ?_) (tabs_SR hS) hdef (L.has I.ok) fun f c' pm ctv H1 s' I1 eN T1 hf hfn hfr hco => ?_
  · obtain ⟨b, q⟩ := p
    obtain ⟨l2, x2, e1, e2, rfl⟩ := tabsOf_mem.mp hp
    have hb : b = P := hb
    subst hb
    rcases hS.nd l l2 b _ _ ha e1 hl e2 with z | z | z
    · cases z
    · cases z
    · subst z
      rw [hl] at e2
      cases e2
      exact hq.symm
  · have ex := Ext.extN eN
    have S1 := hS.extN eN T1
    exact h ⟨f, c', X.env.qual ++ "<lambda>", μ, H1, s'.heap, frs X.stack⟩ H1 s' I1 ex S1 (lam_ok I1 L hf hfn hfr (hbind _ _ _ _ _) (hE.ext ex (List.prefix_refl _)) fun A outer s H E hr W tk => hbody A outer s H E f c' hr W tk) Un.refl (fun b hb => hb) ⟨hco, List.prefix_refl _, .refl _⟩
/-- the call's end -/
theorem call_end {W : WX} {Q : VK} {f : Addr} {us : List Value} (tk : L2N.Takes X W) (I : Inv X pins σ H s) (rc : codeAny (model X.prog X.w) X.A (.call (.ref f) ⟨us, []⟩) (CR (L2N.CX X.prog X.w) X.stack X.prog X.w H s Q (WE W σ)) s) :
    wpAny (model X.prog X.w) X.A (call (.ref f) us) (EP X pins σ Q) X.xe s := by
  refine wpAny_call (codeAny_mono rc fun r s' hq => ?_)
  cases r with
  | error e => exact L2N.passAt tk σ pins H s e s' I hq
  | ok fl =>
    cases fl with
    | ret u => exact I.after hq
    | next => exact False.elim hq
    | brk => exact False.elim hq
    | cont => exact False.elim hq
end
/-- f(lambda: body), f(lambda: body, 'text'): y, the def that makes it; l, the place of its table -/
def rLamCall (l : Nat) (y : Str) (FT : (Store → R D) → List D → Store → R D) (fb : RE) (ds : List D) : RE := fun ρ M => match M[l]? with
  | some (.tab x) => if x = y then FT (fb ρ) ds M else .no
  | _ => .no
section
variable {X : Cx} {W : WX}
theorem lam_pre {l : Nat} {y : Str} {FT : (Store → R D) → List D → Store → R D} {fb : RE} {ds : List D} {σ : L2.St} {H : Hp} {Q : VK} (h : tE (gm X) W (rLamCall l y FT fb ds) σ H Q) :
    ∃ μ ρ M, ER (gm X) μ H ρ σ ∧ SR (gm X) μ H M ∧ M[l]? = some (.tab y) ∧ Fin (gm X) (Rep (gm X)) W μ σ H Q (FT (fb ρ) ds M) := by
  obtain ⟨μ, ρ, M, hE, hS, hF⟩ := h
  unfold rLamCall at hF
  split at hF
  · rename_i x e
    split at hF
    · rename_i e1
      subst e1
      exact ⟨μ, ρ, M, hE, hS, e, hF⟩
    · exact hF.elim
  · exact hF.elim
theorem i_callLam0 {x y : Str} {ps : List Str} {FT : (Store → R D) → List D → Store → R D} {kl k l : Nat} {params : Arguments} {body : Expr} {scope : Scope} {fb : RE} {p lpos pos : Pos} (D0 : DfL X.prog X.w X.K X.mg X.base x ps FT (kl + 1) k) (hn : ps.length = 1) (hr : Room k X.A) (hg : Gl X x) (tk : L2N.Takes X W)
    (T : LamT X y) (L : LamS X.env.scope scope) (hdef : defaultsOf params X.env = ([], []))
    (hbind : ∀ (q : Str) (cl : List (Str × Addr)) (pm cv ctv : Value), bindArgs (PySem.W.kla_fn "<lambda>" q params body scope cl pm cv ctv) ⟨[], []⟩ = pure [])
    (hbody : ∀ (A : Around) (outer : List PySem.Env) (s : Shared) (H : Hp) (E : XK) (f c' : Addr), Room kl (A.deeper (lamEnv X scope s.heap.objs.size f c')) → ∀ W : WX, L2N.Takes (lamCxN X A outer s H E scope f c') W → PE (lamCxN X A outer s H E scope f c') body (tE (gm X) W fb))
    (hdb : (x == ("__debug__" : Str)) = false := by decide) :
    PE X (.Call (.Name x p) [.Lambda params body scope lpos] [] pos) (tE (gm X) W (rLamCall l y FT fb [])) := by
  obtain ⟨g, fd, h1, h2, h3, h4⟩ := D0.is_
  refine ⟨fun pins s σ H Q I h => ?_⟩
  obtain ⟨μ, ρ, M, hE, hS, hl, hF⟩ := lam_pre h
  refine wpAny_Call_Name_kw (ld_glob I hg h1 ?_ hdb)
  refine PySem.W.callWith_K (h₀ := X.base) I.ok.mod.kin h2 ?_ (by rfl) (by rfl)
  show wpAny _ _ (spliced ((false, eval (.Lambda params body scope lpos) X.env) :: backTo pos (starEach [] X.env))) _ _ s
  refine Calls.spliced_cons (wp_lam I hE hS hl T L hdef hbind hbody fun i H1 s' I1 ex S1 LO lk hfr lr => ?_)
  refine Calls.spliced_nil ⟨I1.kIn, ?_⟩
  have hFC := Fin.later ex (List.prefix_refl μ) hF
  have hb := h3 s' [.ref i.f] I1.kIn (by rw [List.append_nil, hn]; rfl)
  rw [List.append_nil] at hb
  exact call_end tk I1 (h4 X.A X.stack s' H1 i (fb ρ) ⟨[.ref i.f], []⟩ [.ref i.f] [.ref i.f] μ [] M Q (WE W σ) hr I1.env0 LO lk (fun b hb => .inl (hfr b hb)) hb (.cons rfl .nil) (.cons (Rep.lam.mpr ⟨rfl, lr⟩) .nil) (by rw [hn]; rfl) S1 (FinC_of hFC))
theorem i_callLam1 {x y z : Str} {ps : List Str} {FT : (Store → R D) → List D → Store → R D} {kl k l j : Nat} {params : Arguments} {body : Expr} {scope : Scope} {fb : RE} {p lpos zpos pos : Pos} (D0 : DfL X.prog X.w X.K X.mg X.base x ps FT (kl + 1) k) (hn : ps.length = 2) (hr : Room k X.A) (hg : Gl X x) (tk : L2N.Takes X W)
    (T : LamT X y) (L : LamS X.env.scope scope) (hdef : defaultsOf params X.env = ([], []))
    (hbind : ∀ (q : Str) (cl : List (Str × Addr)) (pm cv ctv : Value), bindArgs (PySem.W.kla_fn "<lambda>" q params body scope cl pm cv ctv) ⟨[], []⟩ = pure [])
    (hbody : ∀ (A : Around) (outer : List PySem.Env) (s : Shared) (H : Hp) (E : XK) (f c' : Addr), Room kl (A.deeper (lamEnv X scope s.heap.objs.size f c')) → ∀ W : WX, L2N.Takes (lamCxN X A outer s H E scope f c') W → PE (lamCxN X A outer s H E scope f c') body (tE (gm X) W fb))
    (hdb : (x == ("__debug__" : Str)) = false := by decide) :
    PE X (.Call (.Name x p) [.Lambda params body scope lpos, .Constant (.str z) j zpos] [] pos) (tE (gm X) W (rLamCall l y FT fb [.p (.str z)])) := by
  obtain ⟨g, fd, h1, h2, h3, h4⟩ := D0.is_
  refine ⟨fun pins s σ H Q I h => ?_⟩
  obtain ⟨μ, ρ, M, hE, hS, hl, hF⟩ := lam_pre h
  refine wpAny_Call_Name_kw (ld_glob I hg h1 ?_ hdb)
  refine PySem.W.callWith_K (h₀ := X.base) I.ok.mod.kin h2 ?_ (by rfl) (by rfl)
  show wpAny _ _ (spliced ((false, eval (.Lambda params body scope lpos) X.env) :: backTo pos (starEach [.Constant (.str z) j zpos] X.env))) _ _ s
  refine Calls.spliced_cons (wp_lam I hE hS hl T L hdef hbind hbody fun i H1 s' I1 ex S1 LO lk hfr lr => ?_)
  show wpAny _ _ (spliced ((false, eval (.Constant (.str z) j zpos) X.env) :: backTo pos (starEach [] X.env))) _ _ s'
  refine Calls.spliced_cons (Calls.Constant_str ?_)
  have I2 := I1.tok (t := s'.toks + 1)
  refine Calls.spliced_nil ⟨I2.kIn, ?_⟩
  have hFC := Fin.later ex (List.prefix_refl μ) hF
  have hb := h3 { s' with toks := s'.toks + 1 } [.ref i.f, .str z s'.toks] I2.kIn (by rw [List.append_nil, hn]; rfl)
  rw [List.append_nil] at hb
  exact call_end tk I2 (h4 X.A X.stack _ H1 i (fb ρ) ⟨[.ref i.f, .str z s'.toks], []⟩ [.ref i.f, .str z s'.toks] [.ref i.f, .str z] μ [.p (.str z)] M Q (WE W σ) hr I2.env0 LO lk (fun b hb => .inl (hfr b hb)) hb (.cons rfl (.cons ⟨_, rfl⟩ .nil)) (.cons (Rep.lam.mpr ⟨rfl, lr⟩) (.cons (Rep.str.mpr rfl) .nil)) (by rw [hn]; rfl) S1 (FinC_of hFC))
end
/-! ### a def that hands its lambda on -/
open Classical in
noncomputable def lamOnK (n : Nat) (i : LamI) (B : Store → R D) (FT : (Store → R D) → List D → Store → R D) : List D → Store → R D
  | .lam i' :: r, M1 => if i' = i ∧ r.length + 1 = n then FT B r M1 else .no
  | _, _ => .no
noncomputable def rLamOn (n : Nat) (i : LamI) (B : Store → R D) (FT : (Store → R D) → List D → Store → R D) (fs : RA) : RE := fun ρ M => (fs ρ M).bind fun ds M1 => lamOnK n i B FT ds M1
section
variable {X : Cx} {W : WX}
theorem i_lamon {x : Str} {ps : List Str} {FT : (Store → R D) → List D → Store → R D} {kl k : Nat} {i : LamI} {B : Store → R D} {e : Expr} {es : List Expr} {fs : RA} {p pos : Pos} (D0 : DfL X.prog X.w X.K X.mg X.base x ps FT kl k) (LO : LamOk X.prog X.w X.K X.mg X.base kl i B) (hr : Room k X.A) (hg : Gl X x) (tk : L2N.Takes X W)
    (hlk : ∀ pins s σ H, Inv X pins σ H s → Link i s H ∧ ∀ b ∈ frs X.stack, b ∈ i.F ∨ i.h0.get? b = none)
    (ha : PA X (e :: es) (tA (gm X) W fs)) (hdb : (x == ("__debug__" : Str)) = false := by decide)
    (he : starEach (e :: es) X.env = (false, eval e X.env) :: starEach es X.env := by rfl) (hpl : (backTo pos (starEach es X.env)).any (·.1) = false := by rfl) : PE X (.Call (.Name x p) (e :: es) [] pos) (tE (gm X) W (rLamOn ps.length i B FT fs)) := by
  obtain ⟨g, fd, h1, h2, h3, h4⟩ := D0.is_
  refine ⟨fun pins s σ H Q I h => ?_⟩
  refine wpAny_Call_Name_kw (ld_glob I hg h1 ?_ hdb)
  refine PySem.W.callWith_K (h₀ := X.base) I.ok.mod.kin h2 (thn (ha.run pos pins s σ H _ I (tX.bind h)) fun us s1 ⟨vs, H1, I1, r, q⟩ => ⟨I1.kIn, ?_⟩) he hpl
  obtain ⟨μ, ρ, M, ds, hE, hS, rx, hF⟩ := q
  have hF2 : Fin (gm X) (Rep (gm X)) W μ σ H1 Q (lamOnK ps.length i B FT ds M) := hF
  unfold lamOnK at hF2
  split at hF2
  · rename_i i' r0
    split at hF2
    · rename_i hc
      obtain ⟨rfl, hn⟩ := hc
      have hlen : us.length = ps.length := by rw [← r.length, rx.len_eq, ← hn]; rfl
      have hb := h3 s1 us I1.kIn (by rw [List.append_nil]; exact hlen)
      rw [List.append_nil] at hb
      obtain ⟨lk, hfr⟩ := hlk _ _ _ _ I1
      exact call_end tk I1 (h4 X.A X.stack s1 H1 i' B ⟨us, []⟩ us vs μ r0 M Q (WE W σ) hr I1.env0 LO lk hfr hb r rx hn hS (FinC_of hF2))
    · exact hF2.elim
  · exact hF2.elim
end
/-! ### the end of a law that makes lambdas -/
/-- the written part tells the table of the def y, and does not hold it -/
def lamB (K : PySem.W.Frag) (y : Str) : Bool := match PySem.W.tabIn K y with
  | some (_, P) => (K.lookup P).isNone
  | none => false
theorem lamB_ok {K : PySem.W.Frag} {y : Str} (h : lamB K y = true) : ∃ c P, PySem.W.tabIn K y = some (c, P) ∧ K.lookup P = none := by
  unfold lamB at h
  split at h
  · rename_i c P e
    exact ⟨c, P, e, by simpa using h⟩
  · cases h
theorem law_specT {K : PySem.W.Frag} {mg : Str → Option Value} {F : List D → Store → R D} {n : Nat} {y : Str} {c P : Addr} (ht : PySem.W.tabIn K y = some (c, P))
    (hF : ∀ ns : List Int, ns.length ≤ n → ∀ o, (o = .ro (ns.map fun i => .p (.int i)) ∨ o = .lst (ns.map fun i => .p (.int i))) → ∃ M, F [.ref 0] [o, .tab y] = .ok (.p (.bl true)) M) :
    ∀ (H : Hp) (a : Addr) (ns : List Int), ns.length ≤ n → (∀ p ∈ [(c, P)], H p.2 = some (.tbl #[])) → SqL K H a (ns.map V.int) → spD ⟨K, mg⟩ F 1 [.ref a] H (fun v _ => v = .bl true) fun _ _ _ => False := by
  intro H a ns hl hT hq
  have hP : H P = some (.tbl #[]) := hT (c, P) List.mem_cons_self
  have intsR : ∀ (μ : List Addr) (ns : List Int), Reps ⟨K, mg⟩ μ H (ns.map fun i => D.p (.int i)) (ns.map V.int) := fun μ ns => by
    induction ns with
    | nil => exact .nil
    | cons x xs ih => exact .cons (Rep.int.mpr rfl) ih
  obtain ⟨o, ho, hro, hob⟩ : ∃ o : O, (o = .ro (ns.map fun i => D.p (.int i)) ∨ o = .lst (ns.map fun i => D.p (.int i))) ∧ (o.isRo = true ∨ a ≠ P) ∧ ∀ μ, ObjRep ⟨K, mg⟩ μ H a o := by
    rcases hq with (hq | hq) | hq
    · exact ⟨_, .inr rfl, .inr (fun z => by rw [z, hP] at hq; cases hq), fun μ => ⟨_, hq, intsR μ ns⟩⟩
    · exact ⟨_, .inl rfl, .inl rfl, fun μ => ⟨_, .inl hq, intsR μ ns⟩⟩
    · exact ⟨_, .inl rfl, .inl rfl, fun μ => ⟨_, .inr hq, intsR μ ns⟩⟩
  obtain ⟨M, e⟩ := hF ns hl o ho
  refine ⟨[a, P], [.ref 0], [o, .tab y], rfl, .cons (Rep.ref.mpr ⟨a, rfl, rfl⟩) .nil, ?_, ?_⟩
  · refine ⟨rfl, fun i j b x y' h1 h2 h3 h4 => ?_, fun l b ob h1 h2 => ?_⟩
    · match i, j with
      | 0, 0 => exact .inr (.inr rfl)
      | 1, 1 => exact .inr (.inr rfl)
      | 0, 1 =>
        cases h1
        cases h2
        cases h3
        rcases hro with z | z
        · exact .inl z
        · exact absurd rfl z
      | 1, 0 =>
        cases h1
        cases h2
        cases h4
        rcases hro with z | z
        · exact .inr (.inl z)
        · exact absurd rfl z
      | i + 2, j => simp at h1
      | 0, j + 2 => simp at h2
      | 1, j + 2 => simp at h2
    · match l with
      | 0 =>
        cases h1
        cases h2
        exact hob _
      | 1 =>
        cases h1
        cases h2
        exact ⟨⟨c, ht⟩, TabS.nil hP⟩
      | l + 2 => simp at h1
  · rw [e]
    exact fun μ' v H' _ _ _ r => Rep.bl.mp r
/-- a law with a table: F gives the written part, the function object, the promise over every base -/
theorem walk_ofXT {l : PySem.W.OpenLaw} {n k : Nat} {q : Program} {loose : List Str} {XP : (Str → Option Value) → Heap → Prop} {YP : World → Heap → Prop} {d : DefRec} {CX : World → CXT} {x y : Str} {dd : DefRec}
    (hn : l.most = some n) (hn2 : n ≤ sizeLine) (hdf : d.params.defaults = []) (hr : Room k callerA) (hd : (recsOf q).find? (fun e => e.name == y) = some dd)
    (F : ∀ (w : World) (mg : Str → Option Value) (fa : Addr) (h : Heap), YP w h → h.Ns mainGlobals mg → mg d.name = some (.ref fa) →
      ∃ (K : PySem.W.Frag) (fd : FuncData) (sp : Sp) (c P : Addr), K.In h ∧ PySem.W.tabIn K y = some (c, P) ∧ K.lookup P = none ∧ (∀ (s : Shared) (u : Value), BindsTo s fd ⟨[u], []⟩ [(x, u)]) ∧
        (∀ (H : Hp) (a : Addr) (ns : List Int), ns.length ≤ n → (∀ p ∈ [(c, P)], H p.2 = some (.tbl #[])) → SqL K H a (ns.map V.int) → sp [.ref a] H (fun v _ => v = .bl true) fun _ _ _ => False) ∧
        ∀ base : Heap, K.In base → base.Ns mainGlobals mg → TabB base mg c P → FnOk l.prog w K mg base (CX w) k fa fd [x] sp)
    (hCX : ∀ (w : World) (H : Hp) (s : Shared) (e : Value) (s' : Shared), CX w [] H s (fun _ _ _ => False) e s' → False) :
    PySem.W.WalkO q loose XP YP l.row.toRowW d [] (fun f vs => PySem.call f vs) := by
  refine Att.attach_callB hn hdf fun w s₀ s₁ mg mb fa o pm cd doc a vs ns G Y ho hd2 hcd hmg hobj hints hlen hbits hg => ?_
  obtain ⟨K, fd, sp, c, P, KX, ht, hnP, hb, hsp, hF⟩ := F w mg fa _ Y G.T.g hmg
  obtain ⟨hC, hP⟩ := PySem.W.tab_of G.T KX hd ht
  refine law_callTs (cs := [(c, P)]) KX G.T.g G.T.b G.T.builtins G.T.nolimit hg (fun p hp => ?_) (fun p hp => ?_) (fun p hp => ?_) G.T.bmain hobj hints (Nat.le_trans hlen hn2) hr
    (fun base hb1 hb2 hT => hF base hb1 hb2 (hT (c, P) List.mem_cons_self)) hb (fun H hH hS => hsp H a ns hlen hH hS) fun H e s' => hCX w H s₁ e s'
  · rw [List.mem_singleton.mp hp]; exact hP
  · rw [List.mem_singleton.mp hp]; exact hnP
  · rw [List.mem_singleton.mp hp]; exact hC
end Fl

set_option Elab.async false
set_option linter.all false
set_option maxRecDepth 100000
/-! Fl, part M: [.. for k in range(n) if ..] while an exception is handled. -/
namespace Fl
open PySem PySem.Spec L2 PyProof.Rows L2H
set_option autoImplicit false
section
variable {X : Cx} {pins : List (Addr × Obj)} {σ : L2.St} {H : Hp} {s : Shared}
/-- the pins of a block, told in its context -/
theorem toHot {Y : Cx} {p : Addr × Obj} (hp : Y.pn = []) (I : Inv Y (p :: pins) σ H s) : Inv { Y with pn := [p] } pins σ H s :=
  ⟨⟨I.ok.1, I.ok.2, I.ok.3, I.ok.4, I.ok.5, I.ok.6, I.ok.7, I.ok.8, I.ok.9, I.ok.10, I.ok.11, I.ok.12, I.ok.13, I.ok.14, I.ok.15, I.ok.16, I.ok.17, I.ok.18⟩, I.os, I.bare, I.base, I.loc, I.cell, I.free, I.freeC, fun q hq => I.pin q (by rw [hp]; simpa using hq), I.hok, I.len⟩
theorem ofHot {Y : Cx} {p : Addr × Obj} (hp : Y.pn = []) (I : Inv { Y with pn := [p] } pins σ H s) : Inv Y (p :: pins) σ H s :=
  ⟨⟨I.ok.1, I.ok.2, I.ok.3, I.ok.4, I.ok.5, I.ok.6, I.ok.7, I.ok.8, I.ok.9, I.ok.10, I.ok.11, I.ok.12, I.ok.13, I.ok.14, I.ok.15, I.ok.16, I.ok.17, I.ok.18⟩, I.os, I.bare, I.base, I.loc, I.cell, I.free, I.freeC, fun q hq => I.pin q (by rw [hp] at hq; simpa using hq), I.hok, I.len⟩
end
section
variable {X : Cx}
/-- the turns of a comprehension's list while an exception is handled: the handled one is pinned in the block too -/
theorem pe_lcH {elt tg iter : Expr} {ifs : List Expr} {scope : Scope} {own : List (Str × Nat)} {pos : Pos} {wi : TI} {g : TG} {tt : TT} {te : TE} (hc : HotC X) (hN : X.N.Nodup) (hi : PIH X tg iter wi) (ok : BlkOk X.N X.env.scope scope own)
    (hg : ∀ (s : Shared) (H : Hp) (C : Addr) (cl : List (Str × Addr)) (fp : List Addr), PG (X.blk s H scope (compEnvC scope cl C X.env) fp) tg g) (ht : ∀ (s : Shared) (H : Hp) (C : Addr) (cl : List (Str × Addr)) (fp : List Addr), PTs (X.blk s H scope (compEnvC scope cl C X.env) fp) ifs tt)
    (he : ∀ (s : Shared) (H : Hp) (C : Addr) (cl : List (Str × Addr)) (fp : List Addr), PE (X.blk s H scope (compEnvC scope cl C X.env) fp) elt te) (hs : ∀ x, foldedSetIterable iter X.env x = pure x := by intro _; rfl) :
    PE X (.ListComp elt [⟨tg, iter, ifs, 0⟩] scope pos) (tLc wi g tt te (own.map (·.2))) := by
  refine ⟨fun pins s σ H Q I h => ?_⟩
  obtain ⟨p, hot1, hpX⟩ := hc
  rw [eval_ListComp]
  have hfree : ∀ y ∈ scope.names, y.2 = .free → ∃ c, X.env.cells.lookup y.1 = some c := fun y hy e => (ok.free y hy e).elim (fun k => I.ok.has _ (.inl k)) fun k => I.ok.has _ (.inr k)
  refine wpAny_comprehension_free rfl hs (closure_ok hfree) ok.kind (fun y hy e => by rw [ok.uniq y hy, e]) (thn (hi.run pins s σ H _ I h) fun xv s1 hx => thn hx fun itv s2 ⟨it, fp, tn, J, H2, e, I2, T, st2, f2, q⟩ => ?_)
  subst e
  refine wpAny_newObj_type (newEnv_comp ?_) (by show 0 ≤ sizeLine; decide)
  -- the list, tracked
  have nD : H2 s2.heap.objs.size = none := I2.hok.fresh (Nat.le_refl _)
  obtain ⟨W, ⟨m0, w0⟩, turn⟩ := q _ nD
  have kD : ∀ b o, s2.heap.get? b = some o → (s2.heap.push { cls := .type "list", data := .seq ([] : List Value).toArray }).get? b = some o := fun b o e => Heap.get?_push_of_some _ e
  have I3 : Inv X pins σ (upd H2 s2.heap.objs.size (.lst [])) { s2 with heap := s2.heap.push { cls := .type "list", data := .seq ([] : List Value).toArray } } :=
    I2.laid (t' := s2.toks) kD (Nat.le_refl _) ⟨Nat.zero_le _, [], 0, .nil, Heap.get?_push_size _ rfl⟩
  have szD : (s2.heap.push { cls := .type "list", data := .seq ([] : List Value).toArray }).objs.size = s2.heap.objs.size + 1 := Heap.size_push ..
  have f3 : ∀ b ∈ fp, FpOk X pins (upd H2 s2.heap.objs.size (.lst [])) b ∧ b < (s2.heap.push { cls := .type "list", data := .seq ([] : List Value).toArray }).objs.size := fun b hb => by
    obtain ⟨o, e, _⟩ := T.obj _ _ st2 b hb
    have hlt := Heap.lt_size e
    exact ⟨⟨by rw [upd_ne (Nat.ne_of_lt hlt)]; exact (f2 b hb).1, (f2 b hb).2⟩, by rw [szD]; exact Nat.lt_succ_of_lt hlt⟩
  have st3 : tn 0 (s2.heap.push { cls := .type "list", data := .seq ([] : List Value).toArray }) := T.keep _ _ _ st2 fun b _ o e => kD b o e
  generalize hD : s2.heap.objs.size = D at *
  generalize hs3 : ({ s2 with heap := s2.heap.push { cls := .type "list", data := .seq ([] : List Value).toArray } } : Shared) = s3 at I3
  have h3 : s3.heap = s2.heap.push { cls := .type "list", data := .seq ([] : List Value).toArray } := by rw [← hs3]
  rw [← h3] at f3 st3
  have I4 := block_start I3 ok hN f3
  have pg := hg s3 (upd H2 D (.lst [])) s3.heap.objs.size (cellsFrom (s3.heap.objs.size + 1) scope.names (cloFrom X.env.cells scope.names [])) fp
  have pt := ht s3 (upd H2 D (.lst [])) s3.heap.objs.size (cellsFrom (s3.heap.objs.size + 1) scope.names (cloFrom X.env.cells scope.names [])) fp
  have pe := he s3 (upd H2 D (.lst [])) s3.heap.objs.size (cellsFrom (s3.heap.objs.size + 1) scope.names (cloFrom X.env.cells scope.names [])) fp
  show codeAny _ _ (.compStart (.ListComp elt [⟨tg, iter, ifs, 0⟩] scope pos) 0 (.ref it) (.ref D) (compEnvC scope (cellsFrom (s3.heap.objs.size + 1) scope.names (cloFrom X.env.cells scope.names [])) s3.heap.objs.size X.env)) (compPost (model X.prog X.w) X.A X.xe none (EP X pins σ Q) (.ref D) s3.heap.objs.size) { s3 with heap := pushCells (s3.heap.push { cls := .type "dict", data := .dict #[] }) scope.names }
  generalize hce : compEnvC scope (cellsFrom (s3.heap.objs.size + 1) scope.names (cloFrom X.env.cells scope.names [])) s3.heap.objs.size X.env = ce at I4 pg pt pe ⊢
  have cL : ce.locals = s3.heap.objs.size := by subst hce; rfl
  have kC : ∀ b o, s3.heap.get? b = some o → (pushCells (s3.heap.push { cls := .type "dict", data := .dict #[] }) scope.names).get? b = some o := fun b o e => pushCells_keeps _ _ _ _ (Heap.get?_push_of_some _ e)
  generalize hH3 : upd H2 D (.lst []) = H3 at I3 I4 pg pt pe w0 f3
  generalize hs4 : ({ s3 with heap := pushCells (s3.heap.push { cls := .type "dict", data := .dict #[] }) scope.names } : Shared) = s4 at I4 ⊢
  have h4 : s4.heap = pushCells (s3.heap.push { cls := .type "dict", data := .dict #[] }) scope.names := by rw [← hs4]
  have st4 : tn 0 s4.heap := T.keep _ _ _ st3 fun b _ o e => by rw [h4]; exact kC _ _ e
  -- the handled exception, pinned in the block
  have p3 := I3.pin p (List.mem_append_left _ hpX)
  have fpp : ∀ b ∈ fp, p.1 ≠ b := fun b hb => (f3 b hb).1.2.2.2.2.2 p (List.mem_append_left _ hpX)
  have pstk : p.1 ∉ frs X.stack := fun hm => (List.mem_cons.mp (I3.stkSub p.1 hm)).elim p3.2.2.1 p3.2.2.2.1
  have I4p : Inv (X.blk s3 H3 scope ce fp) [p] (wipe σ (own.map (·.2))) H3 s4 := I4.pins_of fun q hq => by
    rw [List.mem_singleton.mp hq]
    exact ⟨by rw [h4]; exact kC _ _ p3.1, p3.2.1, by show p.1 ≠ ce.locals; rw [cL]; exact Nat.ne_of_lt (Heap.lt_size p3.1), pstk, p3.2.2.2.2⟩
  have hotY : HotC { X.blk s3 H3 scope ce fp with pn := [p] } := ⟨p, hot1, List.mem_singleton.mpr rfl⟩
  have stat : ∀ {σ' : L2.St} {H' : Hp} {s' : Shared}, Inv (X.blk s3 H3 scope ce fp) [p] σ' H' s' → (∀ b ∈ fp, H' b = none) → ∀ b ∈ fp, FpOk { X.blk s3 H3 scope ce fp with pn := [p] } [] H' b := fun {σ' H' s'} I' hn b hb =>
    ⟨hn b hb, (I'.ok.exf b hb).1, I'.ok.exfs b hb, .inl hb, fun x c e => (I'.ok.exf b hb).2 x c e, fun q hq => by
      have eq : q = p := by simpa using hq
      rw [eq]
      exact fpp b hb⟩
  have loop : codeAny (model X.prog X.w) X.A (.compLoop (.ListComp elt [⟨tg, iter, ifs, 0⟩] scope pos) 0 (.ref it) (.ref D) ce) (compPost (model X.prog X.w) X.A X.xe none (EP X pins σ Q) (.ref D) s3.heap.objs.size) s4 := by
    refine compLoop_any (fun n s' => ∃ i H', Inv (X.blk s3 H3 scope ce fp) [p] (wipe σ (own.map (·.2))) H' s' ∧ tn i s'.heap ∧ (∀ b ∈ fp, H' b = none) ∧ W i n H') ?_ m0 ⟨0, H3, I4p, st4, fun b hb => (f3 b hb).1.1, w0⟩
    rintro n s5 ⟨i, H5, I5, st5, n5, w5⟩
    rcases turn i n H5 w5 with ⟨stop, qq⟩ | ⟨go, Nx, hNx, step⟩
    · have td := T.done { X.blk s3 H3 scope ce fp with pn := [p] } rfl rfl rfl hotY i [] s5 _ H5 (fun _ _ => False) (toHot rfl I5) (stat I5 n5) st5 stop
      refine thnF td fun r s6 ⟨hr, I6⟩ => ?_
      subst hr
      have I7 : Inv X pins σ H5 s6 := I3.call' (ch := fp) I6.os I6.base I6.hok I6.bare fun b hb => ⟨(f3 b hb).1.2.2.2.1, (f3 b hb).1.2.1, (f3 b hb).1.2.2.2.2.1, (f3 b hb).1.2.2.2.2.2⟩
      have nC : H5 s3.heap.objs.size = none := by
        have z : H5 ce.locals = none := I6.free
        rw [cL] at z
        exact z
      obtain ⟨m, hn, _⟩ := I6.loc
      have hn : s6.heap.Ns ce.locals m := hn
      rw [cL] at hn
      obtain ⟨f0, f1, f2', f3', f4, f5⟩ := I3.fpOk (Nat.le_refl _) nC
      exact ⟨m, hn, fun h'' sb => ⟨.ref D, H5, I7.turned (t' := s6.toks) (fun b o hb e => (sb.2 b hb).trans e) f0 f1 f3' f4 f5, rfl, qq⟩⟩
    · have ti := T.item { X.blk s3 H3 scope ce fp with pn := [p] } rfl rfl rfl hotY i [] s5 _ H5 (fun _ _ => False) (toHot rfl I5) (stat I5 n5) st5 go
      refine thnF ti fun r s6 ⟨u, hr, h6⟩ => ?_
      subst hr
      refine thnF h6 fun _ s7 ⟨x, H7, I7, r7, y7, st7, n7⟩ => ?_
      have I7' := ofHot rfl (I7.pinned (stat (ofHot rfl I7) n7) (T.obj _ _ st7))
      refine thnF (pg.run _ s7 _ H7 x u _ I7' r7 (step x H7 y7)) fun _ s8 ⟨σ8, H8, I8, hw8, q8⟩ => ?_
      refine thnF (pt.run _ s8 σ8 H8 _ I8 q8) fun b s9 ⟨H9, I9, q9⟩ => ?_
      have fin : ∀ {s' : Shared} {H' : Hp}, Inv (X.blk s3 H3 scope ce fp) (p :: ([] ++ pinsAt fp s7.heap)) σ8 H' s' → Nx H' → ∃ m, m < n ∧ ∃ i H', Inv (X.blk s3 H3 scope ce fp) [p] (wipe σ (own.map (·.2))) H' s' ∧ tn i s'.heap ∧ (∀ b ∈ fp, H' b = none) ∧ W i m H' := fun {s' H'} I' nx => by
        obtain ⟨m', hm, w'⟩ := hNx H' nx
        have pin' : ∀ b ∈ fp, ∀ o, s7.heap.get? b = some o → s'.heap.get? b = some o ∧ H' b = none := fun b hb o e =>
          let z := I'.pin (b, o) (List.mem_append_right _ (List.mem_cons_of_mem _ (List.mem_append_right _ (mem_pinsAt hb e))))
          ⟨z.1, z.2.1⟩
        have hl : (wipe σ (own.map (·.2))).length = σ8.length := by rw [← hw8, wipe_length]
        refine ⟨m', hm, i + 1, H', (I'.pins_of (pins' := [p]) fun q hq => I'.pin q (List.mem_append_right _ ?_)).weak hl (fun j v e => ?_), T.keep _ _ _ st7 fun b hb o e => (pin' b hb o e).1, fun b hb => ?_, w'⟩
        · rw [List.mem_singleton.mp hq]
          exact List.mem_cons_self
        · rw [← hw8] at e
          exact (wipe_some e).1
        · obtain ⟨o, e, _⟩ := T.obj _ _ st7 b hb
          exact (pin' b hb o e).2
      cases b with
      | false =>
        simp only [Bool.false_eq_true, if_false] at q9 ⊢
        exact fin I9 q9
      | true =>
        simp only [if_true] at q9 ⊢
        refine thnF (pe.run _ s9 σ8 H9 _ I9 q9) fun z s10 ⟨yv, H10, I10, r10, acc, hD10, hz10, nx⟩ => ?_
        exact app_ok (X := X.blk s3 H3 scope ce fp) I10 hD10 hz10 r10 fun s11 I11 => fin I11 nx
  exact codeAny_compStart_list loop (T.self X.A 0 _ _ _ st4 loop)
end
section
variable {X : Cx} {W : WX} {tg elt : Expr} {fs : RA} {p pos : Pos}
theorem wi_rng1H {a : Expr} (hgl : Gl X "range") (hm : X.mg "range" = none) (ha : PA X [a] (tA (gm X) W fs)) (hs1 : starEach [a] X.env = [(false, eval a X.env)] := by rfl) :
    PIH X tg (.Call (.Name "range" p) [a] [] pos) (tW (gm X) W (wRng rng1 fs)) :=
  ⟨fun pins s σ H R I h => (pi_range1H hgl hm ha hs1).run pins s σ H R I (by
    refine (tX.bind (f := fs) (g := fun ds ρ M1 => ofW ((rng1 ds).map fun q => (intsD q.1 q.2, none)) M1) (rel := Reps (gm X)) h).mono fun vs H1 ⟨μ, ρ, M, ds, hE, hS, rd, hF⟩ => ?_
    have hF : Fin (gm X) (fun μ H (a : List Fl.D × Option (Nat × O)) J => Wk (gm X) J a.2 a.1 μ H) W μ σ H1 R (ofW ((rng1 ds).map fun q => (intsD q.1 q.2, none)) M) := hF
    cases q : rng1 ds with
    | none => rw [q] at hF; exact hF.elim
    | some r =>
      obtain ⟨lo, n⟩ := r
      rw [q] at hF
      unfold rng1 at q
      split at q
      · split at q
        · rename_i j hj
          cases q
          obtain ⟨v, rfl, r⟩ := rd.inv1
          rw [Rep.int] at r
          subst r
          exact ⟨j, rfl, hj.1, hj.2, hF μ _ H1 (.refl _) (List.prefix_refl _) hS wk_rng⟩
        · cases q
      · cases q)⟩
theorem i_lcH {iter : Expr} {ifs : List Expr} {scope : Scope} {own : List (Str × Nat)} {fw : RW} {g : RG} {graw : TG} {tt : RT} {te : RE} (hc : HotC X) (hN : X.N.Nodup) (hi : PIH X tg iter (tW (gm X) W fw)) (ok : BlkOk X.N X.env.scope scope own) (ho : Own (gm X) (own.map (·.2)) g graw)
    (hg : ∀ (s : Shared) (H : Hp) (C : Addr) (cl : List (Str × Addr)) (fp : List Addr), PG (X.blk s H scope (compEnvC scope cl C X.env) fp) tg graw)
    (ht : ∀ (s : Shared) (H : Hp) (C : Addr) (cl : List (Str × Addr)) (fp : List Addr), PTs (X.blk s H scope (compEnvC scope cl C X.env) fp) ifs (tT (gm X) W0 tt))
    (he : ∀ (s : Shared) (H : Hp) (C : Addr) (cl : List (Str × Addr)) (fp : List Addr), PE (X.blk s H scope (compEnvC scope cl C X.env) fp) elt (tE (gm X) W0 te))
    (hs : ∀ (x : Value), foldedSetIterable iter X.env x = pure x := by exact fun _ => rfl) :
    PE X (.ListComp elt [{ target := tg, iter := iter, ifs := ifs, is_async := 0 }] scope pos) (tE (gm X) W (rLC fw g tt te (own.map (·.2)))) :=
  PEimp (pe_lcH hc hN hi ok hg ht he hs) fun σ H Q h => lc_in ho h
theorem hot_suite {a : Addr} {oe : Obj} {pn : List (Addr × Obj)} {cls : Value} {d : Option Addr} (hz : L2N.Zn cls d oe) (hf : ∃ vs, oe.data = .fields vs) : HotC (X.suite a ((a, oe) :: pn)) := by
  obtain ⟨vs, e⟩ := hf
  exact ⟨(a, oe), ⟨rfl, vs, e, hz.2.2 vs e⟩, List.mem_cons_self⟩
/-- isinstance(e, C), in the suite that holds e -/
theorem i_exis {a D0 A0 : Addr} {oe : Obj} {pn : List (Addr × Obj)} {c C n : Str} {d : Option Addr} {i : Nat} {b : Bool} {p1 p2 p3 : Pos} (hz : L2N.Zn (cval (gm X) c) d oe) (hd : d = none) (hf : ∃ vs, oe.data = .fields vs) (hc : X.mg c = some (.ref D0)) (EC : ExcC X.K D0)
    (hC : X.mg C = some (.ref A0)) (hk : PySem.W.kitOne X.K (.ref D0) (.ref A0) = some b) (hm : X.mg "isinstance" = none) (hgl : Gl X "isinstance") (hglC : Gl X C) (hN : X.N[i]? = some n) (hv : Vis X.env.scope n)
    (hdC : (C == ("__debug__" : Str)) = false := by decide) (hd1 : (n == ("__debug__" : Str)) = false := by decide) (hd2 : (n == ("__classdict__" : Str)) = false := by decide) :
    PE (X.suite a ((a, oe) :: pn)) (.Call (.Name "isinstance" p1) [.Name n p2, .Name C p3] [] pos) (tE (gm X) W (rCB (cExIs a C b) (rCons (rVar i) (rCons (rC (.gl C)) rNil)))) := by
  have ec : cval (gm X) c = .ref D0 := by
    unfold cval
    show (X.mg c).getD .none = _
    rw [hc]
    rfl
  rw [ec] at hz
  subst hd
  refine i_callB (X := X.suite a ((a, oe) :: pn)) (call_isE EC hz.zc hf) (d_exis hC hk) hgl hm PyProof.Rows.boot_isinstance (i_cons (X := X.suite a ((a, oe) :: pn)) (i_var (X := X.suite a ((a, oe) :: pn)) i hN hv hd1 hd2) (i_cons (X := X.suite a ((a, oe) :: pn)) (i_glob (X := X.suite a ((a, oe) :: pn)) hglC (gl_cst hC) hdC) i_nil))
end
/-! ### what the printer asks of the written part besides -/
/-- the class named c says what isinstance asks -/
def excCB (K : PySem.W.Frag) (c : Str) : Bool :=
  PySem.W.findIn K (.ref (He.ga K c)) "__getattribute__" == some (some (.builtin "BaseException.__getattribute__")) && PySem.W.findIn K (.ref (He.ga K c)) "__getattr__" == some none &&
  PySem.W.subIn K (.ref (He.ga K c)) (.type "BaseException") == some true && PySem.W.hasDictIn K (He.ga K c) && PySem.W.findIn K (.ref (He.ga K c)) "__class__" == some (some (.builtin "object.__class__")) &&
  PySem.W.specialIn K (.builtin "object.__class__") "__get__" == some (some (.builtin "getset_descriptor.__get__")) && PySem.W.takesIn K (.builtin "object.__class__") == some true && PySem.W.mroIn K (He.ga K c) (.type "object") == some true
theorem excCB_ok {K : PySem.W.Frag} {c : Str} (h : excCB K c = true) : ExcC K (He.ga K c) := by
  unfold excCB at h
  simp only [Bool.and_eq_true] at h
  obtain ⟨⟨⟨⟨⟨⟨⟨h1, h2⟩, h3⟩, h4⟩, h5⟩, h6⟩, h7⟩, h8⟩ := h
  exact ⟨eq_of_beq h1, eq_of_beq h2, eq_of_beq h3, h4, eq_of_beq h5, eq_of_beq h6, eq_of_beq h7, eq_of_beq h8⟩
/-- isinstance of an error of the class c, asked for C -/
def kitB (K : PySem.W.Frag) (c C : Str) (b : Bool) : Bool := PySem.W.kitOne K (.ref (He.ga K c)) (.ref (He.ga K C)) == some b
theorem kitB_ok {K : PySem.W.Frag} {c C : Str} {b : Bool} (h : kitB K c C b = true) : PySem.W.kitOne K (.ref (He.ga K c)) (.ref (He.ga K C)) = some b := eq_of_beq h
/-- the classes cs may come, ts are asked for -/
def askB (K : PySem.W.Frag) (cs ts : List Str) : Bool := cs.all fun c => excCB K c && ts.all fun t => kitB K c t (c == t)
structure Ask (K : PySem.W.Frag) (mg : Str → Option Value) (cs ts : List Str) : Prop where
  ok : ∀ c ∈ cs, ∃ D0, mg c = some (.ref D0) ∧ ExcC K D0 ∧ ∀ t ∈ ts, ∃ A0, mg t = some (.ref A0) ∧ PySem.W.kitOne K (.ref D0) (.ref A0) = some (c == t)
theorem ask_ok {K : PySem.W.Frag} {mg : Str → Option Value} {h : Heap} {cs ts : List Str} (X : K.In h) (G : h.Ns mainGlobals mg) (c : askB K cs ts = true) (g1 : ∀ c ∈ cs, (He.Fa.glo c).ok K = true) (g2 : ∀ c ∈ ts, (He.Fa.glo c).ok K = true) : Ask K mg cs ts := by
  refine ⟨fun x hx => ?_⟩
  have h1 := List.all_eq_true.mp c x hx
  rw [Bool.and_eq_true] at h1
  exact ⟨_, He.glo_ok X G (g1 x hx), excCB_ok h1.1, fun t ht => ⟨_, He.glo_ok X G (g2 t ht), kitB_ok (List.all_eq_true.mp h1.2 t ht)⟩⟩
abbrev AlZ : Type := AlY × Bool
def obsZ (fa : List He.Fa) (fn : List He.DefD) (cs : List (Str × CK)) (ts : List Tb) (k : PySem.W.Frag → Bool) (K : PySem.W.Frag) : AlZ := (obsY fa fn cs ts K, k K)
def valZ (fn : List He.DefD) (ts : List Tb) (w : World) : AlZ := (valY fn ts w, true)
/-- an empty table of code objects -/
def isTab : Option Obj → Bool
  | some o => (match o.cls, o.data with
    | .none, .fields vs => vs.isEmpty
    | _, _ => false)
  | none => false
/-- the written part, without the tables -/
def frZ (g : Addr → Option Obj) (n : Nat) : PySem.W.Frag := He.frG g ((He.asD g n).filter fun a => !isTab (g a))
def obsZG (n : Nat) (fa : List He.Fa) (fn : List He.DefD) (cs : List (Str × CK)) (ts : List Tb) (k : PySem.W.Frag → Bool) (g : Addr → Option Obj) : AlZ := obsZ fa fn cs ts k (frZ g n)
structure SaysZ (fa : List He.Fa) (fn : List He.DefD) (cs : List (Str × CK)) (ts : List Tb) (k : PySem.W.Frag → Bool) (w : World) (K : PySem.W.Frag) : Prop where
  y : SaysY fa fn cs ts w K
  k : k K = true
def hookZ (n : Nat) (fa : List He.Fa) (fn : List He.DefD) (cs : List (Str × CK)) (ts : List Tb) (k : PySem.W.Frag → Bool) : PySem.W.Hook where
  α := AlZ
  obs := fun s => obsZG n fa fn cs ts k s.heap.get?
  val := fun w => valZ fn ts w
  says := fun w h => ∃ K : PySem.W.Frag, K.In h ∧ SaysZ fa fn cs ts k w K
  of := fun _ _ e => ⟨_, He.frG_in, ⟨congrArg (fun z : AlZ => z.1.1.1) e, List.all_eq_true.mp (congrArg (fun z : AlZ => z.1.1.2) e), fun q hq => ⟨List.all_eq_true.mp (congrArg (fun z : AlZ => z.1.2.1) e) q hq, map_eq_mem (congrArg (fun z : AlZ => z.1.2.2) e) q hq⟩⟩, congrArg (fun z : AlZ => z.2) e⟩
  keeps := fun _ _ _ ⟨K, hK, c⟩ k => ⟨K, PySem.W.Frag.In.keeps hK k, c⟩
theorem obsZG_eq {n : Nat} {fa : List He.Fa} {fn : List He.DefD} {cs : List (Str × CK)} {ts : List Tb} {k : PySem.W.Frag → Bool} {g : Addr → Option Obj} {s : Shared} (h : ∀ a, g a = s.heap.get? a) : obsZG n fa fn cs ts k g = (hookZ n fa fn cs ts k).obs s := by
  have e : g = s.heap.get? := funext h
  rw [e] <;> rfl
/-! ### rules for defs that get lambdas, that make them -/
section
variable {P : Program} {w : World} {K : PySem.W.Frag} {mg : Str → Option Value} {base : Heap}
theorem fn_LE {x qual : Str} {params : Arguments} {body : List Stmt} {scope : Scope} {dvs : List V} {kws : List (Str × V)} {f : Addr} {fd : FuncData} {N ps : List Str} {kl k : Nat} {m : LamI → (Store → R D) → RS} {FT : (Store → R D) → List D → Store → R D}
    (Fu : FunD K x qual params body scope dvs kws f fd) (S : FnScope N ps scope)
    (hb : ∀ (cdv : Value) (A : Around) (outer : List PySem.Env) (s : Shared) (H : Hp) (E : XK) (i : LamI) (B : Store → R D), Room k (A.deeper (PyProof.Rows.envOfC qual scope s.heap.objs.size f cdv)) → LamOk P w K mg base kl i B → Link i s H → (∀ b ∈ frs outer, b ∈ i.F ∨ i.h0.get? b = none) →
      PassesOwn (model P w) (cxOf (L2N.CX P w) P w K mg base N qual scope f cdv A outer s H E).A (cxOf (L2N.CX P w) P w K mg base N qual scope f cdv A outer s H E).env (cxOf (L2N.CX P w) P w K mg base N qual scope f cdv A outer s H E).xe →
      ∀ W : WX, L2N.Takes (cxOf (L2N.CX P w) P w K mg base N qual scope f cdv A outer s H E) W → PSs (cxOf (L2N.CX P w) P w K mg base N qual scope f cdv A outer s H E) body (tS ⟨K, mg⟩ W (m i B)))
    (hF : ∀ i B ds M, ds.length + 1 = ps.length → Grows M (FT B ds M) ∧ Tells (FT B ds M) (bodyR (m i B (startD N.length (.lam i :: ds)) M))) :
    FnL P w K mg base kl (k + 1) f fd ps FT := fn_L Fu S (fun cdv A outer s H E i B hr LO lk hfr W tk => hb cdv A outer s H E i B hr LO lk hfr (passes_of rfl) W tk) hF
/-- what is known of the table of the def y -/
def TabK (K : PySem.W.Frag) (mg : Str → Option Value) (base : Heap) (y : Str) : Prop := ∃ c P, PySem.W.tabIn K y = some (c, P) ∧ LamX.TabB base mg c P
theorem code_of_tab {y : Str} {c P f : Addr} {oc : Value} {od : Option Addr} {fd : FuncData} {osl : Array (Option Value)} (KX : K.In base) (G : base.Ns mainGlobals mg) (hm : mg y = some (.ref f)) (lk : K.lookup f = some ⟨oc, od, .func fd, osl⟩) (ht : PySem.W.tabIn K y = some (c, P)) : fd.code = .ref c := by
  unfold PySem.W.tabIn at ht
  split at ht
  · rename_i f' hf
    have e1 := PySem.W.mg_of KX G hf
    rw [hm] at e1
    cases e1
    rw [lk] at ht
    dsimp only at ht
    split at ht
    · rename_i c' e2
      rw [e2]
      split at ht
      · split at ht
        · cases ht
          rfl
        · cases ht
      · cases ht
    · cases ht
  · cases ht
/-- a def that makes lambdas -/
theorem fn_T {x : Str} {params : Arguments} {body : List Stmt} {scope : Scope} {dvs : List V} {kws : List (Str × V)} {f : Addr} {fd : FuncData} {N ps : List Str} {k : Nat} {m : RS} {F : List D → Store → R D}
    (TK : TabK K mg base x) (KX : K.In base) (G : base.Ns mainGlobals mg) (hm : mg x = some (.ref f)) (Fu : FunD K x x params body scope dvs kws f fd) (S : FnScope N ps scope)
    (hb : ∀ (cdv : Value) (A : Around) (outer : List PySem.Env) (s : Shared) (H : Hp) (E : XK), LamT (cxOf (L2N.CX P w) P w K mg base N x scope f cdv A outer s H E) x → Room k (A.deeper (PyProof.Rows.envOfC x scope s.heap.objs.size f cdv)) →
      PassesOwn (model P w) (cxOf (L2N.CX P w) P w K mg base N x scope f cdv A outer s H E).A (cxOf (L2N.CX P w) P w K mg base N x scope f cdv A outer s H E).env (cxOf (L2N.CX P w) P w K mg base N x scope f cdv A outer s H E).xe →
      ∀ W : WX, L2N.Takes (cxOf (L2N.CX P w) P w K mg base N x scope f cdv A outer s H E) W → PSs (cxOf (L2N.CX P w) P w K mg base N x scope f cdv A outer s H E) body (tS ⟨K, mg⟩ W m))
    (hF : ∀ ds M, ds.length = ps.length → Grows M (F ds M) ∧ Tells (F ds M) (bodyR (m (startD N.length ds) M))) :
    FnOk P w K mg base (L2N.CX P w) (k + 1) f fd ps (spD ⟨K, mg⟩ F ps.length) := by
  obtain ⟨oc, od, dV, kV, doc, pm, an, cdv, ct, osl, rfl, lk, hcd, _, _⟩ := Fu.ex
  obtain ⟨c, P0, ht, TB⟩ := TK
  have ec : cdv = .ref c := code_of_tab KX G hm lk ht
  refine fn_of lk hcd S (fun vs H Q E h => h.choose_spec.choose_spec.choose_spec.1) fun A outer s H vs Q E hr h => ?_
  obtain ⟨μ, ds, M, hn, hds, hS, hQ⟩ := h
  have tk : L2N.Takes (cxOf (L2N.CX P w) P w K mg base N x scope f cdv A outer s H E) (fun c d _ H' => E c d H') := L2N.takes_of rfl rfl rfl rfl
  refine ⟨_, hb cdv A outer s H E ⟨c, P0, ht, ec, TB, rfl⟩ hr (passes_of rfl) _ tk, μ, startD N.length ds, M, startD_ok hds, hS, ?_⟩
  obtain ⟨g, t⟩ := hF ds M (by rw [hds.length]; exact hn)
  have hq := FinC_tells hS.len g t hQ
  cases q : m (startD N.length ds) M with
  | nx ρ M' => rw [q] at hq; exact fun μ' σ' H' e p _ s => hq μ' .non H' e p s (Rep.non.mpr rfl)
  | rt d M' => rw [q] at hq; exact hq
  | bk ρ M' => rw [q] at hq; exact hq.elim
  | ct ρ M' => rw [q] at hq; exact hq.elim
  | ex c fs ρ M' => rw [q] at hq; exact fun μ' σ' H' dx e p _ s x => hq μ' H' dx e p s x
  | no => rw [q] at hq; exact hq
end
end Fl

set_option Elab.async false
set_option linter.all false
set_option maxRecDepth 100000
/-! Fl, part N: enumerate of a tuple. -/
namespace PySem
open Sem (wp)
open AutoSeq1 (wpAny_loadPart')
theorem meets_enum_tup (l : Addr) (items : Array Value) (n : Nat) (dct : Option Addr) (sl : Array (Option Value)) :
    Meets (Builtin.«enumerate.__new__» ⟨[.type "enumerate", .ref l], []⟩) (fun _ R s => s.heap.get? l = some { cls := .type "tuple", dict := dct, data := .seq items n, slots := sl } ∧
      R (.ok (.ret (.ref (s.heap.push { cls := .type "tuple_iterator", data := .fields #[.ref l, .int 0 0] }).objs.size)))
        { s with heap := (s.heap.push { cls := .type "tuple_iterator", data := .fields #[.ref l, .int 0 0] }).push { cls := .type "enumerate", data := .fields #[.none, .bool false, .ref s.heap.objs.size, rawInt 0, .none, .none] } }) :=
  .of_wp fun prog w A R s h => by
    obtain ⟨hp, g, d, tk, os⟩ := s; obtain ⟨hl, h⟩ := h
    have hsub := sub_enumerate
    have hL : Heap.IsTuple (Shared.heap ⟨hp, g, d, tk, os⟩) l items := ⟨_, hl, rfl, n, rfl⟩
    wp_walk using wpAny_loadPart' hl
    refine wpAny_stack_any fun st => wpAny_pure ?_
    split
    · rename_i c _ _ _ _ _
      cases (c == Value.type "enumerate")
      · wp_walk using wpAny_loadPart' hl, wpAny_pyIter_tuple hL
        exact ⟨_, rfl, h⟩
      · wp_walk using wpAny_loadPart' hl, wpAny_pyIter_tuple hL
        exact ⟨_, rfl, h⟩
    · wp_walk using wpAny_loadPart' hl, wpAny_pyIter_tuple hL
      exact ⟨_, rfl, h⟩
theorem call_enum_tup {prog : Program} {w : World} {A : Around} {E : Value → Shared → Prop} {s : Shared} {l : Addr} {items : Array Value} {Q : Value → Shared → Prop} (hL : s.heap.IsTuple l items)
    (h : ∀ h', IsEnum h' (s.heap.objs.size + 1) s.heap.objs.size 0 .none → h'.IsTupleIter s.heap.objs.size l 0 → h'.objs.size = s.heap.objs.size + 2 →
      (∀ b o, s.heap.get? b = some o → h'.get? b = some o) → Q (.ref (s.heap.objs.size + 1)) { s with heap := h' }) :
    wpAny (model prog w) A (call (.type "enumerate") [.ref l]) Q E s := by
  obtain ⟨⟨c, dct, dt, sl⟩, hl, hc, n, hd⟩ := hL
  replace hc : c = .type "tuple" := hc
  replace hd : dt = .seq items n := hd
  subst hc hd
  refine callType_new F.called_enumerate (by decide) (F.typeCall_enumerate_1 _) (F.newCall_enumerate_1 _) (fun obj => F.args_object_init_2 obj _) F.entry_enumerate_new
    (meets_enum_tup l items n dct sl) ⟨hl, ?_⟩
  have hz : (s.heap.push { cls := .type "tuple_iterator", data := .fields #[.ref l, .int 0 0] }).objs.size = s.heap.objs.size + 1 := Heap.size_push ..
  show _ ∧ _
  rw [hz]
  have he : IsEnum ((s.heap.push { cls := .type "tuple_iterator", data := .fields #[.ref l, .int 0 0] }).push
      { cls := .type "enumerate", data := .fields #[.none, .bool false, .ref s.heap.objs.size, rawInt 0, .none, .none] }) (s.heap.objs.size + 1) s.heap.objs.size 0 .none := by
    have := Heap.get?_push_size (s.heap.push { cls := .type "tuple_iterator", data := .fields #[.ref l, .int 0 0] })
      (o := { cls := .type "enumerate", data := .fields #[.none, .bool false, .ref s.heap.objs.size, rawInt 0, .none, .none] }) rfl
    rw [hz] at this; exact this
  refine ⟨⟨_, he, rfl⟩, h _ he ⟨_, Heap.get?_push_of_some _ (Heap.get?_push_size _ rfl), rfl, rfl⟩ (by rw [Heap.size_push, hz]) fun b o x => Heap.get?_push_of_some _ (Heap.get?_push_of_some _ x)⟩
end PySem
namespace L2
open PySem PySem.Spec PyProof.Rows
/-- the tuple at a, each item in a new pair -/
def Itet (K : PySem.W.Frag) (a : Addr) : It :=
  ⟨fun i H => ∃ (xs : List V) (x : V), SqT K H a xs ∧ xs[i]? = some x, fun i H v H' => ∃ T x, v = .ref T ∧ H T = none ∧ H' = upd H T (.tup [.int (i : Nat), x]) ∧ ∀ xs, SqT K H a xs → xs[i]? = some x, fun i H => ∃ xs : List V, SqT K H a xs ∧ xs.length = i⟩
theorem turn_enumT {P : Program} {w : World} {K : PySem.W.Frag} {elts : List Expr} {kk : Nat} {tpos : Pos} (a e it : Addr) (items : Array Value) (hai : a ≠ it) (hae : a ≠ e) :
    Turn P w K (.Tuple elts kk tpos) (Itet K a) [e, it] e (fun i h => (∃ old, IsEnum h e it ((i : Nat) : Int) old) ∧ h.IsTupleIter it a i ∧ e ≠ it) where
  mem := by simp
  obj := fun i h st b hb => by
    obtain ⟨⟨old, he⟩, ⟨o, ho, hc, hd⟩, _⟩ := st
    have e' : b = e ∨ b = it := by simpa using hb
    rcases e' with z | z
    · rw [z]; exact ⟨_, he, fun v q => nomatch q⟩
    · rw [z]; exact ⟨o, ho, fun v q => by rw [hd] at q; cases q⟩
  keep := fun i h h' st k => let ⟨⟨old, he⟩, hi, hne⟩ := st; ⟨⟨old, k e (by simp) _ he⟩, hi.at fun o q => k it (by simp) o q, hne⟩
  item := by
    intro X hP hw hK hc i pins s σ H E I hf st hg
    subst hP hw hK
    obtain ⟨⟨old, he⟩, hit, hne⟩ := st
    obtain ⟨xs, x, hq, hx⟩ := hg
    obtain ⟨its, rv, p, hz⟩ := I.tuple hq
    obtain ⟨u, hu, ru⟩ := rv.get hx
    have hel : e < s.heap.objs.size := Heap.lt_size he
    have hil : it < s.heap.objs.size := by obtain ⟨_, q, _⟩ := hit; exact Heap.lt_size q
    have hi : i < its.toArray.size := by
      have := (List.getElem?_eq_some_iff.mp hu).1
      simpa using this
    refine wpAny_pyNext_enum_itemD (Draws.tuple (prog := X.prog) (w := X.w) (A := X.A.in1) (I.ok.hd hc) it a hai its.toArray) he ⟨hit, p⟩ hi hne (by simp [hne, Ne.symm hae]) fun y h' tk hy ho hit' hT hsz hk => ?_
    have hyu : y = u := by
      have h1 : its[i]? = some y := by simpa using hy
      rw [hu] at h1
      exact (Option.some.inj h1).symm
    subst hyu
    refine ⟨_, rfl, wpAny_letOwnedTupleGo_enum (s := { s with heap := h', toks := tk + 1 }) ho fun h'' he' sb => ?_⟩
    have hT2 : h''.get? s.heap.objs.size = some { cls := .type "tuple", data := .seq #[.int i tk, y] } := (sb.2 _ (Nat.ne_of_gt hel)).trans hT
    have new : ObjOk X.prog X.w (upd H s.heap.objs.size (.tup [.int (i : Nat), x])) h'' s.heap.objs.size (.tup [.int (i : Nat), x]) :=
      ⟨by show 2 ≤ sizeLine; decide, [.int i tk, y], .cons ⟨_, rfl⟩ (.cons ru .nil), ⟨_, hT2, rfl, _, rfl⟩⟩
    have I1 : Inv X pins σ (upd H s.heap.objs.size (.tup [.int (i : Nat), x])) { s with heap := h'', toks := tk + 1 } :=
      I.turnedNew (ch := [e, it]) (fun b ob hb q => (sb.2 b (fun z => hb (by simp [z]))).trans (hk b ob (fun z => hb (by simp [z])) (fun z => hb (by simp [z])) q)) hf (Nat.le_refl _) new
    refine ⟨.ref s.heap.objs.size, _, I1, rfl, ⟨_, x, rfl, I.hok.fresh (Nat.le_refl _), rfl, fun ys hy => by rw [I.tuple_inj hy hq]; exact hx⟩, ⟨⟨y, ?_⟩, hit'.1.at fun o q => (sb.2 it (Ne.symm hne)).trans q, hne⟩, fun b hb => ?_⟩
    · have e1 : ((i + 1 : Nat) : Int) = (i : Int) + 1 := by omega
      rw [e1]; exact he'
    · have hb' : b < s.heap.objs.size := by
        have e' : b = e ∨ b = it := by simpa using hb
        rcases e' with z | z
        · rw [z]; exact hel
        · rw [z]; exact hil
      rw [upd_ne (Nat.ne_of_lt hb')]
      exact (hf b hb).1
  done := by
    intro X hP hw hK hc i pins s σ H E I hf st hg
    subst hP hw hK
    obtain ⟨⟨old, he⟩, hit, hne⟩ := st
    obtain ⟨xs, hq, hx⟩ := hg
    obtain ⟨its, rv, p, hz⟩ := I.tuple hq
    obtain ⟨f0, f1, f2, f3, f4, f5⟩ := hf it (by simp)
    have hl := rv.length
    subst hx
    exact wpAny_pyNext_enum_endD (Draws.tuple (prog := X.prog) (w := X.w) (A := X.A.in1) (I.ok.hd hc) it a hai its.toArray) he (by rw [List.size_toArray, ← hl]; exact ⟨hit, p⟩) fun h' eb => ⟨rfl, I.turned (t' := s.toks) (fun b o hb q => eb b o hb q) f0 f1 f3 f4 f5⟩
  self := fun A i s Q E st h => let ⟨⟨_, he⟩, _⟩ := st; wpAny_pyIter_enum he h
def iEnumT (K : PySem.W.Frag) (ta : TA) : TI := fun σ H R => ta σ H fun vs H1 => ∃ a xs, vs = [.ref a] ∧ SqT K H1 a xs ∧ R (Itet K a) H1
theorem pi_enumT {X : Cx} {e : Expr} {ta : TA} {p pos tpos : Pos} {elts : List Expr} {kk : Nat} (hg : Gl X "enumerate") (hm : X.mg "enumerate" = none) (ha : PA X [e] ta) (hs : starEach [e] X.env = [(false, eval e X.env)] := by rfl) :
    PI X (.Tuple elts kk tpos) (.Call (.Name "enumerate" p) [e] [] pos) (iEnumT X.K ta) := by
  refine ⟨fun pins s σ H R I h => ?_⟩
  refine Call_ (ld_blt I hg hm boot_enumerate (PyProof.Rows.callWith_type1 (thn (ha.run pos pins s σ H _ I h) fun us s1 ⟨vs, H1, I1, r1, q1⟩ => ?_) hs rfl))
  obtain ⟨a, xs, ex, hq, q⟩ := q1
  subst ex
  cases r1 with
  | cons r rr =>
    cases rr
    cases r
    obtain ⟨its, rv, p', hz⟩ := I1.tuple hq
    have hlt : a < s1.heap.objs.size := by obtain ⟨o, ho, _⟩ := p'; exact Heap.lt_size ho
    refine call_enum_tup p' fun h' he hit hsz hk => wpAny_pyIter_enum he ?_
    have I2 : Inv X pins σ H1 { s1 with heap := h' } := I1.kept (t' := s1.toks) hk
    refine ⟨s1.heap.objs.size + 1, [s1.heap.objs.size + 1, s1.heap.objs.size], _, _, H1, rfl, I2, turn_enumT a (s1.heap.objs.size + 1) s1.heap.objs.size its.toArray (Nat.ne_of_lt hlt) (Nat.ne_of_lt (Nat.lt_succ_of_lt hlt)), ⟨⟨.none, he⟩, hit, Nat.succ_ne_self _⟩, fun b hb => ?_, q⟩
    have e' : b = s1.heap.objs.size + 1 ∨ b = s1.heap.objs.size := by simpa using hb
    have hle : s1.heap.objs.size ≤ b := by
      rcases e' with z | z
      · rw [z]; exact Nat.le_succ _
      · rw [z]; exact Nat.le_refl _
    exact I1.fpOk hle (I1.hok.fresh hle)
end L2
namespace Fl
open PySem PySem.Spec L2
set_option autoImplicit false
/-- enumerate of a pure tuple -/
def enumTK (ds : List D) (M1 : Store) : R (List D × Option (Nat × O)) := match ds with
  | [.p (.tup xs)] => .ok (enumD (xs.map D.p), none) M1
  | _ => .no
def wEnumT (f : RA) : RW := fun ρ M => (f ρ M).bind enumTK
theorem wk_enumT {G : Gm} {a : Addr} {xs : List D} {vs : List V} {μ : List Addr} {H : Hp} (h1 : SqT G.K H a vs) (h2 : Reps G μ H xs vs) : Wk G (Itet G.K a) none (enumD xs) μ H := by
  refine ⟨fun μ H => SqT G.K H a vs ∧ Reps G μ H xs vs, fun _ _ _ _ e p z => ⟨e.sqt z.1, z.2.ext e p⟩, ?_, ?_, ?_, h1, h2⟩
  · rintro i μ H M hi _ ⟨z1, z2⟩ _
    rw [enumD_len] at hi
    obtain ⟨w, hw, _⟩ := z2.get (List.getElem?_eq_getElem hi)
    exact ⟨vs, w, z1, hw⟩
  · rintro μ H M _ ⟨z1, z2⟩ _
    exact ⟨vs, z1, by rw [enumD_len, z2.len_eq]⟩
  · rintro i μ H M w H' hi S ⟨z1, z2⟩ _ ⟨T, x, rfl, hT, rfl, y⟩
    rw [enumD_len] at hi
    obtain ⟨w', hw, r⟩ := z2.get (List.getElem?_eq_getElem hi)
    have := (y vs z1).symm.trans hw
    cases this
    have ex : Ext H (upd H T (.tup [.int i, x])) := .new hT
    exact ⟨_, enumD_get hi, ex, S.grow hT, mkTup_ok (SqT.of upd_same) (.cons (Rep.int.mpr rfl) (.cons (r.ext ex (List.prefix_refl _)) .nil))⟩
section
variable {X : Cx} {W : WX} {e : Expr} {fs : RA} {pos p tpos : Pos}
theorem wi_enumT {elts : List Expr} {kk : Nat} (hgl : Gl X "enumerate") (hm : X.mg "enumerate" = none) (ha : PA X [e] (tA (gm X) W fs)) (hs1 : starEach [e] X.env = [(false, eval e X.env)] := by rfl) :
    PI X (.Tuple elts kk tpos) (.Call (.Name "enumerate" p) [e] [] pos) (tW (gm X) W (wEnumT fs)) :=
  PIimp (pi_enumT hgl hm ha hs1) fun σ H R h => by
    refine (tX.bind (f := fs) (g := fun ds ρ M1 => enumTK ds M1) (rel := Reps (gm X)) h).mono fun vs H1 ⟨μ, ρ, M, ds, hE, hS, rd, hF⟩ => ?_
    have hF : Fin (gm X) (fun μ H (a : List Fl.D × Option (Nat × O)) J => Wk (gm X) J a.2 a.1 μ H) W μ σ H1 R (enumTK ds M) := hF
    unfold enumTK at hF
    split at hF
    · rename_i xs
      obtain ⟨v, rfl, r⟩ := rd.inv1
      obtain ⟨a, vs, rfl, k1, k2⟩ := Rep.ptup.mp r
      exact ⟨a, vs, rfl, k1, hF μ _ H1 (.refl _) (List.prefix_refl _) hS (wk_enumT k1 (Reps.of_P k2))⟩
    · exact hF.elim
end
@[simp] theorem v_enumT (xs : List P) (M : Store) : enumTK [.p (.tup xs)] M = .ok (enumD (xs.map D.p), none) M := (rfl)
@[simp] theorem e_enumT (f : RA) (ρ : Env) (M : Store) : wEnumT f ρ M = (f ρ M).bind enumTK := (rfl)
end Fl

set_option Elab.async false
set_option linter.all false
set_option maxRecDepth 100000
set_option exponentiation.threshold 20000
namespace Law
open PySem PySem.Spec L2 Fl
set_option autoImplicit false
abbrev Env := Fl.Env

def c_SMALL_LETTERS : P := (.str "abcdefghijklmnopqrstuvwxyz")
def c_GREAT_LETTERS : P := (.str "ABCDEFGHIJKLMNOPQRSTUVWXYZ")
def c_DIGITS : P := (.str "0123456789")
def c_WORDS : P := (.tup [(.str "any"), (.str "both"), (.str "door"), (.str "end"), (.str "from"), (.str "host"), (.str "in"), (.str "keeps"), (.str "let"), (.str "lets"), (.str "maps"), (.str "net"), (.str "open"), (.str "ports"), (.str "span"), (.str "stop"), (.str "to"), (.str "turns"), (.str "wall")])
def c_TOP : P := (.int 99999)
def c_KINDS : P := (.tup [(.str "net"), (.str "host"), (.str "door"), (.str "open"), (.str "wall")])
def t_LENGTHS : List (Str × P) := [("net", (.int 2)), ("host", (.int 3)), ("door", (.int 12)), ("open", (.int 5)), ("wall", (.int 3))]
def c_RANGES_OF_A_RULE : P := (.int 3)
def c_MANNERS : P := (.tup [(.int 1), (.int 2), (.int 3)])
def c_LEAST_PORT : P := (.int 1)
def c_GREATEST_PORT : P := (.int 9999)
def c_LONGEST_SPAN : P := (.int 99)
def c_MOST_OPENS : P := (.int 12)
def c_MAPS : P := (.int 4)
def c_LETS : P := (.int 5)
def c_KEEPS : P := (.int 8)
def c_SPAN : P := (.int 9)
def c_MOST_JOINED : P := (.int 6)
def c_LEAST_PORTS : P := (.int 9)
@[simp] theorem lit_0 : Str.length (("" : Str)) = 0 := by decide +kernel
@[simp] theorem lit_1 : Str.length (("0123456789" : Str)) = 10 := by decide +kernel
@[simp] theorem lit_2 : Str.length (("ABCDEFGHIJKLMNOPQRSTUVWXYZ" : Str)) = 26 := by decide +kernel
@[simp] theorem lit_3 : Str.length (("BadEnds" : Str)) = 7 := by decide +kernel
@[simp] theorem lit_4 : Str.length (("BadTable" : Str)) = 8 := by decide +kernel
@[simp] theorem lit_5 : Str.length (("_" : Str)) = 1 := by decide +kernel
@[simp] theorem lit_6 : Str.length (("a door that is joined has 9 ports at least" : Str)) = 42 := by decide +kernel
@[simp] theorem lit_7 : Str.length (("a door that is joined has no span, keeps and opens" : Str)) = 50 := by decide +kernel
@[simp] theorem lit_8 : Str.length (("abcdefghijklmnopqrstuvwxyz" : Str)) = 26 := by decide +kernel
@[simp] theorem lit_9 : Str.length (("any" : Str)) = 3 := by decide +kernel
@[simp] theorem lit_10 : Str.length (("both" : Str)) = 4 := by decide +kernel
@[simp] theorem lit_11 : Str.length (("c_2" : Str)) = 3 := by decide +kernel
@[simp] theorem lit_12 : Str.length (("d1" : Str)) = 2 := by decide +kernel
@[simp] theorem lit_13 : Str.length (("door" : Str)) = 4 := by decide +kernel
@[simp] theorem lit_14 : Str.length (("end" : Str)) = 3 := by decide +kernel
@[simp] theorem lit_15 : Str.length (("error" : Str)) = 5 := by decide +kernel
@[simp] theorem lit_16 : Str.length (("from" : Str)) = 4 := by decide +kernel
@[simp] theorem lit_17 : Str.length (("from 1 to 6 tables are joined" : Str)) = 29 := by decide +kernel
@[simp] theorem lit_18 : Str.length (("h1" : Str)) = 2 := by decide +kernel
@[simp] theorem lit_19 : Str.length (("holesmet.chains" : Str)) = 15 := by decide +kernel
@[simp] theorem lit_20 : Str.length (("holesmet.checks" : Str)) = 15 := by decide +kernel
@[simp] theorem lit_21 : Str.length (("holesmet.errors" : Str)) = 15 := by decide +kernel
@[simp] theorem lit_22 : Str.length (("holesmet.items" : Str)) = 14 := by decide +kernel
@[simp] theorem lit_23 : Str.length (("holesmet.kinds" : Str)) = 14 := by decide +kernel
@[simp] theorem lit_24 : Str.length (("holesmet.names" : Str)) = 14 := by decide +kernel
@[simp] theorem lit_25 : Str.length (("holesmet.review" : Str)) = 15 := by decide +kernel
@[simp] theorem lit_26 : Str.length (("holesmet.tables" : Str)) = 15 := by decide +kernel
@[simp] theorem lit_27 : Str.length (("host" : Str)) = 4 := by decide +kernel
@[simp] theorem lit_28 : Str.length (("in" : Str)) = 2 := by decide +kernel
@[simp] theorem lit_29 : Str.length (("in2" : Str)) = 3 := by decide +kernel
@[simp] theorem lit_30 : Str.length (("keeps" : Str)) = 5 := by decide +kernel
@[simp] theorem lit_31 : Str.length (("law_holesmet_k86_doors_joined_in_rows" : Str)) = 37 := by decide +kernel
@[simp] theorem lit_32 : Str.length (("let" : Str)) = 3 := by decide +kernel
@[simp] theorem lit_33 : Str.length (("lets" : Str)) = 4 := by decide +kernel
@[simp] theorem lit_34 : Str.length (("maps" : Str)) = 4 := by decide +kernel
@[simp] theorem lit_35 : Str.length (("net" : Str)) = 3 := by decide +kernel
@[simp] theorem lit_36 : Str.length (("no table of a door" : Str)) = 18 := by decide +kernel
@[simp] theorem lit_37 : Str.length (("open" : Str)) = 4 := by decide +kernel
@[simp] theorem lit_38 : Str.length (("out1" : Str)) = 4 := by decide +kernel
@[simp] theorem lit_39 : Str.length (("ports" : Str)) = 5 := by decide +kernel
@[simp] theorem lit_40 : Str.length (("span" : Str)) = 4 := by decide +kernel
@[simp] theorem lit_41 : Str.length (("stop" : Str)) = 4 := by decide +kernel
@[simp] theorem lit_42 : Str.length (("to" : Str)) = 2 := by decide +kernel
@[simp] theorem lit_43 : Str.length (("told" : Str)) = 4 := by decide +kernel
@[simp] theorem lit_44 : Str.length (("turns" : Str)) = 5 := by decide +kernel
@[simp] theorem lit_45 : Str.length (("wall" : Str)) = 4 := by decide +kernel
@[simp] theorem lit_46 : Str.length (("zz9" : Str)) = 3 := by decide +kernel
/-! ### kinds -/
def isIntP : P → Bool
  | .int _ => true
  | _ => false
def between (x : P) (a b : Int) : Bool := match x with
  | .int i => decide (a ≤ i) && decide (i ≤ b)
  | _ => false
def F_is_int : List D → Store → R D := fun ds M => match ds with
  | [.p x] => .ok (.p (.bl (isIntP x))) M
  | _ => .no
def F_is_between : List D → Store → R D := fun ds M => match ds with
  | [.p x, .p (.int a), .p (.int b)] => .ok (.p (.bl (between x a b))) M
  | _ => .no
-- slots: 0:value
noncomputable def m_is_int  : RS :=
  (rRet (rAnd (rIsa "int" (rVar 0)) (rNot (rTst truthD (rIsa "bool" (rVar 0))))))

-- slots: 0:value 1:least 2:greatest
noncomputable def m_is_between  : RS :=
  (rRet (rAnd (rCallN 1 F_is_int (rCons (rVar 0) rNil)) (rChain dLe dLe (rVar 1) (rVar 0) (rVar 2))))

theorem r_is_int : Ref 1 1 F_is_int m_is_int := by
  intro ds M hl
  unfold F_is_int
  split
  · rename_i x
    cases x <;> simp [m_is_int, isIntP, isaT]
  · simp
theorem r_is_between : Ref 3 3 F_is_between m_is_between := by
  intro ds M hl
  unfold F_is_between
  split
  · rename_i x a b
    cases x with
    | int i => by_cases h1 : a ≤ i <;> simp [m_is_between, F_is_int, isIntP, between, h1]
    | _ => simp [m_is_between, F_is_int, isIntP, between]
  · simp
-- slots: 0:value
noncomputable def m_is_bit  : RS :=
  (rRet (rCallN 3 F_is_between (rCons (rVar 0) (rCons (rC (.p (.int 0))) (rCons (rC (.p (.int 1))) rNil)))))

noncomputable def F_is_bit : List D → Store → R D := selfF 1 m_is_bit
theorem r_is_bit : Ref 1 1 F_is_bit m_is_bit := ref_self 1 1 m_is_bit
theorem x_bit (x : P) (M : Store) : F_is_bit [.p x] M = .ok (.p (.bl (between x 0 1))) M := selfF_ok (by simp [m_is_bit, F_is_between]) (by simp)
-- slots: 0:value 1:length
noncomputable def m_is_tuple_of  : RS :=
  (rRet (rAnd (rIsa "tuple" (rVar 0)) (rBin dEq (rCB cLen (rCons (rVar 0) rNil)) (rVar 1))))

noncomputable def F_is_tuple_of : List D → Store → R D := selfF 2 m_is_tuple_of
theorem r_is_tuple_of : Ref 2 2 F_is_tuple_of m_is_tuple_of := ref_self 2 2 m_is_tuple_of
theorem x_tuple_of (xs : List P) (n : Int) (M : Store) : F_is_tuple_of [.p (.tup xs), .p (.int n)] M = .ok (.p (.bl (decide ((xs.length : Int) = n)))) M := selfF_ok (by simp [m_is_tuple_of, isaT]) (by simp)
/-! ### names -/
-- slots: 0:row 1:signs 2:sign
noncomputable def s_is_all_1  : RS :=
  (rRet (rC (.p (.bl false))))
noncomputable def s_is_all_2  : RS :=
  (rIfS (rTst asBool (rBin dNotInX (rVar 2) (rVar 1)))
  s_is_all_1
  rSkip)
noncomputable def s_is_all_3  : RS :=
  (rForW (wStr (rVar 0)) (gNm 2)
  s_is_all_2)
noncomputable def s_is_all_4  : RS :=
  (rRet (rC (.p (.bl true))))
noncomputable def m_is_all  : RS :=
  (rSeq s_is_all_3
  s_is_all_4)

noncomputable def F_is_all : List D → Store → R D := selfF 3 m_is_all
theorem r_is_all : Ref 2 3 F_is_all m_is_all := ref_self 2 3 m_is_all
theorem all_loop (row signs : Str) (M : Store) : ∀ (cs : List Nat) (z : Option D), (cs.all (fun c => decide (c ∈ signs.cps.toList)) = true → ∃ z', forL none (gNm 2) s_is_all_2 (cs.map fun c => D.p (.str ⟨#[c]⟩)) [some (.p (.str row)), some (.p (.str signs)), z] M = .nx [some (.p (.str row)), some (.p (.str signs)), z'] M) ∧
    (cs.all (fun c => decide (c ∈ signs.cps.toList)) = false → forL none (gNm 2) s_is_all_2 (cs.map fun c => D.p (.str ⟨#[c]⟩)) [some (.p (.str row)), some (.p (.str signs)), z] M = .rt (.p (.bl false)) M)
  | [], z => by simp
  | c :: cs, z => by
    obtain ⟨h1, h2⟩ := all_loop row signs M cs (some (.p (.str ⟨#[c]⟩)))
    rw [List.all_cons]
    by_cases hc : c ∈ signs.cps.toList
    · simp only [hc, decide_true, Bool.true_and]
      refine ⟨fun h => ?_, fun h => ?_⟩
      · obtain ⟨z', e⟩ := h1 h
        refine ⟨z', ?_⟩
        rw [← e]
        simp only [List.map_cons, forL0_cons]
        simp [s_is_all_2, s_is_all_1, hc, -forL0_cons, -Array.mem_toList_iff]
      · rw [← h2 h]
        simp only [List.map_cons, forL0_cons]
        simp [s_is_all_2, s_is_all_1, hc, -forL0_cons, -Array.mem_toList_iff]
    · have e : (decide (c ∈ signs.cps.toList) && cs.all (fun c => decide (c ∈ signs.cps.toList))) = false := by simp only [hc, decide_false, Bool.false_and]
      rw [e]
      refine ⟨fun h => (by cases h), fun _ => ?_⟩
      simp only [List.map_cons, forL0_cons]
      simp [s_is_all_2, s_is_all_1, hc, -forL0_cons, -Array.mem_toList_iff]
theorem x_all (row signs : Str) (M : Store) : F_is_all [.p (.str row), .p (.str signs)] M = .ok (.p (.bl (row.cps.toList.all fun c => decide (c ∈ signs.cps.toList)))) M := by
  obtain ⟨h1, h2⟩ := all_loop row signs M row.cps.toList none
  refine selfF_ok ?_ (Nat.le_refl _)
  cases q : row.cps.toList.all fun c => decide (c ∈ signs.cps.toList) with
  | true =>
    obtain ⟨z', e⟩ := h1 q
    simp [m_is_all, s_is_all_3, s_is_all_4, signsD, e]
  | false =>
    have e := h2 q
    simp [m_is_all, s_is_all_3, s_is_all_4, signsD, e]
-- slots: 0:row
noncomputable def m_is_word  : RS :=
  (rRet (rBin dInX (rVar 0) (rC (.p c_WORDS))))

noncomputable def F_is_word : List D → Store → R D := selfF 1 m_is_word
theorem r_is_word : Ref 1 1 F_is_word m_is_word := ref_self 1 1 m_is_word
def wordsS : List Str := ["any", "both", "door", "end", "from", "host", "in", "keeps", "let", "lets", "maps", "net", "open", "ports", "span", "stop", "to", "turns", "wall"]
theorem any_strs (s : Str) : ∀ ws : List Str, ((ws.map P.str).any fun z => P.eqv z (.str s)) = decide (s ∈ ws)
  | [] => rfl
  | w :: ws => by
    rw [List.map_cons, List.any_cons, any_strs s ws, v_eqv_ss]
    by_cases h : w = s
    · subst h; simp
    · have h2 : ¬ s = w := fun e => h e.symm
      simp [h, h2]
theorem x_word (s : Str) (M : Store) : F_is_word [.p (.str s)] M = .ok (.p (.bl (decide (s ∈ wordsS)))) M := by
  have e : dInX (.p (.str s)) (.p c_WORDS) M = some (.p (.bl (decide (s ∈ wordsS))), M) := by
    rw [← any_strs s wordsS]
    exact v_in_t M (.str s) _ (by simp [P.depth])
  exact selfF_ok (by simp [m_is_word, e]) (by simp)
-- slots: 0:row
noncomputable def s_is_small_row_1  : RS :=
  (rRet (rC (.p (.bl false))))
noncomputable def s_is_small_row_2  : RS :=
  (rIfS (rtOr (rTst asBool (rBin dEq (rVar 0) (rC (.p (.str ""))))) (rTst asBool (rBin dNotInX (rBin dIx (rVar 0) (rC (.p (.int 0)))) (rC (.p c_SMALL_LETTERS)))))
  s_is_small_row_1
  rSkip)
noncomputable def s_is_small_row_3  : RS :=
  (rRet (rCallN 2 F_is_all (rCons (rVar 0) (rCons (rBin dAdd (rBin dAdd (rC (.p c_SMALL_LETTERS)) (rC (.p c_DIGITS))) (rC (.p (.str "_")))) rNil))))
noncomputable def m_is_small_row  : RS :=
  (rSeq s_is_small_row_2
  s_is_small_row_3)

noncomputable def F_is_small_row : List D → Store → R D := selfF 1 m_is_small_row
theorem r_is_small_row : Ref 1 1 F_is_small_row m_is_small_row := ref_self 1 1 m_is_small_row
def smallL : List Nat := ("abcdefghijklmnopqrstuvwxyz" : Str).cps.toList
def greatL : List Nat := ("ABCDEFGHIJKLMNOPQRSTUVWXYZ" : Str).cps.toList
def signL : List Nat := (("abcdefghijklmnopqrstuvwxyz" : Str) ++ ("0123456789" : Str) ++ ("_" : Str)).cps.toList
def signG : List Nat := (("abcdefghijklmnopqrstuvwxyz" : Str) ++ ("ABCDEFGHIJKLMNOPQRSTUVWXYZ" : Str) ++ ("0123456789" : Str) ++ ("_" : Str)).cps.toList
/-- a row of signs, the first one of fs -/
structure RowS (fs gs : List Nat) (s : Str) : Prop where
  first : ∃ c r, s.cps.toList = c :: r ∧ c ∈ fs
  all : ∀ c ∈ s.cps.toList, c ∈ gs
  len : s.length ≤ 300
/-- a name -/
structure Nm (s : Str) : Prop extends RowS smallL signL s where
  word : s ∉ wordsS
theorem RowS.ne {fs gs : List Nat} {s : Str} (h : RowS fs gs s) : s ≠ ("" : Str) := by
  rintro rfl
  obtain ⟨c, r, e, _⟩ := h.first
  revert e
  have : ((""  : Str)).cps.toList = [] := by decide +kernel
  rw [this]
  intro e
  cases e
theorem row_ix {fs gs : List Nat} {s : Str} (h : RowS fs gs s) (M : Store) : ∃ c ∈ fs, dIx (.p (.str s)) (.p (.int 0)) M = some (.p (.str ⟨#[c]⟩), M) := by
  obtain ⟨c, r, e, hc⟩ := h.first
  refine ⟨c, hc, ?_⟩
  have h1 : s.length ≤ sizeLine := le_line (by have := h.len; omega)
  simp [dIx, h1, e, atI, ixN]
theorem row_all {fs gs : List Nat} {s : Str} (h : RowS fs gs s) : (s.cps.toList.all fun c => decide (c ∈ gs)) = true := List.all_eq_true.mpr fun c hc => by simpa using h.all c hc
theorem x_small_row {s : Str} (h : RowS smallL signL s) (M : Store) : F_is_small_row [.p (.str s)] M = .ok (.p (.bl true)) M := by
  obtain ⟨c, hc, h1⟩ := row_ix h M
  have h2 := h.ne
  have h3 : dNotInX (.p (.str ⟨#[c]⟩)) (.p c_SMALL_LETTERS) M = some (.p (.bl false), M) := by
    show some (D.p (P.bl (!decide (c ∈ smallL))), M) = _
    simp [hc]
  have h4 : dAdd (.p c_SMALL_LETTERS) (.p c_DIGITS) M = some (.p (.str (("abcdefghijklmnopqrstuvwxyz" : Str) ++ ("0123456789" : Str))), M) := v_adds _ _ M (by decide +kernel)
  have h5 : dAdd (.p (.str (("abcdefghijklmnopqrstuvwxyz" : Str) ++ ("0123456789" : Str)))) (.p (.str "_")) M = some (.p (.str (("abcdefghijklmnopqrstuvwxyz" : Str) ++ ("0123456789" : Str) ++ ("_" : Str))), M) := v_adds _ _ M (by decide +kernel)
  have h6 := x_all s (("abcdefghijklmnopqrstuvwxyz" : Str) ++ ("0123456789" : Str) ++ ("_" : Str)) M
  have h7 : (s.cps.toList.all fun c => decide (c ∈ (("abcdefghijklmnopqrstuvwxyz" : Str) ++ ("0123456789" : Str) ++ ("_" : Str)).cps.toList)) = true := row_all h
  rw [h7] at h6
  exact selfF_ok (by simp [m_is_small_row, s_is_small_row_2, s_is_small_row_3, h1, h2, h3, h4, h5, h6]) (by simp)
-- slots: 0:row
noncomputable def m_is_small_name  : RS :=
  (rRet (rAnd (rCallN 1 F_is_small_row (rCons (rVar 0) rNil)) (rNot (rTst truthD (rCallN 1 F_is_word (rCons (rVar 0) rNil))))))

noncomputable def F_is_small_name : List D → Store → R D := selfF 1 m_is_small_name
theorem r_is_small_name : Ref 1 1 F_is_small_name m_is_small_name := ref_self 1 1 m_is_small_name
theorem x_small_name {s : Str} (h : Nm s) (M : Store) : F_is_small_name [.p (.str s)] M = .ok (.p (.bl true)) M := by
  have h1 := x_small_row h.toRowS M
  have h2 := x_word s M
  have h3 := h.word
  exact selfF_ok (by simp [m_is_small_name, h1, h2, h3]) (by simp)
-- slots: 0:row
noncomputable def s_is_great_name_1  : RS :=
  (rRet (rC (.p (.bl false))))
noncomputable def s_is_great_name_2  : RS :=
  (rIfS (rtOr (rTst asBool (rBin dEq (rVar 0) (rC (.p (.str ""))))) (rTst asBool (rBin dNotInX (rBin dIx (rVar 0) (rC (.p (.int 0)))) (rC (.p c_GREAT_LETTERS)))))
  s_is_great_name_1
  rSkip)
noncomputable def s_is_great_name_3  : RS :=
  (rRet (rCallN 2 F_is_all (rCons (rVar 0) (rCons (rBin dAdd (rBin dAdd (rBin dAdd (rC (.p c_SMALL_LETTERS)) (rC (.p c_GREAT_LETTERS))) (rC (.p c_DIGITS))) (rC (.p (.str "_")))) rNil))))
noncomputable def m_is_great_name  : RS :=
  (rSeq s_is_great_name_2
  s_is_great_name_3)

noncomputable def F_is_great_name : List D → Store → R D := selfF 1 m_is_great_name
theorem r_is_great_name : Ref 1 1 F_is_great_name m_is_great_name := ref_self 1 1 m_is_great_name
theorem x_great_name {s : Str} (h : RowS greatL signG s) (M : Store) : F_is_great_name [.p (.str s)] M = .ok (.p (.bl true)) M := by
  obtain ⟨c, hc, h1⟩ := row_ix h M
  have h2 := h.ne
  have h3 : dNotInX (.p (.str ⟨#[c]⟩)) (.p c_GREAT_LETTERS) M = some (.p (.bl false), M) := by
    show some (D.p (P.bl (!decide (c ∈ greatL))), M) = _
    simp [hc]
  have h4 : dAdd (.p c_SMALL_LETTERS) (.p c_GREAT_LETTERS) M = some (.p (.str (("abcdefghijklmnopqrstuvwxyz" : Str) ++ ("ABCDEFGHIJKLMNOPQRSTUVWXYZ" : Str))), M) := v_adds _ _ M (by decide +kernel)
  have h4b : dAdd (.p (.str (("abcdefghijklmnopqrstuvwxyz" : Str) ++ ("ABCDEFGHIJKLMNOPQRSTUVWXYZ" : Str)))) (.p c_DIGITS) M = some (.p (.str (("abcdefghijklmnopqrstuvwxyz" : Str) ++ ("ABCDEFGHIJKLMNOPQRSTUVWXYZ" : Str) ++ ("0123456789" : Str))), M) := v_adds _ _ M (by decide +kernel)
  have h5 : dAdd (.p (.str (("abcdefghijklmnopqrstuvwxyz" : Str) ++ ("ABCDEFGHIJKLMNOPQRSTUVWXYZ" : Str) ++ ("0123456789" : Str)))) (.p (.str "_")) M = some (.p (.str (("abcdefghijklmnopqrstuvwxyz" : Str) ++ ("ABCDEFGHIJKLMNOPQRSTUVWXYZ" : Str) ++ ("0123456789" : Str) ++ ("_" : Str))), M) := v_adds _ _ M (by decide +kernel)
  have h6 := x_all s (("abcdefghijklmnopqrstuvwxyz" : Str) ++ ("ABCDEFGHIJKLMNOPQRSTUVWXYZ" : Str) ++ ("0123456789" : Str) ++ ("_" : Str)) M
  have h7 : (s.cps.toList.all fun c => decide (c ∈ (("abcdefghijklmnopqrstuvwxyz" : Str) ++ ("ABCDEFGHIJKLMNOPQRSTUVWXYZ" : Str) ++ ("0123456789" : Str) ++ ("_" : Str)).cps.toList)) = true := row_all h
  rw [h7] at h6
  exact selfF_ok (by simp [m_is_great_name, s_is_great_name_2, s_is_great_name_3, h1, h2, h3, h4, h4b, h5, h6]) (by simp)
/-! ### items -/
-- slots: 0:value
noncomputable def m_is_told_name  : RS :=
  (rRet (rAnd (rIsa "str" (rVar 0)) (rCallN 1 F_is_small_name (rCons (rVar 0) rNil))))

noncomputable def F_is_told_name : List D → Store → R D := selfF 1 m_is_told_name
theorem r_is_told_name : Ref 1 1 F_is_told_name m_is_told_name := ref_self 1 1 m_is_told_name
theorem x_told_name {s : Str} (h : Nm s) (M : Store) : F_is_told_name [.p (.str s)] M = .ok (.p (.bl true)) M := by
  have h1 := x_small_name h M
  exact selfF_ok (by simp [m_is_told_name, isaT, h1]) (by simp)
-- slots: 0:value
noncomputable def m_is_told_great  : RS :=
  (rRet (rAnd (rIsa "str" (rVar 0)) (rCallN 1 F_is_great_name (rCons (rVar 0) rNil))))

noncomputable def F_is_told_great : List D → Store → R D := selfF 1 m_is_told_great
theorem r_is_told_great : Ref 1 1 F_is_told_great m_is_told_great := ref_self 1 1 m_is_told_great
theorem x_told_great {s : Str} (h : RowS greatL signG s) (M : Store) : F_is_told_great [.p (.str s)] M = .ok (.p (.bl true)) M := by
  have h1 := x_great_name h M
  exact selfF_ok (by simp [m_is_told_great, isaT, h1]) (by simp)
-- slots: 0:value
noncomputable def m_is_told_number  : RS :=
  (rRet (rCallN 3 F_is_between (rCons (rVar 0) (rCons (rC (.p (.int 0))) (rCons (rC (.p c_TOP)) rNil)))))

noncomputable def F_is_told_number : List D → Store → R D := selfF 1 m_is_told_number
theorem r_is_told_number : Ref 1 1 F_is_told_number m_is_told_number := ref_self 1 1 m_is_told_number
theorem x_told_number (x : P) (M : Store) : F_is_told_number [.p x] M = .ok (.p (.bl (between x 0 99999))) M := selfF_ok (by simp [m_is_told_number, F_is_between, c_TOP]) (by simp)
theorem btw (n : Nat) (k : Int) (h : (n : Int) ≤ k) : between (.int n) 0 k = true := by simp [between, h]
abbrev rgP (r : Nat × Nat) : P := .tup [.int r.1, .int r.2]
def rgOk (r : Nat × Nat) : Prop := r.1 ≤ 99999 ∧ r.2 ≤ 99999
structure Rule where
  bit : Nat
  a : Nat × Nat
  b : Nat × Nat
  c : Nat × Nat
abbrev Rule.toP (r : Rule) : P := .tup [.int r.bit, rgP r.a, rgP r.b, rgP r.c]
structure Rule.Ok (r : Rule) : Prop where
  bit : r.bit ≤ 1
  a : rgOk r.a
  b : rgOk r.b
  c : rgOk r.c
theorem ixt (xs : List P) (i : Nat) (x : P) (M : Store) (h : xs[i]? = some x) : dIx (.p (.tup xs)) (.p (.int i)) M = some (.p x, M) := by
  rw [v_ix_t, atI_nat (by rw [List.getElem?_map, h]; rfl)]
  rfl
-- slots: 0:value
noncomputable def m_is_told_range  : RS :=
  (rRet (rAnd (rCallN 2 F_is_tuple_of (rCons (rVar 0) (rCons (rC (.p (.int 2))) rNil))) (rAnd (rCallN 1 F_is_told_number (rCons (rBin dIx (rVar 0) (rC (.p (.int 0)))) rNil)) (rCallN 1 F_is_told_number (rCons (rBin dIx (rVar 0) (rC (.p (.int 1)))) rNil)))))

noncomputable def F_is_told_range : List D → Store → R D := selfF 1 m_is_told_range
theorem r_is_told_range : Ref 1 1 F_is_told_range m_is_told_range := ref_self 1 1 m_is_told_range
theorem x_told_range (r : Nat × Nat) (h : rgOk r) (M : Store) : F_is_told_range [.p (rgP r)] M = .ok (.p (.bl true)) M := by
  have h1 := x_tuple_of [.int r.1, .int r.2] 2 M
  have h2 := x_told_number (.int r.1) M
  have h3 := x_told_number (.int r.2) M
  rw [btw _ _ (by have := h.1; omega)] at h2
  rw [btw _ _ (by have := h.2; omega)] at h3
  have i0 := ixt [.int r.1, .int r.2] 0 _ M rfl
  have i1 := ixt [.int r.1, .int r.2] 1 _ M rfl
  exact selfF_ok (by simp [m_is_told_range, h1, h2, h3, show dIx (.p (.tup [.int r.1, .int r.2])) (.p (.int 0)) M = _ from i0, show dIx (.p (.tup [.int r.1, .int r.2])) (.p (.int 1)) M = _ from i1, -v_ix_t]) (by simp)
-- slots: 0:value
noncomputable def s_is_told_rule_1  : RS :=
  (rRet (rC (.p (.bl false))))
noncomputable def s_is_told_rule_2  : RS :=
  (rIfS (rtOr (rtNot (rTst truthD (rCallN 2 F_is_tuple_of (rCons (rVar 0) (rCons (rBin dAdd (rC (.p (.int 1))) (rC (.p c_RANGES_OF_A_RULE))) rNil))))) (rtNot (rTst truthD (rCallN 1 F_is_bit (rCons (rBin dIx (rVar 0) (rC (.p (.int 0)))) rNil)))))
  s_is_told_rule_1
  rSkip)
noncomputable def s_is_told_rule_3  : RS :=
  (rRet (rAnd (rCallN 1 F_is_told_range (rCons (rBin dIx (rVar 0) (rC (.p (.int 1)))) rNil)) (rAnd (rCallN 1 F_is_told_range (rCons (rBin dIx (rVar 0) (rC (.p (.int 2)))) rNil)) (rCallN 1 F_is_told_range (rCons (rBin dIx (rVar 0) (rC (.p (.int 3)))) rNil)))))
noncomputable def m_is_told_rule  : RS :=
  (rSeq s_is_told_rule_2
  s_is_told_rule_3)

noncomputable def F_is_told_rule : List D → Store → R D := selfF 1 m_is_told_rule
theorem r_is_told_rule : Ref 1 1 F_is_told_rule m_is_told_rule := ref_self 1 1 m_is_told_rule
theorem x_told_rule (r : Rule) (h : r.Ok) (M : Store) : F_is_told_rule [.p r.toP] M = .ok (.p (.bl true)) M := by
  have h1 := x_tuple_of [.int r.bit, rgP r.a, rgP r.b, rgP r.c] 4 M
  have h2 := x_bit (.int r.bit) M
  rw [btw _ _ (by have := h.bit; omega)] at h2
  have h3 := x_told_range _ h.a M
  have h4 := x_told_range _ h.b M
  have h5 := x_told_range _ h.c M
  have i0 : dIx (.p r.toP) (.p (.int 0)) M = _ := ixt [.int r.bit, rgP r.a, rgP r.b, rgP r.c] 0 _ M rfl
  have i1 : dIx (.p r.toP) (.p (.int 1)) M = _ := ixt [.int r.bit, rgP r.a, rgP r.b, rgP r.c] 1 _ M rfl
  have i2 : dIx (.p r.toP) (.p (.int 2)) M = _ := ixt [.int r.bit, rgP r.a, rgP r.b, rgP r.c] 2 _ M rfl
  have i3 : dIx (.p r.toP) (.p (.int 3)) M = _ := ixt [.int r.bit, rgP r.a, rgP r.b, rgP r.c] 3 _ M rfl
  exact selfF_ok (by simp [m_is_told_rule, s_is_told_rule_1, s_is_told_rule_2, s_is_told_rule_3, c_RANGES_OF_A_RULE, h1, h2, h3, h4, h5, i0, i1, i2, i3, -v_ix_t]) (by simp)
-- slots: 0:value 1:rule
noncomputable def s_are_told_rules_1  : RS :=
  (rRet (rC (.p (.bl false))))
noncomputable def s_are_told_rules_2  : RS :=
  (rRet (rC (.p (.bl false))))
noncomputable def s_are_told_rules_3  : RS :=
  (rIfS (rtNot (rTst truthD (rCallN 1 F_is_told_rule (rCons (rVar 1) rNil))))
  s_are_told_rules_2
  rSkip)
noncomputable def s_are_told_rules_4  : RS :=
  (rIfS (rtNot (rTst truthD (rIsa "tuple" (rVar 0))))
  s_are_told_rules_1
  rSkip)
noncomputable def s_are_told_rules_5  : RS :=
  (rFor (rVar 0) (gNm 1)
  s_are_told_rules_3)
noncomputable def s_are_told_rules_6  : RS :=
  (rRet (rC (.p (.bl true))))
noncomputable def m_are_told_rules  : RS :=
  (rSeq s_are_told_rules_4
  (rSeq s_are_told_rules_5
  s_are_told_rules_6))

noncomputable def F_are_told_rules : List D → Store → R D := selfF 2 m_are_told_rules
theorem r_are_told_rules : Ref 1 2 F_are_told_rules m_are_told_rules := ref_self 1 2 m_are_told_rules
theorem x_told_rules (rs : List Rule) (h : ∀ r ∈ rs, r.Ok) (M : Store) : F_are_told_rules [.p (.tup (rs.map Rule.toP))] M = .ok (.p (.bl true)) M := by
  obtain ⟨z, e⟩ := forL_ok (g := gNm 1) (body := s_are_told_rules_3) (fun z => [some (.p (.tup (rs.map Rule.toP))), z]) M ((rs.map Rule.toP).map D.p) (by
    intro x hx z
    obtain ⟨y, hy, rfl⟩ := List.mem_map.mp hx
    obtain ⟨r, hr, rfl⟩ := List.mem_map.mp hy
    have h1 := x_told_rule r (h r hr) M
    exact ⟨_, some (.p r.toP), rfl, by simp [s_are_told_rules_3, h1]⟩) none
  refine selfF_ok ?_ (Nat.le_refl _)
  simp only [m_are_told_rules, s_are_told_rules_4, s_are_told_rules_5, s_are_told_rules_6]
  simp [isaT, -List.map_map]
  rw [show forL none (gNm 1) s_are_told_rules_3 ((rs.map Rule.toP).map D.p) [some (.p (.tup (rs.map Rule.toP))), none] M = _ from e]
  simp

inductive Item where
  | net (n : Str) | host (n m : Str) | door (n i o : Str) (maps lets low high keeps span both turns : Nat) | opn (d : Str) (p : Nat) (n : Str) (q : Nat) | wall (n : Str) (rs : List Rule)
def Item.toP : Item → P
  | .net n => .tup [.str "net", .str n]
  | .host n m => .tup [.str "host", .str n, .str m]
  | .door n i o maps lets low high keeps span both turns => .tup [.str "door", .str n, .str i, .str o, .int maps, .int lets, .int low, .int high, .int keeps, .int span, .int both, .int turns]
  | .opn d p n q => .tup [.str "open", .str d, .int p, .str n, .int q]
  | .wall n rs => .tup [.str "wall", .str n, .tup (rs.map Rule.toP)]
inductive Item.Ok : Item → Prop where
  | net {n : Str} (h : Nm n) : Item.Ok (.net n)
  | host {n m : Str} (h : Nm n) (k : Nm m) : Item.Ok (.host n m)
  | door {n i o : Str} {maps lets low high keeps span both turns : Nat} (hn : Nm n) (hi : Nm i) (ho : Nm o) (h1 : maps ≤ 99999) (h2 : lets ≤ 99999) (h3 : low ≤ 99999) (h4 : high ≤ 99999) (h5 : keeps ≤ 1) (h6 : span ≤ 99999) (h7 : both ≤ 1) (h8 : turns ≤ 1) : Item.Ok (.door n i o maps lets low high keeps span both turns)
  | opn {d n : Str} {p q : Nat} (hd : Nm d) (hn : Nm n) (hp : p ≤ 99999) (hq : q ≤ 99999) : Item.Ok (.opn d p n q)
  | wall {n : Str} {rs : List Rule} (hn : RowS greatL signG n) (h : ∀ r ∈ rs, r.Ok) : Item.Ok (.wall n rs)
-- slots: 0:item
noncomputable def m_is_net  : RS :=
  (rRet (rCallN 1 F_is_told_name (rCons (rBin dIx (rVar 0) (rC (.p (.int 1)))) rNil)))

noncomputable def F_is_net : List D → Store → R D := selfF 1 m_is_net
theorem r_is_net : Ref 1 1 F_is_net m_is_net := ref_self 1 1 m_is_net
theorem x_is_net {n : Str} (h : Nm n) (M : Store) : F_is_net [.p (Item.toP (.net n))] M = .ok (.p (.bl true)) M := by
  have h1 := x_told_name h M
  exact selfF_ok (by simp [m_is_net, Item.toP, atI, ixN, h1]) (by simp)
-- slots: 0:item
noncomputable def m_is_host  : RS :=
  (rRet (rAnd (rCallN 1 F_is_told_name (rCons (rBin dIx (rVar 0) (rC (.p (.int 1)))) rNil)) (rCallN 1 F_is_told_name (rCons (rBin dIx (rVar 0) (rC (.p (.int 2)))) rNil))))

noncomputable def F_is_host : List D → Store → R D := selfF 1 m_is_host
theorem r_is_host : Ref 1 1 F_is_host m_is_host := ref_self 1 1 m_is_host
theorem x_is_host {n m : Str} (h : Nm n) (k : Nm m) (M : Store) : F_is_host [.p (Item.toP (.host n m))] M = .ok (.p (.bl true)) M := by
  have h1 := x_told_name h M
  have h2 := x_told_name k M
  exact selfF_ok (by simp [m_is_host, Item.toP, atI, ixN, h1, h2]) (by simp)
-- slots: 0:item 1:_ 2:name 3:inner 4:outer 5:maps 6:lets 7:low 8:high 9:keeps 10:span 11:both 12:turns
noncomputable def s_is_door_1  : RS :=
  (rRet (rC (.p (.bl false))))
noncomputable def s_is_door_2  : RS :=
  (rRet (rC (.p (.bl false))))
noncomputable def s_is_door_3  : RS :=
  (rRet (rC (.p (.bl false))))
noncomputable def s_is_door_4  : RS :=
  (rAsg (rVar 0) (gTp 12 (gCo (gNm 1) (gCo (gNm 2) (gCo (gNm 3) (gCo (gNm 4) (gCo (gNm 5) (gCo (gNm 6) (gCo (gNm 7) (gCo (gNm 8) (gCo (gNm 9) (gCo (gNm 10) (gCo (gNm 11) (gCo (gNm 12) gNi))))))))))))))
noncomputable def s_is_door_5  : RS :=
  (rIfS (rtNot (rtAnd (rTst truthD (rCallN 1 F_is_told_name (rCons (rVar 2) rNil))) (rtAnd (rTst truthD (rCallN 1 F_is_told_name (rCons (rVar 3) rNil))) (rTst truthD (rCallN 1 F_is_told_name (rCons (rVar 4) rNil))))))
  s_is_door_1
  rSkip)
noncomputable def s_is_door_6  : RS :=
  (rIfS (rtNot (rtAnd (rTst truthD (rCallN 1 F_is_told_number (rCons (rVar 5) rNil))) (rtAnd (rTst truthD (rCallN 1 F_is_told_number (rCons (rVar 6) rNil))) (rTst truthD (rCallN 1 F_is_told_number (rCons (rVar 10) rNil))))))
  s_is_door_2
  rSkip)
noncomputable def s_is_door_7  : RS :=
  (rIfS (rtNot (rtAnd (rTst truthD (rCallN 1 F_is_told_number (rCons (rVar 7) rNil))) (rTst truthD (rCallN 1 F_is_told_number (rCons (rVar 8) rNil)))))
  s_is_door_3
  rSkip)
noncomputable def s_is_door_8  : RS :=
  (rRet (rAnd (rCallN 1 F_is_bit (rCons (rVar 9) rNil)) (rAnd (rCallN 1 F_is_bit (rCons (rVar 11) rNil)) (rCallN 1 F_is_bit (rCons (rVar 12) rNil)))))
noncomputable def m_is_door  : RS :=
  (rSeq s_is_door_4
  (rSeq s_is_door_5
  (rSeq s_is_door_6
  (rSeq s_is_door_7
  s_is_door_8))))

noncomputable def F_is_door : List D → Store → R D := selfF 13 m_is_door
theorem r_is_door : Ref 1 13 F_is_door m_is_door := ref_self 1 13 m_is_door
theorem x_is_door {n i o : Str} {maps lets low high keeps span both turns : Nat} (h : Item.Ok (.door n i o maps lets low high keeps span both turns)) (M : Store) : F_is_door [.p (Item.toP (.door n i o maps lets low high keeps span both turns))] M = .ok (.p (.bl true)) M := by
  cases h with
  | door hn hi ho h1 h2 h3 h4 h5 h6 h7 h8 =>
    have a1 := x_told_name hn M
    have a2 := x_told_name hi M
    have a3 := x_told_name ho M
    have b1 := x_told_number (.int maps) M
    have b2 := x_told_number (.int lets) M
    have b3 := x_told_number (.int low) M
    have b4 := x_told_number (.int high) M
    have b5 := x_told_number (.int span) M
    have c1 := x_bit (.int keeps) M
    have c2 := x_bit (.int both) M
    have c3 := x_bit (.int turns) M
    rw [btw _ _ (by omega)] at b1 b2 b3 b4 b5 c1 c2 c3
    exact selfF_ok (by simp [m_is_door, s_is_door_4, s_is_door_5, s_is_door_6, s_is_door_7, s_is_door_8, Item.toP, a1, a2, a3, b1, b2, b3, b4, b5, c1, c2, c3]) (by simp)
-- slots: 0:item 1:_ 2:door 3:port 4:name 5:inner_port
noncomputable def s_is_open_1  : RS :=
  (rRet (rC (.p (.bl false))))
noncomputable def s_is_open_2  : RS :=
  (rAsg (rVar 0) (gTp 5 (gCo (gNm 1) (gCo (gNm 2) (gCo (gNm 3) (gCo (gNm 4) (gCo (gNm 5) gNi)))))))
noncomputable def s_is_open_3  : RS :=
  (rIfS (rtNot (rtAnd (rTst truthD (rCallN 1 F_is_told_name (rCons (rVar 2) rNil))) (rTst truthD (rCallN 1 F_is_told_name (rCons (rVar 4) rNil)))))
  s_is_open_1
  rSkip)
noncomputable def s_is_open_4  : RS :=
  (rRet (rAnd (rCallN 1 F_is_told_number (rCons (rVar 3) rNil)) (rCallN 1 F_is_told_number (rCons (rVar 5) rNil))))
noncomputable def m_is_open  : RS :=
  (rSeq s_is_open_2
  (rSeq s_is_open_3
  s_is_open_4))

noncomputable def F_is_open : List D → Store → R D := selfF 6 m_is_open
theorem r_is_open : Ref 1 6 F_is_open m_is_open := ref_self 1 6 m_is_open
theorem x_is_open {d n : Str} {p q : Nat} (hd : Nm d) (hn : Nm n) (hp : p ≤ 99999) (hq : q ≤ 99999) (M : Store) : F_is_open [.p (Item.toP (.opn d p n q))] M = .ok (.p (.bl true)) M := by
  have a1 := x_told_name hd M
  have a2 := x_told_name hn M
  have b1 := x_told_number (.int p) M
  have b2 := x_told_number (.int q) M
  rw [btw _ _ (by omega)] at b1 b2
  exact selfF_ok (by simp [m_is_open, s_is_open_2, s_is_open_3, s_is_open_4, Item.toP, a1, a2, b1, b2]) (by simp)
-- slots: 0:item
noncomputable def m_is_wall  : RS :=
  (rRet (rAnd (rCallN 1 F_is_told_great (rCons (rBin dIx (rVar 0) (rC (.p (.int 1)))) rNil)) (rCallN 1 F_are_told_rules (rCons (rBin dIx (rVar 0) (rC (.p (.int 2)))) rNil))))

noncomputable def F_is_wall : List D → Store → R D := selfF 1 m_is_wall
theorem r_is_wall : Ref 1 1 F_is_wall m_is_wall := ref_self 1 1 m_is_wall
theorem x_is_wall {n : Str} {rs : List Rule} (hn : RowS greatL signG n) (h : ∀ r ∈ rs, r.Ok) (M : Store) : F_is_wall [.p (Item.toP (.wall n rs))] M = .ok (.p (.bl true)) M := by
  have a1 := x_told_great hn M
  have a2 := x_told_rules rs h M
  exact selfF_ok (by simp [m_is_wall, Item.toP, atI, ixN, a1, a2]) (by simp)
-- slots: 0:value 1:kind
noncomputable def s_is_item_1  : RS :=
  (rRet (rC (.p (.bl false))))
noncomputable def s_is_item_2  : RS :=
  (rRet (rC (.p (.bl false))))
noncomputable def s_is_item_3  : RS :=
  (rRet (rCallN 1 F_is_net (rCons (rVar 0) rNil)))
noncomputable def s_is_item_4  : RS :=
  (rRet (rCallN 1 F_is_host (rCons (rVar 0) rNil)))
noncomputable def s_is_item_5  : RS :=
  (rRet (rCallN 1 F_is_door (rCons (rVar 0) rNil)))
noncomputable def s_is_item_6  : RS :=
  (rRet (rCallN 1 F_is_open (rCons (rVar 0) rNil)))
noncomputable def s_is_item_7  : RS :=
  (rIfS (rtOr (rtNot (rTst truthD (rIsa "tuple" (rVar 0)))) (rtOr (rtNot (rTst truthD (rVar 0))) (rtNot (rTst truthD (rIsa "str" (rBin dIx (rVar 0) (rC (.p (.int 0)))))))))
  s_is_item_1
  rSkip)
noncomputable def s_is_item_8  : RS :=
  (rSet 1 (rBin dIx (rVar 0) (rC (.p (.int 0)))))
noncomputable def s_is_item_9  : RS :=
  (rIfS (rtOr (rTst asBool (rBin dNotInX (rVar 1) (rC (.p c_KINDS)))) (rTst asBool (rBin dNe (rCB cLen (rCons (rVar 0) rNil)) (rBin (dTab "LENGTHS" t_LENGTHS) (rC (.gl "LENGTHS")) (rVar 1)))))
  s_is_item_2
  rSkip)
noncomputable def s_is_item_10  : RS :=
  (rIfS (rTst asBool (rBin dEq (rVar 1) (rC (.p (.str "net")))))
  s_is_item_3
  rSkip)
noncomputable def s_is_item_11  : RS :=
  (rIfS (rTst asBool (rBin dEq (rVar 1) (rC (.p (.str "host")))))
  s_is_item_4
  rSkip)
noncomputable def s_is_item_12  : RS :=
  (rIfS (rTst asBool (rBin dEq (rVar 1) (rC (.p (.str "door")))))
  s_is_item_5
  rSkip)
noncomputable def s_is_item_13  : RS :=
  (rIfS (rTst asBool (rBin dEq (rVar 1) (rC (.p (.str "open")))))
  s_is_item_6
  rSkip)
noncomputable def s_is_item_14  : RS :=
  (rRet (rCallN 1 F_is_wall (rCons (rVar 0) rNil)))
noncomputable def m_is_item  : RS :=
  (rSeq s_is_item_7
  (rSeq s_is_item_8
  (rSeq s_is_item_9
  (rSeq s_is_item_10
  (rSeq s_is_item_11
  (rSeq s_is_item_12
  (rSeq s_is_item_13
  s_is_item_14)))))))

noncomputable def F_is_item : List D → Store → R D := selfF 2 m_is_item
theorem r_is_item : Ref 1 2 F_is_item m_is_item := ref_self 1 2 m_is_item
theorem kinds_in : ∀ k ∈ (["net", "host", "door", "open", "wall"] : List Str), ∀ M : Store, dNotInX (.p (.str k)) (.p c_KINDS) M = some (.p (.bl false), M) := by
  intro k hk M
  have h := v_notIn_t M (.str k) ((["net", "host", "door", "open", "wall"] : List Str).map P.str) (by simp [P.depth])
  rw [any_strs, decide_eq_true hk] at h
  exact h
theorem lens (M : Store) : dTab "LENGTHS" t_LENGTHS (.gl "LENGTHS") (.p (.str "net")) M = some (.p (.int 2), M) ∧ dTab "LENGTHS" t_LENGTHS (.gl "LENGTHS") (.p (.str "host")) M = some (.p (.int 3), M) ∧
    dTab "LENGTHS" t_LENGTHS (.gl "LENGTHS") (.p (.str "door")) M = some (.p (.int 12), M) ∧ dTab "LENGTHS" t_LENGTHS (.gl "LENGTHS") (.p (.str "open")) M = some (.p (.int 5), M) ∧ dTab "LENGTHS" t_LENGTHS (.gl "LENGTHS") (.p (.str "wall")) M = some (.p (.int 3), M) := by
  refine ⟨v_tab M _ _ _ _ ?_, v_tab M _ _ _ _ ?_, v_tab M _ _ _ _ ?_, v_tab M _ _ _ _ ?_, v_tab M _ _ _ _ ?_⟩ <;> rfl
theorem x_item (it : Item) (h : it.Ok) (M : Store) : F_is_item [.p it.toP] M = .ok (.p (.bl true)) M := by
  obtain ⟨l1, l2, l3, l4, l5⟩ := lens M
  cases h with
  | net hn =>
    have h1 := x_is_net hn M
    have h2 := kinds_in "net" (by simp) M
    simp only [Item.toP] at h1
    exact selfF_ok (by simp [m_is_item, s_is_item_7, s_is_item_8, s_is_item_9, s_is_item_10, s_is_item_3, Item.toP, isaT, atI, ixN, l1, h1, h2]) (by simp)
  | host hn hm =>
    have h1 := x_is_host hn hm M
    have h2 := kinds_in "host" (by simp) M
    simp only [Item.toP] at h1
    exact selfF_ok (by simp [m_is_item, s_is_item_7, s_is_item_8, s_is_item_9, s_is_item_10, s_is_item_11, s_is_item_4, Item.toP, isaT, atI, ixN, l2, h1, h2, str_lit_eq]) (by simp)
  | door hn hi ho k1 k2 k3 k4 k5 k6 k7 k8 =>
    have h1 := x_is_door (.door hn hi ho k1 k2 k3 k4 k5 k6 k7 k8) M
    have h2 := kinds_in "door" (by simp) M
    simp only [Item.toP] at h1
    exact selfF_ok (by simp [m_is_item, s_is_item_7, s_is_item_8, s_is_item_9, s_is_item_10, s_is_item_11, s_is_item_12, s_is_item_5, Item.toP, isaT, atI, ixN, l3, h1, h2, str_lit_eq]) (by simp)
  | opn hd hn hp hq =>
    have h1 := x_is_open hd hn hp hq M
    have h2 := kinds_in "open" (by simp) M
    simp only [Item.toP] at h1
    exact selfF_ok (by simp [m_is_item, s_is_item_7, s_is_item_8, s_is_item_9, s_is_item_10, s_is_item_11, s_is_item_12, s_is_item_13, s_is_item_6, Item.toP, isaT, atI, ixN, l4, h1, h2, str_lit_eq]) (by simp)
  | wall hn hr =>
    have h1 := x_is_wall hn hr M
    have h2 := kinds_in "wall" (by simp) M
    simp only [Item.toP] at h1
    exact selfF_ok (by simp [m_is_item, s_is_item_7, s_is_item_8, s_is_item_9, s_is_item_10, s_is_item_11, s_is_item_12, s_is_item_13, s_is_item_14, Item.toP, isaT, atI, ixN, l5, h1, h2, str_lit_eq, -List.map_map]) (by simp)

-- slots: 0:value
noncomputable def m_is_row  : RS :=
  (rRet (rIsa2 "list" "tuple" (rVar 0)))

noncomputable def F_is_row : List D → Store → R D := selfF 1 m_is_row
theorem r_is_row : Ref 1 1 F_is_row m_is_row := ref_self 1 1 m_is_row
-- slots: 0:number
noncomputable def m_is_port_number  : RS :=
  (rRet (rChain dLe dLe (rC (.p c_LEAST_PORT)) (rVar 0) (rC (.p c_GREATEST_PORT))))

noncomputable def F_is_port_number : List D → Store → R D := selfF 1 m_is_port_number
theorem r_is_port_number : Ref 1 1 F_is_port_number m_is_port_number := ref_self 1 1 m_is_port_number
theorem x_port_number (i : Int) (M : Store) : F_is_port_number [.p (.int i)] M = .ok (.p (.bl (decide (1 ≤ i) && decide (i ≤ 9999)))) M := by
  refine selfF_ok ?_ (Nat.le_refl _)
  by_cases h : 1 ≤ i <;> simp [m_is_port_number, c_LEAST_PORT, c_GREATEST_PORT, h]
structure Dr where
  (n i o : Str) (m l lo hi ke sp b t : Nat)
def Dr.it (d : Dr) : Item := .door d.n d.i d.o d.m d.l d.lo d.hi d.ke d.sp d.b d.t
abbrev Dr.pp (d : Dr) : P := d.it.toP
structure Dr.Ok (d : Dr) : Prop where
  it : d.it.Ok
  ne : d.i ≠ d.o
structure Dr.Fit (d : Dr) : Prop where
  m : d.m = 1 ∨ d.m = 2 ∨ d.m = 3
  l : d.l = 1 ∨ d.l = 2 ∨ d.l = 3
  lo : 1 ≤ d.lo
  le : d.lo ≤ d.hi
  hi : d.hi ≤ 9999
  sp : d.sp ≤ 99
def mnB (m : Nat) : Bool := decide (m = 1 ∨ m = 2 ∨ m = 3)
theorem mn_notin (m : Nat) (M : Store) : dNotInX (.p (.int m)) (.p c_MANNERS) M = some (.p (.bl (!mnB m)), M) := by
  have h := v_notIn_t M (.int m) [.int 1, .int 2, .int 3] (by simp [P.depth])
  rw [show (.tup [.int 1, .int 2, .int 3] : P) = c_MANNERS from rfl] at h
  rw [h]
  have e : ([P.int 1, P.int 2, P.int 3].any fun z => P.eqv z (.int m)) = mnB m := by
    simp only [List.any_cons, List.any_nil, v_eqv_ii, mnB]
    rw [Bool.eq_iff_iff]
    simp
    omega
  rw [e]
-- slots: 0:door 1:_ 2:maps 3:lets 4:low 5:high 6:span
noncomputable def s_has_fit_numbers_1  : RS :=
  (rRet (rC (.p (.bl false))))
noncomputable def s_has_fit_numbers_2  : RS :=
  (rRet (rC (.p (.bl false))))
noncomputable def s_has_fit_numbers_3  : RS :=
  (rAsg (rVar 0) (gTp 12 (gCo (gNm 1) (gCo (gNm 1) (gCo (gNm 1) (gCo (gNm 1) (gCo (gNm 2) (gCo (gNm 3) (gCo (gNm 4) (gCo (gNm 5) (gCo (gNm 1) (gCo (gNm 6) (gCo (gNm 1) (gCo (gNm 1) gNi))))))))))))))
noncomputable def s_has_fit_numbers_4  : RS :=
  (rIfS (rtOr (rTst asBool (rBin dNotInX (rVar 2) (rC (.p c_MANNERS)))) (rTst asBool (rBin dNotInX (rVar 3) (rC (.p c_MANNERS)))))
  s_has_fit_numbers_1
  rSkip)
noncomputable def s_has_fit_numbers_5  : RS :=
  (rIfS (rtOr (rtNot (rtAnd (rTst truthD (rCallN 1 F_is_port_number (rCons (rVar 4) rNil))) (rTst truthD (rCallN 1 F_is_port_number (rCons (rVar 5) rNil))))) (rTst asBool (rBin dGt (rVar 4) (rVar 5))))
  s_has_fit_numbers_2
  rSkip)
noncomputable def s_has_fit_numbers_6  : RS :=
  (rRet (rBin dLe (rVar 6) (rC (.p c_LONGEST_SPAN))))
noncomputable def m_has_fit_numbers  : RS :=
  (rSeq s_has_fit_numbers_3
  (rSeq s_has_fit_numbers_4
  (rSeq s_has_fit_numbers_5
  s_has_fit_numbers_6)))

noncomputable def F_has_fit_numbers : List D → Store → R D := selfF 7 m_has_fit_numbers
theorem r_has_fit_numbers : Ref 1 7 F_has_fit_numbers m_has_fit_numbers := ref_self 1 7 m_has_fit_numbers
theorem x_fit_good {d : Dr} (h : d.Fit) (M : Store) : F_has_fit_numbers [.p d.pp] M = .ok (.p (.bl true)) M := by
  have a1 := mn_notin d.m M
  have a2 := mn_notin d.l M
  rw [show mnB d.m = true from decide_eq_true h.m] at a1
  rw [show mnB d.l = true from decide_eq_true h.l] at a2
  have b1 := x_port_number d.lo M
  have b2 := x_port_number d.hi M
  have h3 := h.lo; have h4 := h.le; have h5 := h.hi; have h6 := h.sp
  rw [decide_eq_true (by omega : (1 : Int) ≤ d.lo), decide_eq_true (by omega : (d.lo : Int) ≤ 9999)] at b1
  rw [decide_eq_true (by omega : (1 : Int) ≤ d.hi), decide_eq_true (by omega : (d.hi : Int) ≤ 9999)] at b2
  have c1 : ¬ (d.hi : Int) < d.lo := by omega
  have c2 : (d.sp : Int) ≤ 99 := by omega
  refine selfF_ok ?_ (Nat.le_refl _)
  simp [m_has_fit_numbers, s_has_fit_numbers_3, s_has_fit_numbers_4, s_has_fit_numbers_5, s_has_fit_numbers_6, Dr.pp, Dr.it, Item.toP, a1, a2, b1, b2, c1, c2, c_LONGEST_SPAN]
theorem x_fit_m {d : Dr} (h : mnB d.m = false) (M : Store) : F_has_fit_numbers [.p d.pp] M = .ok (.p (.bl false)) M := by
  have a1 := mn_notin d.m M
  rw [h] at a1
  refine selfF_ok ?_ (Nat.le_refl _)
  simp [m_has_fit_numbers, s_has_fit_numbers_3, s_has_fit_numbers_4, s_has_fit_numbers_1, Dr.pp, Dr.it, Item.toP, a1]
theorem x_fit_l {d : Dr} (h0 : mnB d.m = true) (h : mnB d.l = false) (M : Store) : F_has_fit_numbers [.p d.pp] M = .ok (.p (.bl false)) M := by
  have a1 := mn_notin d.m M
  have a2 := mn_notin d.l M
  rw [h0] at a1
  rw [h] at a2
  refine selfF_ok ?_ (Nat.le_refl _)
  simp [m_has_fit_numbers, s_has_fit_numbers_3, s_has_fit_numbers_4, s_has_fit_numbers_1, Dr.pp, Dr.it, Item.toP, a1, a2]
theorem x_fit_lo {d : Dr} (h0 : mnB d.m = true) (h1 : mnB d.l = true) (h : d.lo = 0) (M : Store) : F_has_fit_numbers [.p d.pp] M = .ok (.p (.bl false)) M := by
  have a1 := mn_notin d.m M
  have a2 := mn_notin d.l M
  rw [h0] at a1
  rw [h1] at a2
  have b1 := x_port_number d.lo M
  rw [h] at b1
  refine selfF_ok ?_ (Nat.le_refl _)
  simp [m_has_fit_numbers, s_has_fit_numbers_3, s_has_fit_numbers_4, s_has_fit_numbers_5, s_has_fit_numbers_2, Dr.pp, Dr.it, Item.toP, a1, a2, h, show F_is_port_number [.p (.int 0)] M = .ok (.p (.bl false)) M from by simpa using b1]
-- slots: 0:value
noncomputable def m_is_name  : RS :=
  (rRet (rCallN 1 F_is_told_name (rCons (rVar 0) rNil)))

noncomputable def F_is_name : List D → Store → R D := selfF 1 m_is_name
theorem r_is_name : Ref 1 1 F_is_name m_is_name := ref_self 1 1 m_is_name
-- slots: 0:value
noncomputable def m_is_port  : RS :=
  (rRet (rCallN 3 F_is_between (rCons (rVar 0) (rCons (rC (.p c_LEAST_PORT)) (rCons (rC (.p c_GREATEST_PORT)) rNil)))))

noncomputable def F_is_port : List D → Store → R D := selfF 1 m_is_port
theorem r_is_port : Ref 1 1 F_is_port m_is_port := ref_self 1 1 m_is_port
-- slots: 0:value
noncomputable def m_is_end  : RS :=
  (rRet (rAnd (rCallN 2 F_is_tuple_of (rCons (rVar 0) (rCons (rC (.p (.int 2))) rNil))) (rAnd (rCallN 1 F_is_name (rCons (rBin dIx (rVar 0) (rC (.p (.int 0)))) rNil)) (rCallN 1 F_is_port (rCons (rBin dIx (rVar 0) (rC (.p (.int 1)))) rNil)))))

noncomputable def F_is_end : List D → Store → R D := selfF 1 m_is_end
theorem r_is_end : Ref 1 1 F_is_end m_is_end := ref_self 1 1 m_is_end
-- slots: 0:value
noncomputable def s_is_door_of_a_plan_1  : RS :=
  (rRet (rC (.p (.bl false))))
noncomputable def s_is_door_of_a_plan_2  : RS :=
  (rIfS (rtOr (rtNot (rTst truthD (rCallN 1 F_is_item (rCons (rVar 0) rNil)))) (rTst asBool (rBin dNe (rBin dIx (rVar 0) (rC (.p (.int 0)))) (rC (.p (.str "door"))))))
  s_is_door_of_a_plan_1
  rSkip)
noncomputable def s_is_door_of_a_plan_3  : RS :=
  (rRet (rAnd (rBin dNe (rBin dIx (rVar 0) (rC (.p (.int 2)))) (rBin dIx (rVar 0) (rC (.p (.int 3))))) (rCallN 1 F_has_fit_numbers (rCons (rVar 0) rNil))))
noncomputable def m_is_door_of_a_plan  : RS :=
  (rSeq s_is_door_of_a_plan_2
  s_is_door_of_a_plan_3)

noncomputable def F_is_door_of_a_plan : List D → Store → R D := selfF 1 m_is_door_of_a_plan
theorem r_is_door_of_a_plan : Ref 1 1 F_is_door_of_a_plan m_is_door_of_a_plan := ref_self 1 1 m_is_door_of_a_plan
theorem x_door_of {d : Dr} (h : d.Ok) (b : Bool) (M : Store) (hb : F_has_fit_numbers [.p d.pp] M = .ok (.p (.bl b)) M) : F_is_door_of_a_plan [.p d.pp] M = .ok (.p (.bl b)) M := by
  have h1 := x_item d.it h.it M
  have ne := h.ne
  simp only [Dr.pp, Dr.it, Item.toP] at h1 hb
  refine selfF_ok ?_ (Nat.le_refl _)
  simp [m_is_door_of_a_plan, s_is_door_of_a_plan_2, s_is_door_of_a_plan_3, Dr.pp, Dr.it, Item.toP, h1, hb, atI, ixN, ne]
-- slots: 0:door 1:value 2:port 3:end
noncomputable def s_is_open_of_1  : RS :=
  (rRet (rC (.p (.bl false))))
noncomputable def s_is_open_of_2  : RS :=
  (rIfS (rtNot (rTst truthD (rCallN 2 F_is_tuple_of (rCons (rVar 1) (rCons (rC (.p (.int 2))) rNil)))))
  s_is_open_of_1
  rSkip)
noncomputable def s_is_open_of_3  : RS :=
  (rAsg (rVar 1) (gTp 2 (gCo (gNm 2) (gCo (gNm 3) gNi))))
noncomputable def s_is_open_of_4  : RS :=
  (rRet (rAnd (rCallN 3 F_is_between (rCons (rVar 2) (rCons (rBin dIx (rVar 0) (rC (.p (.int 6)))) (rCons (rBin dIx (rVar 0) (rC (.p (.int 7)))) rNil)))) (rAnd (rCallN 1 F_is_end (rCons (rVar 3) rNil)) (rBin dNe (rBin dIx (rVar 3) (rC (.p (.int 0)))) (rBin dIx (rVar 0) (rC (.p (.int 1))))))))
noncomputable def m_is_open_of  : RS :=
  (rSeq s_is_open_of_2
  (rSeq s_is_open_of_3
  s_is_open_of_4))

noncomputable def F_is_open_of : List D → Store → R D := selfF 4 m_is_open_of
theorem r_is_open_of : Ref 2 4 F_is_open_of m_is_open_of := ref_self 2 4 m_is_open_of
-- slots: 0:door 1:value 2:at 3:row
noncomputable def s_are_opens_of_1  : RS :=
  (rRet (rC (.p (.bl false))))
noncomputable def s_are_opens_of_2  : RS :=
  (rRet (rC (.p (.bl false))))
noncomputable def s_are_opens_of_3  : RS :=
  (rRet (rC (.p (.bl false))))
noncomputable def s_are_opens_of_4  : RS :=
  (rIfS (rtNot (rTst truthD (rCallN 2 F_is_open_of (rCons (rVar 0) (rCons (rVar 3) rNil)))))
  s_are_opens_of_2
  rSkip)
noncomputable def s_are_opens_of_5  : RS :=
  (rIfS (rtAnd (rTst asBool (rBin dGt (rVar 2) (rC (.p (.int 0))))) (rTst asBool (rBin dGe (rBin dIx (rBin dIx (rVar 1) (rBin dSub (rVar 2) (rC (.p (.int 1))))) (rC (.p (.int 0)))) (rBin dIx (rVar 3) (rC (.p (.int 0)))))))
  s_are_opens_of_3
  rSkip)
noncomputable def b_are_opens_of_6  : RS :=
  (rSeq s_are_opens_of_4
  s_are_opens_of_5)
noncomputable def s_are_opens_of_7  : RS :=
  (rIfS (rtOr (rtNot (rTst truthD (rIsa "tuple" (rVar 1)))) (rTst asBool (rBin dGt (rCB cLen (rCons (rVar 1) rNil)) (rC (.p c_MOST_OPENS)))))
  s_are_opens_of_1
  rSkip)
noncomputable def s_are_opens_of_8  : RS :=
  (rForW (wEnumT (rCons (rVar 1) rNil)) (gTp 2 (gCo (gNm 2) (gCo (gNm 3) gNi)))
  b_are_opens_of_6)
noncomputable def s_are_opens_of_9  : RS :=
  (rRet (rC (.p (.bl true))))
noncomputable def m_are_opens_of  : RS :=
  (rSeq s_are_opens_of_7
  (rSeq s_are_opens_of_8
  s_are_opens_of_9))

noncomputable def F_are_opens_of : List D → Store → R D := selfF 4 m_are_opens_of
theorem r_are_opens_of : Ref 2 4 F_are_opens_of m_are_opens_of := ref_self 2 4 m_are_opens_of
theorem x_opens0 (x : P) (M : Store) : F_are_opens_of [.p x, .p (.tup [])] M = .ok (.p (.bl true)) M := by
  refine selfF_ok ?_ (Nat.le_refl _)
  simp [m_are_opens_of, s_are_opens_of_7, s_are_opens_of_8, s_are_opens_of_9, isaT, c_MOST_OPENS, enumD]
-- slots: 0:value
noncomputable def m_is_table  : RS :=
  (rRet (rAnd (rCallN 2 F_is_tuple_of (rCons (rVar 0) (rCons (rC (.p (.int 2))) rNil))) (rAnd (rCallN 1 F_is_door_of_a_plan (rCons (rBin dIx (rVar 0) (rC (.p (.int 0)))) rNil)) (rCallN 2 F_are_opens_of (rCons (rBin dIx (rVar 0) (rC (.p (.int 0)))) (rCons (rBin dIx (rVar 0) (rC (.p (.int 1)))) rNil))))))

noncomputable def F_is_table : List D → Store → R D := selfF 1 m_is_table
theorem r_is_table : Ref 1 1 F_is_table m_is_table := ref_self 1 1 m_is_table
theorem x_table {d : Dr} (h : d.Ok) (ops : P) (b : Bool) (M : Store) (hb : F_has_fit_numbers [.p d.pp] M = .ok (.p (.bl b)) M) (ho : b = true → F_are_opens_of [.p d.pp, .p ops] M = .ok (.p (.bl true)) M) : F_is_table [.p (.tup [d.pp, ops])] M = .ok (.p (.bl b)) M := by
  have h1 := x_door_of h b M hb
  refine selfF_ok ?_ (Nat.le_refl _)
  cases b with
  | false => simp [m_is_table, x_tuple_of, h1, atI, ixN]
  | true =>
    have h2 := ho rfl
    simp [m_is_table, x_tuple_of, h1, h2, atI, ixN]
-- slots: 0:table
noncomputable def m_ports_of  : RS :=
  (rRet (rSl (rBin dIx (rVar 0) (rC (.p (.int 0)))) (rPart (rC (.p (.int 6)))) (rPart (rC (.p (.int 8))))))

noncomputable def F_ports_of : List D → Store → R D := selfF 1 m_ports_of
theorem r_ports_of : Ref 1 1 F_ports_of m_ports_of := ref_self 1 1 m_ports_of
-- slots: 0:value
noncomputable def m_check_table  : RS :=
  (rIfS (rtNot (rTst truthD (rCallN 1 F_is_table (rCons (rVar 0) rNil))))
  (rRaise "BadTable")
  rSkip)

noncomputable def F_check_table : List D → Store → R D := selfF 1 m_check_table
theorem r_check_table : Ref 1 1 F_check_table m_check_table := ref_self 1 1 m_check_table
theorem x_check_good {t : P} {M : Store} (h : F_is_table [.p t] M = .ok (.p (.bl true)) M) : F_check_table [.p t] M = .ok (.p .non) M := selfF_ok (by simp [m_check_table, h]) (Nat.le_refl _)
theorem x_check_bad {t : P} {M : Store} (h : F_is_table [.p t] M = .ok (.p (.bl false)) M) : F_check_table [.p t] M = .ex "BadTable" none M := selfF_ex (by simp [m_check_table, h]) (Nat.le_refl _)
-- slots: 0:inner 1:outer 2:maps 3:lets 4:one 5:other
noncomputable def s_strictest_1  : RS :=
  (rExpr (rCallN 1 F_check_table (rCons (rVar 0) rNil)))
noncomputable def s_strictest_2  : RS :=
  (rExpr (rCallN 1 F_check_table (rCons (rVar 1) rNil)))
noncomputable def s_strictest_3  : RS :=
  (rPar 4 5 (rCons (rBin dIx (rVar 0) (rC (.p (.int 0)))) (rCons (rBin dIx (rVar 1) (rC (.p (.int 0)))) rNil)))
noncomputable def s_strictest_4  : RS :=
  (rSet 2 (rCB cMax2 (rCons (rBin dIx (rVar 4) (rC (.p c_MAPS))) (rCons (rBin dIx (rVar 5) (rC (.p c_MAPS))) rNil))))
noncomputable def s_strictest_5  : RS :=
  (rSet 3 (rCB cMax2 (rCons (rBin dIx (rVar 4) (rC (.p c_LETS))) (rCons (rBin dIx (rVar 5) (rC (.p c_LETS))) rNil))))
noncomputable def s_strictest_6  : RS :=
  (rRet (rTup (rCons (rBin dAdd (rBin dAdd (rSl (rVar 5) rNoPart (rPart (rC (.p c_MAPS)))) (rTup (rCons (rVar 2) (rCons (rVar 3) rNil)))) (rSl (rVar 5) (rPart (rBin dAdd (rC (.p c_LETS)) (rC (.p (.int 1))))) rNoPart)) (rCons (rTup rNil) rNil))))
noncomputable def m_strictest  : RS :=
  (rSeq s_strictest_1
  (rSeq s_strictest_2
  (rSeq s_strictest_3
  (rSeq s_strictest_4
  (rSeq s_strictest_5
  s_strictest_6)))))

noncomputable def F_strictest : List D → Store → R D := selfF 6 m_strictest
theorem r_strictest : Ref 2 6 F_strictest m_strictest := ref_self 2 6 m_strictest
def one (x y : Dr) : Dr := { y with m := max x.m y.m, l := max x.l y.l }
def Dr.T (d : Dr) : P := .tup [d.pp, .tup []]
theorem cmax (i j : Nat) (M : Store) : cMax2 [.p (.int i), .p (.int j)] M = some (.p (.int (max i j : Nat)), M) := by
  show some (D.p (P.int (if (j : Int) > i then (j : Int) else i)), M) = _
  rw [show (if (j : Int) > i then (j : Int) else i) = ((max i j : Nat) : Int) from by split <;> omega]
theorem cmin (i j : Nat) (M : Store) : cMin2 [.p (.int i), .p (.int j)] M = some (.p (.int (min i j : Nat)), M) := by
  show some (D.p (P.int (if (j : Int) < i then (j : Int) else i)), M) = _
  rw [show (if (j : Int) < i then (j : Int) else i) = ((min i j : Nat) : Int) from by split <;> omega]
structure Dr.Good (d : Dr) : Prop where
  ok : d.Ok
  fit : d.Fit
theorem x_good {d : Dr} (h : d.Good) (M : Store) : F_check_table [.p d.T] M = .ok (.p .non) M :=
  x_check_good (x_table h.ok _ true M (x_fit_good h.fit M) fun _ => x_opens0 _ M)
theorem x_strictest {x y : Dr} (hx : x.Good) (hy : y.Good) (M : Store) : F_strictest [.p x.T, .p y.T] M = .ok (.p (one x y).T) M := by
  have g1 := x_good hx M
  have g2 := x_good hy M
  have m1 := cmax x.m y.m M
  have m2 := cmax x.l y.l M
  refine selfF_ok ?_ (Nat.le_refl _)
  simp only [Dr.T, Dr.pp, Dr.it, Item.toP] at g1 g2
  have e4 : dSl (.p y.pp) none (some 4) M = some (.p (.tup [.str "door", .str y.n, .str y.i, .str y.o]), M) := rfl
  have e6 : dSl (.p y.pp) (some 6) none M = some (.p (.tup [.int y.lo, .int y.hi, .int y.ke, .int y.sp, .int y.b, .int y.t]), M) := rfl
  have ad : ∀ (xs ys : List P), xs.length + ys.length ≤ 100 → dAdd (.p (.tup xs)) (.p (.tup ys)) M = some (.p (.tup (xs ++ ys)), M) := fun xs ys h => if_pos (le_line (by omega))
  simp only [Dr.pp, Dr.it, Item.toP] at e4 e6
  have a1 := ad [.str "door", .str y.n, .str y.i, .str y.o] [.int (max x.m y.m : Nat), .int (max x.l y.l : Nat)] (by simp)
  have a2 := ad [.str "door", .str y.n, .str y.i, .str y.o, .int (max x.m y.m : Nat), .int (max x.l y.l : Nat)] [.int y.lo, .int y.hi, .int y.ke, .int y.sp, .int y.b, .int y.t] (by simp)
  simp only [List.cons_append, List.nil_append] at a1 a2
  simp only [m_strictest, s_strictest_1, s_strictest_2, s_strictest_3, s_strictest_4, s_strictest_5, s_strictest_6, Dr.T, Dr.pp, Dr.it, Item.toP, one]
  simp [g1, g2, atI, ixN, c_MAPS, c_LETS, m1, m2, asPart, e4, e6, a1, a2, mkTup, allP]
-- slots: 0:one 1:other
noncomputable def s_is_stricter_1  : RS :=
  (rExpr (rCallN 1 F_check_table (rCons (rVar 0) rNil)))
noncomputable def s_is_stricter_2  : RS :=
  (rExpr (rCallN 1 F_check_table (rCons (rVar 1) rNil)))
noncomputable def s_is_stricter_3  : RS :=
  (rRet (rAnd (rBin dGe (rBin dIx (rBin dIx (rVar 0) (rC (.p (.int 0)))) (rC (.p c_MAPS))) (rBin dIx (rBin dIx (rVar 1) (rC (.p (.int 0)))) (rC (.p c_MAPS)))) (rBin dGe (rBin dIx (rBin dIx (rVar 0) (rC (.p (.int 0)))) (rC (.p c_LETS))) (rBin dIx (rBin dIx (rVar 1) (rC (.p (.int 0)))) (rC (.p c_LETS))))))
noncomputable def m_is_stricter  : RS :=
  (rSeq s_is_stricter_1
  (rSeq s_is_stricter_2
  s_is_stricter_3))

noncomputable def F_is_stricter : List D → Store → R D := selfF 2 m_is_stricter
theorem r_is_stricter : Ref 2 2 F_is_stricter m_is_stricter := ref_self 2 2 m_is_stricter
theorem x_stricter {x y : Dr} (hx : x.Good) (hy : y.Good) (M : Store) : F_is_stricter [.p x.T, .p y.T] M = .ok (.p (.bl (decide (y.m ≤ x.m) && decide (y.l ≤ x.l)))) M := by
  have g1 := x_good hx M
  have g2 := x_good hy M
  refine selfF_ok ?_ (Nat.le_refl _)
  simp only [Dr.T, Dr.pp, Dr.it, Item.toP] at g1 g2
  by_cases h : y.m ≤ x.m <;> simp [m_is_stricter, s_is_stricter_1, s_is_stricter_2, s_is_stricter_3, Dr.T, Dr.pp, Dr.it, Item.toP, g1, g2, atI, ixN, c_MAPS, c_LETS, h]
-- slots: 0:table 1:door 2:opens 3:low 4:high
noncomputable def s_check_plain_1  : RS :=
  (rRaise "BadTable")
noncomputable def s_check_plain_2  : RS :=
  (rRaise "BadTable")
noncomputable def s_check_plain_3  : RS :=
  (rExpr (rCallN 1 F_check_table (rCons (rVar 0) rNil)))
noncomputable def s_check_plain_4  : RS :=
  (rAsg (rVar 0) (gTp 2 (gCo (gNm 1) (gCo (gNm 2) gNi))))
noncomputable def s_check_plain_5  : RS :=
  (rAsg (rCallN 1 F_ports_of (rCons (rVar 0) rNil)) (gTp 2 (gCo (gNm 3) (gCo (gNm 4) gNi))))
noncomputable def s_check_plain_6  : RS :=
  (rIfS (rtOr (rTst asBool (rBin dNe (rBin dIx (rVar 1) (rC (.p c_SPAN))) (rC (.p (.int 0))))) (rtOr (rTst truthD (rBin dIx (rVar 1) (rC (.p c_KEEPS)))) (rTst truthD (rVar 2))))
  s_check_plain_1
  rSkip)
noncomputable def s_check_plain_7  : RS :=
  (rIfS (rTst asBool (rBin dLt (rBin dAdd (rBin dSub (rVar 4) (rVar 3)) (rC (.p (.int 1)))) (rC (.p c_LEAST_PORTS))))
  s_check_plain_2
  rSkip)
noncomputable def m_check_plain  : RS :=
  (rSeq s_check_plain_3
  (rSeq s_check_plain_4
  (rSeq s_check_plain_5
  (rSeq s_check_plain_6
  s_check_plain_7))))

noncomputable def F_check_plain : List D → Store → R D := selfF 5 m_check_plain
theorem r_check_plain : Ref 1 5 F_check_plain m_check_plain := ref_self 1 5 m_check_plain
structure Dr.Plain (d : Dr) : Prop extends Dr.Good d where
  sp0 : d.sp = 0
  ke0 : d.ke = 0
  nine : d.lo + 8 ≤ d.hi
theorem x_ports {d : Dr} (ops : P) (M : Store) : F_ports_of [.p (.tup [d.pp, ops])] M = .ok (.p (.tup [.int d.lo, .int d.hi])) M := by
  refine selfF_ok ?_ (Nat.le_refl _)
  have e : dSl (.p d.pp) (some 6) (some 8) M = some (.p (.tup [.int d.lo, .int d.hi]), M) := rfl
  simp only [Dr.pp, Dr.it, Item.toP] at e
  simp [m_ports_of, Dr.pp, Dr.it, Item.toP, atI, ixN, asPart, e]
theorem x_plain {d : Dr} (h : d.Plain) (M : Store) : F_check_plain [.p d.T] M = .ok (.p .non) M := by
  have g1 := x_good h.toGood M
  have g2 := x_ports (d := d) (.tup []) M
  have n9 := h.nine
  refine selfF_ok ?_ (Nat.le_refl _)
  simp [Dr.T, Dr.pp, Dr.it, Item.toP, h.sp0, h.ke0] at g1 g2
  have c1 : ¬ ((d.hi : Int) - d.lo + 1 < 9) := by omega
  simp [m_check_plain, s_check_plain_3, s_check_plain_4, s_check_plain_5, s_check_plain_6, s_check_plain_7, Dr.T, Dr.pp, Dr.it, Item.toP, g1, g2, atI, ixN, c_SPAN, c_KEEPS, c_LEAST_PORTS, h.sp0, h.ke0, c1]
-- slots: 0:tables 1:table
noncomputable def s_check_row_of_doors_1  : RS :=
  (rRaise "BadTable")
noncomputable def s_check_row_of_doors_2  : RS :=
  (rExpr (rCallN 1 F_check_plain (rCons (rVar 1) rNil)))
noncomputable def s_check_row_of_doors_3  : RS :=
  (rIfS (rtOr (rtNot (rTst truthD (rCallN 1 F_is_row (rCons (rVar 0) rNil)))) (rtNot (rTst asBool (rChain dLe dLe (rC (.p (.int 1))) (rCB cLen (rCons (rVar 0) rNil)) (rC (.p c_MOST_JOINED))))))
  s_check_row_of_doors_1
  rSkip)
noncomputable def s_check_row_of_doors_4  : RS :=
  (rFor (rVar 0) (gNm 1)
  s_check_row_of_doors_2)
noncomputable def m_check_row_of_doors  : RS :=
  (rSeq s_check_row_of_doors_3
  s_check_row_of_doors_4)

noncomputable def F_check_row_of_doors : List D → Store → R D := selfF 2 m_check_row_of_doors
theorem r_check_row_of_doors : Ref 1 2 F_check_row_of_doors m_check_row_of_doors := ref_self 1 2 m_check_row_of_doors
-- slots: 0:inner 1:outer 2:maps 3:lets 4:outer_maps 5:outer_lets
noncomputable def s_do_as_one_1  : RS :=
  (rPar 2 3 (rCons (rBin dIx (rBin dIx (rVar 0) (rC (.p (.int 0)))) (rC (.p c_MAPS))) (rCons (rBin dIx (rBin dIx (rVar 0) (rC (.p (.int 0)))) (rC (.p c_LETS))) rNil)))
noncomputable def s_do_as_one_2  : RS :=
  (rPar 4 5 (rCons (rBin dIx (rBin dIx (rVar 1) (rC (.p (.int 0)))) (rC (.p c_MAPS))) (rCons (rBin dIx (rBin dIx (rVar 1) (rC (.p (.int 0)))) (rC (.p c_LETS))) rNil)))
noncomputable def s_do_as_one_3  : RS :=
  (rRet (rOr (rBin dLe (rVar 4) (rVar 2)) (rOr (rBin dLe (rVar 3) (rVar 2)) (rBin dGe (rVar 5) (rCB cMin2 (rCons (rVar 3) (rCons (rVar 4) rNil)))))))
noncomputable def m_do_as_one  : RS :=
  (rSeq s_do_as_one_1
  (rSeq s_do_as_one_2
  s_do_as_one_3))

noncomputable def F_do_as_one : List D → Store → R D := selfF 6 m_do_as_one
theorem r_do_as_one : Ref 2 6 F_do_as_one m_do_as_one := ref_self 2 6 m_do_as_one
def alike (x y : Dr) : Bool := decide (y.m ≤ x.m) || (decide (x.l ≤ x.m) || decide (min x.l y.m ≤ y.l))
theorem x_as_one (x y : Dr) (M : Store) : F_do_as_one [.p x.T, .p y.T] M = .ok (.p (.bl (alike x y))) M := by
  have m1 := cmin x.l y.m M
  refine selfF_ok ?_ (Nat.le_refl _)
  by_cases h1 : y.m ≤ x.m <;> by_cases h2 : x.l ≤ x.m <;> simp [m_do_as_one, s_do_as_one_1, s_do_as_one_2, s_do_as_one_3, Dr.T, Dr.pp, Dr.it, Item.toP, atI, ixN, c_MAPS, c_LETS, m1, alike, h1, h2] <;> omega

/-! ### rows of tables -/
def toL (ts : List Dr) : List D := ts.map fun t => .p t.T
@[simp] theorem toL_len (ts : List Dr) : (toL ts).length = ts.length := by simp [toL]
theorem toL_get {ts : List Dr} {k : Nat} {x : Dr} (h : ts[k]? = some x) : (toL ts)[k]? = some (.p x.T) := by simp [toL, h]
def alikeAt (ts : List Dr) (k : Nat) : Bool := match ts[k]?, ts[k + 1]? with
  | some x, some y => alike x y
  | _, _ => false
def firstK (ts : List Dr) : Option Nat := (List.range (ts.length - 1)).find? (alikeAt ts)
def stepK (ts : List Dr) (k : Nat) : List Dr := match ts[k]?, ts[k + 1]? with
  | some x, some y => ts.take k ++ [one x y] ++ ts.drop (k + 2)
  | _, _ => ts
def stepF (ts : List Dr) : List Dr := match firstK ts with
  | none => ts
  | some k => stepK ts k
def joinN : Nat → List Dr → List Dr
  | 0, ts => ts
  | n + 1, ts => joinN n (stepF ts)
def joinAll (ts : List Dr) : List Dr := joinN ts.length ts
theorem firstK_lt {ts : List Dr} {k : Nat} (h : firstK ts = some k) : k + 1 < ts.length := by
  have h1 := List.mem_of_find?_eq_some h
  have := List.mem_range.mp h1
  omega
theorem stepF_none {ts : List Dr} (h : firstK ts = none) : stepF ts = ts := by unfold stepF; rw [h]
theorem stepF_some {ts : List Dr} {k : Nat} (h : firstK ts = some k) : ∃ x y, ts[k]? = some x ∧ ts[k + 1]? = some y ∧ stepF ts = ts.take k ++ [one x y] ++ ts.drop (k + 2) := by
  have h1 := firstK_lt h
  refine ⟨ts[k], ts[k + 1], List.getElem?_eq_getElem _, List.getElem?_eq_getElem h1, ?_⟩
  unfold stepF stepK
  rw [h]
  simp only [List.getElem?_eq_getElem h1, List.getElem?_eq_getElem (show k < ts.length by omega)]
theorem stepF_len {ts : List Dr} {k : Nat} (h : firstK ts = some k) : (stepF ts).length + 1 = ts.length := by
  obtain ⟨x, y, _, _, e⟩ := stepF_some h
  have h1 := firstK_lt h
  rw [e]
  simp
  omega
theorem joinN_none {ts : List Dr} (h : firstK ts = none) : ∀ n, joinN n ts = ts
  | 0 => rfl
  | n + 1 => by rw [joinN, stepF_none h, joinN_none h n]
theorem joinAll_none {ts : List Dr} (h : firstK ts = none) : joinAll ts = ts := joinN_none h _
theorem joinAll_some {ts : List Dr} {k : Nat} (h : firstK ts = some k) : joinAll (stepF ts) = joinAll ts := by
  unfold joinAll
  have h1 := stepF_len h
  rw [← h1, joinN]
theorem joinN_succ : ∀ (n : Nat) (ts : List Dr), joinN (n + 1) ts = stepF (joinN n ts)
  | 0, ts => rfl
  | n + 1, ts => by rw [joinN, joinN_succ n (stepF ts)]; rfl
/-- what all tables keep -/
theorem stepF_all {ts : List Dr} {C : Dr → Prop} (h : ∀ t ∈ ts, C t) (ho : ∀ x y, C x → C y → C (one x y)) : ∀ t ∈ stepF ts, C t := by
  cases q : firstK ts with
  | none => rw [stepF_none q]; exact h
  | some k =>
    obtain ⟨x, y, e1, e2, e⟩ := stepF_some q
    rw [e]
    intro t ht
    simp only [List.mem_append, List.mem_singleton] at ht
    rcases ht with (ht | rfl) | ht
    · exact h t (List.mem_of_mem_take ht)
    · exact ho _ _ (h _ (List.mem_of_getElem? e1)) (h _ (List.mem_of_getElem? e2))
    · exact h t (List.mem_of_mem_drop ht)
theorem joinN_all {C : Dr → Prop} (ho : ∀ x y, C x → C y → C (one x y)) : ∀ (n : Nat) (ts : List Dr), (∀ t ∈ ts, C t) → ∀ t ∈ joinN n ts, C t
  | 0, ts, h => h
  | n + 1, ts, h => joinN_all ho n _ (stepF_all h ho)
theorem one_plain {x y : Dr} (hx : x.Plain) (hy : y.Plain) : (one x y).Plain := by
  have e1 := hx.fit.m; have e2 := hx.fit.l; have e3 := hy.fit.m; have e4 := hy.fit.l
  have ok : (one x y).Ok := by
    refine ⟨?_, hy.ok.ne⟩
    have h := hy.ok.it
    unfold Dr.it at h ⊢
    cases h with
    | door hn hi ho h1 h2 h3 h4 h5 h6 h7 h8 => exact .door hn hi ho (by simp [one]; omega) (by simp [one]; omega) h3 h4 h5 h6 h7 h8
  exact ⟨⟨ok, ⟨by simp [one]; omega, by simp [one]; omega, hy.fit.lo, hy.fit.le, hy.fit.hi, hy.fit.sp⟩⟩, hy.sp0, hy.ke0, hy.nine⟩
-- slots: 0:tables 1:number
noncomputable def s_first_pair_1  : RS :=
  (rRet (rVar 1))
noncomputable def s_first_pair_2  : RS :=
  (rIfS (rTst truthD (rCallN 2 F_do_as_one (rCons (rBin dIx (rVar 0) (rVar 1)) (rCons (rBin dIx (rVar 0) (rBin dAdd (rVar 1) (rC (.p (.int 1))))) rNil))))
  s_first_pair_1
  rSkip)
noncomputable def s_first_pair_3  : RS :=
  (rForR rng1 (rCons (rBin dSub (rCB cLen (rCons (rVar 0) rNil)) (rC (.p (.int 1)))) rNil) (gNm 1)
  s_first_pair_2)
noncomputable def s_first_pair_4  : RS :=
  (rRet (rC (.p .non)))
noncomputable def m_first_pair  : RS :=
  (rSeq s_first_pair_3
  s_first_pair_4)

noncomputable def F_first_pair : List D → Store → R D := selfF 2 m_first_pair
theorem r_first_pair : Ref 1 2 F_first_pair m_first_pair := ref_self 1 2 m_first_pair
def numK : Option Nat → D
  | some k => .p (.int (k : Nat))
  | none => .p .non
@[simp] theorem numK_some (k : Nat) : numK (some k) = .p (.int k) := rfl
@[simp] theorem numK_none : numK none = .p .non := rfl
theorem firstK_some {ts : List Dr} {k : Nat} (h : alikeAt ts k = true) (hk : k < ts.length - 1) (hj : ∀ j, j < k → alikeAt ts j = false) : firstK ts = some k :=
  List.find?_range_eq_some.mpr ⟨h, List.mem_range.mpr hk, fun j h => by rw [hj j h]; rfl⟩
theorem firstK_none {ts : List Dr} (hj : ∀ j, j < ts.length - 1 → alikeAt ts j = false) : firstK ts = none :=
  List.find?_eq_none.mpr fun x hx => by rw [hj x (List.mem_range.mp hx)]; simp
theorem alike_at {ts : List Dr} {k : Nat} {x y : Dr} (h1 : ts[k]? = some x) (h2 : ts[k + 1]? = some y) : alikeAt ts k = alike x y := by
  unfold alikeAt
  rw [h1, h2]
theorem x_first (l : Nat) (ts : List Dr) (M : Store) (h : M[l]? = some (.lst (toL ts))) (hl : ts.length ≤ 100) (h1 : 1 ≤ ts.length) : F_first_pair [.ref l] M = .ok (numK (firstK ts)) M := by
  have e0 := v_len_l l _ M h
  rw [toL_len] at e0
  have er := rng1_len (ts.length - 1) (by omega)
  have en : ((ts.length : Nat) : Int) - 1 = ((ts.length - 1 : Nat) : Int) := by omega
  have key := forL_find (k := none) (g := gNm 1) (body := s_first_pair_2) (intsD 0 (ts.length - 1)) (fun i ρ M' => M' = M ∧ ∃ z, ρ = [some (.ref l), z] ∧ ∀ j, j < i → alikeAt ts j = false)
    (fun o => (∃ k : Nat, o = .rt (.p (.int k)) M ∧ firstK ts = some k) ∨ ∃ z, o = .nx [some (.ref l), z] M ∧ firstK ts = none) (fun _ _ _ _ => True.intro) (by
      rintro i x ρ M1 hx ⟨rfl, z, rfl, hj⟩
      have hi : i < ts.length - 1 := by
        have := (List.getElem?_eq_some_iff.mp hx).1
        rw [intsD_len] at this
        exact this
      rw [intsD_get 0 _ i hi] at hx
      cases hx
      rw [Int.zero_add]
      have g1 := List.getElem?_eq_getElem (show i < ts.length by omega)
      have g2 := List.getElem?_eq_getElem (show i + 1 < ts.length by omega)
      have i1 := v_ix_l l _ i _ M1 h (toL_get g1)
      have i2 := v_ix_l l _ (i + 1) _ M1 h (toL_get g2)
      have ec : ((i + 1 : Nat) : Int) = (i : Int) + 1 := by omega
      rw [ec] at i2
      have a1 := x_as_one ts[i] ts[i + 1] M1
      rw [← alike_at g1 g2] at a1
      refine ⟨_, _, rfl, ?_⟩
      cases q : alikeAt ts i with
      | true =>
        rw [q] at a1
        refine .inr (.inr (.inl ⟨.p (.int (i : Nat)), M1, ?_, .inl ⟨i, rfl, firstK_some q hi hj⟩⟩))
        simp [s_first_pair_2, s_first_pair_1, i1, i2, a1]
      | false =>
        rw [q] at a1
        refine .inl ⟨_, M1, .inl ?_, rfl, some (.p (.int (i : Nat))), rfl, fun j hj2 => ?_⟩
        · simp [s_first_pair_2, i1, i2, a1]
        · by_cases e : j = i
          · rw [e]; exact q
          · exact hj j (by omega)) (by
      rintro ρ M1 ⟨rfl, z, rfl, hj⟩
      rw [intsD_len] at hj
      exact .inr ⟨z, rfl, firstK_none hj⟩) (ρ := [some (.ref l), none]) (M := M) ⟨rfl, none, rfl, fun j hj => absurd hj (Nat.not_lt_zero j)⟩
  refine selfF_ok ?_ (Nat.le_refl _)
  rcases key with ⟨k, e, f⟩ | ⟨z, e, f⟩
  · rw [f]
    simp [m_first_pair, s_first_pair_3, s_first_pair_4, e0, en, er, e]
  · rw [f]
    simp [m_first_pair, s_first_pair_3, s_first_pair_4, e0, en, er, e]

/-- a tuple or a list of tables -/
def RowIs (d : D) (ts : List P) (M : Store) : Prop := d = .p (.tup ts) ∨ ∃ l, d = .ref l ∧ M[l]? = some (.lst (ts.map D.p))
theorem RowIs.len {d : D} {ts : List P} {M : Store} (h : RowIs d ts M) : cLen [d] M = some (.p (.int (ts.length : Nat)), M) := by
  rcases h with rfl | ⟨l, rfl, h⟩
  · simp [cLen, lenD]
  · rw [v_len_l l _ M h, List.length_map]
theorem RowIs.walk {d : D} {ts : List P} {M : Store} (h : RowIs d ts M) : ∃ k, walkD d M = some (ts.map D.p, k) ∧ chk k M := by
  rcases h with rfl | ⟨l, rfl, h⟩
  · exact ⟨none, rfl, trivial⟩
  · exact ⟨_, walk_ref l _ M h, h⟩
theorem RowIs.list {d : D} {ts : List P} {M : Store} (h : RowIs d ts M) : cList [d] M = some (.ref M.length, M ++ [.lst (ts.map D.p)]) := by
  rcases h with rfl | ⟨l, rfl, h⟩
  · rfl
  · simp [cList, rowD, h]
theorem x_is_row {d : D} {ts : List P} {M : Store} (h : RowIs d ts M) : F_is_row [d] M = .ok (.p (.bl true)) M := by
  refine selfF_ok ?_ (Nat.le_refl _)
  rcases h with rfl | ⟨l, rfl, h⟩
  · simp [m_is_row, cIsa2, tyD, isaT]
  · simp [m_is_row, cIsa2, tyD, isaT, h]
theorem x_check_row {d : D} {ts : List Dr} {M : Store} (hr : RowIs d (ts.map Dr.T) M) (h1 : 1 ≤ ts.length) (h6 : ts.length ≤ 6) (hg : ∀ t ∈ ts, t.Plain) : F_check_row_of_doors [d] M = .ok (.p .non) M := by
  have e0 := hr.len
  obtain ⟨k, e1, ck⟩ := hr.walk
  have e2 := x_is_row hr
  rw [List.length_map] at e0
  have c1 : (1 : Int) ≤ ((ts.length : Nat) : Int) := by omega
  have c2 : ((ts.length : Nat) : Int) ≤ 6 := by omega
  obtain ⟨ρ', M', k1, z, k2, rfl⟩ := forL_inv (k := k) (g := gNm 1) (body := s_check_row_of_doors_2) ((ts.map Dr.T).map D.p) (fun i ρ M' => ∃ z, ρ = [some d, z] ∧ M' = M) (fun i ρ M' ⟨_, _, e⟩ => by rw [e]; exact ck) (by
      rintro i x ρ M1 hx ⟨z, rfl, rfl⟩
      have hm := List.mem_of_getElem? hx
      obtain ⟨y, hy, rfl⟩ := List.mem_map.mp hm
      obtain ⟨t, ht, rfl⟩ := List.mem_map.mp hy
      have p1 := x_plain (hg t ht) M1
      exact ⟨_, _, _, _, rfl, .inl (by simp [s_check_row_of_doors_2, p1]), some (.p t.T), rfl, rfl⟩) (ρ := [some d, none]) (M := M) ⟨none, rfl, rfl⟩
  refine selfF_ok ?_ (Nat.le_refl _)
  simp [m_check_row_of_doors, s_check_row_of_doors_3, s_check_row_of_doors_4, e0, e2, c1, c2, c_MOST_JOINED, e1, k1, -List.map_map]
-- slots: 0:tables 1:left 2:number
noncomputable def s_join_doors_1  : RS :=
  (rAsg (rLst (rCons (rCallN 2 F_strictest (rCons (rBin dIx (rVar 1) (rVar 2)) (rCons (rBin dIx (rVar 1) (rBin dAdd (rVar 2) (rC (.p (.int 1))))) rNil))) rNil)) (gSlS (rVar 1) (rPart (rVar 2)) (rPart (rBin dAdd (rVar 2) (rC (.p (.int 2)))))))
noncomputable def s_join_doors_2  : RS :=
  (rSet 2 (rCallN 1 F_first_pair (rCons (rVar 1) rNil)))
noncomputable def b_join_doors_3  : RS :=
  (rSeq s_join_doors_1
  s_join_doors_2)
noncomputable def s_join_doors_4  : RS :=
  (rExpr (rCallN 1 F_check_row_of_doors (rCons (rVar 0) rNil)))
noncomputable def s_join_doors_5  : RS :=
  (rSet 1 (rCB cList (rCons (rVar 0) rNil)))
noncomputable def s_join_doors_6  : RS :=
  (rSet 2 (rCallN 1 F_first_pair (rCons (rVar 1) rNil)))
noncomputable def s_join_doors_7  : RS :=
  (rWh (rTst asBool (rBin dNotN (rVar 2) (rC (.p .non))))
  b_join_doors_3)
noncomputable def s_join_doors_8  : RS :=
  (rRet (rCB cTuple (rCons (rVar 1) rNil)))
noncomputable def m_join_doors  : RS :=
  (rSeq s_join_doors_4
  (rSeq s_join_doors_5
  (rSeq s_join_doors_6
  (rSeq s_join_doors_7
  s_join_doors_8))))

noncomputable def F_join_doors : List D → Store → R D := selfF 3 m_join_doors
theorem r_join_doors : Ref 1 3 F_join_doors m_join_doors := ref_self 1 3 m_join_doors
theorem x_join {d : D} {ts : List Dr} {M : Store} (hr : RowIs d (ts.map Dr.T) M) (h1 : 1 ≤ ts.length) (h6 : ts.length ≤ 6) (hg : ∀ t ∈ ts, t.Plain) :
    ∃ M', M <+: M' ∧ F_join_doors [d] M = .ok (.p (.tup ((joinAll ts).map Dr.T))) M' := by
  have e0 := x_check_row hr h1 h6 hg
  have e1 := hr.list
  rw [List.map_map] at e1
  have e1' : cList [d] M = some (.ref M.length, M ++ [.lst (toL ts)]) := e1
  have e2 := x_first M.length ts _ (get_new M (.lst (toL ts))) (by omega) h1
  have key := rWh_find (c := rTst asBool (rBin dNotN (rVar 2) (rC (.p .non)))) (b := b_join_doors_3) (fun n ρ M1 => ∃ us : List Dr, us.length = n ∧ 1 ≤ n ∧ n ≤ 6 ∧ joinAll us = joinAll ts ∧ (∀ t ∈ us, t.Plain) ∧ ρ = [some d, some (.ref M.length), some (numK (firstK us))] ∧ M <+: M1 ∧ M1[M.length]? = some (.lst (toL us)))
    (fun o => ∃ M1, o = .nx [some d, some (.ref M.length), some (.p .non)] M1 ∧ M <+: M1 ∧ M1[M.length]? = some (.lst (toL (joinAll ts)))) (by
      rintro n ρ M1 ⟨us, hn, n1, n6, hj, hu, rfl, hp, hM⟩
      cases q : firstK us with
      | none =>
        refine .inl ⟨M1, by simp [Fl.isNon], M1, rfl, hp, ?_⟩
        rw [← hj, joinAll_none q]
        exact hM
      | some k =>
        refine .inr ⟨M1, by simp [Fl.isNon], .inl ?_⟩
        obtain ⟨x, y, g1, g2, e⟩ := stepF_some q
        have hk := firstK_lt q
        have hl := stepF_len q
        have px := hu x (List.mem_of_getElem? g1)
        have py := hu y (List.mem_of_getElem? g2)
        have i1 := v_ix_l M.length _ k _ M1 hM (toL_get g1)
        have i2 := v_ix_l M.length _ (k + 1) _ M1 hM (toL_get g2)
        have s1 := x_strictest px.toGood py.toGood M1
        have ec : ((k + 1 : Nat) : Int) = (k : Int) + 1 := by omega
        rw [ec] at i2
        have lt1 : M.length < M1.length := get_lt hM
        have hM2 : (M1 ++ [O.lst [.p (one x y).T]])[M.length]? = some (.lst (toL us)) := get_app hM _
        have st : setSl (.ref M.length) (some (k : Int)) (some ((k : Int) + 2)) (.ref M1.length) (M1 ++ [O.lst [.p (one x y).T]]) = some ((M1 ++ [O.lst [.p (one x y).T]]).set M.length (O.lst (toL (stepF us)))) := by
          have e9 : (toL us).take k ++ [D.p (one x y).T] ++ (toL us).drop (k + 2) = toL (stepF us) := by
            rw [e]
            simp [toL]
          have t1 : ((k : Int)).toNat = k := by omega
          have t2 : ((k : Int) + 2).toNat = k + 2 := by omega
          simp only [setSl, hM2, get_new]
          rw [if_pos ⟨by omega, by omega, by omega, by rw [toL_len]; omega, by rw [toL_len]; exact le_line (by simp; omega)⟩, t1, t2, e9]
        have hM3 : ((M1 ++ [O.lst [.p (one x y).T]]).set M.length (.lst (toL (stepF us))))[M.length]? = some (.lst (toL (stepF us))) := get_set_same (get_lt hM2)
        have hp3 : M <+: (M1 ++ [O.lst [.p (one x y).T]]).set M.length (.lst (toL (stepF us))) := pfx_set (pfx_app hp _) (Nat.le_refl _) _
        have f3 := x_first M.length (stepF us) _ hM3 (by omega) (by omega)
        refine ⟨[some d, some (.ref M.length), some (numK (firstK (stepF us)))], _, n - 1, .inl ?_, by omega, stepF us, by omega, by omega, by omega, by rw [joinAll_some q, hj], stepF_all hu fun x y => one_plain, rfl, hp3, hM3⟩
        simp [b_join_doors_3, s_join_doors_1, s_join_doors_2, i1, i2, s1, asPart, st, f3]) ts.length [some d, some (.ref M.length), some (numK (firstK ts))] (M ++ [.lst (toL ts)]) ⟨ts, rfl, h1, h6, rfl, hg, rfl, List.prefix_append _ _, get_new _ _⟩
  obtain ⟨M1, k1, k2, k3⟩ := key
  have tt : cTuple [.ref M.length] M1 = some (.p (.tup ((joinAll ts).map Dr.T)), M1) := by
    have e9 : toL (joinAll ts) = ((joinAll ts).map Dr.T).map D.p := by simp [toL]
    simp only [cTuple, rowD, k3, e9, Option.map_some, mkTup, allP_map]
  refine ⟨M1, k2, selfF_ok ?_ (pfx_len k2)⟩
  simp [m_join_doors, s_join_doors_4, s_join_doors_5, s_join_doors_6, s_join_doors_7, s_join_doors_8, e0, e1', e2, k1, tt]

/-! ### the drawn numbers -/
@[irreducible] def tenL : Int := 10 ^ 64
@[irreducible] def bigL : Int := tenL ^ 6
theorem bigL_eq : bigL = 10 ^ 384 := by unfold bigL tenL; decide +kernel
theorem bigL_pos : 0 < bigL := by rw [bigL_eq]; decide +kernel
theorem p_64 (M : Store) : dPow (.p (.int 10)) (.p (.int 64)) M = some (.p (.int tenL), M) := by
  rw [v_pow 10 64 M (by decide)]
  unfold tenL
  rfl
theorem p_6 (M : Store) : dPowX (.p (.int tenL)) (.p (.int 6)) M = some (.p (.int bigL), M) := by
  have h : powXOk tenL 6 := by unfold tenL; decide +kernel
  rw [v_powX _ _ M h]
  unfold bigL
  rfl
theorem p_18 (M : Store) : dPow (.p (.int 10)) (.p (.int 18)) M = some (.p (.int 1000000000000000000), M) := by
  rw [v_pow 10 18 M (by decide)]
  rfl
def numL (ns : List Int) : List D := ns.map fun i => .p (.int i)
/-- count numbers from 0 to 999999 -/
structure Nums (xs : List Int) (n : Nat) : Prop where
  len : xs.length = n
  all : ∀ x ∈ xs, 0 ≤ x ∧ x < 1000000
theorem Nums.at {xs : List Int} {n : Nat} (h : Nums xs n) {i : Nat} (hi : i < n) : ∃ x, xs[i]? = some x ∧ 0 ≤ x ∧ x < 1000000 := by
  have hl : i < xs.length := by rw [h.len]; exact hi
  exact ⟨xs[i], List.getElem?_eq_getElem hl, h.all _ (List.getElem_mem hl)⟩
-- slots: 0:script 1:at 2:count 3:cell 4:great 5:base 6:found 7:k 8:x
noncomputable def s__law_numbers_1  : RS :=
  (rSet 3 (rBin dMod (rCB cAbs (rCons (rCB cInt (rCons (rBin dIx (rVar 0) (rVar 1)) rNil)) rNil)) (rBin dPowX (rBin dPow (rC (.p (.int 10))) (rC (.p (.int 64)))) (rC (.p (.int 6))))))
noncomputable def s__law_numbers_2  : RS :=
  (rExpr (rLM mAppend (rVar 6) (rCons (rBin dMod (rVar 3) (rC (.p (.int 1000000)))) rNil)))
noncomputable def s__law_numbers_3  : RS :=
  (rSet 3 (rBin dDiv (rVar 3) (rC (.p (.int 1000000)))))
noncomputable def b__law_numbers_4  : RS :=
  (rSeq s__law_numbers_2
  s__law_numbers_3)
noncomputable def s__law_numbers_5  : RS :=
  (rSet 8 (rBin dMod (rBin dAdd (rBin dAdd (rBin dMul (rVar 5) (rC (.p (.int 48271)))) (rBin dMul (rBin dAdd (rVar 7) (rC (.p (.int 1)))) (rC (.p (.int 40692))))) (rBin dMul (rBin dAdd (rVar 1) (rC (.p (.int 3)))) (rC (.p (.int 69621))))) (rC (.p (.int 2147483647)))))
noncomputable def s__law_numbers_6  : RS :=
  (rSet 8 (rBin dMod (rBin dAdd (rBin dAdd (rBin dAdd (rBin dMul (rVar 8) (rVar 8)) (rBin dMul (rC (.p (.int 16807))) (rVar 8))) (rBin dMul (rBin dMul (rC (.p (.int 7))) (rVar 7)) (rVar 7))) (rC (.p (.int 11)))) (rC (.p (.int 2147483629)))))
noncomputable def s__law_numbers_7  : RS :=
  (rSet 8 (rBin dMod (rBin dAdd (rBin dMul (rVar 8) (rC (.p (.int 16807)))) (rBin dDiv (rVar 8) (rC (.p (.int 1000))))) (rC (.p (.int 2147483647)))))
noncomputable def s__law_numbers_8  : RS :=
  (rExpr (rLM mAppend (rVar 6) (rCons (rBin dMod (rBin dDiv (rVar 8) (rC (.p (.int 7)))) (rC (.p (.int 1000000)))) rNil)))
noncomputable def b__law_numbers_9  : RS :=
  (rSeq s__law_numbers_5
  (rSeq s__law_numbers_6
  (rSeq s__law_numbers_7
  s__law_numbers_8)))
noncomputable def s__law_numbers_10  : RS :=
  (rIfS (rtAnd (rTst truthD (rVar 4)) (rTst asBool (rBin dGt (rVar 3) (rC (.p (.int 0))))))
  b__law_numbers_4
  b__law_numbers_9)
noncomputable def s__law_numbers_11  : RS :=
  (rSet 3 (rC (.p (.int 0))))
noncomputable def s__law_numbers_12  : RS :=
  (rIfS (rTst asBool (rBin dLt (rVar 1) (rCB cLen (rCons (rVar 0) rNil))))
  s__law_numbers_1
  rSkip)
noncomputable def s__law_numbers_13  : RS :=
  (rSet 4 (rBin dGe (rVar 3) (rBin dPow (rC (.p (.int 10))) (rC (.p (.int 18))))))
noncomputable def s__law_numbers_14  : RS :=
  (rSet 5 (rBin dMod (rVar 3) (rC (.p (.int 2147483647)))))
noncomputable def s__law_numbers_15  : RS :=
  (rSet 6 (rLst rNil))
noncomputable def s__law_numbers_16  : RS :=
  (rForR rng1 (rCons (rVar 2) rNil) (gNm 7)
  s__law_numbers_10)
noncomputable def s__law_numbers_17  : RS :=
  (rRet (rVar 6))
noncomputable def m__law_numbers  : RS :=
  (rSeq s__law_numbers_11
  (rSeq s__law_numbers_12
  (rSeq s__law_numbers_13
  (rSeq s__law_numbers_14
  (rSeq s__law_numbers_15
  (rSeq s__law_numbers_16
  s__law_numbers_17))))))

noncomputable def F__law_numbers : List D → Store → R D := selfF 9 m__law_numbers
theorem r__law_numbers : Ref 3 9 F__law_numbers m__law_numbers := ref_self 3 9 m__law_numbers
theorem numbers_turn (M : Store) (o0 : Option D) (at_ n : Nat) (cell base : Int) (gr : Bool) (k : Nat) (zk zx : Option D) (xs : List Int) (ha : at_ ≤ 1000) (hk : k < 1000) (hc : 0 ≤ cell) (hb : 0 ≤ base) (hx : Nums xs k) :
    ∃ (cell' : Int) (zx' : Option D) (x : Int), 0 ≤ cell' ∧ 0 ≤ x ∧ x < 1000000 ∧
      s__law_numbers_10 [o0, some (.p (.int at_)), some (.p (.int n)), some (.p (.int cell)), some (.p (.bl gr)), some (.p (.int base)), some (.ref M.length), some (.p (.int k)), zx] (M ++ [.lst (numL xs)]) =
        .nx [o0, some (.p (.int at_)), some (.p (.int n)), some (.p (.int cell')), some (.p (.bl gr)), some (.p (.int base)), some (.ref M.length), some (.p (.int k)), zx'] (M ++ [.lst (numL (xs ++ [x]))]) := by
  have hM := get_new M (O.lst (numL xs))
  have hl : (numL xs).length < sizeLine := lt_line (by simp [numL, hx.len]; omega)
  have ap : ∀ d : D, mAppend (.ref M.length) [d] (M ++ [.lst (numL xs)]) = some (.p .non, M ++ [.lst (numL xs ++ [d])]) := fun d => by
    rw [v_append _ _ d _ hM hl]
    simp
  have isl := isLst_ref _ _ _ hM
  have fin : ∀ x : Int, numL xs ++ [D.p (.int x)] = numL (xs ++ [x]) := fun x => by simp [numL]
  generalize hS : M ++ [O.lst (numL xs)] = S at *
  by_cases hg : gr = true ∧ 0 < cell
  · obtain ⟨rfl, hp⟩ := hg
    refine ⟨cell / 1000000, zx, cell % 1000000, Int.ediv_nonneg hc (by decide), Int.emod_nonneg _ (by decide), Int.emod_lt_of_pos _ (by decide), ?_⟩
    simp [s__law_numbers_10, b__law_numbers_4, s__law_numbers_2, s__law_numbers_3, hp, isl, ap, v_mod, v_div, fin, div_small]
  · have skip : (rtAnd (rTst truthD (rVar 4)) (rTst asBool (rBin dGt (rVar 3) (rC (.p (.int 0)))))) [o0, some (.p (.int at_)), some (.p (.int n)), some (.p (.int cell)), some (.p (.bl gr)), some (.p (.int base)), some (.ref M.length), some (.p (.int k)), zx] S = .ok false S := by
      cases gr with
      | false => simp
      | true =>
        have h2 : ¬ 0 < cell := fun z => hg ⟨rfl, z⟩
        simp [h2]
    obtain ⟨x1, hx1⟩ : ∃ x1 : Int, x1 = (base * 48271 + ((k : Int) + 1) * 40692 + ((at_ : Int) + 3) * 69621) % 2147483647 := ⟨_, rfl⟩
    have a1 : 0 ≤ x1 := by rw [hx1]; exact Int.emod_nonneg _ (by decide)
    have b1 : x1 < 2147483647 := by rw [hx1]; exact Int.emod_lt_of_pos _ (by decide)
    obtain ⟨x2, hx2⟩ : ∃ x2 : Int, x2 = (x1 * x1 + 16807 * x1 + 7 * (k : Int) * k + 11) % 2147483629 := ⟨_, rfl⟩
    obtain ⟨x3, hx3⟩ : ∃ x3 : Int, x3 = (x2 * 16807 + x2 / 1000) % 2147483647 := ⟨_, rfl⟩
    have m1 := fun M => v_mul base 48271 M (mul_small (by decide) (by decide))
    have m2 := fun M => v_mul ((k : Int) + 1) 40692 M (mul_small (by decide) (by decide))
    have m3 := fun M => v_mul ((at_ : Int) + 3) 69621 M (mul_small (by decide) (by decide))
    have m4 := fun M => v_mul x1 x1 M (mul_small (by omega) (by omega))
    have m5 := fun M => v_mul 16807 x1 M (mul_small (by omega) (by omega))
    have m6 := fun M => v_mul 7 (k : Int) M (mul_small (by omega) (by omega))
    have m7 := fun M => v_mul (7 * (k : Int)) k M (mul_small (by omega) (by omega))
    have m8 := fun M => v_mul x2 16807 M (mul_small (by decide) (by decide))
    refine ⟨cell, some (.p (.int x3)), x3 / 7 % 1000000, hc, Int.emod_nonneg _ (by decide), Int.emod_lt_of_pos _ (by decide), ?_⟩
    have e5 : s__law_numbers_5 [o0, some (.p (.int at_)), some (.p (.int n)), some (.p (.int cell)), some (.p (.bl gr)), some (.p (.int base)), some (.ref M.length), some (.p (.int k)), zx] S = .nx [o0, some (.p (.int at_)), some (.p (.int n)), some (.p (.int cell)), some (.p (.bl gr)), some (.p (.int base)), some (.ref M.length), some (.p (.int k)), some (.p (.int x1))] S := by
      simp [s__law_numbers_5, m1, m2, m3, v_mod, ← hx1]
    have e6 : s__law_numbers_6 [o0, some (.p (.int at_)), some (.p (.int n)), some (.p (.int cell)), some (.p (.bl gr)), some (.p (.int base)), some (.ref M.length), some (.p (.int k)), some (.p (.int x1))] S = .nx [o0, some (.p (.int at_)), some (.p (.int n)), some (.p (.int cell)), some (.p (.bl gr)), some (.p (.int base)), some (.ref M.length), some (.p (.int k)), some (.p (.int x2))] S := by
      simp [s__law_numbers_6, m4, m5, m6, m7, v_mod, ← hx2]
    have e7 : s__law_numbers_7 [o0, some (.p (.int at_)), some (.p (.int n)), some (.p (.int cell)), some (.p (.bl gr)), some (.p (.int base)), some (.ref M.length), some (.p (.int k)), some (.p (.int x2))] S = .nx [o0, some (.p (.int at_)), some (.p (.int n)), some (.p (.int cell)), some (.p (.bl gr)), some (.p (.int base)), some (.ref M.length), some (.p (.int k)), some (.p (.int x3))] S := by
      simp [s__law_numbers_7, m8, v_mod, v_div, div_small, ← hx3]
    unfold s__law_numbers_10
    simp only [e_ifS, skip]
    simp [b__law_numbers_9, e5, e6, e7, s__law_numbers_8, isl, ap, v_mod, v_div, fin, div_small]
theorem x_numbers (ns : List Int) (o : O) (ho : o = .ro (numL ns) ∨ o = .lst (numL ns)) (M : Store) (h0 : M[0]? = some o) (at_ n : Nat) (ha : at_ ≤ 1000) (hn : n ≤ 1000) :
    ∃ xs : List Int, Nums xs n ∧ F__law_numbers [.ref 0, .p (.int at_), .p (.int n)] M = .ok (.ref M.length) (M ++ [.lst (numL xs)]) := by
  have hlen : cLen [.ref 0] M = some (.p (.int (ns.length : Nat)), M) := by
    rcases ho with rfl | rfl <;> simp [cLen, lenD, h0, numL]
  have hix : ∀ x, ns[at_]? = some x → dIx (.ref 0) (.p (.int at_)) M = some (.p (.int x), M) := fun x hx => by
    have e : (numL ns)[at_]? = some (.p (.int x)) := by simp [numL, hx]
    rcases ho with rfl | rfl <;> simp only [dIx, rowD, h0, atI_nat e, Option.map_some]
  -- the cell
  obtain ⟨cell, c0, e12⟩ : ∃ cell : Int, 0 ≤ cell ∧ s__law_numbers_12 [some (.ref 0), some (.p (.int at_)), some (.p (.int n)), some (.p (.int 0)), none, none, none, none, none] M = .nx [some (.ref 0), some (.p (.int at_)), some (.p (.int n)), some (.p (.int cell)), none, none, none, none, none] M := by
    by_cases h : at_ < ns.length
    · obtain ⟨x, hx⟩ : ∃ x, ns[at_]? = some x := ⟨ns[at_], List.getElem?_eq_getElem h⟩
      have i1 := hix x hx
      have h' : (at_ : Int) < (ns.length : Nat) := by omega
      refine ⟨(if x < 0 then -x else x) % bigL, Int.emod_nonneg _ (Int.ne_of_gt bigL_pos), ?_⟩
      simp [s__law_numbers_12, s__law_numbers_1, hlen, h, i1, cInt, cAbs, p_64, p_6, v_mod _ _ _ bigL_pos]
    · refine ⟨0, Int.le_refl _, ?_⟩
      simp [s__law_numbers_12, hlen, h]
  obtain ⟨gr, e13⟩ : ∃ gr : Bool, s__law_numbers_13 [some (.ref 0), some (.p (.int at_)), some (.p (.int n)), some (.p (.int cell)), none, none, none, none, none] M = .nx [some (.ref 0), some (.p (.int at_)), some (.p (.int n)), some (.p (.int cell)), some (.p (.bl gr)), none, none, none, none] M := ⟨_, by simp [s__law_numbers_13, p_18]; rfl⟩
  obtain ⟨base, hb⟩ : ∃ base : Int, base = cell % 2147483647 := ⟨_, rfl⟩
  have b0 : 0 ≤ base := by rw [hb]; exact Int.emod_nonneg _ (by decide)
  have e14 : s__law_numbers_14 [some (.ref 0), some (.p (.int at_)), some (.p (.int n)), some (.p (.int cell)), some (.p (.bl gr)), none, none, none, none] M = .nx [some (.ref 0), some (.p (.int at_)), some (.p (.int n)), some (.p (.int cell)), some (.p (.bl gr)), some (.p (.int base)), none, none, none] M := by
    simp [s__law_numbers_14, v_mod, ← hb]
  obtain ⟨ρ', M', k1, xs, cell', zk, zx, k2, k3, rfl, rfl⟩ := forL_inv (k := none) (g := gNm 7) (body := s__law_numbers_10) (intsD 0 n)
    (fun i ρ M' => ∃ (xs : List Int) (cell' : Int) (zk zx : Option D), Nums xs i ∧ 0 ≤ cell' ∧ ρ = [some (.ref 0), some (.p (.int at_)), some (.p (.int n)), some (.p (.int cell')), some (.p (.bl gr)), some (.p (.int base)), some (.ref M.length), zk, zx] ∧ M' = M ++ [.lst (numL xs)]) (fun _ _ _ _ => True.intro) (by
      rintro i x ρ M1 hx ⟨xs, cell', zk, zx, h1, h2, rfl, rfl⟩
      have hi : i < n := by
        have := (List.getElem?_eq_some_iff.mp hx).1
        rw [intsD_len] at this
        exact this
      rw [intsD_get 0 n i hi] at hx
      cases hx
      obtain ⟨c2, zx2, x, g1, g2, g3, g4⟩ := numbers_turn M (some (.ref 0)) at_ n cell' base gr i (some (.p (.int i))) zx xs ha (by omega) h2 b0 h1
      have hxs : Nums (xs ++ [x]) (i + 1) := ⟨by simp [h1.len], fun y hy => by
        rcases List.mem_append.mp hy with hy | hy
        · exact h1.all y hy
        · rw [List.mem_singleton.mp hy]; exact ⟨g2, g3⟩⟩
      refine ⟨_, _, _, _, rfl, .inl ?_, xs ++ [x], c2, some (.p (.int i)), zx2, hxs, g1, rfl, rfl⟩
      simpa using g4) ⟨[], cell, none, none, ⟨rfl, fun x hx => nomatch hx⟩, c0, rfl, rfl⟩
  rw [intsD_len] at k2
  have er := rng1_len n (by omega)
  refine ⟨xs, k2, selfF_ok ?_ (by simp)⟩
  simp only [numL, List.map_nil] at k1
  simp [m__law_numbers, s__law_numbers_11, e12, e13, e14, s__law_numbers_15, s__law_numbers_16, s__law_numbers_17, er, k1, numL]

/-! ### the same -/
def fitQ : Nat → P → Prop
  | 0, _ => False
  | n + 1, .tup xs => xs.length ≤ 1000000 ∧ ∀ y ∈ xs, fitQ n y
  | _ + 1, _ => True
open Classical in
noncomputable def Fp_like : Nat → List D → Store → R D
  | 0 => fun _ _ => .no
  | n + 1 => fun ds M => match ds with
    | [.p x, .p y] => if x = y ∧ fitQ (n + 1) x then .ok (.p (.bl true)) M else .no
    | _ => .no
open Classical in
theorem fp_succ (n : Nat) (ds : List D) (M : Store) : Fp_like (n + 1) ds M = (match ds with
    | [.p x, .p y] => if x = y ∧ fitQ (n + 1) x then .ok (.p (.bl true)) M else .no
    | _ => .no) := rfl
-- slots: 0:told 1:due 2:k
noncomputable def m__law_like (n : Nat) : RS :=
  (rSeq (rIfS (rTst truthD (rIsa "tuple" (rVar 1)))
  (rSeq (rIfS (rtOr (rtNot (rTst truthD (rIsa "tuple" (rVar 0)))) (rTst asBool (rBin dNe (rCB cLen (rCons (rVar 0) rNil)) (rCB cLen (rCons (rVar 1) rNil)))))
  (rRet (rC (.p (.bl false))))
  rSkip)
  (rSeq (rForR rng1 (rCons (rCB cLen (rCons (rVar 1) rNil)) rNil) (gNm 2)
  (rIfS (rtNot (rTst truthD (rCallN 2 (Fp_like n) (rCons (rBin dIx (rVar 0) (rVar 2)) (rCons (rBin dIx (rVar 1) (rVar 2)) rNil)))))
  (rRet (rC (.p (.bl false))))
  rSkip))
  (rRet (rC (.p (.bl true))))))
  rSkip)
  (rSeq (rIfS (rTst asBool (rBin dIsN (rVar 1) (rC (.p .non))))
  (rRet (rBin dIsN (rVar 0) (rC (.p .non))))
  rSkip)
  (rSeq (rIfS (rTst truthD (rIsa "bool" (rVar 1)))
  (rRet (rAnd (rIsa "bool" (rVar 0)) (rBin dEq (rVar 0) (rVar 1))))
  rSkip)
  (rSeq (rIfS (rTst truthD (rIsa "int" (rVar 1)))
  (rRet (rAnd (rIsa "int" (rVar 0)) (rAnd (rNot (rTst truthD (rIsa "bool" (rVar 0)))) (rBin dEq (rVar 0) (rVar 1)))))
  rSkip)
  (rRet (rAnd (rIsa "str" (rVar 0)) (rBin dEq (rVar 0) (rVar 1))))))))

open Classical in
theorem r__law_like (n : Nat) : Ref 2 3 (Fp_like (n + 1)) (m__law_like n) := by
  intro ds M hl
  rw [fp_succ]
  clear hl
  split
  · rename_i x y
    by_cases h : x = y ∧ fitQ (n + 1) x
    · rw [if_pos h]
      obtain ⟨rfl, hf⟩ := h
      have key : bodyR (m__law_like n (startD 3 [.p x, .p x]) M) = .ok (.p (.bl true)) M := by
        cases x with
        | non => simp [m__law_like, isaT]
        | bl k => cases k <;> simp [m__law_like, isaT, dEq, dOk, P.depth, P.eqv]
        | str k => simp [m__law_like, isaT]
        | int k => simp [m__law_like, isaT]
        | tup xs =>
          obtain ⟨h1, h2⟩ := hf
          have er := rng1_len xs.length h1
          obtain ⟨z, e⟩ := forL_ok (g := gNm 2) (body := (rIfS (rtNot (rTst truthD (rCallN 2 (Fp_like n) (rCons (rBin dIx (rVar 0) (rVar 2)) (rCons (rBin dIx (rVar 1) (rVar 2)) rNil))))) (rRet (rC (.p (.bl false)))) rSkip)) (fun z => [some (.p (.tup xs)), some (.p (.tup xs)), z]) M (intsD 0 xs.length) (by
            intro d hd z
            obtain ⟨j, hj, rfl⟩ := List.mem_map.mp hd
            have hj := List.mem_range.mp hj
            have i0 : dIx (.p (.tup xs)) (.p (.int ((0 : Int) + (j : Int)))) M = some (.p xs[j], M) := by
              rw [Int.zero_add, v_ix_t, atI_nat (by rw [List.getElem?_map, List.getElem?_eq_getElem hj]; rfl)]
              rfl
            have hq := h2 xs[j] (List.getElem_mem hj)
            have c : Fp_like n [.p xs[j], .p xs[j]] M = .ok (.p (.bl true)) M := by
              cases n with
              | zero => exact hq.elim
              | succ n => exact if_pos ⟨rfl, hq⟩
            exact ⟨_, some (.p (.int ((0 : Int) + (j : Int)))), rfl, by simp [i0, c, -v_ix_t, -Int.zero_add]⟩) none
          simp [m__law_like, isaT, er, e]
      refine ⟨Nat.le_refl _, ?_⟩
      rw [key]
      simp
    · rw [if_neg h]
      simp
  · simp
theorem like_ok (x : P) (h : fitQ 9 x) (M : Store) : Fp_like 9 [.p x, .p x] M = .ok (.p (.bl true)) M := if_pos ⟨rfl, h⟩

-- slots: 0:call 1:words 2:named 3:e 4:k
noncomputable def su__law_told (av : Nat) (cv : Str) : RS :=
  (rSeq (rSet 1 (rLst (rCons (rC (.p (.str "BadTable"))) (rCons (rC (.p (.str "BadEnds"))) rNil))))
  (rSeq (rSet 2 (rLst (rCons (rCB (cExIs av "BadTable" (cv == "BadTable")) (rCons (rVar 3) (rCons (rC (.gl "BadTable")) rNil))) (rCons (rCB (cExIs av "BadEnds" (cv == "BadEnds")) (rCons (rVar 3) (rCons (rC (.gl "BadEnds")) rNil))) rNil))))
  (rRet (rTup (rCons (rC (.p (.str "error"))) (rCons (rLC (wRng rng1 (rCons (rCB cLen (rCons (rVar 1) rNil)) rNil)) (gNm 4) (rTst truthD (rBin dIx (rVar 2) (rVar 4))) (rBin dIx (rVar 1) (rVar 4)) [4]) rNil))))))
noncomputable def bo__law_told (il : LamI) (B : Store → R D) : RS :=
  (rRet (rTup (rCons (rC (.p (.str "told"))) (rCons (rLam 0 il B) rNil))))
noncomputable def m__law_told (il : LamI) (B : Store → R D) : RS :=
  (rTryAs [("BadTable", true)] 3 (bo__law_told il B) su__law_told)

/-! ### told, or the error's name -/
def wordsL : List D := [.p (.str "BadTable"), .p (.str "BadEnds")]
noncomputable def F__law_told : (Store → R D) → List D → Store → R D := fun B ds M => match ds with
  | [] => (match B M with
    | .ok d M' => if M.length ≤ M'.length then .ok (mkTup [.p (.str "told"), d]) M' else .no
    | .ex c none M' => if c = "BadTable" ∧ M.length ≤ M'.length then .ok (.tup [.p (.str "error"), .ref (M'.length + 2)]) (M' ++ [.lst wordsL, .lst [.p (.bl true), .p (.bl false)], .lst [.p (.str "BadTable")]]) else .no
    | _ => .no)
  | _ => .no
theorem e_lam (il : LamI) (B : Store → R D) (ρ : Env) (M : Store) : rLam 0 il B (some (.lam il) :: ρ) M = noFs (B M) := by
  simp [rLam]
def namedL : List D := [.p (.bl true), .p (.bl false)]
theorem su_told (av : Nat) (x0 x1 x2 x4 : Option D) (M : Store) : su__law_told av "BadTable" [x0, x1, x2, some (.exv av), x4] M = .rt (.tup [.p (.str "error"), .ref (M.length + 2)]) (M ++ [.lst wordsL, .lst namedL, .lst [.p (.str "BadTable")]]) := by
  have hb : (("BadTable" : Str) == ("BadEnds" : Str)) = false := by decide +kernel
  obtain ⟨S, hS⟩ : ∃ S : Store, S = M ++ [.lst wordsL, .lst namedL] := ⟨_, rfl⟩
  have lS : S.length = M.length + 2 := by rw [hS]; simp
  have g1 : S[M.length]? = some (.lst wordsL) := by rw [hS]; simp
  have g2 : S[M.length + 1]? = some (.lst namedL) := by rw [hS]; simp
  have e1 := v_len_l _ _ S g1
  have key := lc_new (k := none) (g := gNm 4) (tt := rTst truthD (rBin dIx (rVar 2) (rVar 4))) (te := rBin dIx (rVar 1) (rVar 4)) (ρ := wipeE [x0, some (.ref M.length), some (.ref (M.length + 1)), some (.exv av), x4] [4])
    (fun d => match d with | .p (.int 0) => true | _ => false) (fun _ => .p (.str "BadTable")) S (fun _ => trivial) (intsD 0 2) (by simp [intsD]) (by
      intro x hx ys
      have w1 : ∀ (i : Nat) (d : D), wordsL[i]? = some d → dIx (.ref M.length) (.p (.int i)) (S ++ [.lst ys]) = some (d, S ++ [.lst ys]) := fun i d h => v_ix_l _ _ i d _ (get_app g1 _) h
      have w2 : ∀ (i : Nat) (d : D), namedL[i]? = some d → dIx (.ref (M.length + 1)) (.p (.int i)) (S ++ [.lst ys]) = some (d, S ++ [.lst ys]) := fun i d h => v_ix_l _ _ i d _ (get_app g2 _) h
      have a1 : dIx (.ref M.length) (.p (.int 0)) (S ++ [.lst ys]) = some (.p (.str "BadTable"), S ++ [.lst ys]) := w1 0 _ rfl
      have a2 : dIx (.ref (M.length + 1)) (.p (.int 0)) (S ++ [.lst ys]) = some (.p (.bl true), S ++ [.lst ys]) := w2 0 _ rfl
      have a3 : dIx (.ref (M.length + 1)) (.p (.int 1)) (S ++ [.lst ys]) = some (.p (.bl false), S ++ [.lst ys]) := w2 1 _ rfl
      have hx2 : x = .p (.int 0) ∨ x = .p (.int 1) := by simpa [intsD, List.range_succ] using hx
      rcases hx2 with rfl | rfl
      · exact ⟨_, rfl, by simp [wipeE, a2], fun _ => by simp [wipeE, a1]⟩
      · exact ⟨_, rfl, by simp [wipeE, a3], fun z => nomatch z⟩)
  rw [show ((intsD 0 2).filter (fun d => match d with | .p (.int 0) => true | _ => false)).map (fun _ => (D.p (.str "BadTable"))) = [.p (.str "BadTable")] from by simp [intsD, List.range_succ]] at key
  have er : rng1 [.p (.int (2 : Nat))] = some (0, 2) := rng1_len 2 (by omega)
  simp only [wordsL, List.length_cons, List.length_nil] at e1
  rw [lS] at key
  simp [wordsL, namedL] at hS
  have e1' : cLen [.ref M.length] S = some (.p (.int 2), S) := by rw [e1]; rfl
  have er' : rng1 [.p (.int 2)] = some (0, 2) := er
  simp [su__law_told, hb, ← hS, e1', er', ofW, lS, key, mkTup, allP]
  rw [hS]
  simp [wordsL, namedL]
theorem hex__law_told (il : LamI) (B : Store → R D) : ∀ (ρ : Fl.Env) (M : Store) c fs ρ1 M1, bo__law_told il B ρ M = .ex c fs ρ1 M1 → fs = none := by
  intro ρ M c fs ρ1 M1 h
  have hr : (rCons (rC (.p (.str "told"))) (rCons (rLam 0 il B) rNil)) ρ M = .no ∨ (∃ xs M', (rCons (rC (.p (.str "told"))) (rCons (rLam 0 il B) rNil)) ρ M = .ok xs M') ∨ ∃ c M', (rCons (rC (.p (.str "told"))) (rCons (rLam 0 il B) rNil)) ρ M = .ex c none M' := by
    have hl : rLam 0 il B ρ M = .no ∨ (∃ d M', rLam 0 il B ρ M = .ok d M') ∨ ∃ c M', rLam 0 il B ρ M = .ex c none M' := by
      unfold rLam
      split
      · split
        · cases B M with
          | no => exact .inl rfl
          | ok d M' => exact .inr (.inl ⟨_, _, rfl⟩)
          | ex c fs M' =>
            cases fs with
            | none => exact .inr (.inr ⟨_, _, rfl⟩)
            | some gs => exact .inl rfl
        · exact .inl rfl
      · exact .inl rfl
    rcases hl with e | ⟨d, M', e⟩ | ⟨c, M', e⟩
    · exact .inl (by simp [e])
    · exact .inr (.inl ⟨_, _, by simp [e]; exact ⟨rfl, rfl⟩⟩)
    · exact .inr (.inr ⟨_, _, by simp [e]; exact ⟨rfl, rfl⟩⟩)
  simp only [bo__law_told, e_ret, e_tup] at h
  rcases hr with e | ⟨xs, M', e⟩ | ⟨c', M', e⟩
  · rw [e] at h; cases h
  · rw [e] at h
    simp only [R.bind_ok] at h
    split at h <;> cases h
  · rw [e] at h
    cases h
    rfl
theorem hind__law_told : ∀ (a : Nat) (c : Str) (ρ : Fl.Env) (M : Store), (∃ b, (c, b) ∈ ([("BadTable", true)] : List (Str × Bool))) → ρ.length = 5 → setI 3 (su__law_told a c (ρ.set 3 (some (.exv a))) M) = setI 3 (su__law_told 0 c (ρ.set 3 (some (.exv 0))) M) := by
  intro a c ρ M hc hl
  obtain ⟨b, hb⟩ := hc
  obtain rfl : c = "BadTable" := (Prod.mk.inj (List.mem_singleton.mp hb)).1
  match ρ, hl with
  | [x0, x1, x2, x3, x4], _ =>
    have e1 := su_told a x0 x1 x2 x4 M
    have e2 := su_told 0 x0 x1 x2 x4 M
    simp only [List.set]
    rw [e1, e2]
theorem r__law_told : ∀ il B ds M, ds.length + 1 = 1 → Grows M (F__law_told B ds M) ∧ Tells (F__law_told B ds M) (bodyR (m__law_told il B (startD 5 (.lam il :: ds)) M)) := by
  intro il B ds M h
  cases ds with
  | cons d ds => exact ⟨trivial, trivial⟩
  | nil =>
    have eB := e_lam il B [none, none, none, none] M
    cases q : B M with
    | no => simp [F__law_told, q, Grows, Tells]
    | ok d M' =>
      by_cases hl : M.length ≤ M'.length
      · rw [q] at eB
        simp [F__law_told, q, hl, Grows, Tells, m__law_told, rTryAs, bo__law_told, startD, eB, noFs]
      · simp [F__law_told, q, hl, Grows, Tells]
    | ex c fs M' =>
      cases fs with
      | some gs => simp [F__law_told, q, Grows, Tells]
      | none =>
        by_cases hc : c = "BadTable" ∧ M.length ≤ M'.length
        · obtain ⟨rfl, hl⟩ := hc
          rw [q] at eB
          have e1 := su_told 0 (some (.lam il)) none none none M'
          simp [F__law_told, q, hl, Grows, Tells, m__law_told, rTryAs, bo__law_told, startD, eB, noFs, e1, setI, wordsL, namedL]
          exact Nat.le_trans hl (Nat.le_add_right _ _)
        · simp [F__law_told, q, hc, Grows, Tells]

-- slots: 0:numbers 1:at 2:count
noncomputable def m__law_pick  : RS :=
  (rRet (rBin dMod (rCB cInt (rCons (rBin dIx (rVar 0) (rBin dMod (rVar 1) (rCB cLen (rCons (rVar 0) rNil)))) rNil)) (rVar 2)))

noncomputable def F__law_pick : List D → Store → R D := selfF 3 m__law_pick
theorem r__law_pick : Ref 3 3 F__law_pick m__law_pick := ref_self 3 3 m__law_pick
theorem x_pick (M : Store) (l n : Nat) (xs : List Int) (h : M[l]? = some (.lst (numL xs))) (hx : Nums xs n) (hn : 0 < n) (at_ c : Nat) (hc : 0 < c) : ∃ v : Nat, v < c ∧ F__law_pick [.ref l, .p (.int at_), .p (.int c)] M = .ok (.p (.int v)) M := by
  obtain ⟨x, h1, h2, h3⟩ := hx.at (i := at_ % n) (Nat.mod_lt _ hn)
  have e1 := v_len_l l _ M h
  rw [show (numL xs).length = n by simp [numL, hx.len]] at e1
  have e2 : (at_ : Int) % (n : Nat) = ((at_ % n : Nat) : Int) := by omega
  have e3 := v_ix_l l _ (at_ % n) (.p (.int x)) M h (by simp [numL, h1])
  refine ⟨(x % c).toNat, ?_, selfF_ok ?_ (Nat.le_refl _)⟩
  · have := Int.emod_lt_of_pos x (show (0 : Int) < c by omega)
    have := Int.emod_nonneg x (show (c : Int) ≠ 0 by omega)
    omega
  · have h4 := Int.emod_nonneg x (show (c : Int) ≠ 0 by omega)
    have e5 : ((x % c).toNat : Int) = x % c := Int.toNat_of_nonneg h4
    rw [e5]
    have v1 := fun M => v_mod (at_ : Int) (n : Nat) M (by omega)
    have v2 := fun M => v_mod x (c : Int) M (by omega)
    rw [← e2] at e3
    simp [m__law_pick, e1, v1, e3, cInt, v2]

theorem cut_take {α : Type} (xs : List α) (k : Nat) (h : k ≤ xs.length) : cutL xs none (some (k : Int)) = xs.take k := by
  unfold cutL
  rw [HT.sIx_none, HT.sIx_nat, Nat.min_eq_left h]
  simp
theorem cut_drop {α : Type} (xs : List α) (k : Nat) (h : k ≤ xs.length) : cutL xs (some (k : Int)) none = xs.drop k := by
  unfold cutL
  rw [HT.sIx_none, HT.sIx_nat, Nat.min_eq_left h, List.take_of_length_le (by simp)]
-- slots: 0:inner 1:outer 2:door 3:maps 4:lets
noncomputable def s__law_one_1  : RS :=
  (rSet 2 (rBin dIx (rVar 1) (rC (.p (.int 0)))))
noncomputable def s__law_one_2  : RS :=
  (rSet 3 (rCB cMax2 (rCons (rBin dIx (rBin dIx (rVar 0) (rC (.p (.int 0)))) (rC (.p (.int 4)))) (rCons (rBin dIx (rVar 2) (rC (.p (.int 4)))) rNil))))
noncomputable def s__law_one_3  : RS :=
  (rSet 4 (rCB cMax2 (rCons (rBin dIx (rBin dIx (rVar 0) (rC (.p (.int 0)))) (rC (.p (.int 5)))) (rCons (rBin dIx (rVar 2) (rC (.p (.int 5)))) rNil))))
noncomputable def s__law_one_4  : RS :=
  (rRet (rTup (rCons (rBin dAdd (rBin dAdd (rSl (rVar 2) rNoPart (rPart (rC (.p (.int 4))))) (rTup (rCons (rVar 3) (rCons (rVar 4) rNil)))) (rSl (rVar 2) (rPart (rC (.p (.int 6)))) rNoPart)) (rCons (rTup rNil) rNil))))
noncomputable def m__law_one  : RS :=
  (rSeq s__law_one_1
  (rSeq s__law_one_2
  (rSeq s__law_one_3
  s__law_one_4)))

noncomputable def F__law_one : List D → Store → R D := selfF 5 m__law_one
theorem r__law_one : Ref 2 5 F__law_one m__law_one := ref_self 2 5 m__law_one
theorem x_law_one (x y : Dr) (M : Store) : F__law_one [.p x.T, .p y.T] M = .ok (.p (one x y).T) M := by
  have m1 := cmax x.m y.m M
  have m2 := cmax x.l y.l M
  refine selfF_ok ?_ (Nat.le_refl _)
  have e4 : dSl (.p y.pp) none (some 4) M = some (.p (.tup [.str "door", .str y.n, .str y.i, .str y.o]), M) := rfl
  have e6 : dSl (.p y.pp) (some 6) none M = some (.p (.tup [.int y.lo, .int y.hi, .int y.ke, .int y.sp, .int y.b, .int y.t]), M) := rfl
  have ad : ∀ (xs ys : List P), xs.length + ys.length ≤ 100 → dAdd (.p (.tup xs)) (.p (.tup ys)) M = some (.p (.tup (xs ++ ys)), M) := fun xs ys h => if_pos (le_line (by omega))
  simp only [Dr.pp, Dr.it, Item.toP] at e4 e6
  have a1 := ad [.str "door", .str y.n, .str y.i, .str y.o] [.int (max x.m y.m : Nat), .int (max x.l y.l : Nat)] (by simp)
  have a2 := ad [.str "door", .str y.n, .str y.i, .str y.o, .int (max x.m y.m : Nat), .int (max x.l y.l : Nat)] [.int y.lo, .int y.hi, .int y.ke, .int y.sp, .int y.b, .int y.t] (by simp)
  simp only [List.cons_append, List.nil_append] at a1 a2
  simp only [m__law_one, s__law_one_1, s__law_one_2, s__law_one_3, s__law_one_4, Dr.T, Dr.pp, Dr.it, Item.toP, one]
  simp [atI, ixN, m1, m2, asPart, e4, e6, a1, a2, mkTup, allP]
-- slots: 0:inner 1:outer 2:a 3:f 4:b 5:g
noncomputable def s__law_alike_1  : RS :=
  (rSet 2 (rBin dIx (rBin dIx (rVar 0) (rC (.p (.int 0)))) (rC (.p (.int 4)))))
noncomputable def s__law_alike_2  : RS :=
  (rSet 3 (rBin dIx (rBin dIx (rVar 0) (rC (.p (.int 0)))) (rC (.p (.int 5)))))
noncomputable def s__law_alike_3  : RS :=
  (rSet 4 (rBin dIx (rBin dIx (rVar 1) (rC (.p (.int 0)))) (rC (.p (.int 4)))))
noncomputable def s__law_alike_4  : RS :=
  (rSet 5 (rBin dIx (rBin dIx (rVar 1) (rC (.p (.int 0)))) (rC (.p (.int 5)))))
noncomputable def s__law_alike_5  : RS :=
  (rRet (rOr (rBin dLe (rVar 4) (rVar 2)) (rOr (rBin dLe (rVar 3) (rVar 2)) (rBin dGe (rVar 5) (rCB cMin2 (rCons (rVar 3) (rCons (rVar 4) rNil)))))))
noncomputable def m__law_alike  : RS :=
  (rSeq s__law_alike_1
  (rSeq s__law_alike_2
  (rSeq s__law_alike_3
  (rSeq s__law_alike_4
  s__law_alike_5))))

noncomputable def F__law_alike : List D → Store → R D := selfF 6 m__law_alike
theorem r__law_alike : Ref 2 6 F__law_alike m__law_alike := ref_self 2 6 m__law_alike
theorem x_law_alike (x y : Dr) (M : Store) : F__law_alike [.p x.T, .p y.T] M = .ok (.p (.bl (alike x y))) M := by
  have m1 := cmin x.l y.m M
  refine selfF_ok ?_ (Nat.le_refl _)
  by_cases h1 : y.m ≤ x.m <;> by_cases h2 : x.l ≤ x.m <;> simp [m__law_alike, s__law_alike_1, s__law_alike_2, s__law_alike_3, s__law_alike_4, s__law_alike_5, Dr.T, Dr.pp, Dr.it, Item.toP, atI, ixN, m1, alike, h1, h2] <;> omega
-- slots: 0:tables 1:left 2:step 3:k
noncomputable def s__law_joined_1  : RS :=
  (rSet 1 (rBin dAdd (rBin dAdd (rSl (rVar 1) rNoPart (rPart (rVar 3))) (rLst (rCons (rCallN 2 F__law_one (rCons (rBin dIx (rVar 1) (rVar 3)) (rCons (rBin dIx (rVar 1) (rBin dAdd (rVar 3) (rC (.p (.int 1))))) rNil))) rNil))) (rSl (rVar 1) (rPart (rBin dAdd (rVar 3) (rC (.p (.int 2))))) rNoPart)))
noncomputable def s__law_joined_2  : RS :=
  rBreak
noncomputable def b__law_joined_3  : RS :=
  (rSeq s__law_joined_1
  s__law_joined_2)
noncomputable def s__law_joined_4  : RS :=
  (rIfS (rTst truthD (rCallN 2 F__law_alike (rCons (rBin dIx (rVar 1) (rVar 3)) (rCons (rBin dIx (rVar 1) (rBin dAdd (rVar 3) (rC (.p (.int 1))))) rNil))))
  b__law_joined_3
  rSkip)
noncomputable def s__law_joined_5  : RS :=
  (rForR rng1 (rCons (rBin dSub (rCB cLen (rCons (rVar 1) rNil)) (rC (.p (.int 1)))) rNil) (gNm 3)
  s__law_joined_4)
noncomputable def s__law_joined_6  : RS :=
  (rSet 1 (rCB cList (rCons (rVar 0) rNil)))
noncomputable def s__law_joined_7  : RS :=
  (rForR rng1 (rCons (rCB cLen (rCons (rVar 0) rNil)) rNil) (gNm 2)
  s__law_joined_5)
noncomputable def s__law_joined_8  : RS :=
  (rRet (rCB cTuple (rCons (rVar 1) rNil)))
noncomputable def m__law_joined  : RS :=
  (rSeq s__law_joined_6
  (rSeq s__law_joined_7
  s__law_joined_8))

noncomputable def F__law_joined : List D → Store → R D := selfF 4 m__law_joined
theorem r__law_joined : Ref 1 4 F__law_joined m__law_joined := ref_self 1 4 m__law_joined
theorem joined_turn (d : Option D) (zs zk : Option D) (l : Nat) (us : List Dr) (M1 : Store) (h : M1[l]? = some (.lst (toL us))) (h1 : 1 ≤ us.length) (h6 : us.length ≤ 6) :
    ∃ (l' : Nat) (M2 : Store) (zk' : Option D), s__law_joined_5 [d, some (.ref l), zs, zk] M1 = .nx [d, some (.ref l'), zs, zk'] M2 ∧ M1 <+: M2 ∧ M2[l']? = some (.lst (toL (stepF us))) := by
  have e0 := v_len_l l _ M1 h
  rw [toL_len] at e0
  have er := rng1_len (us.length - 1) (by omega)
  have en : ((us.length : Nat) : Int) - 1 = ((us.length - 1 : Nat) : Int) := by omega
  have key := forL_find (k := none) (g := gNm 3) (body := s__law_joined_4) (intsD 0 (us.length - 1)) (fun i ρ M' => M' = M1 ∧ ∃ z, ρ = [d, some (.ref l), zs, z] ∧ ∀ j, j < i → alikeAt us j = false)
    (fun o => ∃ (l' : Nat) (M2 : Store) (zk' : Option D), o = .nx [d, some (.ref l'), zs, zk'] M2 ∧ M1 <+: M2 ∧ M2[l']? = some (.lst (toL (stepF us)))) (fun _ _ _ _ => True.intro) (by
      rintro i x ρ M3 hx ⟨rfl, z, rfl, hj⟩
      have hi : i < us.length - 1 := by
        have := (List.getElem?_eq_some_iff.mp hx).1
        rw [intsD_len] at this
        exact this
      rw [intsD_get 0 _ i hi] at hx
      cases hx
      rw [Int.zero_add]
      have g1 := List.getElem?_eq_getElem (show i < us.length by omega)
      have g2 := List.getElem?_eq_getElem (show i + 1 < us.length by omega)
      have i1 := v_ix_l l _ i _ M3 h (toL_get g1)
      have i2 := v_ix_l l _ (i + 1) _ M3 h (toL_get g2)
      have ec : ((i + 1 : Nat) : Int) = (i : Int) + 1 := by omega
      rw [ec] at i2
      have a1 := x_law_alike us[i] us[i + 1] M3
      rw [← alike_at g1 g2] at a1
      refine ⟨_, _, rfl, ?_⟩
      cases q : alikeAt us i with
      | true =>
        rw [q] at a1
        obtain ⟨x, y, f1, f2, e⟩ := stepF_some (firstK_some q hi hj)
        rw [g1] at f1
        rw [g2] at f2
        cases f1
        cases f2
        obtain ⟨S1, hS1⟩ : ∃ S1 : Store, S1 = M3 ++ [O.lst ((toL us).take i)] := ⟨_, rfl⟩
        obtain ⟨S2, hS2⟩ : ∃ S2 : Store, S2 = S1 ++ [O.lst [.p (one us[i] us[i + 1]).T]] := ⟨_, rfl⟩
        obtain ⟨S3, hS3⟩ : ∃ S3 : Store, S3 = S2 ++ [O.lst ((toL us).take i ++ [.p (one us[i] us[i + 1]).T])] := ⟨_, rfl⟩
        obtain ⟨S4, hS4⟩ : ∃ S4 : Store, S4 = S3 ++ [O.lst ((toL us).drop (i + 2))] := ⟨_, rfl⟩
        obtain ⟨S5, hS5⟩ : ∃ S5 : Store, S5 = S4 ++ [O.lst ((toL us).take i ++ [.p (one us[i] us[i + 1]).T] ++ (toL us).drop (i + 2))] := ⟨_, rfl⟩
        have p1 : M3 <+: S1 := by rw [hS1]; exact List.prefix_append _ _
        have p2 : S1 <+: S2 := by rw [hS2]; exact List.prefix_append _ _
        have p3 : S2 <+: S3 := by rw [hS3]; exact List.prefix_append _ _
        have p4 : S3 <+: S4 := by rw [hS4]; exact List.prefix_append _ _
        have p5 : S4 <+: S5 := by rw [hS5]; exact List.prefix_append _ _
        have b1 : dSl (.ref l) none (some (i : Int)) M3 = some (.ref M3.length, S1) := by
          simp only [dSl, h, hS1]
          rw [cut_take _ i (by rw [toL_len]; omega)]
        have b2 := v_ix_l l _ i _ S1 (pfx_get p1 h) (toL_get g1)
        have b3 := v_ix_l l _ (i + 1) _ S1 (pfx_get p1 h) (toL_get g2)
        rw [ec] at b3
        have b4 := x_law_one us[i] us[i + 1] S1
        have q1 : S2[M3.length]? = some (.lst ((toL us).take i)) := pfx_get p2 (by rw [hS1]; exact get_new _ _)
        have q2 : S2[S1.length]? = some (.lst [.p (one us[i] us[i + 1]).T]) := by rw [hS2]; exact get_new _ _
        have b5 : dAdd (.ref M3.length) (.ref S1.length) S2 = some (.ref S2.length, S3) := by
          rw [v_cat _ _ _ _ S2 q1 q2 (le_line (by simp; omega)), hS3]
        have b6 : dSl (.ref l) (some ((i : Int) + 2)) none S3 = some (.ref S3.length, S4) := by
          have h3 : S3[l]? = some (.lst (toL us)) := pfx_get ((p1.trans p2).trans p3) h
          simp only [dSl, h3, hS4]
          have ec2 : ((i : Int) + 2) = ((i + 2 : Nat) : Int) := by omega
          rw [ec2, cut_drop _ (i + 2) (by rw [toL_len]; omega)]
        have q3 : S4[S2.length]? = some (.lst ((toL us).take i ++ [.p (one us[i] us[i + 1]).T])) := pfx_get p4 (by rw [hS3]; exact get_new _ _)
        have q4 : S4[S3.length]? = some (.lst ((toL us).drop (i + 2))) := by rw [hS4]; exact get_new _ _
        have b7 : dAdd (.ref S2.length) (.ref S3.length) S4 = some (.ref S4.length, S5) := by
          rw [v_cat _ _ _ _ S4 q3 q4 (le_line (by simp; omega)), hS5]
        refine .inr (.inl ⟨[d, some (.ref S4.length), zs, some (.p (.int i))], S5, ?_, S4.length, S5, _, rfl, (((p1.trans p2).trans p3).trans p4).trans p5, ?_⟩)
        · simp [s__law_joined_4, b__law_joined_3, s__law_joined_1, s__law_joined_2, i1, i2, a1, asPart, b1, b2, b3, b4, ← hS2, b5, b6, b7]
        · rw [e, hS5, get_new]
          simp [toL]
      | false =>
        rw [q] at a1
        refine .inl ⟨_, M3, .inl ?_, rfl, some (.p (.int (i : Nat))), rfl, fun j hj2 => ?_⟩
        · simp [s__law_joined_4, i1, i2, a1]
        · by_cases e : j = i
          · rw [e]; exact q
          · exact hj j (by omega)) (by
      rintro ρ M3 ⟨rfl, z, rfl, hj⟩
      rw [intsD_len] at hj
      exact ⟨l, M3, z, rfl, List.prefix_refl _, by rw [stepF_none (firstK_none hj)]; exact h⟩) (ρ := [d, some (.ref l), zs, zk]) (M := M1) ⟨rfl, zk, rfl, fun j hj => absurd hj (Nat.not_lt_zero j)⟩
  obtain ⟨l', M2, zk', e, p, g⟩ := key
  exact ⟨l', M2, zk', by simp [s__law_joined_5, e0, en, er, e], p, g⟩
theorem stepF_bound {us : List Dr} (h1 : 1 ≤ us.length) (h6 : us.length ≤ 6) : 1 ≤ (stepF us).length ∧ (stepF us).length ≤ 6 := by
  cases q : firstK us with
  | none => rw [stepF_none q]; exact ⟨h1, h6⟩
  | some k =>
    have a := stepF_len q
    have b := firstK_lt q
    omega
theorem x_law_joined {d : D} {ts : List Dr} {M : Store} (hr : RowIs d (ts.map Dr.T) M) (h1 : 1 ≤ ts.length) (h6 : ts.length ≤ 6) : ∃ M', M <+: M' ∧ F__law_joined [d] M = .ok (.p (.tup ((joinAll ts).map Dr.T))) M' := by
  have e1 := hr.list
  rw [List.map_map] at e1
  have e1' : cList [d] M = some (.ref M.length, M ++ [.lst (toL ts)]) := e1
  have hr2 : RowIs d (ts.map Dr.T) (M ++ [.lst (toL ts)]) := by
    rcases hr with h | ⟨l, h, g⟩
    · exact .inl h
    · exact .inr ⟨l, h, get_app g _⟩
  have e0 := hr2.len
  rw [List.length_map] at e0
  have er := rng1_len ts.length (by omega)
  obtain ⟨ρ', M', k1, us, l', zs, zk, k2, k3, k4, k5, k6, rfl⟩ := forL_inv (k := none) (g := gNm 2) (body := s__law_joined_5) (intsD 0 ts.length)
    (fun i ρ M' => ∃ (us : List Dr) (l' : Nat) (zs zk : Option D), us = joinN i ts ∧ 1 ≤ us.length ∧ us.length ≤ 6 ∧ M <+: M' ∧ M'[l']? = some (.lst (toL us)) ∧ ρ = [some d, some (.ref l'), zs, zk]) (fun _ _ _ _ => True.intro) (by
      rintro i x ρ M1 hx ⟨us, l', zs, zk, a1, a2, a3, a4, a5, rfl⟩
      obtain ⟨l2, M2, zk2, b1, b2, b3⟩ := joined_turn (some d) (some x) zk l' us M1 a5 a2 a3
      have sb := stepF_bound a2 a3
      exact ⟨_, _, _, _, rfl, .inl b1, stepF us, l2, some x, zk2, by rw [a1, joinN_succ], sb.1, sb.2, a4.trans b2, b3, rfl⟩) (ρ := [some d, some (.ref M.length), none, none]) (M := M ++ [.lst (toL ts)]) ⟨ts, M.length, none, none, rfl, h1, h6, List.prefix_append _ _, get_new _ _, rfl⟩
  rw [intsD_len] at k2
  have tt : cTuple [.ref l'] M' = some (.p (.tup ((joinAll ts).map Dr.T)), M') := by
    have e9 : toL (joinAll ts) = ((joinAll ts).map Dr.T).map D.p := by simp [toL]
    rw [k2] at k6
    simp only [cTuple, rowD, k6, show joinN ts.length ts = joinAll ts from rfl, e9, Option.map_some, mkTup, allP_map]
  refine ⟨M', k5, selfF_ok ?_ (pfx_len k5)⟩
  simp [m__law_joined, s__law_joined_6, s__law_joined_7, s__law_joined_8, e1', e0, er, k1, tt]

structure StrT (t : Dr) : Prop where
  n : PyData.strOk t.n = true
  i : PyData.strOk t.i = true
  o : PyData.strOk t.o = true
def nmB (s : Str) : Bool := (match s.cps.toList with
  | c :: _ => decide (c ∈ smallL)
  | [] => false) && s.cps.toList.all (fun c => decide (c ∈ signL)) && decide (s.length ≤ 300) && decide (s ∉ wordsS)
theorem nm_by {s : Str} (h : nmB s = true) : Nm s := by
  unfold nmB at h
  simp only [Bool.and_eq_true, decide_eq_true_eq] at h
  obtain ⟨⟨⟨h1, h2⟩, h3⟩, h4⟩ := h
  refine ⟨⟨?_, fun c hc => by simpa using List.all_eq_true.mp h2 c hc, h3⟩, h4⟩
  split at h1
  · rename_i c r e
    exact ⟨c, r, e, by simpa using h1⟩
  · cases h1
theorem nm_in2 : Nm "in2" := nm_by (by decide +kernel)
theorem nm_out1 : Nm "out1" := nm_by (by decide +kernel)
theorem nm_h1 : Nm "h1" := nm_by (by decide +kernel)
theorem lst_pick (M : Store) (ys : List P) (l n : Nat) (xs : List Int) (h : M[l]? = some (.lst (numL xs))) (hx : Nums xs n) (hn : 0 < n) (at_ : Nat) (hc : 0 < ys.length) :
    ∃ (v : Nat) (y : P), y ∈ ys ∧ F__law_pick [.ref l, .p (.int at_), .p (.int ys.length)] (M ++ [.lst (ys.map D.p)]) = .ok (.p (.int v)) (M ++ [.lst (ys.map D.p)]) ∧ dIx (.ref M.length) (.p (.int v)) (M ++ [.lst (ys.map D.p)]) = some (.p y, M ++ [.lst (ys.map D.p)]) := by
  obtain ⟨v, hv, e⟩ := x_pick (M ++ [.lst (ys.map D.p)]) l n xs (get_app h _) hx hn at_ ys.length hc
  exact ⟨v, ys[v], List.getElem_mem hv, e, v_ix_l _ _ v _ _ (get_new _ _) (by rw [List.getElem?_map, List.getElem?_eq_getElem hv]; rfl)⟩
-- slots: 0:numbers 1:at 2:maps 3:lets 4:low 5:high 6:name 7:bits
noncomputable def s__law_table_1  : RS :=
  (rSet 4 (rBin dIx (rLst (rCons (rC (.p (.int 1))) (rCons (rC (.p (.int 2))) (rCons (rC (.p (.int 500))) (rCons (rC (.p (.int 9991))) rNil))))) (rCallN 3 F__law_pick (rCons (rVar 0) (rCons (rVar 1) (rCons (rC (.p (.int 4))) rNil))))))
noncomputable def s__law_table_2  : RS :=
  (rSet 5 (rBin dIx (rLst (rCons (rC (.p (.int 9999))) (rCons (rBin dAdd (rVar 4) (rC (.p (.int 8)))) rNil))) (rCallN 3 F__law_pick (rCons (rVar 0) (rCons (rBin dAdd (rVar 1) (rC (.p (.int 1)))) (rCons (rC (.p (.int 2))) rNil))))))
noncomputable def s__law_table_3  : RS :=
  (rSet 6 (rBin dIx (rLst (rCons (rC (.p (.str "d1"))) (rCons (rC (.p (.str "c_2"))) (rCons (rC (.p (.str "zz9"))) rNil)))) (rCallN 3 F__law_pick (rCons (rVar 0) (rCons (rBin dAdd (rVar 1) (rC (.p (.int 2)))) (rCons (rC (.p (.int 3))) rNil))))))
noncomputable def s__law_table_4  : RS :=
  (rSet 7 (rTup (rCons (rCallN 3 F__law_pick (rCons (rVar 0) (rCons (rBin dAdd (rVar 1) (rC (.p (.int 3)))) (rCons (rC (.p (.int 2))) rNil)))) (rCons (rCallN 3 F__law_pick (rCons (rVar 0) (rCons (rBin dAdd (rVar 1) (rC (.p (.int 4)))) (rCons (rC (.p (.int 2))) rNil)))) rNil))))
noncomputable def s__law_table_5  : RS :=
  (rRet (rTup (rCons (rBin dAdd (rTup (rCons (rC (.p (.str "door"))) (rCons (rVar 6) (rCons (rC (.p (.str "in2"))) (rCons (rC (.p (.str "out1"))) (rCons (rVar 2) (rCons (rVar 3) (rCons (rVar 4) (rCons (rVar 5) (rCons (rC (.p (.int 0))) (rCons (rC (.p (.int 0))) rNil))))))))))) (rVar 7)) (rCons (rTup rNil) rNil))))
noncomputable def m__law_table  : RS :=
  (rSeq s__law_table_1
  (rSeq s__law_table_2
  (rSeq s__law_table_3
  (rSeq s__law_table_4
  s__law_table_5))))

noncomputable def F__law_table : List D → Store → R D := selfF 8 m__law_table
theorem r__law_table : Ref 4 8 F__law_table m__law_table := ref_self 4 8 m__law_table
theorem x_law_table (M : Store) (l n : Nat) (xs : List Int) (h : M[l]? = some (.lst (numL xs))) (hx : Nums xs n) (hn : 0 < n) (at_ m le : Nat) (hm : m = 1 ∨ m = 2 ∨ m = 3) (hl : le = 1 ∨ le = 2 ∨ le = 3) :
    ∃ (t : Dr) (M' : Store), t.Plain ∧ StrT t ∧ t.n ≠ ("h1" : Str) ∧ M <+: M' ∧ F__law_table [.ref l, .p (.int at_), .p (.int m), .p (.int le)] M = .ok (.p t.T) M' := by
  obtain ⟨v1, y1, hy1, p1, i1⟩ := lst_pick M [.int 1, .int 2, .int 500, .int 9991] l n xs h hx hn at_ (by simp)
  obtain ⟨lo, rfl, hlo⟩ : ∃ lo : Nat, y1 = .int lo ∧ 1 ≤ lo ∧ lo ≤ 9991 := by
    simp only [List.mem_cons, List.not_mem_nil, or_false] at hy1
    rcases hy1 with rfl | rfl | rfl | rfl
    · exact ⟨1, rfl, by omega⟩
    · exact ⟨2, rfl, by omega⟩
    · exact ⟨500, rfl, by omega⟩
    · exact ⟨9991, rfl, by omega⟩
  obtain ⟨S1, hS1⟩ : ∃ S1 : Store, S1 = M ++ [.lst ([P.int 1, .int 2, .int 500, .int 9991].map D.p)] := ⟨_, rfl⟩
  rw [← hS1] at p1 i1
  have q1 : M <+: S1 := by rw [hS1]; exact List.prefix_append _ _
  obtain ⟨v2, y2, hy2, p2, i2⟩ := lst_pick S1 [.int 9999, .int ((lo : Int) + 8)] l n xs (pfx_get q1 h) hx hn (at_ + 1) (by simp)
  obtain ⟨hi, rfl, hhi⟩ : ∃ hi : Nat, y2 = .int hi ∧ lo + 8 ≤ hi ∧ hi ≤ 9999 := by
    simp only [List.mem_cons, List.not_mem_nil, or_false] at hy2
    rcases hy2 with rfl | rfl
    · exact ⟨9999, rfl, by omega⟩
    · exact ⟨lo + 8, by simp, by omega⟩
  obtain ⟨S2, hS2⟩ : ∃ S2 : Store, S2 = S1 ++ [.lst ([P.int 9999, .int ((lo : Int) + 8)].map D.p)] := ⟨_, rfl⟩
  rw [← hS2] at p2 i2
  have q2 : S1 <+: S2 := by rw [hS2]; exact List.prefix_append _ _
  obtain ⟨v3, y3, hy3, p3, i3⟩ := lst_pick S2 [.str "d1", .str "c_2", .str "zz9"] l n xs (pfx_get (q1.trans q2) h) hx hn (at_ + 2) (by simp)
  obtain ⟨nm, rfl, hnm, hh1, hso⟩ : ∃ nm : Str, y3 = .str nm ∧ Nm nm ∧ nm ≠ ("h1" : Str) ∧ PyData.strOk nm = true := by
    simp only [List.mem_cons, List.not_mem_nil, or_false] at hy3
    rcases hy3 with rfl | rfl | rfl
    · exact ⟨_, rfl, nm_by (by decide +kernel), by decide +kernel, by decide +kernel⟩
    · exact ⟨_, rfl, nm_by (by decide +kernel), by decide +kernel, by decide +kernel⟩
    · exact ⟨_, rfl, nm_by (by decide +kernel), by decide +kernel, by decide +kernel⟩
  obtain ⟨S3, hS3⟩ : ∃ S3 : Store, S3 = S2 ++ [.lst ([P.str "d1", .str "c_2", .str "zz9"].map D.p)] := ⟨_, rfl⟩
  rw [← hS3] at p3 i3
  have q3 : S2 <+: S3 := by rw [hS3]; exact List.prefix_append _ _
  have g3 := pfx_get ((q1.trans q2).trans q3) h
  obtain ⟨b, hb, p4⟩ := x_pick S3 l n xs g3 hx hn (at_ + 3) 2 (by omega)
  obtain ⟨t, ht, p5⟩ := x_pick S3 l n xs g3 hx hn (at_ + 4) 2 (by omega)
  have ec : ∀ j : Nat, ((at_ + j : Nat) : Int) = (at_ : Int) + j := fun j => by omega
  rw [ec] at p2 p3 p4 p5
  have ok : Item.Ok (.door nm "in2" "out1" m le lo hi 0 0 b t) := .door hnm nm_in2 nm_out1 (by omega) (by omega) (by omega) (by omega) (by omega) (by omega) (by omega) (by omega)
  have ad : ∀ (xs ys : List P), xs.length + ys.length ≤ 100 → dAdd (.p (.tup xs)) (.p (.tup ys)) S3 = some (.p (.tup (xs ++ ys)), S3) := fun xs ys h => if_pos (le_line (by omega))
  have a1 := ad [.str "door", .str nm, .str "in2", .str "out1", .int m, .int le, .int lo, .int hi, .int 0, .int 0] [.int b, .int t] (by simp)
  simp only [List.cons_append, List.nil_append] at a1
  have p1' : F__law_pick [.ref l, .p (.int at_), .p (.int 4)] S1 = .ok (.p (.int v1)) S1 := p1
  have p2' : F__law_pick [.ref l, .p (.int ((at_ : Int) + 1)), .p (.int 2)] S2 = .ok (.p (.int v2)) S2 := p2
  have p3' : F__law_pick [.ref l, .p (.int ((at_ : Int) + 2)), .p (.int 3)] S3 = .ok (.p (.int v3)) S3 := p3
  have p4' : F__law_pick [.ref l, .p (.int ((at_ : Int) + 3)), .p (.int 2)] S3 = .ok (.p (.int b)) S3 := p4
  have p5' : F__law_pick [.ref l, .p (.int ((at_ : Int) + 4)), .p (.int 2)] S3 = .ok (.p (.int t)) S3 := p5
  refine ⟨⟨nm, "in2", "out1", m, le, lo, hi, 0, 0, b, t⟩, S3, ?_, ⟨hso, show PyData.strOk "in2" = true by decide +kernel, show PyData.strOk "out1" = true by decide +kernel⟩, hh1, (q1.trans q2).trans q3, selfF_ok ?_ (pfx_len ((q1.trans q2).trans q3))⟩
  · exact ⟨⟨⟨ok, by show ("in2" : Str) ≠ "out1"; decide +kernel⟩, ⟨hm, hl, hlo.1, by show lo ≤ hi; omega, hhi.2, by show 0 ≤ 99; omega⟩⟩, rfl, rfl, hhi.1⟩
  · simp only [List.map_cons, List.map_nil] at hS1 hS2 hS3
    simp [m__law_table, s__law_table_1, s__law_table_2, s__law_table_3, s__law_table_4, s__law_table_5, ← hS1, p1', i1, ← hS2, p2', i2, ← hS3, p3', i3, p4', p5', mkTup, allP, a1, Dr.T, Dr.pp, Dr.it, Item.toP]

def wrongP (t : Dr) : Nat → P
  | 0 => ({ t with sp := 3 } : Dr).T
  | 1 => ({ t with ke := 1 } : Dr).T
  | 2 => .tup [t.pp, .tup [.tup [.int t.lo, .tup [.str "h1", .int 1]]]]
  | 3 => ({ t with hi := t.lo + 7 } : Dr).T
  | 4 => ({ t with m := 4 } : Dr).T
  | 5 => ({ t with l := 0 } : Dr).T
  | _ => ({ t with lo := 0, hi := 9999 } : Dr).T
def flds (t : Dr) : List P := [.str "door", .str t.n, .str t.i, .str t.o, .int t.m, .int t.l, .int t.lo, .int t.hi, .int t.ke, .int t.sp, .int t.b, .int t.t]
theorem pp_flds (t : Dr) : t.pp = .tup (flds t) := rfl
theorem sl_to (t : Dr) (j : Nat) (hj : j ≤ 12) (M : Store) : dSl (.p (.tup (flds t))) none (some (j : Int)) M = some (.p (.tup ((flds t).take j)), M) := by
  show some (D.p (P.tup (cutL (flds t) none (some (j : Int)))), M) = _
  rw [cut_take _ j (by simpa [flds] using hj)]
theorem sl_from (t : Dr) (j : Nat) (hj : j ≤ 12) (M : Store) : dSl (.p (.tup (flds t))) (some (j : Int)) none M = some (.p (.tup ((flds t).drop j)), M) := by
  show some (D.p (P.tup (cutL (flds t) (some (j : Int)) none)), M) = _
  rw [cut_drop _ j (by simpa [flds] using hj)]
theorem add_t (xs ys : List P) (h : xs.length + ys.length ≤ 100) (M : Store) : dAdd (.p (.tup xs)) (.p (.tup ys)) M = some (.p (.tup (xs ++ ys)), M) := if_pos (le_line (by omega))
/-- door[:j] + mid + door[k:] -/
theorem put_mid (t : Dr) (j k : Nat) (mid : List P) (hj : j ≤ 12) (hk : k ≤ 12) (hm : mid.length ≤ 12) (M : Store) :
    dSl (.p (.tup (flds t))) none (some (j : Int)) M = some (.p (.tup ((flds t).take j)), M) ∧ dAdd (.p (.tup ((flds t).take j))) (.p (.tup mid)) M = some (.p (.tup ((flds t).take j ++ mid)), M) ∧
      dSl (.p (.tup (flds t))) (some (k : Int)) none M = some (.p (.tup ((flds t).drop k)), M) ∧ dAdd (.p (.tup ((flds t).take j ++ mid))) (.p (.tup ((flds t).drop k))) M = some (.p (.tup ((flds t).take j ++ mid ++ (flds t).drop k)), M) := by
  have l12 : (flds t).length = 12 := rfl
  refine ⟨sl_to t j hj M, add_t _ _ ?_ M, sl_from t k hk M, add_t _ _ ?_ M⟩ <;> simp [l12] <;> omega
-- slots: 0:table 1:kind 2:door
noncomputable def s__law_wrong_1  : RS :=
  (rRet (rTup (rCons (rBin dAdd (rBin dAdd (rSl (rVar 2) rNoPart (rPart (rC (.p (.int 9))))) (rTup (rCons (rC (.p (.int 3))) rNil))) (rSl (rVar 2) (rPart (rC (.p (.int 10)))) rNoPart)) (rCons (rTup rNil) rNil))))
noncomputable def s__law_wrong_2  : RS :=
  (rRet (rTup (rCons (rBin dAdd (rBin dAdd (rSl (rVar 2) rNoPart (rPart (rC (.p (.int 8))))) (rTup (rCons (rC (.p (.int 1))) rNil))) (rSl (rVar 2) (rPart (rC (.p (.int 9)))) rNoPart)) (rCons (rTup rNil) rNil))))
noncomputable def s__law_wrong_3  : RS :=
  (rRet (rTup (rCons (rVar 2) (rCons (rTup (rCons (rTup (rCons (rBin dIx (rVar 2) (rC (.p (.int 6)))) (rCons (rTup (rCons (rC (.p (.str "h1"))) (rCons (rC (.p (.int 1))) rNil))) rNil))) rNil)) rNil))))
noncomputable def s__law_wrong_4  : RS :=
  (rRet (rTup (rCons (rBin dAdd (rBin dAdd (rSl (rVar 2) rNoPart (rPart (rC (.p (.int 7))))) (rTup (rCons (rBin dAdd (rBin dIx (rVar 2) (rC (.p (.int 6)))) (rC (.p (.int 7)))) rNil))) (rSl (rVar 2) (rPart (rC (.p (.int 8)))) rNoPart)) (rCons (rTup rNil) rNil))))
noncomputable def s__law_wrong_5  : RS :=
  (rRet (rTup (rCons (rBin dAdd (rBin dAdd (rSl (rVar 2) rNoPart (rPart (rC (.p (.int 4))))) (rTup (rCons (rC (.p (.int 4))) rNil))) (rSl (rVar 2) (rPart (rC (.p (.int 5)))) rNoPart)) (rCons (rTup rNil) rNil))))
noncomputable def s__law_wrong_6  : RS :=
  (rRet (rTup (rCons (rBin dAdd (rBin dAdd (rSl (rVar 2) rNoPart (rPart (rC (.p (.int 5))))) (rTup (rCons (rC (.p (.int 0))) rNil))) (rSl (rVar 2) (rPart (rC (.p (.int 6)))) rNoPart)) (rCons (rTup rNil) rNil))))
noncomputable def s__law_wrong_7  : RS :=
  (rSet 2 (rBin dIx (rVar 0) (rC (.p (.int 0)))))
noncomputable def s__law_wrong_8  : RS :=
  (rIfS (rTst asBool (rBin dEq (rVar 1) (rC (.p (.int 0)))))
  s__law_wrong_1
  rSkip)
noncomputable def s__law_wrong_9  : RS :=
  (rIfS (rTst asBool (rBin dEq (rVar 1) (rC (.p (.int 1)))))
  s__law_wrong_2
  rSkip)
noncomputable def s__law_wrong_10  : RS :=
  (rIfS (rTst asBool (rBin dEq (rVar 1) (rC (.p (.int 2)))))
  s__law_wrong_3
  rSkip)
noncomputable def s__law_wrong_11  : RS :=
  (rIfS (rTst asBool (rBin dEq (rVar 1) (rC (.p (.int 3)))))
  s__law_wrong_4
  rSkip)
noncomputable def s__law_wrong_12  : RS :=
  (rIfS (rTst asBool (rBin dEq (rVar 1) (rC (.p (.int 4)))))
  s__law_wrong_5
  rSkip)
noncomputable def s__law_wrong_13  : RS :=
  (rIfS (rTst asBool (rBin dEq (rVar 1) (rC (.p (.int 5)))))
  s__law_wrong_6
  rSkip)
noncomputable def s__law_wrong_14  : RS :=
  (rRet (rTup (rCons (rBin dAdd (rBin dAdd (rSl (rVar 2) rNoPart (rPart (rC (.p (.int 6))))) (rTup (rCons (rC (.p (.int 0))) (rCons (rC (.p (.int 9999))) rNil)))) (rSl (rVar 2) (rPart (rC (.p (.int 8)))) rNoPart)) (rCons (rTup rNil) rNil))))
noncomputable def m__law_wrong  : RS :=
  (rSeq s__law_wrong_7
  (rSeq s__law_wrong_8
  (rSeq s__law_wrong_9
  (rSeq s__law_wrong_10
  (rSeq s__law_wrong_11
  (rSeq s__law_wrong_12
  (rSeq s__law_wrong_13
  s__law_wrong_14)))))))

noncomputable def F__law_wrong : List D → Store → R D := selfF 3 m__law_wrong
theorem r__law_wrong : Ref 2 3 F__law_wrong m__law_wrong := ref_self 2 3 m__law_wrong
theorem x_law_wrong (t : Dr) (k : Nat) (hk : k < 7) (M : Store) : F__law_wrong [.p t.T, .p (.int k)] M = .ok (.p (wrongP t k)) M := by
  refine selfF_ok ?_ (Nat.le_refl _)
  have i0 : dIx (.p t.T) (.p (.int 0)) M = some (.p (.tup (flds t)), M) := rfl
  match k, hk with
  | 0, _ =>
    obtain ⟨a, b, c, d⟩ := put_mid t 9 10 [.int 3] (by omega) (by omega) (by simp) M
    simp at a b c d
    simp [m__law_wrong, s__law_wrong_7, s__law_wrong_8, s__law_wrong_1, i0, asPart, a, b, c, d, mkTup, allP, wrongP]
    rfl
  | 1, _ =>
    obtain ⟨a, b, c, d⟩ := put_mid t 8 9 [.int 1] (by omega) (by omega) (by simp) M
    simp at a b c d
    simp [m__law_wrong, s__law_wrong_7, s__law_wrong_8, s__law_wrong_9, s__law_wrong_2, i0, asPart, a, b, c, d, mkTup, allP, wrongP]
    rfl
  | 2, _ =>
    have i6 : dIx (.p (.tup (flds t))) (.p (.int 6)) M = some (.p (.int t.lo), M) := rfl
    simp [m__law_wrong, s__law_wrong_7, s__law_wrong_8, s__law_wrong_9, s__law_wrong_10, s__law_wrong_3, i0, i6, mkTup, allP, wrongP]
    rfl
  | 3, _ =>
    have i6 : dIx (.p (.tup (flds t))) (.p (.int 6)) M = some (.p (.int t.lo), M) := rfl
    obtain ⟨a, b, c, d⟩ := put_mid t 7 8 [.int ((t.lo : Int) + 7)] (by omega) (by omega) (by simp) M
    simp at a b c d
    simp [m__law_wrong, s__law_wrong_7, s__law_wrong_8, s__law_wrong_9, s__law_wrong_10, s__law_wrong_11, s__law_wrong_4, i0, i6, asPart, a, b, c, d, mkTup, allP, wrongP]
    rfl
  | 4, _ =>
    obtain ⟨a, b, c, d⟩ := put_mid t 4 5 [.int 4] (by omega) (by omega) (by simp) M
    simp at a b c d
    simp [m__law_wrong, s__law_wrong_7, s__law_wrong_8, s__law_wrong_9, s__law_wrong_10, s__law_wrong_11, s__law_wrong_12, s__law_wrong_5, i0, asPart, a, b, c, d, mkTup, allP, wrongP]
    rfl
  | 5, _ =>
    obtain ⟨a, b, c, d⟩ := put_mid t 5 6 [.int 0] (by omega) (by omega) (by simp) M
    simp at a b c d
    simp [m__law_wrong, s__law_wrong_7, s__law_wrong_8, s__law_wrong_9, s__law_wrong_10, s__law_wrong_11, s__law_wrong_12, s__law_wrong_13, s__law_wrong_6, i0, asPart, a, b, c, d, mkTup, allP, wrongP]
    rfl
  | 6, _ =>
    obtain ⟨a, b, c, d⟩ := put_mid t 6 8 [.int 0, .int 9999] (by omega) (by omega) (by simp) M
    simp at a b c d
    simp [m__law_wrong, s__law_wrong_7, s__law_wrong_8, s__law_wrong_9, s__law_wrong_10, s__law_wrong_11, s__law_wrong_12, s__law_wrong_13, s__law_wrong_14, i0, asPart, a, b, c, d, mkTup, allP, wrongP]
    rfl

theorem door_ok {t : Dr} (h : t.Plain) (m l lo hi ke sp : Nat) (h1 : m ≤ 99999) (h2 : l ≤ 99999) (h3 : lo ≤ 99999) (h4 : hi ≤ 99999) (h5 : ke ≤ 1) (h6 : sp ≤ 99999) : ({ t with m := m, l := l, lo := lo, hi := hi, ke := ke, sp := sp } : Dr).Ok := by
  refine ⟨?_, h.ok.ne⟩
  have hh := h.ok.it
  unfold Dr.it at hh ⊢
  cases hh with
  | door hn hi' ho _ _ _ _ _ _ hb ht => exact .door hn hi' ho h1 h2 h3 h4 h5 h6 hb ht
/-- a table that is none -/
theorem plain_none {d : Dr} (h : d.Ok) (ops : P) (M : Store) (hb : F_has_fit_numbers [.p d.pp] M = .ok (.p (.bl false)) M) : F_check_plain [.p (.tup [d.pp, ops])] M = .ex "BadTable" none M := by
  have e := x_check_bad (x_table h ops false M hb fun z => by cases z)
  exact selfF_ex (by simp [m_check_plain, s_check_plain_3, e]) (Nat.le_refl _)
/-- a table with a span, keeps or opens -/
theorem plain_more {d : Dr} (h : d.Good) (ops : List P) (M : Store) (ho : F_are_opens_of [.p d.pp, .p (.tup ops)] M = .ok (.p (.bl true)) M) (hb : d.sp ≠ 0 ∨ d.ke ≠ 0 ∨ ops ≠ []) : F_check_plain [.p (.tup [d.pp, .tup ops])] M = .ex "BadTable" none M := by
  have e := x_check_good (x_table h.ok (.tup ops) true M (x_fit_good h.fit M) fun _ => ho)
  have g2 := x_ports (d := d) (.tup ops) M
  refine selfF_ex ?_ (Nat.le_refl _)
  simp only [Dr.pp, Dr.it, Item.toP] at e g2
  by_cases h1 : d.sp = 0
  · by_cases h2 : d.ke = 0
    · have h3 : ops ≠ [] := by
        rcases hb with z | z | z
        · exact absurd h1 z
        · exact absurd h2 z
        · exact z
      simp [h1, h2] at e g2
      simp [m_check_plain, s_check_plain_3, s_check_plain_4, s_check_plain_5, s_check_plain_6, s_check_plain_1, Dr.pp, Dr.it, Item.toP, e, g2, atI, ixN, c_SPAN, c_KEEPS, h1, h2, h3]
    · simp [h1] at e g2
      simp [m_check_plain, s_check_plain_3, s_check_plain_4, s_check_plain_5, s_check_plain_6, s_check_plain_1, Dr.pp, Dr.it, Item.toP, e, g2, atI, ixN, c_SPAN, c_KEEPS, h1, h2]
  · simp [m_check_plain, s_check_plain_3, s_check_plain_4, s_check_plain_5, s_check_plain_6, s_check_plain_1, Dr.pp, Dr.it, Item.toP, e, g2, atI, ixN, c_SPAN, c_KEEPS, h1]
/-- a table of few ports -/
theorem plain_few {d : Dr} (h : d.Good) (M : Store) (h1 : d.sp = 0) (h2 : d.ke = 0) (h3 : d.hi < d.lo + 8) : F_check_plain [.p d.T] M = .ex "BadTable" none M := by
  have e := x_good h M
  have g2 := x_ports (d := d) (.tup []) M
  refine selfF_ex ?_ (Nat.le_refl _)
  simp [Dr.T, Dr.pp, Dr.it, Item.toP, h1, h2] at e g2
  have c1 : ((d.hi : Int) - d.lo + 1 < 9) := by omega
  simp [m_check_plain, s_check_plain_3, s_check_plain_4, s_check_plain_5, s_check_plain_6, s_check_plain_7, s_check_plain_2, Dr.T, Dr.pp, Dr.it, Item.toP, e, g2, atI, ixN, c_SPAN, c_KEEPS, c_LEAST_PORTS, h1, h2, c1]
theorem x_open1 {t : Dr} (h : t.Plain) (hn : t.n ≠ ("h1" : Str)) (M : Store) : F_are_opens_of [.p t.pp, .p (.tup [.tup [.int t.lo, .tup [.str "h1", .int 1]]])] M = .ok (.p (.bl true)) M := by
  have lo1 := h.fit.lo; have le := h.fit.le
  have n1 := x_told_name nm_h1 M
  have ne : ¬ (("h1" : Str) = t.n) := fun z => hn z.symm
  have e1 : F_is_name [.p (.str "h1")] M = .ok (.p (.bl true)) M := selfF_ok (by simp [m_is_name, n1]) (Nat.le_refl _)
  have e2 : F_is_port [.p (.int 1)] M = .ok (.p (.bl true)) M := selfF_ok (by simp [m_is_port, F_is_between, between, c_LEAST_PORT, c_GREATEST_PORT]) (Nat.le_refl _)
  have e3 : F_is_end [.p (.tup [.str "h1", .int 1])] M = .ok (.p (.bl true)) M := selfF_ok (by simp [m_is_end, x_tuple_of, atI, ixN, e1, e2]) (Nat.le_refl _)
  have c1 : (t.lo : Int) ≤ t.hi := by omega
  have e4 : F_is_open_of [.p t.pp, .p (.tup [.int t.lo, .tup [.str "h1", .int 1]])] M = .ok (.p (.bl true)) M := by
    refine selfF_ok ?_ (Nat.le_refl _)
    simp [m_is_open_of, s_is_open_of_2, s_is_open_of_3, s_is_open_of_4, x_tuple_of, Dr.pp, Dr.it, Item.toP, F_is_between, between, c1, e3, atI, ixN, ne]
  refine selfF_ok ?_ (Nat.le_refl _)
  simp [m_are_opens_of, s_are_opens_of_7, s_are_opens_of_8, s_are_opens_of_9, isaT, c_MOST_OPENS, enumD, List.range_succ, mkTup, allP, b_are_opens_of_6, s_are_opens_of_4, s_are_opens_of_5, e4]
theorem mn4 : mnB 4 = false := by decide
theorem mn0 : mnB 0 = false := by decide
theorem x_plain_bad {t : Dr} (h : t.Plain) (hn : t.n ≠ ("h1" : Str)) (k : Nat) (hk : k < 7) (M : Store) : F_check_plain [.p (wrongP t k)] M = .ex "BadTable" none M := by
  have f1 := h.fit.m; have f2 := h.fit.l; have f3 := h.fit.lo; have f4 := h.fit.le; have f5 := h.fit.hi; have f6 := h.nine; have z1 := h.sp0; have z2 := h.ke0
  have mb : mnB t.m = true := decide_eq_true f1
  have lb : mnB t.l = true := decide_eq_true f2
  match k, hk with
  | 0, _ => exact plain_more (d := { t with sp := 3 }) ⟨door_ok h t.m t.l t.lo t.hi t.ke 3 (by omega) (by omega) (by omega) (by omega) (by omega) (by omega), ⟨f1, f2, f3, f4, f5, by show 3 ≤ 99; omega⟩⟩ [] M (x_opens0 _ M) (.inl (by show 3 ≠ 0; omega))
  | 1, _ => exact plain_more (d := { t with ke := 1 }) ⟨door_ok h t.m t.l t.lo t.hi 1 t.sp (by omega) (by omega) (by omega) (by omega) (by omega) (by omega), ⟨f1, f2, f3, f4, f5, h.fit.sp⟩⟩ [] M (x_opens0 _ M) (.inr (.inl (by show 1 ≠ 0; omega)))
  | 2, _ => exact plain_more (d := t) h.toGood [.tup [.int t.lo, .tup [.str "h1", .int 1]]] M (x_open1 h hn M) (.inr (.inr (by simp)))
  | 3, _ => exact plain_few (d := { t with hi := t.lo + 7 }) ⟨door_ok h t.m t.l t.lo (t.lo + 7) t.ke t.sp (by omega) (by omega) (by omega) (by omega) (by omega) (by omega), ⟨f1, f2, f3, by show t.lo ≤ t.lo + 7; omega, by show t.lo + 7 ≤ 9999; omega, h.fit.sp⟩⟩ M z1 z2 (by show t.lo + 7 < t.lo + 8; omega)
  | 4, _ => exact plain_none (d := { t with m := 4 }) (door_ok h 4 t.l t.lo t.hi t.ke t.sp (by omega) (by omega) (by omega) (by omega) (by omega) (by omega)) (.tup []) M (x_fit_m (d := { t with m := 4 }) mn4 M)
  | 5, _ => exact plain_none (d := { t with l := 0 }) (door_ok h t.m 0 t.lo t.hi t.ke t.sp (by omega) (by omega) (by omega) (by omega) (by omega) (by omega)) (.tup []) M (x_fit_l (d := { t with l := 0 }) mb mn0 M)
  | 6, _ => exact plain_none (d := { t with lo := 0, hi := 9999 }) (door_ok h t.m t.l 0 9999 t.ke t.sp (by omega) (by omega) (by omega) (by omega) (by omega) (by omega)) (.tup []) M (x_fit_lo (d := { t with lo := 0, hi := 9999 }) mb lb rfl M)

theorem x_row_bad (l : Nat) (ps : List P) (M : Store) (h : M[l]? = some (.lst (ps.map D.p))) (h1 : 1 ≤ ps.length) (h6 : ps.length ≤ 6) (at_ : Nat) (ha : at_ < ps.length) (hg : ∀ i (hi : i < ps.length), i < at_ → F_check_plain [.p ps[i]] M = .ok (.p .non) M) (hb : F_check_plain [.p ps[at_]] M = .ex "BadTable" none M) :
    F_join_doors [.ref l] M = .ex "BadTable" none M := by
  have hr : RowIs (.ref l) ps M := .inr ⟨l, rfl, h⟩
  have e0 := hr.len
  have e2 := x_is_row hr
  have e1 := walk_ref l _ M h
  have c1 : (1 : Int) ≤ ((ps.length : Nat) : Int) := by omega
  have c2 : ((ps.length : Nat) : Int) ≤ 6 := by omega
  have key := forL_find (k := some (l, .lst (ps.map D.p))) (g := gNm 1) (body := s_check_row_of_doors_2) (ps.map D.p) (fun i ρ M' => i ≤ at_ ∧ M' = M ∧ ∃ z, ρ = [some (.ref l), z])
    (fun o => ∃ ρ, o = .ex "BadTable" none ρ M) (fun i ρ M' ⟨_, e, _⟩ => by rw [e]; exact h) (by
      rintro i x ρ M1 hx ⟨hi, rfl, z, rfl⟩
      have hil : i < ps.length := by omega
      rw [List.getElem?_map, List.getElem?_eq_getElem hil] at hx
      cases hx
      by_cases e : i = at_
      · subst e
        exact ⟨_, _, rfl, .inr (.inr (.inr ⟨"BadTable", none, [some (.ref l), some (.p ps[i])], M1, by simp [s_check_row_of_doors_2, hb], _, rfl⟩))⟩
      · have g := hg i hil (by omega)
        exact ⟨_, _, rfl, .inl ⟨[some (.ref l), some (.p ps[i])], M1, .inl (by simp [s_check_row_of_doors_2, g]), by omega, rfl, some (.p ps[i]), rfl⟩⟩) (by
      rintro ρ M1 ⟨hi, _⟩
      rw [List.length_map] at hi
      omega) (ρ := [some (.ref l), none]) (M := M) ⟨Nat.zero_le _, rfl, none, rfl⟩
  obtain ⟨ρ', k1⟩ := key
  have e : F_check_row_of_doors [.ref l] M = .ex "BadTable" none M := by
    refine selfF_ex ?_ (Nat.le_refl _)
    simp [m_check_row_of_doors, s_check_row_of_doors_3, s_check_row_of_doors_4, e0, e2, c1, c2, c_MOST_JOINED, e1, k1]
  exact selfF_ex (by simp [m_join_doors, s_join_doors_4, e]) (Nat.le_refl _)
theorem x_row_long (l : Nat) (ps : List P) (M : Store) (h : M[l]? = some (.lst (ps.map D.p))) (h7 : ps.length = 7) : F_join_doors [.ref l] M = .ex "BadTable" none M := by
  have hr : RowIs (.ref l) ps M := .inr ⟨l, rfl, h⟩
  have e0 := hr.len
  have e2 := x_is_row hr
  rw [h7] at e0
  have e : F_check_row_of_doors [.ref l] M = .ex "BadTable" none M := by
    refine selfF_ex ?_ (Nat.le_refl _)
    simp [m_check_row_of_doors, s_check_row_of_doors_3, s_check_row_of_doors_1, e0, e2, c_MOST_JOINED]
  exact selfF_ex (by simp [m_join_doors, s_join_doors_4, e]) (Nat.le_refl _)
/-- the error's name, as the law looks at it -/
theorem told_bad {B : Store → R D} {M : Store} (h : B M = .ex "BadTable" none M) : ∃ l M', F__law_told B [] M = .ok (.tup [.p (.str "error"), .ref l]) M' ∧ M <+: M' ∧ M'[l]? = some (.lst [.p (.str "BadTable")]) := by
  refine ⟨M.length + 2, M ++ [.lst wordsL, .lst [.p (.bl true), .p (.bl false)], .lst [.p (.str "BadTable")]], ?_, List.prefix_append _ _, by simp⟩
  simp [F__law_told, h]
theorem err_eq (l k : Nat) (M : Store) (h1 : M[l]? = some (.lst [.p (.str "BadTable")])) (h2 : M[k]? = some (.lst [.p (.str "BadTable")])) : eqvD (.tup [.p (.str "error"), .ref l]) (.tup [.p (.str "error"), .ref k]) M = some true := by
  have a : ∀ j, M[j]? = some (.lst [.p (.str "BadTable")]) → datN M 8 (.tup [.p (.str "error"), .ref j]) = some (.tuple [.str "error", .list [.str "BadTable"]]) := fun j hj => by
    simp [datN, allD, hj, pyP]
  unfold eqvD
  rw [a l h1, a k h2]
  decide +kernel
theorem err_ne (l k : Nat) (M : Store) (h1 : M[l]? = some (.lst [.p (.str "BadTable")])) (h2 : M[k]? = some (.lst [.p (.str "BadTable")])) : dNeX (.tup [.p (.str "error"), .ref l]) (.tup [.p (.str "error"), .ref k]) M = some (.p (.bl false), M) := by
  unfold dNeX
  rw [err_eq l k M h1 h2]
  rfl
theorem err_eqX (l k : Nat) (M : Store) (h1 : M[l]? = some (.lst [.p (.str "BadTable")])) (h2 : M[k]? = some (.lst [.p (.str "BadTable")])) : dEqX (.tup [.p (.str "error"), .ref l]) (.tup [.p (.str "error"), .ref k]) M = some (.p (.bl true), M) := by
  unfold dEqX
  rw [err_eq l k M h1 h2]
  rfl
/-- lists of the same tables are equal -/
theorem lay_T {t : Dr} (h : StrT t) : PyData.canLay0 (pyP t.T) = true := by
  have hd : PyData.strOk "door" = true := by decide +kernel
  simp [Dr.T, Dr.pp, Dr.it, Item.toP, pyP, pyPs, PyData.canLay0, PyData.canLayAll0, h.n, h.i, h.o, hd]
theorem depth_T (t : Dr) : PyData.depth (pyP t.T) ≤ 10 := by
  simp [Dr.T, Dr.pp, Dr.it, Item.toP, pyP, pyPs, PyData.depth, PyData.depthAll]
theorem dat_row (M : Store) (n : Nat) : ∀ ts : List Dr, allD (datN M (n + 1)) (toL ts) = some (ts.map fun t => pyP t.T)
  | [] => rfl
  | t :: ts => by
    have ih := dat_row M n ts
    show ((datN M (n + 1) (.p t.T)).bind fun y => (allD (datN M (n + 1)) (toL ts)).map fun r => y :: r) = _
    rw [ih]
    rfl
theorem lay_row : ∀ ts : List Dr, (∀ t ∈ ts, StrT t) → PyData.canLayAll0 (ts.map fun t => pyP t.T) = true ∧ PyData.depthAll (ts.map fun t => pyP t.T) ≤ 10
  | [], _ => by simp [PyData.canLayAll0, PyData.depthAll]
  | t :: ts, h => by
    obtain ⟨a, b⟩ := lay_row ts fun x hx => h x (List.mem_cons_of_mem _ hx)
    have c := lay_T (h t List.mem_cons_self)
    have d := depth_T t
    simp [PyData.canLayAll0, PyData.depthAll, a, c]
    omega
theorem row_eq (l k : Nat) (ts : List Dr) (M : Store) (hs : ∀ t ∈ ts, StrT t) (h1 : M[l]? = some (.lst (toL ts))) (h2 : M[k]? = some (.lst (toL ts))) : dNeX (.ref l) (.ref k) M = some (.p (.bl false), M) := by
  obtain ⟨a, b⟩ := lay_row ts hs
  have c : PyData.canLay0 (.list (ts.map fun t => pyP t.T)) = true := by simpa [PyData.canLay0] using a
  have e1 : SeqAt.shaped (.list (ts.map fun t => pyP t.T)) = true := by
    unfold SeqAt.shaped
    rw [c, Bool.true_and, decide_eq_true_eq]
    simp [PyData.depth]
    omega
  have d : ∀ j, M[j]? = some (.lst (toL ts)) → datN M 8 (.ref j) = some (.list (ts.map fun t => pyP t.T)) := fun j hj => by
    unfold datN
    simp only [hj]
    rw [dat_row M 6 ts]
    rfl
  have e : eqvD (.ref l) (.ref k) M = some true := by
    unfold eqvD
    rw [d l h1, d k h2]
    simp only [e1, Bool.and_self, if_true]
    rw [SeqAt.eqv_refl _ c]
  unfold dNeX
  rw [e]
  rfl

theorem fit_T (t : Dr) : fitQ 8 t.T := by
  simp [Dr.T, Dr.pp, Dr.it, Item.toP, fitQ]
theorem fit_row (ts : List Dr) (h : ts.length ≤ 1000) : fitQ 9 (.tup (ts.map Dr.T)) := by
  refine ⟨by rw [List.length_map]; omega, fun y hy => ?_⟩
  obtain ⟨t, _, rfl⟩ := List.mem_map.mp hy
  exact fit_T t
-- slots: 0:script 1:numbers 2:a 3:more 4:row 5:k 6:due 7:handed 8:at 9:kind 10:b 11:j 12:bad 13:one 14:other 15:stricter
noncomputable def s_law_1  : RS :=
  (rRet (rC (.p (.bl false))))
noncomputable def s_law_2  : RS :=
  (rSet 13 (rCallN 4 F__law_table (rCons (rVar 1) (rCons (rBin dMod (rBin dMul (rC (.p (.int 5))) (rCB cInt (rCons (rBin dAdd (rVar 2) (rVar 10)) rNil))) (rC (.p (.int 30)))) (rCons (rBin dAdd (rC (.p (.int 1))) (rBin dDiv (rVar 2) (rC (.p (.int 3))))) (rCons (rBin dAdd (rC (.p (.int 1))) (rBin dMod (rCB cInt (rCons (rVar 2) rNil)) (rC (.p (.int 3))))) rNil))))))
noncomputable def s_law_3  : RS :=
  (rSet 14 (rCallN 4 F__law_table (rCons (rVar 1) (rCons (rBin dAdd (rC (.p (.int 30))) (rBin dMod (rBin dMul (rC (.p (.int 5))) (rCB cInt (rCons (rBin dMul (rVar 2) (rVar 10)) rNil))) (rC (.p (.int 30))))) (rCons (rBin dAdd (rC (.p (.int 1))) (rBin dDiv (rVar 10) (rC (.p (.int 3))))) (rCons (rBin dAdd (rC (.p (.int 1))) (rBin dMod (rCB cInt (rCons (rVar 10) rNil)) (rC (.p (.int 3))))) rNil))))))
noncomputable def s_law_4  : RS :=
  (rSet 6 (rCallN 1 F__law_joined (rCons (rTup (rCons (rVar 13) (rCons (rVar 14) rNil))) rNil)))
noncomputable def s_law_5  : RS :=
  (rIfS (rtNot (rTst truthD (rCallN 2 (Fp_like 9) (rCons (rCallN 1 F_join_doors (rCons (rTup (rCons (rVar 13) (rCons (rVar 14) rNil))) rNil)) (rCons (rVar 6) rNil)))))
  s_law_1
  rSkip)
noncomputable def b_law_6  : RS :=
  (rSeq s_law_2
  (rSeq s_law_3
  (rSeq s_law_4
  s_law_5)))
noncomputable def s_law_7  : RS :=
  (rForR rng1 (rCons (rC (.p (.int 9))) rNil) (gNm 10)
  b_law_6)
noncomputable def s_law_8  : RS :=
  (rExpr (rLM mAppend (rVar 4) (rCons (rCallN 4 F__law_table (rCons (rVar 3) (rCons (rBin dAdd (rC (.p (.int 1))) (rBin dMul (rC (.p (.int 7))) (rVar 5))) (rCons (rBin dAdd (rC (.p (.int 1))) (rCallN 3 F__law_pick (rCons (rVar 3) (rCons (rBin dAdd (rC (.p (.int 6))) (rBin dMul (rC (.p (.int 7))) (rVar 5))) (rCons (rC (.p (.int 3))) rNil))))) (rCons (rBin dAdd (rC (.p (.int 1))) (rCallN 3 F__law_pick (rCons (rVar 3) (rCons (rBin dAdd (rC (.p (.int 7))) (rBin dMul (rC (.p (.int 7))) (rVar 5))) (rCons (rC (.p (.int 3))) rNil))))) rNil))))) rNil)))
noncomputable def s_law_9  : RS :=
  (rRet (rC (.p (.bl false))))
noncomputable def s_law_10  : RS :=
  (rRet (rC (.p (.bl false))))
noncomputable def s_law_11  : RS :=
  (rRet (rC (.p (.bl false))))
noncomputable def s_law_12  : RS :=
  (rIfS (rtNot (rTst truthD (rCallN 2 (Fp_like 9) (rCons (rCallN 2 F_strictest (rCons (rBin dIx (rVar 4) (rVar 5)) (rCons (rBin dIx (rVar 4) (rVar 11)) rNil))) (rCons (rCallN 2 F__law_one (rCons (rBin dIx (rVar 4) (rVar 5)) (rCons (rBin dIx (rVar 4) (rVar 11)) rNil))) rNil)))))
  s_law_10
  rSkip)
noncomputable def s_law_13  : RS :=
  (rSet 15 (rAnd (rBin dGe (rBin dIx (rBin dIx (rBin dIx (rVar 4) (rVar 5)) (rC (.p (.int 0)))) (rC (.p (.int 4)))) (rBin dIx (rBin dIx (rBin dIx (rVar 4) (rVar 11)) (rC (.p (.int 0)))) (rC (.p (.int 4))))) (rBin dGe (rBin dIx (rBin dIx (rBin dIx (rVar 4) (rVar 5)) (rC (.p (.int 0)))) (rC (.p (.int 5)))) (rBin dIx (rBin dIx (rBin dIx (rVar 4) (rVar 11)) (rC (.p (.int 0)))) (rC (.p (.int 5)))))))
noncomputable def s_law_14  : RS :=
  (rIfS (rtNot (rTst truthD (rCallN 2 (Fp_like 9) (rCons (rCallN 2 F_is_stricter (rCons (rBin dIx (rVar 4) (rVar 5)) (rCons (rBin dIx (rVar 4) (rVar 11)) rNil))) (rCons (rVar 15) rNil)))))
  s_law_11
  rSkip)
noncomputable def b_law_15  : RS :=
  (rSeq s_law_12
  (rSeq s_law_13
  s_law_14))
noncomputable def s_law_16  : RS :=
  (rForR rng1 (rCons (rCB cLen (rCons (rVar 4) rNil)) rNil) (gNm 11)
  b_law_15)
noncomputable def s_law_17  : RS :=
  (rRet (rC (.p (.bl false))))
noncomputable def s_law_18  : RS :=
  (rSet 12 (rBin dAdd (rBin dAdd (rSl (rVar 4) rNoPart (rPart (rVar 8))) (rLst (rCons (rCallN 2 F__law_wrong (rCons (rBin dIx (rVar 4) (rVar 8)) (rCons (rVar 9) rNil))) rNil))) (rSl (rVar 4) (rPart (rBin dAdd (rVar 8) (rC (.p (.int 1))))) rNoPart)))
noncomputable def s_law_19  : RS :=
  (rIfS (rTst asBool (rBin dNeX (rLamCall 1 "law" F__law_told (rCallN 1 F_join_doors (rCons (rVar 12) rNil)) []) (rTup (rCons (rC (.p (.str "error"))) (rCons (rLst (rCons (rC (.p (.str "BadTable"))) rNil)) rNil)))))
  s_law_17
  rSkip)
noncomputable def b_law_20  : RS :=
  (rSeq s_law_18
  s_law_19)
noncomputable def s_law_21  : RS :=
  (rSet 1 (rCallN 3 F__law_numbers (rCons (rVar 0) (rCons (rC (.p (.int 0))) (rCons (rC (.p (.int 64))) rNil)))))
noncomputable def s_law_22  : RS :=
  (rForR rng1 (rCons (rC (.p (.int 9))) rNil) (gNm 2)
  s_law_7)
noncomputable def s_law_23  : RS :=
  (rSet 3 (rCallN 3 F__law_numbers (rCons (rVar 0) (rCons (rC (.p (.int 1))) (rCons (rC (.p (.int 48))) rNil)))))
noncomputable def s_law_24  : RS :=
  (rSet 4 (rLst rNil))
noncomputable def s_law_25  : RS :=
  (rForR rng1 (rCons (rBin dAdd (rC (.p (.int 1))) (rCallN 3 F__law_pick (rCons (rVar 3) (rCons (rC (.p (.int 0))) (rCons (rC (.p (.int 6))) rNil))))) rNil) (gNm 5)
  s_law_8)
noncomputable def s_law_26  : RS :=
  (rSet 6 (rCallN 1 F__law_joined (rCons (rVar 4) rNil)))
noncomputable def s_law_27  : RS :=
  (rSet 7 (rCB cList (rCons (rVar 4) rNil)))
noncomputable def s_law_28  : RS :=
  (rIfS (rtOr (rtNot (rTst truthD (rCallN 2 (Fp_like 9) (rCons (rCallN 1 F_join_doors (rCons (rVar 7) rNil)) (rCons (rVar 6) rNil))))) (rtOr (rTst asBool (rBin dNeX (rVar 7) (rVar 4))) (rtNot (rTst truthD (rCallN 2 (Fp_like 9) (rCons (rCallN 1 F_join_doors (rCons (rVar 6) rNil)) (rCons (rVar 6) rNil)))))))
  s_law_9
  rSkip)
noncomputable def s_law_29  : RS :=
  (rForR rng1 (rCons (rCB cLen (rCons (rVar 4) rNil)) rNil) (gNm 5)
  s_law_16)
noncomputable def s_law_30  : RS :=
  (rSet 8 (rCallN 3 F__law_pick (rCons (rVar 3) (rCons (rC (.p (.int 44))) (rCons (rCB cLen (rCons (rVar 4) rNil)) rNil)))))
noncomputable def s_law_31  : RS :=
  (rForR rng1 (rCons (rC (.p (.int 7))) rNil) (gNm 9)
  b_law_20)
noncomputable def s_law_32  : RS :=
  (rRet (rBin dEqX (rLamCall 1 "law" F__law_told (rCallN 1 F_join_doors (rCons (rSl (rBin dAdd (rVar 4) (rBin dMul (rLst (rCons (rBin dIx (rVar 4) (rVar 8)) rNil)) (rC (.p (.int 6))))) rNoPart (rPart (rC (.p (.int 7))))) rNil)) []) (rTup (rCons (rC (.p (.str "error"))) (rCons (rLst (rCons (rC (.p (.str "BadTable"))) rNil)) rNil)))))
noncomputable def m_law  : RS :=
  (rSeq s_law_21
  (rSeq s_law_22
  (rSeq s_law_23
  (rSeq s_law_24
  (rSeq s_law_25
  (rSeq s_law_26
  (rSeq s_law_27
  (rSeq s_law_28
  (rSeq s_law_29
  (rSeq s_law_30
  (rSeq s_law_31
  s_law_32)))))))))))

noncomputable def F_law : List D → Store → R D := selfF 16 m_law
theorem r_law : Ref 1 16 F_law m_law := ref_self 1 16 m_law
/-- one pair of manners -/
theorem law_pair (M : Store) (ln : Nat) (xs : List Int) (h : M[ln]? = some (.lst (numL xs))) (hx : Nums xs 64) (a b : Nat) (ha : a < 9) (hb : b < 9) (x0 x3 x4 x5 x6 x7 x8 x9 x11 x12 x13 x14 x15 : Option D) :
    ∃ (M' : Store) (y6 y13 y14 : Option D), M <+: M' ∧ b_law_6 [x0, some (.ref ln), some (.p (.int a)), x3, x4, x5, x6, x7, x8, x9, some (.p (.int b)), x11, x12, x13, x14, x15] M = .nx [x0, some (.ref ln), some (.p (.int a)), x3, x4, x5, y6, x7, x8, x9, some (.p (.int b)), x11, x12, y13, y14, x15] M' := by
  obtain ⟨t1, S1, g1, _, _, q1, p1⟩ := x_law_table M ln 64 xs h hx (by omega) (5 * (a + b) % 30) (1 + a / 3) (1 + a % 3) (by omega) (by omega)
  obtain ⟨t2, S2, g2, _, _, q2, p2⟩ := x_law_table S1 ln 64 xs (pfx_get q1 h) hx (by omega) (30 + 5 * (a * b) % 30) (1 + b / 3) (1 + b % 3) (by omega) (by omega)
  have hg : ∀ t ∈ [t1, t2], t.Plain := fun t ht => by
    rcases List.mem_cons.mp ht with rfl | ht
    · exact g1
    · rw [List.mem_singleton.mp ht]; exact g2
  obtain ⟨S3, q3, p3⟩ := x_law_joined (d := .p (.tup [t1.T, t2.T])) (ts := [t1, t2]) (M := S2) (.inl rfl) (by simp) (by simp)
  obtain ⟨S4, q4, p4⟩ := x_join (d := .p (.tup [t1.T, t2.T])) (ts := [t1, t2]) (M := S3) (.inl rfl) (by simp) (by simp) hg
  have jl : (joinAll [t1, t2]).length ≤ 1000 := by
    have hb2 : ∀ (n : Nat) (us : List Dr), 1 ≤ us.length → us.length ≤ 6 → (joinN n us).length ≤ 6 := fun n => by
      induction n with
      | zero => exact fun us _ h => h
      | succ n ih => exact fun us h1 h2 => ih _ (stepF_bound h1 h2).1 (stepF_bound h1 h2).2
    have := hb2 2 [t1, t2] (by simp) (by simp)
    exact Nat.le_trans this (by omega)
  have p5 := like_ok (.tup ((joinAll [t1, t2]).map Dr.T)) (fit_row _ jl) S4
  have m1 := fun M => v_mul 5 ((a : Int) + b) M (mul_small (by omega) (by omega))
  have hab : a * b ≤ 64 := Nat.le_trans (Nat.mul_le_mul (show a ≤ 8 by omega) (show b ≤ 8 by omega)) (by omega)
  have hab2 : ((a : Int) * b) ≤ 64 := by exact_mod_cast hab
  have hab3 : 0 ≤ ((a : Int) * b) := Int.mul_nonneg (by omega) (by omega)
  have m2 := fun M => v_mul (a : Int) (b : Int) M (mul_small (by omega) (by omega))
  have m3 := fun M => v_mul 5 ((a : Int) * b) M (mul_small (by omega) (by omega))
  have m4 := fun (i : Int) M => v_mod i 30 M (by decide)
  have m5 := fun (i : Int) M => v_mod i 3 M (by decide)
  have m6 := fun (i : Int) M => v_div i 3 M (div_small (by decide) (by decide))
  simp only [Int.natCast_add, Int.natCast_mul, Int.natCast_emod, Int.natCast_ediv] at p1 p2
  simp at p1 p2
  refine ⟨S4, some (.p (.tup ((joinAll [t1, t2]).map Dr.T))), some (.p t1.T), some (.p t2.T), ((q1.trans q2).trans q3).trans q4, ?_⟩
  simp [b_law_6, s_law_2, s_law_3, s_law_4, s_law_5, cInt, m1, m2, m3, m4, m5, m6, p1, p2, mkTup, allP, p3, p4, p5]
theorem law_pairs (M : Store) (ln : Nat) (xs : List Int) (h : M[ln]? = some (.lst (numL xs))) (hx : Nums xs 64) (x0 x2 x3 x4 x5 x6 x7 x8 x9 x10 x11 x12 x13 x14 x15 : Option D) :
    ∃ (M' : Store) (y2 y6 y10 y13 y14 : Option D), M <+: M' ∧ s_law_22 [x0, some (.ref ln), x2, x3, x4, x5, x6, x7, x8, x9, x10, x11, x12, x13, x14, x15] M = .nx [x0, some (.ref ln), y2, x3, x4, x5, y6, x7, x8, x9, y10, x11, x12, y13, y14, x15] M' := by
  have er : rng1 [.p (.int 9)] = some (0, 9) := rng1_len 9 (by omega)
  have inner : ∀ (a : Nat), a < 9 → ∀ (M1 : Store), M <+: M1 → ∀ (y6 y10 y13 y14 : Option D), ∃ (M2 : Store) (z6 z10 z13 z14 : Option D), M <+: M2 ∧ s_law_7 [x0, some (.ref ln), some (.p (.int a)), x3, x4, x5, y6, x7, x8, x9, y10, x11, x12, y13, y14, x15] M1 = .nx [x0, some (.ref ln), some (.p (.int a)), x3, x4, x5, z6, x7, x8, x9, z10, x11, x12, z13, z14, x15] M2 := by
    intro a ha M1 q1 y6 y10 y13 y14
    obtain ⟨ρ', M2, k1, z6, z10, z13, z14, k2, rfl⟩ := forL_inv (k := none) (g := gNm 10) (body := b_law_6) (intsD 0 9) (fun _ ρ M' => ∃ z6 z10 z13 z14, M <+: M' ∧ ρ = [x0, some (.ref ln), some (.p (.int a)), x3, x4, x5, z6, x7, x8, x9, z10, x11, x12, z13, z14, x15]) (fun _ _ _ _ => True.intro) (by
      rintro i x ρ M3 hx2 ⟨z6, z10, z13, z14, q3, rfl⟩
      have hi : i < 9 := by
        have := (List.getElem?_eq_some_iff.mp hx2).1
        rw [intsD_len] at this
        exact this
      rw [intsD_get 0 9 i hi] at hx2
      cases hx2
      rw [Int.zero_add]
      obtain ⟨M4, w6, w13, w14, q4, e4⟩ := law_pair M3 ln xs (pfx_get q3 h) hx a i ha hi x0 x3 x4 x5 z6 x7 x8 x9 x11 x12 z13 z14 x15
      exact ⟨_, _, _, M4, rfl, .inl e4, w6, some (.p (.int i)), w13, w14, q3.trans q4, rfl⟩) (ρ := [x0, some (.ref ln), some (.p (.int a)), x3, x4, x5, y6, x7, x8, x9, y10, x11, x12, y13, y14, x15]) (M := M1) ⟨y6, y10, y13, y14, q1, rfl⟩
    exact ⟨M2, z6, z10, z13, z14, k2, by simp [s_law_7, er, k1]⟩
  obtain ⟨ρ', M2, k1, y2, z6, z10, z13, z14, k2, rfl⟩ := forL_inv (k := none) (g := gNm 2) (body := s_law_7) (intsD 0 9) (fun _ ρ M' => ∃ y2 z6 z10 z13 z14, M <+: M' ∧ ρ = [x0, some (.ref ln), y2, x3, x4, x5, z6, x7, x8, x9, z10, x11, x12, z13, z14, x15]) (fun _ _ _ _ => True.intro) (by
    rintro i x ρ M3 hx2 ⟨y2, z6, z10, z13, z14, q3, rfl⟩
    have hi : i < 9 := by
      have := (List.getElem?_eq_some_iff.mp hx2).1
      rw [intsD_len] at this
      exact this
    rw [intsD_get 0 9 i hi] at hx2
    cases hx2
    rw [Int.zero_add]
    obtain ⟨M4, w6, w10, w13, w14, q4, e4⟩ := inner i hi M3 q3 z6 z10 z13 z14
    exact ⟨_, _, _, M4, rfl, .inl e4, some (.p (.int i)), w6, w10, w13, w14, q4, rfl⟩) (ρ := [x0, some (.ref ln), x2, x3, x4, x5, x6, x7, x8, x9, x10, x11, x12, x13, x14, x15]) (M := M) ⟨x2, x6, x10, x13, x14, List.prefix_refl _, rfl⟩
  exact ⟨M2, y2, z6, z10, z13, z14, k2, by simp [s_law_22, er, k1]⟩
/-- one table more -/
theorem law_more (M0 M : Store) (lm : Nat) (xs : List Int) (h : M[lm]? = some (.lst (numL xs))) (hx : Nums xs 48) (ts : List Dr) (q : M0 <+: M) (hr : M[M0.length]? = some (.lst (toL ts))) (hl : ts.length ≤ 6) (k : Nat) (hk : k < 6) (hlm : lm < M0.length) (x0 x1 x2 x6 x7 x8 x9 x10 x11 x12 x13 x14 x15 : Option D) :
    ∃ (M' : Store) (t : Dr), t.Plain ∧ StrT t ∧ t.n ≠ ("h1" : Str) ∧ M0 <+: M' ∧ M'[M0.length]? = some (.lst (toL (ts ++ [t]))) ∧
      s_law_8 [x0, x1, x2, some (.ref lm), some (.ref M0.length), some (.p (.int k)), x6, x7, x8, x9, x10, x11, x12, x13, x14, x15] M = .nx [x0, x1, x2, some (.ref lm), some (.ref M0.length), some (.p (.int k)), x6, x7, x8, x9, x10, x11, x12, x13, x14, x15] M' := by
  obtain ⟨v, hv, p1⟩ := x_pick M lm 48 xs h hx (by omega) (6 + 7 * k) 3 (by omega)
  obtain ⟨w, hw, p2⟩ := x_pick M lm 48 xs h hx (by omega) (7 + 7 * k) 3 (by omega)
  obtain ⟨t, S1, g1, g2, g3, q1, p3⟩ := x_law_table M lm 48 xs h hx (by omega) (1 + 7 * k) (1 + v) (1 + w) (by omega) (by omega)
  have hr1 := pfx_get q1 hr
  have isl := isLst_ref _ _ _ hr
  have ap := v_append M0.length _ (.p t.T) S1 hr1 (lt_line (by rw [toL_len]; omega))
  have m1 := fun M => v_mul 7 (k : Int) M (mul_small (by omega) (by omega))
  simp at p1 p2 p3
  refine ⟨S1.set M0.length (.lst (toL ts ++ [.p t.T])), t, g1, g2, g3, pfx_set (q.trans q1) (Nat.le_refl _) _, ?_, ?_⟩
  · rw [get_set_same (get_lt hr1)]
    simp [toL]
  · simp [s_law_8, isl, m1, p1, p2, p3, ap]

theorem joinAll_done : ∀ (n : Nat) (ts : List Dr), ts.length = n → firstK (joinAll ts) = none := by
  intro n
  induction n using Nat.strongRecOn with
  | ind n ih =>
    intro ts hn
    cases q : firstK ts with
    | none => rw [joinAll_none q]; exact q
    | some k =>
      have h := stepF_len q
      rw [← joinAll_some q]
      exact ih _ (by omega) _ rfl
theorem joinAll_len (ts : List Dr) (h1 : 1 ≤ ts.length) (h6 : ts.length ≤ 6) : 1 ≤ (joinAll ts).length ∧ (joinAll ts).length ≤ 6 := by
  have hb2 : ∀ (n : Nat) (us : List Dr), 1 ≤ us.length → us.length ≤ 6 → 1 ≤ (joinN n us).length ∧ (joinN n us).length ≤ 6 := fun n => by
    induction n with
    | zero => exact fun us h1 h => ⟨h1, h⟩
    | succ n ih => exact fun us h1 h2 => ih _ (stepF_bound h1 h2).1 (stepF_bound h1 h2).2
  exact hb2 _ _ h1 h6
/-- the row that is drawn -/
theorem law_row (M0 M : Store) (lm : Nat) (xs : List Int) (h : M[lm]? = some (.lst (numL xs))) (hx : Nums xs 48) (q : M0 <+: M) (hr : M[M0.length]? = some (.lst (toL []))) (hlm : M0[lm]? = some (.lst (numL xs))) (x0 x1 x2 x5 x6 x7 x8 x9 x10 x11 x12 x13 x14 x15 : Option D) :
    ∃ (M' : Store) (ts : List Dr) (y5 : Option D), 1 ≤ ts.length ∧ ts.length ≤ 6 ∧ (∀ t ∈ ts, t.Plain ∧ StrT t ∧ t.n ≠ ("h1" : Str)) ∧ M0 <+: M' ∧ M'[M0.length]? = some (.lst (toL ts)) ∧
      s_law_25 [x0, x1, x2, some (.ref lm), some (.ref M0.length), x5, x6, x7, x8, x9, x10, x11, x12, x13, x14, x15] M = .nx [x0, x1, x2, some (.ref lm), some (.ref M0.length), y5, x6, x7, x8, x9, x10, x11, x12, x13, x14, x15] M' := by
  obtain ⟨v, hv, p1⟩ := x_pick M lm 48 xs h hx (by omega) 0 6 (by omega)
  have er := rng1_len (1 + v) (by omega)
  obtain ⟨ρ', M2, k1, ts, y5, k2, k3, k4, k5, rfl⟩ := forL_inv (k := none) (g := gNm 5) (body := s_law_8) (intsD 0 (1 + v)) (fun i ρ M' => ∃ (ts : List Dr) (y5 : Option D), ts.length = i ∧ (∀ t ∈ ts, t.Plain ∧ StrT t ∧ t.n ≠ ("h1" : Str)) ∧ M0 <+: M' ∧ M'[M0.length]? = some (.lst (toL ts)) ∧ ρ = [x0, x1, x2, some (.ref lm), some (.ref M0.length), y5, x6, x7, x8, x9, x10, x11, x12, x13, x14, x15]) (fun _ _ _ _ => True.intro) (by
    rintro i x ρ M3 hx2 ⟨ts, y5, a1, a2, a3, a4, rfl⟩
    have hi : i < 1 + v := by
      have := (List.getElem?_eq_some_iff.mp hx2).1
      rw [intsD_len] at this
      exact this
    rw [intsD_get 0 _ i hi] at hx2
    cases hx2
    rw [Int.zero_add]
    obtain ⟨M4, t, b1, b2, b3, b4, b5, b6⟩ := law_more M0 M3 lm xs (pfx_get a3 hlm) hx ts a3 a4 (by omega) i (by omega) (get_lt hlm) x0 x1 x2 x6 x7 x8 x9 x10 x11 x12 x13 x14 x15
    exact ⟨_, _, _, M4, rfl, .inl b6, ts ++ [t], some (.p (.int i)), by simp [a1], fun y hy => by
      rcases List.mem_append.mp hy with hy | hy
      · exact a2 y hy
      · rw [List.mem_singleton.mp hy]; exact ⟨b1, b2, b3⟩, b4, b5, rfl⟩) (ρ := [x0, x1, x2, some (.ref lm), some (.ref M0.length), x5, x6, x7, x8, x9, x10, x11, x12, x13, x14, x15]) (M := M) ⟨[], x5, rfl, (fun t ht => nomatch ht), q, hr, rfl⟩
  rw [intsD_len] at k2
  simp at p1 er
  exact ⟨M2, ts, y5, by omega, by omega, k3, k4, k5, by simp [s_law_25, p1, er, k1]⟩
/-- the checks of the row as a whole -/
theorem law_whole (M : Store) (lr : Nat) (ts : List Dr) (hr : M[lr]? = some (.lst (toL ts))) (h1 : 1 ≤ ts.length) (h6 : ts.length ≤ 6) (hg : ∀ t ∈ ts, t.Plain ∧ StrT t ∧ t.n ≠ ("h1" : Str)) (x0 x1 x2 x3 x5 x6 x7 x8 x9 x10 x11 x12 x13 x14 x15 : Option D) :
    ∃ (M' : Store) (y6 y7 : Option D), M <+: M' ∧ (rSeq s_law_26 (rSeq s_law_27 s_law_28)) [x0, x1, x2, x3, some (.ref lr), x5, x6, x7, x8, x9, x10, x11, x12, x13, x14, x15] M = .nx [x0, x1, x2, x3, some (.ref lr), x5, y6, y7, x8, x9, x10, x11, x12, x13, x14, x15] M' := by
  have tl : toL ts = (ts.map Dr.T).map D.p := by simp [toL]
  obtain ⟨S1, q1, p1⟩ := x_law_joined (d := .ref lr) (ts := ts) (M := M) (.inr ⟨lr, rfl, by rw [← tl]; exact hr⟩) h1 h6
  have r1 := pfx_get q1 hr
  have p2 : cList [.ref lr] S1 = some (.ref S1.length, S1 ++ [.lst (toL ts)]) := by simp [cList, rowD, r1]
  have hn := get_new S1 (O.lst (toL ts))
  obtain ⟨S2, q2, p3⟩ := x_join (d := .ref S1.length) (ts := ts) (M := S1 ++ [.lst (toL ts)]) (.inr ⟨_, rfl, by rw [← tl]; exact hn⟩) h1 h6 fun t ht => (hg t ht).1
  have jl := joinAll_len ts h1 h6
  have l1 := like_ok (.tup ((joinAll ts).map Dr.T)) (fit_row _ (by omega)) S2
  have ne := row_eq S1.length lr ts S2 (fun t ht => (hg t ht).2.1) (pfx_get q2 hn) (pfx_get q2 (get_app r1 _))
  obtain ⟨S3, q3, p4⟩ := x_join (d := .p (.tup ((joinAll ts).map Dr.T))) (ts := joinAll ts) (M := S2) (.inl rfl) jl.1 jl.2 (joinN_all (fun x y => one_plain) _ ts fun t ht => (hg t ht).1)
  rw [joinAll_none (joinAll_done _ ts rfl)] at p4
  have l2 := like_ok (.tup ((joinAll ts).map Dr.T)) (fit_row _ (by omega)) S3
  refine ⟨S3, some (.p (.tup ((joinAll ts).map Dr.T))), some (.ref S1.length), ((pfx_app q1 _).trans q2).trans q3, ?_⟩
  simp [s_law_26, s_law_27, s_law_28, p1, p2, p3, l1, ne, p4, l2]

/-- strictest and is_stricter of all pairs of the row -/
theorem law_stricts (M : Store) (lr : Nat) (ts : List Dr) (hr : M[lr]? = some (.lst (toL ts))) (h6 : ts.length ≤ 6) (hg : ∀ t ∈ ts, t.Plain) (x0 x1 x2 x3 x5 x6 x7 x8 x9 x10 x11 x12 x13 x14 x15 : Option D) :
    ∃ (y5 y11 y15 : Option D), s_law_29 [x0, x1, x2, x3, some (.ref lr), x5, x6, x7, x8, x9, x10, x11, x12, x13, x14, x15] M = .nx [x0, x1, x2, x3, some (.ref lr), y5, x6, x7, x8, x9, x10, y11, x12, x13, x14, y15] M := by
  have e0 := v_len_l lr _ M hr
  rw [toL_len] at e0
  have er := rng1_len ts.length (by omega)
  have turn : ∀ (i j : Nat), i < ts.length → j < ts.length → ∀ z15 : Option D, ∃ y15, b_law_15 [x0, x1, x2, x3, some (.ref lr), some (.p (.int i)), x6, x7, x8, x9, x10, some (.p (.int j)), x12, x13, x14, z15] M = .nx [x0, x1, x2, x3, some (.ref lr), some (.p (.int i)), x6, x7, x8, x9, x10, some (.p (.int j)), x12, x13, x14, y15] M := by
    intro i j hi hj z15
    have g1 := List.getElem?_eq_getElem hi
    have g2 := List.getElem?_eq_getElem hj
    have i1 := v_ix_l lr _ i _ M hr (toL_get g1)
    have i2 := v_ix_l lr _ j _ M hr (toL_get g2)
    have px := hg ts[i] (List.getElem_mem hi)
    have py := hg ts[j] (List.getElem_mem hj)
    have s1 := x_strictest px.toGood py.toGood M
    have s2 := x_law_one ts[i] ts[j] M
    have l1 := like_ok (one ts[i] ts[j]).T (by simp [Dr.T, Dr.pp, Dr.it, Item.toP, fitQ]) M
    have s3 := x_stricter px.toGood py.toGood M
    have l2 := like_ok (.bl (decide (ts[j].m ≤ ts[i].m) && decide (ts[j].l ≤ ts[i].l))) trivial M
    refine ⟨some (.p (.bl (decide (ts[j].m ≤ ts[i].m) && decide (ts[j].l ≤ ts[i].l)))), ?_⟩
    have d0 : ∀ t : Dr, dIx (.p t.T) (.p (.int 0)) M = some (.p (.tup (flds t)), M) := fun t => rfl
    have d4 : ∀ t : Dr, dIx (.p (.tup (flds t))) (.p (.int 4)) M = some (.p (.int t.m), M) := fun t => rfl
    have d5 : ∀ t : Dr, dIx (.p (.tup (flds t))) (.p (.int 5)) M = some (.p (.int t.l), M) := fun t => rfl
    by_cases c : ts[j].m ≤ ts[i].m
    · simp only [c, decide_true, Bool.true_and] at s3 l2 ⊢
      simp [b_law_15, s_law_12, s_law_13, s_law_14, i1, i2, s1, s2, l1, s3, l2, d0, d4, d5, c]
    · simp only [c, decide_false, Bool.false_and] at s3 l2 ⊢
      simp [b_law_15, s_law_12, s_law_13, s_law_14, i1, i2, s1, s2, l1, s3, l2, d0, d4, d5, c]
  have inner : ∀ i, i < ts.length → ∀ z11 z15 : Option D, ∃ y11 y15, s_law_16 [x0, x1, x2, x3, some (.ref lr), some (.p (.int i)), x6, x7, x8, x9, x10, z11, x12, x13, x14, z15] M = .nx [x0, x1, x2, x3, some (.ref lr), some (.p (.int i)), x6, x7, x8, x9, x10, y11, x12, x13, x14, y15] M := by
    intro i hi z11 z15
    obtain ⟨ρ', M2, k1, y11, y15, rfl, rfl⟩ := forL_inv (k := none) (g := gNm 11) (body := b_law_15) (intsD 0 ts.length) (fun _ ρ M' => ∃ y11 y15, M' = M ∧ ρ = [x0, x1, x2, x3, some (.ref lr), some (.p (.int i)), x6, x7, x8, x9, x10, y11, x12, x13, x14, y15]) (fun _ _ _ _ => True.intro) (by
      rintro j x ρ M3 hx ⟨y11, y15, rfl, rfl⟩
      have hj : j < ts.length := by
        have := (List.getElem?_eq_some_iff.mp hx).1
        rw [intsD_len] at this
        exact this
      rw [intsD_get 0 _ j hj] at hx
      cases hx
      rw [Int.zero_add]
      obtain ⟨w15, e⟩ := turn i j hi hj y15
      exact ⟨_, _, _, M3, rfl, .inl e, some (.p (.int j)), w15, rfl, rfl⟩) (ρ := [x0, x1, x2, x3, some (.ref lr), some (.p (.int i)), x6, x7, x8, x9, x10, z11, x12, x13, x14, z15]) (M := M) ⟨z11, z15, rfl, rfl⟩
    exact ⟨y11, y15, by simp [s_law_16, e0, er, k1]⟩
  obtain ⟨ρ', M2, k1, y5, y11, y15, rfl, rfl⟩ := forL_inv (k := none) (g := gNm 5) (body := s_law_16) (intsD 0 ts.length) (fun _ ρ M' => ∃ y5 y11 y15, M' = M ∧ ρ = [x0, x1, x2, x3, some (.ref lr), y5, x6, x7, x8, x9, x10, y11, x12, x13, x14, y15]) (fun _ _ _ _ => True.intro) (by
    rintro i x ρ M3 hx ⟨y5, y11, y15, rfl, rfl⟩
    have hi : i < ts.length := by
      have := (List.getElem?_eq_some_iff.mp hx).1
      rw [intsD_len] at this
      exact this
    rw [intsD_get 0 _ i hi] at hx
    cases hx
    rw [Int.zero_add]
    obtain ⟨w11, w15, e⟩ := inner i hi y11 y15
    exact ⟨_, _, _, M3, rfl, .inl e, some (.p (.int i)), w11, w15, rfl, rfl⟩) (ρ := [x0, x1, x2, x3, some (.ref lr), x5, x6, x7, x8, x9, x10, x11, x12, x13, x14, x15]) (M := M) ⟨x5, x11, x15, rfl, rfl⟩
  exact ⟨y5, y11, y15, by simp [s_law_29, e0, er, k1]⟩

theorem law_bad (M : Store) (lr : Nat) (ts : List Dr) (at_ k : Nat) (hk : k < 7) (hr : M[lr]? = some (.lst (toL ts))) (h1 : at_ < ts.length) (h6 : ts.length ≤ 6) (hg : ∀ t ∈ ts, t.Plain ∧ StrT t ∧ t.n ≠ ("h1" : Str)) (htab : M[1]? = some (.tab "law")) (x0 x1 x2 x3 x5 x6 x7 x10 x11 x12 x13 x14 x15 : Option D) :
    ∃ (M' : Store) (y12 : Option D), M <+: M' ∧ b_law_20 [x0, x1, x2, x3, some (.ref lr), x5, x6, x7, some (.p (.int at_)), some (.p (.int k)), x10, x11, x12, x13, x14, x15] M = .nx [x0, x1, x2, x3, some (.ref lr), x5, x6, x7, some (.p (.int at_)), some (.p (.int k)), x10, x11, y12, x13, x14, x15] M' := by
  have g1 := List.getElem?_eq_getElem h1
  have gt := hg ts[at_] (List.getElem_mem h1)
  obtain ⟨S1, hS1⟩ : ∃ S1 : Store, S1 = M ++ [O.lst ((toL ts).take at_)] := ⟨_, rfl⟩
  obtain ⟨S2, hS2⟩ : ∃ S2 : Store, S2 = S1 ++ [O.lst [.p (wrongP ts[at_] k)]] := ⟨_, rfl⟩
  obtain ⟨S3, hS3⟩ : ∃ S3 : Store, S3 = S2 ++ [O.lst ((toL ts).take at_ ++ [.p (wrongP ts[at_] k)])] := ⟨_, rfl⟩
  obtain ⟨S4, hS4⟩ : ∃ S4 : Store, S4 = S3 ++ [O.lst ((toL ts).drop (at_ + 1))] := ⟨_, rfl⟩
  obtain ⟨S5, hS5⟩ : ∃ S5 : Store, S5 = S4 ++ [O.lst ((toL ts).take at_ ++ [.p (wrongP ts[at_] k)] ++ (toL ts).drop (at_ + 1))] := ⟨_, rfl⟩
  have p1 : M <+: S1 := by rw [hS1]; exact List.prefix_append _ _
  have p2 : S1 <+: S2 := by rw [hS2]; exact List.prefix_append _ _
  have p3 : S2 <+: S3 := by rw [hS3]; exact List.prefix_append _ _
  have p4 : S3 <+: S4 := by rw [hS4]; exact List.prefix_append _ _
  have p5 : S4 <+: S5 := by rw [hS5]; exact List.prefix_append _ _
  have pa : M <+: S5 := (((p1.trans p2).trans p3).trans p4).trans p5
  have b1 : dSl (.ref lr) none (some (at_ : Int)) M = some (.ref M.length, S1) := by
    simp only [dSl, hr, hS1]
    rw [cut_take _ at_ (by rw [toL_len]; omega)]
  have b2 := v_ix_l lr _ at_ _ S1 (pfx_get p1 hr) (toL_get g1)
  have b4 := x_law_wrong ts[at_] k hk S1
  have q1 : S2[M.length]? = some (.lst ((toL ts).take at_)) := pfx_get p2 (by rw [hS1]; exact get_new _ _)
  have q2 : S2[S1.length]? = some (.lst [.p (wrongP ts[at_] k)]) := by rw [hS2]; exact get_new _ _
  have b5 : dAdd (.ref M.length) (.ref S1.length) S2 = some (.ref S2.length, S3) := by
    rw [v_cat _ _ _ _ S2 q1 q2 (le_line (by simp; omega)), hS3]
  have b6 : dSl (.ref lr) (some ((at_ : Int) + 1)) none S3 = some (.ref S3.length, S4) := by
    have h3 : S3[lr]? = some (.lst (toL ts)) := pfx_get ((p1.trans p2).trans p3) hr
    simp only [dSl, h3, hS4]
    have ec2 : ((at_ : Int) + 1) = ((at_ + 1 : Nat) : Int) := by omega
    rw [ec2, cut_drop _ (at_ + 1) (by rw [toL_len]; omega)]
  have q3 : S4[S2.length]? = some (.lst ((toL ts).take at_ ++ [.p (wrongP ts[at_] k)])) := pfx_get p4 (by rw [hS3]; exact get_new _ _)
  have q4 : S4[S3.length]? = some (.lst ((toL ts).drop (at_ + 1))) := by rw [hS4]; exact get_new _ _
  have b7 : dAdd (.ref S2.length) (.ref S3.length) S4 = some (.ref S4.length, S5) := by
    rw [v_cat _ _ _ _ S4 q3 q4 (le_line (by simp; omega)), hS5]
  have q5 : S5[S4.length]? = some (.lst (((ts.take at_).map Dr.T ++ [wrongP ts[at_] k] ++ (ts.drop (at_ + 1)).map Dr.T).map D.p)) := by
    rw [hS5, get_new]
    simp [toL, Function.comp_def]
  have bad : F_join_doors [.ref S4.length] S5 = .ex "BadTable" none S5 := by
    refine x_row_bad S4.length _ S5 q5 (by simp; omega) (by simp; omega) at_ (by simp; omega) (fun i hi hlt => ?_) ?_
    · have hit : i < ts.length := by omega
      have e : ((ts.take at_).map Dr.T ++ [wrongP ts[at_] k] ++ (ts.drop (at_ + 1)).map Dr.T)[i] = ts[i].T := by
        rw [List.getElem_append_left (by simp; omega), List.getElem_append_left (by simp; omega)]
        simp
      rw [e]
      exact x_plain (hg ts[i] (List.getElem_mem hit)).1 S5
    · have e : ((ts.take at_).map Dr.T ++ [wrongP ts[at_] k] ++ (ts.drop (at_ + 1)).map Dr.T)[at_]'(by simp; omega) = wrongP ts[at_] k := by
        rw [List.getElem_append_left (by simp; omega), List.getElem_append_right (by simp; omega)]
        simp
      rw [e]
      exact x_plain_bad gt.1 gt.2.2 k hk S5
  have hB : (rCallN 1 F_join_doors (rCons (rVar 12) rNil)) [x0, x1, x2, x3, some (.ref lr), x5, x6, x7, some (.p (.int at_)), some (.p (.int k)), x10, x11, some (.ref S4.length), x13, x14, x15] S5 = .ex "BadTable" none S5 := by simp [bad]
  obtain ⟨l, S6, t1, t2, t3⟩ := told_bad hB
  have ht := pfx_get pa htab
  have ne := err_ne l S6.length (S6 ++ [O.lst [.p (.str "BadTable")]]) (get_app t3 _) (get_new _ _)
  have e18 : s_law_18 [x0, x1, x2, x3, some (.ref lr), x5, x6, x7, some (.p (.int at_)), some (.p (.int k)), x10, x11, x12, x13, x14, x15] M = .nx [x0, x1, x2, x3, some (.ref lr), x5, x6, x7, some (.p (.int at_)), some (.p (.int k)), x10, x11, some (.ref S4.length), x13, x14, x15] S5 := by
    simp [s_law_18, asPart, b1, b2, b4, ← hS2, b5, b6, b7]
  refine ⟨S6 ++ [O.lst [.p (.str "BadTable")]], some (.ref S4.length), pfx_app (pa.trans t2) _, ?_⟩
  have el : (rLamCall 1 "law" F__law_told (rCallN 1 F_join_doors (rCons (rVar 12) rNil)) []) [x0, x1, x2, x3, some (.ref lr), x5, x6, x7, some (.p (.int at_)), some (.p (.int k)), x10, x11, some (.ref S4.length), x13, x14, x15] S5 = .ok (.tup [.p (.str "error"), .ref l]) S6 := by
    unfold rLamCall
    rw [ht]
    simp only [if_true]
    exact t1
  have e19 : s_law_19 [x0, x1, x2, x3, some (.ref lr), x5, x6, x7, some (.p (.int at_)), some (.p (.int k)), x10, x11, some (.ref S4.length), x13, x14, x15] S5 = .nx [x0, x1, x2, x3, some (.ref lr), x5, x6, x7, some (.p (.int at_)), some (.p (.int k)), x10, x11, some (.ref S4.length), x13, x14, x15] (S6 ++ [O.lst [.p (.str "BadTable")]]) := by
    simp [s_law_19, el, mkTup, allP, ne]
  simp [b_law_20, e18, e19]

theorem law_bads (M : Store) (lr : Nat) (ts : List Dr) (at_ : Nat) (hr : M[lr]? = some (.lst (toL ts))) (h1 : at_ < ts.length) (h6 : ts.length ≤ 6) (hg : ∀ t ∈ ts, t.Plain ∧ StrT t ∧ t.n ≠ ("h1" : Str)) (htab : M[1]? = some (.tab "law")) (x0 x1 x2 x3 x5 x6 x7 x9 x10 x11 x12 x13 x14 x15 : Option D) :
    ∃ (M' : Store) (y9 y12 : Option D), M <+: M' ∧ s_law_31 [x0, x1, x2, x3, some (.ref lr), x5, x6, x7, some (.p (.int at_)), x9, x10, x11, x12, x13, x14, x15] M = .nx [x0, x1, x2, x3, some (.ref lr), x5, x6, x7, some (.p (.int at_)), y9, x10, x11, y12, x13, x14, x15] M' := by
  have er : rng1 [.p (.int 7)] = some (0, 7) := rng1_len 7 (by omega)
  obtain ⟨ρ', M2, k1, y9, y12, k2, rfl⟩ := forL_inv (k := none) (g := gNm 9) (body := b_law_20) (intsD 0 7) (fun _ ρ M' => ∃ y9 y12, M <+: M' ∧ ρ = [x0, x1, x2, x3, some (.ref lr), x5, x6, x7, some (.p (.int at_)), y9, x10, x11, y12, x13, x14, x15]) (fun _ _ _ _ => True.intro) (by
    rintro i x ρ M3 hx ⟨y9, y12, q, rfl⟩
    have hi : i < 7 := by
      have := (List.getElem?_eq_some_iff.mp hx).1
      rw [intsD_len] at this
      exact this
    rw [intsD_get 0 _ i hi] at hx
    cases hx
    rw [Int.zero_add]
    obtain ⟨M4, w12, q4, e⟩ := law_bad M3 lr ts at_ i hi (pfx_get q hr) h1 h6 hg (pfx_get q htab) x0 x1 x2 x3 x5 x6 x7 x10 x11 y12 x13 x14 x15
    exact ⟨_, _, _, M4, rfl, .inl e, some (.p (.int i)), w12, q.trans q4, rfl⟩) (ρ := [x0, x1, x2, x3, some (.ref lr), x5, x6, x7, some (.p (.int at_)), x9, x10, x11, x12, x13, x14, x15]) (M := M) ⟨x9, x12, List.prefix_refl _, rfl⟩
  exact ⟨M2, y9, y12, k2, by simp [s_law_31, er, k1]⟩

theorem told_bad2 {B : Store → R D} {M M1 : Store} (h : B M = .ex "BadTable" none M1) (hp : M <+: M1) : ∃ l M', F__law_told B [] M = .ok (.tup [.p (.str "error"), .ref l]) M' ∧ M <+: M' ∧ M'[l]? = some (.lst [.p (.str "BadTable")]) := by
  have hl := pfx_len hp
  refine ⟨M1.length + 2, M1 ++ [.lst wordsL, .lst [.p (.bl true), .p (.bl false)], .lst [.p (.str "BadTable")]], ?_, hp.trans (List.prefix_append _ _), by simp⟩
  simp [F__law_told, h, hl]
/-- the row that is too long -/
theorem law_last (M : Store) (lr : Nat) (ts : List Dr) (at_ : Nat) (hr : M[lr]? = some (.lst (toL ts))) (h1 : at_ < ts.length) (h6 : ts.length ≤ 6) (htab : M[1]? = some (.tab "law")) (x0 x1 x2 x3 x5 x6 x7 x9 x10 x11 x12 x13 x14 x15 : Option D) :
    ∃ M', M <+: M' ∧ s_law_32 [x0, x1, x2, x3, some (.ref lr), x5, x6, x7, some (.p (.int at_)), x9, x10, x11, x12, x13, x14, x15] M = .rt (.p (.bl true)) M' := by
  have g1 := List.getElem?_eq_getElem h1
  have b2 := v_ix_l lr _ at_ _ M hr (toL_get g1)
  obtain ⟨S1, hS1⟩ : ∃ S1 : Store, S1 = M ++ [O.lst [.p ts[at_].T]] := ⟨_, rfl⟩
  obtain ⟨S2, hS2⟩ : ∃ S2 : Store, S2 = S1 ++ [O.lst (List.replicate 6 (D.p ts[at_].T))] := ⟨_, rfl⟩
  obtain ⟨S3, hS3⟩ : ∃ S3 : Store, S3 = S2 ++ [O.lst (toL ts ++ List.replicate 6 (D.p ts[at_].T))] := ⟨_, rfl⟩
  obtain ⟨S4, hS4⟩ : ∃ S4 : Store, S4 = S3 ++ [O.lst ((toL ts ++ List.replicate 6 (D.p ts[at_].T)).take 7)] := ⟨_, rfl⟩
  have p1 : M <+: S1 := by rw [hS1]; exact List.prefix_append _ _
  have p2 : S1 <+: S2 := by rw [hS2]; exact List.prefix_append _ _
  have p3 : S2 <+: S3 := by rw [hS3]; exact List.prefix_append _ _
  have p4 : S3 <+: S4 := by rw [hS4]; exact List.prefix_append _ _
  have n1 : S1[M.length]? = some (.lst [.p ts[at_].T]) := by rw [hS1]; exact get_new _ _
  have n2 : S2[S1.length]? = some (.lst (List.replicate 6 (D.p ts[at_].T))) := by rw [hS2]; exact get_new _ _
  have n3 : S3[S2.length]? = some (.lst (toL ts ++ List.replicate 6 (D.p ts[at_].T))) := by rw [hS3]; exact get_new _ _
  have n4 : S4[S3.length]? = some (.lst (((ts.map Dr.T ++ List.replicate 6 ts[at_].T).take 7).map D.p)) := by
    rw [hS4, get_new]
    simp [toL, List.map_take, Function.comp_def]
  have b3 : dMul (.ref M.length) (.p (.int 6)) S1 = some (.ref S1.length, S2) := by
    have e : (List.replicate 6 [D.p ts[at_].T]).flatten = List.replicate 6 (D.p ts[at_].T) := rfl
    have c : -(2 ^ 63) ≤ (6 : Int) ∧ (6 : Int) < 2 ^ 63 ∧ [D.p ts[at_].T].length * (6 : Int).toNat ≤ sizeLine := ⟨by decide, by decide, le_line (by simp)⟩
    simp only [dMul, n1]
    rw [if_pos c]
    show some (D.ref S1.length, S1 ++ [O.lst (List.replicate 6 [D.p ts[at_].T]).flatten]) = _
    rw [e, hS2]
  have b5 : dAdd (.ref lr) (.ref S1.length) S2 = some (.ref S2.length, S3) := by
    rw [v_cat _ _ _ _ S2 (pfx_get (p1.trans p2) hr) n2 (le_line (by simp; omega)), hS3]
  have b6 : dSl (.ref S2.length) none (some 7) S3 = some (.ref S3.length, S4) := by
    simp only [dSl, n3, hS4]
    have ec : (7 : Int) = ((7 : Nat) : Int) := rfl
    rw [ec, cut_take _ 7 (by simp; omega)]
  have bad : F_join_doors [.ref S3.length] S4 = .ex "BadTable" none S4 := x_row_long S3.length _ S4 n4 (by simp; omega)
  have hB : (rCallN 1 F_join_doors (rCons (rSl (rBin dAdd (rVar 4) (rBin dMul (rLst (rCons (rBin dIx (rVar 4) (rVar 8)) rNil)) (rC (.p (.int 6))))) rNoPart (rPart (rC (.p (.int 7))))) rNil)) [x0, x1, x2, x3, some (.ref lr), x5, x6, x7, some (.p (.int at_)), x9, x10, x11, x12, x13, x14, x15] M = .ex "BadTable" none S4 := by
    simp [asPart, b2, ← hS1, b3, b5, b6, bad]
  obtain ⟨l, S6, t1, t2, t3⟩ := told_bad2 hB (((p1.trans p2).trans p3).trans p4)
  have eq := err_eqX l S6.length (S6 ++ [O.lst [.p (.str "BadTable")]]) (get_app t3 _) (get_new _ _)
  have el : (rLamCall 1 "law" F__law_told (rCallN 1 F_join_doors (rCons (rSl (rBin dAdd (rVar 4) (rBin dMul (rLst (rCons (rBin dIx (rVar 4) (rVar 8)) rNil)) (rC (.p (.int 6))))) rNoPart (rPart (rC (.p (.int 7))))) rNil)) []) [x0, x1, x2, x3, some (.ref lr), x5, x6, x7, some (.p (.int at_)), x9, x10, x11, x12, x13, x14, x15] M = .ok (.tup [.p (.str "error"), .ref l]) S6 := by
    unfold rLamCall
    rw [htab]
    simp only [if_true]
    exact t1
  refine ⟨S6 ++ [O.lst [.p (.str "BadTable")]], pfx_app t2 _, ?_⟩
  simp [s_law_32, el, mkTup, allP, eq]
theorem seq3 (a b c r : RS) (ρ : Fl.Env) (M : Store) : (rSeq a (rSeq b (rSeq c r))) ρ M = ((rSeq a (rSeq b c)) ρ M).bind r := by
  simp only [rSeq]
  cases a ρ M with
  | nx ρ1 M1 =>
    show (b ρ1 M1).bind (rSeq c r) = ((b ρ1 M1).bind c).bind r
    cases b ρ1 M1 <;> rfl
  | _ => rfl
theorem law_true (ns : List Int) (hl : ns.length ≤ 63) (o : O) (ho : o = .ro (ns.map fun i => .p (.int i)) ∨ o = .lst (ns.map fun i => .p (.int i))) : ∃ M, F_law [.ref 0] [o, .tab "law"] = .ok (.p (.bl true)) M := by
  obtain ⟨xs, n1, p1⟩ := x_numbers ns o ho [o, .tab "law"] rfl 0 64 (by omega) (by omega)
  obtain ⟨S1, hS1⟩ : ∃ S1 : Store, S1 = [o, .tab "law"] ++ [O.lst (numL xs)] := ⟨_, rfl⟩
  have q1 : [o, O.tab "law"] <+: S1 := by rw [hS1]; exact List.prefix_append _ _
  have g1 : S1[2]? = some (.lst (numL xs)) := by rw [hS1]; rfl
  obtain ⟨S2, y2, y6, y10, y13, y14, q2, p2⟩ := law_pairs S1 2 xs g1 n1 (some (.ref 0)) none none none none none none none none none none none none none none
  obtain ⟨ms, n3, p3⟩ := x_numbers ns o ho S2 (pfx_get (q1.trans q2) rfl) 1 48 (by omega) (by omega)
  obtain ⟨S3, hS3⟩ : ∃ S3 : Store, S3 = S2 ++ [O.lst (numL ms)] := ⟨_, rfl⟩
  have q3 : S2 <+: S3 := by rw [hS3]; exact List.prefix_append _ _
  have g3 : S3[S2.length]? = some (.lst (numL ms)) := by rw [hS3]; exact get_new _ _
  obtain ⟨S4, hS4⟩ : ∃ S4 : Store, S4 = S3 ++ [O.lst []] := ⟨_, rfl⟩
  have q4 : S3 <+: S4 := by rw [hS4]; exact List.prefix_append _ _
  have g4 : S4[S3.length]? = some (.lst (toL [])) := by rw [hS4]; exact get_new _ _
  obtain ⟨S5, ts, y5, t1, t6, tg, q5, g5, p5⟩ := law_row S3 S4 S2.length ms (pfx_get q4 g3) n3 q4 g4 g3 (some (.ref 0)) (some (.ref 2)) y2 none y6 none none none y10 none none y13 y14 none
  obtain ⟨S6, z6, z7, q6, p6⟩ := law_whole S5 S3.length ts g5 t1 t6 tg (some (.ref 0)) (some (.ref 2)) y2 (some (.ref S2.length)) y5 y6 none none none y10 none none y13 y14 none
  obtain ⟨w5, w11, w15, p7⟩ := law_stricts S6 S3.length ts (pfx_get q6 g5) t6 (fun t h => (tg t h).1) (some (.ref 0)) (some (.ref 2)) y2 (some (.ref S2.length)) y5 z6 z7 none none y10 none none y13 y14 none
  obtain ⟨at_, ha, p8⟩ := x_pick S6 S2.length 48 ms (pfx_get (q5.trans q6) g3) n3 (by omega) 44 ts.length (by omega)
  have qt : [o, O.tab "law"] <+: S6 := ((((q1.trans q2).trans q3).trans q5).trans q6)
  have ht : S6[1]? = some (.tab "law") := pfx_get qt rfl
  obtain ⟨S7, v9, v12, q7, p9⟩ := law_bads S6 S3.length ts at_ (pfx_get q6 g5) ha t6 tg ht (some (.ref 0)) (some (.ref 2)) y2 (some (.ref S2.length)) w5 z6 z7 none y10 w11 none y13 y14 w15
  obtain ⟨S8, q8, p10⟩ := law_last S7 S3.length ts at_ (pfx_get (q6.trans q7) g5) ha t6 (pfx_get q7 ht) (some (.ref 0)) (some (.ref 2)) y2 (some (.ref S2.length)) w5 z6 z7 v9 y10 w11 v12 y13 y14 w15
  have e8 := v_len_l S3.length _ S6 (pfx_get q6 g5)
  rw [toL_len] at e8
  have e1 : s_law_21 (startD 16 [.ref 0]) [o, .tab "law"] = .nx [some (.ref 0), some (.ref 2), none, none, none, none, none, none, none, none, none, none, none, none, none, none] S1 := by
    simp at p1
    simp [s_law_21, p1, hS1]
  have e3 : s_law_23 [some (.ref 0), some (.ref 2), y2, none, none, none, y6, none, none, none, y10, none, none, y13, y14, none] S2 = .nx [some (.ref 0), some (.ref 2), y2, some (.ref S2.length), none, none, y6, none, none, none, y10, none, none, y13, y14, none] S3 := by
    simp at p3
    simp [s_law_23, p3, hS3]
  have e4 : s_law_24 [some (.ref 0), some (.ref 2), y2, some (.ref S2.length), none, none, y6, none, none, none, y10, none, none, y13, y14, none] S3 = .nx [some (.ref 0), some (.ref 2), y2, some (.ref S2.length), some (.ref S3.length), none, y6, none, none, none, y10, none, none, y13, y14, none] S4 := by
    simp [s_law_24, hS4]
  have e8 : s_law_30 [some (.ref 0), some (.ref 2), y2, some (.ref S2.length), some (.ref S3.length), w5, z6, z7, none, none, y10, w11, none, y13, y14, w15] S6 = .nx [some (.ref 0), some (.ref 2), y2, some (.ref S2.length), some (.ref S3.length), w5, z6, z7, some (.p (.int at_)), none, y10, w11, none, y13, y14, w15] S6 := by
    simp at p8
    simp [s_law_30, e8, p8]
  refine ⟨S8, selfF_ok ?_ (pfx_len ((qt.trans q7).trans q8))⟩
  unfold m_law
  rw [e_seq, e1, Out.bind_nx, e_seq, p2, Out.bind_nx, e_seq, e3, Out.bind_nx, e_seq, e4, Out.bind_nx, e_seq, p5, Out.bind_nx, seq3, p6, Out.bind_nx, e_seq, p7, Out.bind_nx, e_seq, e8, Out.bind_nx, e_seq, p9, Out.bind_nx, p10]
  rfl

/-! ### the text -/
def top (i : Nat) : Stmt := PySem.Challenge.pw_holesmet_k86_doors_joined_in_rows.main.body.getD i (.Pass ⟨0, 0, 0, 0⟩)
abbrev st_is_int : Stmt := top 5
theorem sc_is_int : FnScope ["value"] ["value"] (defScope st_is_int) := ⟨rfl, rfl, rfl, by decide +kernel, rfl, by decide +kernel, by decide +kernel⟩
abbrev st_is_between : Stmt := top 6
theorem sc_is_between : FnScope ["value", "least", "greatest"] ["value", "least", "greatest"] (defScope st_is_between) := ⟨rfl, rfl, rfl, by decide +kernel, rfl, by decide +kernel, by decide +kernel⟩
abbrev st_is_bit : Stmt := top 7
theorem sc_is_bit : FnScope ["value"] ["value"] (defScope st_is_bit) := ⟨rfl, rfl, rfl, by decide +kernel, rfl, by decide +kernel, by decide +kernel⟩
abbrev st_is_tuple_of : Stmt := top 8
theorem sc_is_tuple_of : FnScope ["value", "length"] ["value", "length"] (defScope st_is_tuple_of) := ⟨rfl, rfl, rfl, by decide +kernel, rfl, by decide +kernel, by decide +kernel⟩
abbrev st_is_row : Stmt := top 9
theorem sc_is_row : FnScope ["value"] ["value"] (defScope st_is_row) := ⟨rfl, rfl, rfl, by decide +kernel, rfl, by decide +kernel, by decide +kernel⟩
abbrev st_is_all : Stmt := top 15
theorem sc_is_all : FnScope ["row", "signs", "sign"] ["row", "signs"] (defScope st_is_all) := ⟨rfl, rfl, rfl, by decide +kernel, rfl, by decide +kernel, by decide +kernel⟩
abbrev st_is_word : Stmt := top 16
theorem sc_is_word : FnScope ["row"] ["row"] (defScope st_is_word) := ⟨rfl, rfl, rfl, by decide +kernel, rfl, by decide +kernel, by decide +kernel⟩
abbrev st_is_small_row : Stmt := top 17
theorem sc_is_small_row : FnScope ["row"] ["row"] (defScope st_is_small_row) := ⟨rfl, rfl, rfl, by decide +kernel, rfl, by decide +kernel, by decide +kernel⟩
abbrev st_is_small_name : Stmt := top 18
theorem sc_is_small_name : FnScope ["row"] ["row"] (defScope st_is_small_name) := ⟨rfl, rfl, rfl, by decide +kernel, rfl, by decide +kernel, by decide +kernel⟩
abbrev st_is_great_name : Stmt := top 19
theorem sc_is_great_name : FnScope ["row"] ["row"] (defScope st_is_great_name) := ⟨rfl, rfl, rfl, by decide +kernel, rfl, by decide +kernel, by decide +kernel⟩
abbrev st_is_told_name : Stmt := top 25
theorem sc_is_told_name : FnScope ["value"] ["value"] (defScope st_is_told_name) := ⟨rfl, rfl, rfl, by decide +kernel, rfl, by decide +kernel, by decide +kernel⟩
abbrev st_is_told_great : Stmt := top 26
theorem sc_is_told_great : FnScope ["value"] ["value"] (defScope st_is_told_great) := ⟨rfl, rfl, rfl, by decide +kernel, rfl, by decide +kernel, by decide +kernel⟩
abbrev st_is_told_number : Stmt := top 27
theorem sc_is_told_number : FnScope ["value"] ["value"] (defScope st_is_told_number) := ⟨rfl, rfl, rfl, by decide +kernel, rfl, by decide +kernel, by decide +kernel⟩
abbrev st_is_told_range : Stmt := top 28
theorem sc_is_told_range : FnScope ["value"] ["value"] (defScope st_is_told_range) := ⟨rfl, rfl, rfl, by decide +kernel, rfl, by decide +kernel, by decide +kernel⟩
abbrev st_is_told_rule : Stmt := top 29
theorem sc_is_told_rule : FnScope ["value"] ["value"] (defScope st_is_told_rule) := ⟨rfl, rfl, rfl, by decide +kernel, rfl, by decide +kernel, by decide +kernel⟩
abbrev st_are_told_rules : Stmt := top 30
theorem sc_are_told_rules : FnScope ["value", "rule"] ["value"] (defScope st_are_told_rules) := ⟨rfl, rfl, rfl, by decide +kernel, rfl, by decide +kernel, by decide +kernel⟩
abbrev st_is_net : Stmt := top 31
theorem sc_is_net : FnScope ["item"] ["item"] (defScope st_is_net) := ⟨rfl, rfl, rfl, by decide +kernel, rfl, by decide +kernel, by decide +kernel⟩
abbrev st_is_host : Stmt := top 32
theorem sc_is_host : FnScope ["item"] ["item"] (defScope st_is_host) := ⟨rfl, rfl, rfl, by decide +kernel, rfl, by decide +kernel, by decide +kernel⟩
abbrev st_is_door : Stmt := top 33
theorem sc_is_door : FnScope ["item", "_", "name", "inner", "outer", "maps", "lets", "low", "high", "keeps", "span", "both", "turns"] ["item"] (defScope st_is_door) := ⟨rfl, rfl, rfl, by decide +kernel, rfl, by decide +kernel, by decide +kernel⟩
abbrev st_is_open : Stmt := top 34
theorem sc_is_open : FnScope ["item", "_", "door", "port", "name", "inner_port"] ["item"] (defScope st_is_open) := ⟨rfl, rfl, rfl, by decide +kernel, rfl, by decide +kernel, by decide +kernel⟩
abbrev st_is_wall : Stmt := top 35
theorem sc_is_wall : FnScope ["item"] ["item"] (defScope st_is_wall) := ⟨rfl, rfl, rfl, by decide +kernel, rfl, by decide +kernel, by decide +kernel⟩
abbrev st_is_item : Stmt := top 36
theorem sc_is_item : FnScope ["value", "kind"] ["value"] (defScope st_is_item) := ⟨rfl, rfl, rfl, by decide +kernel, rfl, by decide +kernel, by decide +kernel⟩
abbrev st_is_port_number : Stmt := top 42
theorem sc_is_port_number : FnScope ["number"] ["number"] (defScope st_is_port_number) := ⟨rfl, rfl, rfl, by decide +kernel, rfl, by decide +kernel, by decide +kernel⟩
abbrev st_has_fit_numbers : Stmt := top 43
theorem sc_has_fit_numbers : FnScope ["door", "_", "maps", "lets", "low", "high", "span"] ["door"] (defScope st_has_fit_numbers) := ⟨rfl, rfl, rfl, by decide +kernel, rfl, by decide +kernel, by decide +kernel⟩
abbrev st_is_name : Stmt := top 45
theorem sc_is_name : FnScope ["value"] ["value"] (defScope st_is_name) := ⟨rfl, rfl, rfl, by decide +kernel, rfl, by decide +kernel, by decide +kernel⟩
abbrev st_is_port : Stmt := top 46
theorem sc_is_port : FnScope ["value"] ["value"] (defScope st_is_port) := ⟨rfl, rfl, rfl, by decide +kernel, rfl, by decide +kernel, by decide +kernel⟩
abbrev st_is_end : Stmt := top 47
theorem sc_is_end : FnScope ["value"] ["value"] (defScope st_is_end) := ⟨rfl, rfl, rfl, by decide +kernel, rfl, by decide +kernel, by decide +kernel⟩
abbrev st_is_door_of_a_plan : Stmt := top 50
theorem sc_is_door_of_a_plan : FnScope ["value"] ["value"] (defScope st_is_door_of_a_plan) := ⟨rfl, rfl, rfl, by decide +kernel, rfl, by decide +kernel, by decide +kernel⟩
abbrev st_is_open_of : Stmt := top 51
theorem sc_is_open_of : FnScope ["door", "value", "port", "end"] ["door", "value"] (defScope st_is_open_of) := ⟨rfl, rfl, rfl, by decide +kernel, rfl, by decide +kernel, by decide +kernel⟩
abbrev st_are_opens_of : Stmt := top 52
theorem sc_are_opens_of : FnScope ["door", "value", "at", "row"] ["door", "value"] (defScope st_are_opens_of) := ⟨rfl, rfl, rfl, by decide +kernel, rfl, by decide +kernel, by decide +kernel⟩
abbrev st_is_table : Stmt := top 53
theorem sc_is_table : FnScope ["value"] ["value"] (defScope st_is_table) := ⟨rfl, rfl, rfl, by decide +kernel, rfl, by decide +kernel, by decide +kernel⟩
abbrev st_ports_of : Stmt := top 54
theorem sc_ports_of : FnScope ["table"] ["table"] (defScope st_ports_of) := ⟨rfl, rfl, rfl, by decide +kernel, rfl, by decide +kernel, by decide +kernel⟩
abbrev st_check_table : Stmt := top 55
theorem sc_check_table : FnScope ["value"] ["value"] (defScope st_check_table) := ⟨rfl, rfl, rfl, by decide +kernel, rfl, by decide +kernel, by decide +kernel⟩
abbrev st_strictest : Stmt := top 63
theorem sc_strictest : FnScope ["inner", "outer", "maps", "lets", "one", "other"] ["inner", "outer"] (defScope st_strictest) := ⟨rfl, rfl, rfl, by decide +kernel, rfl, by decide +kernel, by decide +kernel⟩
abbrev st_is_stricter : Stmt := top 64
theorem sc_is_stricter : FnScope ["one", "other"] ["one", "other"] (defScope st_is_stricter) := ⟨rfl, rfl, rfl, by decide +kernel, rfl, by decide +kernel, by decide +kernel⟩
abbrev st_check_plain : Stmt := top 65
theorem sc_check_plain : FnScope ["table", "door", "opens", "low", "high"] ["table"] (defScope st_check_plain) := ⟨rfl, rfl, rfl, by decide +kernel, rfl, by decide +kernel, by decide +kernel⟩
abbrev st_check_row_of_doors : Stmt := top 66
theorem sc_check_row_of_doors : FnScope ["tables", "table"] ["tables"] (defScope st_check_row_of_doors) := ⟨rfl, rfl, rfl, by decide +kernel, rfl, by decide +kernel, by decide +kernel⟩
abbrev st_do_as_one : Stmt := top 67
theorem sc_do_as_one : FnScope ["inner", "outer", "maps", "lets", "outer_maps", "outer_lets"] ["inner", "outer"] (defScope st_do_as_one) := ⟨rfl, rfl, rfl, by decide +kernel, rfl, by decide +kernel, by decide +kernel⟩
abbrev st_first_pair : Stmt := top 68
theorem sc_first_pair : FnScope ["tables", "number"] ["tables"] (defScope st_first_pair) := ⟨rfl, rfl, rfl, by decide +kernel, rfl, by decide +kernel, by decide +kernel⟩
abbrev st_join_doors : Stmt := top 69
theorem sc_join_doors : FnScope ["tables", "left", "number"] ["tables"] (defScope st_join_doors) := ⟨rfl, rfl, rfl, by decide +kernel, rfl, by decide +kernel, by decide +kernel⟩
abbrev st__law_numbers : Stmt := top 71
theorem sc__law_numbers : FnScope ["script", "at", "count", "cell", "great", "base", "found", "k", "x"] ["script", "at", "count"] (defScope st__law_numbers) := ⟨rfl, rfl, rfl, by decide +kernel, rfl, by decide +kernel, by decide +kernel⟩
abbrev st__law_pick : Stmt := top 72
theorem sc__law_pick : FnScope ["numbers", "at", "count"] ["numbers", "at", "count"] (defScope st__law_pick) := ⟨rfl, rfl, rfl, by decide +kernel, rfl, by decide +kernel, by decide +kernel⟩
abbrev st__law_like : Stmt := top 73
theorem sc__law_like : FnScope ["told", "due", "k"] ["told", "due"] (defScope st__law_like) := ⟨rfl, rfl, rfl, by decide +kernel, rfl, by decide +kernel, by decide +kernel⟩
abbrev st__law_told : Stmt := top 74
theorem sc__law_told : FnScope ["call", "words", "named", "e", "k"] ["call"] (defScope st__law_told) := ⟨rfl, rfl, rfl, by decide +kernel, rfl, by decide +kernel, by decide +kernel⟩
abbrev st__law_table : Stmt := top 75
theorem sc__law_table : FnScope ["numbers", "at", "maps", "lets", "low", "high", "name", "bits"] ["numbers", "at", "maps", "lets"] (defScope st__law_table) := ⟨rfl, rfl, rfl, by decide +kernel, rfl, by decide +kernel, by decide +kernel⟩
abbrev st__law_one : Stmt := top 76
theorem sc__law_one : FnScope ["inner", "outer", "door", "maps", "lets"] ["inner", "outer"] (defScope st__law_one) := ⟨rfl, rfl, rfl, by decide +kernel, rfl, by decide +kernel, by decide +kernel⟩
abbrev st__law_alike : Stmt := top 77
theorem sc__law_alike : FnScope ["inner", "outer", "a", "f", "b", "g"] ["inner", "outer"] (defScope st__law_alike) := ⟨rfl, rfl, rfl, by decide +kernel, rfl, by decide +kernel, by decide +kernel⟩
abbrev st__law_joined : Stmt := top 78
theorem sc__law_joined : FnScope ["tables", "left", "step", "k"] ["tables"] (defScope st__law_joined) := ⟨rfl, rfl, rfl, by decide +kernel, rfl, by decide +kernel, by decide +kernel⟩
abbrev st__law_wrong : Stmt := top 79
theorem sc__law_wrong : FnScope ["table", "kind", "door"] ["table", "kind"] (defScope st__law_wrong) := ⟨rfl, rfl, rfl, by decide +kernel, rfl, by decide +kernel, by decide +kernel⟩
abbrev st_law : Stmt := top 80
theorem sc_law : FnScope ["script", "numbers", "a", "more", "row", "k", "due", "handed", "at", "kind", "b", "j", "bad", "one", "other", "stricter"] ["script"] (defScope st_law) := ⟨rfl, rfl, rfl, by decide +kernel, rfl, by decide +kernel, by decide +kernel⟩
/-! ### what the top leaves -/
structure Tx (w : World) (K : PySem.W.Frag) (mg : Str → Option Value) : Prop where
  f_abs : mg "abs" = none
  f_bool : mg "bool" = none
  f_enumerate : mg "enumerate" = none
  f_int : mg "int" = none
  f_isinstance : mg "isinstance" = none
  f_len : mg "len" = none
  f_list : mg "list" = none
  f_max : mg "max" = none
  f_min : mg "min" = none
  f_range : mg "range" = none
  f_str : mg "str" = none
  f_tuple : mg "tuple" = none
  c_DIGITS : Cst ⟨K, mg⟩ "DIGITS" (.p c_DIGITS)
  c_GREATEST_PORT : Cst ⟨K, mg⟩ "GREATEST_PORT" (.p c_GREATEST_PORT)
  c_GREAT_LETTERS : Cst ⟨K, mg⟩ "GREAT_LETTERS" (.p c_GREAT_LETTERS)
  c_KEEPS : Cst ⟨K, mg⟩ "KEEPS" (.p c_KEEPS)
  c_KINDS : Cst ⟨K, mg⟩ "KINDS" (.p c_KINDS)
  c_LEAST_PORT : Cst ⟨K, mg⟩ "LEAST_PORT" (.p c_LEAST_PORT)
  c_LEAST_PORTS : Cst ⟨K, mg⟩ "LEAST_PORTS" (.p c_LEAST_PORTS)
  c_LETS : Cst ⟨K, mg⟩ "LETS" (.p c_LETS)
  c_LONGEST_SPAN : Cst ⟨K, mg⟩ "LONGEST_SPAN" (.p c_LONGEST_SPAN)
  c_MANNERS : Cst ⟨K, mg⟩ "MANNERS" (.p c_MANNERS)
  c_MAPS : Cst ⟨K, mg⟩ "MAPS" (.p c_MAPS)
  c_MOST_JOINED : Cst ⟨K, mg⟩ "MOST_JOINED" (.p c_MOST_JOINED)
  c_MOST_OPENS : Cst ⟨K, mg⟩ "MOST_OPENS" (.p c_MOST_OPENS)
  c_RANGES_OF_A_RULE : Cst ⟨K, mg⟩ "RANGES_OF_A_RULE" (.p c_RANGES_OF_A_RULE)
  c_SMALL_LETTERS : Cst ⟨K, mg⟩ "SMALL_LETTERS" (.p c_SMALL_LETTERS)
  c_SPAN : Cst ⟨K, mg⟩ "SPAN" (.p c_SPAN)
  c_TOP : Cst ⟨K, mg⟩ "TOP" (.p c_TOP)
  c_WORDS : Cst ⟨K, mg⟩ "WORDS" (.p c_WORDS)
  t_LENGTHS : Dtb K mg w "LENGTHS" t_LENGTHS
  x_BadEnds : ExC ⟨K, mg⟩ "BadEnds" (He.ga K "BadEnds")
  x_BadTable : ExC ⟨K, mg⟩ "BadTable" (He.ga K "BadTable")
  x_DoorError : ExC ⟨K, mg⟩ "DoorError" (He.ga K "DoorError")
  g_BadEnds : mg "BadEnds" = some (.ref (He.ga K "BadEnds"))
  g_BadTable : mg "BadTable" = some (.ref (He.ga K "BadTable"))
  g_DoorError : mg "DoorError" = some (.ref (He.ga K "DoorError"))
  xs_DoorError : ∀ q ∈ ([("BadTable", true)] : List (Str × Bool)), PySem.W.exmOne K (cval ⟨K, mg⟩ q.1) (.ref (He.ga K "DoorError")) = some q.2
  k__law_told : ∀ c, (∃ b, (c, b) ∈ ([("BadTable", true)] : List (Str × Bool))) → ∃ D0, mg c = some (.ref D0) ∧ ExcC K D0 ∧ ∀ t ∈ (["BadTable", "BadEnds"] : List Str), ∃ A0, mg t = some (.ref A0) ∧ PySem.W.kitOne K (.ref D0) (.ref A0) = some (c == t)
section
variable {P : Program} {w : World} {K : PySem.W.Frag} {mg : Str → Option Value} {base : Heap}
theorem ok_is_int  {f : Addr} {fd : FuncData} (T : Tx w K mg) (F : FunD K "is_int" "is_int" (defArgs st_is_int) (defBody st_is_int) (defScope st_is_int) [] [] f fd)   : FnOk P w K mg base (L2N.CX P w) (1) f fd ["value"] (spD ⟨K, mg⟩ F_is_int 1) :=
  fn_E (m := m_is_int ) F sc_is_int (fun cdv A outer s H E hr hp W tk =>
  (s_one (s_ret (i_and (i_isa (by simp) (by rfl) T.f_isinstance (by rfl) T.f_int bi_int (i_var 0)) (i_one (i_not (i_isa (by simp) (by rfl) T.f_isinstance (by rfl) T.f_bool bi_bool (i_var 0)))))))) (r_is_int)
theorem ok_is_between  {f : Addr} {fd : FuncData} (T : Tx w K mg) (F : FunD K "is_between" "is_between" (defArgs st_is_between) (defBody st_is_between) (defScope st_is_between) [] [] f fd) (D_is_int : Df P w K mg base "is_int" ["value"] F_is_int 1)  : FnOk P w K mg base (L2N.CX P w) (2) f fd ["value", "least", "greatest"] (spD ⟨K, mg⟩ F_is_between 3) :=
  fn_E (m := m_is_between ) F sc_is_between (fun cdv A outer s H E hr hp W tk =>
  (s_one (s_ret (i_and (i_call D_is_int (hr.mono (by first | decide | omega)) (by rfl) tk (i_cons (i_var 0) i_nil)) (i_one (i_chain o_le d_ord o_le d_ord (i_var 1) (i_var 0) (i_var 2))))))) (r_is_between)
theorem ok_is_bit  {f : Addr} {fd : FuncData} (T : Tx w K mg) (F : FunD K "is_bit" "is_bit" (defArgs st_is_bit) (defBody st_is_bit) (defScope st_is_bit) [] [] f fd) (D_is_between : Df P w K mg base "is_between" ["value", "least", "greatest"] F_is_between 2)  : FnOk P w K mg base (L2N.CX P w) (3) f fd ["value"] (spD ⟨K, mg⟩ F_is_bit 1) :=
  fn_E (m := m_is_bit ) F sc_is_bit (fun cdv A outer s H E hr hp W tk =>
  (s_one (s_ret (i_call D_is_between (hr.mono (by first | decide | omega)) (by rfl) tk (i_cons (i_var 0) (i_cons i_int (i_cons i_int i_nil))))))) (r_is_bit)
theorem ok_is_tuple_of  {f : Addr} {fd : FuncData} (T : Tx w K mg) (F : FunD K "is_tuple_of" "is_tuple_of" (defArgs st_is_tuple_of) (defBody st_is_tuple_of) (defScope st_is_tuple_of) [] [] f fd)   : FnOk P w K mg base (L2N.CX P w) (1) f fd ["value", "length"] (spD ⟨K, mg⟩ F_is_tuple_of 2) :=
  fn_E (m := m_is_tuple_of ) F sc_is_tuple_of (fun cdv A outer s H E hr hp W tk =>
  (s_one (s_ret (i_and (i_isa (by simp) (by rfl) T.f_isinstance (by rfl) T.f_tuple bi_tuple (i_var 0)) (i_one (i_cmp (o_eq (hu_r hr)) d_eq (i_callB call_len d_len (by rfl) T.f_len bi_len (i_cons (i_var 0) i_nil)) (i_var 1))))))) (r_is_tuple_of)
theorem ok_is_row  {f : Addr} {fd : FuncData} (T : Tx w K mg) (F : FunD K "is_row" "is_row" (defArgs st_is_row) (defBody st_is_row) (defScope st_is_row) [] [] f fd)   : FnOk P w K mg base (L2N.CX P w) (1) f fd ["value"] (spD ⟨K, mg⟩ F_is_row 1) :=
  fn_E (m := m_is_row ) F sc_is_row (fun cdv A outer s H E hr hp W tk =>
  (s_one (s_ret (i_isa2 (by simp) (by simp) (by rfl) T.f_isinstance (by rfl) T.f_list bi_list (by rfl) T.f_tuple bi_tuple (i_var 0))))) (r_is_row)
theorem ok_is_all  {f : Addr} {fd : FuncData} (T : Tx w K mg) (F : FunD K "is_all" "is_all" (defArgs st_is_all) (defBody st_is_all) (defScope st_is_all) [] [] f fd)   : FnOk P w K mg base (L2N.CX P w) (1) f fd ["row", "signs"] (spD ⟨K, mg⟩ F_is_all 2) :=
  fn_E (m := m_is_all ) F sc_is_all (fun cdv A outer s H E hr hp W tk =>
  (s_cons (s_forW hp (by rfl) (wi_str (i_var 0)) (g_nm 2 sc_is_all.nd)
  (s_one (s_if (i_tcmp (o_notInX (hu_r hr)) d_notInX (i_var 2) (i_var 1))
  (s_one (s_ret i_bl))
  s_nil)))
  (s_one (s_ret i_bl)))) (r_is_all)
theorem ok_is_word  {f : Addr} {fd : FuncData} (T : Tx w K mg) (F : FunD K "is_word" "is_word" (defArgs st_is_word) (defBody st_is_word) (defScope st_is_word) [] [] f fd)   : FnOk P w K mg base (L2N.CX P w) (1) f fd ["row"] (spD ⟨K, mg⟩ F_is_word 1) :=
  fn_E (m := m_is_word ) F sc_is_word (fun cdv A outer s H E hr hp W tk =>
  (s_one (s_ret (i_cmp (o_inX (hu_r hr)) d_inX (i_var 0) (i_glob (by rfl) (by exact T.c_WORDS)))))) (r_is_word)
theorem ok_is_small_row  {f : Addr} {fd : FuncData} (T : Tx w K mg) (F : FunD K "is_small_row" "is_small_row" (defArgs st_is_small_row) (defBody st_is_small_row) (defScope st_is_small_row) [] [] f fd) (D_is_all : Df P w K mg base "is_all" ["row", "signs"] F_is_all 1)  : FnOk P w K mg base (L2N.CX P w) (2) f fd ["row"] (spD ⟨K, mg⟩ F_is_small_row 1) :=
  fn_E (m := m_is_small_row ) F sc_is_small_row (fun cdv A outer s H E hr hp W tk =>
  (s_cons (s_if (i_tor (i_tcmp (o_eq (hu_r hr)) d_eq (i_var 0) i_str) (i_or1 (i_tcmp (o_notInX (hu_r hr)) d_notInX (i_ix ix_seq d_ix (i_var 0) i_int) (i_glob (by rfl) (by exact T.c_SMALL_LETTERS))))).pt
  (s_one (s_ret i_bl))
  s_nil)
  (s_one (s_ret (i_call D_is_all (hr.mono (by first | decide | omega)) (by rfl) tk (i_cons (i_var 0) (i_cons (i_bin o_add d_add (i_bin o_add d_add (i_glob (by rfl) (by exact T.c_SMALL_LETTERS)) (i_glob (by rfl) (by exact T.c_DIGITS))) i_str) i_nil))))))) (r_is_small_row)
theorem ok_is_small_name  {f : Addr} {fd : FuncData} (T : Tx w K mg) (F : FunD K "is_small_name" "is_small_name" (defArgs st_is_small_name) (defBody st_is_small_name) (defScope st_is_small_name) [] [] f fd) (D_is_small_row : Df P w K mg base "is_small_row" ["row"] F_is_small_row 2) (D_is_word : Df P w K mg base "is_word" ["row"] F_is_word 1)  : FnOk P w K mg base (L2N.CX P w) (3) f fd ["row"] (spD ⟨K, mg⟩ F_is_small_name 1) :=
  fn_E (m := m_is_small_name ) F sc_is_small_name (fun cdv A outer s H E hr hp W tk =>
  (s_one (s_ret (i_and (i_call D_is_small_row (hr.mono (by first | decide | omega)) (by rfl) tk (i_cons (i_var 0) i_nil)) (i_one (i_not (i_call D_is_word (hr.mono (by first | decide | omega)) (by rfl) tk (i_cons (i_var 0) i_nil)))))))) (r_is_small_name)
theorem ok_is_great_name  {f : Addr} {fd : FuncData} (T : Tx w K mg) (F : FunD K "is_great_name" "is_great_name" (defArgs st_is_great_name) (defBody st_is_great_name) (defScope st_is_great_name) [] [] f fd) (D_is_all : Df P w K mg base "is_all" ["row", "signs"] F_is_all 1)  : FnOk P w K mg base (L2N.CX P w) (2) f fd ["row"] (spD ⟨K, mg⟩ F_is_great_name 1) :=
  fn_E (m := m_is_great_name ) F sc_is_great_name (fun cdv A outer s H E hr hp W tk =>
  (s_cons (s_if (i_tor (i_tcmp (o_eq (hu_r hr)) d_eq (i_var 0) i_str) (i_or1 (i_tcmp (o_notInX (hu_r hr)) d_notInX (i_ix ix_seq d_ix (i_var 0) i_int) (i_glob (by rfl) (by exact T.c_GREAT_LETTERS))))).pt
  (s_one (s_ret i_bl))
  s_nil)
  (s_one (s_ret (i_call D_is_all (hr.mono (by first | decide | omega)) (by rfl) tk (i_cons (i_var 0) (i_cons (i_bin o_add d_add (i_bin o_add d_add (i_bin o_add d_add (i_glob (by rfl) (by exact T.c_SMALL_LETTERS)) (i_glob (by rfl) (by exact T.c_GREAT_LETTERS))) (i_glob (by rfl) (by exact T.c_DIGITS))) i_str) i_nil))))))) (r_is_great_name)
theorem ok_is_told_name  {f : Addr} {fd : FuncData} (T : Tx w K mg) (F : FunD K "is_told_name" "is_told_name" (defArgs st_is_told_name) (defBody st_is_told_name) (defScope st_is_told_name) [] [] f fd) (D_is_small_name : Df P w K mg base "is_small_name" ["row"] F_is_small_name 3)  : FnOk P w K mg base (L2N.CX P w) (4) f fd ["value"] (spD ⟨K, mg⟩ F_is_told_name 1) :=
  fn_E (m := m_is_told_name ) F sc_is_told_name (fun cdv A outer s H E hr hp W tk =>
  (s_one (s_ret (i_and (i_isa (by simp) (by rfl) T.f_isinstance (by rfl) T.f_str bi_str (i_var 0)) (i_one (i_call D_is_small_name (hr.mono (by first | decide | omega)) (by rfl) tk (i_cons (i_var 0) i_nil))))))) (r_is_told_name)
theorem ok_is_told_great  {f : Addr} {fd : FuncData} (T : Tx w K mg) (F : FunD K "is_told_great" "is_told_great" (defArgs st_is_told_great) (defBody st_is_told_great) (defScope st_is_told_great) [] [] f fd) (D_is_great_name : Df P w K mg base "is_great_name" ["row"] F_is_great_name 2)  : FnOk P w K mg base (L2N.CX P w) (3) f fd ["value"] (spD ⟨K, mg⟩ F_is_told_great 1) :=
  fn_E (m := m_is_told_great ) F sc_is_told_great (fun cdv A outer s H E hr hp W tk =>
  (s_one (s_ret (i_and (i_isa (by simp) (by rfl) T.f_isinstance (by rfl) T.f_str bi_str (i_var 0)) (i_one (i_call D_is_great_name (hr.mono (by first | decide | omega)) (by rfl) tk (i_cons (i_var 0) i_nil))))))) (r_is_told_great)
theorem ok_is_told_number  {f : Addr} {fd : FuncData} (T : Tx w K mg) (F : FunD K "is_told_number" "is_told_number" (defArgs st_is_told_number) (defBody st_is_told_number) (defScope st_is_told_number) [] [] f fd) (D_is_between : Df P w K mg base "is_between" ["value", "least", "greatest"] F_is_between 2)  : FnOk P w K mg base (L2N.CX P w) (3) f fd ["value"] (spD ⟨K, mg⟩ F_is_told_number 1) :=
  fn_E (m := m_is_told_number ) F sc_is_told_number (fun cdv A outer s H E hr hp W tk =>
  (s_one (s_ret (i_call D_is_between (hr.mono (by first | decide | omega)) (by rfl) tk (i_cons (i_var 0) (i_cons i_int (i_cons (i_glob (by rfl) (by exact T.c_TOP)) i_nil))))))) (r_is_told_number)
theorem ok_is_told_range  {f : Addr} {fd : FuncData} (T : Tx w K mg) (F : FunD K "is_told_range" "is_told_range" (defArgs st_is_told_range) (defBody st_is_told_range) (defScope st_is_told_range) [] [] f fd) (D_is_tuple_of : Df P w K mg base "is_tuple_of" ["value", "length"] F_is_tuple_of 1) (D_is_told_number : Df P w K mg base "is_told_number" ["value"] F_is_told_number 3)  : FnOk P w K mg base (L2N.CX P w) (4) f fd ["value"] (spD ⟨K, mg⟩ F_is_told_range 1) :=
  fn_E (m := m_is_told_range ) F sc_is_told_range (fun cdv A outer s H E hr hp W tk =>
  (s_one (s_ret (i_and (i_call D_is_tuple_of (hr.mono (by first | decide | omega)) (by rfl) tk (i_cons (i_var 0) (i_cons i_int i_nil))) (i_and (i_call D_is_told_number (hr.mono (by first | decide | omega)) (by rfl) tk (i_cons (i_ix ix_seq d_ix (i_var 0) i_int) i_nil)) (i_one (i_call D_is_told_number (hr.mono (by first | decide | omega)) (by rfl) tk (i_cons (i_ix ix_seq d_ix (i_var 0) i_int) i_nil)))))))) (r_is_told_range)
theorem ok_is_told_rule  {f : Addr} {fd : FuncData} (T : Tx w K mg) (F : FunD K "is_told_rule" "is_told_rule" (defArgs st_is_told_rule) (defBody st_is_told_rule) (defScope st_is_told_rule) [] [] f fd) (D_is_tuple_of : Df P w K mg base "is_tuple_of" ["value", "length"] F_is_tuple_of 1) (D_is_bit : Df P w K mg base "is_bit" ["value"] F_is_bit 3) (D_is_told_range : Df P w K mg base "is_told_range" ["value"] F_is_told_range 4)  : FnOk P w K mg base (L2N.CX P w) (5) f fd ["value"] (spD ⟨K, mg⟩ F_is_told_rule 1) :=
  fn_E (m := m_is_told_rule ) F sc_is_told_rule (fun cdv A outer s H E hr hp W tk =>
  (s_cons (s_if (i_tor (i_tnot (i_truth (i_call D_is_tuple_of (hr.mono (by first | decide | omega)) (by rfl) tk (i_cons (i_var 0) (i_cons (i_bin o_add d_add i_int (i_glob (by rfl) (by exact T.c_RANGES_OF_A_RULE))) i_nil))))) (i_or1 (i_tnot (i_truth (i_call D_is_bit (hr.mono (by first | decide | omega)) (by rfl) tk (i_cons (i_ix ix_seq d_ix (i_var 0) i_int) i_nil)))))).pt
  (s_one (s_ret i_bl))
  s_nil)
  (s_one (s_ret (i_and (i_call D_is_told_range (hr.mono (by first | decide | omega)) (by rfl) tk (i_cons (i_ix ix_seq d_ix (i_var 0) i_int) i_nil)) (i_and (i_call D_is_told_range (hr.mono (by first | decide | omega)) (by rfl) tk (i_cons (i_ix ix_seq d_ix (i_var 0) i_int) i_nil)) (i_one (i_call D_is_told_range (hr.mono (by first | decide | omega)) (by rfl) tk (i_cons (i_ix ix_seq d_ix (i_var 0) i_int) i_nil))))))))) (r_is_told_rule)
theorem ok_are_told_rules  {f : Addr} {fd : FuncData} (T : Tx w K mg) (F : FunD K "are_told_rules" "are_told_rules" (defArgs st_are_told_rules) (defBody st_are_told_rules) (defScope st_are_told_rules) [] [] f fd) (D_is_told_rule : Df P w K mg base "is_told_rule" ["value"] F_is_told_rule 5)  : FnOk P w K mg base (L2N.CX P w) (6) f fd ["value"] (spD ⟨K, mg⟩ F_are_told_rules 1) :=
  fn_E (m := m_are_told_rules ) F sc_are_told_rules (fun cdv A outer s H E hr hp W tk =>
  (s_cons (s_if (i_tnot (i_truth (i_isa (by simp) (by rfl) T.f_isinstance (by rfl) T.f_tuple bi_tuple (i_var 0))))
  (s_one (s_ret i_bl))
  s_nil)
  (s_cons (s_for hp (by rfl) (i_var 0) (g_nm 1 sc_are_told_rules.nd)
  (s_one (s_if (i_tnot (i_truth (i_call D_is_told_rule (hr.mono (by first | decide | omega)) (by rfl) tk (i_cons (i_var 1) i_nil))))
  (s_one (s_ret i_bl))
  s_nil)))
  (s_one (s_ret i_bl))))) (r_are_told_rules)
theorem ok_is_net  {f : Addr} {fd : FuncData} (T : Tx w K mg) (F : FunD K "is_net" "is_net" (defArgs st_is_net) (defBody st_is_net) (defScope st_is_net) [] [] f fd) (D_is_told_name : Df P w K mg base "is_told_name" ["value"] F_is_told_name 4)  : FnOk P w K mg base (L2N.CX P w) (5) f fd ["item"] (spD ⟨K, mg⟩ F_is_net 1) :=
  fn_E (m := m_is_net ) F sc_is_net (fun cdv A outer s H E hr hp W tk =>
  (s_one (s_ret (i_call D_is_told_name (hr.mono (by first | decide | omega)) (by rfl) tk (i_cons (i_ix ix_seq d_ix (i_var 0) i_int) i_nil))))) (r_is_net)
theorem ok_is_host  {f : Addr} {fd : FuncData} (T : Tx w K mg) (F : FunD K "is_host" "is_host" (defArgs st_is_host) (defBody st_is_host) (defScope st_is_host) [] [] f fd) (D_is_told_name : Df P w K mg base "is_told_name" ["value"] F_is_told_name 4)  : FnOk P w K mg base (L2N.CX P w) (5) f fd ["item"] (spD ⟨K, mg⟩ F_is_host 1) :=
  fn_E (m := m_is_host ) F sc_is_host (fun cdv A outer s H E hr hp W tk =>
  (s_one (s_ret (i_and (i_call D_is_told_name (hr.mono (by first | decide | omega)) (by rfl) tk (i_cons (i_ix ix_seq d_ix (i_var 0) i_int) i_nil)) (i_one (i_call D_is_told_name (hr.mono (by first | decide | omega)) (by rfl) tk (i_cons (i_ix ix_seq d_ix (i_var 0) i_int) i_nil))))))) (r_is_host)
theorem ok_is_door  {f : Addr} {fd : FuncData} (T : Tx w K mg) (F : FunD K "is_door" "is_door" (defArgs st_is_door) (defBody st_is_door) (defScope st_is_door) [] [] f fd) (D_is_told_name : Df P w K mg base "is_told_name" ["value"] F_is_told_name 4) (D_is_told_number : Df P w K mg base "is_told_number" ["value"] F_is_told_number 3) (D_is_bit : Df P w K mg base "is_bit" ["value"] F_is_bit 3)  : FnOk P w K mg base (L2N.CX P w) (5) f fd ["item"] (spD ⟨K, mg⟩ F_is_door 1) :=
  fn_E (m := m_is_door ) F sc_is_door (fun cdv A outer s H E hr hp W tk =>
  (s_cons (s_asg (i_var 0) (g_tup (by rfl) (g_cons (g_nm 1 sc_is_door.nd) (g_cons (g_nm 2 sc_is_door.nd) (g_cons (g_nm 3 sc_is_door.nd) (g_cons (g_nm 4 sc_is_door.nd) (g_cons (g_nm 5 sc_is_door.nd) (g_cons (g_nm 6 sc_is_door.nd) (g_cons (g_nm 7 sc_is_door.nd) (g_cons (g_nm 8 sc_is_door.nd) (g_cons (g_nm 9 sc_is_door.nd) (g_cons (g_nm 10 sc_is_door.nd) (g_cons (g_nm 11 sc_is_door.nd) (g_cons (g_nm 12 sc_is_door.nd) g_nil))))))))))))))
  (s_cons (s_if (i_tnot (i_tand (i_truth (i_call D_is_told_name (hr.mono (by first | decide | omega)) (by rfl) tk (i_cons (i_var 2) i_nil))) (i_tand (i_truth (i_call D_is_told_name (hr.mono (by first | decide | omega)) (by rfl) tk (i_cons (i_var 3) i_nil))) (i_and1 (i_truth (i_call D_is_told_name (hr.mono (by first | decide | omega)) (by rfl) tk (i_cons (i_var 4) i_nil)))))).pt)
  (s_one (s_ret i_bl))
  s_nil)
  (s_cons (s_if (i_tnot (i_tand (i_truth (i_call D_is_told_number (hr.mono (by first | decide | omega)) (by rfl) tk (i_cons (i_var 5) i_nil))) (i_tand (i_truth (i_call D_is_told_number (hr.mono (by first | decide | omega)) (by rfl) tk (i_cons (i_var 6) i_nil))) (i_and1 (i_truth (i_call D_is_told_number (hr.mono (by first | decide | omega)) (by rfl) tk (i_cons (i_var 10) i_nil)))))).pt)
  (s_one (s_ret i_bl))
  s_nil)
  (s_cons (s_if (i_tnot (i_tand (i_truth (i_call D_is_told_number (hr.mono (by first | decide | omega)) (by rfl) tk (i_cons (i_var 7) i_nil))) (i_and1 (i_truth (i_call D_is_told_number (hr.mono (by first | decide | omega)) (by rfl) tk (i_cons (i_var 8) i_nil))))).pt)
  (s_one (s_ret i_bl))
  s_nil)
  (s_one (s_ret (i_and (i_call D_is_bit (hr.mono (by first | decide | omega)) (by rfl) tk (i_cons (i_var 9) i_nil)) (i_and (i_call D_is_bit (hr.mono (by first | decide | omega)) (by rfl) tk (i_cons (i_var 11) i_nil)) (i_one (i_call D_is_bit (hr.mono (by first | decide | omega)) (by rfl) tk (i_cons (i_var 12) i_nil)))))))))))) (r_is_door)
theorem ok_is_open  {f : Addr} {fd : FuncData} (T : Tx w K mg) (F : FunD K "is_open" "is_open" (defArgs st_is_open) (defBody st_is_open) (defScope st_is_open) [] [] f fd) (D_is_told_name : Df P w K mg base "is_told_name" ["value"] F_is_told_name 4) (D_is_told_number : Df P w K mg base "is_told_number" ["value"] F_is_told_number 3)  : FnOk P w K mg base (L2N.CX P w) (5) f fd ["item"] (spD ⟨K, mg⟩ F_is_open 1) :=
  fn_E (m := m_is_open ) F sc_is_open (fun cdv A outer s H E hr hp W tk =>
  (s_cons (s_asg (i_var 0) (g_tup (by rfl) (g_cons (g_nm 1 sc_is_open.nd) (g_cons (g_nm 2 sc_is_open.nd) (g_cons (g_nm 3 sc_is_open.nd) (g_cons (g_nm 4 sc_is_open.nd) (g_cons (g_nm 5 sc_is_open.nd) g_nil)))))))
  (s_cons (s_if (i_tnot (i_tand (i_truth (i_call D_is_told_name (hr.mono (by first | decide | omega)) (by rfl) tk (i_cons (i_var 2) i_nil))) (i_and1 (i_truth (i_call D_is_told_name (hr.mono (by first | decide | omega)) (by rfl) tk (i_cons (i_var 4) i_nil))))).pt)
  (s_one (s_ret i_bl))
  s_nil)
  (s_one (s_ret (i_and (i_call D_is_told_number (hr.mono (by first | decide | omega)) (by rfl) tk (i_cons (i_var 3) i_nil)) (i_one (i_call D_is_told_number (hr.mono (by first | decide | omega)) (by rfl) tk (i_cons (i_var 5) i_nil))))))))) (r_is_open)
theorem ok_is_wall  {f : Addr} {fd : FuncData} (T : Tx w K mg) (F : FunD K "is_wall" "is_wall" (defArgs st_is_wall) (defBody st_is_wall) (defScope st_is_wall) [] [] f fd) (D_is_told_great : Df P w K mg base "is_told_great" ["value"] F_is_told_great 3) (D_are_told_rules : Df P w K mg base "are_told_rules" ["value"] F_are_told_rules 6)  : FnOk P w K mg base (L2N.CX P w) (7) f fd ["item"] (spD ⟨K, mg⟩ F_is_wall 1) :=
  fn_E (m := m_is_wall ) F sc_is_wall (fun cdv A outer s H E hr hp W tk =>
  (s_one (s_ret (i_and (i_call D_is_told_great (hr.mono (by first | decide | omega)) (by rfl) tk (i_cons (i_ix ix_seq d_ix (i_var 0) i_int) i_nil)) (i_one (i_call D_are_told_rules (hr.mono (by first | decide | omega)) (by rfl) tk (i_cons (i_ix ix_seq d_ix (i_var 0) i_int) i_nil))))))) (r_is_wall)
theorem ok_is_item  {f : Addr} {fd : FuncData} (T : Tx w K mg) (F : FunD K "is_item" "is_item" (defArgs st_is_item) (defBody st_is_item) (defScope st_is_item) [] [] f fd) (D_is_net : Df P w K mg base "is_net" ["item"] F_is_net 5) (D_is_host : Df P w K mg base "is_host" ["item"] F_is_host 5) (D_is_door : Df P w K mg base "is_door" ["item"] F_is_door 5) (D_is_open : Df P w K mg base "is_open" ["item"] F_is_open 5) (D_is_wall : Df P w K mg base "is_wall" ["item"] F_is_wall 7)  : FnOk P w K mg base (L2N.CX P w) (8) f fd ["value"] (spD ⟨K, mg⟩ F_is_item 1) :=
  fn_E (m := m_is_item ) F sc_is_item (fun cdv A outer s H E hr hp W tk =>
  (s_cons (s_if (i_tor (i_tnot (i_truth (i_isa (by simp) (by rfl) T.f_isinstance (by rfl) T.f_tuple bi_tuple (i_var 0)))) (i_tor (i_tnot (i_truth (i_var 0))) (i_or1 (i_tnot (i_truth (i_isa (by simp) (by rfl) T.f_isinstance (by rfl) T.f_str bi_str (i_ix ix_seq d_ix (i_var 0) i_int))))))).pt
  (s_one (s_ret i_bl))
  s_nil)
  (s_cons (s_set 1 (i_ix ix_seq d_ix (i_var 0) i_int) sc_is_item.nd)
  (s_cons (s_if (i_tor (i_tcmp (o_notInX (hu_r hr)) d_notInX (i_var 1) (i_glob (by rfl) (by exact T.c_KINDS))) (i_or1 (i_tcmp (o_ne (hu_r hr)) d_ne (i_callB call_len d_len (by rfl) T.f_len bi_len (i_cons (i_var 0) i_nil)) (i_ix ix_kdict (by exact d_tab T.t_LENGTHS) (i_glob (by rfl) (by exact dtb_cst T.t_LENGTHS)) (i_var 1))))).pt
  (s_one (s_ret i_bl))
  s_nil)
  (s_cons (s_if (i_tcmp (o_eq (hu_r hr)) d_eq (i_var 1) i_str)
  (s_one (s_ret (i_call D_is_net (hr.mono (by first | decide | omega)) (by rfl) tk (i_cons (i_var 0) i_nil))))
  s_nil)
  (s_cons (s_if (i_tcmp (o_eq (hu_r hr)) d_eq (i_var 1) i_str)
  (s_one (s_ret (i_call D_is_host (hr.mono (by first | decide | omega)) (by rfl) tk (i_cons (i_var 0) i_nil))))
  s_nil)
  (s_cons (s_if (i_tcmp (o_eq (hu_r hr)) d_eq (i_var 1) i_str)
  (s_one (s_ret (i_call D_is_door (hr.mono (by first | decide | omega)) (by rfl) tk (i_cons (i_var 0) i_nil))))
  s_nil)
  (s_cons (s_if (i_tcmp (o_eq (hu_r hr)) d_eq (i_var 1) i_str)
  (s_one (s_ret (i_call D_is_open (hr.mono (by first | decide | omega)) (by rfl) tk (i_cons (i_var 0) i_nil))))
  s_nil)
  (s_one (s_ret (i_call D_is_wall (hr.mono (by first | decide | omega)) (by rfl) tk (i_cons (i_var 0) i_nil)))))))))))) (r_is_item)
theorem ok_is_port_number  {f : Addr} {fd : FuncData} (T : Tx w K mg) (F : FunD K "is_port_number" "is_port_number" (defArgs st_is_port_number) (defBody st_is_port_number) (defScope st_is_port_number) [] [] f fd)   : FnOk P w K mg base (L2N.CX P w) (1) f fd ["number"] (spD ⟨K, mg⟩ F_is_port_number 1) :=
  fn_E (m := m_is_port_number ) F sc_is_port_number (fun cdv A outer s H E hr hp W tk =>
  (s_one (s_ret (i_chain o_le d_ord o_le d_ord (i_glob (by rfl) (by exact T.c_LEAST_PORT)) (i_var 0) (i_glob (by rfl) (by exact T.c_GREATEST_PORT)))))) (r_is_port_number)
theorem ok_has_fit_numbers  {f : Addr} {fd : FuncData} (T : Tx w K mg) (F : FunD K "has_fit_numbers" "has_fit_numbers" (defArgs st_has_fit_numbers) (defBody st_has_fit_numbers) (defScope st_has_fit_numbers) [] [] f fd) (D_is_port_number : Df P w K mg base "is_port_number" ["number"] F_is_port_number 1)  : FnOk P w K mg base (L2N.CX P w) (2) f fd ["door"] (spD ⟨K, mg⟩ F_has_fit_numbers 1) :=
  fn_E (m := m_has_fit_numbers ) F sc_has_fit_numbers (fun cdv A outer s H E hr hp W tk =>
  (s_cons (s_asg (i_var 0) (g_tup (by rfl) (g_cons (g_nm 1 sc_has_fit_numbers.nd) (g_cons (g_nm 1 sc_has_fit_numbers.nd) (g_cons (g_nm 1 sc_has_fit_numbers.nd) (g_cons (g_nm 1 sc_has_fit_numbers.nd) (g_cons (g_nm 2 sc_has_fit_numbers.nd) (g_cons (g_nm 3 sc_has_fit_numbers.nd) (g_cons (g_nm 4 sc_has_fit_numbers.nd) (g_cons (g_nm 5 sc_has_fit_numbers.nd) (g_cons (g_nm 1 sc_has_fit_numbers.nd) (g_cons (g_nm 6 sc_has_fit_numbers.nd) (g_cons (g_nm 1 sc_has_fit_numbers.nd) (g_cons (g_nm 1 sc_has_fit_numbers.nd) g_nil))))))))))))))
  (s_cons (s_if (i_tor (i_tcmp (o_notInX (hu_r hr)) d_notInX (i_var 2) (i_glob (by rfl) (by exact T.c_MANNERS))) (i_or1 (i_tcmp (o_notInX (hu_r hr)) d_notInX (i_var 3) (i_glob (by rfl) (by exact T.c_MANNERS))))).pt
  (s_one (s_ret i_bl))
  s_nil)
  (s_cons (s_if (i_tor (i_tnot (i_tand (i_truth (i_call D_is_port_number (hr.mono (by first | decide | omega)) (by rfl) tk (i_cons (i_var 4) i_nil))) (i_and1 (i_truth (i_call D_is_port_number (hr.mono (by first | decide | omega)) (by rfl) tk (i_cons (i_var 5) i_nil))))).pt) (i_or1 (i_tcmp o_gt d_ord (i_var 4) (i_var 5)))).pt
  (s_one (s_ret i_bl))
  s_nil)
  (s_one (s_ret (i_cmp o_le d_ord (i_var 6) (i_glob (by rfl) (by exact T.c_LONGEST_SPAN))))))))) (r_has_fit_numbers)
theorem ok_is_name  {f : Addr} {fd : FuncData} (T : Tx w K mg) (F : FunD K "is_name" "is_name" (defArgs st_is_name) (defBody st_is_name) (defScope st_is_name) [] [] f fd) (D_is_told_name : Df P w K mg base "is_told_name" ["value"] F_is_told_name 4)  : FnOk P w K mg base (L2N.CX P w) (5) f fd ["value"] (spD ⟨K, mg⟩ F_is_name 1) :=
  fn_E (m := m_is_name ) F sc_is_name (fun cdv A outer s H E hr hp W tk =>
  (s_one (s_ret (i_call D_is_told_name (hr.mono (by first | decide | omega)) (by rfl) tk (i_cons (i_var 0) i_nil))))) (r_is_name)
theorem ok_is_port  {f : Addr} {fd : FuncData} (T : Tx w K mg) (F : FunD K "is_port" "is_port" (defArgs st_is_port) (defBody st_is_port) (defScope st_is_port) [] [] f fd) (D_is_between : Df P w K mg base "is_between" ["value", "least", "greatest"] F_is_between 2)  : FnOk P w K mg base (L2N.CX P w) (3) f fd ["value"] (spD ⟨K, mg⟩ F_is_port 1) :=
  fn_E (m := m_is_port ) F sc_is_port (fun cdv A outer s H E hr hp W tk =>
  (s_one (s_ret (i_call D_is_between (hr.mono (by first | decide | omega)) (by rfl) tk (i_cons (i_var 0) (i_cons (i_glob (by rfl) (by exact T.c_LEAST_PORT)) (i_cons (i_glob (by rfl) (by exact T.c_GREATEST_PORT)) i_nil))))))) (r_is_port)
theorem ok_is_end  {f : Addr} {fd : FuncData} (T : Tx w K mg) (F : FunD K "is_end" "is_end" (defArgs st_is_end) (defBody st_is_end) (defScope st_is_end) [] [] f fd) (D_is_tuple_of : Df P w K mg base "is_tuple_of" ["value", "length"] F_is_tuple_of 1) (D_is_name : Df P w K mg base "is_name" ["value"] F_is_name 5) (D_is_port : Df P w K mg base "is_port" ["value"] F_is_port 3)  : FnOk P w K mg base (L2N.CX P w) (6) f fd ["value"] (spD ⟨K, mg⟩ F_is_end 1) :=
  fn_E (m := m_is_end ) F sc_is_end (fun cdv A outer s H E hr hp W tk =>
  (s_one (s_ret (i_and (i_call D_is_tuple_of (hr.mono (by first | decide | omega)) (by rfl) tk (i_cons (i_var 0) (i_cons i_int i_nil))) (i_and (i_call D_is_name (hr.mono (by first | decide | omega)) (by rfl) tk (i_cons (i_ix ix_seq d_ix (i_var 0) i_int) i_nil)) (i_one (i_call D_is_port (hr.mono (by first | decide | omega)) (by rfl) tk (i_cons (i_ix ix_seq d_ix (i_var 0) i_int) i_nil)))))))) (r_is_end)
theorem ok_is_door_of_a_plan  {f : Addr} {fd : FuncData} (T : Tx w K mg) (F : FunD K "is_door_of_a_plan" "is_door_of_a_plan" (defArgs st_is_door_of_a_plan) (defBody st_is_door_of_a_plan) (defScope st_is_door_of_a_plan) [] [] f fd) (D_is_item : Df P w K mg base "is_item" ["value"] F_is_item 8) (D_has_fit_numbers : Df P w K mg base "has_fit_numbers" ["door"] F_has_fit_numbers 2)  : FnOk P w K mg base (L2N.CX P w) (9) f fd ["value"] (spD ⟨K, mg⟩ F_is_door_of_a_plan 1) :=
  fn_E (m := m_is_door_of_a_plan ) F sc_is_door_of_a_plan (fun cdv A outer s H E hr hp W tk =>
  (s_cons (s_if (i_tor (i_tnot (i_truth (i_call D_is_item (hr.mono (by first | decide | omega)) (by rfl) tk (i_cons (i_var 0) i_nil)))) (i_or1 (i_tcmp (o_ne (hu_r hr)) d_ne (i_ix ix_seq d_ix (i_var 0) i_int) i_str))).pt
  (s_one (s_ret i_bl))
  s_nil)
  (s_one (s_ret (i_and (i_cmp (o_ne (hu_r hr)) d_ne (i_ix ix_seq d_ix (i_var 0) i_int) (i_ix ix_seq d_ix (i_var 0) i_int)) (i_one (i_call D_has_fit_numbers (hr.mono (by first | decide | omega)) (by rfl) tk (i_cons (i_var 0) i_nil)))))))) (r_is_door_of_a_plan)
theorem ok_is_open_of  {f : Addr} {fd : FuncData} (T : Tx w K mg) (F : FunD K "is_open_of" "is_open_of" (defArgs st_is_open_of) (defBody st_is_open_of) (defScope st_is_open_of) [] [] f fd) (D_is_tuple_of : Df P w K mg base "is_tuple_of" ["value", "length"] F_is_tuple_of 1) (D_is_between : Df P w K mg base "is_between" ["value", "least", "greatest"] F_is_between 2) (D_is_end : Df P w K mg base "is_end" ["value"] F_is_end 6)  : FnOk P w K mg base (L2N.CX P w) (7) f fd ["door", "value"] (spD ⟨K, mg⟩ F_is_open_of 2) :=
  fn_E (m := m_is_open_of ) F sc_is_open_of (fun cdv A outer s H E hr hp W tk =>
  (s_cons (s_if (i_tnot (i_truth (i_call D_is_tuple_of (hr.mono (by first | decide | omega)) (by rfl) tk (i_cons (i_var 1) (i_cons i_int i_nil)))))
  (s_one (s_ret i_bl))
  s_nil)
  (s_cons (s_asg (i_var 1) (g_tup (by rfl) (g_cons (g_nm 2 sc_is_open_of.nd) (g_cons (g_nm 3 sc_is_open_of.nd) g_nil))))
  (s_one (s_ret (i_and (i_call D_is_between (hr.mono (by first | decide | omega)) (by rfl) tk (i_cons (i_var 2) (i_cons (i_ix ix_seq d_ix (i_var 0) i_int) (i_cons (i_ix ix_seq d_ix (i_var 0) i_int) i_nil)))) (i_and (i_call D_is_end (hr.mono (by first | decide | omega)) (by rfl) tk (i_cons (i_var 3) i_nil)) (i_one (i_cmp (o_ne (hu_r hr)) d_ne (i_ix ix_seq d_ix (i_var 3) i_int) (i_ix ix_seq d_ix (i_var 0) i_int)))))))))) (r_is_open_of)
theorem ok_are_opens_of  {f : Addr} {fd : FuncData} (T : Tx w K mg) (F : FunD K "are_opens_of" "are_opens_of" (defArgs st_are_opens_of) (defBody st_are_opens_of) (defScope st_are_opens_of) [] [] f fd) (D_is_open_of : Df P w K mg base "is_open_of" ["door", "value"] F_is_open_of 7)  : FnOk P w K mg base (L2N.CX P w) (8) f fd ["door", "value"] (spD ⟨K, mg⟩ F_are_opens_of 2) :=
  fn_E (m := m_are_opens_of ) F sc_are_opens_of (fun cdv A outer s H E hr hp W tk =>
  (s_cons (s_if (i_tor (i_tnot (i_truth (i_isa (by simp) (by rfl) T.f_isinstance (by rfl) T.f_tuple bi_tuple (i_var 1)))) (i_or1 (i_tcmp o_gt d_ord (i_callB call_len d_len (by rfl) T.f_len bi_len (i_cons (i_var 1) i_nil)) (i_glob (by rfl) (by exact T.c_MOST_OPENS))))).pt
  (s_one (s_ret i_bl))
  s_nil)
  (s_cons (s_forW hp (by rfl) (wi_enumT (by rfl) T.f_enumerate (i_cons (i_var 1) i_nil)) (g_tup (by rfl) (g_cons (g_nm 2 sc_are_opens_of.nd) (g_cons (g_nm 3 sc_are_opens_of.nd) g_nil)))
  (s_cons (s_if (i_tnot (i_truth (i_call D_is_open_of (hr.mono (by first | decide | omega)) (by rfl) tk (i_cons (i_var 0) (i_cons (i_var 3) i_nil)))))
  (s_one (s_ret i_bl))
  s_nil)
  (s_one (s_if (i_tand (i_tcmp o_gt d_ord (i_var 2) i_int) (i_and1 (i_tcmp o_ge d_ord (i_ix ix_seq d_ix (i_ix ix_seq d_ix (i_var 1) (i_bin op_sub d_sub (i_var 2) i_int)) i_int) (i_ix ix_seq d_ix (i_var 3) i_int)))).pt
  (s_one (s_ret i_bl))
  s_nil))))
  (s_one (s_ret i_bl))))) (r_are_opens_of)
theorem ok_is_table  {f : Addr} {fd : FuncData} (T : Tx w K mg) (F : FunD K "is_table" "is_table" (defArgs st_is_table) (defBody st_is_table) (defScope st_is_table) [] [] f fd) (D_is_tuple_of : Df P w K mg base "is_tuple_of" ["value", "length"] F_is_tuple_of 1) (D_is_door_of_a_plan : Df P w K mg base "is_door_of_a_plan" ["value"] F_is_door_of_a_plan 9) (D_are_opens_of : Df P w K mg base "are_opens_of" ["door", "value"] F_are_opens_of 8)  : FnOk P w K mg base (L2N.CX P w) (10) f fd ["value"] (spD ⟨K, mg⟩ F_is_table 1) :=
  fn_E (m := m_is_table ) F sc_is_table (fun cdv A outer s H E hr hp W tk =>
  (s_one (s_ret (i_and (i_call D_is_tuple_of (hr.mono (by first | decide | omega)) (by rfl) tk (i_cons (i_var 0) (i_cons i_int i_nil))) (i_and (i_call D_is_door_of_a_plan (hr.mono (by first | decide | omega)) (by rfl) tk (i_cons (i_ix ix_seq d_ix (i_var 0) i_int) i_nil)) (i_one (i_call D_are_opens_of (hr.mono (by first | decide | omega)) (by rfl) tk (i_cons (i_ix ix_seq d_ix (i_var 0) i_int) (i_cons (i_ix ix_seq d_ix (i_var 0) i_int) i_nil))))))))) (r_is_table)
theorem ok_ports_of  {f : Addr} {fd : FuncData} (T : Tx w K mg) (F : FunD K "ports_of" "ports_of" (defArgs st_ports_of) (defBody st_ports_of) (defScope st_ports_of) [] [] f fd)   : FnOk P w K mg base (L2N.CX P w) (1) f fd ["table"] (spD ⟨K, mg⟩ F_ports_of 1) :=
  fn_E (m := m_ports_of ) F sc_ports_of (fun cdv A outer s H E hr hp W tk =>
  (s_one (s_ret (i_slice (i_ix ix_seq d_ix (i_var 0) i_int) (i_part i_int) (i_part i_int))))) (r_ports_of)
theorem ok_check_table  {f : Addr} {fd : FuncData} (T : Tx w K mg) (F : FunD K "check_table" "check_table" (defArgs st_check_table) (defBody st_check_table) (defScope st_check_table) [] [] f fd) (D_is_table : Df P w K mg base "is_table" ["value"] F_is_table 10)  : FnOk P w K mg base (L2N.CX P w) (11) f fd ["value"] (spD ⟨K, mg⟩ F_check_table 1) :=
  fn_E (m := m_check_table ) F sc_check_table (fun cdv A outer s H E hr hp W tk =>
  (s_one (s_if (i_tnot (i_truth (i_call D_is_table (hr.mono (by first | decide | omega)) (by rfl) tk (i_cons (i_var 0) i_nil))))
  (s_one (s_raise T.x_BadTable (by rfl) tk (by rfl)))
  s_nil))) (r_check_table)
theorem ok_strictest  {f : Addr} {fd : FuncData} (T : Tx w K mg) (F : FunD K "strictest" "strictest" (defArgs st_strictest) (defBody st_strictest) (defScope st_strictest) [] [] f fd) (D_check_table : Df P w K mg base "check_table" ["value"] F_check_table 11)  : FnOk P w K mg base (L2N.CX P w) (12) f fd ["inner", "outer"] (spD ⟨K, mg⟩ F_strictest 2) :=
  fn_E (m := m_strictest ) F sc_strictest (fun cdv A outer s H E hr hp W tk =>
  (s_cons (s_expr (i_call D_check_table (hr.mono (by first | decide | omega)) (by rfl) tk (i_cons (i_var 0) i_nil)))
  (s_cons (s_expr (i_call D_check_table (hr.mono (by first | decide | omega)) (by rfl) tk (i_cons (i_var 1) i_nil)))
  (s_cons (s_par 4 5 (i_cons (i_ix ix_seq d_ix (i_var 0) i_int) (i_cons (i_ix ix_seq d_ix (i_var 1) i_int) i_nil)) (by rfl) sc_strictest.nd)
  (s_cons (s_set 2 (i_callB (call_max2 (by rfl)) d_max2 (by rfl) T.f_max bi_max (i_cons (i_ix ix_seq d_ix (i_var 4) (i_glob (by rfl) (by exact T.c_MAPS))) (i_cons (i_ix ix_seq d_ix (i_var 5) (i_glob (by rfl) (by exact T.c_MAPS))) i_nil))) sc_strictest.nd)
  (s_cons (s_set 3 (i_callB (call_max2 (by rfl)) d_max2 (by rfl) T.f_max bi_max (i_cons (i_ix ix_seq d_ix (i_var 4) (i_glob (by rfl) (by exact T.c_LETS))) (i_cons (i_ix ix_seq d_ix (i_var 5) (i_glob (by rfl) (by exact T.c_LETS))) i_nil))) sc_strictest.nd)
  (s_one (s_ret (i_tup (i_cons (i_bin o_add d_add (i_bin o_add d_add (i_slice (i_var 5) i_nopart (i_part (i_glob (by rfl) (by exact T.c_MAPS)))) (i_tup (i_cons (i_var 2) (i_cons (i_var 3) i_nil)))) (i_slice (i_var 5) (i_part (i_bin o_add d_add (i_glob (by rfl) (by exact T.c_LETS)) i_int)) i_nopart)) (i_cons (i_tup i_nil) i_nil))))))))))) (r_strictest)
theorem ok_is_stricter  {f : Addr} {fd : FuncData} (T : Tx w K mg) (F : FunD K "is_stricter" "is_stricter" (defArgs st_is_stricter) (defBody st_is_stricter) (defScope st_is_stricter) [] [] f fd) (D_check_table : Df P w K mg base "check_table" ["value"] F_check_table 11)  : FnOk P w K mg base (L2N.CX P w) (12) f fd ["one", "other"] (spD ⟨K, mg⟩ F_is_stricter 2) :=
  fn_E (m := m_is_stricter ) F sc_is_stricter (fun cdv A outer s H E hr hp W tk =>
  (s_cons (s_expr (i_call D_check_table (hr.mono (by first | decide | omega)) (by rfl) tk (i_cons (i_var 0) i_nil)))
  (s_cons (s_expr (i_call D_check_table (hr.mono (by first | decide | omega)) (by rfl) tk (i_cons (i_var 1) i_nil)))
  (s_one (s_ret (i_and (i_cmp o_ge d_ord (i_ix ix_seq d_ix (i_ix ix_seq d_ix (i_var 0) i_int) (i_glob (by rfl) (by exact T.c_MAPS))) (i_ix ix_seq d_ix (i_ix ix_seq d_ix (i_var 1) i_int) (i_glob (by rfl) (by exact T.c_MAPS)))) (i_one (i_cmp o_ge d_ord (i_ix ix_seq d_ix (i_ix ix_seq d_ix (i_var 0) i_int) (i_glob (by rfl) (by exact T.c_LETS))) (i_ix ix_seq d_ix (i_ix ix_seq d_ix (i_var 1) i_int) (i_glob (by rfl) (by exact T.c_LETS))))))))))) (r_is_stricter)
theorem ok_check_plain  {f : Addr} {fd : FuncData} (T : Tx w K mg) (F : FunD K "check_plain" "check_plain" (defArgs st_check_plain) (defBody st_check_plain) (defScope st_check_plain) [] [] f fd) (D_check_table : Df P w K mg base "check_table" ["value"] F_check_table 11) (D_ports_of : Df P w K mg base "ports_of" ["table"] F_ports_of 1)  : FnOk P w K mg base (L2N.CX P w) (12) f fd ["table"] (spD ⟨K, mg⟩ F_check_plain 1) :=
  fn_E (m := m_check_plain ) F sc_check_plain (fun cdv A outer s H E hr hp W tk =>
  (s_cons (s_expr (i_call D_check_table (hr.mono (by first | decide | omega)) (by rfl) tk (i_cons (i_var 0) i_nil)))
  (s_cons (s_asg (i_var 0) (g_tup (by rfl) (g_cons (g_nm 1 sc_check_plain.nd) (g_cons (g_nm 2 sc_check_plain.nd) g_nil))))
  (s_cons (s_asg (i_call D_ports_of (hr.mono (by first | decide | omega)) (by rfl) tk (i_cons (i_var 0) i_nil)) (g_tup (by rfl) (g_cons (g_nm 3 sc_check_plain.nd) (g_cons (g_nm 4 sc_check_plain.nd) g_nil))))
  (s_cons (s_if (i_tor (i_tcmp (o_ne (hu_r hr)) d_ne (i_ix ix_seq d_ix (i_var 1) (i_glob (by rfl) (by exact T.c_SPAN))) i_int) (i_tor (i_truth (i_ix ix_seq d_ix (i_var 1) (i_glob (by rfl) (by exact T.c_KEEPS)))) (i_or1 (i_truth (i_var 2))))).pt
  (s_one (s_raise T.x_BadTable (by rfl) tk (by rfl)))
  s_nil)
  (s_one (s_if (i_tcmp o_lt d_ord (i_bin o_add d_add (i_bin op_sub d_sub (i_var 4) (i_var 3)) i_int) (i_glob (by rfl) (by exact T.c_LEAST_PORTS)))
  (s_one (s_raise T.x_BadTable (by rfl) tk (by rfl)))
  s_nil))))))) (r_check_plain)
theorem ok_check_row_of_doors  {f : Addr} {fd : FuncData} (T : Tx w K mg) (F : FunD K "check_row_of_doors" "check_row_of_doors" (defArgs st_check_row_of_doors) (defBody st_check_row_of_doors) (defScope st_check_row_of_doors) [] [] f fd) (D_is_row : Df P w K mg base "is_row" ["value"] F_is_row 1) (D_check_plain : Df P w K mg base "check_plain" ["table"] F_check_plain 12)  : FnOk P w K mg base (L2N.CX P w) (13) f fd ["tables"] (spD ⟨K, mg⟩ F_check_row_of_doors 1) :=
  fn_E (m := m_check_row_of_doors ) F sc_check_row_of_doors (fun cdv A outer s H E hr hp W tk =>
  (s_cons (s_if (i_tor (i_tnot (i_truth (i_call D_is_row (hr.mono (by first | decide | omega)) (by rfl) tk (i_cons (i_var 0) i_nil)))) (i_or1 (i_tnot (i_tchain o_le d_ord o_le d_ord i_int (i_callB call_len d_len (by rfl) T.f_len bi_len (i_cons (i_var 0) i_nil)) (i_glob (by rfl) (by exact T.c_MOST_JOINED)))))).pt
  (s_one (s_raise T.x_BadTable (by rfl) tk (by rfl)))
  s_nil)
  (s_one (s_for hp (by rfl) (i_var 0) (g_nm 1 sc_check_row_of_doors.nd)
  (s_one (s_expr (i_call D_check_plain (hr.mono (by first | decide | omega)) (by rfl) tk (i_cons (i_var 1) i_nil)))))))) (r_check_row_of_doors)
theorem ok_do_as_one  {f : Addr} {fd : FuncData} (T : Tx w K mg) (F : FunD K "do_as_one" "do_as_one" (defArgs st_do_as_one) (defBody st_do_as_one) (defScope st_do_as_one) [] [] f fd)   : FnOk P w K mg base (L2N.CX P w) (1) f fd ["inner", "outer"] (spD ⟨K, mg⟩ F_do_as_one 2) :=
  fn_E (m := m_do_as_one ) F sc_do_as_one (fun cdv A outer s H E hr hp W tk =>
  (s_cons (s_par 2 3 (i_cons (i_ix ix_seq d_ix (i_ix ix_seq d_ix (i_var 0) i_int) (i_glob (by rfl) (by exact T.c_MAPS))) (i_cons (i_ix ix_seq d_ix (i_ix ix_seq d_ix (i_var 0) i_int) (i_glob (by rfl) (by exact T.c_LETS))) i_nil)) (by rfl) sc_do_as_one.nd)
  (s_cons (s_par 4 5 (i_cons (i_ix ix_seq d_ix (i_ix ix_seq d_ix (i_var 1) i_int) (i_glob (by rfl) (by exact T.c_MAPS))) (i_cons (i_ix ix_seq d_ix (i_ix ix_seq d_ix (i_var 1) i_int) (i_glob (by rfl) (by exact T.c_LETS))) i_nil)) (by rfl) sc_do_as_one.nd)
  (s_one (s_ret (i_or (i_cmp o_le d_ord (i_var 4) (i_var 2)) (i_or (i_cmp o_le d_ord (i_var 3) (i_var 2)) (i_one (i_cmp o_ge d_ord (i_var 5) (i_callB (call_min2 (by rfl)) d_min2 (by rfl) T.f_min bi_min (i_cons (i_var 3) (i_cons (i_var 4) i_nil)))))))))))) (r_do_as_one)
theorem ok_first_pair  {f : Addr} {fd : FuncData} (T : Tx w K mg) (F : FunD K "first_pair" "first_pair" (defArgs st_first_pair) (defBody st_first_pair) (defScope st_first_pair) [] [] f fd) (D_do_as_one : Df P w K mg base "do_as_one" ["inner", "outer"] F_do_as_one 1)  : FnOk P w K mg base (L2N.CX P w) (2) f fd ["tables"] (spD ⟨K, mg⟩ F_first_pair 1) :=
  fn_E (m := m_first_pair ) F sc_first_pair (fun cdv A outer s H E hr hp W tk =>
  (s_cons (s_range1 hp (by rfl) (by rfl) T.f_range (i_cons (i_bin op_sub d_sub (i_callB call_len d_len (by rfl) T.f_len bi_len (i_cons (i_var 0) i_nil)) i_int) i_nil) (g_nm 1 sc_first_pair.nd)
  (s_one (s_if (i_truth (i_call D_do_as_one (hr.mono (by first | decide | omega)) (by rfl) tk (i_cons (i_ix ix_seq d_ix (i_var 0) (i_var 1)) (i_cons (i_ix ix_seq d_ix (i_var 0) (i_bin o_add d_add (i_var 1) i_int)) i_nil))))
  (s_one (s_ret (i_var 1)))
  s_nil)))
  (s_one (s_ret i_non)))) (r_first_pair)
theorem ok_join_doors  {f : Addr} {fd : FuncData} (T : Tx w K mg) (F : FunD K "join_doors" "join_doors" (defArgs st_join_doors) (defBody st_join_doors) (defScope st_join_doors) [] [] f fd) (D_check_row_of_doors : Df P w K mg base "check_row_of_doors" ["tables"] F_check_row_of_doors 13) (D_first_pair : Df P w K mg base "first_pair" ["tables"] F_first_pair 2) (D_strictest : Df P w K mg base "strictest" ["inner", "outer"] F_strictest 12)  : FnOk P w K mg base (L2N.CX P w) (14) f fd ["tables"] (spD ⟨K, mg⟩ F_join_doors 1) :=
  fn_E (m := m_join_doors ) F sc_join_doors (fun cdv A outer s H E hr hp W tk =>
  (s_cons (s_expr (i_call D_check_row_of_doors (hr.mono (by first | decide | omega)) (by rfl) tk (i_cons (i_var 0) i_nil)))
  (s_cons (s_set 1 (i_callTy call_list_of d_list (by rfl) T.f_list bi_list (i_cons (i_var 0) i_nil)) sc_join_doors.nd)
  (s_cons (s_set 2 (i_call D_first_pair (hr.mono (by first | decide | omega)) (by rfl) tk (i_cons (i_var 1) i_nil)) sc_join_doors.nd)
  (s_cons (s_while hp (i_tcmp op_notN d_notN (i_var 2) i_non)
  (s_cons (s_asg (i_lst (i_cons (i_call D_strictest (hr.mono (by first | decide | omega)) (by rfl) tk (i_cons (i_ix ix_seq d_ix (i_var 1) (i_var 2)) (i_cons (i_ix ix_seq d_ix (i_var 1) (i_bin o_add d_add (i_var 2) i_int)) i_nil))) i_nil)) (g_slice (W := W) (i_var 1) (i_part (i_var 2)) (i_part (i_bin o_add d_add (i_var 2) i_int))))
  (s_one (s_set 2 (i_call D_first_pair (hr.mono (by first | decide | omega)) (by rfl) tk (i_cons (i_var 1) i_nil)) sc_join_doors.nd))))
  (s_one (s_ret (i_callTy o_tuple d_tuple (by rfl) T.f_tuple bi_tuple (i_cons (i_var 1) i_nil))))))))) (r_join_doors)
theorem ok__law_numbers  {f : Addr} {fd : FuncData} (T : Tx w K mg) (F : FunD K "_law_numbers" "_law_numbers" (defArgs st__law_numbers) (defBody st__law_numbers) (defScope st__law_numbers) [] [] f fd)   : FnOk P w K mg base (L2N.CX P w) (1) f fd ["script", "at", "count"] (spD ⟨K, mg⟩ F__law_numbers 3) :=
  fn_E (m := m__law_numbers ) F sc__law_numbers (fun cdv A outer s H E hr hp W tk =>
  (s_cons (s_set 3 i_int sc__law_numbers.nd)
  (s_cons (s_if (i_tcmp o_lt d_ord (i_var 1) (i_callB call_len d_len (by rfl) T.f_len bi_len (i_cons (i_var 0) i_nil)))
  (s_one (s_set 3 (i_bin op_modN d_mod (i_callB call_abs d_abs (by rfl) T.f_abs bi_abs (i_cons (i_callTy call_int1 d_int (by rfl) T.f_int bi_int (i_cons (i_ix ix_seq d_ix (i_var 0) (i_var 1)) i_nil)) i_nil)) (i_bin op_powX d_powX (i_bin op_pow d_pow i_int i_int) i_int)) sc__law_numbers.nd))
  s_nil)
  (s_cons (s_set 4 (i_cmp o_ge d_ord (i_var 3) (i_bin op_pow d_pow i_int i_int)) sc__law_numbers.nd)
  (s_cons (s_set 5 (i_bin op_modN d_mod (i_var 3) i_int) sc__law_numbers.nd)
  (s_cons (s_set 6 (i_lst i_nil) sc__law_numbers.nd)
  (s_cons (s_range1 hp (by rfl) (by rfl) T.f_range (i_cons (i_var 2) i_nil) (g_nm 7 sc__law_numbers.nd)
  (s_one (s_if (i_tand (i_truth (i_var 4)) (i_and1 (i_tcmp o_gt d_ord (i_var 3) i_int))).pt
  (s_cons (s_expr (i_lm PySem.F.slot_list_append PySem.F.type_list_append mt_append d_append (i_var 6) (i_cons (i_bin op_modN d_mod (i_var 3) i_int) i_nil)))
  (s_one (s_set 3 (i_bin op_fdivW d_div (i_var 3) i_int) sc__law_numbers.nd)))
  (s_cons (s_set 8 (i_bin op_modN d_mod (i_bin o_add d_add (i_bin o_add d_add (i_bin o_mul d_mul (i_var 5) i_int) (i_bin o_mul d_mul (i_bin o_add d_add (i_var 7) i_int) i_int)) (i_bin o_mul d_mul (i_bin o_add d_add (i_var 1) i_int) i_int)) i_int) sc__law_numbers.nd)
  (s_cons (s_set 8 (i_bin op_modN d_mod (i_bin o_add d_add (i_bin o_add d_add (i_bin o_add d_add (i_bin o_mul d_mul (i_var 8) (i_var 8)) (i_bin o_mul d_mul i_int (i_var 8))) (i_bin o_mul d_mul (i_bin o_mul d_mul i_int (i_var 7)) (i_var 7))) i_int) i_int) sc__law_numbers.nd)
  (s_cons (s_set 8 (i_bin op_modN d_mod (i_bin o_add d_add (i_bin o_mul d_mul (i_var 8) i_int) (i_bin op_fdivW d_div (i_var 8) i_int)) i_int) sc__law_numbers.nd)
  (s_one (s_expr (i_lm PySem.F.slot_list_append PySem.F.type_list_append mt_append d_append (i_var 6) (i_cons (i_bin op_modN d_mod (i_bin op_fdivW d_div (i_var 8) i_int) i_int) i_nil))))))))))
  (s_one (s_ret (i_var 6)))))))))) (r__law_numbers)
theorem ok__law_pick  {f : Addr} {fd : FuncData} (T : Tx w K mg) (F : FunD K "_law_pick" "_law_pick" (defArgs st__law_pick) (defBody st__law_pick) (defScope st__law_pick) [] [] f fd)   : FnOk P w K mg base (L2N.CX P w) (1) f fd ["numbers", "at", "count"] (spD ⟨K, mg⟩ F__law_pick 3) :=
  fn_E (m := m__law_pick ) F sc__law_pick (fun cdv A outer s H E hr hp W tk =>
  (s_one (s_ret (i_bin op_modN d_mod (i_callTy call_int1 d_int (by rfl) T.f_int bi_int (i_cons (i_ix ix_seq d_ix (i_var 0) (i_bin op_modN d_mod (i_var 1) (i_callB call_len d_len (by rfl) T.f_len bi_len (i_cons (i_var 0) i_nil)))) i_nil)) (i_var 2))))) (r__law_pick)
theorem ok__law_like (n : Nat) {f : Addr} {fd : FuncData} (T : Tx w K mg) (F : FunD K "_law_like" "_law_like" (defArgs st__law_like) (defBody st__law_like) (defScope st__law_like) [] [] f fd) (D__law_like : Df P w K mg base "_law_like" ["told", "due"] (Fp_like n) n)  : FnOk P w K mg base (L2N.CX P w) (n + 1) f fd ["told", "due"] (spD ⟨K, mg⟩ (Fp_like (n + 1)) 2) :=
  fn_E (m := m__law_like n) F sc__law_like (fun cdv A outer s H E hr hp W tk =>
  (s_cons (s_if (i_truth (i_isa (by simp) (by rfl) T.f_isinstance (by rfl) T.f_tuple bi_tuple (i_var 1)))
  (s_cons (s_if (i_tor (i_tnot (i_truth (i_isa (by simp) (by rfl) T.f_isinstance (by rfl) T.f_tuple bi_tuple (i_var 0)))) (i_or1 (i_tcmp (o_ne (hu_r hr)) d_ne (i_callB call_len d_len (by rfl) T.f_len bi_len (i_cons (i_var 0) i_nil)) (i_callB call_len d_len (by rfl) T.f_len bi_len (i_cons (i_var 1) i_nil))))).pt
  (s_one (s_ret i_bl))
  s_nil)
  (s_cons (s_range1 hp (by rfl) (by rfl) T.f_range (i_cons (i_callB call_len d_len (by rfl) T.f_len bi_len (i_cons (i_var 1) i_nil)) i_nil) (g_nm 2 sc__law_like.nd)
  (s_one (s_if (i_tnot (i_truth (i_call D__law_like (hr.mono (by first | decide | omega)) (by rfl) tk (i_cons (i_ix ix_seq d_ix (i_var 0) (i_var 2)) (i_cons (i_ix ix_seq d_ix (i_var 1) (i_var 2)) i_nil)))))
  (s_one (s_ret i_bl))
  s_nil)))
  (s_one (s_ret i_bl))))
  s_nil)
  (s_cons (s_if (i_tcmp op_isN d_isN (i_var 1) i_non)
  (s_one (s_ret (i_cmp op_isN d_isN (i_var 0) i_non)))
  s_nil)
  (s_cons (s_if (i_truth (i_isa (by simp) (by rfl) T.f_isinstance (by rfl) T.f_bool bi_bool (i_var 1)))
  (s_one (s_ret (i_and (i_isa (by simp) (by rfl) T.f_isinstance (by rfl) T.f_bool bi_bool (i_var 0)) (i_one (i_cmp (o_eq (hu_r hr)) d_eq (i_var 0) (i_var 1))))))
  s_nil)
  (s_cons (s_if (i_truth (i_isa (by simp) (by rfl) T.f_isinstance (by rfl) T.f_int bi_int (i_var 1)))
  (s_one (s_ret (i_and (i_isa (by simp) (by rfl) T.f_isinstance (by rfl) T.f_int bi_int (i_var 0)) (i_and (i_not (i_isa (by simp) (by rfl) T.f_isinstance (by rfl) T.f_bool bi_bool (i_var 0))) (i_one (i_cmp (o_eq (hu_r hr)) d_eq (i_var 0) (i_var 1)))))))
  s_nil)
  (s_one (s_ret (i_and (i_isa (by simp) (by rfl) T.f_isinstance (by rfl) T.f_str bi_str (i_var 0)) (i_one (i_cmp (o_eq (hu_r hr)) d_eq (i_var 0) (i_var 1))))))))))) (r__law_like n)
theorem rec__law_like {f : Addr} {fd : FuncData} (T : Tx w K mg) (F : FunD K "_law_like" "_law_like" (defArgs st__law_like) (defBody st__law_like) (defScope st__law_like) [] [] f fd) (g : mg "_law_like" = some (.ref f)) (b : Binds K fd ["told", "due"] [])  : ∀ n : Nat, FnOk P w K mg base (L2N.CX P w) n f fd ["told", "due"] (spD ⟨K, mg⟩ (Fp_like n) 2)
  | 0 => fnok_no
  | n + 1 => ok__law_like n T F (df_mk F g b (rec__law_like T F g b  n))
theorem ok__law_told {f : Addr} {fd : FuncData} (T : Tx w K mg) (F : FunD K "_law_told" "_law_told" (defArgs st__law_told) (defBody st__law_told) (defScope st__law_told) [] [] f fd)    : FnL P w K mg base 15 (16) f fd ["call"] F__law_told :=
  fn_LE (m := m__law_told) F sc__law_told (fun cdv A outer s H E il B hr LO lk hfr hp W tk =>
  (s_one (s_tryAs (exs := [("BadTable", true)]) (i := 3) (by rfl) (by rfl) sc__law_told.nd (by rfl) (by rfl) ⟨rfl, by decide, .inl T.g_DoorError⟩ tk T.xs_DoorError (fun W pn xe tk hp =>
  (s_one (s_ret (i_tup (i_cons i_str (i_cons (i_lamcall LO (hr.mono (by first | decide | omega)) tk (fun _ _ _ _ I => Un.on lk I.base hfr)) i_nil)))))) (fun av oe cv d pn hm hz hfd hd0 => by
  obtain ⟨D0, hc0, EC, hT⟩ := T.k__law_told cv hm
  exact (s_cons (s_set 1 (i_lst (i_cons i_str (i_cons i_str i_nil))) sc__law_told.nd)
  (s_cons (s_set 2 (i_lst (i_cons (by obtain ⟨A0, hC, hk⟩ := hT "BadTable" (by simp); exact i_exis (i := 3) hz hd0 hfd hc0 EC hC hk T.f_isinstance (by rfl) (by rfl) (by rfl) (.inl (by rfl))) (i_cons (by obtain ⟨A0, hC, hk⟩ := hT "BadEnds" (by simp); exact i_exis (i := 3) hz hd0 hfd hc0 EC hC hk T.f_isinstance (by rfl) (by rfl) (by rfl) (.inl (by rfl))) i_nil))) sc__law_told.nd)
  (s_one (s_ret (i_tup (i_cons i_str (i_cons (i_lcH (own := [("k", 4)]) (hot_suite hz hfd) sc__law_told.nd (wi_rng1H (by rfl) T.f_range (i_cons (i_callB call_len d_len (by rfl) T.f_len bi_len (i_cons (i_var 1) i_nil)) i_nil)) (blkOk_by (N := ["call", "words", "named", "e", "k"]) (sc := defScope st__law_told) (by decide +kernel)) (own_nm (by decide)) (fun _ _ _ _ _ => pg_name (i := 4) sc__law_told.nd (by rfl) (by first | exact Or.inl (by rfl) | exact Or.inr (by rfl))) (by exact fun _ _ _ _ _ => (pts_one (i_truth (i_ix ix_seq d_ix (i_var 2) (i_var 4))))) (by exact fun _ _ _ _ _ => (i_ix ix_seq d_ix (i_var 1) (i_var 4)))) i_nil)))))))) (hex__law_told il B) hind__law_told))) (r__law_told)
theorem ok__law_table  {f : Addr} {fd : FuncData} (T : Tx w K mg) (F : FunD K "_law_table" "_law_table" (defArgs st__law_table) (defBody st__law_table) (defScope st__law_table) [] [] f fd) (D__law_pick : Df P w K mg base "_law_pick" ["numbers", "at", "count"] F__law_pick 1)  : FnOk P w K mg base (L2N.CX P w) (2) f fd ["numbers", "at", "maps", "lets"] (spD ⟨K, mg⟩ F__law_table 4) :=
  fn_E (m := m__law_table ) F sc__law_table (fun cdv A outer s H E hr hp W tk =>
  (s_cons (s_set 4 (i_ix ix_seq d_ix (i_lst (i_cons i_int (i_cons i_int (i_cons i_int (i_cons i_int i_nil))))) (i_call D__law_pick (hr.mono (by first | decide | omega)) (by rfl) tk (i_cons (i_var 0) (i_cons (i_var 1) (i_cons i_int i_nil))))) sc__law_table.nd)
  (s_cons (s_set 5 (i_ix ix_seq d_ix (i_lst (i_cons i_int (i_cons (i_bin o_add d_add (i_var 4) i_int) i_nil))) (i_call D__law_pick (hr.mono (by first | decide | omega)) (by rfl) tk (i_cons (i_var 0) (i_cons (i_bin o_add d_add (i_var 1) i_int) (i_cons i_int i_nil))))) sc__law_table.nd)
  (s_cons (s_set 6 (i_ix ix_seq d_ix (i_lst (i_cons i_str (i_cons i_str (i_cons i_str i_nil)))) (i_call D__law_pick (hr.mono (by first | decide | omega)) (by rfl) tk (i_cons (i_var 0) (i_cons (i_bin o_add d_add (i_var 1) i_int) (i_cons i_int i_nil))))) sc__law_table.nd)
  (s_cons (s_set 7 (i_tup (i_cons (i_call D__law_pick (hr.mono (by first | decide | omega)) (by rfl) tk (i_cons (i_var 0) (i_cons (i_bin o_add d_add (i_var 1) i_int) (i_cons i_int i_nil)))) (i_cons (i_call D__law_pick (hr.mono (by first | decide | omega)) (by rfl) tk (i_cons (i_var 0) (i_cons (i_bin o_add d_add (i_var 1) i_int) (i_cons i_int i_nil)))) i_nil))) sc__law_table.nd)
  (s_one (s_ret (i_tup (i_cons (i_bin o_add d_add (i_tup (i_cons i_str (i_cons (i_var 6) (i_cons i_str (i_cons i_str (i_cons (i_var 2) (i_cons (i_var 3) (i_cons (i_var 4) (i_cons (i_var 5) (i_cons i_int (i_cons i_int i_nil))))))))))) (i_var 7)) (i_cons (i_tup i_nil) i_nil)))))))))) (r__law_table)
theorem ok__law_one  {f : Addr} {fd : FuncData} (T : Tx w K mg) (F : FunD K "_law_one" "_law_one" (defArgs st__law_one) (defBody st__law_one) (defScope st__law_one) [] [] f fd)   : FnOk P w K mg base (L2N.CX P w) (1) f fd ["inner", "outer"] (spD ⟨K, mg⟩ F__law_one 2) :=
  fn_E (m := m__law_one ) F sc__law_one (fun cdv A outer s H E hr hp W tk =>
  (s_cons (s_set 2 (i_ix ix_seq d_ix (i_var 1) i_int) sc__law_one.nd)
  (s_cons (s_set 3 (i_callB (call_max2 (by rfl)) d_max2 (by rfl) T.f_max bi_max (i_cons (i_ix ix_seq d_ix (i_ix ix_seq d_ix (i_var 0) i_int) i_int) (i_cons (i_ix ix_seq d_ix (i_var 2) i_int) i_nil))) sc__law_one.nd)
  (s_cons (s_set 4 (i_callB (call_max2 (by rfl)) d_max2 (by rfl) T.f_max bi_max (i_cons (i_ix ix_seq d_ix (i_ix ix_seq d_ix (i_var 0) i_int) i_int) (i_cons (i_ix ix_seq d_ix (i_var 2) i_int) i_nil))) sc__law_one.nd)
  (s_one (s_ret (i_tup (i_cons (i_bin o_add d_add (i_bin o_add d_add (i_slice (i_var 2) i_nopart (i_part i_int)) (i_tup (i_cons (i_var 3) (i_cons (i_var 4) i_nil)))) (i_slice (i_var 2) (i_part i_int) i_nopart)) (i_cons (i_tup i_nil) i_nil))))))))) (r__law_one)
theorem ok__law_alike  {f : Addr} {fd : FuncData} (T : Tx w K mg) (F : FunD K "_law_alike" "_law_alike" (defArgs st__law_alike) (defBody st__law_alike) (defScope st__law_alike) [] [] f fd)   : FnOk P w K mg base (L2N.CX P w) (1) f fd ["inner", "outer"] (spD ⟨K, mg⟩ F__law_alike 2) :=
  fn_E (m := m__law_alike ) F sc__law_alike (fun cdv A outer s H E hr hp W tk =>
  (s_cons (s_set 2 (i_ix ix_seq d_ix (i_ix ix_seq d_ix (i_var 0) i_int) i_int) sc__law_alike.nd)
  (s_cons (s_set 3 (i_ix ix_seq d_ix (i_ix ix_seq d_ix (i_var 0) i_int) i_int) sc__law_alike.nd)
  (s_cons (s_set 4 (i_ix ix_seq d_ix (i_ix ix_seq d_ix (i_var 1) i_int) i_int) sc__law_alike.nd)
  (s_cons (s_set 5 (i_ix ix_seq d_ix (i_ix ix_seq d_ix (i_var 1) i_int) i_int) sc__law_alike.nd)
  (s_one (s_ret (i_or (i_cmp o_le d_ord (i_var 4) (i_var 2)) (i_or (i_cmp o_le d_ord (i_var 3) (i_var 2)) (i_one (i_cmp o_ge d_ord (i_var 5) (i_callB (call_min2 (by rfl)) d_min2 (by rfl) T.f_min bi_min (i_cons (i_var 3) (i_cons (i_var 4) i_nil)))))))))))))) (r__law_alike)
theorem ok__law_joined  {f : Addr} {fd : FuncData} (T : Tx w K mg) (F : FunD K "_law_joined" "_law_joined" (defArgs st__law_joined) (defBody st__law_joined) (defScope st__law_joined) [] [] f fd) (D__law_alike : Df P w K mg base "_law_alike" ["inner", "outer"] F__law_alike 1) (D__law_one : Df P w K mg base "_law_one" ["inner", "outer"] F__law_one 1)  : FnOk P w K mg base (L2N.CX P w) (2) f fd ["tables"] (spD ⟨K, mg⟩ F__law_joined 1) :=
  fn_E (m := m__law_joined ) F sc__law_joined (fun cdv A outer s H E hr hp W tk =>
  (s_cons (s_set 1 (i_callTy call_list_of d_list (by rfl) T.f_list bi_list (i_cons (i_var 0) i_nil)) sc__law_joined.nd)
  (s_cons (s_range1 hp (by rfl) (by rfl) T.f_range (i_cons (i_callB call_len d_len (by rfl) T.f_len bi_len (i_cons (i_var 0) i_nil)) i_nil) (g_nm 2 sc__law_joined.nd)
  (s_one (s_range1 hp (by rfl) (by rfl) T.f_range (i_cons (i_bin op_sub d_sub (i_callB call_len d_len (by rfl) T.f_len bi_len (i_cons (i_var 1) i_nil)) i_int) i_nil) (g_nm 3 sc__law_joined.nd)
  (s_one (s_if (i_truth (i_call D__law_alike (hr.mono (by first | decide | omega)) (by rfl) tk (i_cons (i_ix ix_seq d_ix (i_var 1) (i_var 3)) (i_cons (i_ix ix_seq d_ix (i_var 1) (i_bin o_add d_add (i_var 3) i_int)) i_nil))))
  (s_cons (s_set 1 (i_bin o_add d_add (i_bin o_add d_add (i_slice (i_var 1) i_nopart (i_part (i_var 3))) (i_lst (i_cons (i_call D__law_one (hr.mono (by first | decide | omega)) (by rfl) tk (i_cons (i_ix ix_seq d_ix (i_var 1) (i_var 3)) (i_cons (i_ix ix_seq d_ix (i_var 1) (i_bin o_add d_add (i_var 3) i_int)) i_nil))) i_nil))) (i_slice (i_var 1) (i_part (i_bin o_add d_add (i_var 3) i_int)) i_nopart)) sc__law_joined.nd)
  (s_one s_break))
  s_nil)))))
  (s_one (s_ret (i_callTy o_tuple d_tuple (by rfl) T.f_tuple bi_tuple (i_cons (i_var 1) i_nil))))))) (r__law_joined)
theorem ok__law_wrong  {f : Addr} {fd : FuncData} (T : Tx w K mg) (F : FunD K "_law_wrong" "_law_wrong" (defArgs st__law_wrong) (defBody st__law_wrong) (defScope st__law_wrong) [] [] f fd)   : FnOk P w K mg base (L2N.CX P w) (1) f fd ["table", "kind"] (spD ⟨K, mg⟩ F__law_wrong 2) :=
  fn_E (m := m__law_wrong ) F sc__law_wrong (fun cdv A outer s H E hr hp W tk =>
  (s_cons (s_set 2 (i_ix ix_seq d_ix (i_var 0) i_int) sc__law_wrong.nd)
  (s_cons (s_if (i_tcmp (o_eq (hu_r hr)) d_eq (i_var 1) i_int)
  (s_one (s_ret (i_tup (i_cons (i_bin o_add d_add (i_bin o_add d_add (i_slice (i_var 2) i_nopart (i_part i_int)) (i_tup (i_cons i_int i_nil))) (i_slice (i_var 2) (i_part i_int) i_nopart)) (i_cons (i_tup i_nil) i_nil)))))
  s_nil)
  (s_cons (s_if (i_tcmp (o_eq (hu_r hr)) d_eq (i_var 1) i_int)
  (s_one (s_ret (i_tup (i_cons (i_bin o_add d_add (i_bin o_add d_add (i_slice (i_var 2) i_nopart (i_part i_int)) (i_tup (i_cons i_int i_nil))) (i_slice (i_var 2) (i_part i_int) i_nopart)) (i_cons (i_tup i_nil) i_nil)))))
  s_nil)
  (s_cons (s_if (i_tcmp (o_eq (hu_r hr)) d_eq (i_var 1) i_int)
  (s_one (s_ret (i_tup (i_cons (i_var 2) (i_cons (i_tup (i_cons (i_tup (i_cons (i_ix ix_seq d_ix (i_var 2) i_int) (i_cons (i_tup (i_cons i_str (i_cons i_int i_nil))) i_nil))) i_nil)) i_nil)))))
  s_nil)
  (s_cons (s_if (i_tcmp (o_eq (hu_r hr)) d_eq (i_var 1) i_int)
  (s_one (s_ret (i_tup (i_cons (i_bin o_add d_add (i_bin o_add d_add (i_slice (i_var 2) i_nopart (i_part i_int)) (i_tup (i_cons (i_bin o_add d_add (i_ix ix_seq d_ix (i_var 2) i_int) i_int) i_nil))) (i_slice (i_var 2) (i_part i_int) i_nopart)) (i_cons (i_tup i_nil) i_nil)))))
  s_nil)
  (s_cons (s_if (i_tcmp (o_eq (hu_r hr)) d_eq (i_var 1) i_int)
  (s_one (s_ret (i_tup (i_cons (i_bin o_add d_add (i_bin o_add d_add (i_slice (i_var 2) i_nopart (i_part i_int)) (i_tup (i_cons i_int i_nil))) (i_slice (i_var 2) (i_part i_int) i_nopart)) (i_cons (i_tup i_nil) i_nil)))))
  s_nil)
  (s_cons (s_if (i_tcmp (o_eq (hu_r hr)) d_eq (i_var 1) i_int)
  (s_one (s_ret (i_tup (i_cons (i_bin o_add d_add (i_bin o_add d_add (i_slice (i_var 2) i_nopart (i_part i_int)) (i_tup (i_cons i_int i_nil))) (i_slice (i_var 2) (i_part i_int) i_nopart)) (i_cons (i_tup i_nil) i_nil)))))
  s_nil)
  (s_one (s_ret (i_tup (i_cons (i_bin o_add d_add (i_bin o_add d_add (i_slice (i_var 2) i_nopart (i_part i_int)) (i_tup (i_cons i_int (i_cons i_int i_nil)))) (i_slice (i_var 2) (i_part i_int) i_nopart)) (i_cons (i_tup i_nil) i_nil))))))))))))) (r__law_wrong)
theorem ok_law {f : Addr} {fd : FuncData} (T : Tx w K mg) (TK : TabK K mg base "law") (KX : K.In base) (G : base.Ns mainGlobals mg) (hm : mg "law" = some (.ref f)) (F : FunD K "law" "law" (defArgs st_law) (defBody st_law) (defScope st_law) [] [] f fd) (D__law_numbers : Df P w K mg base "_law_numbers" ["script", "at", "count"] F__law_numbers 1) (D__law_table : Df P w K mg base "_law_table" ["numbers", "at", "maps", "lets"] F__law_table 2) (D__law_joined : Df P w K mg base "_law_joined" ["tables"] F__law_joined 2) (D__law_like : Df P w K mg base "_law_like" ["told", "due"] (Fp_like 9) 9) (D_join_doors : Df P w K mg base "join_doors" ["tables"] F_join_doors 14) (D__law_pick : Df P w K mg base "_law_pick" ["numbers", "at", "count"] F__law_pick 1) (D_strictest : Df P w K mg base "strictest" ["inner", "outer"] F_strictest 12) (D__law_one : Df P w K mg base "_law_one" ["inner", "outer"] F__law_one 1) (D_is_stricter : Df P w K mg base "is_stricter" ["one", "other"] F_is_stricter 12) (D__law_wrong : Df P w K mg base "_law_wrong" ["table", "kind"] F__law_wrong 1)  (L__law_told : DfL P w K mg base "_law_told" ["call"] F__law_told 15 16) : FnOk P w K mg base (L2N.CX P w) (17) f fd ["script"] (spD ⟨K, mg⟩ F_law 1) :=
  fn_T (m := m_law) TK KX G hm F sc_law (fun cdv A outer s H E LT hr hp W tk =>
  (s_cons (s_set 1 (i_call D__law_numbers (hr.mono (by first | decide | omega)) (by rfl) tk (i_cons (i_var 0) (i_cons i_int (i_cons i_int i_nil)))) sc_law.nd)
  (s_cons (s_range1 hp (by rfl) (by rfl) T.f_range (i_cons i_int i_nil) (g_nm 2 sc_law.nd)
  (s_one (s_range1 hp (by rfl) (by rfl) T.f_range (i_cons i_int i_nil) (g_nm 10 sc_law.nd)
  (s_cons (s_set 13 (i_call D__law_table (hr.mono (by first | decide | omega)) (by rfl) tk (i_cons (i_var 1) (i_cons (i_bin op_modN d_mod (i_bin o_mul d_mul i_int (i_callTy call_int1 d_int (by rfl) T.f_int bi_int (i_cons (i_bin o_add d_add (i_var 2) (i_var 10)) i_nil))) i_int) (i_cons (i_bin o_add d_add i_int (i_bin op_fdivW d_div (i_var 2) i_int)) (i_cons (i_bin o_add d_add i_int (i_bin op_modN d_mod (i_callTy call_int1 d_int (by rfl) T.f_int bi_int (i_cons (i_var 2) i_nil)) i_int)) i_nil))))) sc_law.nd)
  (s_cons (s_set 14 (i_call D__law_table (hr.mono (by first | decide | omega)) (by rfl) tk (i_cons (i_var 1) (i_cons (i_bin o_add d_add i_int (i_bin op_modN d_mod (i_bin o_mul d_mul i_int (i_callTy call_int1 d_int (by rfl) T.f_int bi_int (i_cons (i_bin o_mul d_mul (i_var 2) (i_var 10)) i_nil))) i_int)) (i_cons (i_bin o_add d_add i_int (i_bin op_fdivW d_div (i_var 10) i_int)) (i_cons (i_bin o_add d_add i_int (i_bin op_modN d_mod (i_callTy call_int1 d_int (by rfl) T.f_int bi_int (i_cons (i_var 10) i_nil)) i_int)) i_nil))))) sc_law.nd)
  (s_cons (s_set 6 (i_call D__law_joined (hr.mono (by first | decide | omega)) (by rfl) tk (i_cons (i_tup (i_cons (i_var 13) (i_cons (i_var 14) i_nil))) i_nil)) sc_law.nd)
  (s_one (s_if (i_tnot (i_truth (i_call D__law_like (hr.mono (by first | decide | omega)) (by rfl) tk (i_cons (i_call D_join_doors (hr.mono (by first | decide | omega)) (by rfl) tk (i_cons (i_tup (i_cons (i_var 13) (i_cons (i_var 14) i_nil))) i_nil)) (i_cons (i_var 6) i_nil)))))
  (s_one (s_ret i_bl))
  s_nil))))))))
  (s_cons (s_set 3 (i_call D__law_numbers (hr.mono (by first | decide | omega)) (by rfl) tk (i_cons (i_var 0) (i_cons i_int (i_cons i_int i_nil)))) sc_law.nd)
  (s_cons (s_set 4 (i_lst i_nil) sc_law.nd)
  (s_cons (s_range1 hp (by rfl) (by rfl) T.f_range (i_cons (i_bin o_add d_add i_int (i_call D__law_pick (hr.mono (by first | decide | omega)) (by rfl) tk (i_cons (i_var 3) (i_cons i_int (i_cons i_int i_nil))))) i_nil) (g_nm 5 sc_law.nd)
  (s_one (s_expr (i_lm PySem.F.slot_list_append PySem.F.type_list_append mt_append d_append (i_var 4) (i_cons (i_call D__law_table (hr.mono (by first | decide | omega)) (by rfl) tk (i_cons (i_var 3) (i_cons (i_bin o_add d_add i_int (i_bin o_mul d_mul i_int (i_var 5))) (i_cons (i_bin o_add d_add i_int (i_call D__law_pick (hr.mono (by first | decide | omega)) (by rfl) tk (i_cons (i_var 3) (i_cons (i_bin o_add d_add i_int (i_bin o_mul d_mul i_int (i_var 5))) (i_cons i_int i_nil))))) (i_cons (i_bin o_add d_add i_int (i_call D__law_pick (hr.mono (by first | decide | omega)) (by rfl) tk (i_cons (i_var 3) (i_cons (i_bin o_add d_add i_int (i_bin o_mul d_mul i_int (i_var 5))) (i_cons i_int i_nil))))) i_nil))))) i_nil)))))
  (s_cons (s_set 6 (i_call D__law_joined (hr.mono (by first | decide | omega)) (by rfl) tk (i_cons (i_var 4) i_nil)) sc_law.nd)
  (s_cons (s_set 7 (i_callTy call_list_of d_list (by rfl) T.f_list bi_list (i_cons (i_var 4) i_nil)) sc_law.nd)
  (s_cons (s_if (i_tor (i_tnot (i_truth (i_call D__law_like (hr.mono (by first | decide | omega)) (by rfl) tk (i_cons (i_call D_join_doors (hr.mono (by first | decide | omega)) (by rfl) tk (i_cons (i_var 7) i_nil)) (i_cons (i_var 6) i_nil))))) (i_tor (i_tcmp (o_neX (hu_r hr)) d_neX (i_var 7) (i_var 4)) (i_or1 (i_tnot (i_truth (i_call D__law_like (hr.mono (by first | decide | omega)) (by rfl) tk (i_cons (i_call D_join_doors (hr.mono (by first | decide | omega)) (by rfl) tk (i_cons (i_var 6) i_nil)) (i_cons (i_var 6) i_nil)))))))).pt
  (s_one (s_ret i_bl))
  s_nil)
  (s_cons (s_range1 hp (by rfl) (by rfl) T.f_range (i_cons (i_callB call_len d_len (by rfl) T.f_len bi_len (i_cons (i_var 4) i_nil)) i_nil) (g_nm 5 sc_law.nd)
  (s_one (s_range1 hp (by rfl) (by rfl) T.f_range (i_cons (i_callB call_len d_len (by rfl) T.f_len bi_len (i_cons (i_var 4) i_nil)) i_nil) (g_nm 11 sc_law.nd)
  (s_cons (s_if (i_tnot (i_truth (i_call D__law_like (hr.mono (by first | decide | omega)) (by rfl) tk (i_cons (i_call D_strictest (hr.mono (by first | decide | omega)) (by rfl) tk (i_cons (i_ix ix_seq d_ix (i_var 4) (i_var 5)) (i_cons (i_ix ix_seq d_ix (i_var 4) (i_var 11)) i_nil))) (i_cons (i_call D__law_one (hr.mono (by first | decide | omega)) (by rfl) tk (i_cons (i_ix ix_seq d_ix (i_var 4) (i_var 5)) (i_cons (i_ix ix_seq d_ix (i_var 4) (i_var 11)) i_nil))) i_nil)))))
  (s_one (s_ret i_bl))
  s_nil)
  (s_cons (s_set 15 (i_and (i_cmp o_ge d_ord (i_ix ix_seq d_ix (i_ix ix_seq d_ix (i_ix ix_seq d_ix (i_var 4) (i_var 5)) i_int) i_int) (i_ix ix_seq d_ix (i_ix ix_seq d_ix (i_ix ix_seq d_ix (i_var 4) (i_var 11)) i_int) i_int)) (i_one (i_cmp o_ge d_ord (i_ix ix_seq d_ix (i_ix ix_seq d_ix (i_ix ix_seq d_ix (i_var 4) (i_var 5)) i_int) i_int) (i_ix ix_seq d_ix (i_ix ix_seq d_ix (i_ix ix_seq d_ix (i_var 4) (i_var 11)) i_int) i_int)))) sc_law.nd)
  (s_one (s_if (i_tnot (i_truth (i_call D__law_like (hr.mono (by first | decide | omega)) (by rfl) tk (i_cons (i_call D_is_stricter (hr.mono (by first | decide | omega)) (by rfl) tk (i_cons (i_ix ix_seq d_ix (i_var 4) (i_var 5)) (i_cons (i_ix ix_seq d_ix (i_var 4) (i_var 11)) i_nil))) (i_cons (i_var 15) i_nil)))))
  (s_one (s_ret i_bl))
  s_nil)))))))
  (s_cons (s_set 8 (i_call D__law_pick (hr.mono (by first | decide | omega)) (by rfl) tk (i_cons (i_var 3) (i_cons i_int (i_cons (i_callB call_len d_len (by rfl) T.f_len bi_len (i_cons (i_var 4) i_nil)) i_nil)))) sc_law.nd)
  (s_cons (s_range1 hp (by rfl) (by rfl) T.f_range (i_cons i_int i_nil) (g_nm 9 sc_law.nd)
  (s_cons (s_set 12 (i_bin o_add d_add (i_bin o_add d_add (i_slice (i_var 4) i_nopart (i_part (i_var 8))) (i_lst (i_cons (i_call D__law_wrong (hr.mono (by first | decide | omega)) (by rfl) tk (i_cons (i_ix ix_seq d_ix (i_var 4) (i_var 8)) (i_cons (i_var 9) i_nil))) i_nil))) (i_slice (i_var 4) (i_part (i_bin o_add d_add (i_var 8) i_int)) i_nopart)) sc_law.nd)
  (s_one (s_if (i_tcmp (o_neX (hu_r hr)) d_neX (i_callLam0 (kl := 14) L__law_told (by rfl) (hr.mono (by first | decide | omega)) (by rfl) tk LT (LamX.lamS_by (sc := defScope st_law) (by decide +kernel)) (by rfl) (fun _ _ _ _ _ => (by rfl)) (fun A outer s H E f c hr W tk => (i_call D_join_doors (hr.mono (by first | decide | omega)) (by rfl) tk (i_cons (i_var 12) i_nil)))) (i_tup (i_cons i_str (i_cons (i_lst (i_cons i_str i_nil)) i_nil))))
  (s_one (s_ret i_bl))
  s_nil))))
  (s_one (s_ret (i_cmp (o_eqX (hu_r hr)) d_eqX (i_callLam0 (kl := 14) L__law_told (by rfl) (hr.mono (by first | decide | omega)) (by rfl) tk LT (LamX.lamS_by (sc := defScope st_law) (by decide +kernel)) (by rfl) (fun _ _ _ _ _ => (by rfl)) (fun A outer s H E f c hr W tk => (i_call D_join_doors (hr.mono (by first | decide | omega)) (by rfl) tk (i_cons (i_slice (i_bin o_add d_add (i_var 4) (i_bin o_mul d_mul (i_lst (i_cons (i_ix ix_seq d_ix (i_var 4) (i_var 8)) i_nil)) i_int)) i_nopart (i_part i_int)) i_nil)))) (i_tup (i_cons i_str (i_cons (i_lst (i_cons i_str i_nil)) i_nil)))))))))))))))))) (r_law)
end
/-! ### the head -/
def dd (x : Str) (i : Nat) : He.DefD := ⟨(x, none), x, x, defArgs (top i), defBody (top i), defScope (top i), [], []⟩
def hfn : List He.DefD := [dd "is_int" 5, dd "is_between" 6, dd "is_bit" 7, dd "is_tuple_of" 8, dd "is_row" 9, dd "is_all" 15, dd "is_word" 16, dd "is_small_row" 17, dd "is_small_name" 18, dd "is_great_name" 19, dd "is_told_name" 25, dd "is_told_great" 26, dd "is_told_number" 27, dd "is_told_range" 28, dd "is_told_rule" 29, dd "are_told_rules" 30, dd "is_net" 31, dd "is_host" 32, dd "is_door" 33, dd "is_open" 34, dd "is_wall" 35, dd "is_item" 36, dd "is_port_number" 42, dd "has_fit_numbers" 43, dd "is_name" 45, dd "is_port" 46, dd "is_end" 47, dd "is_door_of_a_plan" 50, dd "is_open_of" 51, dd "are_opens_of" 52, dd "is_table" 53, dd "ports_of" 54, dd "check_table" 55, dd "strictest" 63, dd "is_stricter" 64, dd "check_plain" 65, dd "check_row_of_doors" 66, dd "do_as_one" 67, dd "first_pair" 68, dd "join_doors" 69, dd "_law_numbers" 71, dd "_law_pick" 72, dd "_law_like" 73, dd "_law_told" 74, dd "_law_table" 75, dd "_law_one" 76, dd "_law_alike" 77, dd "_law_joined" 78, dd "_law_wrong" 79, dd "law" 80]
def hfa : List He.Fa := [.glo "is_int", .glo "is_between", .glo "is_bit", .glo "is_tuple_of", .glo "is_row", .glo "is_all", .glo "is_word", .glo "is_small_row", .glo "is_small_name", .glo "is_great_name", .glo "is_told_name", .glo "is_told_great", .glo "is_told_number", .glo "is_told_range", .glo "is_told_rule", .glo "are_told_rules", .glo "is_net", .glo "is_host", .glo "is_door", .glo "is_open", .glo "is_wall", .glo "is_item", .glo "is_port_number", .glo "has_fit_numbers", .glo "is_name", .glo "is_port", .glo "is_end", .glo "is_door_of_a_plan", .glo "is_open_of", .glo "are_opens_of", .glo "is_table", .glo "ports_of", .glo "check_table", .glo "strictest", .glo "is_stricter", .glo "check_plain", .glo "check_row_of_doors", .glo "do_as_one", .glo "first_pair", .glo "join_doors", .glo "_law_numbers", .glo "_law_pick", .glo "_law_like", .glo "_law_told", .glo "_law_table", .glo "_law_one", .glo "_law_alike", .glo "_law_joined", .glo "_law_wrong", .glo "law", .free "abs", .free "bool", .free "enumerate", .free "int", .free "isinstance", .free "len", .free "list", .free "max", .free "min", .free "range", .free "str", .free "tuple", .exc "BadEnds", .exc "BadTable", .exc "DoorError", .glo "BadEnds", .glo "BadTable", .glo "DoorError", .glo "LENGTHS", .exm "BadTable" "DoorError" true]
def hcs : List (Str × CK) := [("DIGITS", .p c_DIGITS), ("GREATEST_PORT", .p c_GREATEST_PORT), ("GREAT_LETTERS", .p c_GREAT_LETTERS), ("KEEPS", .p c_KEEPS), ("KINDS", .p c_KINDS), ("LEAST_PORT", .p c_LEAST_PORT), ("LEAST_PORTS", .p c_LEAST_PORTS), ("LETS", .p c_LETS), ("LONGEST_SPAN", .p c_LONGEST_SPAN), ("MANNERS", .p c_MANNERS), ("MAPS", .p c_MAPS), ("MOST_JOINED", .p c_MOST_JOINED), ("MOST_OPENS", .p c_MOST_OPENS), ("RANGES_OF_A_RULE", .p c_RANGES_OF_A_RULE), ("SMALL_LETTERS", .p c_SMALL_LETTERS), ("SPAN", .p c_SPAN), ("TOP", .p c_TOP), ("WORDS", .p c_WORDS)]
def hts : List Tb := [("LENGTHS", t_LENGTHS)]
abbrev RR : PySem.W.OpenRow := PySem.W.OpenLaw.row PySem.Challenge.rw_holesmet_k86_doors_joined_in_rows
def hchk (K : PySem.W.Frag) : Bool := lamB K "law" && askB K (([("BadTable", true)] : List (Str × Bool)).map (·.1)) ["BadTable", "BadEnds"]
abbrev hk : PySem.W.Hook := hookZ 5 hfa hfn hcs hts hchk
def ob (s : PySem.W.SharedT) : AlZ := obsZG 5 hfa hfn hcs hts hchk (HandSHeadRun.getT s)
theorem ob_eq (s : PySem.W.SharedT) : ob s = hk.obs s.abs := obsZG_eq (HandSHeadRun.getT_eq s)
def loose : List Str := (["DoorError", "BadTable", "BadEnds", "SMALL_LETTERS", "GREAT_LETTERS", "DIGITS", "WORDS", "TOP", "KINDS", "LENGTHS", "RANGES_OF_A_RULE", "MANNERS", "LEAST_PORT", "GREATEST_PORT", "LONGEST_SPAN", "MOST_OPENS", "MAPS", "LETS", "KEEPS", "SPAN", "MOST_JOINED", "LEAST_PORTS", "is_int", "is_between", "is_bit", "is_tuple_of", "is_row", "is_all", "is_word", "is_small_row"] : List Str) ++ (["is_small_name", "is_great_name", "is_told_name", "is_told_great", "is_told_number", "is_told_range", "is_told_rule", "are_told_rules", "is_net", "is_host", "is_door", "is_open", "is_wall", "is_item", "is_port_number", "has_fit_numbers", "is_name", "is_port", "is_end", "is_door_of_a_plan", "is_open_of", "are_opens_of", "is_table", "ports_of", "check_table", "strictest", "is_stricter", "check_plain", "check_row_of_doors", "do_as_one"] : List Str) ++ (["first_pair", "join_doors", "_law_numbers", "_law_pick", "_law_like", "_law_told", "_law_table", "_law_one", "_law_alike", "_law_joined", "_law_wrong"] : List Str)
set_option maxHeartbeats 0 in
theorem run (w : World) : HandSHeadRun.RunEq RR (PySem.W.view RR.prog [80]) hk ob 4000 loose w := by
  refine PySem.W.byRow2 "special-get-raises" (P := fun w => HandSHeadRun.RunEq RR (PySem.W.view RR.prog [80]) hk ob 4000 loose w) (fun w => ?_) (fun w => ?_) w
  · intro os; kernel_rfl
  · intro os; kernel_rfl
set_option maxHeartbeats 0 in
theorem facts {P : Program} {w : World} {K : PySem.W.Frag} {h : Heap} {mg : Str → Option Value} {f : Addr} (X : K.In h) (G : h.Ns mainGlobals mg) (hfa1 : mg ("law" : Str) = some (.ref f)) (c0 : SaysZ hfa hfn hcs hts hchk w K) :
    ∃ (fd : FuncData) (c P0 : Addr), PySem.W.tabIn K "law" = some (c, P0) ∧ K.lookup P0 = none ∧ (∀ (s : Shared) (v : Value), BindsTo s fd ⟨[v], []⟩ [("script", v)]) ∧ ∀ base : Heap, K.In base → base.Ns mainGlobals mg → LamX.TabB base mg c P0 → FnOk P w K mg base (L2N.CX P w) (17) f fd ["script"] (spD ⟨K, mg⟩ F_law 1) := by
  have c := c0.y
  have ck := c0.k
  unfold hchk at ck
  simp only [Bool.and_eq_true] at ck
  obtain ⟨ck0, ck1⟩ := ck
  obtain ⟨tc, tP, ht1, ht2⟩ := lamB_ok ck0
  have T : Tx w K mg := ⟨(He.free_ok X G (c.d.fact 50 (f := .free "abs") rfl)),
    (He.free_ok X G (c.d.fact 51 (f := .free "bool") rfl)),
    (He.free_ok X G (c.d.fact 52 (f := .free "enumerate") rfl)),
    (He.free_ok X G (c.d.fact 53 (f := .free "int") rfl)),
    (He.free_ok X G (c.d.fact 54 (f := .free "isinstance") rfl)),
    (He.free_ok X G (c.d.fact 55 (f := .free "len") rfl)),
    (He.free_ok X G (c.d.fact 56 (f := .free "list") rfl)),
    (He.free_ok X G (c.d.fact 57 (f := .free "max") rfl)),
    (He.free_ok X G (c.d.fact 58 (f := .free "min") rfl)),
    (He.free_ok X G (c.d.fact 59 (f := .free "range") rfl)),
    (He.free_ok X G (c.d.fact 60 (f := .free "str") rfl)),
    (He.free_ok X G (c.d.fact 61 (f := .free "tuple") rfl)),
    (cB_ok X G (c.c ("DIGITS", .p c_DIGITS) (by simp [hcs]))),
    (cB_ok X G (c.c ("GREATEST_PORT", .p c_GREATEST_PORT) (by simp [hcs]))),
    (cB_ok X G (c.c ("GREAT_LETTERS", .p c_GREAT_LETTERS) (by simp [hcs]))),
    (cB_ok X G (c.c ("KEEPS", .p c_KEEPS) (by simp [hcs]))),
    (cB_ok X G (c.c ("KINDS", .p c_KINDS) (by simp [hcs]))),
    (cB_ok X G (c.c ("LEAST_PORT", .p c_LEAST_PORT) (by simp [hcs]))),
    (cB_ok X G (c.c ("LEAST_PORTS", .p c_LEAST_PORTS) (by simp [hcs]))),
    (cB_ok X G (c.c ("LETS", .p c_LETS) (by simp [hcs]))),
    (cB_ok X G (c.c ("LONGEST_SPAN", .p c_LONGEST_SPAN) (by simp [hcs]))),
    (cB_ok X G (c.c ("MANNERS", .p c_MANNERS) (by simp [hcs]))),
    (cB_ok X G (c.c ("MAPS", .p c_MAPS) (by simp [hcs]))),
    (cB_ok X G (c.c ("MOST_JOINED", .p c_MOST_JOINED) (by simp [hcs]))),
    (cB_ok X G (c.c ("MOST_OPENS", .p c_MOST_OPENS) (by simp [hcs]))),
    (cB_ok X G (c.c ("RANGES_OF_A_RULE", .p c_RANGES_OF_A_RULE) (by simp [hcs]))),
    (cB_ok X G (c.c ("SMALL_LETTERS", .p c_SMALL_LETTERS) (by simp [hcs]))),
    (cB_ok X G (c.c ("SPAN", .p c_SPAN) (by simp [hcs]))),
    (cB_ok X G (c.c ("TOP", .p c_TOP) (by simp [hcs]))),
    (cB_ok X G (c.c ("WORDS", .p c_WORDS) (by simp [hcs]))),
    (dtb_ok X G c (t := ("LENGTHS", t_LENGTHS)) (by simp [hts]) (c.d.fact 68 (f := .glo "LENGTHS") rfl)),
    (exc_C X G (c.d.fact 62 (f := .exc "BadEnds") rfl) (c.d.fact 65 (f := .glo "BadEnds") rfl)),
    (exc_C X G (c.d.fact 63 (f := .exc "BadTable") rfl) (c.d.fact 66 (f := .glo "BadTable") rfl)),
    (exc_C X G (c.d.fact 64 (f := .exc "DoorError") rfl) (c.d.fact 67 (f := .glo "DoorError") rfl)),
    (He.glo_ok X G (c.d.fact 65 (f := .glo "BadEnds") rfl)),
    (He.glo_ok X G (c.d.fact 66 (f := .glo "BadTable") rfl)),
    (He.glo_ok X G (c.d.fact 67 (f := .glo "DoorError") rfl)),
    (by
    intro q hq
    simp only [List.mem_cons, List.not_mem_nil, or_false] at hq
    rcases hq with rfl
    · exact exm_C X G (c.d.fact 69 (f := .exm "BadTable" "DoorError" true) rfl) (c.d.fact 66 (f := .glo "BadTable") rfl)
    ),
    (fun x hx => (ask_ok X G ck1 (fun x hx => by
    simp only [List.map_cons, List.map_nil, List.mem_cons, List.not_mem_nil, or_false] at hx
    rcases hx with rfl
    · exact c.d.fact 66 (f := .glo "BadTable") rfl
    ) (fun x hx => by
    simp only [List.mem_cons, List.not_mem_nil, or_false] at hx
    rcases hx with rfl | rfl
    · exact c.d.fact 66 (f := .glo "BadTable") rfl
    · exact c.d.fact 65 (f := .glo "BadEnds") rfl
    )).ok x (by obtain ⟨b, hb⟩ := hx; exact List.mem_map.mpr ⟨(x, b), hb, rfl⟩))⟩
  obtain ⟨fd0, F0⟩ := c.d.def_ 0 (d := dd "is_int" 5) rfl
  obtain ⟨fd1, F1⟩ := c.d.def_ 1 (d := dd "is_between" 6) rfl
  obtain ⟨fd2, F2⟩ := c.d.def_ 2 (d := dd "is_bit" 7) rfl
  obtain ⟨fd3, F3⟩ := c.d.def_ 3 (d := dd "is_tuple_of" 8) rfl
  obtain ⟨fd4, F4⟩ := c.d.def_ 4 (d := dd "is_row" 9) rfl
  obtain ⟨fd5, F5⟩ := c.d.def_ 5 (d := dd "is_all" 15) rfl
  obtain ⟨fd6, F6⟩ := c.d.def_ 6 (d := dd "is_word" 16) rfl
  obtain ⟨fd7, F7⟩ := c.d.def_ 7 (d := dd "is_small_row" 17) rfl
  obtain ⟨fd8, F8⟩ := c.d.def_ 8 (d := dd "is_small_name" 18) rfl
  obtain ⟨fd9, F9⟩ := c.d.def_ 9 (d := dd "is_great_name" 19) rfl
  obtain ⟨fd10, F10⟩ := c.d.def_ 10 (d := dd "is_told_name" 25) rfl
  obtain ⟨fd11, F11⟩ := c.d.def_ 11 (d := dd "is_told_great" 26) rfl
  obtain ⟨fd12, F12⟩ := c.d.def_ 12 (d := dd "is_told_number" 27) rfl
  obtain ⟨fd13, F13⟩ := c.d.def_ 13 (d := dd "is_told_range" 28) rfl
  obtain ⟨fd14, F14⟩ := c.d.def_ 14 (d := dd "is_told_rule" 29) rfl
  obtain ⟨fd15, F15⟩ := c.d.def_ 15 (d := dd "are_told_rules" 30) rfl
  obtain ⟨fd16, F16⟩ := c.d.def_ 16 (d := dd "is_net" 31) rfl
  obtain ⟨fd17, F17⟩ := c.d.def_ 17 (d := dd "is_host" 32) rfl
  obtain ⟨fd18, F18⟩ := c.d.def_ 18 (d := dd "is_door" 33) rfl
  obtain ⟨fd19, F19⟩ := c.d.def_ 19 (d := dd "is_open" 34) rfl
  obtain ⟨fd20, F20⟩ := c.d.def_ 20 (d := dd "is_wall" 35) rfl
  obtain ⟨fd21, F21⟩ := c.d.def_ 21 (d := dd "is_item" 36) rfl
  obtain ⟨fd22, F22⟩ := c.d.def_ 22 (d := dd "is_port_number" 42) rfl
  obtain ⟨fd23, F23⟩ := c.d.def_ 23 (d := dd "has_fit_numbers" 43) rfl
  obtain ⟨fd24, F24⟩ := c.d.def_ 24 (d := dd "is_name" 45) rfl
  obtain ⟨fd25, F25⟩ := c.d.def_ 25 (d := dd "is_port" 46) rfl
  obtain ⟨fd26, F26⟩ := c.d.def_ 26 (d := dd "is_end" 47) rfl
  obtain ⟨fd27, F27⟩ := c.d.def_ 27 (d := dd "is_door_of_a_plan" 50) rfl
  obtain ⟨fd28, F28⟩ := c.d.def_ 28 (d := dd "is_open_of" 51) rfl
  obtain ⟨fd29, F29⟩ := c.d.def_ 29 (d := dd "are_opens_of" 52) rfl
  obtain ⟨fd30, F30⟩ := c.d.def_ 30 (d := dd "is_table" 53) rfl
  obtain ⟨fd31, F31⟩ := c.d.def_ 31 (d := dd "ports_of" 54) rfl
  obtain ⟨fd32, F32⟩ := c.d.def_ 32 (d := dd "check_table" 55) rfl
  obtain ⟨fd33, F33⟩ := c.d.def_ 33 (d := dd "strictest" 63) rfl
  obtain ⟨fd34, F34⟩ := c.d.def_ 34 (d := dd "is_stricter" 64) rfl
  obtain ⟨fd35, F35⟩ := c.d.def_ 35 (d := dd "check_plain" 65) rfl
  obtain ⟨fd36, F36⟩ := c.d.def_ 36 (d := dd "check_row_of_doors" 66) rfl
  obtain ⟨fd37, F37⟩ := c.d.def_ 37 (d := dd "do_as_one" 67) rfl
  obtain ⟨fd38, F38⟩ := c.d.def_ 38 (d := dd "first_pair" 68) rfl
  obtain ⟨fd39, F39⟩ := c.d.def_ 39 (d := dd "join_doors" 69) rfl
  obtain ⟨fd40, F40⟩ := c.d.def_ 40 (d := dd "_law_numbers" 71) rfl
  obtain ⟨fd41, F41⟩ := c.d.def_ 41 (d := dd "_law_pick" 72) rfl
  obtain ⟨fd42, F42⟩ := c.d.def_ 42 (d := dd "_law_like" 73) rfl
  obtain ⟨fd43, F43⟩ := c.d.def_ 43 (d := dd "_law_told" 74) rfl
  obtain ⟨fd44, F44⟩ := c.d.def_ 44 (d := dd "_law_table" 75) rfl
  obtain ⟨fd45, F45⟩ := c.d.def_ 45 (d := dd "_law_one" 76) rfl
  obtain ⟨fd46, F46⟩ := c.d.def_ 46 (d := dd "_law_alike" 77) rfl
  obtain ⟨fd47, F47⟩ := c.d.def_ 47 (d := dd "_law_joined" 78) rfl
  obtain ⟨fd48, F48⟩ := c.d.def_ 48 (d := dd "_law_wrong" 79) rfl
  obtain ⟨fd49, F49⟩ := c.d.def_ 49 (d := dd "law" 80) rfl
  have e := hfa1.symm.trans (He.glo_ok X G (c.d.fact 49 (f := .glo "law") rfl))
  cases e
  have b := FunD.bindsA (ps := ["script"]) F49 fun _ _ _ _ _ _ us hl => match us, hl with | [_], _ => rfl
  refine ⟨fd49, tc, tP, ht1, ht2, fun s v => b s [v] rfl, fun base hb1 hb2 hTB => ?_⟩
  have O_is_int : FnOk P w K mg base (L2N.CX P w) (1) _ fd0 ["value"] (spD ⟨K, mg⟩ F_is_int 1) := ok_is_int T F0   
  have D_is_int : Df P w K mg base "is_int" ["value"] F_is_int 1 := df_mk F0 (He.glo_ok X G (c.d.fact 0 (f := .glo "is_int") rfl)) (F0.bindsN fun _ _ _ _ _ _ us hl => match us, hl with | [_], _ => rfl) O_is_int
  have O_is_between : FnOk P w K mg base (L2N.CX P w) (2) _ fd1 ["value", "least", "greatest"] (spD ⟨K, mg⟩ F_is_between 3) := ok_is_between T F1 D_is_int  
  have D_is_between : Df P w K mg base "is_between" ["value", "least", "greatest"] F_is_between 2 := df_mk F1 (He.glo_ok X G (c.d.fact 1 (f := .glo "is_between") rfl)) (F1.bindsN fun _ _ _ _ _ _ us hl => match us, hl with | [_, _, _], _ => rfl) O_is_between
  have O_is_bit : FnOk P w K mg base (L2N.CX P w) (3) _ fd2 ["value"] (spD ⟨K, mg⟩ F_is_bit 1) := ok_is_bit T F2 D_is_between  
  have D_is_bit : Df P w K mg base "is_bit" ["value"] F_is_bit 3 := df_mk F2 (He.glo_ok X G (c.d.fact 2 (f := .glo "is_bit") rfl)) (F2.bindsN fun _ _ _ _ _ _ us hl => match us, hl with | [_], _ => rfl) O_is_bit
  have O_is_tuple_of : FnOk P w K mg base (L2N.CX P w) (1) _ fd3 ["value", "length"] (spD ⟨K, mg⟩ F_is_tuple_of 2) := ok_is_tuple_of T F3   
  have D_is_tuple_of : Df P w K mg base "is_tuple_of" ["value", "length"] F_is_tuple_of 1 := df_mk F3 (He.glo_ok X G (c.d.fact 3 (f := .glo "is_tuple_of") rfl)) (F3.bindsN fun _ _ _ _ _ _ us hl => match us, hl with | [_, _], _ => rfl) O_is_tuple_of
  have O_is_row : FnOk P w K mg base (L2N.CX P w) (1) _ fd4 ["value"] (spD ⟨K, mg⟩ F_is_row 1) := ok_is_row T F4   
  have D_is_row : Df P w K mg base "is_row" ["value"] F_is_row 1 := df_mk F4 (He.glo_ok X G (c.d.fact 4 (f := .glo "is_row") rfl)) (F4.bindsN fun _ _ _ _ _ _ us hl => match us, hl with | [_], _ => rfl) O_is_row
  have O_is_all : FnOk P w K mg base (L2N.CX P w) (1) _ fd5 ["row", "signs"] (spD ⟨K, mg⟩ F_is_all 2) := ok_is_all T F5   
  have D_is_all : Df P w K mg base "is_all" ["row", "signs"] F_is_all 1 := df_mk F5 (He.glo_ok X G (c.d.fact 5 (f := .glo "is_all") rfl)) (F5.bindsN fun _ _ _ _ _ _ us hl => match us, hl with | [_, _], _ => rfl) O_is_all
  have O_is_word : FnOk P w K mg base (L2N.CX P w) (1) _ fd6 ["row"] (spD ⟨K, mg⟩ F_is_word 1) := ok_is_word T F6   
  have D_is_word : Df P w K mg base "is_word" ["row"] F_is_word 1 := df_mk F6 (He.glo_ok X G (c.d.fact 6 (f := .glo "is_word") rfl)) (F6.bindsN fun _ _ _ _ _ _ us hl => match us, hl with | [_], _ => rfl) O_is_word
  have O_is_small_row : FnOk P w K mg base (L2N.CX P w) (2) _ fd7 ["row"] (spD ⟨K, mg⟩ F_is_small_row 1) := ok_is_small_row T F7 D_is_all  
  have D_is_small_row : Df P w K mg base "is_small_row" ["row"] F_is_small_row 2 := df_mk F7 (He.glo_ok X G (c.d.fact 7 (f := .glo "is_small_row") rfl)) (F7.bindsN fun _ _ _ _ _ _ us hl => match us, hl with | [_], _ => rfl) O_is_small_row
  have O_is_small_name : FnOk P w K mg base (L2N.CX P w) (3) _ fd8 ["row"] (spD ⟨K, mg⟩ F_is_small_name 1) := ok_is_small_name T F8 D_is_small_row D_is_word  
  have D_is_small_name : Df P w K mg base "is_small_name" ["row"] F_is_small_name 3 := df_mk F8 (He.glo_ok X G (c.d.fact 8 (f := .glo "is_small_name") rfl)) (F8.bindsN fun _ _ _ _ _ _ us hl => match us, hl with | [_], _ => rfl) O_is_small_name
  have O_is_great_name : FnOk P w K mg base (L2N.CX P w) (2) _ fd9 ["row"] (spD ⟨K, mg⟩ F_is_great_name 1) := ok_is_great_name T F9 D_is_all  
  have D_is_great_name : Df P w K mg base "is_great_name" ["row"] F_is_great_name 2 := df_mk F9 (He.glo_ok X G (c.d.fact 9 (f := .glo "is_great_name") rfl)) (F9.bindsN fun _ _ _ _ _ _ us hl => match us, hl with | [_], _ => rfl) O_is_great_name
  have O_is_told_name : FnOk P w K mg base (L2N.CX P w) (4) _ fd10 ["value"] (spD ⟨K, mg⟩ F_is_told_name 1) := ok_is_told_name T F10 D_is_small_name  
  have D_is_told_name : Df P w K mg base "is_told_name" ["value"] F_is_told_name 4 := df_mk F10 (He.glo_ok X G (c.d.fact 10 (f := .glo "is_told_name") rfl)) (F10.bindsN fun _ _ _ _ _ _ us hl => match us, hl with | [_], _ => rfl) O_is_told_name
  have O_is_told_great : FnOk P w K mg base (L2N.CX P w) (3) _ fd11 ["value"] (spD ⟨K, mg⟩ F_is_told_great 1) := ok_is_told_great T F11 D_is_great_name  
  have D_is_told_great : Df P w K mg base "is_told_great" ["value"] F_is_told_great 3 := df_mk F11 (He.glo_ok X G (c.d.fact 11 (f := .glo "is_told_great") rfl)) (F11.bindsN fun _ _ _ _ _ _ us hl => match us, hl with | [_], _ => rfl) O_is_told_great
  have O_is_told_number : FnOk P w K mg base (L2N.CX P w) (3) _ fd12 ["value"] (spD ⟨K, mg⟩ F_is_told_number 1) := ok_is_told_number T F12 D_is_between  
  have D_is_told_number : Df P w K mg base "is_told_number" ["value"] F_is_told_number 3 := df_mk F12 (He.glo_ok X G (c.d.fact 12 (f := .glo "is_told_number") rfl)) (F12.bindsN fun _ _ _ _ _ _ us hl => match us, hl with | [_], _ => rfl) O_is_told_number
  have O_is_told_range : FnOk P w K mg base (L2N.CX P w) (4) _ fd13 ["value"] (spD ⟨K, mg⟩ F_is_told_range 1) := ok_is_told_range T F13 D_is_tuple_of D_is_told_number  
  have D_is_told_range : Df P w K mg base "is_told_range" ["value"] F_is_told_range 4 := df_mk F13 (He.glo_ok X G (c.d.fact 13 (f := .glo "is_told_range") rfl)) (F13.bindsN fun _ _ _ _ _ _ us hl => match us, hl with | [_], _ => rfl) O_is_told_range
  have O_is_told_rule : FnOk P w K mg base (L2N.CX P w) (5) _ fd14 ["value"] (spD ⟨K, mg⟩ F_is_told_rule 1) := ok_is_told_rule T F14 D_is_tuple_of D_is_bit D_is_told_range  
  have D_is_told_rule : Df P w K mg base "is_told_rule" ["value"] F_is_told_rule 5 := df_mk F14 (He.glo_ok X G (c.d.fact 14 (f := .glo "is_told_rule") rfl)) (F14.bindsN fun _ _ _ _ _ _ us hl => match us, hl with | [_], _ => rfl) O_is_told_rule
  have O_are_told_rules : FnOk P w K mg base (L2N.CX P w) (6) _ fd15 ["value"] (spD ⟨K, mg⟩ F_are_told_rules 1) := ok_are_told_rules T F15 D_is_told_rule  
  have D_are_told_rules : Df P w K mg base "are_told_rules" ["value"] F_are_told_rules 6 := df_mk F15 (He.glo_ok X G (c.d.fact 15 (f := .glo "are_told_rules") rfl)) (F15.bindsN fun _ _ _ _ _ _ us hl => match us, hl with | [_], _ => rfl) O_are_told_rules
  have O_is_net : FnOk P w K mg base (L2N.CX P w) (5) _ fd16 ["item"] (spD ⟨K, mg⟩ F_is_net 1) := ok_is_net T F16 D_is_told_name  
  have D_is_net : Df P w K mg base "is_net" ["item"] F_is_net 5 := df_mk F16 (He.glo_ok X G (c.d.fact 16 (f := .glo "is_net") rfl)) (F16.bindsN fun _ _ _ _ _ _ us hl => match us, hl with | [_], _ => rfl) O_is_net
  have O_is_host : FnOk P w K mg base (L2N.CX P w) (5) _ fd17 ["item"] (spD ⟨K, mg⟩ F_is_host 1) := ok_is_host T F17 D_is_told_name  
  have D_is_host : Df P w K mg base "is_host" ["item"] F_is_host 5 := df_mk F17 (He.glo_ok X G (c.d.fact 17 (f := .glo "is_host") rfl)) (F17.bindsN fun _ _ _ _ _ _ us hl => match us, hl with | [_], _ => rfl) O_is_host
  have O_is_door : FnOk P w K mg base (L2N.CX P w) (5) _ fd18 ["item"] (spD ⟨K, mg⟩ F_is_door 1) := ok_is_door T F18 D_is_told_name D_is_told_number D_is_bit  
  have D_is_door : Df P w K mg base "is_door" ["item"] F_is_door 5 := df_mk F18 (He.glo_ok X G (c.d.fact 18 (f := .glo "is_door") rfl)) (F18.bindsN fun _ _ _ _ _ _ us hl => match us, hl with | [_], _ => rfl) O_is_door
  have O_is_open : FnOk P w K mg base (L2N.CX P w) (5) _ fd19 ["item"] (spD ⟨K, mg⟩ F_is_open 1) := ok_is_open T F19 D_is_told_name D_is_told_number  
  have D_is_open : Df P w K mg base "is_open" ["item"] F_is_open 5 := df_mk F19 (He.glo_ok X G (c.d.fact 19 (f := .glo "is_open") rfl)) (F19.bindsN fun _ _ _ _ _ _ us hl => match us, hl with | [_], _ => rfl) O_is_open
  have O_is_wall : FnOk P w K mg base (L2N.CX P w) (7) _ fd20 ["item"] (spD ⟨K, mg⟩ F_is_wall 1) := ok_is_wall T F20 D_is_told_great D_are_told_rules  
  have D_is_wall : Df P w K mg base "is_wall" ["item"] F_is_wall 7 := df_mk F20 (He.glo_ok X G (c.d.fact 20 (f := .glo "is_wall") rfl)) (F20.bindsN fun _ _ _ _ _ _ us hl => match us, hl with | [_], _ => rfl) O_is_wall
  have O_is_item : FnOk P w K mg base (L2N.CX P w) (8) _ fd21 ["value"] (spD ⟨K, mg⟩ F_is_item 1) := ok_is_item T F21 D_is_net D_is_host D_is_door D_is_open D_is_wall  
  have D_is_item : Df P w K mg base "is_item" ["value"] F_is_item 8 := df_mk F21 (He.glo_ok X G (c.d.fact 21 (f := .glo "is_item") rfl)) (F21.bindsN fun _ _ _ _ _ _ us hl => match us, hl with | [_], _ => rfl) O_is_item
  have O_is_port_number : FnOk P w K mg base (L2N.CX P w) (1) _ fd22 ["number"] (spD ⟨K, mg⟩ F_is_port_number 1) := ok_is_port_number T F22   
  have D_is_port_number : Df P w K mg base "is_port_number" ["number"] F_is_port_number 1 := df_mk F22 (He.glo_ok X G (c.d.fact 22 (f := .glo "is_port_number") rfl)) (F22.bindsN fun _ _ _ _ _ _ us hl => match us, hl with | [_], _ => rfl) O_is_port_number
  have O_has_fit_numbers : FnOk P w K mg base (L2N.CX P w) (2) _ fd23 ["door"] (spD ⟨K, mg⟩ F_has_fit_numbers 1) := ok_has_fit_numbers T F23 D_is_port_number  
  have D_has_fit_numbers : Df P w K mg base "has_fit_numbers" ["door"] F_has_fit_numbers 2 := df_mk F23 (He.glo_ok X G (c.d.fact 23 (f := .glo "has_fit_numbers") rfl)) (F23.bindsN fun _ _ _ _ _ _ us hl => match us, hl with | [_], _ => rfl) O_has_fit_numbers
  have O_is_name : FnOk P w K mg base (L2N.CX P w) (5) _ fd24 ["value"] (spD ⟨K, mg⟩ F_is_name 1) := ok_is_name T F24 D_is_told_name  
  have D_is_name : Df P w K mg base "is_name" ["value"] F_is_name 5 := df_mk F24 (He.glo_ok X G (c.d.fact 24 (f := .glo "is_name") rfl)) (F24.bindsN fun _ _ _ _ _ _ us hl => match us, hl with | [_], _ => rfl) O_is_name
  have O_is_port : FnOk P w K mg base (L2N.CX P w) (3) _ fd25 ["value"] (spD ⟨K, mg⟩ F_is_port 1) := ok_is_port T F25 D_is_between  
  have D_is_port : Df P w K mg base "is_port" ["value"] F_is_port 3 := df_mk F25 (He.glo_ok X G (c.d.fact 25 (f := .glo "is_port") rfl)) (F25.bindsN fun _ _ _ _ _ _ us hl => match us, hl with | [_], _ => rfl) O_is_port
  have O_is_end : FnOk P w K mg base (L2N.CX P w) (6) _ fd26 ["value"] (spD ⟨K, mg⟩ F_is_end 1) := ok_is_end T F26 D_is_tuple_of D_is_name D_is_port  
  have D_is_end : Df P w K mg base "is_end" ["value"] F_is_end 6 := df_mk F26 (He.glo_ok X G (c.d.fact 26 (f := .glo "is_end") rfl)) (F26.bindsN fun _ _ _ _ _ _ us hl => match us, hl with | [_], _ => rfl) O_is_end
  have O_is_door_of_a_plan : FnOk P w K mg base (L2N.CX P w) (9) _ fd27 ["value"] (spD ⟨K, mg⟩ F_is_door_of_a_plan 1) := ok_is_door_of_a_plan T F27 D_is_item D_has_fit_numbers  
  have D_is_door_of_a_plan : Df P w K mg base "is_door_of_a_plan" ["value"] F_is_door_of_a_plan 9 := df_mk F27 (He.glo_ok X G (c.d.fact 27 (f := .glo "is_door_of_a_plan") rfl)) (F27.bindsN fun _ _ _ _ _ _ us hl => match us, hl with | [_], _ => rfl) O_is_door_of_a_plan
  have O_is_open_of : FnOk P w K mg base (L2N.CX P w) (7) _ fd28 ["door", "value"] (spD ⟨K, mg⟩ F_is_open_of 2) := ok_is_open_of T F28 D_is_tuple_of D_is_between D_is_end  
  have D_is_open_of : Df P w K mg base "is_open_of" ["door", "value"] F_is_open_of 7 := df_mk F28 (He.glo_ok X G (c.d.fact 28 (f := .glo "is_open_of") rfl)) (F28.bindsN fun _ _ _ _ _ _ us hl => match us, hl with | [_, _], _ => rfl) O_is_open_of
  have O_are_opens_of : FnOk P w K mg base (L2N.CX P w) (8) _ fd29 ["door", "value"] (spD ⟨K, mg⟩ F_are_opens_of 2) := ok_are_opens_of T F29 D_is_open_of  
  have D_are_opens_of : Df P w K mg base "are_opens_of" ["door", "value"] F_are_opens_of 8 := df_mk F29 (He.glo_ok X G (c.d.fact 29 (f := .glo "are_opens_of") rfl)) (F29.bindsN fun _ _ _ _ _ _ us hl => match us, hl with | [_, _], _ => rfl) O_are_opens_of
  have O_is_table : FnOk P w K mg base (L2N.CX P w) (10) _ fd30 ["value"] (spD ⟨K, mg⟩ F_is_table 1) := ok_is_table T F30 D_is_tuple_of D_is_door_of_a_plan D_are_opens_of  
  have D_is_table : Df P w K mg base "is_table" ["value"] F_is_table 10 := df_mk F30 (He.glo_ok X G (c.d.fact 30 (f := .glo "is_table") rfl)) (F30.bindsN fun _ _ _ _ _ _ us hl => match us, hl with | [_], _ => rfl) O_is_table
  have O_ports_of : FnOk P w K mg base (L2N.CX P w) (1) _ fd31 ["table"] (spD ⟨K, mg⟩ F_ports_of 1) := ok_ports_of T F31   
  have D_ports_of : Df P w K mg base "ports_of" ["table"] F_ports_of 1 := df_mk F31 (He.glo_ok X G (c.d.fact 31 (f := .glo "ports_of") rfl)) (F31.bindsN fun _ _ _ _ _ _ us hl => match us, hl with | [_], _ => rfl) O_ports_of
  have O_check_table : FnOk P w K mg base (L2N.CX P w) (11) _ fd32 ["value"] (spD ⟨K, mg⟩ F_check_table 1) := ok_check_table T F32 D_is_table  
  have D_check_table : Df P w K mg base "check_table" ["value"] F_check_table 11 := df_mk F32 (He.glo_ok X G (c.d.fact 32 (f := .glo "check_table") rfl)) (F32.bindsN fun _ _ _ _ _ _ us hl => match us, hl with | [_], _ => rfl) O_check_table
  have O_strictest : FnOk P w K mg base (L2N.CX P w) (12) _ fd33 ["inner", "outer"] (spD ⟨K, mg⟩ F_strictest 2) := ok_strictest T F33 D_check_table  
  have D_strictest : Df P w K mg base "strictest" ["inner", "outer"] F_strictest 12 := df_mk F33 (He.glo_ok X G (c.d.fact 33 (f := .glo "strictest") rfl)) (F33.bindsN fun _ _ _ _ _ _ us hl => match us, hl with | [_, _], _ => rfl) O_strictest
  have O_is_stricter : FnOk P w K mg base (L2N.CX P w) (12) _ fd34 ["one", "other"] (spD ⟨K, mg⟩ F_is_stricter 2) := ok_is_stricter T F34 D_check_table  
  have D_is_stricter : Df P w K mg base "is_stricter" ["one", "other"] F_is_stricter 12 := df_mk F34 (He.glo_ok X G (c.d.fact 34 (f := .glo "is_stricter") rfl)) (F34.bindsN fun _ _ _ _ _ _ us hl => match us, hl with | [_, _], _ => rfl) O_is_stricter
  have O_check_plain : FnOk P w K mg base (L2N.CX P w) (12) _ fd35 ["table"] (spD ⟨K, mg⟩ F_check_plain 1) := ok_check_plain T F35 D_check_table D_ports_of  
  have D_check_plain : Df P w K mg base "check_plain" ["table"] F_check_plain 12 := df_mk F35 (He.glo_ok X G (c.d.fact 35 (f := .glo "check_plain") rfl)) (F35.bindsN fun _ _ _ _ _ _ us hl => match us, hl with | [_], _ => rfl) O_check_plain
  have O_check_row_of_doors : FnOk P w K mg base (L2N.CX P w) (13) _ fd36 ["tables"] (spD ⟨K, mg⟩ F_check_row_of_doors 1) := ok_check_row_of_doors T F36 D_is_row D_check_plain  
  have D_check_row_of_doors : Df P w K mg base "check_row_of_doors" ["tables"] F_check_row_of_doors 13 := df_mk F36 (He.glo_ok X G (c.d.fact 36 (f := .glo "check_row_of_doors") rfl)) (F36.bindsN fun _ _ _ _ _ _ us hl => match us, hl with | [_], _ => rfl) O_check_row_of_doors
  have O_do_as_one : FnOk P w K mg base (L2N.CX P w) (1) _ fd37 ["inner", "outer"] (spD ⟨K, mg⟩ F_do_as_one 2) := ok_do_as_one T F37   
  have D_do_as_one : Df P w K mg base "do_as_one" ["inner", "outer"] F_do_as_one 1 := df_mk F37 (He.glo_ok X G (c.d.fact 37 (f := .glo "do_as_one") rfl)) (F37.bindsN fun _ _ _ _ _ _ us hl => match us, hl with | [_, _], _ => rfl) O_do_as_one
  have O_first_pair : FnOk P w K mg base (L2N.CX P w) (2) _ fd38 ["tables"] (spD ⟨K, mg⟩ F_first_pair 1) := ok_first_pair T F38 D_do_as_one  
  have D_first_pair : Df P w K mg base "first_pair" ["tables"] F_first_pair 2 := df_mk F38 (He.glo_ok X G (c.d.fact 38 (f := .glo "first_pair") rfl)) (F38.bindsN fun _ _ _ _ _ _ us hl => match us, hl with | [_], _ => rfl) O_first_pair
  have O_join_doors : FnOk P w K mg base (L2N.CX P w) (14) _ fd39 ["tables"] (spD ⟨K, mg⟩ F_join_doors 1) := ok_join_doors T F39 D_check_row_of_doors D_first_pair D_strictest  
  have D_join_doors : Df P w K mg base "join_doors" ["tables"] F_join_doors 14 := df_mk F39 (He.glo_ok X G (c.d.fact 39 (f := .glo "join_doors") rfl)) (F39.bindsN fun _ _ _ _ _ _ us hl => match us, hl with | [_], _ => rfl) O_join_doors
  have O__law_numbers : FnOk P w K mg base (L2N.CX P w) (1) _ fd40 ["script", "at", "count"] (spD ⟨K, mg⟩ F__law_numbers 3) := ok__law_numbers T F40   
  have D__law_numbers : Df P w K mg base "_law_numbers" ["script", "at", "count"] F__law_numbers 1 := df_mk F40 (He.glo_ok X G (c.d.fact 40 (f := .glo "_law_numbers") rfl)) (F40.bindsN fun _ _ _ _ _ _ us hl => match us, hl with | [_, _, _], _ => rfl) O__law_numbers
  have O__law_pick : FnOk P w K mg base (L2N.CX P w) (1) _ fd41 ["numbers", "at", "count"] (spD ⟨K, mg⟩ F__law_pick 3) := ok__law_pick T F41   
  have D__law_pick : Df P w K mg base "_law_pick" ["numbers", "at", "count"] F__law_pick 1 := df_mk F41 (He.glo_ok X G (c.d.fact 41 (f := .glo "_law_pick") rfl)) (F41.bindsN fun _ _ _ _ _ _ us hl => match us, hl with | [_, _, _], _ => rfl) O__law_pick
  have D__law_like : Df P w K mg base "_law_like" ["told", "due"] (Fp_like 9) 9 := df_mk F42 (He.glo_ok X G (c.d.fact 42 (f := .glo "_law_like") rfl)) (F42.bindsN fun _ _ _ _ _ _ us hl => match us, hl with | [_, _], _ => rfl) (rec__law_like T F42 (He.glo_ok X G (c.d.fact 42 (f := .glo "_law_like") rfl)) (F42.bindsN fun _ _ _ _ _ _ us hl => match us, hl with | [_, _], _ => rfl)  9)
  have L__law_told : DfL P w K mg base "_law_told" ["call"] F__law_told 15 16 := ⟨_, fd43, He.glo_ok X G (c.d.fact 43 (f := .glo "_law_told") rfl), F43.kp, F43.bindsN fun _ _ _ _ _ _ us hl => match us, hl with | [_], _ => rfl, ok__law_told T F43   ⟩
  have O__law_table : FnOk P w K mg base (L2N.CX P w) (2) _ fd44 ["numbers", "at", "maps", "lets"] (spD ⟨K, mg⟩ F__law_table 4) := ok__law_table T F44 D__law_pick  
  have D__law_table : Df P w K mg base "_law_table" ["numbers", "at", "maps", "lets"] F__law_table 2 := df_mk F44 (He.glo_ok X G (c.d.fact 44 (f := .glo "_law_table") rfl)) (F44.bindsN fun _ _ _ _ _ _ us hl => match us, hl with | [_, _, _, _], _ => rfl) O__law_table
  have O__law_one : FnOk P w K mg base (L2N.CX P w) (1) _ fd45 ["inner", "outer"] (spD ⟨K, mg⟩ F__law_one 2) := ok__law_one T F45   
  have D__law_one : Df P w K mg base "_law_one" ["inner", "outer"] F__law_one 1 := df_mk F45 (He.glo_ok X G (c.d.fact 45 (f := .glo "_law_one") rfl)) (F45.bindsN fun _ _ _ _ _ _ us hl => match us, hl with | [_, _], _ => rfl) O__law_one
  have O__law_alike : FnOk P w K mg base (L2N.CX P w) (1) _ fd46 ["inner", "outer"] (spD ⟨K, mg⟩ F__law_alike 2) := ok__law_alike T F46   
  have D__law_alike : Df P w K mg base "_law_alike" ["inner", "outer"] F__law_alike 1 := df_mk F46 (He.glo_ok X G (c.d.fact 46 (f := .glo "_law_alike") rfl)) (F46.bindsN fun _ _ _ _ _ _ us hl => match us, hl with | [_, _], _ => rfl) O__law_alike
  have O__law_joined : FnOk P w K mg base (L2N.CX P w) (2) _ fd47 ["tables"] (spD ⟨K, mg⟩ F__law_joined 1) := ok__law_joined T F47 D__law_alike D__law_one  
  have D__law_joined : Df P w K mg base "_law_joined" ["tables"] F__law_joined 2 := df_mk F47 (He.glo_ok X G (c.d.fact 47 (f := .glo "_law_joined") rfl)) (F47.bindsN fun _ _ _ _ _ _ us hl => match us, hl with | [_], _ => rfl) O__law_joined
  have O__law_wrong : FnOk P w K mg base (L2N.CX P w) (1) _ fd48 ["table", "kind"] (spD ⟨K, mg⟩ F__law_wrong 2) := ok__law_wrong T F48   
  have D__law_wrong : Df P w K mg base "_law_wrong" ["table", "kind"] F__law_wrong 1 := df_mk F48 (He.glo_ok X G (c.d.fact 48 (f := .glo "_law_wrong") rfl)) (F48.bindsN fun _ _ _ _ _ _ us hl => match us, hl with | [_, _], _ => rfl) O__law_wrong
  exact ok_law T ⟨tc, tP, ht1, hTB⟩ hb1 hb2 (He.glo_ok X G (c.d.fact 49 (f := .glo "law") rfl)) F49 D__law_numbers D__law_table D__law_joined D__law_like D_join_doors D__law_pick D_strictest D__law_one D_is_stricter D__law_wrong  L__law_told

end Law
open PySem PySem.W PySem.Calls PyProof.Rows
set_option maxRecDepth 100000 in
set_option maxHeartbeats 0 in
theorem PySem.Challenge.cw_holesmet_k86_doors_joined_in_rows_holds : PySem.Challenge.rw_holesmet_k86_doors_joined_in_rows.Holds := by
  w_on; o_law
  refine HandSHeadRun.head_any (r := OpenLaw.row PySem.Challenge.rw_holesmet_k86_doors_joined_in_rows) (q := view (OpenLaw.row PySem.Challenge.rw_holesmet_k86_doors_joined_in_rows).prog [80]) (H := Law.hk) (ob := Law.ob) (M := 4000) (loose := Law.loose) (d := HandSHeadRun.topDef (OpenLaw.row PySem.Challenge.rw_holesmet_k86_doors_joined_in_rows).prog 80) (kwd := []) Law.ob_eq
    (by kernel_rfl) (fun s => by kernel_rfl) Law.run (by kernel_rfl) (by kernel_rfl) (by kernel_rfl) (by rfl) (by first | assumption | decide +kernel) (by decide +kernel) ⟨rfl, rfl, rfl, rfl, rfl, by decide +kernel⟩ ?hw ?hc
  case hw => w_witness2
  case hc =>
    refine Fl.walk_ofXT (l := PySem.Challenge.rw_holesmet_k86_doors_joined_in_rows) (n := 63) (k := 17) (x := "script") (y := "law") (dd := HandSHeadRun.topDef (OpenLaw.row PySem.Challenge.rw_holesmet_k86_doors_joined_in_rows).prog 80) (CX := fun w => L2N.CX (PySem.Challenge.rw_holesmet_k86_doors_joined_in_rows).prog w) rfl (by decide) (by kernel_rfl) ⟨rfl, by decide, by decide⟩ (by kernel_rfl) ?F ?G
    case G =>
      rintro w H s e s' ⟨_, _, _, _, _, _, _, _, _, _, _, _, z⟩
      exact z
    case F =>
      intro w mg fa h Y G hmg0
      obtain ⟨K, KX, c⟩ := Y
      have hmg : mg ("law" : PySem.Str) = some (.ref fa) := by
        have e : (HandSHeadRun.topDef (OpenLaw.row PySem.Challenge.rw_holesmet_k86_doors_joined_in_rows).prog 80).name = ("law" : PySem.Str) := by kernel_rfl
        rw [← e]
        exact hmg0
      obtain ⟨fd, tc, tP, h1, h2, hb, hF⟩ := Law.facts (P := (PySem.Challenge.rw_holesmet_k86_doors_joined_in_rows).prog) (w := w) KX G hmg c
      exact ⟨K, fd, _, tc, tP, KX, h1, h2, hb, fun H a ns hl hO hS => Fl.law_specT h1 Law.law_true H a ns hl hO hS, hF⟩
#print axioms PySem.Challenge.cw_holesmet_k86_doors_joined_in_rows_holds

