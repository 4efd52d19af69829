import PyProof.Rows.All
import Wide.All
import OpenK.AllK
import Wide.FinOn
import HandS.ForMost
import HandS.ForExc
import HandS.Flow
import HandS.CallSlots
import HandS.Lambda
import HandS.ExcCtx
import HandS.Dict
import HandS.Wide
import HandS.IsInst
import HandS.TupAny
import HandS.Style
import HandS.Deep
import HandS.Defaults
import HandS.HeadEnd
import HandS.HeadHook1
import HandS.HeadHook2
import HandS.HeadHook3
import HandS.Head0
import HandS.Head1
import HandS.Head2
import HandS.Conv
import KE.KMathG
import KE.KMathGC
import HandS.FStr
import HandS.Text
import HandS.More
import HandS.List
import HandS.Exc
import HandS.ExcIs
import KE.KExcIs
import HandS.ExcInit
import HandS.EndTab
import HandS.HotCalls
import PyProof.EnumMake
import KE.GoesMore
import HandS.Iter
import HandS.SortInts
import HandS.WideBits
import HandS.TupMul
import HandS.ExcField
import PySem.Challenge.RW_holesmet_k73_hidden_and_idle_rules
set_option Elab.async false
set_option linter.all false
set_option maxRecDepth 100000
/-! Fl, part A: data, what they stand for, readings over plain functions. -/
namespace Fl
open PySem PySem.Spec L2
set_option autoImplicit false

/-- pure data -/
inductive P where
  | non | bl (b : Bool) | int (i : Int) | str (x : Str) | tup (xs : List P)
/-- a lambda: the function object, its code object and name; how the store, the abstract heap, the heap and the frames stood when it was made -/
structure LamI where
  f : Nat
  c : Nat
  q : Str
  ν : List Addr
  H0 : Hp
  h0 : Heap
  F : List Addr
/-- data: pure, a place in the store, a tuple with places in it, what a name of the module stands for -/
inductive D where
  | p (x : P) | ref (l : Nat) | tup (xs : List D) | gl (x : Str)
  /-- an exception that a suite holds; a lambda, its code object and name -/
  | exv (a : Nat) | lam (i : LamI)
  /-- an exception that a suite holds, its dict, its own fields -/
  | exf (a d : Nat) (fs : List (Str × P))
/-- what stands at a place -/
inductive O where
  | lst (xs : List D) | ro (xs : List D) | ins (c : Str) (fs : List (Str × D))
  /-- dicts by ints and texts, by tuples of them; the table of code objects of the def x -/
  | dk (kvs : List (L2.Key × D)) | dt (kvs : List (List L2.Key × D)) | tab (x : Str)
  /-- dicts that are walked over and must stay -/
  | rod (kvs : List (L2.Key × D)) | rodt (kvs : List (List L2.Key × D))
abbrev Env := List (Option D)
abbrev Store := List O

def dicty : HO → Bool
  | .dK _ => true
  | .dT _ => true
  | _ => false
/-- the heap grew or changed, tuples and locked things (but dicts) stay -/
structure ExtW (H H' : Hp) : Prop where
  tup : ∀ a xs, H a = some (.tup xs) → H' a = some (.tup xs)
  frz : ∀ a o u, dicty u = false → H a = some (.frz o u) → H' a = some (.frz o u)
  ext : ∀ a φ, H a = some (.ext φ) → H' a = some (.ext φ)
  /-- the fields of errors -/
  xd : ∀ a fs, H a = some (.xd fs) → H' a = some (.xd fs)
/-- .. and locked dicts -/
structure Ext (H H' : Hp) : Prop where
  w : ExtW H H'
  fz : ∀ a o u, H a = some (.frz o u) → H' a = some (.frz o u)
theorem ExtW.refl (H : Hp) : ExtW H H := ⟨fun _ _ h => h, fun _ _ _ _ h => h, fun _ _ h => h, fun _ _ h => h⟩
theorem ExtW.trans {H H1 H2 : Hp} (a : ExtW H H1) (b : ExtW H1 H2) : ExtW H H2 := ⟨fun c x h => b.tup c x (a.tup c x h), fun c o u d h => b.frz c o u d (a.frz c o u d h), fun c u h => b.ext c u (a.ext c u h), fun c u h => b.xd c u (a.xd c u h)⟩
theorem Ext.refl (H : Hp) : Ext H H := ⟨.refl H, fun _ _ _ h => h⟩
theorem Ext.trans {H H1 H2 : Hp} (a : Ext H H1) (b : Ext H1 H2) : Ext H H2 := ⟨a.w.trans b.w, fun c o u h => b.fz c o u (a.fz c o u h)⟩
theorem Ext.new {H : Hp} {p : Addr} {o : HO} (h : H p = none) : Ext H (upd H p o) :=
  ⟨⟨fun a xs e => by rw [upd_ne (ne_of_none e h)]; exact e, fun a ob u _ e => by rw [upd_ne (ne_of_none e h)]; exact e, fun a u e => by rw [upd_ne (ne_of_none e h)]; exact e, fun a u e => by rw [upd_ne (ne_of_none e h)]; exact e⟩, fun a ob u e => by rw [upd_ne (ne_of_none e h)]; exact e⟩
theorem Ext.of_ne {H : Hp} {p : Addr} {x o : HO} (h : H p = some x) (h1 : ∀ xs, x ≠ .tup xs) (h2 : ∀ ob u, x ≠ .frz ob u) (h3 : ∀ φ, x ≠ .ext φ) (h4 : ∀ fs, x ≠ .xd fs) : Ext H (upd H p o) :=
  ⟨⟨fun a ys e => by rw [upd_ne (ne_of e h (fun z => h1 _ z.symm))]; exact e, fun a ob u d e => by rw [upd_ne (ne_of e h (fun z => h2 _ _ z.symm))]; exact e, fun a u e => by rw [upd_ne (ne_of e h (fun z => h3 _ z.symm))]; exact e, fun a u e => by rw [upd_ne (ne_of e h (fun z => h4 _ z.symm))]; exact e⟩, fun a ob u e => by rw [upd_ne (ne_of e h (fun z => h2 _ _ z.symm))]; exact e⟩
theorem Ext.lst {H : Hp} {p : Addr} {xs : List V} {o : HO} (h : H p = some (.lst xs)) : Ext H (upd H p o) :=
  .of_ne h (fun _ z => by cases z) (fun _ _ z => by cases z) (fun _ z => by cases z) (fun _ z => by cases z)
theorem Ext.ins {H : Hp} {p : Addr} {C dx fs} {o : HO} (h : H p = some (.ins C dx fs)) : Ext H (upd H p o) :=
  .of_ne h (fun _ z => by cases z) (fun _ _ z => by cases z) (fun _ z => by cases z) (fun _ z => by cases z)
theorem Ext.dk {H : Hp} {p : Addr} {kvs} {o : HO} (h : H p = some (.dK kvs)) : Ext H (upd H p o) :=
  .of_ne h (fun _ z => by cases z) (fun _ _ z => by cases z) (fun _ z => by cases z) (fun _ z => by cases z)
theorem Ext.dt {H : Hp} {p : Addr} {kvs} {o : HO} (h : H p = some (.dT kvs)) : Ext H (upd H p o) :=
  .of_ne h (fun _ z => by cases z) (fun _ _ z => by cases z) (fun _ z => by cases z) (fun _ z => by cases z)
theorem ExtW.unlock {H : Hp} {p : Addr} {od u} {o : HO} (h : H p = some (.frz od u)) (d : dicty u = true) : ExtW H (upd H p o) :=
  ⟨fun a ys e => by rw [upd_ne (ne_of e h (fun z => by cases z))]; exact e, fun a ob v n e => by rw [upd_ne (ne_of e h (fun z => by cases z; rw [d] at n; cases n))]; exact e, fun a u e => by rw [upd_ne (ne_of e h (fun z => by cases z))]; exact e, fun a u e => by rw [upd_ne (ne_of e h (fun z => by cases z))]; exact e⟩
/-- locked, walked over, let go again -/
theorem Ext.over {H H' : Hp} {p : Addr} {u o x : HO} (h : H p = some x) (h1 : ∀ xs, x ≠ .tup xs) (h2 : ∀ ob u, x ≠ .frz ob u) (h3 : ∀ φ, x ≠ .ext φ) (h4 : ∀ fs, x ≠ .xd fs) (e : Ext (upd H p u) H') : Ext H (upd H' p o) := by
  have key : ∀ a y, H a = some y → y ≠ x → (upd H' p o) a = H' a ∧ (upd H p u) a = some y := fun a y hy ne => by
    have hne := ne_of hy h ne
    exact ⟨upd_ne hne, by rw [upd_ne hne]; exact hy⟩
  refine ⟨⟨fun a xs q => ?_, fun a ob v d q => ?_, fun a v q => ?_, fun a v q => ?_⟩, fun a ob v q => ?_⟩
  · obtain ⟨k1, k2⟩ := key a _ q (fun z => h1 _ z.symm); rw [k1]; exact e.w.tup _ _ k2
  · obtain ⟨k1, k2⟩ := key a _ q (fun z => h2 _ _ z.symm); rw [k1]; exact e.fz _ _ _ k2
  · obtain ⟨k1, k2⟩ := key a _ q (fun z => h3 _ z.symm); rw [k1]; exact e.w.ext _ _ k2
  · obtain ⟨k1, k2⟩ := key a _ q (fun z => h4 _ z.symm); rw [k1]; exact e.w.xd _ _ k2
  · obtain ⟨k1, k2⟩ := key a _ q (fun z => h2 _ _ z.symm); rw [k1]; exact e.fz _ _ _ k2
/-- all but the tables of code objects stay -/
theorem Ext.extN {H H' : Hp} (h : LamX.ExtN H H') : Ext H H' :=
  ⟨⟨fun a xs e => h a _ e (fun ps z => by cases z), fun a o u _ e => h a _ e (fun ps z => by cases z), fun a u e => h a _ e (fun ps z => by cases z), fun a u e => h a _ e (fun ps z => by cases z)⟩, fun a o u e => h a _ e (fun ps z => by cases z)⟩
mutual
def RepP (K : PySem.W.Frag) (H : Hp) : P → V → Prop
  | .non, v => v = .non
  | .bl b, v => v = .bl b
  | .int i, v => v = .int i
  | .str x, v => v = .str x
  | .tup xs, v => ∃ a vs, v = .ref a ∧ SqT K H a vs ∧ RepPs K H xs vs
def RepPs (K : PySem.W.Frag) (H : Hp) : List P → List V → Prop
  | [], vs => vs = []
  | x :: xs, vs => ∃ v r, vs = v :: r ∧ RepP K H x v ∧ RepPs K H xs r
end
/-- a flat value -/
def flV : P → V
  | .int i => .int i
  | .str x => .str x
  | .bl b => .bl b
  | _ => .non
def flD : D → V
  | .p x => flV x
  | _ => .non
def unP : D → P
  | .p x => x
  | _ => .non
theorem flV_un (d : D) : flV (unP d) = flD d := by cases d <;> rfl
structure Gm where
  K : PySem.W.Frag
  mg : Str → Option Value
mutual
def Rep (G : Gm) (μ : List Addr) (H : Hp) : D → V → Prop
  | .p x, v => RepP G.K H x v
  | .ref l, v => ∃ a, μ[l]? = some a ∧ v = .ref a
  | .tup xs, v => ∃ a vs, v = .ref a ∧ SqT G.K H a vs ∧ Reps G μ H xs vs
  | .gl x, v => ∃ a, G.mg x = some (.ref a) ∧ v = .ref a
  | .exv a, v => v = .ref a
  | .exf a d fs, v => v = .ref a ∧ H d = some (.xd (fs.map fun q => (q.1, flV q.2)))
  | .lam i, v => v = .ref i.f ∧ H i.c = some (LamX.CodeO i.c i.q) ∧ i.ν <+: μ ∧ ExtW i.H0 H
def Reps (G : Gm) (μ : List Addr) (H : Hp) : List D → List V → Prop
  | [], vs => vs = []
  | x :: xs, vs => ∃ v r, vs = v :: r ∧ Rep G μ H x v ∧ Reps G μ H xs r
end
def FsRep {κ : Type} (G : Gm) (μ : List Addr) (H : Hp) : List (κ × D) → List (κ × V) → Prop
  | [], gs => gs = []
  | (f, d) :: fs, gs => ∃ v r, gs = (f, v) :: r ∧ Rep G μ H d v ∧ FsRep G μ H fs r
/-- a list of the written part -/
def KL (K : PySem.W.Frag) (a : Addr) (xs : List V) : Prop :=
  ∃ (o : Obj) (its : Array Value) (n : Nat), K.lookup a = some o ∧ o.cls = .type "list" ∧ o.dict = none ∧ o.data = .seq its n ∧ its.size ≤ sizeLine ∧ Vals xs its.toList
/-- a list that is read and never changed -/
def RoL (K : PySem.W.Frag) (H : Hp) (a : Addr) (xs : List V) : Prop := (∃ o, H a = some (.frz o (.lst xs))) ∨ KL K a xs
theorem RoL.sql {K : PySem.W.Frag} {H : Hp} {a : Addr} {xs : List V} (h : RoL K H a xs) : SqL K H a xs := h.elim (fun h => .inl (.inr h)) fun h => .inr h
def O.isRo : O → Bool
  | .ro _ => true
  | _ => false
/-- the name of a lambda in the def x -/
def lamQ (x : Str) : Str := x ++ ".<locals>." ++ "<lambda>"
def ObjRep (G : Gm) (μ : List Addr) (H : Hp) (a : Addr) : O → Prop
  | .lst xs => ∃ vs, H a = some (.lst vs) ∧ Reps G μ H xs vs
  | .ro xs => ∃ vs, RoL G.K H a vs ∧ Reps G μ H xs vs
  | .ins c fs => ∃ C dx gs, G.mg c = some (.ref C) ∧ H a = some (.ins C dx gs) ∧ FsRep G μ H fs gs
  | .dk kvs => ∃ ws, H a = some (.dK ws) ∧ FsRep G μ H kvs ws
  | .dt kvs => ∃ ws, H a = some (.dT ws) ∧ FsRep G μ H kvs ws
  | .tab x => (∃ c, PySem.W.tabIn G.K x = some (c, a)) ∧ LamX.TabS H a (lamQ x)
  | .rod kvs => ∃ od ws, H a = some (.frz od (.dK ws)) ∧ FsRep G μ H kvs ws
  | .rodt kvs => ∃ od ws, H a = some (.frz od (.dT ws)) ∧ FsRep G μ H kvs ws
structure SR (G : Gm) (μ : List Addr) (H : Hp) (M : Store) : Prop where
  len : μ.length = M.length
  nd : ∀ (i j : Nat) (a : Addr) (x y : O), μ[i]? = some a → μ[j]? = some a → M[i]? = some x → M[j]? = some y → x.isRo = true ∨ y.isRo = true ∨ i = j
  obj : ∀ (l : Nat) (a : Addr) (o : O), μ[l]? = some a → M[l]? = some o → ObjRep G μ H a o
structure ER (G : Gm) (μ : List Addr) (H : Hp) (ρ : Env) (σ : St) : Prop where
  len : ρ.length = σ.length
  at_ : ∀ (i : Nat) (d : D), ρ[i]? = some (some d) → ∃ v, σ[i]? = some (some v) ∧ Rep G μ H d v

theorem ExtW.sqt {K : PySem.W.Frag} {H H' : Hp} (e : ExtW H H') {a : Addr} {xs : List V} (h : SqT K H a xs) : SqT K H' a xs := by
  rcases h with (h | ⟨o, h⟩) | h
  · exact .inl (.inl (e.tup _ _ h))
  · exact .inl (.inr ⟨o, e.frz _ _ _ rfl h⟩)
  · exact .inr h
section
variable {G : Gm} {μ μ' : List Addr} {H H' : Hp}
mutual
theorem RepP.extW {K : PySem.W.Frag} (e : ExtW H H') : ∀ {x : P} {v : V}, RepP K H x v → RepP K H' x v
  | .non, _, h => by simpa only [RepP] using h
  | .bl _, _, h => by simpa only [RepP] using h
  | .int _, _, h => by simpa only [RepP] using h
  | .str _, _, h => by simpa only [RepP] using h
  | .tup xs, _, h => by
    simp only [RepP] at h ⊢
    obtain ⟨a, vs, rfl, h1, h2⟩ := h
    exact ⟨a, vs, rfl, e.sqt h1, RepPs.extW e h2⟩
theorem RepPs.extW {K : PySem.W.Frag} (e : ExtW H H') : ∀ {xs : List P} {vs : List V}, RepPs K H xs vs → RepPs K H' xs vs
  | [], _, h => by simpa only [RepPs] using h
  | x :: xs, _, h => by
    simp only [RepPs] at h ⊢
    obtain ⟨v, r, rfl, h1, h2⟩ := h
    exact ⟨v, r, rfl, RepP.extW e h1, RepPs.extW e h2⟩
end
theorem pre_get {μ μ' : List Addr} (p : μ <+: μ') {l : Nat} {a : Addr} (h : μ[l]? = some a) : μ'[l]? = some a := by
  obtain ⟨t, rfl⟩ := p
  obtain ⟨hl, e⟩ := List.getElem?_eq_some_iff.mp h
  rw [List.getElem?_append_left hl]
  exact h
mutual
theorem Rep.extW (e : ExtW H H') (p : μ <+: μ') : ∀ {x : D} {v : V}, Rep G μ H x v → Rep G μ' H' x v
  | .p x, _, h => by
    simp only [Rep] at h ⊢
    exact RepP.extW e h
  | .ref l, _, h => by
    simp only [Rep] at h ⊢
    obtain ⟨a, h1, h2⟩ := h
    exact ⟨a, pre_get p h1, h2⟩
  | .tup xs, _, h => by
    simp only [Rep] at h ⊢
    obtain ⟨a, vs, rfl, h1, h2⟩ := h
    exact ⟨a, vs, rfl, e.sqt h1, Reps.extW e p h2⟩
  | .gl x, _, h => by
    simpa only [Rep] using h
  | .exv a, _, h => by
    simpa only [Rep] using h
  | .exf a d fs, _, h => by
    simp only [Rep] at h ⊢
    exact ⟨h.1, e.xd _ _ h.2⟩
  | .lam i, _, h => by
    simp only [Rep] at h ⊢
    exact ⟨h.1, e.ext _ _ h.2.1, h.2.2.1.trans p, h.2.2.2.trans e⟩
theorem Reps.extW (e : ExtW H H') (p : μ <+: μ') : ∀ {xs : List D} {vs : List V}, Reps G μ H xs vs → Reps G μ' H' xs vs
  | [], _, h => by simpa only [Reps] using h
  | x :: xs, _, h => by
    simp only [Reps] at h ⊢
    obtain ⟨v, r, rfl, h1, h2⟩ := h
    exact ⟨v, r, rfl, Rep.extW e p h1, Reps.extW e p h2⟩
end
theorem FsRep.extW {κ : Type} (e : ExtW H H') (p : μ <+: μ') : ∀ {fs : List (κ × D)} {gs : List (κ × V)}, FsRep G μ H fs gs → FsRep G μ' H' fs gs
  | [], _, h => h
  | (f, d) :: fs, _, h => by
    obtain ⟨v, r, rfl, h1, h2⟩ := h
    exact ⟨v, r, rfl, Rep.extW e p h1, FsRep.extW e p h2⟩
theorem Ext.sqt {K : PySem.W.Frag} {H H' : Hp} (e : Ext H H') {a : Addr} {xs : List V} (h : SqT K H a xs) : SqT K H' a xs := e.w.sqt h
theorem RepP.ext {K : PySem.W.Frag} (e : Ext H H') {x : P} {v : V} (h : RepP K H x v) : RepP K H' x v := h.extW e.w
theorem RepPs.ext {K : PySem.W.Frag} (e : Ext H H') {xs : List P} {vs : List V} (h : RepPs K H xs vs) : RepPs K H' xs vs := h.extW e.w
theorem Rep.ext (e : Ext H H') (p : μ <+: μ') {x : D} {v : V} (h : Rep G μ H x v) : Rep G μ' H' x v := h.extW e.w p
theorem Reps.ext (e : Ext H H') (p : μ <+: μ') {xs : List D} {vs : List V} (h : Reps G μ H xs vs) : Reps G μ' H' xs vs := h.extW e.w p
theorem FsRep.ext {κ : Type} (e : Ext H H') (p : μ <+: μ') {fs : List (κ × D)} {gs : List (κ × V)} (h : FsRep G μ H fs gs) : FsRep G μ' H' fs gs := h.extW e.w p
theorem Reps.length : ∀ {xs : List D} {vs : List V}, Reps G μ H xs vs → xs.length = vs.length
  | [], _, h => by simp only [Reps] at h; subst h; rfl
  | x :: xs, _, h => by
    simp only [Reps] at h
    obtain ⟨v, r, rfl, h1, h2⟩ := h
    rw [List.length_cons, List.length_cons, Reps.length h2]
theorem RepPs.length {K : PySem.W.Frag} : ∀ {xs : List P} {vs : List V}, RepPs K H xs vs → xs.length = vs.length
  | [], _, h => by simp only [RepPs] at h; subst h; rfl
  | x :: xs, _, h => by
    simp only [RepPs] at h
    obtain ⟨v, r, rfl, h1, h2⟩ := h
    rw [List.length_cons, List.length_cons, RepPs.length h2]
theorem Reps.nil : Reps G μ H [] [] := by simp only [Reps]
theorem Reps.cons {x xs v vs} (h : Rep G μ H x v) (t : Reps G μ H xs vs) : Reps G μ H (x :: xs) (v :: vs) := by
  simp only [Reps]
  exact ⟨v, vs, rfl, h, t⟩
theorem Reps.inv {x xs ws} (h : Reps G μ H (x :: xs) ws) : ∃ v vs, ws = v :: vs ∧ Rep G μ H x v ∧ Reps G μ H xs vs := by
  simpa only [Reps] using h
theorem Reps.inv0 {ws} (h : Reps G μ H [] ws) : ws = [] := by
  simpa only [Reps] using h
theorem Reps.app : ∀ {xs ys : List D} {vs ws : List V}, Reps G μ H xs vs → Reps G μ H ys ws → Reps G μ H (xs ++ ys) (vs ++ ws)
  | [], _, _, _, h, t => by rw [h.inv0]; exact t
  | x :: xs, _, _, _, h, t => by
    obtain ⟨v, r, rfl, h1, h2⟩ := h.inv
    exact .cons h1 (Reps.app h2 t)
theorem Reps.get : ∀ {xs : List D} {vs : List V}, Reps G μ H xs vs → ∀ {i : Nat} {x : D}, xs[i]? = some x → ∃ v, vs[i]? = some v ∧ Rep G μ H x v
  | [], _, _, i, x, e => by simp at e
  | y :: xs, _, h, 0, x, e => by
    obtain ⟨v, r, rfl, h1, h2⟩ := h.inv
    simp at e
    subst e
    exact ⟨v, rfl, h1⟩
  | y :: xs, _, h, i + 1, x, e => by
    obtain ⟨v, r, rfl, h1, h2⟩ := h.inv
    obtain ⟨u, e1, e2⟩ := Reps.get h2 (i := i) (x := x) (by simpa using e)
    exact ⟨u, by simpa using e1, e2⟩
theorem Reps.drop : ∀ {xs : List D} {vs : List V} (n : Nat), Reps G μ H xs vs → Reps G μ H (xs.drop n) (vs.drop n)
  | _, _, 0, h => h
  | [], _, n + 1, h => by rw [h.inv0]; exact .nil
  | x :: xs, _, n + 1, h => by
    obtain ⟨v, r, rfl, h1, h2⟩ := h.inv
    exact Reps.drop n h2
theorem Reps.take : ∀ {xs : List D} {vs : List V} (n : Nat), Reps G μ H xs vs → Reps G μ H (xs.take n) (vs.take n)
  | _, _, 0, h => .nil
  | [], _, n + 1, h => by rw [h.inv0]; exact .nil
  | x :: xs, _, n + 1, h => by
    obtain ⟨v, r, rfl, h1, h2⟩ := h.inv
    exact .cons h1 (Reps.take n h2)
theorem Reps.rev : ∀ {xs : List D} {vs : List V}, Reps G μ H xs vs → Reps G μ H xs.reverse vs.reverse
  | [], _, h => by rw [h.inv0]; exact .nil
  | x :: xs, _, h => by
    obtain ⟨v, r, rfl, h1, h2⟩ := h.inv
    rw [List.reverse_cons, List.reverse_cons]
    exact Reps.app (Reps.rev h2) (.cons h1 .nil)
theorem Reps.set : ∀ {xs : List D} {vs : List V} (i : Nat) {x : D} {v : V}, Reps G μ H xs vs → Rep G μ H x v → Reps G μ H (xs.set i x) (vs.set i v)
  | [], _, _, _, _, h, _ => by rw [h.inv0]; exact .nil
  | y :: xs, _, 0, x, v, h, hx => by
    obtain ⟨u, r, rfl, h1, h2⟩ := h.inv
    exact .cons hx h2
  | y :: xs, _, i + 1, x, v, h, hx => by
    obtain ⟨u, r, rfl, h1, h2⟩ := h.inv
    exact .cons h1 (Reps.set i h2 hx)
theorem Reps.dropLast {xs : List D} {vs : List V} (h : Reps G μ H xs vs) : Reps G μ H xs.dropLast vs.dropLast := by
  rw [List.dropLast_eq_take, List.dropLast_eq_take, h.length]
  exact h.take _
theorem Reps.of_P : ∀ {xs : List P} {vs : List V}, RepPs G.K H xs vs → Reps G μ H (xs.map D.p) vs
  | [], _, h => by simp only [RepPs] at h; subst h; exact .nil
  | x :: xs, _, h => by
    simp only [RepPs] at h
    obtain ⟨v, r, rfl, h1, h2⟩ := h
    exact .cons (by simpa only [Rep] using h1) (Reps.of_P h2)
theorem Reps.to_P : ∀ {xs : List P} {vs : List V}, Reps G μ H (xs.map D.p) vs → RepPs G.K H xs vs
  | [], _, h => by rw [h.inv0]; simp only [RepPs]
  | x :: xs, _, h => by
    obtain ⟨v, r, rfl, h1, h2⟩ := h.inv
    simp only [RepPs]
    exact ⟨v, r, rfl, by simpa only [Rep] using h1, Reps.to_P h2⟩
/-- the object at a stands as it stood, or it is of the written part -/
theorem ObjRep.extW (e : ExtW H H') (p : μ <+: μ') {a : Addr} {o : O} (h : ObjRep G μ H a o) (st : H' a = H a ∨ (o.isRo = true ∧ ∀ ob xs, H a ≠ some (.frz ob (.lst xs)))) : ObjRep G μ' H' a o := by
  cases o with
  | lst xs =>
    rcases st with st | st
    · obtain ⟨vs, h1, h2⟩ := h; exact ⟨vs, by rw [st]; exact h1, h2.extW e p⟩
    · cases st.1
  | ro xs =>
    obtain ⟨vs, h1, h2⟩ := h
    refine ⟨vs, ?_, h2.extW e p⟩
    rcases h1 with ⟨ob, h1⟩ | h1
    · rcases st with st | st
      · exact .inl ⟨ob, by rw [st]; exact h1⟩
      · exact absurd h1 (st.2 _ _)
    · exact .inr h1
  | ins c fs =>
    rcases st with st | st
    · obtain ⟨C, dx, gs, h0, h1, h2⟩ := h; exact ⟨C, dx, gs, h0, by rw [st]; exact h1, h2.extW e p⟩
    · cases st.1
  | dk kvs =>
    rcases st with st | st
    · obtain ⟨ws, h1, h2⟩ := h; exact ⟨ws, by rw [st]; exact h1, h2.extW e p⟩
    · cases st.1
  | dt kvs =>
    rcases st with st | st
    · obtain ⟨ws, h1, h2⟩ := h; exact ⟨ws, by rw [st]; exact h1, h2.extW e p⟩
    · cases st.1
  | tab x =>
    rcases st with st | st
    · obtain ⟨h0, ps, h1, h2, h3⟩ := h
      refine ⟨h0, ps, by rw [st]; exact h1, h2, fun pos cv hc => ?_⟩
      obtain ⟨c, e1, e2⟩ := h3 pos cv hc
      exact ⟨c, e1, e.ext _ _ e2⟩
    · cases st.1
  | rod kvs =>
    rcases st with st | st
    · obtain ⟨od, ws, h1, h2⟩ := h; exact ⟨od, ws, by rw [st]; exact h1, h2.extW e p⟩
    · cases st.1
  | rodt kvs =>
    rcases st with st | st
    · obtain ⟨od, ws, h1, h2⟩ := h; exact ⟨od, ws, by rw [st]; exact h1, h2.extW e p⟩
    · cases st.1
theorem ObjRep.ext (e : Ext H H') (p : μ <+: μ') {a : Addr} {o : O} (h : ObjRep G μ H a o) (st : H' a = H a ∨ (o.isRo = true ∧ ∀ ob xs, H a ≠ some (.frz ob (.lst xs)))) : ObjRep G μ' H' a o := h.extW e.w p st
theorem ObjRep.some {a : Addr} {o : O} (h : ObjRep G μ H a o) (n : o.isRo = false) : ∃ u, H a = some u := by
  cases o with
  | lst xs => obtain ⟨vs, h1, h2⟩ := h; exact ⟨_, h1⟩
  | ro xs => cases n
  | ins c fs => obtain ⟨C, dx, gs, h0, h1, h2⟩ := h; exact ⟨_, h1⟩
  | dk kvs => obtain ⟨ws, h1, h2⟩ := h; exact ⟨_, h1⟩
  | dt kvs => obtain ⟨ws, h1, h2⟩ := h; exact ⟨_, h1⟩
  | tab x => obtain ⟨h0, ps, h1, h2, h3⟩ := h; exact ⟨_, h1⟩
  | rod kvs => obtain ⟨od, ws, h1, h2⟩ := h; exact ⟨_, h1⟩
  | rodt kvs => obtain ⟨od, ws, h1, h2⟩ := h; exact ⟨_, h1⟩
theorem SR.at_ {M : Store} (S : SR G μ H M) {l : Nat} {a : Addr} (h : μ[l]? = some a) : ∃ o, M[l]? = some o ∧ ObjRep G μ H a o := by
  have hl : l < M.length := by
    rw [← S.len]
    exact (List.getElem?_eq_some_iff.mp h).1
  exact ⟨M[l], List.getElem?_eq_getElem hl, S.obj l a _ h (List.getElem?_eq_getElem hl)⟩
theorem SR.adr {M : Store} (S : SR G μ H M) {l : Nat} {o : O} (h : M[l]? = some o) : ∃ a, μ[l]? = some a ∧ ObjRep G μ H a o := by
  have hl : l < μ.length := by
    rw [S.len]
    exact (List.getElem?_eq_some_iff.mp h).1
  exact ⟨μ[l], List.getElem?_eq_getElem hl, S.obj l _ o (List.getElem?_eq_getElem hl) h⟩
/-- what stands at a new place: nothing but a list of the written part -/
theorem ObjRep.at_new {a p : Addr} {o : O} {u : HO} (h : ObjRep G μ H a o) (hp : H p = none) : (upd H p u) a = H a ∨ (o.isRo = true ∧ ∀ ob xs, H a ≠ Option.some (.frz ob (.lst xs))) := by
  by_cases e : a = p
  · subst e
    cases q : o.isRo with
    | false =>
      obtain ⟨v, hv⟩ := h.some q
      rw [hp] at hv
      cases hv
    | true => exact .inr ⟨rfl, fun ob w z => by rw [hp] at z; cases z⟩
  · exact .inl (upd_ne e)
theorem isRo_new {a : Addr} {o : O} (h : ObjRep G μ H a o) (hp : H a = none) : o.isRo = true := by
  cases q : o.isRo with
  | true => rfl
  | false =>
    obtain ⟨v, hv⟩ := h.some q
    rw [hp] at hv
    cases hv
/-- a new object of the store -/
theorem SR.new {M : Store} (S : SR G μ H M) {p : Addr} {o : O} {u : HO} (hp : H p = none) (h : ObjRep G (μ ++ [p]) (upd H p u) p o) : SR G (μ ++ [p]) (upd H p u) (M ++ [o]) := by
  have old : ∀ {l : Nat} {a : Addr} {x : O}, (μ ++ [p])[l]? = some a → (M ++ [o])[l]? = some x → (l < μ.length ∧ μ[l]? = some a ∧ M[l]? = some x) ∨ (l = μ.length ∧ a = p ∧ x = o) := fun {l a x} h1 h2 => by
    by_cases hl : l < μ.length
    · rw [List.getElem?_append_left hl] at h1
      rw [List.getElem?_append_left (by rw [← S.len]; exact hl)] at h2
      exact .inl ⟨hl, h1, h2⟩
    · have e1 : l = μ.length := by
        have := (List.getElem?_eq_some_iff.mp h1).1
        simp at this
        omega
      subst e1
      refine .inr ⟨rfl, by simpa using h1.symm, ?_⟩
      rw [S.len] at h2
      simpa using h2.symm
  refine ⟨by simp [S.len], fun i j a x y h1 h2 h3 h4 => ?_, fun l a ob h1 h2 => ?_⟩
  · rcases old h1 h3 with ⟨_, k1, k3⟩ | ⟨k0, k1, k3⟩
    · rcases old h2 h4 with ⟨_, k2, k4⟩ | ⟨_, k2, k4⟩
      · exact S.nd i j a x y k1 k2 k3 k4
      · subst k2
        exact .inl (isRo_new (S.obj i a x k1 k3) hp)
    · rcases old h2 h4 with ⟨_, k2, k4⟩ | ⟨k5, k2, k4⟩
      · subst k1
        exact .inr (.inl (isRo_new (S.obj j a y k2 k4) hp))
      · exact .inr (.inr (by rw [k0, k5]))
  · rcases old h1 h2 with ⟨_, k1, k2⟩ | ⟨_, k1, k2⟩
    · have r := S.obj l a ob k1 k2
      exact r.ext (.new hp) (List.prefix_append _ _) (r.at_new hp)
    · rw [k1, k2]
      exact h
/-- another heap with more in it -/
theorem SR.grow {M : Store} (S : SR G μ H M) {p : Addr} {u : HO} (hp : H p = none) : SR G μ (upd H p u) M :=
  ⟨S.len, S.nd, fun l a o h1 h2 => (S.obj l a o h1 h2).ext (.new hp) (List.prefix_refl _) ((S.obj l a o h1 h2).at_new hp)⟩
/-- an object of the store is changed -/
theorem SR.putW {M : Store} (S : SR G μ H M) {l : Nat} {a : Addr} {o o0 : O} {u : HO} (h : μ[l]? = some a) (h0 : M[l]? = some o0) (n0 : o0.isRo = false) (n1 : o.isRo = false) (nf : ∀ ob xs, H a ≠ Option.some (.frz ob (.lst xs))) (e : ExtW H (upd H a u)) (r : ObjRep G μ (upd H a u) a o) : SR G μ (upd H a u) (M.set l o) := by
  have hlt : l < M.length := by rw [← S.len]; exact (List.getElem?_eq_some_iff.mp h).1
  have old : ∀ {k : Nat} {x : O}, (M.set l o)[k]? = some x → (k = l ∧ x = o) ∨ (k ≠ l ∧ M[k]? = some x) := fun {k x} h2 => by
    by_cases hk : k = l
    · subst hk
      rw [List.getElem?_set_self hlt] at h2
      exact .inl ⟨rfl, (Option.some.inj h2).symm⟩
    · rw [List.getElem?_set_ne (Ne.symm hk)] at h2
      exact .inr ⟨hk, h2⟩
  refine ⟨by simp [S.len], fun i j b x y h1 h2 h3 h4 => ?_, fun k b ob h1 h2 => ?_⟩
  · rcases old h3 with ⟨k1, k2⟩ | ⟨k1, k2⟩
    · rcases old h4 with ⟨k3, k4⟩ | ⟨k3, k4⟩
      · exact .inr (.inr (by rw [k1, k3]))
      · subst k1
        rcases S.nd i j b o0 y h1 h2 h0 k4 with z | z | z
        · rw [n0] at z; cases z
        · exact .inr (.inl z)
        · exact .inr (.inr z)
    · rcases old h4 with ⟨k3, k4⟩ | ⟨k3, k4⟩
      · subst k3
        rcases S.nd i j b x o0 h1 h2 k2 h0 with z | z | z
        · exact .inl z
        · rw [n0] at z; cases z
        · exact .inr (.inr z)
      · exact S.nd i j b x y h1 h2 k2 k4
  · rcases old h2 with ⟨k1, k2⟩ | ⟨k1, k2⟩
    · subst k1
      rw [h] at h1
      cases h1
      rw [k2]
      exact r
    · refine (S.obj k b ob h1 k2).extW e (List.prefix_refl _) ?_
      by_cases z : b = a
      · subst z
        rcases S.nd k l b ob o0 h1 h k2 h0 with q | q | q
        · exact .inr ⟨q, nf⟩
        · rw [n0] at q; cases q
        · exact absurd q k1
      · exact .inl (upd_ne z)
theorem SR.put {M : Store} (S : SR G μ H M) {l : Nat} {a : Addr} {o o0 : O} {u : HO} (h : μ[l]? = some a) (h0 : M[l]? = some o0) (n0 : o0.isRo = false) (n1 : o.isRo = false) (nf : ∀ ob xs, H a ≠ Option.some (.frz ob (.lst xs))) (e : Ext H (upd H a u)) (r : ObjRep G μ (upd H a u) a o) : SR G μ (upd H a u) (M.set l o) :=
  S.putW h h0 n0 n1 nf e.w r
theorem ER.extW (e : ExtW H H') (p : μ <+: μ') {ρ : Env} {σ : St} (h : ER G μ H ρ σ) : ER G μ' H' ρ σ :=
  ⟨h.len, fun i d q => by
    obtain ⟨v, h1, h2⟩ := h.at_ i d q
    exact ⟨v, h1, h2.extW e p⟩⟩
theorem ER.ext (e : Ext H H') (p : μ <+: μ') {ρ : Env} {σ : St} (h : ER G μ H ρ σ) : ER G μ' H' ρ σ := h.extW e.w p
theorem ER.set {ρ : Env} {σ : St} (h : ER G μ H ρ σ) (i : Nat) {d : D} {v : V} (r : Rep G μ H d v) : ER G μ H (ρ.set i (some d)) (σ.set i (some v)) :=
  ⟨by simp [h.len], fun j e q => by
    by_cases hj : j = i
    · subst hj
      have hlt : j < ρ.length := by
        have := (List.getElem?_eq_some_iff.mp q).1
        simpa using this
      rw [List.getElem?_set_self hlt] at q
      cases q
      exact ⟨v, by rw [List.getElem?_set_self (by rw [← h.len]; exact hlt)], r⟩
    · rw [List.getElem?_set_ne (Ne.symm hj)] at q ⊢
      exact h.at_ j e q⟩
end

/-! ### what comes of a piece of code -/
inductive R (α : Type) where
  | ok (a : α) (M : Store) | ex (c : Str) (fs : Option (List (Str × D))) (M : Store) | no
def R.bind {α β : Type} : R α → (α → Store → R β) → R β
  | .ok a M, g => g a M
  | .ex c fs M, _ => .ex c fs M
  | .no, _ => .no
inductive Out where
  | nx (ρ : Env) (M : Store) | rt (d : D) (M : Store) | bk (ρ : Env) (M : Store) | ct (ρ : Env) (M : Store) | ex (c : Str) (fs : Option (List (Str × D))) (ρ : Env) (M : Store) | no
def Out.bind : Out → (Env → Store → Out) → Out
  | .nx ρ M, g => g ρ M
  | o, _ => o
def R.out {α : Type} (ρ : Env) : R α → (α → Store → Out) → Out
  | .ok a M, g => g a M
  | .ex c fs M, _ => .ex c fs ρ M
  | .no, _ => .no
abbrev RX (α : Type) := Env → Store → R α
abbrev RE := RX D
abbrev RT := RX Bool
abbrev RA := RX (List D)
abbrev RS := Env → Store → Out
@[simp] theorem R.bind_ok {α β : Type} (a : α) (M : Store) (g : α → Store → R β) : (R.ok a M).bind g = g a M := (rfl)
@[simp] theorem R.bind_ex {α β : Type} (c fs M) (g : α → Store → R β) : (R.ex c fs M).bind g = .ex c fs M := (rfl)
@[simp] theorem R.bind_no {α β : Type} (g : α → Store → R β) : (R.no).bind g = .no := (rfl)
@[simp] theorem R.out_ok {α : Type} (ρ : Env) (a : α) (M : Store) (g : α → Store → Out) : (R.ok a M).out ρ g = g a M := (rfl)
@[simp] theorem R.out_ex {α : Type} (ρ : Env) (c fs M) (g : α → Store → Out) : (R.ex c fs M).out ρ g = .ex c fs ρ M := (rfl)
@[simp] theorem R.out_no {α : Type} (ρ : Env) (g : α → Store → Out) : (R.no).out ρ g = .no := (rfl)
@[simp] theorem Out.bind_nx (ρ M) (g : Env → Store → Out) : (Out.nx ρ M).bind g = g ρ M := (rfl)
@[simp] theorem Out.bind_rt (d M) (g : Env → Store → Out) : (Out.rt d M).bind g = .rt d M := (rfl)
@[simp] theorem Out.bind_bk (ρ M) (g : Env → Store → Out) : (Out.bk ρ M).bind g = .bk ρ M := (rfl)
@[simp] theorem Out.bind_ct (ρ M) (g : Env → Store → Out) : (Out.ct ρ M).bind g = .ct ρ M := (rfl)
@[simp] theorem Out.bind_ex (c fs ρ M) (g : Env → Store → Out) : (Out.ex c fs ρ M).bind g = .ex c fs ρ M := (rfl)
@[simp] theorem Out.bind_no (g : Env → Store → Out) : (Out.no).bind g = .no := (rfl)

/-- how an exception's own fields lie (none: nothing is told of them) -/
def XR (G : Gm) (μ : List Addr) (H : Hp) : Option (List (Str × D)) → Option Addr → Prop
  | none, _ => True
  | some fs, d => ∃ a, d = some a ∧ H a = some (.xd (fs.map fun q => (q.1, flD q.2)))
/-- the class that a name stands for -/
def cval (G : Gm) (c : Str) : Value := (G.mg c).getD .none
section
variable {α β γ ι κ : Type} (G : Gm) (rel : List Addr → Hp → α → ι → Prop) (W : WX) (μ : List Addr) (σ : St) (H : Hp) (Q : ι → Hp → Prop)
def Fin : R α → Prop
  | .ok d M => ∀ μ' v H', Ext H H' → μ <+: μ' → SR G μ' H' M → rel μ' H' d v → Q v H'
  | .ex c fs M => ∀ μ' H' dx, Ext H H' → μ <+: μ' → SR G μ' H' M → XR G μ' H' fs dx → W (cval G c) dx σ H'
  | .no => False
end
def tX {α ι : Type} (G : Gm) (rel : List Addr → Hp → α → ι → Prop) (W : WX) (f : RX α) (σ : St) (H : Hp) (Q : ι → Hp → Prop) : Prop :=
  ∃ μ ρ M, ER G μ H ρ σ ∧ SR G μ H M ∧ Fin G rel W μ σ H Q (f ρ M)
abbrev tE (G : Gm) (W : WX) (f : RE) : TE := tX G (Rep G) W f
abbrev tT (G : Gm) (W : WX) (f : RT) : TT := tX G (fun _ _ (a b : Bool) => a = b) W f
abbrev tA (G : Gm) (W : WX) (f : RA) : TA := tX G (Reps G) W f
/-- what holds behind the first part: the rest is to come -/
def Go {α β ι κ : Type} (G : Gm) (rel : List Addr → Hp → α → ι → Prop) (rel2 : List Addr → Hp → β → κ → Prop) (W : WX) (g : α → RX β) (σ : St) (Q : κ → Hp → Prop) (v : ι) (H : Hp) : Prop :=
  ∃ μ ρ M a, ER G μ H ρ σ ∧ SR G μ H M ∧ rel μ H a v ∧ Fin G rel2 W μ σ H Q (g a ρ M)
section
variable {α β γ ι κ τ : Type} {G : Gm} {rel : List Addr → Hp → α → ι → Prop} {rel2 : List Addr → Hp → β → κ → Prop} {rel3 : List Addr → Hp → γ → τ → Prop} {W : WX} {μ μ1 : List Addr} {σ : St} {H H1 : Hp} {Q : ι → Hp → Prop} {Q2 : κ → Hp → Prop}
theorem Fin.later {r : R α} (e : Ext H H1) (p : μ <+: μ1) (h : Fin G rel W μ σ H Q r) : Fin G rel W μ1 σ H1 Q r := by
  cases r with
  | ok d M => exact fun μ' v H' e' p' => h μ' v H' (e.trans e') (p.trans p')
  | ex c fs M => exact fun μ' H' dx e' p' => h μ' H' dx (e.trans e') (p.trans p')
  | no => exact h
theorem Fin.mono {r : R α} {Q' : ι → Hp → Prop} (h : Fin G rel W μ σ H Q r) (hq : ∀ v H', Q v H' → Q' v H') : Fin G rel W μ σ H Q' r := by
  cases r with
  | ok d M => exact fun μ' v H' e' p' s r => hq _ _ (h μ' v H' e' p' s r)
  | ex c fs M => exact h
  | no => exact h
theorem tX.bind {f : RX α} {g : α → RX β} (h : tX G rel2 W (fun ρ M => (f ρ M).bind fun a M1 => g a ρ M1) σ H Q2) : tX G rel W f σ H (Go G rel rel2 W g σ Q2) := by
  obtain ⟨μ, ρ, M, hE, hS, hF⟩ := h
  have hF : Fin G rel2 W μ σ H Q2 ((f ρ M).bind fun a M1 => g a ρ M1) := hF
  refine ⟨μ, ρ, M, hE, hS, ?_⟩
  cases q : f ρ M with
  | ok a M1 =>
    rw [q] at hF
    intro μ' v H' e p s r
    exact ⟨μ', ρ, M1, a, hE.ext e p, s, r, Fin.later e p hF⟩
  | ex c fs M1 =>
    rw [q] at hF
    exact hF
  | no =>
    rw [q] at hF
    exact hF
theorem tX.mono {f : RX α} {Q' : ι → Hp → Prop} (h : tX G rel W f σ H Q) (hq : ∀ v H', Q v H' → Q' v H') : tX G rel W f σ H Q' := by
  obtain ⟨μ, ρ, M, hE, hS, hF⟩ := h
  exact ⟨μ, ρ, M, hE, hS, hF.mono hq⟩
/-- what holds behind two parts -/
def Go2 (G : Gm) (rel : List Addr → Hp → α → ι → Prop) (rel2 : List Addr → Hp → β → κ → Prop) (rel3 : List Addr → Hp → γ → τ → Prop) (W : WX) (g : α → β → RX γ) (σ : St) (Q : τ → Hp → Prop) (v : ι) (u : κ) (H : Hp) : Prop :=
  ∃ μ ρ M a b, ER G μ H ρ σ ∧ SR G μ H M ∧ rel μ H a v ∧ rel2 μ H b u ∧ Fin G rel3 W μ σ H Q (g a b ρ M)
theorem Go.bind {f2 : RX β} {g : α → β → RX γ} {Q3 : τ → Hp → Prop} {v : ι} (mono : ∀ μ μ' H H' a v, Ext H H' → μ <+: μ' → rel μ H a v → rel μ' H' a v)
    (h : Go G rel rel3 W (fun a ρ M => (f2 ρ M).bind fun b M2 => g a b ρ M2) σ Q3 v H) : tX G rel2 W f2 σ H (Go2 G rel rel2 rel3 W g σ Q3 v) := by
  obtain ⟨μ, ρ, M, a, hE, hS, ra, hF⟩ := h
  have hF : Fin G rel3 W μ σ H Q3 ((f2 ρ M).bind fun b M2 => g a b ρ M2) := hF
  refine ⟨μ, ρ, M, hE, hS, ?_⟩
  cases q : f2 ρ M with
  | ok b M1 =>
    rw [q] at hF
    intro μ' v H' e p s r
    exact ⟨μ', ρ, M1, a, b, hE.ext e p, s, mono _ _ _ _ _ _ e p ra, r, Fin.later e p hF⟩
  | ex c fs M1 =>
    rw [q] at hF
    exact hF
  | no =>
    rw [q] at hF
    exact hF
end
end Fl

set_option Elab.async false
set_option linter.all false
set_option maxRecDepth 100000
/-! Fl, part B: expressions. -/
namespace Fl
open PySem PySem.Spec L2
set_option autoImplicit false

def gm (X : Cx) : Gm := ⟨X.K, X.mg⟩
theorem PEimp {X : Cx} {e : Expr} {t t' : TE} (h : PE X e t) (w : ∀ σ H Q, t' σ H Q → t σ H Q) : PE X e t' := ⟨fun pins s σ H Q I q => h.run pins s σ H Q I (w σ H Q q)⟩
theorem PTimp {X : Cx} {e : Expr} {t t' : TT} (h : PT X e t) (w : ∀ σ H Q, t' σ H Q → t σ H Q) : PT X e t' := ⟨fun pins s σ H Q I q => h.run pins s σ H Q I (w σ H Q q)⟩
theorem PAimp {X : Cx} {e : List Expr} {t t' : TA} (h : PA X e t) (w : ∀ σ H Q, t' σ H Q → t σ H Q) : PA X e t' := ⟨fun pos pins s σ H Q I q => h.run pos pins s σ H Q I (w σ H Q q)⟩
theorem PWimp {X : Cx} {e : Expr} {t t' : TT} (h : PW X e t) (w : ∀ σ H Q, t' σ H Q → t σ H Q) : PW X e t' := ⟨fun wh pins s σ H Q I q => h.run wh pins s σ H Q I (w σ H Q q)⟩

def ofO {α : Type} : Option (α × Store) → R α
  | some (a, M) => .ok a M
  | none => .no
@[simp] theorem ofO_some {α : Type} (a : α) (M : Store) : ofO (some (a, M)) = .ok a M := (rfl)
@[simp] theorem ofO_none {α : Type} : ofO (none : Option (α × Store)) = .no := (rfl)

/-! ### names, constants -/
def rVar (i : Nat) : RE := fun ρ M => match ρ[i]? with
  | some (some d) => .ok d M
  | _ => .no
def rC (d : D) : RE := fun _ M => .ok d M
section
variable {X : Cx} {W : WX}
theorem i_var (i : Nat) {x : Str} {pos : Pos} (hN : X.N[i]? = some x := by rfl) (hv : Vis X.env.scope x := by first | exact Or.inl rfl | exact Or.inr (Or.inl rfl) | exact Or.inr (Or.inr rfl)) (hd : (x == ("__debug__" : Str)) = false := by decide)
    (hcd : (x == ("__classdict__" : Str)) = false := by decide) : PE X (.Name x pos) (tE (gm X) W (rVar i)) := by
  refine PEimp (pv i hN hv hd hcd) fun σ H Q h => ?_
  obtain ⟨μ, ρ, M, hE, hS, hF⟩ := h
  unfold rVar at hF
  split at hF
  · rename_i d e
    obtain ⟨v, e1, r⟩ := hE.at_ i d e
    exact ⟨v, e1, hF μ v H (.refl H) (List.prefix_refl _) hS r⟩
  · exact hF.elim
theorem rC_of {d : D} {v : V} {σ : St} {H : Hp} {Q : VK} (h : tE (gm X) W (rC d) σ H Q) (r : ∀ μ, Rep (gm X) μ H d v) : Q v H := by
  obtain ⟨μ, ρ, M, hE, hS, hF⟩ := h
  exact hF μ v H (.refl H) (List.prefix_refl _) hS (r μ)
theorem i_int {i : Int} {j pos} : PE X (.Constant (.int i) j pos) (tE (gm X) W (rC (.p (.int i)))) := PEimp pe_int fun σ H Q h => rC_of h fun μ => by simp only [Rep, RepP]
theorem i_bl {b : Bool} {j pos} : PE X (.Constant (.bool b) j pos) (tE (gm X) W (rC (.p (.bl b)))) := PEimp pe_bl fun σ H Q h => rC_of h fun μ => by simp only [Rep, RepP]
theorem i_non {j pos} : PE X (.Constant .none j pos) (tE (gm X) W (rC (.p .non))) := PEimp pe_non fun σ H Q h => rC_of h fun μ => by simp only [Rep, RepP]
theorem i_str {x : Str} {j pos} : PE X (.Constant (.str x) j pos) (tE (gm X) W (rC (.p (.str x)))) := PEimp pe_str fun σ H Q h => rC_of h fun μ => by simp only [Rep, RepP]
/-- a name of the module that stands for the data d -/
structure Cst (G : Gm) (x : Str) (d : D) : Prop where
  is_ : ∃ v u, G.mg x = some u ∧ RelV v u ∧ ∀ μ H, Rep G μ H d v
theorem i_glob {x : Str} {d : D} {pos : Pos} (hg : Gl X x) (c : Cst (gm X) x d) (hd : (x == ("__debug__" : Str)) = false := by decide) : PE X (.Name x pos) (tE (gm X) W (rC d)) := by
  obtain ⟨v, u, h1, h2, h3⟩ := c.is_
  exact PEimp (pe_glob hg h1 h2 hd) fun σ H Q h => rC_of h fun μ => h3 μ H
end

/-! ### operators -/
def OpD (G : Gm) (op : D → D → Store → Option (D × Store)) (r : R2) : Prop :=
  ∀ (μ : List Addr) (H : Hp) (M : Store) (x y : D) (v u : V) (Q : VK) (d : D) (M' : Store), SR G μ H M → Rep G μ H x v → Rep G μ H y u → op x y M = some (d, M') →
    (∀ μ' w H', Ext H H' → μ <+: μ' → SR G μ' H' M' → Rep G μ' H' d w → Q w H') → r v u H Q
def rBin (op : D → D → Store → Option (D × Store)) (fa fb : RE) : RE := fun ρ M => (fa ρ M).bind fun x M1 => (fb ρ M1).bind fun y M2 => ofO (op x y M2)
section
variable {X : Cx} {W : WX} {a b e : Expr} {fa fb : RE} {pos : Pos}
theorem Rep.mono {G : Gm} : ∀ (μ μ' : List Addr) (H H' : Hp) (a : D) (v : V), Ext H H' → μ <+: μ' → Rep G μ H a v → Rep G μ' H' a v := fun _ _ _ _ _ _ e p h => h.ext e p
theorem Reps.mono {G : Gm} : ∀ (μ μ' : List Addr) (H H' : Hp) (a : List D) (v : List V), Ext H H' → μ <+: μ' → Reps G μ H a v → Reps G μ' H' a v := fun _ _ _ _ _ _ e p h => h.ext e p
theorem bin_in {op r} (hd : OpD (gm X) op r) {σ : St} {H : Hp} {Q : VK} (h : tE (gm X) W (rBin op fa fb) σ H Q) : tOp r (tE (gm X) W fa) (tE (gm X) W fb) σ H Q := by
  refine (tX.bind h).mono fun v H1 g1 => ?_
  refine (Go.bind Rep.mono g1).mono fun u H2 g2 => ?_
  obtain ⟨μ, ρ, M, x, y, hE, hS, rx, ry, hF⟩ := g2
  have hF : Fin (gm X) (Rep (gm X)) W μ σ H2 Q (ofO (op x y M)) := hF
  cases q : op x y M with
  | none => rw [q] at hF; exact hF.elim
  | some p =>
    obtain ⟨d, M'⟩ := p
    rw [q] at hF
    exact hd μ H2 M x y v u Q d M' hS rx ry q hF
theorem i_bin {o : Operator} {op r} (ho : OpR X (binaryOp o) r) (hd : OpD (gm X) op r) (ha : PE X a (tE (gm X) W fa)) (hb : PE X b (tE (gm X) W fb)) : PE X (.BinOp a o b pos) (tE (gm X) W (rBin op fa fb)) :=
  PEimp (pe_op ho ha hb) fun _ _ _ h => bin_in hd h
theorem i_cmp {o : CmpOp} {op r} (ho : OpR X (compareOp o) r) (hd : OpD (gm X) op r) (ha : PE X a (tE (gm X) W fa)) (hb : PE X b (tE (gm X) W fb)) (hm : behindInMarks o b = false := by first | exact nomark _ | rfl) : PE X (.Compare a [o] [b] pos) (tE (gm X) W (rBin op fa fb)) :=
  PEimp (pe_cmpR ho ha hb hm) fun _ _ _ h => bin_in hd h
/-- a[b] -/
theorem i_ix {op r} (ho : IxR X r) (hd : OpD (gm X) op r) (ha : PE X a (tE (gm X) W fa)) (hb : PE X b (tE (gm X) W fb)) (hs : PlainIx b := by exact fun _ _ => rfl) : PE X (.Subscript a b pos) (tE (gm X) W (rBin op fa fb)) :=
  PEimp (pe_ix ho ha hb hs) fun _ _ _ h => bin_in hd h
end
/-- a test of a value, without a change -/
def rTst (t : D → Store → Option Bool) (fa : RE) : RT := fun ρ M => (fa ρ M).bind fun x M1 => match t x M1 with
  | some b => .ok b M1
  | none => .no
def asBool : D → Store → Option Bool
  | .p (.bl b), _ => some b
  | _, _ => none
def OpU (G : Gm) (op : D → Store → Option (D × Store)) (r : V → Hp → VK → Prop) : Prop :=
  ∀ (μ : List Addr) (H : Hp) (M : Store) (x : D) (v : V) (Q : VK) (d : D) (M' : Store), SR G μ H M → Rep G μ H x v → op x M = some (d, M') →
    (∀ μ' w H', Ext H H' → μ <+: μ' → SR G μ' H' M' → Rep G μ' H' d w → Q w H') → r v H Q
def rUn (op : D → Store → Option (D × Store)) (fa : RE) : RE := fun ρ M => (fa ρ M).bind fun x M1 => ofO (op x M1)
section
variable {X : Cx} {W : WX} {a b e : Expr} {fa fb : RE} {pos : Pos}
theorem un_in {op r} (hd : OpU (gm X) op r) {σ : St} {H : Hp} {Q : VK} (h : tE (gm X) W (rUn op fa) σ H Q) : tUn r (tE (gm X) W fa) σ H Q := by
  refine (tX.bind h).mono fun v H1 g1 => ?_
  obtain ⟨μ, ρ, M, x, hE, hS, rx, hF⟩ := g1
  have hF : Fin (gm X) (Rep (gm X)) W μ σ H1 Q (ofO (op x M)) := hF
  cases q : op x M with
  | none => rw [q] at hF; exact hF.elim
  | some p =>
    obtain ⟨d, M'⟩ := p
    rw [q] at hF
    exact hd μ H1 M x v Q d M' hS rx q hF
theorem i_un {o : UnaryOp} {op r} (ho : UnR X (unaryOp o) r) (hd : OpU (gm X) op r) (ha : PE X a (tE (gm X) W fa)) : PE X (.UnaryOp o a pos) (tE (gm X) W (rUn op fa)) :=
  PEimp (pe_un ho ha) fun _ _ _ h => un_in hd h
end

/-! ### arithmetic of data -/
def mulOk (i j : Int) : Prop := ((-(2 ^ 64) < i ∧ i < 2 ^ 64) ∨ (-(2 ^ 64) < j ∧ j < 2 ^ 64)) ∨ i.natAbs.log2 + j.natAbs.log2 < 1000000
def divOk (j : Int) : Prop := 0 < j ∧ j.natAbs.log2 < 9000
open Classical in
noncomputable def dAdd : D → D → Store → Option (D × Store)
  | .p (.int i), .p (.int j), M => some (.p (.int (i + j)), M)
  | .p (.str x), .p (.str y), M => if x.length + y.length ≤ sizeLine then some (.p (.str (x ++ y)), M) else none
  | .p (.tup xs), .p (.tup ys), M => if xs.length + ys.length ≤ sizeLine then some (.p (.tup (xs ++ ys)), M) else none
  | .ref l, .ref k, M => (match M[l]?, M[k]? with
    | some (.lst xs), some (.lst ys) => if xs.length + ys.length ≤ sizeLine then some (.ref M.length, M ++ [.lst (xs ++ ys)]) else none
    | _, _ => none)
  | _, _, _ => none
def dSub : D → D → Store → Option (D × Store)
  | .p (.int i), .p (.int j), M => some (.p (.int (i - j)), M)
  | _, _, _ => none
open Classical in
noncomputable def dMul : D → D → Store → Option (D × Store)
  | .p (.int i), .p (.int j), M => if mulOk i j then some (.p (.int (i * j)), M) else none
  | .ref l, .p (.int k), M => (match M[l]? with
    | some (.lst xs) => if -(2 ^ 63) ≤ k ∧ k < 2 ^ 63 ∧ xs.length * k.toNat ≤ sizeLine then some (.ref M.length, M ++ [.lst (List.replicate k.toNat xs).flatten]) else none
    | _ => none)
  | _, _, _ => none
open Classical in
noncomputable def dDiv : D → D → Store → Option (D × Store)
  | .p (.int i), .p (.int j), M => if divOk j then some (.p (.int (i / j)), M) else none
  | _, _, _ => none
open Classical in
noncomputable def dMod : D → D → Store → Option (D × Store)
  | .p (.int i), .p (.int j), M => if j ≠ 0 then some (.p (.int (i.fmod j)), M) else none
  | _, _, _ => none
open Classical in
noncomputable def dPow : D → D → Store → Option (D × Store)
  | .p (.int i), .p (.int j), M => if 0 ≤ j ∧ j ≤ 1000000 ∧ i.natAbs < 2 ^ 64 then some (.p (.int (i ^ j.toNat)), M) else none
  | _, _, _ => none
def dNeg : D → Store → Option (D × Store)
  | .p (.int i), M => some (.p (.int (-i)), M)
  | _, _ => none
theorem RepPs.append {K : PySem.W.Frag} {H : Hp} : ∀ {xs ys : List P} {vs ws : List V}, RepPs K H xs vs → RepPs K H ys ws → RepPs K H (xs ++ ys) (vs ++ ws)
  | [], _, _, _, h, t => by simp only [RepPs] at h; subst h; exact t
  | x :: xs, _, _, _, h, t => by
    simp only [RepPs] at h
    obtain ⟨v, r, rfl, h1, h2⟩ := h
    show RepPs K H (x :: (xs ++ _)) (v :: (r ++ _))
    simp only [RepPs]
    exact ⟨v, _, rfl, h1, RepPs.append h2 t⟩
section
variable {G : Gm} {X : Cx}
theorem Rep.int {μ H i v} : Rep G μ H (.p (.int i)) v ↔ v = .int i := by simp only [Rep, RepP]
theorem Rep.bl {μ H b v} : Rep G μ H (.p (.bl b)) v ↔ v = .bl b := by simp only [Rep, RepP]
theorem Rep.str {μ H b v} : Rep G μ H (.p (.str b)) v ↔ v = .str b := by simp only [Rep, RepP]
theorem Rep.non {μ H v} : Rep G μ H (.p .non) v ↔ v = .non := by simp only [Rep, RepP]
theorem Rep.ptup {μ H xs v} : Rep G μ H (.p (.tup xs)) v ↔ ∃ a vs, v = .ref a ∧ SqT G.K H a vs ∧ RepPs G.K H xs vs := by simp only [Rep, RepP]
theorem Rep.ref {μ H l v} : Rep G μ H (.ref l) v ↔ ∃ a, μ[l]? = some a ∧ v = .ref a := by simp only [Rep]
theorem Rep.tup {μ H xs v} : Rep G μ H (.tup xs) v ↔ ∃ a vs, v = .ref a ∧ SqT G.K H a vs ∧ Reps G μ H xs vs := by simp only [Rep]
/-- a new tuple -/
theorem new_ptup {μ : List Addr} {H : Hp} {M : Store} {xs : List P} {vs : List V} {p : Addr} (hp : H p = none) (r : RepPs G.K H xs vs) : Rep G μ (upd H p (.tup vs)) (.p (.tup xs)) (.ref p) :=
  Rep.ptup.mpr ⟨p, vs, rfl, SqT.of upd_same, r.ext (.new hp)⟩
theorem new_ref {μ : List Addr} {H : Hp} {M : Store} (S : SR G μ H M) (p : Addr) : Rep G (μ ++ [p]) H (.ref M.length) (.ref p) :=
  Rep.ref.mpr ⟨p, by rw [← S.len]; simp, rfl⟩
theorem new_lst {μ : List Addr} {H : Hp} {M : Store} {xs : List D} {vs : List V} {p : Addr} (S : SR G μ H M) (hp : H p = none) (r : Reps G μ H xs vs) : SR G (μ ++ [p]) (upd H p (.lst vs)) (M ++ [.lst xs]) :=
  S.new hp ⟨vs, upd_same, r.ext (.new hp) (List.prefix_append _ _)⟩
theorem SR.lst {μ : List Addr} {H : Hp} {M : Store} (S : SR G μ H M) {l : Nat} {a : Addr} {xs : List D} (h : μ[l]? = some a) (e : M[l]? = some (.lst xs)) : ∃ vs, H a = some (.lst vs) ∧ Reps G μ H xs vs := S.obj l a _ h e
abbrev rAddU (K : PySem.W.Frag) : R2 := fun x y H Q => (∃ i j, x = .int i ∧ y = .int j ∧ Q (.int (i + j)) H) ∨ (∃ i j, x = .str i ∧ y = .str j ∧ i.length + j.length ≤ sizeLine ∧ Q (.str (i ++ j)) H) ∨ rCatA K x y H Q ∨ rCat x y H Q
theorem o_add : OpR X (binaryOp .Add) (rAddU X.K) := op_add.or (op_add_str.or (op_catA.or op_cat))
theorem d_add : OpD G dAdd (rAddU G.K) := by
  intro μ H M x y v u Q d M' S rx ry q k
  unfold dAdd at q
  split at q
  · cases q
    rw [Rep.int] at rx ry
    exact .inl ⟨_, _, rx, ry, k μ _ H (.refl H) (List.prefix_refl _) S (Rep.int.mpr rfl)⟩
  · split at q
    · rename_i h
      cases q
      rw [Rep.str] at rx ry
      exact .inr (.inl ⟨_, _, rx, ry, h, k μ _ H (.refl H) (List.prefix_refl _) S (Rep.str.mpr rfl)⟩)
    · cases q
  · split at q
    · rename_i h
      cases q
      rw [Rep.ptup] at rx ry
      obtain ⟨a, vs, rfl, ha, hx⟩ := rx
      obtain ⟨b, ws, rfl, hb, hy⟩ := ry
      refine .inr (.inr (.inl ⟨a, b, vs, ws, rfl, rfl, ha, hb, by rw [← hx.length, ← hy.length]; exact h, fun e => ?_, fun e e2 => ?_, fun e e2 p hp => ?_⟩))
      · subst e
        refine k μ _ H (.refl H) (List.prefix_refl _) S (Rep.ptup.mpr ⟨b, ws, rfl, hb, ?_⟩)
        rw [List.eq_nil_of_length_eq_zero hx.length]
        exact hy
      · subst e2
        refine k μ _ H (.refl H) (List.prefix_refl _) S (Rep.ptup.mpr ⟨a, vs, rfl, ha, ?_⟩)
        rw [List.eq_nil_of_length_eq_zero hy.length, List.append_nil]
        exact hx
      · exact k μ _ _ (.new hp) (List.prefix_refl _) (S.grow hp) (new_ptup (M := M) hp (hx.append hy))
    · cases q
  · rename_i l m
    split at q
    · rename_i xs ys e1 e2
      split at q
      · rename_i h
        cases q
        rw [Rep.ref] at rx ry
        obtain ⟨a, h1, rfl⟩ := rx
        obtain ⟨b, h2, rfl⟩ := ry
        obtain ⟨vs, h3, h4⟩ := S.lst h1 e1
        obtain ⟨ws, h5, h6⟩ := S.lst h2 e2
        refine .inr (.inr (.inr ⟨a, b, vs, ws, rfl, rfl, h3, h5, by rw [← h4.length, ← h6.length]; exact h, fun p hp => ?_⟩))
        exact k (μ ++ [p]) _ _ (.new hp) (List.prefix_append _ _) (new_lst S hp (h4.app h6)) (new_ref S p)
      · cases q
    · cases q
  · cases q
theorem d_sub : OpD G dSub (rI0 fun i j => .int (i - j)) := by
  intro μ H M x y v u Q d M' S rx ry q k
  unfold dSub at q
  split at q
  · cases q
    rw [Rep.int] at rx ry
    exact ⟨_, _, rx, ry, k μ _ H (.refl H) (List.prefix_refl _) S (Rep.int.mpr rfl)⟩
  · cases q
theorem o_mul : OpR X (binaryOp .Mult) (fun x y H Q => rI CMul (fun i j => .int (i * j)) x y H Q ∨ rI CMulW (fun i j => .int (i * j)) x y H Q ∨ rRep x y H Q) := op_mul.or (op_mulW.or op_rep)
theorem d_mul : OpD G dMul (fun x y H Q => rI CMul (fun i j => .int (i * j)) x y H Q ∨ rI CMulW (fun i j => .int (i * j)) x y H Q ∨ rRep x y H Q) := by
  intro μ H M x y v u Q d M' S rx ry q k
  unfold dMul at q
  split at q
  · split at q
    · rename_i h
      cases q
      rw [Rep.int] at rx ry
      rcases h with h | h
      · exact .inl ⟨_, _, rx, ry, h, k μ _ H (.refl H) (List.prefix_refl _) S (Rep.int.mpr rfl)⟩
      · exact .inr (.inl ⟨_, _, rx, ry, h, k μ _ H (.refl H) (List.prefix_refl _) S (Rep.int.mpr rfl)⟩)
    · cases q
  · split at q
    · rename_i xs e1
      split at q
      · rename_i h
        cases q
        rw [Rep.int] at ry
        rw [Rep.ref] at rx
        obtain ⟨a, h1, rfl⟩ := rx
        obtain ⟨vs, h3, h4⟩ := S.lst h1 e1
        refine .inr (.inr ⟨a, _, vs, rfl, ry, h3, h.1, h.2.1, by rw [← h4.length]; exact h.2.2, fun p hp => ?_⟩)
        have rep : ∀ n : Nat, Reps G μ H (List.replicate n xs).flatten (List.replicate n vs).flatten := fun n => by
          induction n with
          | zero => exact .nil
          | succ n ih => rw [List.replicate_succ, List.replicate_succ, List.flatten_cons, List.flatten_cons]; exact h4.app ih
        exact k (μ ++ [p]) _ _ (.new hp) (List.prefix_append _ _) (new_lst S hp (rep _)) (new_ref S p)
      · cases q
    · cases q
  · cases q
theorem d_div : OpD G dDiv (rI CDivW fun i j => .int (i / j)) := by
  intro μ H M x y v u Q d M' S rx ry q k
  unfold dDiv at q
  split at q
  · split at q
    · rename_i h
      cases q
      rw [Rep.int] at rx ry
      exact ⟨_, _, rx, ry, h, k μ _ H (.refl H) (List.prefix_refl _) S (Rep.int.mpr rfl)⟩
    · cases q
  · cases q
theorem d_mod : OpD G dMod (rI (fun _ j => j ≠ 0) fun i j => .int (i.fmod j)) := by
  intro μ H M x y v u Q d M' S rx ry q k
  unfold dMod at q
  split at q
  · split at q
    · rename_i h
      cases q
      rw [Rep.int] at rx ry
      exact ⟨_, _, rx, ry, h, k μ _ H (.refl H) (List.prefix_refl _) S (Rep.int.mpr rfl)⟩
    · cases q
  · cases q
theorem d_pow : OpD G dPow (rI CPow fun i j => .int (i ^ j.toNat)) := by
  intro μ H M x y v u Q d M' S rx ry q k
  unfold dPow at q
  split at q
  · split at q
    · rename_i h
      cases q
      rw [Rep.int] at rx ry
      exact ⟨_, _, rx, ry, h, k μ _ H (.refl H) (List.prefix_refl _) S (Rep.int.mpr rfl)⟩
    · cases q
  · cases q
theorem d_neg : OpU G dNeg (rU fun i => .int (-i)) := by
  intro μ H M x v Q d M' S rx q k
  unfold dNeg at q
  split at q
  · cases q
    rw [Rep.int] at rx
    exact ⟨_, rx, k μ _ H (.refl H) (List.prefix_refl _) S (Rep.int.mpr rfl)⟩
  · cases q
end
end Fl

set_option Elab.async false
set_option linter.all false
set_option maxRecDepth 100000
/-! Fl, part C: equality of data. -/
namespace Fl
open PySem PySem.Spec L2 PySem.SeqAt
set_option autoImplicit false

mutual
def P.eqv : P → P → Bool
  | .non, .non => true
  | .bl a, .bl b => a == b
  | .bl a, .int j => (if a then 1 else 0) == j
  | .int i, .bl b => i == (if b then 1 else 0)
  | .int i, .int j => i == j
  | .str x, .str y => x == y
  | .tup xs, .tup ys => P.eqvs xs ys
  | .non, .bl _ | .non, .int _ | .non, .str _ | .non, .tup _ => false
  | .bl _, .non | .bl _, .str _ | .bl _, .tup _ => false
  | .int _, .non | .int _, .str _ | .int _, .tup _ => false
  | .str _, .non | .str _, .bl _ | .str _, .int _ | .str _, .tup _ => false
  | .tup _, .non | .tup _, .bl _ | .tup _, .int _ | .tup _, .str _ => false
def P.eqvs : List P → List P → Bool
  | [], [] => true
  | x :: xs, y :: ys => P.eqv x y && P.eqvs xs ys
  | [], _ :: _ => false
  | _ :: _, [] => false
end
mutual
def P.depth : P → Nat
  | .tup xs => P.depths xs + 1
  | .non => 0
  | .bl _ => 0
  | .int _ => 0
  | .str _ => 0
def P.depths : List P → Nat
  | [] => 0
  | x :: xs => max (P.depth x) (P.depths xs)
end
mutual
theorem P.eqv_refl : ∀ x : P, P.eqv x x = true
  | .non => rfl
  | .bl b => by simp [P.eqv]
  | .int i => by simp [P.eqv]
  | .str x => by simp [P.eqv]
  | .tup xs => by rw [P.eqv]; exact P.eqvs_refl xs
theorem P.eqvs_refl : ∀ xs : List P, P.eqvs xs xs = true
  | [] => rfl
  | x :: xs => by rw [P.eqvs, P.eqv_refl x, P.eqvs_refl xs]; rfl
end
abbrev pairP (xs ys : List P) (j : Nat) : Bool := P.eqv (xs.getD j .non) (ys.getD j .non)
theorem P.eqvs_eq : ∀ xs ys : List P, ((List.range (min xs.length ys.length)).all (pairP xs ys) && xs.length == ys.length) = P.eqvs xs ys
  | [], [] => rfl
  | [], _ :: _ => by simp [P.eqvs]
  | _ :: _, [] => by simp [P.eqvs]
  | x :: xs, y :: ys => by
    have ih := P.eqvs_eq xs ys
    have e1 : min (x :: xs).length (y :: ys).length = min xs.length ys.length + 1 := by simp only [List.length_cons]; omega
    have e2 : ((x :: xs).length == (y :: ys).length) = (xs.length == ys.length) := by simp
    have e3 : (List.range (min xs.length ys.length + 1)).all (pairP (x :: xs) (y :: ys)) = (P.eqv x y && (List.range (min xs.length ys.length)).all (pairP xs ys)) := by
      rw [List.range_succ_eq_map, List.all_cons, List.all_map]
      first | rfl | simp [pairP, Function.comp_def]
    rw [e1, e2, e3, P.eqvs, ← ih, Bool.and_assoc]
section
variable {X : Cx} {pins : List (Addr × Obj)} {σ : St} {H : Hp} {s : Shared}
mutual
theorem RepP.inj (I : Inv X pins σ H s) : ∀ (x y : P) (v : V), RepP X.K H x v → RepP X.K H y v → x = y
  | .non, y, v, h, h' => by
    simp only [RepP] at h; subst h
    cases y <;> simp [RepP] at h'; rfl
  | .bl b, y, v, h, h' => by
    simp only [RepP] at h; subst h
    cases y <;> simp [RepP] at h'; rw [h']
  | .int b, y, v, h, h' => by
    simp only [RepP] at h; subst h
    cases y <;> simp [RepP] at h'; rw [h']
  | .str b, y, v, h, h' => by
    simp only [RepP] at h; subst h
    cases y <;> simp [RepP] at h'; rw [h']
  | .tup xs, y, v, h, h' => by
    simp only [RepP] at h
    obtain ⟨a, vs, rfl, h1, h2⟩ := h
    cases y with
    | tup ys =>
      simp only [RepP] at h'
      obtain ⟨b, ws, e, h3, h4⟩ := h'
      cases e
      rw [← I.tuple_inj h1 h3] at h4
      rw [RepPs.inj I xs ys vs h2 h4]
    | _ => simp [RepP] at h'
theorem RepPs.inj (I : Inv X pins σ H s) : ∀ (xs ys : List P) (vs : List V), RepPs X.K H xs vs → RepPs X.K H ys vs → xs = ys
  | [], ys, vs, h, h' => by
    simp only [RepPs] at h; subst h
    cases ys with
    | nil => rfl
    | cons y ys => simp [RepPs] at h'
  | x :: xs, ys, vs, h, h' => by
    simp only [RepPs] at h
    obtain ⟨v, r, rfl, h1, h2⟩ := h
    cases ys with
    | nil => simp [RepPs] at h'
    | cons y ys =>
      simp only [RepPs] at h'
      obtain ⟨v', r', e, h3, h4⟩ := h'
      cases e
      rw [RepP.inj I x y v h1 h3, RepPs.inj I xs ys r h2 h4]
end
theorem tup_at (I : Inv X pins σ H s) {a : Addr} {vs : List V} {xs : List P} (h : SqT X.K H a vs) (r : RepPs X.K H xs vs) : ∃ its : List Value, Vals vs its ∧ s.heap.IsTuple a its.toArray ∧ its.toArray.size = xs.length := by
  obtain ⟨its, rv, p, _⟩ := I.tuple h
  exact ⟨its, rv, p, by simp [← rv.length, ← r.length]⟩
theorem room1 {A : Around} {m n : Nat} (h : A.units + min (m + 1) (n + 1) < cLine) : A.units < cLine := by omega
mutual
theorem eqAt_P (I : Inv X pins σ H s) : ∀ (x y : P) (A : Around) (v u : V) (a b : Value), RepP X.K H x v → RepP X.K H y u → RelV v a → RelV u b → A.units + min x.depth y.depth < cLine → A.units < cLine → EqAt A s a b (P.eqv x y)
  | .non, y, A, v, u, a, b, hx, hy, ra, rb, hu, h0 => by
    simp only [RepP] at hx; subst hx; cases ra
    cases y with
    | non => simp only [RepP] at hy; subst hy; cases rb; exact EqAt.same _
    | bl c => simp only [RepP] at hy; subst hy; cases rb; exact EqAt.none_bool c
    | int c => simp only [RepP] at hy; subst hy; obtain ⟨t, rfl⟩ := rb; exact EqAt.none_int c t
    | str c => simp only [RepP] at hy; subst hy; obtain ⟨t, rfl⟩ := rb; exact EqAt.none_str c t
    | tup ys =>
      simp only [RepP] at hy
      obtain ⟨l, ws, rfl, k1, k2⟩ := hy
      cases rb
      obtain ⟨its, _, p, _⟩ := tup_at I k1 k2
      exact EqAt.none_tuple p h0
  | .bl x, y, A, v, u, a, b, hx, hy, ra, rb, hu, h0 => by
    simp only [RepP] at hx; subst hx; cases ra
    cases y with
    | non => simp only [RepP] at hy; subst hy; cases rb; exact EqAt.bool_none x
    | bl c => simp only [RepP] at hy; subst hy; cases rb; exact EqAt.bool_bool x c
    | int c => simp only [RepP] at hy; subst hy; obtain ⟨t, rfl⟩ := rb; exact EqAt.bool_int x c t
    | str c => simp only [RepP] at hy; subst hy; obtain ⟨t, rfl⟩ := rb; exact EqAt.bool_str x c t
    | tup ys =>
      simp only [RepP] at hy
      obtain ⟨l, ws, rfl, k1, k2⟩ := hy
      cases rb
      obtain ⟨its, _, p, _⟩ := tup_at I k1 k2
      exact EqAt.bool_tuple x p h0
  | .int x, y, A, v, u, a, b, hx, hy, ra, rb, hu, h0 => by
    simp only [RepP] at hx; subst hx; obtain ⟨tx, rfl⟩ := ra
    cases y with
    | non => simp only [RepP] at hy; subst hy; cases rb; exact EqAt.int_none x tx
    | bl c => simp only [RepP] at hy; subst hy; cases rb; exact EqAt.int_bool x tx c
    | int c => simp only [RepP] at hy; subst hy; obtain ⟨t, rfl⟩ := rb; exact EqAt.int_int x tx c t
    | str c => simp only [RepP] at hy; subst hy; obtain ⟨t, rfl⟩ := rb; exact EqAt.int_str x tx c t
    | tup ys =>
      simp only [RepP] at hy
      obtain ⟨l, ws, rfl, k1, k2⟩ := hy
      cases rb
      obtain ⟨its, _, p, _⟩ := tup_at I k1 k2
      exact EqAt.int_tuple x tx p h0
  | .str x, y, A, v, u, a, b, hx, hy, ra, rb, hu, h0 => by
    simp only [RepP] at hx; subst hx; obtain ⟨tx, rfl⟩ := ra
    cases y with
    | non => simp only [RepP] at hy; subst hy; cases rb; exact EqAt.str_none x tx
    | bl c => simp only [RepP] at hy; subst hy; cases rb; exact EqAt.str_bool x tx c
    | int c => simp only [RepP] at hy; subst hy; obtain ⟨t, rfl⟩ := rb; exact EqAt.str_int x tx c t
    | str c => simp only [RepP] at hy; subst hy; obtain ⟨t, rfl⟩ := rb; exact EqAt.str_str x tx c t
    | tup ys =>
      simp only [RepP] at hy
      obtain ⟨l, ws, rfl, k1, k2⟩ := hy
      cases rb
      obtain ⟨its, _, p, _⟩ := tup_at I k1 k2
      exact EqAt.str_tuple x tx p h0
  | .tup xs, y, A, v, u, a, b, hx, hy, ra, rb, hu, h0 => by
    simp only [RepP] at hx
    obtain ⟨l, vs, rfl, h1, h2⟩ := hx
    cases ra
    obtain ⟨its, rv, p, n1⟩ := tup_at I h1 h2
    cases y with
    | non => simp only [RepP] at hy; subst hy; cases rb; exact EqAt.tuple_none p h0
    | bl c => simp only [RepP] at hy; subst hy; cases rb; exact EqAt.tuple_bool c p h0
    | int c => simp only [RepP] at hy; subst hy; obtain ⟨t, rfl⟩ := rb; exact EqAt.tuple_int c t p h0
    | str c => simp only [RepP] at hy; subst hy; obtain ⟨t, rfl⟩ := rb; exact EqAt.tuple_str c t p h0
    | tup ys =>
      simp only [RepP] at hy
      obtain ⟨m, ws, rfl, k1, k2⟩ := hy
      cases rb
      obtain ⟨its2, rw2, p2, n2⟩ := tup_at I k1 k2
      rw [P.eqv]
      by_cases hll : l = m
      · subst hll
        rw [← I.tuple_inj h1 k1] at k2
        rw [RepPs.inj I xs ys vs h2 k2, P.eqvs_refl]
        exact EqAt.same _
      · rw [← P.eqvs_eq xs ys, ← n1, ← n2]
        have hu' : A.units + min (P.depths xs + 1) (P.depths ys + 1) < cLine := by simpa only [P.depth] using hu
        refine EqAt.of_refs hll (RcAt.tuples p p2 h0 fun j j1 j2 => ?_)
        have e1 : A.in1.units = A.units + 1 := by first | rfl | simp [Around.in1]
        have := eqAt_Ps I xs ys A.in1 vs ws its its2 h2 k2 rv rw2 (by rw [e1]; omega) (by rw [e1]; omega) j (by simpa using j1) (by simpa using j2)
        simpa using this
theorem eqAt_Ps (I : Inv X pins σ H s) : ∀ (xs ys : List P) (A : Around) (vs us : List V) (as bs : List Value), RepPs X.K H xs vs → RepPs X.K H ys us → Vals vs as → Vals us bs → A.units + min (P.depths xs) (P.depths ys) < cLine → A.units < cLine →
    ∀ j (h1 : j < as.length) (h2 : j < bs.length), EqAt A s as[j] bs[j] (pairP xs ys j)
  | [], ys, A, vs, us, as, bs, hx, hy, ra, rb, hu, h0, j, h1, h2 => by
    simp only [RepPs] at hx; subst hx; cases ra; exact absurd h1 (Nat.not_lt_zero _)
  | _ :: _, [], A, vs, us, as, bs, hx, hy, ra, rb, hu, h0, j, h1, h2 => by
    simp only [RepPs] at hy; subst hy; cases rb; exact absurd h2 (Nat.not_lt_zero _)
  | x :: xs, y :: ys, A, vs, us, as, bs, hx, hy, ra, rb, hu, h0, j, h1, h2 => by
    simp only [RepPs] at hx hy
    obtain ⟨v, r, rfl, hx1, hx2⟩ := hx
    obtain ⟨u, r', rfl, hy1, hy2⟩ := hy
    simp only [P.depths] at hu
    cases ra with
    | cons q qs =>
      cases rb with
      | cons q' qs' =>
        cases j with
        | zero => exact eqAt_P I x y A v u _ _ hx1 hy1 q q' (by omega) h0
        | succ j => exact eqAt_Ps I xs ys A r r' _ _ hx2 hy2 qs qs' (by omega) h0 j (Nat.lt_of_succ_lt_succ h1) (Nat.lt_of_succ_lt_succ h2)
end
theorem rcAt_P (I : Inv X pins σ H s) (x y : P) (A : Around) (v u : V) (a b : Value) (hx : RepP X.K H x v) (hy : RepP X.K H y u) (ra : RelV v a) (rb : RelV u b) (hu : A.units + min x.depth y.depth < cLine) (h0 : A.units < cLine) : RcAt A s a b (P.eqv x y) := by
  cases x with
  | non =>
    simp only [RepP] at hx; subst hx; cases ra
    cases y with
    | non => simp only [RepP] at hy; subst hy; cases rb; exact RcAt.none_none
    | bl c => simp only [RepP] at hy; subst hy; cases rb; exact RcAt.none_bool c
    | int c => simp only [RepP] at hy; subst hy; obtain ⟨t, rfl⟩ := rb; exact RcAt.none_int c t
    | str c => simp only [RepP] at hy; subst hy; obtain ⟨t, rfl⟩ := rb; exact RcAt.none_str c t
    | tup ys =>
      simp only [RepP] at hy
      obtain ⟨l, ws, rfl, k1, k2⟩ := hy
      cases rb
      obtain ⟨its, _, p, _⟩ := tup_at I k1 k2
      exact RcAt.none_tuple p h0
  | bl x =>
    simp only [RepP] at hx; subst hx; cases ra
    cases y with
    | non => simp only [RepP] at hy; subst hy; cases rb; exact RcAt.bool_none x
    | bl c => simp only [RepP] at hy; subst hy; cases rb; exact RcAt.bool_bool x c
    | int c => simp only [RepP] at hy; subst hy; obtain ⟨t, rfl⟩ := rb; exact RcAt.bool_int x c t
    | str c => simp only [RepP] at hy; subst hy; obtain ⟨t, rfl⟩ := rb; exact RcAt.bool_str x c t
    | tup ys =>
      simp only [RepP] at hy
      obtain ⟨l, ws, rfl, k1, k2⟩ := hy
      cases rb
      obtain ⟨its, _, p, _⟩ := tup_at I k1 k2
      exact RcAt.bool_tuple x p h0
  | int x =>
    simp only [RepP] at hx; subst hx; obtain ⟨tx, rfl⟩ := ra
    cases y with
    | non => simp only [RepP] at hy; subst hy; cases rb; exact RcAt.int_none x tx
    | bl c => simp only [RepP] at hy; subst hy; cases rb; exact RcAt.int_bool x tx c
    | int c => simp only [RepP] at hy; subst hy; obtain ⟨t, rfl⟩ := rb; exact RcAt.int_int x tx c t
    | str c => simp only [RepP] at hy; subst hy; obtain ⟨t, rfl⟩ := rb; exact RcAt.int_str x tx c t
    | tup ys =>
      simp only [RepP] at hy
      obtain ⟨l, ws, rfl, k1, k2⟩ := hy
      cases rb
      obtain ⟨its, _, p, _⟩ := tup_at I k1 k2
      exact RcAt.int_tuple x tx p h0
  | str x =>
    simp only [RepP] at hx; subst hx; obtain ⟨tx, rfl⟩ := ra
    cases y with
    | non => simp only [RepP] at hy; subst hy; cases rb; exact RcAt.str_none x tx
    | bl c => simp only [RepP] at hy; subst hy; cases rb; exact RcAt.str_bool x tx c
    | int c => simp only [RepP] at hy; subst hy; obtain ⟨t, rfl⟩ := rb; exact RcAt.str_int x tx c t
    | str c => simp only [RepP] at hy; subst hy; obtain ⟨t, rfl⟩ := rb; exact RcAt.str_str x tx c t
    | tup ys =>
      simp only [RepP] at hy
      obtain ⟨l, ws, rfl, k1, k2⟩ := hy
      cases rb
      obtain ⟨its, _, p, _⟩ := tup_at I k1 k2
      exact RcAt.str_tuple x tx p h0
  | tup xs =>
    simp only [RepP] at hx
    obtain ⟨l, vs, rfl, h1, h2⟩ := hx
    cases ra
    obtain ⟨its, rv, p, n1⟩ := tup_at I h1 h2
    cases y with
    | non => simp only [RepP] at hy; subst hy; cases rb; exact RcAt.tuple_none p h0
    | bl c => simp only [RepP] at hy; subst hy; cases rb; exact RcAt.tuple_bool c p h0
    | int c => simp only [RepP] at hy; subst hy; obtain ⟨t, rfl⟩ := rb; exact RcAt.tuple_int c t p h0
    | str c => simp only [RepP] at hy; subst hy; obtain ⟨t, rfl⟩ := rb; exact RcAt.tuple_str c t p h0
    | tup ys =>
      simp only [RepP] at hy
      obtain ⟨m, ws, rfl, k1, k2⟩ := hy
      cases rb
      obtain ⟨its2, rw2, p2, n2⟩ := tup_at I k1 k2
      have hu' : A.units + min (P.depths xs + 1) (P.depths ys + 1) < cLine := by simpa only [P.depth] using hu
      rw [P.eqv, ← P.eqvs_eq xs ys, ← n1, ← n2]
      refine RcAt.tuples p p2 h0 fun j j1 j2 => ?_
      have e1 : A.in1.units = A.units + 1 := by first | rfl | simp [Around.in1]
      have := eqAt_Ps I xs ys A.in1 vs ws its its2 h2 k2 rv rw2 (by rw [e1]; omega) (by rw [e1]; omega) j (by simpa using j1) (by simpa using j2)
      simpa using this
end
end Fl

set_option Elab.async false
set_option linter.all false
set_option maxRecDepth 100000
/-! Fl, part D: comparisons, tests, displays. -/
namespace Fl
open PySem PySem.Spec L2 PySem.SeqAt
set_option autoImplicit false
section
variable {X : Cx} {pins : List (Addr × Obj)} {σ : St} {H : Hp} {s : Shared}
theorem rcNeAt_P (I : Inv X pins σ H s) (x y : P) (A : Around) (v u : V) (a b : Value) (hx : RepP X.K H x v) (hy : RepP X.K H y u) (ra : RelV v a) (rb : RelV u b) (hu : A.units + min x.depth y.depth < cLine) (h0 : A.units < cLine) : RcNeAt A s a b (!P.eqv x y) := by
  cases x with
  | non =>
    simp only [RepP] at hx; subst hx; cases ra
    cases y with
    | non => simp only [RepP] at hy; subst hy; cases rb; exact RcNeAt.none_none
    | bl c => simp only [RepP] at hy; subst hy; cases rb; exact RcNeAt.none_bool c
    | int c => simp only [RepP] at hy; subst hy; obtain ⟨t, rfl⟩ := rb; exact RcNeAt.none_int c t
    | str c => simp only [RepP] at hy; subst hy; obtain ⟨t, rfl⟩ := rb; exact RcNeAt.none_str c t
    | tup ys =>
      simp only [RepP] at hy
      obtain ⟨l, ws, rfl, k1, k2⟩ := hy
      cases rb
      obtain ⟨its, _, p, _⟩ := tup_at I k1 k2
      exact RcNeAt.none_tuple p h0
  | bl x =>
    simp only [RepP] at hx; subst hx; cases ra
    cases y with
    | non => simp only [RepP] at hy; subst hy; cases rb; exact RcNeAt.bool_none x
    | bl c => simp only [RepP] at hy; subst hy; cases rb; exact RcNeAt.bool_bool x c
    | int c => simp only [RepP] at hy; subst hy; obtain ⟨t, rfl⟩ := rb; exact RcNeAt.bool_int x c t
    | str c => simp only [RepP] at hy; subst hy; obtain ⟨t, rfl⟩ := rb; exact RcNeAt.bool_str x c t
    | tup ys =>
      simp only [RepP] at hy
      obtain ⟨l, ws, rfl, k1, k2⟩ := hy
      cases rb
      obtain ⟨its, _, p, _⟩ := tup_at I k1 k2
      exact RcNeAt.bool_tuple x p h0
  | int x =>
    simp only [RepP] at hx; subst hx; obtain ⟨tx, rfl⟩ := ra
    cases y with
    | non => simp only [RepP] at hy; subst hy; cases rb; exact RcNeAt.int_none x tx
    | bl c => simp only [RepP] at hy; subst hy; cases rb; exact RcNeAt.int_bool x tx c
    | int c => simp only [RepP] at hy; subst hy; obtain ⟨t, rfl⟩ := rb; exact RcNeAt.int_int x tx c t
    | str c => simp only [RepP] at hy; subst hy; obtain ⟨t, rfl⟩ := rb; exact RcNeAt.int_str x tx c t
    | tup ys =>
      simp only [RepP] at hy
      obtain ⟨l, ws, rfl, k1, k2⟩ := hy
      cases rb
      obtain ⟨its, _, p, _⟩ := tup_at I k1 k2
      exact RcNeAt.int_tuple x tx p h0
  | str x =>
    simp only [RepP] at hx; subst hx; obtain ⟨tx, rfl⟩ := ra
    cases y with
    | non => simp only [RepP] at hy; subst hy; cases rb; exact RcNeAt.str_none x tx
    | bl c => simp only [RepP] at hy; subst hy; cases rb; exact RcNeAt.str_bool x tx c
    | int c => simp only [RepP] at hy; subst hy; obtain ⟨t, rfl⟩ := rb; exact RcNeAt.str_int x tx c t
    | str c => simp only [RepP] at hy; subst hy; obtain ⟨t, rfl⟩ := rb; exact RcNeAt.str_str x tx c t
    | tup ys =>
      simp only [RepP] at hy
      obtain ⟨l, ws, rfl, k1, k2⟩ := hy
      cases rb
      obtain ⟨its, _, p, _⟩ := tup_at I k1 k2
      exact RcNeAt.str_tuple x tx p h0
  | tup xs =>
    simp only [RepP] at hx
    obtain ⟨l, vs, rfl, h1, h2⟩ := hx
    cases ra
    obtain ⟨its, rv, p, n1⟩ := tup_at I h1 h2
    cases y with
    | non => simp only [RepP] at hy; subst hy; cases rb; exact RcNeAt.tuple_none p h0
    | bl c => simp only [RepP] at hy; subst hy; cases rb; exact RcNeAt.tuple_bool c p h0
    | int c => simp only [RepP] at hy; subst hy; obtain ⟨t, rfl⟩ := rb; exact RcNeAt.tuple_int c t p h0
    | str c => simp only [RepP] at hy; subst hy; obtain ⟨t, rfl⟩ := rb; exact RcNeAt.tuple_str c t p h0
    | tup ys =>
      simp only [RepP] at hy
      obtain ⟨m, ws, rfl, k1, k2⟩ := hy
      cases rb
      obtain ⟨its2, rw2, p2, n2⟩ := tup_at I k1 k2
      have hu' : A.units + min (P.depths xs + 1) (P.depths ys + 1) < cLine := by simpa only [P.depth] using hu
      rw [P.eqv, ← P.eqvs_eq xs ys, ← n1, ← n2]
      refine RcNeAt.tuples p p2 h0 fun j j1 j2 => ?_
      have e1 : A.in1.units = A.units + 1 := by first | rfl | simp [Around.in1]
      have := eqAt_Ps I xs ys A.in1 vs ws its its2 h2 k2 rv rw2 (by rw [e1]; omega) (by rw [e1]; omega) j (by simpa using j1) (by simpa using j2)
      simpa using this

/-- the item of a row that a value is -/
theorem any_P (I : Inv X pins σ H s) {x : P} {b : Value} : ∀ {xs : List P} {vs : List V} {its : List Value}, RepPs X.K H xs vs → Vals vs its →
    ∃ e : Value → Bool, its.any e = xs.any (fun z => P.eqv z x) ∧ ∀ y ∈ its, ∃ z v, z ∈ xs ∧ RepP X.K H z v ∧ RelV v y ∧ e y = P.eqv z x := by
  classical
  intro xs vs its h r
  have key : ∀ (xs : List P) (vs : List V) (its : List Value), RepPs X.K H xs vs → Vals vs its → ∀ e : Value → Bool, (∀ z v y, RepP X.K H z v → RelV v y → e y = P.eqv z x) →
      its.any e = xs.any (fun z => P.eqv z x) ∧ ∀ y ∈ its, ∃ z v, z ∈ xs ∧ RepP X.K H z v ∧ RelV v y ∧ e y = P.eqv z x := by
    intro xs
    induction xs with
    | nil =>
      intro vs its h r e he
      simp only [RepPs] at h; subst h; cases r
      exact ⟨rfl, fun y hy => nomatch hy⟩
    | cons z xs ih =>
      intro vs its h r e he
      simp only [RepPs] at h
      obtain ⟨v, vr, rfl, h1, h2⟩ := h
      cases r with
      | cons q qs =>
        obtain ⟨a1, a2⟩ := ih _ _ h2 qs e he
        refine ⟨by rw [List.any_cons, List.any_cons, a1, he z v _ h1 q], fun y hy => ?_⟩
        rcases List.mem_cons.mp hy with rfl | hy
        · exact ⟨z, v, List.mem_cons_self, h1, q, he z v _ h1 q⟩
        · obtain ⟨z', v', hz, k⟩ := a2 y hy
          exact ⟨z', v', List.mem_cons_of_mem _ hz, k⟩
  let e : Value → Bool := fun y => decide (∃ z v, RepP X.K H z v ∧ RelV v y ∧ P.eqv z x = true)
  refine ⟨e, key xs vs its h r e fun z v y h1 h2 => ?_⟩
  show decide (∃ z v, RepP X.K H z v ∧ RelV v y ∧ P.eqv z x = true) = P.eqv z x
  cases q : P.eqv z x with
  | true => exact decide_eq_true ⟨z, v, h1, h2, q⟩
  | false =>
    refine decide_eq_false ?_
    rintro ⟨z', v', g1, g2, g3⟩
    have := g2.inj h2
    subst this
    rw [RepP.inj I z' z v' g1 h1, q] at g3
    cases g3
end
/-! ### comparisons -/
def dOk (x y : P) : Prop := min x.depth y.depth ≤ 100
instance (x y : P) : Decidable (dOk x y) := by unfold dOk; infer_instance
def dEq : D → D → Store → Option (D × Store)
  | .p x, .p y, M => if dOk x y then some (.p (.bl (P.eqv x y)), M) else none
  | _, _, _ => none
def dNe : D → D → Store → Option (D × Store)
  | .p x, .p y, M => if dOk x y then some (.p (.bl (!P.eqv x y)), M) else none
  | _, _, _ => none
def rEqP (K : PySem.W.Frag) : R2 := fun v u H Q => ∃ x y, RepP K H x v ∧ RepP K H y u ∧ dOk x y ∧ Q (.bl (P.eqv x y)) H
def rNeP (K : PySem.W.Frag) : R2 := fun v u H Q => ∃ x y, RepP K H x v ∧ RepP K H y u ∧ dOk x y ∧ Q (.bl (!P.eqv x y)) H
section
variable {X : Cx} {G : Gm}
theorem o_eq (hu : X.A.units + 120 < cLine) : OpR X (compareOp .Eq) (rEqP X.K) := by
  intro pins s σ H v u a b Q I ra rb h
  obtain ⟨x, y, hx, hy, hd, q⟩ := h
  unfold dOk at hd
  exact rcAt_P I x y X.A v u a b hx hy ra rb (by omega) (by omega) _ _ _ _ ⟨.bl _, H, I, rfl, q⟩
theorem o_ne (hu : X.A.units + 120 < cLine) : OpR X (compareOp .NotEq) (rNeP X.K) := by
  intro pins s σ H v u a b Q I ra rb h
  obtain ⟨x, y, hx, hy, hd, q⟩ := h
  unfold dOk at hd
  exact rcNeAt_P I x y X.A v u a b hx hy ra rb (by omega) (by omega) _ _ _ _ ⟨.bl _, H, I, rfl, q⟩
theorem d_eq : OpD G dEq (rEqP G.K) := by
  intro μ H M x y v u Q d M' S rx ry q k
  unfold dEq at q
  split at q
  · split at q
    · rename_i h
      cases q
      simp only [Rep] at rx ry
      exact ⟨_, _, rx, ry, h, k μ _ H (.refl H) (List.prefix_refl _) S (Rep.bl.mpr rfl)⟩
    · cases q
  · cases q
theorem d_ne : OpD G dNe (rNeP G.K) := by
  intro μ H M x y v u Q d M' S rx ry q k
  unfold dNe at q
  split at q
  · split at q
    · rename_i h
      cases q
      simp only [Rep] at rx ry
      exact ⟨_, _, rx, ry, h, k μ _ H (.refl H) (List.prefix_refl _) S (Rep.bl.mpr rfl)⟩
    · cases q
  · cases q
end
/-- ints, texts -/
def dOrd (p : Int → Int → Bool) (q : List Nat → List Nat → Bool) : D → D → Store → Option (D × Store)
  | .p (.int i), .p (.int j), M => some (.p (.bl (p i j)), M)
  | .p (.str x), .p (.str y), M => some (.p (.bl (q x.cps.toList y.cps.toList)), M)
  | _, _, _ => none
abbrev rOrd (p : Int → Int → Bool) (q : List Nat → List Nat → Bool) : R2 := fun x y H Q => (∃ i j, x = .int i ∧ y = .int j ∧ Q (.bl (p i j)) H) ∨ (∃ i j, x = .str i ∧ y = .str j ∧ Q (.bl (q i.cps.toList j.cps.toList)) H)
def dLt := dOrd (fun i j => decide (i < j)) (fun x y => decide (x < y))
def dLe := dOrd (fun i j => decide (i ≤ j)) (fun x y => !decide (y < x))
def dGt := dOrd (fun i j => decide (j < i)) (fun x y => decide (y < x))
def dGe := dOrd (fun i j => decide (j ≤ i)) (fun x y => !decide (x < y))
section
variable {X : Cx} {G : Gm}
theorem d_ord {p q} : OpD G (dOrd p q) (rOrd p q) := by
  intro μ H M x y v u Q d M' S rx ry e k
  unfold dOrd at e
  split at e
  · cases e
    rw [Rep.int] at rx ry
    exact .inl ⟨_, _, rx, ry, k μ _ H (.refl H) (List.prefix_refl _) S (Rep.bl.mpr rfl)⟩
  · cases e
    rw [Rep.str] at rx ry
    exact .inr ⟨_, _, rx, ry, k μ _ H (.refl H) (List.prefix_refl _) S (Rep.bl.mpr rfl)⟩
  · cases e
theorem o_lt : OpR X (compareOp .Lt) (rOrd (fun i j => decide (i < j)) (fun x y => decide (x < y))) := op_lt.or op_lt_str
theorem o_le : OpR X (compareOp .LtE) (rOrd (fun i j => decide (i ≤ j)) (fun x y => !decide (y < x))) := op_le.or op_le_str
theorem o_gt : OpR X (compareOp .Gt) (rOrd (fun i j => decide (j < i)) (fun x y => decide (y < x))) := op_gt.or op_gt_str
theorem o_ge : OpR X (compareOp .GtE) (rOrd (fun i j => decide (j ≤ i)) (fun x y => !decide (x < y))) := op_ge.or op_ge_str
end
/-- x is None -/
def isNon : D → Bool
  | .p .non => true
  | _ => false
def dIsN : D → D → Store → Option (D × Store)
  | x, .p .non, M => some (.p (.bl (isNon x)), M)
  | _, _, _ => none
def dNotN : D → D → Store → Option (D × Store)
  | x, .p .non, M => some (.p (.bl (!isNon x)), M)
  | _, _, _ => none
section
variable {X : Cx} {G : Gm}
theorem isNon_ok {μ H} {x : D} {v : V} (r : Rep G μ H x v) : isNon x = decide (v = .non) := by
  cases x with
  | p x =>
    cases x with
    | non => rw [Rep.non] at r; subst r; rfl
    | bl b => rw [Rep.bl] at r; subst r; rfl
    | int b => rw [Rep.int] at r; subst r; rfl
    | str b => rw [Rep.str] at r; subst r; rfl
    | tup b => rw [Rep.ptup] at r; obtain ⟨_, _, rfl, _⟩ := r; rfl
  | ref l => rw [Rep.ref] at r; obtain ⟨_, _, rfl⟩ := r; rfl
  | tup b => rw [Rep.tup] at r; obtain ⟨_, _, rfl, _⟩ := r; rfl
  | gl x => simp only [Rep] at r; obtain ⟨_, _, rfl⟩ := r; rfl
  | exv a => simp only [Rep] at r; subst r; rfl
  | exf a d fs => simp only [Rep] at r; obtain ⟨rfl, _⟩ := r; rfl
  | lam i => simp only [Rep] at r; obtain ⟨rfl, _⟩ := r; rfl
theorem d_isN : OpD G dIsN (fun x y H Q => y = .non ∧ Q (.bl (decide (x = .non))) H) := by
  intro μ H M x y v u Q d M' S rx ry e k
  unfold dIsN at e
  split at e
  · cases e
    rw [Rep.non] at ry
    refine ⟨ry, ?_⟩
    rw [← isNon_ok rx]
    exact k μ _ H (.refl H) (List.prefix_refl _) S (Rep.bl.mpr rfl)
  · cases e
theorem d_notN : OpD G dNotN (fun x y H Q => y = .non ∧ Q (.bl (!decide (x = .non))) H) := by
  intro μ H M x y v u Q d M' S rx ry e k
  unfold dNotN at e
  split at e
  · cases e
    rw [Rep.non] at ry
    refine ⟨ry, ?_⟩
    rw [← isNon_ok rx]
    exact k μ _ H (.refl H) (List.prefix_refl _) S (Rep.bl.mpr rfl)
  · cases e
end
/-! ### membership -/
def allP : List D → Option (List P)
  | [] => some []
  | .p x :: xs => (allP xs).map fun r => x :: r
  | _ :: _ => none
theorem allP_map (xs : List P) : allP (xs.map D.p) = some xs := by
  induction xs with
  | nil => rfl
  | cons x xs ih => rw [List.map_cons, allP, ih]; rfl
theorem allP_eq : ∀ {xs : List D} {ys : List P}, allP xs = some ys → xs = ys.map D.p
  | [], ys, h => by simp only [allP, Option.some.injEq] at h; subst h; rfl
  | .p x :: xs, ys, h => by
    simp only [allP, Option.map_eq_some_iff] at h
    obtain ⟨r, h1, rfl⟩ := h
    rw [allP_eq h1]
    rfl
  | .ref _ :: _, _, h => by simp [allP] at h
  | .tup _ :: _, _, h => by simp [allP] at h
  | .gl _ :: _, _, h => by simp [allP] at h
  | .exv _ :: _, _, h => by simp [allP] at h
  | .exf _ _ _ :: _, _, h => by simp [allP] at h
  | .lam _ :: _, _, h => by simp [allP] at h
/-- the items of a pure tuple, of a list of pure things -/
def rowP : D → Store → Option (List P)
  | .p (.tup xs), _ => some xs
  | .ref l, M => (match M[l]? with
    | some (.lst xs) => allP xs
    | some (.ro xs) => allP xs
    | _ => none)
  | _, _ => none
def dIn : D → D → Store → Option (D × Store)
  | .p x, c, M => (match rowP c M with
    | some xs => if x.depth ≤ 100 then some (.p (.bl (xs.any fun z => P.eqv z x)), M) else none
    | none => none)
  | _, _, _ => none
def dNotIn : D → D → Store → Option (D × Store)
  | .p x, c, M => (match rowP c M with
    | some xs => if x.depth ≤ 100 then some (.p (.bl (!xs.any fun z => P.eqv z x)), M) else none
    | none => none)
  | _, _, _ => none
def rInP (K : PySem.W.Frag) (neg : Bool) : R2 := fun v u H Q => ∃ x a vs xs, RepP K H x v ∧ u = .ref a ∧ (SqT K H a vs ∨ SqL K H a vs) ∧ RepPs K H xs vs ∧ x.depth ≤ 100 ∧ Q (.bl (if neg then !xs.any fun z => P.eqv z x else xs.any fun z => P.eqv z x)) H
section
variable {X : Cx} {G : Gm}
theorem rowP_ok {μ H M} {c : D} {u : V} {xs : List P} (S : SR G μ H M) (r : Rep G μ H c u) (h : rowP c M = some xs) : ∃ a vs, u = .ref a ∧ (SqT G.K H a vs ∨ SqL G.K H a vs) ∧ RepPs G.K H xs vs := by
  unfold rowP at h
  split at h
  · cases h
    rw [Rep.ptup] at r
    obtain ⟨a, vs, rfl, h1, h2⟩ := r
    exact ⟨a, vs, rfl, .inl h1, h2⟩
  · rw [Rep.ref] at r
    obtain ⟨a, h1, rfl⟩ := r
    split at h
    · rename_i ys e
      obtain ⟨vs, h2, h3⟩ := S.lst h1 e
      rw [allP_eq h] at h3
      exact ⟨a, vs, rfl, .inr (SqL.of h2), h3.to_P⟩
    · rename_i ys e
      obtain ⟨vs, h2, h3⟩ := S.obj _ a _ h1 e
      rw [allP_eq h] at h3
      exact ⟨a, vs, rfl, .inr h2.sql, h3.to_P⟩
    · cases h
  · cases h
theorem d_in : OpD G dIn (rInP G.K false) := by
  intro μ H M x y v u Q d M' S rx ry e k
  unfold dIn at e
  split at e
  · split at e
    · rename_i xs h
      split at e
      · rename_i hd
        cases e
        obtain ⟨a, vs, h1, h2, h3⟩ := rowP_ok S ry h
        simp only [Rep] at rx
        exact ⟨_, a, vs, xs, rx, h1, h2, h3, hd, k μ _ H (.refl H) (List.prefix_refl _) S (Rep.bl.mpr rfl)⟩
      · cases e
    · cases e
  · cases e
theorem d_notIn : OpD G dNotIn (rInP G.K true) := by
  intro μ H M x y v u Q d M' S rx ry e k
  unfold dNotIn at e
  split at e
  · split at e
    · rename_i xs h
      split at e
      · rename_i hd
        cases e
        obtain ⟨a, vs, h1, h2, h3⟩ := rowP_ok S ry h
        simp only [Rep] at rx
        exact ⟨_, a, vs, xs, rx, h1, h2, h3, hd, k μ _ H (.refl H) (List.prefix_refl _) S (Rep.bl.mpr rfl)⟩
      · cases e
    · cases e
  · cases e
theorem o_in_aux (hu : X.A.units + 120 < cLine) {pins : List (Addr × Obj)} {s : Shared} {σ : St} {H : Hp} (I : Inv X pins σ H s) {x : P} {v : V} {b : Value} {vs : List V} {xs : List P} {its : List Value} (hx : RepP X.K H x v) (rb : RelV v b) (hxs : RepPs X.K H xs vs) (r : Vals vs its) (hd : x.depth ≤ 100) :
    ∃ e : Value → Bool, its.toArray.any e = xs.any (fun z => P.eqv z x) ∧ ∀ y, y ∈ its.toArray → EqAt X.A.in1 s y b (e y) := by
  obtain ⟨e, h1, h2⟩ := any_P (b := b) (x := x) I hxs r
  refine ⟨e, by simpa using h1, fun y hy => ?_⟩
  obtain ⟨z, w, hz, g1, g2, g3⟩ := h2 y (by simpa using hy)
  rw [g3]
  have e1 : X.A.in1.units = X.A.units + 1 := by first | rfl | simp [Around.in1]
  exact eqAt_P I z x X.A.in1 w v y b g1 hx g2 rb (by rw [e1]; omega) (by rw [e1]; omega)
theorem o_in (hu : X.A.units + 120 < cLine) : OpR X (compareOp .In) (rInP X.K false) := by
  intro pins s σ H v u b c Q I rb rc h
  obtain ⟨x, a, vs, xs, hx, rfl, hq, hxs, hd, q⟩ := h
  cases rc
  rcases hq with hq | hq
  · obtain ⟨its, r, p, _⟩ := I.tuple hq
    obtain ⟨e, h1, h2⟩ := o_in_aux hu I hx rb hxs r hd
    exact in_tupleAt e (show s.heap.IsTuple a its.toArray from p) h2 (by rw [h1]; exact ⟨.bl _, H, I, rfl, q⟩)
  · obtain ⟨its, r, p, _⟩ := I.list hq
    obtain ⟨e, h1, h2⟩ := o_in_aux hu I hx rb hxs r hd
    exact in_listAt e p.isList h2 (by rw [h1]; exact ⟨.bl _, H, I, rfl, q⟩)
theorem o_notIn (hu : X.A.units + 120 < cLine) : OpR X (compareOp .NotIn) (rInP X.K true) := by
  intro pins s σ H v u b c Q I rb rc h
  obtain ⟨x, a, vs, xs, hx, rfl, hq, hxs, hd, q⟩ := h
  cases rc
  rcases hq with hq | hq
  · obtain ⟨its, r, p, _⟩ := I.tuple hq
    obtain ⟨e, h1, h2⟩ := o_in_aux hu I hx rb hxs r hd
    exact notIn_tupleAt e (show s.heap.IsTuple a its.toArray from p) h2 (by rw [h1]; exact ⟨.bl _, H, I, rfl, q⟩)
  · obtain ⟨its, r, p, _⟩ := I.list hq
    obtain ⟨e, h1, h2⟩ := o_in_aux hu I hx rb hxs r hd
    exact notIn_listAt e p.isList h2 (by rw [h1]; exact ⟨.bl _, H, I, rfl, q⟩)
end
end Fl

set_option Elab.async false
set_option linter.all false
set_option maxRecDepth 100000
/-! Fl, part E: tests, displays, arguments, calls, items, slices, methods. -/
namespace Fl
open PySem PySem.Spec L2
set_option autoImplicit false

/-! ### truth -/
def truthD : D → Store → Option Bool
  | .p .non, _ => some false
  | .p (.bl b), _ => some b
  | .p (.int i), _ => some (i != 0)
  | .p (.str x), _ => if x.length ≤ sizeLine then some ((x.length : Int) != 0) else none
  | .p (.tup xs), _ => some (!xs.isEmpty)
  | .tup xs, _ => some (!xs.isEmpty)
  | .ref l, M => (match M[l]? with
    | some (.lst xs) => some (!xs.isEmpty)
    | some (.ro xs) => some (!xs.isEmpty)
    | _ => none)
  | .gl _, _ => none
  | .exv _, _ => none
  | .exf _ _ _, _ => none
  | .lam _, _ => none
theorem isE_len {α β : Type} {xs : List α} {ys : List β} (h : xs.length = ys.length) : xs.isEmpty = ys.isEmpty := by
  cases xs <;> cases ys <;> simp_all
section
variable {X : Cx} {G : Gm} {W : WX} {a b e c : Expr} {fa fb fc : RE} {ta tb : RT} {pos : Pos} {rest : List Expr}
theorem truthD_ok {μ H M} {x : D} {v : V} {k : Bool} (S : SR G μ H M) (r : Rep G μ H x v) (h : truthD x M = some k) : TruV G.K v H k := by
  cases x with
  | p x =>
    cases x with
    | non => rw [Rep.non] at r; subst r; cases h; rfl
    | bl b => rw [Rep.bl] at r; subst r; cases h; rfl
    | int b => rw [Rep.int] at r; subst r; cases h; rfl
    | str b =>
      rw [Rep.str] at r; subst r
      have h : (if b.length ≤ sizeLine then some ((b.length : Int) != 0) else none) = some k := h
      split at h
      · rename_i hl; cases h; exact ⟨hl, rfl⟩
      · cases h
    | tup b =>
      rw [Rep.ptup] at r; obtain ⟨_, vs, rfl, h1, h2⟩ := r
      cases h
      exact .inr (.inl ⟨vs, h1, by rw [isE_len h2.length]⟩)
  | ref l =>
    rw [Rep.ref] at r; obtain ⟨p, h1, rfl⟩ := r
    have h : (match M[l]? with
      | some (.lst xs) => some (!xs.isEmpty)
      | some (.ro xs) => some (!xs.isEmpty)
      | _ => none) = some k := h
    split at h
    · rename_i xs e
      obtain ⟨vs, h2, h3⟩ := S.lst h1 e
      cases h
      exact .inl ⟨vs, SqL.of h2, by rw [isE_len h3.length]⟩
    · rename_i xs e
      obtain ⟨vs, h2, h3⟩ := S.obj _ p _ h1 e
      cases h
      exact .inl ⟨vs, h2.sql, by rw [isE_len h3.length]⟩
    · cases h
  | tup b =>
    rw [Rep.tup] at r; obtain ⟨_, vs, rfl, h1, h2⟩ := r
    cases h
    exact .inr (.inl ⟨vs, h1, by rw [isE_len h2.length]⟩)
  | gl x => cases h
  | exv x => cases h
  | exf a d fs => cases h
  | lam i => cases h
theorem tst_in {t : D → Store → Option Bool} {σ : St} {H : Hp} {Q : Bool → Hp → Prop} (h : tT (gm X) W (rTst t fa) σ H Q) :
    tE (gm X) W fa σ H fun v H1 => ∃ μ M x k, SR (gm X) μ H1 M ∧ Rep (gm X) μ H1 x v ∧ t x M = some k ∧ Q k H1 := by
  refine (tX.bind h).mono fun v H1 g1 => ?_
  obtain ⟨μ, ρ, M, x, hE, hS, rx, hF⟩ := g1
  have hF : Fin (gm X) (fun _ _ (a b : Bool) => a = b) W μ σ H1 Q (match t x M with | some b => .ok b M | none => .no) := hF
  cases q : t x M with
  | none => rw [q] at hF; exact hF.elim
  | some k =>
    rw [q] at hF
    exact ⟨μ, M, x, k, hS, rx, q, hF μ k H1 (.refl _) (List.prefix_refl _) hS rfl⟩
/-- if x: -/
theorem i_truth (ha : PE X a (tE (gm X) W fa)) (he : ∀ whole, isTrue a X.env whole = (do let v ← whole; standAt a.pos; holding [v] (truthy v)) := by exact fun _ => rfl) : PT X a (tT (gm X) W (rTst truthD fa)) :=
  PTimp (pt_truth ha he) fun σ H Q h => (tst_in h).mono fun v H1 ⟨μ, M, x, k, hS, rx, q, w⟩ => ⟨k, truthD_ok hS rx q, w⟩
theorem asBool_ok {x : D} {M : Store} {k : Bool} (h : asBool x M = some k) : x = .p (.bl k) := by
  unfold asBool at h
  split at h
  · cases h; rfl
  · cases h
/-- if x < y: -/
theorem i_tcmp {o : CmpOp} {op r} (ho : OpR X (compareOp o) r) (hd : OpD (gm X) op r) (ha : PE X a (tE (gm X) W fa)) (hb : PE X b (tE (gm X) W fb)) (hm : behindInMarks o b = false := by first | exact nomark _ | rfl) :
    PT X (.Compare a [o] [b] pos) (tT (gm X) W (rTst asBool (rBin op fa fb))) :=
  PTimp (pt_cmpR ho ha hb hm) fun σ H Q h => by
    have h1 : tE (gm X) W (rBin op fa fb) σ H fun v H1 => ∃ k, v = .bl k ∧ Q k H1 := (tst_in h).mono fun v H1 ⟨μ, M, x, k, hS, rx, q, w⟩ => by
      rw [asBool_ok q, Rep.bl] at rx
      exact ⟨k, rx, w⟩
    exact bin_in (X := X) hd h1
/-! ### and, or, not -/
def rtAnd (f g : RT) : RT := fun ρ M => (f ρ M).bind fun b M1 => match b with
  | true => g ρ M1
  | false => .ok false M1
def rtOr (f g : RT) : RT := fun ρ M => (f ρ M).bind fun b M1 => match b with
  | true => .ok true M1
  | false => g ρ M1
def rtNot (f : RT) : RT := fun ρ M => (f ρ M).bind fun b M1 => .ok (!b) M1
/-- behind a test: the test's answer is known -/
theorem tT_bind {β κ : Type} {rel2 : List Addr → Hp → β → κ → Prop} {f : RT} {g : Bool → RX β} {σ : St} {H : Hp} {Q : κ → Hp → Prop} (h : tX G rel2 W (fun ρ M => (f ρ M).bind fun b M1 => g b ρ M1) σ H Q) :
    tT G W f σ H fun b H1 => tX G rel2 W (g b) σ H1 Q :=
  (tX.bind h).mono fun b H1 ⟨μ, ρ, M, c, hE, hS, e, hF⟩ => by
    subst e
    exact ⟨μ, ρ, M, hE, hS, hF⟩
theorem tT_ok {f : RT} {σ : St} {H : Hp} {Q : Bool → Hp → Prop} {k : Bool} (h : tT G W (fun _ M => .ok k M) σ H Q) : Q k H := by
  obtain ⟨μ, ρ, M, hE, hS, hF⟩ := h
  exact hF μ k H (.refl H) (List.prefix_refl _) hS rfl
theorem i_and1 (ha : PT X a (tT (gm X) W ta)) : PW X (.BoolOp .And [a] pos) (tT (gm X) W ta) := pw_and1 ha
theorem i_or1 (ha : PT X a (tT (gm X) W ta)) : PW X (.BoolOp .Or [a] pos) (tT (gm X) W ta) := pw_or1 ha
theorem i_tand (ha : PT X a (tT (gm X) W ta)) (hb : PW X (.BoolOp .And (b :: rest) pos) (tT (gm X) W tb)) : PW X (.BoolOp .And (a :: b :: rest) pos) (tT (gm X) W (rtAnd ta tb)) :=
  PWimp (pw_and ha hb) fun σ H Q h => by
    have h1 := tT_bind (g := fun b ρ M1 => match b with | true => tb ρ M1 | false => .ok false M1) h
    refine h1.mono fun k H1 w => ?_
    cases k with
    | true => exact w
    | false => exact tT_ok (f := ta) w
theorem i_tor (ha : PT X a (tT (gm X) W ta)) (hb : PW X (.BoolOp .Or (b :: rest) pos) (tT (gm X) W tb)) : PW X (.BoolOp .Or (a :: b :: rest) pos) (tT (gm X) W (rtOr ta tb)) :=
  PWimp (pw_or ha hb) fun σ H Q h => by
    have h1 := tT_bind (g := fun b ρ M1 => match b with | true => .ok true M1 | false => tb ρ M1) h
    refine h1.mono fun k H1 w => ?_
    cases k with
    | true => exact tT_ok (f := ta) w
    | false => exact w
theorem i_tnot (ha : PT X a (tT (gm X) W ta)) : PT X (.UnaryOp .Not a pos) (tT (gm X) W (rtNot ta)) :=
  PTimp (pt_not ha) fun σ H Q h => by
    have h1 := tT_bind (g := fun b ρ M1 => .ok (!b) M1) h
    exact h1.mono fun k H1 w => tT_ok (f := ta) w
/-- as values -/
def rNot (f : RT) : RE := fun ρ M => (f ρ M).bind fun b M1 => .ok (.p (.bl (!b))) M1
def rIf (t : RT) (f g : RE) : RE := fun ρ M => (t ρ M).bind fun b M1 => match b with
  | true => f ρ M1
  | false => g ρ M1
def rAnd (f g : RE) : RE := fun ρ M => (f ρ M).bind fun x M1 => match truthD x M1 with
  | some true => g ρ M1
  | some false => .ok x M1
  | none => .no
def rOr (f g : RE) : RE := fun ρ M => (f ρ M).bind fun x M1 => match truthD x M1 with
  | some true => .ok x M1
  | some false => g ρ M1
  | none => .no
theorem i_one {op : BoolOp} (ha : PE X a (tE (gm X) W fa)) : PE X (.BoolOp op [a] pos) (tE (gm X) W fa) := pe_one ha
theorem i_and (ha : PE X a (tE (gm X) W fa)) (hb : PE X (.BoolOp .And (b :: rest) pos) (tE (gm X) W fb)) : PE X (.BoolOp .And (a :: b :: rest) pos) (tE (gm X) W (rAnd fa fb)) :=
  PEimp (pe_andT ha hb) fun σ H Q h => by
    refine (tX.bind (g := fun x ρ M1 => match truthD x M1 with | some true => fb ρ M1 | some false => .ok x M1 | none => .no) h).mono fun v H1 ⟨μ, ρ, M, x, hE, hS, rx, hF⟩ => ?_
    have hF : Fin (gm X) (Rep (gm X)) W μ σ H1 Q (match truthD x M with | some true => fb ρ M | some false => .ok x M | none => .no) := hF
    cases q : truthD x M with
    | none => rw [q] at hF; exact hF.elim
    | some k =>
      rw [q] at hF
      refine ⟨k, truthD_ok hS rx q, ?_⟩
      cases k with
      | true => exact iteT ⟨μ, ρ, M, hE, hS, hF⟩
      | false => exact iteF (hF μ v H1 (.refl _) (List.prefix_refl _) hS rx)
theorem i_or (ha : PE X a (tE (gm X) W fa)) (hb : PE X (.BoolOp .Or (b :: rest) pos) (tE (gm X) W fb)) : PE X (.BoolOp .Or (a :: b :: rest) pos) (tE (gm X) W (rOr fa fb)) :=
  PEimp (pe_orT ha hb) fun σ H Q h => by
    refine (tX.bind (g := fun x ρ M1 => match truthD x M1 with | some true => .ok x M1 | some false => fb ρ M1 | none => .no) h).mono fun v H1 ⟨μ, ρ, M, x, hE, hS, rx, hF⟩ => ?_
    have hF : Fin (gm X) (Rep (gm X)) W μ σ H1 Q (match truthD x M with | some true => .ok x M | some false => fb ρ M | none => .no) := hF
    cases q : truthD x M with
    | none => rw [q] at hF; exact hF.elim
    | some k =>
      rw [q] at hF
      refine ⟨k, truthD_ok hS rx q, ?_⟩
      cases k with
      | true => exact iteT (hF μ v H1 (.refl _) (List.prefix_refl _) hS rx)
      | false => exact iteF ⟨μ, ρ, M, hE, hS, hF⟩
/-- not x as a value -/
theorem i_not (ha : PE X a (tE (gm X) W fa)) : PE X (.UnaryOp .Not a pos) (tE (gm X) W (rNot (rTst truthD fa))) :=
  PEimp (pe_notT ha) fun σ H Q h => by
    have h1 : tT (gm X) W (rTst truthD fa) σ H _ := tT_bind (rel2 := Rep (gm X)) (g := fun b ρ M1 => R.ok (D.p (P.bl (!b))) M1) h
    refine (tst_in h1).mono fun v H1 ⟨μ, M, x, k, hS, rx, q, w⟩ => ⟨k, truthD_ok hS rx q, ?_⟩
    obtain ⟨μ, ρ, M, hE, hS, hF⟩ := w
    exact hF μ _ H1 (.refl _) (List.prefix_refl _) hS (Rep.bl.mpr rfl)
theorem i_ifx (hc : PT X c (tT (gm X) W ta)) (ha : PE X a (tE (gm X) W fa)) (hb : PE X b (tE (gm X) W fb)) : PE X (.IfExp c a b pos) (tE (gm X) W (rIf ta fa fb)) :=
  PEimp (pe_ifExp hc ha hb) fun σ H Q h => by
    have h1 := tT_bind (g := fun b ρ M1 => match b with | true => fa ρ M1 | false => fb ρ M1) h
    refine h1.mono fun k H1 w => ?_
    cases k with
    | true => exact iteT w
    | false => exact iteF w
/-! ### chains a < b < c -/
def rChain (op op' : D → D → Store → Option (D × Store)) (fa fb fc : RE) : RE := fun ρ M => (fa ρ M).bind fun x M1 => (fb ρ M1).bind fun y M2 => match op x y M2 with
  | some (.p (.bl true), M3) => (fc ρ M3).bind fun z M4 => ofO (op' y z M4)
  | some (.p (.bl false), M3) => .ok (.p (.bl false)) M3
  | _ => .no
theorem chain_in {op op' r r'} (hd : OpD (gm X) op r) (hd' : OpD (gm X) op' r') {σ : St} {H : Hp} {Q : VK} (h : tE (gm X) W (rChain op op' fa fb fc) σ H Q) : tChain r r' (tE (gm X) W fa) (tE (gm X) W fb) (tE (gm X) W fc) σ H Q := by
  refine (tX.bind h).mono fun v H1 g1 => ?_
  refine (Go.bind Rep.mono g1).mono fun u H2 g2 => ?_
  obtain ⟨μ, ρ, M, x, y, hE, hS, rx, ry, hF⟩ := g2
  have hF : Fin (gm X) (Rep (gm X)) W μ σ H2 Q (match op x y M with
    | some (.p (.bl true), M3) => (fc ρ M3).bind fun z M4 => ofO (op' y z M4)
    | some (.p (.bl false), M3) => .ok (.p (.bl false)) M3
    | _ => .no) := hF
  cases q : op x y M with
  | none => rw [q] at hF; exact hF.elim
  | some p =>
    obtain ⟨d, M'⟩ := p
    rw [q] at hF
    refine hd μ H2 M x y v u _ d M' hS rx ry q fun μ3 w H3 e3 p3 S3 r3 => ?_
    split at hF
    · rename_i M3 e
      cases e
      rw [Rep.bl] at r3
      refine ⟨true, r3, iteT ?_⟩
      have g3 : Go (gm X) (Rep (gm X)) (Rep (gm X)) W (fun y ρ M3 => (fc ρ M3).bind fun z M4 => ofO (op' y z M4)) σ Q u H3 := ⟨μ3, ρ, M', y, hE.ext e3 p3, S3, ry.ext e3 p3, Fin.later e3 p3 hF⟩
      refine (Go.bind Rep.mono g3).mono fun t H4 g4 => ?_
      obtain ⟨μ4, ρ4, M4, y4, z4, hE4, hS4, ry4, rz4, hF4⟩ := g4
      have hF4 : Fin (gm X) (Rep (gm X)) W μ4 σ H4 Q (ofO (op' y4 z4 M4)) := hF4
      cases q4 : op' y4 z4 M4 with
      | none => rw [q4] at hF4; exact hF4.elim
      | some p4 =>
        obtain ⟨d4, M5⟩ := p4
        rw [q4] at hF4
        exact hd' μ4 H4 M4 y4 z4 u t Q d4 M5 hS4 ry4 rz4 q4 hF4
    · rename_i M3 e
      cases e
      rw [Rep.bl] at r3
      exact ⟨false, r3, iteF (hF μ3 _ H3 e3 p3 S3 (Rep.bl.mpr rfl))⟩
    · exact hF.elim
theorem i_chain {o o' : CmpOp} {op op' r r'} (ho : OpR X (compareOp o) r) (hd : OpD (gm X) op r) (ho' : OpR X (compareOp o') r') (hd' : OpD (gm X) op' r') (ha : PE X a (tE (gm X) W fa)) (hb : PE X b (tE (gm X) W fb)) (hc : PE X c (tE (gm X) W fc))
    (hm : lastMarks [o, o'] [b, c] = false := by with_unfolding_all rfl) : PE X (.Compare a [o, o'] [b, c] pos) (tE (gm X) W (rChain op op' fa fb fc)) :=
  PEimp (pe_chain ho ho' ha hb hc hm) fun _ _ _ h => chain_in hd hd' h
theorem i_tchain {o o' : CmpOp} {op op' r r'} (ho : OpR X (compareOp o) r) (hd : OpD (gm X) op r) (ho' : OpR X (compareOp o') r') (hd' : OpD (gm X) op' r') (ha : PE X a (tE (gm X) W fa)) (hb : PE X b (tE (gm X) W fb)) (hc : PE X c (tE (gm X) W fc))
    (hm : lastMarks [o, o'] [b, c] = false := by with_unfolding_all rfl) : PT X (.Compare a [o, o'] [b, c] pos) (tT (gm X) W (rTst asBool (rChain op op' fa fb fc))) :=
  PTimp (pt_chain ho ho' ha hb hc hm) fun σ H Q h => by
    have h1 : tE (gm X) W (rChain op op' fa fb fc) σ H fun v H1 => ∃ k, v = .bl k ∧ Q k H1 := (tst_in h).mono fun v H1 ⟨μ, M, x, k, hS, rx, q, w⟩ => by
      rw [asBool_ok q, Rep.bl] at rx
      exact ⟨k, rx, w⟩
    exact chain_in (X := X) hd hd' h1
end
/-! ### arguments, displays -/
def rNil : RA := fun _ M => .ok [] M
def rCons (f : RE) (g : RA) : RA := fun ρ M => (f ρ M).bind fun x M1 => (g ρ M1).bind fun xs M2 => .ok (x :: xs) M2
def mkTup (xs : List D) : D := match allP xs with
  | some ys => .p (.tup ys)
  | none => .tup xs
def rTup (f : RA) : RE := fun ρ M => (f ρ M).bind fun xs M1 => if xs.length ≤ 1000 then .ok (mkTup xs) M1 else .no
def rLst (f : RA) : RE := fun ρ M => (f ρ M).bind fun xs M1 => if xs.length ≤ 1000 then .ok (.ref M1.length) (M1 ++ [.lst xs]) else .no
theorem small_line {n : Nat} (h : n ≤ 1000) : n ≤ sizeLine := by rw [sizeLine_eq]; omega
section
variable {X : Cx} {G : Gm} {W : WX} {a b e c : Expr} {fa fb fc : RE} {fs : RA} {pos : Pos} {es : List Expr}
theorem mkTup_ok {μ H} {xs : List D} {vs : List V} {p : Addr} (h : SqT G.K H p vs) (r : Reps G μ H xs vs) : Rep G μ H (mkTup xs) (.ref p) := by
  unfold mkTup
  split
  · rename_i ys e
    rw [allP_eq e] at r
    exact Rep.ptup.mpr ⟨p, vs, rfl, h, r.to_P⟩
  · exact Rep.tup.mpr ⟨p, vs, rfl, h, r⟩
theorem i_nil : PA X [] (tA (gm X) W rNil) := PAimp pa_nil fun σ H Q h => by
  obtain ⟨μ, ρ, M, hE, hS, hF⟩ := h
  exact hF μ [] H (.refl _) (List.prefix_refl _) hS .nil
theorem i_cons (ha : PE X e (tE (gm X) W fa)) (hr : PA X es (tA (gm X) W fs)) (hs : starEach (e :: es) X.env = (false, eval e X.env) :: starEach es X.env := by rfl) : PA X (e :: es) (tA (gm X) W (rCons fa fs)) :=
  PAimp (pa_cons ha hr hs) fun σ H Q h => by
    refine (tX.bind h).mono fun v H1 g1 => ?_
    refine (Go.bind Rep.mono g1).mono fun vs H2 ⟨μ, ρ, M, x, xs, hE, hS, rx, rxs, hF⟩ => ?_
    exact hF μ (v :: vs) H2 (.refl _) (List.prefix_refl _) hS (.cons rx rxs)
theorem i_tup {x1 : Nat} (h : PA X es (tA (gm X) W fs)) : PE X (.Tuple es x1 pos) (tE (gm X) W (rTup fs)) :=
  PEimp (pe_tup h) fun σ H Q h => by
    refine (tX.bind h).mono fun vs H1 ⟨μ, ρ, M, xs, hE, hS, rx, hF⟩ => ?_
    have hF : Fin (gm X) (Rep (gm X)) W μ σ H1 Q (if xs.length ≤ 1000 then .ok (mkTup xs) M else .no) := hF
    split at hF
    · rename_i hl
      refine ⟨by rw [← rx.length]; exact small_line hl, fun p hp => ?_⟩
      exact hF μ _ _ (.new hp) (List.prefix_refl _) (hS.grow hp) (mkTup_ok (SqT.of upd_same) (rx.ext (.new hp) (List.prefix_refl _)))
    · exact hF.elim
theorem i_lst (h : PA X es (tA (gm X) W fs)) : PE X (.List es pos) (tE (gm X) W (rLst fs)) :=
  PEimp (pe_lst h) fun σ H Q h => by
    refine (tX.bind h).mono fun vs H1 ⟨μ, ρ, M, xs, hE, hS, rx, hF⟩ => ?_
    have hF : Fin (gm X) (Rep (gm X)) W μ σ H1 Q (if xs.length ≤ 1000 then .ok (.ref M.length) (M ++ [.lst xs]) else .no) := hF
    split at hF
    · rename_i hl
      refine ⟨by rw [← rx.length]; exact small_line hl, fun p hp => ?_⟩
      exact hF (μ ++ [p]) _ _ (.new hp) (List.prefix_append _ _) (new_lst hS hp rx) (new_ref hS p)
    · exact hF.elim
end
/-! ### calls of built-ins by name -/
def CallD (G : Gm) (op : List D → Store → Option (D × Store)) (r : List V → Hp → VK → Prop) : Prop :=
  ∀ (μ : List Addr) (H : Hp) (M : Store) (xs : List D) (vs : List V) (Q : VK) (d : D) (M' : Store), SR G μ H M → Reps G μ H xs vs → op xs M = some (d, M') →
    (∀ μ' w H', Ext H H' → μ <+: μ' → SR G μ' H' M' → Rep G μ' H' d w → Q w H') → r vs H Q
def rCB (op : List D → Store → Option (D × Store)) (fs : RA) : RE := fun ρ M => (fs ρ M).bind fun xs M1 => ofO (op xs M1)
section
variable {X : Cx} {G : Gm} {W : WX} {a b e c : Expr} {fa fb fc : RE} {fs : RA} {p pos : Pos} {es : List Expr}
theorem cb_in {op r} (hd : CallD (gm X) op r) {σ : St} {H : Hp} {Q : VK} (h : tE (gm X) W (rCB op fs) σ H Q) : tCB r (tA (gm X) W fs) σ H Q := by
  refine (tX.bind h).mono fun vs H1 ⟨μ, ρ, M, xs, hE, hS, rx, hF⟩ => ?_
  have hF : Fin (gm X) (Rep (gm X)) W μ σ H1 Q (ofO (op xs M)) := hF
  cases q : op xs M with
  | none => rw [q] at hF; exact hF.elim
  | some p =>
    obtain ⟨d, M'⟩ := p
    rw [q] at hF
    exact hd μ H1 M xs vs Q d M' hS rx q hF
theorem i_callB {x : Str} {id : String} {op r} (hc : CallR X (.builtin id) r) (hd : CallD (gm X) op r) (hg : Gl X x) (hm : X.mg x = none) (hv : bootBuiltins x = some (.builtin id)) (ha : PA X (e :: es) (tA (gm X) W fs))
    (hn : x ≠ "__name__" := by decide) (hdb : (x == ("__debug__" : Str)) = false := by decide) (he : starEach (e :: es) X.env = (false, eval e X.env) :: starEach es X.env := by rfl) (hpl : (backTo pos (starEach es X.env)).any (·.1) = false := by rfl) :
    PE X (.Call (.Name x p) (e :: es) [] pos) (tE (gm X) W (rCB op fs)) :=
  PEimp (pe_callB hc hg hm hv ha hn hdb he hpl) fun _ _ _ h => cb_in hd h
theorem i_callTy {x : Str} {T : String} {op r} (hc : CallR X (.type T) r) (hd : CallD (gm X) op r) (hg : Gl X x) (hm : X.mg x = none) (hv : bootBuiltins x = some (.type T)) (ha : PA X (e :: es) (tA (gm X) W fs))
    (hn : x ≠ "__name__" := by decide) (hdb : (x == ("__debug__" : Str)) = false := by decide) (he : starEach (e :: es) X.env = (false, eval e X.env) :: starEach es X.env := by rfl) (hpl : (backTo pos (starEach es X.env)).any (·.1) = false := by rfl) :
    PE X (.Call (.Name x p) (e :: es) [] pos) (tE (gm X) W (rCB op fs)) :=
  PEimp (pe_callTy hc hg hm hv ha hn hdb he hpl) fun _ _ _ h => cb_in hd h
end
end Fl

set_option Elab.async false
set_option linter.all false
set_option maxRecDepth 100000
/-! Fl, part F: built-ins, items, slices, methods of lists, calls of defs. -/
namespace Fl
open PySem PySem.Spec L2
set_option autoImplicit false
section
variable {X : Cx} {G : Gm} {W : WX}
theorem Reps.inv1 {μ : List Addr} {H : Hp} {x : D} {vs : List V} (h : Reps G μ H [x] vs) : ∃ v, vs = [v] ∧ Rep G μ H x v := by
  obtain ⟨v, r, rfl, h1, h2⟩ := h.inv
  rw [h2.inv0]
  exact ⟨v, rfl, h1⟩
theorem Reps.inv2 {μ : List Addr} {H : Hp} {x y : D} {vs : List V} (h : Reps G μ H [x, y] vs) : ∃ v u, vs = [v, u] ∧ Rep G μ H x v ∧ Rep G μ H y u := by
  obtain ⟨v, r, rfl, h1, h2⟩ := h.inv
  obtain ⟨u, rfl, h3⟩ := h2.inv1
  exact ⟨v, u, rfl, h1, h3⟩
/-! ### len, int, abs, min, max -/
def lenD : D → Store → Option Nat
  | .p (.str x), _ => if x.length ≤ sizeLine then some x.length else none
  | .p (.tup xs), _ => some xs.length
  | .tup xs, _ => some xs.length
  | .ref l, M => (match M[l]? with
    | some (.lst xs) => some xs.length
    | some (.ro xs) => some xs.length
    | _ => none)
  | _, _ => none
def cLen : List D → Store → Option (D × Store)
  | [x], M => (lenD x M).map fun (n : Nat) => (.p (.int (n : Int)), M)
  | _, _ => none
theorem lenD_ok {μ H M} {x : D} {v : V} {n : Nat} (S : SR G μ H M) (r : Rep G μ H x v) (h : lenD x M = some n) : LenV G.K v H n := by
  cases x with
  | p x =>
    cases x with
    | str b =>
      rw [Rep.str] at r; subst r
      have h : (if b.length ≤ sizeLine then some b.length else none) = some n := h
      split at h
      · rename_i hl; cases h; exact ⟨hl, rfl⟩
      · cases h
    | tup b =>
      rw [Rep.ptup] at r; obtain ⟨_, vs, rfl, h1, h2⟩ := r
      cases h
      exact .inr ⟨vs, h1, h2.length⟩
    | _ => cases h
  | ref l =>
    rw [Rep.ref] at r; obtain ⟨p, h1, rfl⟩ := r
    have h : (match M[l]? with
      | some (.lst xs) => some xs.length
      | some (.ro xs) => some xs.length
      | _ => none) = some n := h
    split at h
    · rename_i xs e
      obtain ⟨vs, h2, h3⟩ := S.lst h1 e
      cases h
      exact .inl ⟨vs, SqL.of h2, h3.length⟩
    · rename_i xs e
      obtain ⟨vs, h2, h3⟩ := S.obj _ p _ h1 e
      cases h
      exact .inl ⟨vs, h2.sql, h3.length⟩
    · cases h
  | tup b =>
    rw [Rep.tup] at r; obtain ⟨_, vs, rfl, h1, h2⟩ := r
    cases h
    exact .inr ⟨vs, h1, h2.length⟩
  | gl x => cases h
  | exv x => cases h
  | exf a d fs => cases h
  | lam i => cases h
theorem d_len : CallD G cLen (fun xs H Q => ∃ (x : V) (n : Nat), xs = [x] ∧ LenV G.K x H n ∧ Q (.int (n : Int)) H) := by
  intro μ H M xs vs Q d M' S r q k
  unfold cLen at q
  split at q
  · rename_i x
    obtain ⟨n, h1, h2⟩ := Option.map_eq_some_iff.mp q
    cases h2
    obtain ⟨v, rfl, r1⟩ := r.inv1
    exact ⟨v, n, rfl, lenD_ok S r1 h1, k μ _ H (.refl _) (List.prefix_refl _) S (Rep.int.mpr rfl)⟩
  · cases q
def cInt : List D → Store → Option (D × Store)
  | [.p (.int i)], M => some (.p (.int i), M)
  | [.p (.bl b)], M => some (.p (.int (if b then 1 else 0)), M)
  | _, _ => none
theorem d_int : CallD G cInt (fun xs H Q => (∃ i, xs = [.int i] ∧ Q (.int i) H) ∨ ∃ k, xs = [.bl k] ∧ Q (.int (if k then 1 else 0)) H) := by
  intro μ H M xs vs Q d M' S r q k
  unfold cInt at q
  split at q
  · cases q
    obtain ⟨v, rfl, r1⟩ := r.inv1
    rw [Rep.int] at r1
    subst r1
    exact .inl ⟨_, rfl, k μ _ H (.refl _) (List.prefix_refl _) S (Rep.int.mpr rfl)⟩
  · cases q
    obtain ⟨v, rfl, r1⟩ := r.inv1
    rw [Rep.bl] at r1
    subst r1
    exact .inr ⟨_, rfl, k μ _ H (.refl _) (List.prefix_refl _) S (Rep.int.mpr rfl)⟩
  · cases q
def cAbs : List D → Store → Option (D × Store)
  | [.p (.int i)], M => some (.p (.int (if i < 0 then -i else i)), M)
  | _, _ => none
theorem d_abs : CallD G cAbs (fun xs H Q => ∃ i, xs = [.int i] ∧ Q (.int (if i < 0 then -i else i)) H) := by
  intro μ H M xs vs Q d M' S r q k
  unfold cAbs at q
  split at q
  · cases q
    obtain ⟨v, rfl, r1⟩ := r.inv1
    rw [Rep.int] at r1
    subst r1
    exact ⟨_, rfl, k μ _ H (.refl _) (List.prefix_refl _) S (Rep.int.mpr rfl)⟩
  · cases q
def cMax2 : List D → Store → Option (D × Store)
  | [.p (.int i), .p (.int j)], M => some (.p (.int (if j > i then j else i)), M)
  | _, _ => none
def cMin2 : List D → Store → Option (D × Store)
  | [.p (.int i), .p (.int j)], M => some (.p (.int (if j < i then j else i)), M)
  | _, _ => none
theorem d_max2 : CallD G cMax2 (fun xs H Q => ∃ i j, xs = [.int i, .int j] ∧ Q (.int (if j > i then j else i)) H) := by
  intro μ H M xs vs Q d M' S r q k
  unfold cMax2 at q
  split at q
  · cases q
    obtain ⟨v, u, rfl, r1, r2⟩ := r.inv2
    rw [Rep.int] at r1 r2
    subst r1 r2
    exact ⟨_, _, rfl, k μ _ H (.refl _) (List.prefix_refl _) S (Rep.int.mpr rfl)⟩
  · cases q
theorem d_min2 : CallD G cMin2 (fun xs H Q => ∃ i j, xs = [.int i, .int j] ∧ Q (.int (if j < i then j else i)) H) := by
  intro μ H M xs vs Q d M' S r q k
  unfold cMin2 at q
  split at q
  · cases q
    obtain ⟨v, u, rfl, r1, r2⟩ := r.inv2
    rw [Rep.int] at r1 r2
    subst r1 r2
    exact ⟨_, _, rfl, k μ _ H (.refl _) (List.prefix_refl _) S (Rep.int.mpr rfl)⟩
  · cases q
/-! ### isinstance(x, T), T a built-in type -/
/-- the type of a value, by its name -/
def tyD : D → Store → Option String
  | .p .non, _ => some "NoneType"
  | .p (.bl _), _ => some "bool"
  | .p (.int _), _ => some "int"
  | .p (.str _), _ => some "str"
  | .p (.tup _), _ => some "tuple"
  | .tup _, _ => some "tuple"
  | .ref l, M => (match M[l]? with
    | some (.lst _) => some "list"
    | some (.ro _) => some "list"
    | _ => none)
  | _, _ => none
theorem tyD_ok {μ H M} {x : D} {v : V} {t : String} (S : SR G μ H M) (r : Rep G μ H x v) (h : tyD x M = some t) : TyX G.K H v (.type t) := by
  have tupc : ∀ {p : Addr} {vs : List V}, SqT G.K H p vs → TyX G.K H (.ref p) (.type "tuple") := fun {p vs} h1 => by
    rcases h1 with (h1 | ⟨o, h1⟩) | ⟨o, its, n, h1, h2, _⟩
    · exact .base (.tup h1)
    · exact .fTuple h1
    · exact .kTuple h1 h2
  cases x with
  | p x =>
    cases x with
    | non => rw [Rep.non] at r; subst r; cases h; exact .base .non
    | bl b => rw [Rep.bl] at r; subst r; cases h; exact .base (.bl b)
    | int b => rw [Rep.int] at r; subst r; cases h; exact .base (.int b)
    | str b => rw [Rep.str] at r; subst r; cases h; exact .base (.str b)
    | tup b =>
      rw [Rep.ptup] at r; obtain ⟨p, vs, rfl, h1, h2⟩ := r
      cases h
      exact tupc h1
  | ref l =>
    rw [Rep.ref] at r; obtain ⟨p, h1, rfl⟩ := r
    have h : (match M[l]? with
      | some (.lst _) => some "list"
      | some (.ro _) => some "list"
      | _ => none) = some t := h
    split at h
    · rename_i xs e
      obtain ⟨vs, h2, h3⟩ := S.lst h1 e
      cases h
      exact .base (.lst h2)
    · rename_i xs e
      obtain ⟨vs, h2, h3⟩ := S.obj _ p _ h1 e
      cases h
      rcases h2 with ⟨o, h2⟩ | ⟨o, its, n, h2, h4, _⟩
      · exact .base (.frz h2)
      · exact .kList h2 h4
    · cases h
  | tup b =>
    rw [Rep.tup] at r; obtain ⟨p, vs, rfl, h1, h2⟩ := r
    cases h
    exact tupc h1
  | gl x => cases h
  | exv x => cases h
  | exf a d fs => cases h
  | lam i => cases h
/-- is a value of the type t one of T: for the built-in types that are told here -/
def isaT (t T : String) : Bool := t == T || (t == "bool" && T == "int")
theorem isaT_ok (t T : String) (ht : t = "NoneType" ∨ t = "bool" ∨ t = "int" ∨ t = "str" ∨ t = "tuple" ∨ t = "list" ∨ t = "dict") (hT : T = "int" ∨ T = "bool" ∨ T = "str" ∨ T = "tuple" ∨ T = "list" ∨ T = "dict") :
    kitB t T = some (isaT t T) := by
  rcases ht with rfl | rfl | rfl | rfl | rfl | rfl | rfl <;> rcases hT with rfl | rfl | rfl | rfl | rfl | rfl <;> decide +kernel
theorem tyD_names {x : D} {M : Store} {t : String} (h : tyD x M = some t) : t = "NoneType" ∨ t = "bool" ∨ t = "int" ∨ t = "str" ∨ t = "tuple" ∨ t = "list" ∨ t = "dict" := by
  unfold tyD at h
  split at h
  all_goals first
    | (cases h; simp; done)
    | (cases h; done)
    | (split at h <;> first | (cases h; simp; done) | (cases h; done))
def cIsa (T : String) : D → Store → Option (D × Store) := fun x M => (tyD x M).map fun t => (.p (.bl (isaT t T)), M)
/-- isinstance(e, T) -/
def rIsa (T : String) (f : RE) : RE := rUn (cIsa T) f
theorem i_isa {e : Expr} {f : RE} {T : String} {x : Str} {p p2 pos : Pos} (hT : T = "int" ∨ T = "bool" ∨ T = "str" ∨ T = "tuple" ∨ T = "list" ∨ T = "dict") (hg : Gl X "isinstance") (hm : X.mg "isinstance" = none) (hg2 : Gl X x) (hm2 : X.mg x = none) (hv2 : bootBuiltins x = some (.type T))
    (ha : PE X e (tE (gm X) W f)) (hn2 : x ≠ "__name__" := by decide) (hd2 : (x == ("__debug__" : Str)) = false := by decide)
    (hs : starEach [e, .Name x p2] X.env = (false, eval e X.env) :: starEach [.Name x p2] X.env := by rfl) (hs2 : starEach [.Name x p2] X.env = (false, eval (.Name x p2) X.env) :: starEach [] X.env := by rfl) (hpl : (backTo pos (starEach [.Name x p2] X.env)).any (·.1) = false := by rfl) :
    PE X (.Call (.Name "isinstance" p) [e, .Name x p2] [] pos) (tE (gm X) W (rIsa T f)) := by
  refine PEimp (pe_callB call_isi hg hm PyProof.Rows.boot_isinstance (pa_cons ha (pa_cons (pe_bltn (v := .ty T) hg2 hm2 hv2 rfl hn2 hd2) pa_nil hs2) hs) (by decide) (by decide) hs hpl) fun σ H Q h => ?_
  refine (tX.bind h).mono fun v H1 ⟨μ, ρ, M, x, hE, hS, rx, hF⟩ => ?_
  have hF : Fin (gm X) (Rep (gm X)) W μ σ H1 Q (ofO (cIsa T x M)) := hF
  cases q : tyD x M with
  | none =>
    unfold cIsa at hF
    rw [q] at hF
    exact hF.elim
  | some t =>
    unfold cIsa at hF
    rw [q] at hF
    exact ⟨v, .ty T, .type t, .type T, isaT t T, rfl, .ty T, tyD_ok hS rx q, kit_ty (isaT_ok t T (tyD_names q) hT), hF μ _ H1 (.refl _) (List.prefix_refl _) hS (Rep.bl.mpr rfl)⟩
/-! ### tuple(x), list(x) -/
/-- the items of a row -/
def rowD : D → Store → Option (List D)
  | .p (.tup xs), _ => some (xs.map D.p)
  | .tup xs, _ => some xs
  | .ref l, M => (match M[l]? with
    | some (.lst xs) => some xs
    | some (.ro xs) => some xs
    | _ => none)
  | _, _ => none
theorem rowD_ok {μ H M} {c : D} {u : V} {xs : List D} (S : SR G μ H M) (r : Rep G μ H c u) (h : rowD c M = some xs) : ∃ a vs, u = .ref a ∧ (SqT G.K H a vs ∨ SqL G.K H a vs) ∧ Reps G μ H xs vs := by
  unfold rowD at h
  split at h
  · cases h
    rw [Rep.ptup] at r
    obtain ⟨a, vs, rfl, h1, h2⟩ := r
    exact ⟨a, vs, rfl, .inl h1, Reps.of_P h2⟩
  · cases h
    rw [Rep.tup] at r
    obtain ⟨a, vs, rfl, h1, h2⟩ := r
    exact ⟨a, vs, rfl, .inl h1, h2⟩
  · rw [Rep.ref] at r
    obtain ⟨a, h1, rfl⟩ := r
    split at h
    · rename_i ys e
      cases h
      obtain ⟨vs, h2, h3⟩ := S.lst h1 e
      exact ⟨a, vs, rfl, .inr (SqL.of h2), h3⟩
    · rename_i ys e
      cases h
      obtain ⟨vs, h2, h3⟩ := S.obj _ a _ h1 e
      exact ⟨a, vs, rfl, .inr h2.sql, h3⟩
    · cases h
  · cases h
def cTuple : List D → Store → Option (D × Store)
  | [.p (.tup xs)], M => some (.p (.tup xs), M)
  | [.tup xs], M => some (.tup xs, M)
  | [.ref l], M => (rowD (.ref l) M).map fun xs => (mkTup xs, M)
  | _, _ => none
def cList : List D → Store → Option (D × Store)
  | [x], M => (rowD x M).map fun xs => (.ref M.length, M ++ [.lst xs])
  | _, _ => none
abbrev rTupleU (K : PySem.W.Frag) : List V → Hp → VK → Prop := fun xs H Q => (∃ a ys, xs = [.ref a] ∧ SqT K H a ys ∧ Q (.ref a) H) ∨ (∃ p ys, xs = [.ref p] ∧ (SqL K H p ys ∧ ∀ l, H l = none → Q (.ref l) (upd H l (.tup ys))))
theorem o_tuple : CallR X (.type "tuple") (rTupleU X.K) := by
  intro pins s σ H xs us Q I r h
  rcases h with h | ⟨p, ys, e, h1, h2⟩
  · exact call_tupleT pins s σ H xs us Q I r h
  · exact call_tuple_of pins s σ H xs us Q I r ⟨p, ys, e, .inl ⟨h1, h2⟩⟩
theorem d_tuple : CallD G cTuple (rTupleU G.K) := by
  intro μ H M xs vs Q d M' S r q k
  unfold cTuple at q
  split at q
  · cases q
    obtain ⟨v, rfl, r1⟩ := r.inv1
    obtain ⟨a, ws, e, h1, h2⟩ := Rep.ptup.mp r1
    subst e
    exact .inl ⟨a, ws, rfl, h1, k μ _ H (.refl _) (List.prefix_refl _) S r1⟩
  · cases q
    obtain ⟨v, rfl, r1⟩ := r.inv1
    obtain ⟨a, ws, e, h1, h2⟩ := Rep.tup.mp r1
    subst e
    exact .inl ⟨a, ws, rfl, h1, k μ _ H (.refl _) (List.prefix_refl _) S r1⟩
  · rename_i l
    obtain ⟨ys, h1, h2⟩ := Option.map_eq_some_iff.mp q
    cases h2
    obtain ⟨v, rfl, r1⟩ := r.inv1
    obtain ⟨a, ha, e⟩ := Rep.ref.mp r1
    subst e
    have h : ∃ ws, SqL G.K H a ws ∧ Reps G μ H ys ws := by
      have h1 : (match M[l]? with
        | some (.lst xs) => some xs
        | some (.ro xs) => some xs
        | _ => none) = some ys := h1
      split at h1
      · rename_i zs e
        cases h1
        obtain ⟨ws, h2, h3⟩ := S.lst ha e
        exact ⟨ws, SqL.of h2, h3⟩
      · rename_i zs e
        cases h1
        obtain ⟨ws, h2, h3⟩ := S.obj _ a _ ha e
        exact ⟨ws, h2.sql, h3⟩
      · cases h1
    obtain ⟨ws, h2, h3⟩ := h
    exact .inr ⟨a, ws, rfl, h2, fun p hp => k μ _ _ (.new hp) (List.prefix_refl _) (S.grow hp) (mkTup_ok (SqT.of upd_same) (h3.ext (.new hp) (List.prefix_refl _)))⟩
  · cases q
theorem d_list : CallD G cList (fun xs H Q => ∃ p ys, xs = [.ref p] ∧ (SqL G.K H p ys ∨ SqT G.K H p ys) ∧ ∀ l, H l = none → Q (.ref l) (upd H l (.lst ys))) := by
  intro μ H M xs vs Q d M' S r q k
  unfold cList at q
  split at q
  · obtain ⟨ys, h1, h2⟩ := Option.map_eq_some_iff.mp q
    cases h2
    obtain ⟨v, rfl, r1⟩ := r.inv1
    obtain ⟨a, ws, rfl, h2, h3⟩ := rowD_ok S r1 h1
    exact ⟨a, ws, rfl, h2.symm, fun p hp => k (μ ++ [p]) _ _ (.new hp) (List.prefix_append _ _) (new_lst S hp h3) (new_ref S p)⟩
  · cases q
/-! ### items -/
def dIx : D → D → Store → Option (D × Store)
  | .p (.str z), .p (.int i), M => if z.length ≤ sizeLine then (atI z.cps.toList i).map fun c => (.p (.str ⟨#[c]⟩), M) else none
  | c, .p (.int i), M => (match rowD c M with
    | some xs => (atI xs i).map fun x => (x, M)
    | none => none)
  | _, _, _ => none
theorem Reps.atI {μ : List Addr} {H : Hp} {xs : List D} {vs : List V} (h : Reps G μ H xs vs) {i : Int} {x : D} (e : L2.atI xs i = some x) : ∃ v, L2.atI vs i = some v ∧ Rep G μ H x v := by
  unfold L2.atI at e ⊢
  rw [← h.length]
  cases q : ixN xs.length i with
  | none => rw [q] at e; cases e
  | some j =>
    rw [q] at e
    exact h.get (show xs[j]? = some x from e)
theorem d_ix : OpD G dIx (rIx G.K) := by
  intro μ H M x y v u Q d M' S rx ry q k
  unfold dIx at q
  split at q
  · split at q
    · rename_i hz
      obtain ⟨c, h1, h2⟩ := Option.map_eq_some_iff.mp q
      cases h2
      rw [Rep.str] at rx
      rw [Rep.int] at ry
      exact .inr (.inr ⟨_, _, c, rx, ry, hz, h1, k μ _ H (.refl _) (List.prefix_refl _) S (Rep.str.mpr rfl)⟩)
    · cases q
  · split at q
    · rename_i xs h0
      obtain ⟨c, h1, h2⟩ := Option.map_eq_some_iff.mp q
      cases h2
      rw [Rep.int] at ry
      obtain ⟨a, vs, rfl, h3, h4⟩ := rowD_ok S rx h0
      obtain ⟨w, h5, h6⟩ := h4.atI h1
      have fin := k μ _ H (.refl _) (List.prefix_refl _) S h6
      rcases h3 with h3 | h3
      · exact .inr (.inl ⟨a, vs, _, w, rfl, ry, h3, h5, fin⟩)
      · exact .inl ⟨a, vs, _, w, rfl, ry, h3, h5, fin⟩
    · cases q
  · cases q
end
end Fl

set_option Elab.async false
set_option linter.all false
set_option maxRecDepth 100000
/-! Fl, part G: slices, methods of lists, calls of defs. -/
namespace Fl
open PySem PySem.Spec L2
set_option autoImplicit false
/-! ### slices -/
def cutL {α : Type} (xs : List α) (lo hi : Option Int) : List α := (xs.drop (HT.sIx xs.length 0 lo)).take (HT.sIx xs.length xs.length hi - HT.sIx xs.length 0 lo)
def rNoPart : RX (Option Int) := fun _ M => .ok none M
def asPart : D → Store → Option (Option Int × Store)
  | .p (.int i), M => some (some i, M)
  | _, _ => none
def rPart (f : RE) : RX (Option Int) := fun ρ M => (f ρ M).bind fun x M1 => ofO (asPart x M1)
abbrev tPt (G : Gm) (W : WX) (f : RX (Option Int)) : St → Hp → (Option Int → Hp → Prop) → Prop := tX G (fun _ _ (a b : Option Int) => a = b) W f
def dSl (x : D) (lo hi : Option Int) (M : Store) : Option (D × Store) := match x with
  | .p (.str z) => if z.length ≤ sizeLine then some (.p (.str (cutS z lo hi)), M) else none
  | .p (.tup xs) => some (.p (.tup (cutL xs lo hi)), M)
  | .tup xs => some (mkTup (cutL xs lo hi), M)
  | .ref l => (match M[l]? with
    | some (.lst xs) => some (.ref M.length, M ++ [.lst (cutL xs lo hi)])
    | some (.ro xs) => some (.ref M.length, M ++ [.lst (cutL xs lo hi)])
    | _ => none)
  | _ => none
def rSl (f : RE) (lo hi : RX (Option Int)) : RE := fun ρ M => (f ρ M).bind fun x M1 => (lo ρ M1).bind fun a M2 => (hi ρ M2).bind fun b M3 => ofO (dSl x a b M3)
abbrev rSlU (K : PySem.W.Frag) : V → Option Int → Option Int → Hp → VK → Prop := fun x lo hi H Q => rSlS x lo hi H Q ∨ rSlA K x lo hi H Q ∨ rSlL K x lo hi H Q
def dRev : D → Store → Option (D × Store)
  | .ref l, M => (match M[l]? with
    | some (.lst xs) => some (.ref M.length, M ++ [.lst xs.reverse])
    | _ => none)
  | _, _ => none
def rRev (f : RE) : RE := rUn dRev f
section
variable {X : Cx} {G : Gm} {W : WX} {e : Expr} {fe fa : RE}
theorem o_sl : SlR X (rSlU X.K) := sl_str.or (sl_tupA.or sl_list)
theorem Reps.cut {μ H} {xs : List D} {vs : List V} (h : Reps G μ H xs vs) (lo hi : Option Int) : Reps G μ H (cutL xs lo hi) (cutV vs lo hi) := by
  unfold cutL cutV
  rw [h.length]
  exact (h.drop _).take _
theorem cutL_map {α β : Type} (f : α → β) (xs : List α) (lo hi : Option Int) : cutL (xs.map f) lo hi = (cutL xs lo hi).map f := by
  unfold cutL
  rw [List.length_map, List.map_take, List.map_drop]
theorem cutV_whole {xs : List V} {lo hi : Option Int} (h : HT.sIx xs.length 0 lo = 0 ∧ HT.sIx xs.length xs.length hi = xs.length) : cutV xs lo hi = xs := by
  unfold cutV
  rw [h.1, h.2]
  simp
theorem d_sl {μ H M} {x : D} {v : V} {lo hi : Option Int} {Q : VK} {d : D} {M' : Store} (S : SR G μ H M) (r : Rep G μ H x v) (q : dSl x lo hi M = some (d, M'))
    (k : ∀ μ' w H', Ext H H' → μ <+: μ' → SR G μ' H' M' → Rep G μ' H' d w → Q w H') : rSlU G.K v lo hi H Q := by
  unfold dSl at q
  split at q
  · split at q
    · rename_i hz
      cases q
      rw [Rep.str] at r
      exact .inl ⟨_, r, hz, k μ _ H (.refl _) (List.prefix_refl _) S (Rep.str.mpr rfl)⟩
    · cases q
  · rename_i xs
    cases q
    obtain ⟨a, vs, rfl, h1, h2⟩ := Rep.ptup.mp r
    have h3 : RepPs G.K H (cutL xs lo hi) (cutV vs lo hi) := by
      have h4 := (Reps.of_P (G := G) (μ := μ) h2).cut lo hi
      rw [cutL_map] at h4
      exact h4.to_P
    refine .inr (.inl ⟨a, vs, rfl, h1, fun hw => ?_, fun hw p hp => ?_⟩)
    · rw [cutV_whole hw] at h3
      exact k μ _ H (.refl _) (List.prefix_refl _) S (Rep.ptup.mpr ⟨a, vs, rfl, h1, h3⟩)
    · exact k μ _ _ (.new hp) (List.prefix_refl _) (S.grow hp) (new_ptup (M := M) hp h3)
  · rename_i xs
    cases q
    obtain ⟨a, vs, rfl, h1, h2⟩ := Rep.tup.mp r
    have h3 := h2.cut lo hi
    refine .inr (.inl ⟨a, vs, rfl, h1, fun hw => ?_, fun hw p hp => ?_⟩)
    · rw [cutV_whole hw] at h3
      exact k μ _ H (.refl _) (List.prefix_refl _) S (mkTup_ok h1 h3)
    · exact k μ _ _ (.new hp) (List.prefix_refl _) (S.grow hp) (mkTup_ok (SqT.of upd_same) (h3.ext (.new hp) (List.prefix_refl _)))
  · rename_i l
    obtain ⟨a, h1, rfl⟩ := Rep.ref.mp r
    split at q
    · rename_i xs e
      cases q
      obtain ⟨vs, h2, h3⟩ := S.lst h1 e
      exact .inr (.inr ⟨a, vs, rfl, SqL.of h2, fun p hp => k (μ ++ [p]) _ _ (.new hp) (List.prefix_append _ _) (new_lst S hp (h3.cut lo hi)) (new_ref S p)⟩)
    · rename_i xs e
      cases q
      obtain ⟨vs, h2, h3⟩ := S.obj _ a _ h1 e
      exact .inr (.inr ⟨a, vs, rfl, h2.sql, fun p hp => k (μ ++ [p]) _ _ (.new hp) (List.prefix_append _ _) (new_lst S hp (h3.cut lo hi)) (new_ref S p)⟩)
    · cases q
  · cases q
theorem i_nopart : PO X none (tPt (gm X) W rNoPart) := ⟨fun pins s σ H Q I h => po_none.run pins s σ H Q I (by
  obtain ⟨μ, ρ, M, hE, hS, hF⟩ := h
  exact hF μ none H (.refl _) (List.prefix_refl _) hS rfl)⟩
theorem i_part (ha : PE X e (tE (gm X) W fa)) : PO X (some e) (tPt (gm X) W (rPart fa)) := ⟨fun pins s σ H Q I h => (po_some ha).run pins s σ H Q I (by
  refine (tX.bind h).mono fun v H1 ⟨μ, ρ, M, x, hE, hS, rx, hF⟩ => ?_
  have hF : Fin (gm X) (fun _ _ (a b : Option Int) => a = b) W μ σ H1 Q (ofO (asPart x M)) := hF
  cases q : asPart x M with
  | none => rw [q] at hF; exact hF.elim
  | some p =>
    obtain ⟨o, M'⟩ := p
    rw [q] at hF
    unfold asPart at q
    split at q
    · rename_i i
      cases q
      rw [Rep.int] at rx
      exact ⟨i, rx, hF μ (some i) H1 (.refl _) (List.prefix_refl _) hS rfl⟩
    · cases q)⟩
theorem i_slice {lo hi : Option Expr} {fl fh : RX (Option Int)} {p2 pos : Pos} (he : PE X e (tE (gm X) W fe)) (hl : PO X lo (tPt (gm X) W fl)) (hu : PO X hi (tPt (gm X) W fh)) : PE X (.Subscript e (.Slice lo hi none p2) pos) (tE (gm X) W (rSl fe fl fh)) :=
  PEimp (pe_slice o_sl he hl hu) fun σ H Q h => by
    refine (tX.bind h).mono fun v H1 g1 => ?_
    refine (Go.bind (rel2 := fun _ _ (a b : Option Int) => a = b) Rep.mono g1).mono fun a H2 g2 => ?_
    obtain ⟨μ, ρ, M, x, a', hE, hS, rx, ea, hF⟩ := g2
    subst ea
    have g3 : Go (gm X) (Rep (gm X)) (Rep (gm X)) W (fun x ρ M2 => (fh ρ M2).bind fun b M3 => ofO (dSl x a' b M3)) σ Q v H2 := ⟨μ, ρ, M, x, hE, hS, rx, hF⟩
    refine (Go.bind (rel2 := fun _ _ (a b : Option Int) => a = b) Rep.mono g3).mono fun b H3 g4 => ?_
    obtain ⟨μ4, ρ4, M4, x4, b', hE4, hS4, rx4, eb, hF4⟩ := g4
    subst eb
    have hF4 : Fin (gm X) (Rep (gm X)) W μ4 σ H3 Q (ofO (dSl x4 a' b' M4)) := hF4
    cases q : dSl x4 a' b' M4 with
    | none => rw [q] at hF4; exact hF4.elim
    | some p =>
      obtain ⟨d, M'⟩ := p
      rw [q] at hF4
      exact d_sl hS4 rx4 q hF4
/-- xs[::-1] -/
theorem i_rev {k : Nat} {p1 p2 p3 pos : Pos} (he : PE X e (tE (gm X) W fe)) : PE X (.Subscript e (.Slice none none (some (.UnaryOp .USub (.Constant (.int 1) k p1) p2)) p3) pos) (tE (gm X) W (rRev fe)) :=
  PEimp (pe_revL he) fun σ H Q h => by
    refine (tX.bind h).mono fun v H1 ⟨μ, ρ, M, x, hE, hS, rx, hF⟩ => ?_
    have hF : Fin (gm X) (Rep (gm X)) W μ σ H1 Q (ofO (dRev x M)) := hF
    cases q : dRev x M with
    | none => rw [q] at hF; exact hF.elim
    | some p =>
      obtain ⟨o, M'⟩ := p
      rw [q] at hF
      unfold dRev at q
      split at q
      · rename_i l
        split at q
        · rename_i xs e
          cases q
          obtain ⟨a, h1, rfl⟩ := Rep.ref.mp rx
          obtain ⟨vs, h2, h3⟩ := hS.lst h1 e
          exact ⟨a, vs, rfl, SqL.of h2, fun p hp => hF (μ ++ [p]) _ _ (.new hp) (List.prefix_append _ _) (new_lst hS hp h3.rev) (new_ref hS p)⟩
        · cases q
      · cases q
end
/-! ### methods of lists -/
def isLst : D → Store → Bool
  | .ref l, M => (match M[l]? with
    | some (.lst _) => true
    | _ => false)
  | _, _ => false
def MtD (G : Gm) (op : D → List D → Store → Option (D × Store)) (r : V → List V → Hp → VK → Prop) : Prop :=
  ∀ (μ : List Addr) (H : Hp) (M : Store) (x : D) (xs : List D) (v : V) (vs : List V) (Q : VK) (d : D) (M' : Store), SR G μ H M → Rep G μ H x v → Reps G μ H xs vs → op x xs M = some (d, M') →
    (∀ μ' w H', Ext H H' → μ <+: μ' → SR G μ' H' M' → Rep G μ' H' d w → Q w H') → r v vs H Q
def rLM (op : D → List D → Store → Option (D × Store)) (fo : RE) (fs : RA) : RE := fun ρ M => (fo ρ M).bind fun x M1 => match isLst x M1 with
  | true => (fs ρ M1).bind fun xs M2 => ofO (op x xs M2)
  | false => .no
def rLM0 (op : D → List D → Store → Option (D × Store)) (fo : RE) : RE := fun ρ M => (fo ρ M).bind fun x M1 => match isLst x M1 with
  | true => ofO (op x [] M1)
  | false => .no
section
variable {X : Cx} {G : Gm} {W : WX} {o e : Expr} {es : List Expr} {fo : RE} {fs : RA} {name : Str} {apos cpos : Pos} {id : String} {r : V → List V → Hp → VK → Prop} {op : D → List D → Store → Option (D × Store)}
theorem isLst_ok {μ H M} {x : D} {v : V} (S : SR G μ H M) (r : Rep G μ H x v) (h : isLst x M = true) : tyV G.K "list" v H := by
  unfold isLst at h
  split at h
  · rename_i l
    split at h
    · rename_i xs e
      obtain ⟨a, h1, rfl⟩ := Rep.ref.mp r
      obtain ⟨vs, h2, h3⟩ := S.lst h1 e
      exact .inl ⟨rfl, vs, SqL.of h2⟩
    · cases h
  · cases h
theorem i_lm (slot : Slot "list" name id) (hty : typeOf (.builtin id) = pure (.type "method_descriptor")) (hm : MtR X id r) (hd : MtD (gm X) op r) (ho : PE X o (tE (gm X) W fo)) (ha : PA X (e :: es) (tA (gm X) W fs))
    (hbase : attributeBase o name X.env (eval o X.env) = eval o X.env := by rfl)
    (hfew : ((backTo cpos (starEach (e :: es) X.env)).all (fun x => !x.1) && (backToKw cpos (keywordEach [] X.env)).all (fun x => x.1.isSome)
      && decide ((e :: es).length + ([] : List Keyword).length + (if ([] : List Keyword).isEmpty then 0 else 1) < 30)) = true := by rfl)
    (hline : (apos.endLine == cpos.line) = true := by rfl) (hs : starEach (e :: es) X.env = (false, eval e X.env) :: starEach es X.env := by rfl) (hplain : (backTo cpos (starEach es X.env)).any (·.1) = false := by rfl) :
    PE X (.Call (.Attribute o name apos) (e :: es) [] cpos) (tE (gm X) W (rLM op fo fs)) :=
  PEimp (pe_bm PySem.F.plainAttrs_list slot hty hm ho ha hbase hfew hline hs hplain) fun σ H Q h => by
    refine (tX.bind h).mono fun v H1 ⟨μ, ρ, M, x, hE, hS, rx, hF⟩ => ?_
    have hF : Fin (gm X) (Rep (gm X)) W μ σ H1 Q (match isLst x M with
      | true => (fs ρ M).bind fun xs M2 => ofO (op x xs M2)
      | false => .no) := hF
    cases q : isLst x M with
    | false => rw [q] at hF; exact hF.elim
    | true =>
      rw [q] at hF
      refine ⟨isLst_ok hS rx q, ?_⟩
      have g1 : Go (gm X) (Rep (gm X)) (Rep (gm X)) W (fun x ρ M => (fs ρ M).bind fun xs M2 => ofO (op x xs M2)) σ Q v H1 := ⟨μ, ρ, M, x, hE, hS, rx, hF⟩
      refine (Go.bind Rep.mono g1).mono fun vs H2 ⟨μ2, ρ2, M2, x2, xs, hE2, hS2, rx2, rxs, hF2⟩ => ?_
      have hF2 : Fin (gm X) (Rep (gm X)) W μ2 σ H2 Q (ofO (op x2 xs M2)) := hF2
      cases q2 : op x2 xs M2 with
      | none => rw [q2] at hF2; exact hF2.elim
      | some p =>
        obtain ⟨d, M'⟩ := p
        rw [q2] at hF2
        exact hd μ2 H2 M2 x2 xs v vs Q d M' hS2 rx2 rxs q2 hF2
theorem i_lm0 (slot : Slot "list" name id) (hty : typeOf (.builtin id) = pure (.type "method_descriptor")) (hm : MtR X id r) (hd : MtD (gm X) op r) (ho : PE X o (tE (gm X) W fo))
    (hbase : attributeBase o name X.env (eval o X.env) = eval o X.env := by rfl) (hline : (apos.endLine == cpos.line) = true := by rfl) :
    PE X (.Call (.Attribute o name apos) [] [] cpos) (tE (gm X) W (rLM0 op fo)) :=
  PEimp (pe_bm0 PySem.F.plainAttrs_list slot hty hm ho hbase hline) fun σ H Q h => by
    refine (tX.bind h).mono fun v H1 ⟨μ, ρ, M, x, hE, hS, rx, hF⟩ => ?_
    have hF : Fin (gm X) (Rep (gm X)) W μ σ H1 Q (match isLst x M with
      | true => ofO (op x [] M)
      | false => .no) := hF
    cases q : isLst x M with
    | false => rw [q] at hF; exact hF.elim
    | true =>
      rw [q] at hF
      refine ⟨isLst_ok hS rx q, ?_⟩
      have hF2 : Fin (gm X) (Rep (gm X)) W μ σ H1 Q (ofO (op x [] M)) := hF
      cases q2 : op x [] M with
      | none => rw [q2] at hF2; exact hF2.elim
      | some p =>
        obtain ⟨d, M'⟩ := p
        rw [q2] at hF2
        exact hd μ H1 M x [] v [] Q d M' hS rx .nil q2 hF2
def mAppend : D → List D → Store → Option (D × Store)
  | .ref l, [y], M => (match M[l]? with
    | some (.lst xs) => if xs.length < sizeLine then some (.p .non, M.set l (.lst (xs ++ [y]))) else none
    | _ => none)
  | _, _, _ => none
theorem d_append : MtD G mAppend rAppend := by
  intro μ H M x xs v vs Q d M' S rx rxs q k
  unfold mAppend at q
  split at q
  · rename_i l y
    split at q
    · rename_i ys e
      split at q
      · rename_i hl
        cases q
        obtain ⟨a, h1, rfl⟩ := Rep.ref.mp rx
        obtain ⟨ws, h2, h3⟩ := S.lst h1 e
        obtain ⟨w, rfl, h4⟩ := rxs.inv1
        refine ⟨a, ws, w, rfl, rfl, h2, by rw [← h3.length]; exact hl, ?_⟩
        have ex := Ext.lst (o := .lst (ws ++ [w])) h2
        exact k μ _ _ ex (List.prefix_refl _) (S.put h1 e rfl rfl (fun ob w z => by rw [h2] at z; cases z) ex ⟨_, upd_same, (h3.app (.cons h4 .nil)).ext ex (List.prefix_refl _)⟩) (Rep.non.mpr rfl)
      · cases q
    · cases q
  · cases q
def mPop : D → List D → Store → Option (D × Store)
  | .ref l, [], M => (match M[l]? with
    | some (.lst xs) => (match xs[xs.length - 1]? with
      | some y => some (y, M.set l (.lst xs.dropLast))
      | none => none)
    | _ => none)
  | _, _, _ => none
theorem d_pop : MtD G mPop rPop := by
  intro μ H M x xs v vs Q d M' S rx rxs q k
  unfold mPop at q
  split at q
  · rename_i l
    split at q
    · rename_i ys e
      split at q
      · rename_i y hy
        cases q
        obtain ⟨a, h1, rfl⟩ := Rep.ref.mp rx
        obtain ⟨ws, h2, h3⟩ := S.lst h1 e
        obtain ⟨w, h4, h5⟩ := h3.get hy
        have e0 := rxs.inv0
        subst e0
        refine ⟨a, ws, w, rfl, rfl, h2, by rw [← h3.length]; exact h4, ?_⟩
        have ex := Ext.lst (o := .lst ws.dropLast) h2
        exact k μ _ _ ex (List.prefix_refl _) (S.put h1 e rfl rfl (fun ob w z => by rw [h2] at z; cases z) ex ⟨_, upd_same, h3.dropLast.ext ex (List.prefix_refl _)⟩) (h5.ext ex (List.prefix_refl _))
      · cases q
    · cases q
  · cases q
end
/-! ### calls of defs -/
def FinC (G : Gm) (E : XK) (μ : List Addr) (H : Hp) (Q : VK) (r : R D) : Prop := Fin G (Rep G) (fun c d _ H => E c d H) μ [] H Q r
/-- the promise: F tells what comes -/
def spD (G : Gm) (F : List D → Store → R D) (n : Nat) : Sp := fun vs H Q E => ∃ μ ds M, vs.length = n ∧ Reps G μ H ds vs ∧ SR G μ H M ∧ FinC G E μ H Q (F ds M)
/-- a def that keeps it stands under the name x -/
structure Df (P : Program) (w : World) (K : PySem.W.Frag) (mg : Str → Option Value) (base : Heap) (x : Str) (ps : List Str) (F : List D → Store → R D) (k : Nat) : Prop where
  is_ : ∃ f fd, mg x = some (.ref f) ∧ PySem.W.keepIn K (.ref f) = true ∧ Binds K fd ps [] ∧ FnOk P w K mg base (L2N.CX P w) k f fd ps (spD ⟨K, mg⟩ F ps.length)
section
variable {X : Cx} {W : WX} {x : Str} {ps : List Str} {F : List D → Store → R D} {k j : Nat} {e : Expr} {es : List Expr} {fs : RA} {p pos : Pos}
theorem Df.mono (D : Df X.prog X.w X.K X.mg X.base x ps F k) (h : k ≤ j) : Df X.prog X.w X.K X.mg X.base x ps F j := by
  obtain ⟨f, fd, h1, h2, h3, h4⟩ := D.is_
  exact ⟨f, fd, h1, h2, h3, h4.mono h⟩
theorem Reps.len_eq {G : Gm} {μ : List Addr} {H : Hp} {ds : List D} {vs : List V} (r : Reps G μ H ds vs) : vs.length = ds.length := r.length.symm
theorem FinC_of {σ : St} {μ : List Addr} {H : Hp} {Q : VK} {r : R D} (h : Fin (gm X) (Rep (gm X)) W μ σ H Q r) : FinC (gm X) (WE W σ) μ H Q r := by
  cases r with
  | ok d M' => exact h
  | ex c gs M' => exact h
  | no => exact h
/-- the arguments are as many as the parameters -/
def rCallN (n : Nat) (F : List D → Store → R D) (fs : RA) : RE := fun ρ M => (fs ρ M).bind fun ds M1 => if ds.length = n then F ds M1 else .no
theorem call_in {n : Nat} {σ : St} {H : Hp} {Q : VK} (h : tE (gm X) W (rCallN n F fs) σ H Q) : tA (gm X) W fs σ H fun vs H1 => spD (gm X) F n vs H1 Q (WE W σ) := by
  refine (tX.bind (g := fun ds _ M => if ds.length = n then F ds M else .no) h).mono fun vs H1 ⟨μ, ρ, M, ds, hE, hS, rx, hF⟩ => ?_
  have hF : Fin (gm X) (Rep (gm X)) W μ σ H1 Q (if ds.length = n then F ds M else .no) := hF
  split at hF
  · rename_i hn
    exact ⟨μ, ds, M, by rw [rx.len_eq]; exact hn, rx, hS, FinC_of hF⟩
  · exact hF.elim
/-- f(e, ..) -/
theorem i_call (D : Df X.prog X.w X.K X.mg X.base x ps F k) (hr : Room k X.A) (hg : Gl X x) (tk : L2N.Takes X W) (ha : PA X (e :: es) (tA (gm X) W fs)) (hdb : (x == ("__debug__" : Str)) = false := by decide)
    (he : starEach (e :: es) X.env = (false, eval e X.env) :: starEach es X.env := by rfl) (hpl : (backTo pos (starEach es X.env)).any (·.1) = false := by rfl) : PE X (.Call (.Name x p) (e :: es) [] pos) (tE (gm X) W (rCallN ps.length F fs)) := by
  obtain ⟨f, fd, h1, h2, h3, h4⟩ := D.is_
  refine PEimp (pe_callSD (E := WE W) (dvs := []) h4 hr hg h1 h2 h3 .nil (fun σ => L2N.passAt tk σ) ha hdb he hpl) fun σ H Q h => ?_
  refine (call_in h).mono fun vs H1 q => ?_
  rw [List.append_nil]
  exact q
/-- f() -/
theorem i_call0 (D : Df X.prog X.w X.K X.mg X.base x [] F k) (hr : Room k X.A) (hg : Gl X x) (tk : L2N.Takes X W) (hdb : (x == ("__debug__" : Str)) = false := by decide) : PE X (.Call (.Name x p) [] [] pos) (tE (gm X) W (rCallN 0 F rNil)) := by
  obtain ⟨f, fd, h1, h2, h3, h4⟩ := D.is_
  refine ⟨fun pins s σ H Q I h => ?_⟩
  obtain ⟨μ, ρ, M, hE, hS, hF⟩ := h
  have hF : Fin (gm X) (Rep (gm X)) W μ σ H Q (F [] M) := hF
  refine wpAny_Call_Name_kw (ld_glob I hg h1 ?_ hdb)
  exact PySem.W.callWith_K0 I.kIn h2 (run_fnSD (us := []) (dvs := []) (E := WE W) h4 hr h3 .nil (L2N.passAt tk σ) I .nil ⟨μ, [], M, rfl, .nil, hS, FinC_of hF⟩)
end
end Fl

set_option Elab.async false
set_option linter.all false
set_option maxRecDepth 100000
/-! Fl, part H: statements. -/
namespace Fl
open PySem PySem.Spec L2
set_option autoImplicit false
theorem PSimp {X : Cx} {e : Stmt} {t t' : TS} (h : PS X e t) (w : ∀ D σ H, t' D σ H → t D σ H) : PS X e t' := ⟨fun pins s σ H D I q => h.run pins s σ H D I (w D σ H q)⟩
theorem PSsimp {X : Cx} {e : List Stmt} {t t' : TS} (h : PSs X e t) (w : ∀ D σ H, t' D σ H → t D σ H) : PSs X e t' := ⟨fun pins s σ H D I q => h.run pins s σ H D I (w D σ H q)⟩
theorem PGimp {X : Cx} {e : Expr} {t t' : TG} (h : PG X e t) (w : ∀ v σ H Q, t' v σ H Q → t v σ H Q) : PG X e t' := ⟨fun pins s σ H v u Q I r q => h.run pins s σ H v u Q I r (w v σ H Q q)⟩
theorem PGsimp {X : Cx} {e : List Expr} {t t' : TGs} (h : PGs X e t) (w : ∀ v σ H Q, t' v σ H Q → t v σ H Q) : PGs X e t' := ⟨fun pins s σ H v u Q I r q => h.run pins s σ H v u Q I r (w v σ H Q q)⟩
theorem PIimp {X : Cx} {tg e : Expr} {t t' : TI} (h : PI X tg e t) (w : ∀ σ H Q, t' σ H Q → t σ H Q) : PI X tg e t' := ⟨fun pins s σ H Q I q => h.run pins s σ H Q I (w σ H Q q)⟩

def FinS (G : Gm) (W : WX) (D : Ends) (μ : List Addr) (H : Hp) : Out → Prop
  | .nx ρ M => ∀ μ' σ' H', Ext H H' → μ <+: μ' → ER G μ' H' ρ σ' → SR G μ' H' M → D.nx σ' H'
  | .rt d M => ∀ μ' v H', Ext H H' → μ <+: μ' → SR G μ' H' M → Rep G μ' H' d v → D.rt v H'
  | .bk ρ M => ∀ μ' σ' H', Ext H H' → μ <+: μ' → ER G μ' H' ρ σ' → SR G μ' H' M → D.bk σ' H'
  | .ct ρ M => ∀ μ' σ' H', Ext H H' → μ <+: μ' → ER G μ' H' ρ σ' → SR G μ' H' M → D.ct σ' H'
  | .ex c fs ρ M => ∀ μ' σ' H' dx, Ext H H' → μ <+: μ' → ER G μ' H' ρ σ' → SR G μ' H' M → XR G μ' H' fs dx → W (cval G c) dx σ' H'
  | .no => False
def tS (G : Gm) (W : WX) (m : RS) : TS := fun D σ H => ∃ μ ρ M, ER G μ H ρ σ ∧ SR G μ H M ∧ FinS G W D μ H (m ρ M)
section
variable {G : Gm} {W : WX} {D : Ends} {μ μ1 : List Addr} {H H1 : Hp}
theorem FinS.later {r : Out} (e : Ext H H1) (p : μ <+: μ1) (h : FinS G W D μ H r) : FinS G W D μ1 H1 r := by
  cases r with
  | nx ρ M => exact fun μ' σ' H' e' p' => h μ' σ' H' (e.trans e') (p.trans p')
  | rt d M => exact fun μ' v H' e' p' => h μ' v H' (e.trans e') (p.trans p')
  | bk ρ M => exact fun μ' σ' H' e' p' => h μ' σ' H' (e.trans e') (p.trans p')
  | ct ρ M => exact fun μ' σ' H' e' p' => h μ' σ' H' (e.trans e') (p.trans p')
  | ex c fs ρ M => exact fun μ' σ' H' dx e' p' => h μ' σ' H' dx (e.trans e') (p.trans p')
  | no => exact h
/-- an expression, then the rest -/
theorem tX.out {α ι : Type} {rel : List Addr → Hp → α → ι → Prop} {f : RX α} {g : α → Env → Store → Out} {σ : St} (h : tS G W (fun ρ M => (f ρ M).out ρ fun a M1 => g a ρ M1) D σ H) :
    tX G rel W f σ H fun v H1 => ∃ μ ρ M a, ER G μ H1 ρ σ ∧ SR G μ H1 M ∧ rel μ H1 a v ∧ FinS G W D μ H1 (g a ρ M) := by
  obtain ⟨μ, ρ, M, hE, hS, hF⟩ := h
  have hF : FinS G W D μ H ((f ρ M).out ρ fun a M1 => g a ρ M1) := hF
  refine ⟨μ, ρ, M, hE, hS, ?_⟩
  cases q : f ρ M with
  | ok a M1 =>
    rw [q] at hF
    intro μ' v H' e p s r
    exact ⟨μ', ρ, M1, a, hE.ext e p, s, r, FinS.later e p hF⟩
  | ex c fs M1 =>
    rw [q] at hF
    exact fun μ' H' dx e p s x => hF μ' σ H' dx e p (hE.ext e p) s x
  | no =>
    rw [q] at hF
    exact hF
end
/-! ### blocks, small statements -/
def rSkip : RS := fun ρ M => .nx ρ M
def rSeq (a b : RS) : RS := fun ρ M => (a ρ M).bind b
def rExpr (f : RE) : RS := fun ρ M => (f ρ M).out ρ fun _ M1 => .nx ρ M1
def rRet (f : RE) : RS := fun ρ M => (f ρ M).out ρ fun d M1 => .rt d M1
def rRetN : RS := fun _ M => .rt (.p .non) M
def rBreak : RS := fun ρ M => .bk ρ M
def rCont : RS := fun ρ M => .ct ρ M
def rIfS (t : RT) (a b : RS) : RS := fun ρ M => (t ρ M).out ρ fun k M1 => match k with
  | true => a ρ M1
  | false => b ρ M1
section
variable {X : Cx} {W : WX} {e c : Expr} {st : Stmt} {rest sa sb : List Stmt} {a b : RS} {fe : RE} {tc : RT} {pos : Pos}
theorem s_nil : PSs X [] (tS (gm X) W rSkip) := PSsimp pss_nil fun D σ H h => by
  obtain ⟨μ, ρ, M, hE, hS, hF⟩ := h
  exact hF μ σ H (.refl _) (List.prefix_refl _) hE hS
theorem tS_seq {D : Ends} {σ : St} {H : Hp} (h : tS (gm X) W (rSeq a b) D σ H) : tSeq (tS (gm X) W a) (tS (gm X) W b) D σ H := by
  obtain ⟨μ, ρ, M, hE, hS, hF⟩ := h
  have hF : FinS (gm X) W D μ H ((a ρ M).bind b) := hF
  refine ⟨μ, ρ, M, hE, hS, ?_⟩
  cases q : a ρ M with
  | nx ρ' M' =>
    rw [q] at hF
    intro μ' σ' H' e p hE' hS'
    exact ⟨μ', ρ', M', hE', hS', FinS.later e p hF⟩
  | rt d M' => rw [q] at hF; exact hF
  | bk ρ' M' => rw [q] at hF; exact hF
  | ct ρ' M' => rw [q] at hF; exact hF
  | ex c fs ρ' M' => rw [q] at hF; exact hF
  | no => rw [q] at hF; exact hF
theorem s_cons (h1 : PS X st (tS (gm X) W a)) (h2 : PSs X rest (tS (gm X) W b)) : PSs X (st :: rest) (tS (gm X) W (rSeq a b)) := PSsimp (pss_cons h1 h2) fun _ _ _ h => tS_seq h
theorem s_one (h1 : PS X st (tS (gm X) W a)) : PSs X [st] (tS (gm X) W a) := pss_one h1
theorem s_pass : PS X (.Pass pos) (tS (gm X) W rSkip) := PSimp ps_pass fun D σ H h => by
  obtain ⟨μ, ρ, M, hE, hS, hF⟩ := h
  exact hF μ σ H (.refl _) (List.prefix_refl _) hE hS
theorem s_break : PS X (.Break pos) (tS (gm X) W rBreak) := PSimp ps_break fun D σ H h => by
  obtain ⟨μ, ρ, M, hE, hS, hF⟩ := h
  exact hF μ σ H (.refl _) (List.prefix_refl _) hE hS
theorem s_cont : PS X (.Continue pos) (tS (gm X) W rCont) := PSimp ps_continue fun D σ H h => by
  obtain ⟨μ, ρ, M, hE, hS, hF⟩ := h
  exact hF μ σ H (.refl _) (List.prefix_refl _) hE hS
theorem s_expr (he : PE X e (tE (gm X) W fe)) (hs : swapsWith e none pos.line X.env = pure false := by rfl) : PS X (.Expr e pos) (tS (gm X) W (rExpr fe)) :=
  PSimp (ps_expr he hs) fun D σ H h => (tX.out h).mono fun v H1 ⟨μ, ρ, M, x, hE, hS, rx, hF⟩ => hF μ σ H1 (.refl _) (List.prefix_refl _) hE hS
theorem s_ret (he : PE X e (tE (gm X) W fe)) : PS X (.Return (some e) pos) (tS (gm X) W (rRet fe)) :=
  PSimp (ps_ret he) fun D σ H h => (tX.out h).mono fun v H1 ⟨μ, ρ, M, x, hE, hS, rx, hF⟩ => hF μ v H1 (.refl _) (List.prefix_refl _) hS rx
theorem s_retN : PS X (.Return none pos) (tS (gm X) W rRetN) := PSimp ps_retN fun D σ H h => by
  obtain ⟨μ, ρ, M, hE, hS, hF⟩ := h
  exact hF μ .non H (.refl _) (List.prefix_refl _) hS (Rep.non.mpr rfl)
theorem s_if (hc : PT X c (tT (gm X) W tc)) (ha : PSs X sa (tS (gm X) W a)) (hb : PSs X sb (tS (gm X) W b)) : PS X (.If c sa sb pos) (tS (gm X) W (rIfS tc a b)) :=
  PSimp (ps_if hc ha hb) fun D σ H h => by
    refine (tX.out (rel := fun _ _ (a b : Bool) => a = b) (g := fun k ρ M => match k with | true => a ρ M | false => b ρ M) h).mono fun k H1 ⟨μ, ρ, M, x, hE, hS, rx, hF⟩ => ?_
    subst rx
    cases x with
    | true => exact iteT ⟨μ, ρ, M, hE, hS, hF⟩
    | false => exact iteF ⟨μ, ρ, M, hE, hS, hF⟩
end
/-! ### targets -/
abbrev RG := D → Env → Store → Option (Env × Store)
def FinG (G : Gm) (μ : List Addr) (H : Hp) (Q : St → Hp → Prop) : Option (Env × Store) → Prop
  | some (ρ, M) => ∀ μ' σ' H', Ext H H' → μ <+: μ' → ER G μ' H' ρ σ' → SR G μ' H' M → Q σ' H'
  | none => False
def tG (G : Gm) (g : RG) : TG := fun v σ H Q => ∃ μ ρ M d, ER G μ H ρ σ ∧ SR G μ H M ∧ Rep G μ H d v ∧ FinG G μ H Q (g d ρ M)
abbrev RGs := List D → Env → Store → Option (Env × Store)
def tGs (G : Gm) (g : RGs) : TGs := fun vs σ H Q => ∃ μ ρ M ds, ER G μ H ρ σ ∧ SR G μ H M ∧ Reps G μ H ds vs ∧ FinG G μ H Q (g ds ρ M)
theorem FinG.later {G : Gm} {μ μ1 : List Addr} {H H1 : Hp} {Q : St → Hp → Prop} {r : Option (Env × Store)} (e : Ext H H1) (p : μ <+: μ1) (h : FinG G μ H Q r) : FinG G μ1 H1 Q r := by
  cases r with
  | some q => obtain ⟨ρ, M⟩ := q; exact fun μ' σ' H' e' p' => h μ' σ' H' (e.trans e') (p.trans p')
  | none => exact h
def gNm (i : Nat) : RG := fun d ρ M => some (ρ.set i (some d), M)
def gNi : RGs := fun ds ρ M => match ds with
  | [] => some (ρ, M)
  | _ :: _ => none
def gCo (g : RG) (gs : RGs) : RGs := fun ds ρ M => match ds with
  | [] => none
  | d :: r => (match g d ρ M with
    | some (ρ1, M1) => gs r ρ1 M1
    | none => none)
/-- the items of a tuple -/
def tupD : D → Option (List D)
  | .p (.tup xs) => some (xs.map D.p)
  | .tup xs => some xs
  | _ => none
def gTp (n : Nat) (gs : RGs) : RG := fun d ρ M => match tupD d with
  | some xs => if xs.length = n then gs xs ρ M else none
  | none => none
def rAsg (f : RE) (g : RG) : RS := fun ρ M => (f ρ M).out ρ fun d M1 => match g d ρ M1 with
  | some (ρ2, M2) => .nx ρ2 M2
  | none => .no
def rSet (i : Nat) (f : RE) : RS := fun ρ M => (f ρ M).out ρ fun d M1 => .nx (ρ.set i (some d)) M1
def rPar (i j : Nat) (f : RA) : RS := fun ρ M => (f ρ M).out ρ fun ds M1 => match ds with
  | [x, y] => .nx ((ρ.set i (some x)).set j (some y)) M1
  | _ => .no
section
variable {X : Cx} {W : WX} {e tg : Expr} {es : List Expr} {fe : RE} {g : RG} {gs : RGs} {fs : RA} {pos : Pos}
theorem tupD_ok {G : Gm} {μ : List Addr} {H : Hp} {d : D} {v : V} {xs : List D} (r : Rep G μ H d v) (h : tupD d = some xs) : ∃ a vs, v = .ref a ∧ SqT G.K H a vs ∧ Reps G μ H xs vs := by
  unfold tupD at h
  split at h
  · cases h
    obtain ⟨a, vs, rfl, h1, h2⟩ := Rep.ptup.mp r
    exact ⟨a, vs, rfl, h1, Reps.of_P h2⟩
  · cases h
    exact Rep.tup.mp r
  · cases h
theorem g_nm (i : Nat) {x : Str} (hN : X.N.Nodup) (hi : X.N[i]? = some x := by rfl) (hx : Loc X.env.scope x := by first | exact Or.inl rfl | exact Or.inr rfl) (hf : X.fn x = true ∨ X.env.scope.names.lookup x = some .local := by first | exact .inl rfl | exact .inr rfl | assumption) : PG X (.Name x pos) (tG (gm X) (gNm i)) :=
  PGimp (pg_name hN hi hx hf) fun v σ H Q h => by
    obtain ⟨μ, ρ, M, d, hE, hS, r, hF⟩ := h
    exact hF μ _ H (.refl _) (List.prefix_refl _) (hE.set i r) hS
theorem g_nil : PGs X [] (tGs (gm X) gNi) := PGsimp pgs_nil fun v σ H Q h => by
  obtain ⟨μ, ρ, M, ds, hE, hS, r, hF⟩ := h
  cases ds with
  | nil => exact ⟨r.inv0, hF μ _ H (.refl _) (List.prefix_refl _) hE hS⟩
  | cons d ds => exact hF.elim
theorem g_cons (h1 : PG X e (tG (gm X) g)) (h2 : PGs X es (tGs (gm X) gs)) (hs : (assignEach (e :: es) X.env).map (·.2) = assign e X.env :: (assignEach es X.env).map (·.2) := by rfl) : PGs X (e :: es) (tGs (gm X) (gCo g gs)) :=
  PGsimp (pgs_cons h1 h2 hs) fun v σ H Q h => by
    obtain ⟨μ, ρ, M, ds, hE, hS, r, hF⟩ := h
    cases ds with
    | nil => exact hF.elim
    | cons d ds =>
      obtain ⟨v, vr, rfl, r1, r2⟩ := r.inv
      refine ⟨v, vr, rfl, μ, ρ, M, d, hE, hS, r1, ?_⟩
      have hF : FinG (gm X) μ H Q (match g d ρ M with
        | some (ρ1, M1) => gs ds ρ1 M1
        | none => none) := hF
      cases q : g d ρ M with
      | none => rw [q] at hF; exact hF.elim
      | some p =>
        obtain ⟨ρ1, M1⟩ := p
        rw [q] at hF
        exact fun μ' σ' H' e p hE' hS' => ⟨μ', ρ1, M1, ds, hE', hS', r2.ext e p, FinG.later e p hF⟩
theorem g_tup {k n : Nat} (hc : X.calm = true) (h : PGs X es (tGs (gm X) gs)) (hn : (assignEach es X.env).length = n := by rfl) (hst : (assignEach es X.env).findIdx? (·.1) = none := by rfl) : PG X (.Tuple es k pos) (tG (gm X) (gTp n gs)) :=
  PGimp (pg_tup hc h hn hst) fun v σ H Q h => by
    obtain ⟨μ, ρ, M, d, hE, hS, r, hF⟩ := h
    have hF : FinG (gm X) μ H Q (match tupD d with
      | some xs => if xs.length = n then gs xs ρ M else none
      | none => none) := hF
    cases q : tupD d with
    | none => rw [q] at hF; exact hF.elim
    | some xs =>
      rw [q] at hF
      obtain ⟨a, vs, rfl, h1, h2⟩ := tupD_ok r q
      have hF : FinG (gm X) μ H Q (if xs.length = n then gs xs ρ M else none) := hF
      split at hF
      · rename_i hl
        exact ⟨a, vs, rfl, h1, by rw [h2.len_eq]; exact hl, μ, ρ, M, xs, hE, hS, h2, hF⟩
      · exact hF.elim
theorem s_asg (he : PE X e (tE (gm X) W fe)) (hg : PG X tg (tG (gm X) g)) (hs : swapsWithSole [tg] e pos.line X.env = pure false := by rfl) (hw : swappedStores [tg] e X.env = pure none := by rfl)
    (h1 : (assignEach [tg] X.env).map (·.2) = [assign tg X.env] := by rfl) : PS X (.Assign [tg] e pos) (tS (gm X) W (rAsg fe g)) :=
  PSimp (ps_asg he hg hs hw h1) fun D σ H h => by
    refine (tX.out (g := fun d ρ M => match g d ρ M with | some (ρ2, M2) => .nx ρ2 M2 | none => .no) h).mono fun v H1 ⟨μ, ρ, M, x, hE, hS, rx, hF⟩ => ⟨μ, ρ, M, x, hE, hS, rx, ?_⟩
    have hF : FinS (gm X) W D μ H1 (match g x ρ M with | some (ρ2, M2) => .nx ρ2 M2 | none => .no) := hF
    cases q : g x ρ M with
    | none => rw [q] at hF; exact hF.elim
    | some p => rw [q] at hF; exact hF
theorem s_set (i : Nat) {x : Str} {pos' : Pos} (he : PE X e (tE (gm X) W fe)) (hN : X.N.Nodup) (hi : X.N[i]? = some x := by rfl) (hx : Loc X.env.scope x := by first | exact Or.inl rfl | exact Or.inr rfl)
    (hs : swapsWith e (some (.Name x pos')) pos.line X.env = pure false := by rfl) (hf : X.fn x = true ∨ X.env.scope.names.lookup x = some .local := by first | exact .inl rfl | exact .inr rfl | assumption) :
    PS X (.Assign [.Name x pos'] e pos) (tS (gm X) W (rSet i fe)) :=
  PSimp (ps_set hN hi hx he hs hf) fun D σ H h => (tX.out h).mono fun v H1 ⟨μ, ρ, M, x, hE, hS, rx, hF⟩ => hF μ _ H1 (.refl _) (List.prefix_refl _) (hE.set i rx) hS
/-- a, b = x, y -/
theorem s_par (i j : Nat) {x y : Str} {a b : Expr} {px py pt : Pos} {kt k2 : Nat} {pt2 : Pos} (ha : PA X [a, b] (tA (gm X) W fs)) (hc : X.calm = true) (hN : X.N.Nodup) (hi : X.N[i]? = some x := by rfl) (hj : X.N[j]? = some y := by rfl) (hij : i ≠ j := by decide)
    (hx : X.env.scope.names.lookup x = some .local := by rfl) (hy : X.env.scope.names.lookup y = some .local := by rfl)
    (hw : swappedStores [.Tuple [.Name x px, .Name y py] kt pt] (.Tuple [a, b] k2 pt2) X.env = pure (some [x, y]) := by rfl)
    (hs : swapsWithSole [.Tuple [.Name x px, .Name y py] kt pt] (.Tuple [a, b] k2 pt2) pos.line X.env = pure false := by rfl) :
    PS X (.Assign [.Tuple [.Name x px, .Name y py] kt pt] (.Tuple [a, b] k2 pt2) pos) (tS (gm X) W (rPar i j fs)) :=
  PSimp (ps_par hc hN hi hj hij hx hy ha hw hs) fun D σ H h => by
    refine (tX.out (rel := Reps (gm X)) (g := fun ds ρ M1 => match ds with | [x, y] => .nx ((ρ.set i (some x)).set j (some y)) M1 | _ => .no) h).mono fun vs H1 ⟨μ, ρ, M, ds, hE, hS, rx, hF⟩ => ?_
    match ds, rx, hF with
    | [], _, hF => exact hF.elim
    | [_], _, hF => exact hF.elim
    | [d1, d2], rx, hF =>
      obtain ⟨v, u, rfl, r1, r2⟩ := rx.inv2
      exact ⟨v, u, rfl, hF μ _ H1 (.refl _) (List.prefix_refl _) ((hE.set i r1).set j r2) hS⟩
    | _ :: _ :: _ :: _, _, hF => exact hF.elim
end
/-! ### x op= e -/
def rAug (i : Nat) (op : D → D → Store → Option (D × Store)) (f : RE) : RS := fun ρ M => match ρ[i]? with
  | some (some x) => (f ρ M).out ρ fun y M1 => (match op x y M1 with
    | some (z, M2) => .nx (ρ.set i (some z)) M2
    | none => .no)
  | _ => .no
section
variable {X : Cx} {W : WX} {e : Expr} {fe : RE} {pos : Pos}
theorem s_aug (i : Nat) {x : Str} {o : Operator} {op r} {pos' : Pos} (ho : OpR X (inplaceOp o) r) (hd : OpD (gm X) op r) (he : PE X e (tE (gm X) W fe)) (hN : X.N.Nodup) (hi : X.N[i]? = some x := by rfl) (hx : Loc X.env.scope x := by first | exact Or.inl rfl | exact Or.inr rfl)
    (hf : X.fn x = true ∨ X.env.scope.names.lookup x = some .local := by first | exact .inl rfl | exact .inr rfl | assumption) : PS X (.AugAssign (.Name x pos') o e pos) (tS (gm X) W (rAug i op fe)) :=
  PSimp (ps_aug hN hi hx he (show PIp X o r from fun pins s σ H x y v u Q I r1 r2 h => ho pins s σ H x y v u Q I r1 r2 h) hf) fun D σ H h => by
    obtain ⟨μ, ρ, M, hE, hS, hF⟩ := h
    unfold rAug at hF
    split at hF
    · rename_i x e0
      obtain ⟨v, e1, r1⟩ := hE.at_ i x e0
      refine ⟨v, e1, ?_⟩
      refine ⟨μ, ρ, M, hE, hS, ?_⟩
      cases q : fe ρ M with
      | ok y M1 =>
        rw [q] at hF
        intro μ' u H' e p s r2
        have hF : FinS (gm X) W D μ H (match op x y M1 with
          | some (z, M2) => .nx (ρ.set i (some z)) M2
          | none => .no) := hF
        cases q2 : op x y M1 with
        | none => rw [q2] at hF; exact hF.elim
        | some zz =>
          obtain ⟨z, M2⟩ := zz
          rw [q2] at hF
          refine hd μ' H' M1 x y v u _ z M2 s (r1.ext e p) r2 q2 fun μ3 w H3 e3 p3 s3 r3 => ?_
          exact hF μ3 _ H3 (e.trans e3) (p.trans p3) ((hE.ext (e.trans e3) (p.trans p3)).set i r3) s3
      | ex c fs M1 =>
        rw [q] at hF
        exact fun μ' H' dx e p s x => hF μ' σ H' dx e p (hE.ext e p) s x
      | no =>
        rw [q] at hF
        exact hF
    · exact hF.elim
abbrev rAddI : R2 := fun x y H Q => (∃ i j, x = .int i ∧ y = .int j ∧ Q (.int (i + j)) H) ∨ (∃ i j, x = .str i ∧ y = .str j ∧ i.length + j.length ≤ sizeLine ∧ Q (.str (i ++ j)) H)
def dAddI : D → D → Store → Option (D × Store)
  | .p (.int i), .p (.int j), M => some (.p (.int (i + j)), M)
  | .p (.str x), .p (.str y), M => if x.length + y.length ≤ sizeLine then some (.p (.str (x ++ y)), M) else none
  | _, _, _ => none
theorem o_iadd : OpR X (inplaceOp .Add) rAddI := iop_add.or iop_add_str
theorem o_isub : OpR X (inplaceOp .Sub) (rI0 fun i j => .int (i - j)) := iop_sub
theorem o_imul : OpR X (inplaceOp .Mult) (rI CMul fun i j => .int (i * j)) := iop_mul
theorem d_iadd {G : Gm} : OpD G dAddI rAddI := by
  intro μ H M x y v u Q d M' S rx ry q k
  unfold dAddI at q
  split at q
  · cases q
    rw [Rep.int] at rx ry
    exact .inl ⟨_, _, rx, ry, k μ _ H (.refl H) (List.prefix_refl _) S (Rep.int.mpr rfl)⟩
  · split at q
    · rename_i h
      cases q
      rw [Rep.str] at rx ry
      exact .inr ⟨_, _, rx, ry, h, k μ _ H (.refl H) (List.prefix_refl _) S (Rep.str.mpr rfl)⟩
    · cases q
  · cases q
end
end Fl

set_option Elab.async false
set_option linter.all false
set_option maxRecDepth 100000
/-! Fl, part I: loops, raise, try, a def's promise. -/
namespace Fl
open PySem PySem.Spec L2
set_option autoImplicit false
/-! ### for -/
/-- what must stand as it stood while a loop walks: nothing, or an object of the store -/
def chk : Option (Nat × O) → Store → Prop
  | none, _ => True
  | some (l, o), M => M[l]? = some o
open Classical in
noncomputable def forL (k : Option (Nat × O)) (g : RG) (body : RS) : List D → Env → Store → Out
  | [], ρ, M => if chk k M then .nx ρ M else .no
  | x :: xs, ρ, M => if chk k M then (match g x ρ M with
      | some (ρ1, M1) => (match body ρ1 M1 with
        | .nx ρ2 M2 => forL k g body xs ρ2 M2
        | .ct ρ2 M2 => forL k g body xs ρ2 M2
        | .bk ρ2 M2 => .nx ρ2 M2
        | o => o)
      | none => .no) else .no
/-- the items of what is walked, and what must stand -/
def walkD : D → Store → Option (List D × Option (Nat × O))
  | .p (.tup xs), _ => some (xs.map D.p, none)
  | .tup xs, _ => some (xs, none)
  | .ref l, M => (match M[l]? with
    | some (.lst xs) => some (xs, some (l, .lst xs))
    | some (.ro xs) => some (xs, some (l, .ro xs))
    | _ => none)
  | _, _ => none
noncomputable def rFor (f : RE) (g : RG) (body : RS) : RS := fun ρ M => (f ρ M).out ρ fun d M1 => match walkD d M1 with
  | some (xs, k) => forL k g body xs ρ M1
  | none => .no
def intsD (lo : Int) (n : Nat) : List D := (List.range n).map fun (i : Nat) => D.p (.int (lo + (i : Int)))
def rng1 : List D → Option (Int × Nat)
  | [.p (.int j)] => if -(2 ^ 62) ≤ j ∧ j < 2 ^ 62 then some (0, j.toNat) else none
  | _ => none
def rng2 : List D → Option (Int × Nat)
  | [.p (.int i), .p (.int j)] => if -(2 ^ 62) ≤ i ∧ i < 2 ^ 62 ∧ -(2 ^ 62) ≤ j ∧ j < 2 ^ 62 then some (i, (j - i).toNat) else none
  | _ => none
noncomputable def rForR (rg : List D → Option (Int × Nat)) (f : RA) (g : RG) (body : RS) : RS := fun ρ M => (f ρ M).out ρ fun ds M1 => match rg ds with
  | some (lo, n) => forL none g body (intsD lo n) ρ M1
  | none => .no
section
variable {X : Cx} {W : WX} {e tg : Expr} {fe : RE} {g : RG} {body : RS} {fs : RA} {pos : Pos} {sb : List Stmt}
/-- a row, walked: a list or a tuple -/
def iRow (K : PySem.W.Frag) (tl : TE) : TI := fun σ H R => tl σ H fun x H1 => ∃ a, x = .ref a ∧ (((∃ xs, SqL K H1 a xs) ∧ R (Itl K a) H1) ∨ ((∃ xs, SqT K H1 a xs) ∧ R (Itt K a) H1))
theorem pi_row {l : Expr} {tl : TE} (hl : PE X l tl) : PI X tg l (iRow X.K tl) := by
  refine ⟨fun pins s σ H R I h => ?_⟩
  refine thn (hl.run pins s σ H _ I h) fun v s1 ⟨x, H1, I1, r1, q1⟩ => ?_
  obtain ⟨a, e, q1⟩ := q1
  subst e
  cases r1
  rcases q1 with ⟨⟨xs, hq⟩, q⟩ | ⟨⟨xs, hq⟩, q⟩
  · obtain ⟨its, rv, p, hz⟩ := I1.list hq
    refine wpAny_pyIter_list p.isList ?_
    refine ⟨s1.heap.objs.size, [s1.heap.objs.size], _, _, H1, rfl, I1.kept (t' := s1.toks) fun b o e => Heap.get?_push_of_some _ e, turn_list a _, ⟨_, Heap.get?_push_size _ rfl, rfl, rfl⟩, fun b hb => ?_, q⟩
    have e : b = s1.heap.objs.size := by simpa using hb
    subst e
    exact I1.fpOk (Nat.le_refl _) (I1.hok.fresh (Nat.le_refl _))
  · obtain ⟨its, rv, p, hz⟩ := I1.tuple hq
    refine wpAny_pyIter_tuple (show s1.heap.IsTuple a its.toArray from p) ?_
    refine ⟨s1.heap.objs.size, [s1.heap.objs.size], _, _, H1, rfl, I1.kept (t' := s1.toks) fun b o e => Heap.get?_push_of_some _ e, turn_tuple a _, ⟨_, Heap.get?_push_size _ rfl, rfl, rfl⟩, fun b hb => ?_, q⟩
    have e : b = s1.heap.objs.size := by simpa using hb
    subst e
    exact I1.fpOk (Nat.le_refl _) (I1.hok.fresh (Nat.le_refl _))
theorem loop_by {J : It} {g : TG} {tb : TS} {D : Ends} {σ : St} {H : Hp} (n : Nat) (Pv : Nat → St → Hp → Prop) (h0 : Pv 0 σ H) (hgo : ∀ i σ H, i < n → Pv i σ H → J.go i H) (hstop : ∀ σ H, Pv n σ H → J.stop n H)
    (hs : ∀ i x σ H H', i < n → Pv i σ H → J.yld i H x H' → g x σ H' fun σ2 H2 => tb { D with nx := Pv (i + 1), ct := Pv (i + 1), bk := D.nx } σ2 H2) (hd : ∀ σ H, Pv n σ H → D.nx σ H) :
    ∃ W : Nat → Nat → St → Hp → Prop, (∃ m, W 0 m σ H) ∧ ∀ i m σ H, W i m σ H →
      (J.stop i H ∧ D.nx σ H) ∨ (J.go i H ∧ ∃ N : St → Hp → Prop, (∀ σ' H', N σ' H' → ∃ m', m' < m ∧ W (i + 1) m' σ' H') ∧ ∀ x H', J.yld i H x H' → g x σ H' fun σ2 H2 => tb { D with nx := N, ct := N, bk := D.nx } σ2 H2) := by
  refine ⟨fun i m σ H => m = n - i ∧ i ≤ n ∧ Pv i σ H, ⟨n, by simp, Nat.zero_le _, h0⟩, ?_⟩
  rintro i m σ H ⟨rfl, hi, p⟩
  by_cases hlt : i < n
  · exact .inr ⟨hgo i σ H hlt p, Pv (i + 1), fun σ' H' p' => ⟨n - (i + 1), by omega, rfl, hlt, p'⟩, fun x H' y => hs i x σ H H' hlt p y⟩
  · have e : i = n := by omega
    rw [e] at p ⊢
    exact .inl ⟨hstop σ H p, hd σ H p⟩
theorem loop_chk {D : Ends} {k} {μ : List Addr} {H : Hp} {xs : List Fl.D} {ρ : Env} {M : Store} (h : FinS (gm X) W D μ H (forL k g body xs ρ M)) : chk k M := by
  cases xs with
  | nil =>
    unfold forL at h
    split at h
    · assumption
    · exact h.elim
  | cons x xs =>
    unfold forL at h
    split at h
    · assumption
    · exact h.elim
/-- a walk whose items stand for xs: B tells what stays of it -/
theorem loop_gen {J : It} {D : Ends} {k : Option (Nat × O)} {xs : List Fl.D} {μ : List Addr} {ρ : Env} {M : Store} {σ : St} {H : Hp} (B : List Addr → Hp → Prop) (mono : ∀ μ μ' H H', Ext H H' → μ <+: μ' → B μ H → B μ' H')
    (hgo : ∀ i μ H M, i < xs.length → SR (gm X) μ H M → B μ H → chk k M → J.go i H) (hstop : ∀ μ H M, SR (gm X) μ H M → B μ H → chk k M → J.stop xs.length H)
    (hyld : ∀ i μ H M v H', i < xs.length → SR (gm X) μ H M → B μ H → chk k M → J.yld i H v H' → ∃ d, xs[i]? = some d ∧ Ext H H' ∧ SR (gm X) μ H' M ∧ Rep (gm X) μ H' d v)
    (hE : ER (gm X) μ H ρ σ) (hS : SR (gm X) μ H M) (hB : B μ H) (hF : FinS (gm X) W D μ H (forL k g body xs ρ M)) :
    ∃ W' : Nat → Nat → St → Hp → Prop, (∃ m, W' 0 m σ H) ∧ ∀ i m σ H, W' i m σ H →
      (J.stop i H ∧ D.nx σ H) ∨ (J.go i H ∧ ∃ N : St → Hp → Prop, (∀ σ' H', N σ' H' → ∃ m', m' < m ∧ W' (i + 1) m' σ' H') ∧ ∀ x H', J.yld i H x H' → tG (gm X) g x σ H' fun σ2 H2 => tS (gm X) W body { D with nx := N, ct := N, bk := D.nx } σ2 H2) := by
  refine loop_by xs.length (fun i σ H => ∃ μ ρ M, ER (gm X) μ H ρ σ ∧ SR (gm X) μ H M ∧ B μ H ∧ FinS (gm X) W D μ H (forL k g body (xs.drop i) ρ M)) ⟨μ, ρ, M, hE, hS, hB, hF⟩ ?_ ?_ ?_ ?_
  · rintro i σ H hi ⟨μ, ρ, M, hE, hS, hB, hF⟩
    exact hgo i μ H M hi hS hB (loop_chk hF)
  · rintro σ H ⟨μ, ρ, M, hE, hS, hB, hF⟩
    exact hstop μ H M hS hB (loop_chk hF)
  · rintro i v σ H H1 hi ⟨μ, ρ, M, hE, hS, hB, hF⟩ y
    obtain ⟨x, hx, ex, hS1, r⟩ := hyld i μ H M v H1 hi hS hB (loop_chk hF) y
    have hE1 := hE.ext ex (List.prefix_refl _)
    have hB1 := mono _ _ _ _ ex (List.prefix_refl _) hB
    have hF := FinS.later ex (List.prefix_refl _) hF
    obtain ⟨hi', e⟩ := List.getElem?_eq_some_iff.mp hx
    rw [List.drop_eq_getElem_cons hi', e] at hF
    unfold forL at hF
    split at hF
    · refine ⟨μ, ρ, M, x, hE1, hS1, r, ?_⟩
      cases q : g x ρ M with
      | none => rw [q] at hF; exact hF.elim
      | some p =>
        obtain ⟨ρ1, M1⟩ := p
        rw [q] at hF
        intro μ' σ' H' ex pr hE' hS'
        refine ⟨μ', ρ1, M1, hE', hS', ?_⟩
        have hF : FinS (gm X) W D μ H1 (match body ρ1 M1 with
          | .nx ρ2 M2 => forL k g body (xs.drop (i + 1)) ρ2 M2
          | .ct ρ2 M2 => forL k g body (xs.drop (i + 1)) ρ2 M2
          | .bk ρ2 M2 => .nx ρ2 M2
          | o => o) := hF
        cases q2 : body ρ1 M1 with
        | nx ρ2 M2 => rw [q2] at hF; exact fun μ3 σ3 H3 e3 p3 E3 S3 => ⟨μ3, ρ2, M2, E3, S3, mono _ _ _ _ (ex.trans e3) (pr.trans p3) hB1, FinS.later (ex.trans e3) (pr.trans p3) hF⟩
        | ct ρ2 M2 => rw [q2] at hF; exact fun μ3 σ3 H3 e3 p3 E3 S3 => ⟨μ3, ρ2, M2, E3, S3, mono _ _ _ _ (ex.trans e3) (pr.trans p3) hB1, FinS.later (ex.trans e3) (pr.trans p3) hF⟩
        | bk ρ2 M2 => rw [q2] at hF; exact fun μ3 σ3 H3 e3 p3 => hF μ3 σ3 H3 (ex.trans e3) (pr.trans p3)
        | rt d M2 => rw [q2] at hF; exact fun μ3 v3 H3 e3 p3 => hF μ3 v3 H3 (ex.trans e3) (pr.trans p3)
        | ex c fs ρ2 M2 => rw [q2] at hF; exact fun μ3 σ3 H3 dx e3 p3 => hF μ3 σ3 H3 dx (ex.trans e3) (pr.trans p3)
        | no => rw [q2] at hF; exact hF.elim
    · exact hF.elim
  · rintro σ H ⟨μ, ρ, M, hE, hS, hB, hF⟩
    rw [List.drop_length] at hF
    unfold forL at hF
    split at hF
    · exact hF μ σ H (.refl _) (List.prefix_refl _) hE hS
    · exact hF.elim
theorem SR.list_at {G : Gm} {μ : List Addr} {H : Hp} {M : Store} {l : Nat} {a : Addr} {o : O} {xs : List Fl.D} (S : SR G μ H M) (ha : μ[l]? = some a) (e : M[l]? = some o) (h : o = .lst xs ∨ o = .ro xs) : ∃ vs, SqL G.K H a vs ∧ Reps G μ H xs vs := by
  rcases h with h | h
  · subst h
    obtain ⟨vs, h1, h2⟩ := S.obj l a _ ha e
    exact ⟨vs, SqL.of h1, h2⟩
  · subst h
    obtain ⟨vs, h1, h2⟩ := S.obj l a _ ha e
    exact ⟨vs, h1.sql, h2⟩
abbrev LoopW (X : Cx) (W : WX) (g : RG) (body : RS) (J : It) (D : Ends) (σ : St) (H : Hp) : Prop := ∃ W' : Nat → Nat → St → Hp → Prop, (∃ m, W' 0 m σ H) ∧ ∀ i m σ H, W' i m σ H →
      (J.stop i H ∧ D.nx σ H) ∨ (J.go i H ∧ ∃ N : St → Hp → Prop, (∀ σ' H', N σ' H' → ∃ m', m' < m ∧ W' (i + 1) m' σ' H') ∧ ∀ x H', J.yld i H x H' → tG (gm X) g x σ H' fun σ2 H2 => tS (gm X) W body { D with nx := N, ct := N, bk := D.nx } σ2 H2)
theorem tup_loop {D : Ends} {μ : List Addr} {ρ : Env} {M : Store} {σ : St} {H1 : Hp} {xs : List Fl.D} {a : Addr} {vs : List V} (hE : ER (gm X) μ H1 ρ σ) (hS : SR (gm X) μ H1 M) (h1 : SqT X.K H1 a vs) (h2 : Reps (gm X) μ H1 xs vs) (hF : FinS (gm X) W D μ H1 (forL none g body xs ρ M)) : LoopW X W g body (Itt X.K a) D σ H1 := by
  refine loop_gen (X := X) (W := W) (J := Itt X.K a) (k := none) (xs := xs) (fun μ H => SqT X.K H a vs ∧ Reps (gm X) μ H xs vs) (fun _ _ _ _ e p z => ⟨e.sqt z.1, z.2.ext e p⟩) ?_ ?_ ?_ hE hS ⟨h1, h2⟩ hF
  · rintro i μ H M hi _ ⟨z1, z2⟩ _
    obtain ⟨w, hw, _⟩ := z2.get (List.getElem?_eq_getElem hi)
    exact ⟨vs, w, z1, hw⟩
  · rintro μ H M _ ⟨z1, z2⟩ _
    exact ⟨vs, z1, by rw [z2.len_eq]; exact Nat.le_refl _⟩
  · rintro i μ H M w H' hi S ⟨z1, z2⟩ _ ⟨rfl, y⟩
    obtain ⟨w', hw, r⟩ := z2.get (List.getElem?_eq_getElem hi)
    have := (y vs z1).symm.trans hw
    cases this
    exact ⟨_, List.getElem?_eq_getElem hi, .refl _, S, r⟩
theorem lst_loop {D : Ends} {μ : List Addr} {ρ : Env} {M : Store} {σ : St} {H1 : Hp} {xs : List Fl.D} {a : Addr} {l : Nat} {o : O} (hE : ER (gm X) μ H1 ρ σ) (hS : SR (gm X) μ H1 M) (ha : μ[l]? = some a) (hk : o = .lst xs ∨ o = .ro xs) (hF : FinS (gm X) W D μ H1 (forL (some (l, o)) g body xs ρ M)) : LoopW X W g body (Itl X.K a) D σ H1 := by
  refine loop_gen (X := X) (W := W) (J := Itl X.K a) (k := some (l, o)) (xs := xs) (fun μ H => μ[l]? = some a) (fun _ _ _ _ e p z => pre_get p z) ?_ ?_ ?_ hE hS ha hF
  · rintro i μ H M hi S z c
    obtain ⟨vs, z1, z2⟩ := SR.list_at S z c hk
    obtain ⟨w, hw, _⟩ := z2.get (List.getElem?_eq_getElem hi)
    exact ⟨vs, w, z1, hw⟩
  · rintro μ H M S z c
    obtain ⟨vs, z1, z2⟩ := SR.list_at S z c hk
    exact ⟨vs, z1, by rw [z2.len_eq]; exact Nat.le_refl _⟩
  · rintro i μ H M w H' hi S z c ⟨rfl, y⟩
    obtain ⟨vs, z1, z2⟩ := SR.list_at S z c hk
    obtain ⟨w', hw, r⟩ := z2.get (List.getElem?_eq_getElem hi)
    have := (y vs z1).symm.trans hw
    cases this
    exact ⟨_, List.getElem?_eq_getElem hi, .refl _, S, r⟩
theorem s_for (hp : PassesOwn (model X.prog X.w) X.A X.env X.xe) (hc : X.calm = true) (he : PE X e (tE (gm X) W fe)) (hg : PG X tg (tG (gm X) g)) (hb : PSs X sb (tS (gm X) W body))
    (hs : ∀ x, foldedSetIterable e X.env x = pure x := by intro _; rfl) : PS X (.For tg e sb [] pos) (tS (gm X) W (rFor fe g body)) :=
  PSimp (ps_for hp hc (pi_row he) hg hb hs) fun D σ H h => by
    refine (tX.out (g := fun d ρ M => match walkD d M with | some (xs, k) => forL k g body xs ρ M | none => .no) h).mono fun v H1 ⟨μ, ρ, M, d, hE, hS, rd, hF⟩ => ?_
    have hF : FinS (gm X) W D μ H1 (match walkD d M with | some (xs, k) => forL k g body xs ρ M | none => .no) := hF
    cases q : walkD d M with
    | none => rw [q] at hF; exact hF.elim
    | some p =>
      obtain ⟨xs, k⟩ := p
      rw [q] at hF
      have hF : FinS (gm X) W D μ H1 (forL k g body xs ρ M) := hF
      unfold walkD at q
      split at q
      · cases q
        obtain ⟨a, vs, e1, h1, h2⟩ := Rep.ptup.mp rd
        exact ⟨a, e1, .inr ⟨⟨vs, h1⟩, tup_loop hE hS h1 (Reps.of_P h2) hF⟩⟩
      · cases q
        obtain ⟨a, vs, e1, h1, h2⟩ := Rep.tup.mp rd
        exact ⟨a, e1, .inr ⟨⟨vs, h1⟩, tup_loop hE hS h1 h2 hF⟩⟩
      · obtain ⟨a, ha, e1⟩ := Rep.ref.mp rd
        split at q
        · rename_i ys e2
          cases q
          obtain ⟨vs, z1, z2⟩ := SR.list_at hS ha e2 (.inl rfl)
          exact ⟨a, e1, .inl ⟨⟨vs, z1⟩, lst_loop hE hS ha (.inl rfl) hF⟩⟩
        · rename_i ys e2
          cases q
          obtain ⟨vs, z1, z2⟩ := SR.list_at hS ha e2 (.inr rfl)
          exact ⟨a, e1, .inl ⟨⟨vs, z1⟩, lst_loop hE hS ha (.inr rfl) hF⟩⟩
        · cases q
      · cases q
theorem intsD_len (lo : Int) (n : Nat) : (intsD lo n).length = n := by simp [intsD]
theorem intsD_get (lo : Int) (n i : Nat) (h : i < n) : (intsD lo n)[i]? = some (.p (.int (lo + (i : Int)))) := by simp [intsD, h]
theorem range_loop {D : Ends} {lo : Int} {n : Nat} {μ : List Addr} {ρ : Env} {M : Store} {σ : St} {H : Hp} (hE : ER (gm X) μ H ρ σ) (hS : SR (gm X) μ H M) (hF : FinS (gm X) W D μ H (forL none g body (intsD lo n) ρ M)) : LoopW X W g body (Itr lo n) D σ H := by
  refine loop_gen (X := X) (W := W) (J := Itr lo n) (k := none) (xs := intsD lo n) (fun _ _ => True) (fun _ _ _ _ _ _ z => z) ?_ ?_ ?_ hE hS trivial hF
  · rintro i μ H M hi _ _ _
    rw [intsD_len] at hi
    exact hi
  · rintro μ H M _ _ _
    rw [intsD_len]
    exact Nat.le_refl _
  · rintro i μ H M w H' hi S _ _ ⟨rfl, rfl⟩
    rw [intsD_len] at hi
    exact ⟨_, intsD_get lo n i hi, .refl _, S, Rep.int.mpr rfl⟩
theorem s_range1 {a : Expr} {p pos' : Pos} (hp : PassesOwn (model X.prog X.w) X.A X.env X.xe) (hc : X.calm = true) (hgl : Gl X "range") (hm : X.mg "range" = none) (ha : PA X [a] (tA (gm X) W fs)) (hg : PG X tg (tG (gm X) g)) (hb : PSs X sb (tS (gm X) W body))
    (hs1 : starEach [a] X.env = [(false, eval a X.env)] := by rfl) (hs : ∀ x, foldedSetIterable (.Call (.Name "range" p) [a] [] pos') X.env x = pure x := by intro _; rfl) : PS X (.For tg (.Call (.Name "range" p) [a] [] pos') sb [] pos) (tS (gm X) W (rForR rng1 fs g body)) :=
  PSimp (ps_for hp hc (pi_range1 hgl hm ha hs1) hg hb hs) fun D σ H h => by
    refine (tX.out (rel := Reps (gm X)) (g := fun ds ρ M1 => match rng1 ds with | some (lo, n) => forL none g body (intsD lo n) ρ M1 | none => .no) h).mono fun vs H1 ⟨μ, ρ, M, ds, hE, hS, rd, hF⟩ => ?_
    have hF : FinS (gm X) W D μ H1 (match rng1 ds with | some (lo, n) => forL none g body (intsD lo n) ρ M | none => .no) := hF
    cases q : rng1 ds with
    | none => rw [q] at hF; exact hF.elim
    | some p =>
      obtain ⟨lo, n⟩ := p
      rw [q] at hF
      have hF : FinS (gm X) W D μ H1 (forL none g body (intsD lo n) ρ M) := hF
      unfold rng1 at q
      split at q
      · split at q
        · rename_i j hj
          cases q
          obtain ⟨v, rfl, r⟩ := rd.inv1
          rw [Rep.int] at r
          subst r
          exact ⟨j, rfl, hj.1, hj.2, range_loop hE hS hF⟩
        · cases q
      · cases q
theorem s_range2 {a b : Expr} {p pos' : Pos} (hp : PassesOwn (model X.prog X.w) X.A X.env X.xe) (hc : X.calm = true) (hgl : Gl X "range") (hm : X.mg "range" = none) (ha : PA X [a, b] (tA (gm X) W fs)) (hg : PG X tg (tG (gm X) g)) (hb : PSs X sb (tS (gm X) W body))
    (hs1 : starEach [a, b] X.env = [(false, eval a X.env), (false, eval b X.env)] := by rfl) (hs2 : starEach [b] X.env = [(false, eval b X.env)] := by rfl) (hs : ∀ x, foldedSetIterable (.Call (.Name "range" p) [a, b] [] pos') X.env x = pure x := by intro _; rfl) :
    PS X (.For tg (.Call (.Name "range" p) [a, b] [] pos') sb [] pos) (tS (gm X) W (rForR rng2 fs g body)) :=
  PSimp (ps_for hp hc (pi_range2 hgl hm ha hs1 hs2) hg hb hs) fun D σ H h => by
    refine (tX.out (rel := Reps (gm X)) (g := fun ds ρ M1 => match rng2 ds with | some (lo, n) => forL none g body (intsD lo n) ρ M1 | none => .no) h).mono fun vs H1 ⟨μ, ρ, M, ds, hE, hS, rd, hF⟩ => ?_
    have hF : FinS (gm X) W D μ H1 (match rng2 ds with | some (lo, n) => forL none g body (intsD lo n) ρ M | none => .no) := hF
    cases q : rng2 ds with
    | none => rw [q] at hF; exact hF.elim
    | some p =>
      obtain ⟨lo, n⟩ := p
      rw [q] at hF
      have hF : FinS (gm X) W D μ H1 (forL none g body (intsD lo n) ρ M) := hF
      unfold rng2 at q
      split at q
      · split at q
        · rename_i i j hj
          cases q
          obtain ⟨v, u, rfl, r1, r2⟩ := rd.inv2
          rw [Rep.int] at r1 r2
          subst r1 r2
          exact ⟨_, _, rfl, hj, range_loop hE hS hF⟩
        · cases q
      · cases q
end
end Fl

set_option Elab.async false
set_option linter.all false
set_option maxRecDepth 100000
/-! Fl, part J: while, raise, try, a def's promise, the law's end. -/
namespace Fl
open PySem PySem.Spec L2
set_option autoImplicit false
/-! ### while -/
def whileN (c : RT) (b : RS) : Nat → Env → Store → Option Out
  | 0, _, _ => none
  | n + 1, ρ, M => match c ρ M with
    | .ok true M1 => (match b ρ M1 with
      | .nx ρ2 M2 => whileN c b n ρ2 M2
      | .ct ρ2 M2 => whileN c b n ρ2 M2
      | .bk ρ2 M2 => some (.nx ρ2 M2)
      | o => some o)
    | .ok false M1 => some (.nx ρ M1)
    | .ex x fs M1 => some (.ex x fs ρ M1)
    | .no => some .no
theorem whileN_succ {c : RT} {b : RS} : ∀ {n : Nat} {ρ : Env} {M : Store} {o : Out}, whileN c b n ρ M = some o → whileN c b (n + 1) ρ M = some o
  | 0, _, _, _, h => by cases h
  | n + 1, ρ, M, o, h => by
    unfold whileN at h ⊢
    cases q : c ρ M with
    | ok k M1 =>
      simp only [q] at h ⊢
      cases k with
      | false => exact h
      | true =>
        cases q2 : b ρ M1 with
        | nx ρ2 M2 => simp only [q2] at h ⊢; exact whileN_succ h
        | ct ρ2 M2 => simp only [q2] at h ⊢; exact whileN_succ h
        | bk ρ2 M2 => simp only [q2] at h ⊢; exact h
        | rt d M2 => simp only [q2] at h ⊢; exact h
        | ex x fs ρ2 M2 => simp only [q2] at h ⊢; exact h
        | no => simp only [q2] at h ⊢; exact h
    | ex x fs M1 => simp only [q] at h ⊢; exact h
    | no => simp only [q] at h ⊢; exact h
theorem whileN_mono {c : RT} {b : RS} {n m : Nat} {ρ : Env} {M : Store} {o : Out} (h : whileN c b n ρ M = some o) (k : n ≤ m) : whileN c b m ρ M = some o := by
  induction k with
  | refl => exact h
  | step _ ih => exact whileN_succ ih
theorem whileN_det {c : RT} {b : RS} {n m : Nat} {ρ : Env} {M : Store} {o o' : Out} (h : whileN c b n ρ M = some o) (h' : whileN c b m ρ M = some o') : o = o' := by
  have h1 := whileN_mono h (Nat.le_max_left n m)
  have h2 := whileN_mono h' (Nat.le_max_right n m)
  exact Option.some.inj (h1.symm.trans h2)
open Classical in
noncomputable def rWh (c : RT) (b : RS) : RS := fun ρ M => if h : ∃ o n, whileN c b n ρ M = some o then h.choose else .no
theorem rWh_of {c : RT} {b : RS} {n : Nat} {ρ : Env} {M : Store} {o : Out} (h : whileN c b n ρ M = some o) : rWh c b ρ M = o := by
  unfold rWh
  have q : ∃ o n, whileN c b n ρ M = some o := ⟨o, n, h⟩
  rw [dif_pos q]
  obtain ⟨m, hm⟩ := q.choose_spec
  exact whileN_det hm h
section
variable {X : Cx} {W : WX} {e c : Expr} {b : RS} {tc : RT} {pos : Pos} {sb : List Stmt}
theorem s_while (hp : PassesOwn (model X.prog X.w) X.A X.env X.xe) (hc : PT X c (tT (gm X) W tc)) (hb : PSs X sb (tS (gm X) W b)) : PS X (.While c sb [] pos) (tS (gm X) W (rWh tc b)) :=
  PSimp (ps_while hp hc hb) fun D σ H h => by
    obtain ⟨μ, ρ, M, hE, hS, hF⟩ := h
    have hq : ∃ o n, whileN tc b n ρ M = some o := by
      apply Classical.byContradiction
      intro hn
      unfold rWh at hF
      rw [dif_neg hn] at hF
      exact hF
    obtain ⟨o, n, hn⟩ := hq
    rw [rWh_of hn] at hF
    refine ⟨fun m σ H => ∃ μ ρ M o, ER (gm X) μ H ρ σ ∧ SR (gm X) μ H M ∧ whileN tc b m ρ M = some o ∧ FinS (gm X) W D μ H o, ⟨n, μ, ρ, M, o, hE, hS, hn, hF⟩, ?_⟩
    rintro m σ H ⟨μ, ρ, M, o, hE, hS, hn, hF⟩
    cases m with
    | zero => cases hn
    | succ m =>
      unfold whileN at hn
      refine ⟨μ, ρ, M, hE, hS, ?_⟩
      cases q : tc ρ M with
      | ok k M1 =>
        rw [q] at hn
        intro μ' v H' e p s r
        subst r
        cases k with
        | false =>
          cases hn
          exact iteF (hF μ' σ H' e p (hE.ext e p) s)
        | true =>
          refine iteT ⟨fun σ' H' => ∃ μ ρ M o, ER (gm X) μ H' ρ σ' ∧ SR (gm X) μ H' M ∧ whileN tc b m ρ M = some o ∧ FinS (gm X) W D μ H' o, fun σ' H' z => ⟨m, Nat.lt_succ_self _, z⟩, ⟨μ', ρ, M1, hE.ext e p, s, ?_⟩⟩
          cases q2 : b ρ M1 with
          | nx ρ2 M2 => simp only [q2] at hn; exact fun μ3 σ3 H3 e3 p3 E3 S3 => ⟨μ3, ρ2, M2, o, E3, S3, hn, FinS.later (e.trans e3) (p.trans p3) hF⟩
          | ct ρ2 M2 => simp only [q2] at hn; exact fun μ3 σ3 H3 e3 p3 E3 S3 => ⟨μ3, ρ2, M2, o, E3, S3, hn, FinS.later (e.trans e3) (p.trans p3) hF⟩
          | bk ρ2 M2 => simp only [q2] at hn; cases hn; exact fun μ3 σ3 H3 e3 p3 => hF μ3 σ3 H3 (e.trans e3) (p.trans p3)
          | rt d M2 => simp only [q2] at hn; cases hn; exact fun μ3 v3 H3 e3 p3 => hF μ3 v3 H3 (e.trans e3) (p.trans p3)
          | ex c fs ρ2 M2 => simp only [q2] at hn; cases hn; exact fun μ3 σ3 H3 dx e3 p3 => hF μ3 σ3 H3 dx (e.trans e3) (p.trans p3)
          | no => simp only [q2] at hn; cases hn; exact hF
      | ex c fs M1 =>
        rw [q] at hn
        cases hn
        exact fun μ' H' dx e p s x => hF μ' σ H' dx e p (hE.ext e p) s x
      | no =>
        rw [q] at hn
        cases hn
        exact hF
end
/-! ### raise X("..") of an own class without __init__ -/
structure ExC (G : Gm) (c : Str) (C : Addr) : Prop where
  mgC : G.mg c = some (.ref C)
  exc : PySem.W.excIn G.K C He.veBase "ValueError.__new__" = true
  kp : PySem.W.keepIn G.K (.ref C) = true
  sub : PySem.W.subIn G.K (.ref C) (.type "BaseException") = some true
  ty : PySem.W.typeIn G.K (.ref C) = some (.type "type")
def rRaise (c : Str) : RS := fun ρ M => .ex c none ρ M
section
variable {X : Cx} {W Wout : WX} {pos : Pos}
theorem s_raise {c m : Str} {C : Addr} {j : Nat} {p p2 pos' : Pos} (h : ExC (gm X) c C) (hc : X.calm = true) (tk : L2N.Takes X W) (hg : Gl X c) (hdb : (c == ("__debug__" : Str)) = false := by decide) :
    PS X (.Raise (some (.Call (.Name c p) [.Constant (.str m) j p2] [] pos')) none pos) (tS (gm X) W (rRaise c)) :=
  PSimp (L2N.ps_raise hc tk (L2N.pmk_own PySem.F.excBase_ValueError h.exc h.mgC h.kp (raises_own h.sub h.ty) hg hdb)) fun D σ H q => by
    obtain ⟨μ, ρ, M, hE, hS, hF⟩ := q
    have z := hF μ σ H none (.refl _) (List.prefix_refl _) hE hS trivial
    unfold cval at z
    rw [h.mgC] at z
    exact z
/-! ### try .. except X: suite -/
def noEx : Out → Out
  | .ex _ _ _ _ => .no
  | o => o
theorem noEx_fin {G : Gm} {W W' : WX} {D : Ends} {μ : List Addr} {H : Hp} {o : Out} (h : FinS G W D μ H (noEx o)) : FinS G W' D μ H o := by
  cases o with
  | ex c fs ρ1 M1 => exact h.elim
  | nx ρ1 M1 => exact h
  | rt d M1 => exact h
  | bk ρ1 M1 => exact h
  | ct ρ1 M1 => exact h
  | no => exact h
/-- exs: the classes that may come, and whether the clause takes them -/
def rTry (exs : List (Str × Bool)) (body suite : RS) : RS := fun ρ M => match body ρ M with
  | .ex c fs ρ1 M1 => (match exs.lookup c with
    | some true => noEx (suite ρ1 M1)
    | some false => .ex c fs ρ1 M1
    | none => .no)
  | o => o
theorem lookup_mem {α : Type} {c : Str} {b : α} : ∀ {l : List (Str × α)}, l.lookup c = some b → (c, b) ∈ l
  | [], h => by cases h
  | (d, x) :: l, h => by
    rw [List.lookup_cons] at h
    split at h
    · rename_i e
      have e1 : c = d := by simpa using e
      cases h
      rw [e1]
      exact List.mem_cons_self
    · exact List.mem_cons_of_mem _ (lookup_mem h)
theorem s_try {x : Str} {xc : Value} {exs : List (Str × Bool)} {body suite : RS} {sb sc : List Stmt} {b0 : Stmt} {np pos' : Pos} (hs : X.stack = X.env :: X.outer) (hf : X.env.frame = some X.env.locals) (hc : Names X x xc) (tk : L2N.Takes X Wout)
    (hx : ∀ q ∈ exs, PySem.W.exmOne X.K (cval (gm X) q.1) xc = some q.2)
    (hb : ∀ (W : WX) (pn : List (Addr × Obj)) (xe : Value → Shared → Prop), L2N.Takes (X.tr pn xe) W → PassesOwn (model X.prog X.w) X.A X.env xe → PSs (X.tr pn xe) sb (tS (gm X) W body))
    (hsu : ∀ (a : Addr) (pn : List (Addr × Obj)), PSs (X.suite a pn) (b0 :: sc) (tS (gm X) (fun _ _ _ _ => False) suite)) :
    PS X (.Try sb [.ExceptHandler (some (.Name x np)) none (b0 :: sc) pos'] [] [] pos) (tS (gm X) Wout (rTry exs body suite)) :=
  PSimp (L2N.ps_try_many (tb := fun W => tS (gm X) W body) hs hf tk (fun W pn xe h1 h2 => hb W pn xe h1 h2) (.cons (ts := fun _ _ _ => tS (gm X) (fun _ _ _ _ => False) suite) hc (fun a oe cls d pn _ _ => hsu a _) .nil)) fun D σ H h => by
    obtain ⟨μ, ρ, M, hE, hS, hF⟩ := h
    refine ⟨μ, ρ, M, hE, hS, ?_⟩
    have hF : FinS (gm X) Wout D μ H (match body ρ M with
      | .ex c fs ρ1 M1 => (match exs.lookup c with
        | some true => noEx (suite ρ1 M1)
        | some false => .ex c fs ρ1 M1
        | none => .no)
      | o => o) := hF
    cases q : body ρ M with
    | ex c fs ρ1 M1 =>
      rw [q] at hF
      have hF : FinS (gm X) Wout D μ H (match exs.lookup c with
        | some true => noEx (suite ρ1 M1)
        | some false => .ex c fs ρ1 M1
        | none => .no) := hF
      intro μ' σ' H' dx e p hE' hS' xr
      cases q2 : exs.lookup c with
      | none => rw [q2] at hF; exact hF.elim
      | some k =>
        rw [q2] at hF
        refine ⟨k, hx (c, k) (lookup_mem q2), fun hk a _ => ?_, fun hk => ?_⟩
        · subst hk
          have hF : FinS (gm X) Wout D μ H (noEx (suite ρ1 M1)) := hF
          exact ⟨μ', ρ1, M1, hE', hS', FinS.later e p (noEx_fin hF)⟩
        · subst hk
          exact hF μ' σ' H' dx e p hE' hS' xr
    | nx ρ1 M1 => rw [q] at hF; exact hF
    | rt d M1 => rw [q] at hF; exact hF
    | bk ρ1 M1 => rw [q] at hF; exact hF
    | ct ρ1 M1 => rw [q] at hF; exact hF
    | no => rw [q] at hF; exact hF
end
/-! ### a def's promise -/
/-- what comes of a body as a def's answer: the objects that were made and are not handed out may be forgotten -/
def bodyR : Out → R D
  | .nx _ M => .ok (.p .non) M
  | .rt d M => .ok d M
  | .ex c fs _ M => .ex c fs M
  | _ => .no
mutual
def D.clo (n : Nat) : D → Bool
  | .p _ => true
  | .ref l => decide (l < n)
  | .tup xs => D.clos n xs
  | .gl _ => true
  | .exv _ => true
  | .exf _ _ _ => true
  | .lam i => decide (i.ν.length ≤ n)
def D.clos (n : Nat) : List D → Bool
  | [] => true
  | x :: xs => D.clo n x && D.clos n xs
end
def O.clo (n : Nat) : O → Bool
  | .lst xs => D.clos n xs
  | .ro xs => D.clos n xs
  | .ins _ fs => fs.all fun q => q.2.clo n
  | .dk fs => fs.all fun q => q.2.clo n
  | .dt fs => fs.all fun q => q.2.clo n
  | .tab _ => true
  | .rod fs => fs.all fun q => q.2.clo n
  | .rodt fs => fs.all fun q => q.2.clo n
def Store.clo (M : Store) : Prop := ∀ o ∈ M, o.clo M.length = true
/-- r is told, s is what comes: the same, but for objects behind the told ones -/
def Tells (r s : R D) : Prop := match r with
  | .ok d M => ∃ ext, s = .ok d (M ++ ext) ∧ (ext = [] ∨ (d.clo M.length = true ∧ Store.clo M))
  | .ex c fs M => ∃ ext, s = .ex c fs (M ++ ext) ∧ (ext = [] ∨ Store.clo M)
  | .no => True
section
variable {G : Gm} {μ : List Addr} {H : Hp} {n : Nat}
mutual
theorem Rep.cut : ∀ {d : D} {v : V}, Rep G μ H d v → d.clo n = true → Rep G (μ.take n) H d v
  | .p x, v, r, h => by simpa only [Rep] using r
  | .ref l, v, r, h => by
    obtain ⟨a, h1, h2⟩ := Rep.ref.mp r
    have hl : l < n := by simpa [D.clo] using h
    exact Rep.ref.mpr ⟨a, by rw [List.getElem?_take_of_lt hl]; exact h1, h2⟩
  | .tup xs, v, r, h => by
    obtain ⟨a, vs, h1, h2, h3⟩ := Rep.tup.mp r
    exact Rep.tup.mpr ⟨a, vs, h1, h2, Reps.cutn h3 (by simpa [D.clo] using h)⟩
  | .gl x, v, r, h => by simpa only [Rep] using r
  | .exv x, v, r, h => by simpa only [Rep] using r
  | .exf a d fs, v, r, h => by simpa only [Rep] using r
  | .lam i, v, r, h => by
    simp only [Rep] at r ⊢
    have hl : i.ν.length ≤ n := by simpa [D.clo] using h
    obtain ⟨r1, r2, ⟨t, r3⟩, r4⟩ := r
    refine ⟨r1, r2, ?_, r4⟩
    rw [← r3, List.take_append, List.take_of_length_le hl]
    exact List.prefix_append _ _
theorem Reps.cutn : ∀ {ds : List D} {vs : List V}, Reps G μ H ds vs → D.clos n ds = true → Reps G (μ.take n) H ds vs
  | [], vs, r, h => by rw [r.inv0]; exact .nil
  | d :: ds, vs, r, h => by
    obtain ⟨v, w, rfl, r1, r2⟩ := r.inv
    have h' : d.clo n = true ∧ D.clos n ds = true := by simpa [D.clos] using h
    exact .cons (Rep.cut r1 h'.1) (Reps.cutn r2 h'.2)
end
theorem FsRep.cut {κ : Type} : ∀ {fs : List (κ × D)} {gs : List (κ × V)}, FsRep G μ H fs gs → (fs.all fun q => q.2.clo n) = true → FsRep G (μ.take n) H fs gs
  | [], gs, r, h => r
  | (f, d) :: fs, gs, r, h => by
    obtain ⟨v, w, rfl, r1, r2⟩ := r
    have h' : d.clo n = true ∧ (fs.all fun q => q.2.clo n) = true := by simpa using h
    exact ⟨v, w, rfl, Rep.cut r1 h'.1, FsRep.cut r2 (by simpa using h'.2)⟩
theorem ObjRep.cut {a : Addr} {o : O} (r : ObjRep G μ H a o) (h : o.clo n = true) : ObjRep G (μ.take n) H a o := by
  cases o with
  | lst xs => obtain ⟨vs, h1, h2⟩ := r; exact ⟨vs, h1, h2.cutn (by simpa [O.clo] using h)⟩
  | ro xs => obtain ⟨vs, h1, h2⟩ := r; exact ⟨vs, h1, h2.cutn (by simpa [O.clo] using h)⟩
  | ins c fs => obtain ⟨C, dx, gs, h0, h1, h2⟩ := r; exact ⟨C, dx, gs, h0, h1, h2.cut (by simpa only [O.clo] using h)⟩
  | dk fs => obtain ⟨gs, h1, h2⟩ := r; exact ⟨gs, h1, h2.cut (by simpa only [O.clo] using h)⟩
  | dt fs => obtain ⟨gs, h1, h2⟩ := r; exact ⟨gs, h1, h2.cut (by simpa only [O.clo] using h)⟩
  | tab x => exact r
  | rod fs => obtain ⟨od, gs, h1, h2⟩ := r; exact ⟨od, gs, h1, h2.cut (by simpa only [O.clo] using h)⟩
  | rodt fs => obtain ⟨od, gs, h1, h2⟩ := r; exact ⟨od, gs, h1, h2.cut (by simpa only [O.clo] using h)⟩
theorem SR.cut {M ext : Store} (S : SR G μ H (M ++ ext)) (h : Store.clo M) : SR G (μ.take M.length) H M := by
  have hl : μ.length = M.length + ext.length := by rw [S.len, List.length_append]
  have lt : ∀ {l : Nat} {o : O}, M[l]? = some o → l < M.length := fun h => (List.getElem?_eq_some_iff.mp h).1
  refine ⟨by rw [List.length_take]; omega, fun i j a x y h1 h2 h3 h4 => ?_, fun l a o h1 h2 => ?_⟩
  · rw [List.getElem?_take_of_lt (lt h3)] at h1
    rw [List.getElem?_take_of_lt (lt h4)] at h2
    exact S.nd i j a x y h1 h2 (by rw [List.getElem?_append_left (lt h3)]; exact h3) (by rw [List.getElem?_append_left (lt h4)]; exact h4)
  have hlt : l < M.length := (List.getElem?_eq_some_iff.mp h2).1
  rw [List.getElem?_take_of_lt hlt] at h1
  exact (S.obj l a o h1 (by rw [List.getElem?_append_left hlt]; exact h2)).cut (h o (List.mem_of_getElem? h2))
theorem pre_take {μ0 : List Addr} {k : Nat} (p : μ0 <+: μ) (h : μ0.length ≤ k) : μ0 <+: μ.take k := by
  obtain ⟨t, rfl⟩ := p
  rw [List.take_append]
  rw [List.take_of_length_le h]
  exact List.prefix_append _ _
end
/-- every object of the store in the told one stands (the told store is not shorter than the one ahead) -/
def Grows (M : Store) : R D → Prop
  | .ok _ M' => M.length ≤ M'.length
  | .ex _ _ M' => M.length ≤ M'.length
  | .no => True
theorem FinC_tells {G : Gm} {E : XK} {μ : List Addr} {H : Hp} {Q : VK} {M : Store} {r s : R D} (hl : μ.length = M.length) (g : Grows M r) (t : Tells r s) (h : FinC G E μ H Q r) : FinC G E μ H Q s := by
  cases r with
  | no => exact h.elim
  | ok d M' =>
    obtain ⟨ext, rfl, c⟩ := t
    intro μ' v H' e p S r
    rcases c with rfl | ⟨c1, c2⟩
    · rw [List.append_nil] at S
      exact h μ' v H' e p S r
    · exact h (μ'.take M'.length) v H' e (pre_take p (by rw [hl]; exact g)) (S.cut c2) (r.cut c1)
  | ex c fs M' =>
    obtain ⟨ext, rfl, c⟩ := t
    intro μ' H' dx e p S x
    rcases c with rfl | c2
    · rw [List.append_nil] at S
      exact h μ' H' dx e p S x
    · exact h (μ'.take M'.length) H' dx e (pre_take p (by rw [hl]; exact g)) (S.cut c2) (by cases fs <;> exact x)
def startD (n : Nat) (ds : List D) : Env := ds.map some ++ List.replicate (n - ds.length) none
theorem startD_ok {G : Gm} {μ : List Addr} {H : Hp} {N : List Str} {ds : List D} {vs : List V} (r : Reps G μ H ds vs) : ER G μ H (startD N.length ds) (L2.start N vs) := by
  have hl := r.length
  refine ⟨by simp [startD, L2.start, hl], fun i d e => ?_⟩
  unfold startD at e
  by_cases hi : i < ds.length
  · rw [List.getElem?_append_left (by simpa using hi), List.getElem?_map] at e
    cases q : ds[i]? with
    | none => rw [q] at e; cases e
    | some d' =>
      rw [q] at e
      have e2 : d' = d := by simpa using e
      subst e2
      obtain ⟨v, h1, h2⟩ := r.get q
      refine ⟨v, ?_, h2⟩
      unfold L2.start
      rw [List.getElem?_append_left (by rw [List.length_map, ← hl]; exact hi), List.getElem?_map, h1]
      rfl
  · rw [List.getElem?_append_right (by simpa using hi), List.getElem?_replicate] at e
    split at e
    · cases e
    · cases e
section
variable {P : Program} {w : World} {K : PySem.W.Frag} {mg : Str → Option Value} {base : Heap}
/-- THE RULE for a def: m is its body's reading; F is told of it -/
theorem fn_D {x qual : Str} {params : Arguments} {body : List Stmt} {scope : Scope} {dvs : List V} {kws : List (Str × V)} {f : Addr} {fd : FuncData} {N ps : List Str} {k : Nat} {m : RS} {F : List D → Store → R D}
    (Fu : FunD K x qual params body scope dvs kws f fd) (S : FnScope N ps scope)
    (hb : ∀ (cdv : Value) (A : Around) (outer : List PySem.Env) (s : Shared) (H : Hp) (E : XK), Room k (A.deeper (PyProof.Rows.envOfC qual scope s.heap.objs.size f cdv)) →
      ∀ W : WX, L2N.Takes (cxOf (L2N.CX P w) P w K mg base N qual scope f cdv A outer s H E) W → PSs (cxOf (L2N.CX P w) P w K mg base N qual scope f cdv A outer s H E) body (tS ⟨K, mg⟩ W m))
    (hF : ∀ ds M, ds.length = ps.length → Grows M (F ds M) ∧ Tells (F ds M) (bodyR (m (startD N.length ds) M))) :
    FnOk P w K mg base (L2N.CX P w) (k + 1) f fd ps (spD ⟨K, mg⟩ F ps.length) := by
  refine Fu.ok S (fun vs H Q E h => h.choose_spec.choose_spec.choose_spec.1) fun cdv A outer s H vs Q E hr h => ?_
  obtain ⟨μ, ds, M, hn, hds, hS, hQ⟩ := h
  have tk : L2N.Takes (cxOf (L2N.CX P w) P w K mg base N qual scope f cdv A outer s H E) (fun c d _ H' => E c d H') := L2N.takes_of rfl rfl rfl rfl
  refine ⟨_, hb cdv A outer s H E hr _ tk, μ, startD N.length ds, M, startD_ok hds, hS, ?_⟩
  obtain ⟨g, t⟩ := hF ds M (by rw [hds.length]; exact hn)
  have hq := FinC_tells hS.len g t hQ
  cases q : m (startD N.length ds) M with
  | nx ρ M' => rw [q] at hq; exact fun μ' σ' H' e p _ s => hq μ' .non H' e p s (Rep.non.mpr rfl)
  | rt d M' => rw [q] at hq; exact fun μ' v H' e p s r => hq μ' v H' e p s r
  | bk ρ M' => rw [q] at hq; exact hq.elim
  | ct ρ M' => rw [q] at hq; exact hq.elim
  | ex c fs ρ M' => rw [q] at hq; exact fun μ' σ' H' dx e p _ s x => hq μ' H' dx e p s x
  | no => rw [q] at hq; exact hq.elim
end
end Fl

set_option Elab.async false
set_option linter.all false
set_option maxRecDepth 100000
/-! Fl, part K: calls with keywords; facts of the head; the law's end. -/
namespace Fl
open PySem PySem.Spec L2
set_option autoImplicit false
/-! ### f(e, .., k = v, ..) -/
def pick {α : Type} (ix : List (Bool × Nat)) (us ws : List α) : List α := ix.filterMap fun q => if q.1 then ws[q.2]? else us[q.2]?
theorem Reps.pick {G : Gm} {μ : List Addr} {H : Hp} {ds zs : List D} {vs ws : List V} (r : Reps G μ H ds vs) (q : Reps G μ H zs ws) : ∀ ix : List (Bool × Nat), Reps G μ H (Fl.pick ix ds zs) (Fl.pick ix vs ws)
  | [] => .nil
  | (b, i) :: ix => by
    have ih := Reps.pick r q ix
    unfold Fl.pick at ih ⊢
    rw [List.filterMap_cons, List.filterMap_cons]
    have key : ∀ {as : List D} {us : List V}, Reps G μ H as us → (as[i]? = none ∧ us[i]? = none) ∨ ∃ d v, as[i]? = some d ∧ us[i]? = some v ∧ Rep G μ H d v := fun {as us} r => by
      cases e : as[i]? with
      | none =>
        have h1 : as.length ≤ i := List.getElem?_eq_none_iff.mp e
        exact .inl ⟨rfl, List.getElem?_eq_none_iff.mpr (by rw [← r.length]; exact h1)⟩
      | some d =>
        obtain ⟨v, h1, h2⟩ := r.get e
        exact .inr ⟨d, v, rfl, h1, h2⟩
    cases b with
    | true =>
      rcases key q with ⟨h1, h2⟩ | ⟨d, v, h1, h2, h3⟩
      · simp only [if_true, h1, h2]; exact ih
      · simp only [if_true, h1, h2]; exact .cons h3 ih
    | false =>
      rcases key r with ⟨h1, h2⟩ | ⟨d, v, h1, h2, h3⟩
      · simp only [Bool.false_eq_true, if_false, h1, h2]; exact ih
      · simp only [Bool.false_eq_true, if_false, h1, h2]; exact .cons h3 ih
theorem Vals.pick {vs zs : List V} {us ws : List Value} (r : Vals vs us) (q : Vals zs ws) : ∀ ix : List (Bool × Nat), Vals (Fl.pick ix vs zs) (Fl.pick ix us ws)
  | [] => .nil
  | (b, i) :: ix => by
    have ih := Vals.pick r q ix
    unfold Fl.pick at ih ⊢
    rw [List.filterMap_cons, List.filterMap_cons]
    have key : ∀ {as : List V} {us : List Value}, Vals as us → (as[i]? = none ∧ us[i]? = none) ∨ ∃ d v, as[i]? = some d ∧ us[i]? = some v ∧ RelV d v := fun {as us} r => by
      cases e : as[i]? with
      | none => exact .inl ⟨rfl, r.none_of e⟩
      | some d =>
        obtain ⟨v, h1, h2⟩ := r.get e
        exact .inr ⟨d, v, rfl, h1, h2⟩
    cases b with
    | true =>
      rcases key q with ⟨h1, h2⟩ | ⟨d, v, h1, h2, h3⟩
      · simp only [if_true, h1, h2]; exact ih
      · simp only [if_true, h1, h2]; exact .cons h3 ih
    | false =>
      rcases key r with ⟨h1, h2⟩ | ⟨d, v, h1, h2, h3⟩
      · simp only [Bool.false_eq_true, if_false, h1, h2]; exact ih
      · simp only [Bool.false_eq_true, if_false, h1, h2]; exact .cons h3 ih
structure DfK (P : Program) (w : World) (K : PySem.W.Frag) (mg : Str → Option Value) (base : Heap) (x : Str) (ps : List Str) (F : List D → Store → R D) (k n : Nat) (ks : List Str) (ix : List (Bool × Nat)) : Prop where
  is_ : ∃ f fd, mg x = some (.ref f) ∧ PySem.W.keepIn K (.ref f) = true ∧ (∀ (s : Shared) (us ws : List Value), us.length = n → ws.length = ks.length → BindsTo s fd ⟨us, ks.zip ws⟩ (ps.zip (pick ix us ws))) ∧ FnOk P w K mg base (L2N.CX P w) k f fd ps (spD ⟨K, mg⟩ F ps.length)
def rCallK (n m : Nat) (ix : List (Bool × Nat)) (p : Nat) (F : List D → Store → R D) (fa fk : RA) : RE := fun ρ M => (fa ρ M).bind fun ds M1 => (fk ρ M1).bind fun zs M2 => if ds.length = n ∧ zs.length = m ∧ (pick ix ds zs).length = p then F (pick ix ds zs) M2 else .no
section
variable {X : Cx} {W : WX} {x : Str} {ps ks : List Str} {F : List D → Store → R D} {k n : Nat} {ix : List (Bool × Nat)} {e : Expr} {es : List Expr} {kws : List Keyword} {fs fk : RA} {p pos kpos : Pos} {nm : Option Str} {fe : RE}
theorem k_nil : PK X [] (tA (gm X) W rNil) := ⟨fun pos pins s σ H Q I h => pk_nil.run pos pins s σ H Q I (by
  obtain ⟨μ, ρ, M, hE, hS, hF⟩ := h
  exact hF μ [] H (.refl _) (List.prefix_refl _) hS .nil)⟩
theorem k_cons (ha : PE X e (tE (gm X) W fe)) (hr : PK X kws (tA (gm X) W fk)) : PK X (⟨nm, e, kpos⟩ :: kws) (tA (gm X) W (rCons fe fk)) := ⟨fun pos pins s σ H Q I h => (pk_cons ha hr).run pos pins s σ H Q I (by
  refine (tX.bind h).mono fun v H1 g1 => ?_
  refine (Go.bind Rep.mono g1).mono fun vs H2 ⟨μ, ρ, M, x, xs, hE, hS, rx, rxs, hF⟩ => ?_
  exact hF μ (v :: vs) H2 (.refl _) (List.prefix_refl _) hS (.cons rx rxs))⟩
theorem callK_in {σ : St} {H : Hp} {Q : VK} {m q : Nat} (h : tE (gm X) W (rCallK n m ix q F fs fk) σ H Q) : tA (gm X) W fs σ H fun vs H1 => tA (gm X) W fk σ H1 fun zs H2 => vs.length = n ∧ zs.length = m ∧ spD (gm X) F q (pick ix vs zs) H2 Q (WE W σ) := by
  refine (tX.bind h).mono fun vs H1 g1 => ?_
  refine (Go.bind Reps.mono g1).mono fun zs H2 ⟨μ, ρ, M, ds, es, hE, hS, rx, rxs, hF⟩ => ?_
  have hF : Fin (gm X) (Rep (gm X)) W μ σ H2 Q (if ds.length = n ∧ es.length = m ∧ (pick ix ds es).length = q then F (pick ix ds es) M else .no) := hF
  split at hF
  · rename_i hn
    have r := rx.pick rxs ix
    exact ⟨by rw [rx.len_eq]; exact hn.1, by rw [rxs.len_eq]; exact hn.2.1, μ, pick ix ds es, M, by rw [r.len_eq]; exact hn.2.2, r, hS, FinC_of hF⟩
  · exact hF.elim
theorem runK {pins : List (Addr × Obj)} {σ : St} {H : Hp} {s : Shared} {Q : VK} {us ws : List Value} {vs zs : List V} {f : Addr} {fd : FuncData} (h4 : FnOk X.prog X.w X.K X.mg X.base (L2N.CX X.prog X.w) k f fd ps (spD (gm X) F ps.length)) (hr : Room k X.A) (tk : L2N.Takes X W)
    (hb : ∀ (s : Shared) (us ws : List Value), us.length = n → ws.length = ks.length → BindsTo s fd ⟨us, ks.zip ws⟩ (ps.zip (pick ix us ws))) (I : Inv X pins σ H s) (r : Vals vs us) (rz : Vals zs ws) (l1 : vs.length = n) (l2 : zs.length = ks.length) (h : spD (gm X) F ps.length (pick ix vs zs) H Q (WE W σ)) :
    wpAny (model X.prog X.w) X.A (call (.ref f) us (ks.zip ws)) (EP X pins σ Q) X.xe s := by
  refine wpAny_call (codeAny_mono (h4.run X.A X.stack s H ⟨us, ks.zip ws⟩ (pick ix us ws) (pick ix vs zs) Q (WE W σ) hr I.env0 (hb s us ws (by rw [← r.length]; exact l1) (by rw [← rz.length]; exact l2)) (Vals.pick r rz ix) h) fun r s' hq => ?_)
  cases r with
  | error e => exact L2N.passAt tk σ pins H s e s' I hq
  | ok fl =>
    cases fl with
    | ret u => exact I.after hq
    | next => exact False.elim hq
    | brk => exact False.elim hq
    | cont => exact False.elim hq
/-- keywords alone -/
theorem i_callK0 (D : DfK X.prog X.w X.K X.mg X.base x ps F k 0 ks ix) (hr : Room k X.A) (hg : Gl X x) (tk : L2N.Takes X W) (hkw : PK X kws (tA (gm X) W fk)) (hall : (backToKw pos (keywordEach kws X.env)).all (·.1.isSome) = true := by rfl) (hks : (backToKw pos (keywordEach kws X.env)).filterMap (·.1) = ks := by rfl)
    (hdb : (x == ("__debug__" : Str)) = false := by decide) (hpl : ((backTo pos (starEach [] X.env)).any (·.1) || (backToKw pos (keywordEach kws X.env)).any (·.1.isNone)) = false := by rfl) :
    PE X (.Call (.Name x p) [] kws pos) (tE (gm X) W (rCallK 0 ks.length ix ps.length F rNil fk)) := by
  obtain ⟨f, fd, h1, h2, h3, h4⟩ := D.is_
  refine ⟨fun pins s σ H Q I h => ?_⟩
  have h0 := callK_in h
  have h0' : tA (gm X) W fk σ H fun zs H2 => zs.length = ks.length ∧ spD (gm X) F ps.length (pick ix [] zs) H2 Q (WE W σ) := by
    obtain ⟨μ, ρ, M, hE, hS, hF⟩ := h0
    have := hF μ [] H (.refl _) (List.prefix_refl _) hS .nil
    exact this.mono fun zs H2 z => ⟨z.2.1, z.2.2⟩
  refine wpAny_Call_Name_kw (ld_glob I hg h1 ?_ hdb)
  refine PySem.W.callWith_KW0 (h₀ := X.base) I.ok.mod.kin h2 hall (thn (hkw.run pos pins s σ H _ I h0') fun ws s2 ⟨zs, H2, I2, rz, q2⟩ => ⟨I2.kIn, ?_⟩) hpl
  rw [hks]
  exact runK h4 hr tk h3 I2 .nil rz rfl q2.1 q2.2
/-- positional ones and keywords -/
theorem i_callK (D : DfK X.prog X.w X.K X.mg X.base x ps F k n ks ix) (hr : Room k X.A) (hg : Gl X x) (tk : L2N.Takes X W) (ha : PA X (e :: es) (tA (gm X) W fs)) (hkw : PK X kws (tA (gm X) W fk)) (hall : (backToKw pos (keywordEach kws X.env)).all (·.1.isSome) = true := by rfl) (hks : (backToKw pos (keywordEach kws X.env)).filterMap (·.1) = ks := by rfl)
    (hdb : (x == ("__debug__" : Str)) = false := by decide) (he : starEach (e :: es) X.env = (false, eval e X.env) :: starEach es X.env := by rfl) (hpl : ((backTo pos (starEach (e :: es) X.env)).any (·.1) || (backToKw pos (keywordEach kws X.env)).any (·.1.isNone)) = false := by rfl) :
    PE X (.Call (.Name x p) (e :: es) kws pos) (tE (gm X) W (rCallK n ks.length ix ps.length F fs fk)) := by
  obtain ⟨f, fd, h1, h2, h3, h4⟩ := D.is_
  refine ⟨fun pins s σ H Q I h => ?_⟩
  refine wpAny_Call_Name_kw (ld_glob I hg h1 ?_ hdb)
  refine PySem.W.callWith_KW (h₀ := X.base) I.ok.mod.kin h2 hall (thn (ha.run pos pins s σ H _ I (callK_in h)) fun us s1 ⟨vs, H1, I1, r, q⟩ => ?_) hpl he
  refine thn (hkw.run pos pins s1 σ H1 _ I1 q) fun ws s2 ⟨zs, H2, I2, rz, q2⟩ => ⟨I2.kIn, ?_⟩
  rw [hks]
  exact runK h4 hr tk h3 I2 r rz q2.1 q2.2.1 q2.2.2
end
/-! ### facts of the head -/
/-! the value u is the data x, in the written part -/
mutual
def pB (K : PySem.W.Frag) : P → Value → Bool
  | .non, .none => true
  | .bl b, .bool c => b == c
  | .int i, .int j _ => decide (i = j)
  | .str x, .str y _ => decide (x = y)
  | .tup xs, .ref a => (match K.lookup a with
    | some ⟨.type c, _, .seq its _, _⟩ => decide (c = "tuple") && (decide (its.size ≤ sizeLine) && pBs K xs its.toList)
    | _ => false)
  | _, _ => false
def pBs (K : PySem.W.Frag) : List P → List Value → Bool
  | [], [] => true
  | x :: xs, u :: us => pB K x u && pBs K xs us
  | _, _ => false
end
mutual
theorem pB_ok {K : PySem.W.Frag} : ∀ {x : P} {u : Value}, pB K x u = true → ∃ v, RelV v u ∧ ∀ H, RepP K H x v
  | .non, u, h => by
    cases u with
    | none => exact ⟨.non, rfl, fun H => by simp only [RepP]⟩
    | _ => simp [pB] at h
  | .bl b, u, h => by
    cases u with
    | bool c =>
      have e : b = c := by simpa [pB] using h
      exact ⟨.bl c, rfl, fun H => by simp only [RepP, e]⟩
    | _ => simp [pB] at h
  | .int i, u, h => by
    cases u with
    | int j t =>
      have e : i = j := by simpa [pB] using h
      exact ⟨.int j, ⟨t, rfl⟩, fun H => by simp only [RepP, e]⟩
    | _ => simp [pB] at h
  | .str i, u, h => by
    cases u with
    | str j t =>
      have e : i = j := by simpa [pB] using h
      exact ⟨.str j, ⟨t, rfl⟩, fun H => by simp only [RepP, e]⟩
    | _ => simp [pB] at h
  | .tup xs, u, h => by
    cases u with
    | ref a =>
      simp only [pB] at h
      split at h
      · rename_i c od its n sl e
        simp only [Bool.and_eq_true, decide_eq_true_eq] at h
        obtain ⟨h1, h2, h3⟩ := h
        obtain ⟨vs, r1, r2⟩ := pBs_ok h3
        refine ⟨.ref a, rfl, fun H => ?_⟩
        simp only [RepP]
        exact ⟨a, vs, rfl, .inr ⟨_, its, n, e, by rw [h1], rfl, h2, r1⟩, r2 H⟩
      · cases h
    | _ => simp [pB] at h
theorem pBs_ok {K : PySem.W.Frag} : ∀ {xs : List P} {us : List Value}, pBs K xs us = true → ∃ vs, Vals vs us ∧ ∀ H, RepPs K H xs vs
  | [], [], _ => ⟨[], .nil, fun H => by simp only [RepPs]⟩
  | [], _ :: _, h => by simp [pBs] at h
  | _ :: _, [], h => by simp [pBs] at h
  | x :: xs, u :: us, h => by
    simp only [pBs, Bool.and_eq_true] at h
    obtain ⟨v, r1, r2⟩ := pB_ok h.1
    obtain ⟨vs, r3, r4⟩ := pBs_ok h.2
    exact ⟨v :: vs, .cons r1 r3, fun H => by simp only [RepPs]; exact ⟨v, vs, rfl, r2 H, r4 H⟩⟩
end
/-- the module's name x stands for the data d -/
def cB (K : PySem.W.Frag) (x : Str) (d : P) : Bool := match PySem.W.nsIn K mainGlobals x with
  | some (some u) => pB K d u
  | _ => false
theorem cB_ok {K : PySem.W.Frag} {mg : Str → Option Value} {h : Heap} {x : Str} {d : P} (X : K.In h) (G : h.Ns mainGlobals mg) (c : cB K x d = true) : Cst ⟨K, mg⟩ x (.p d) := by
  unfold cB at c
  split at c
  · rename_i u e
    obtain ⟨v, r1, r2⟩ := pB_ok c
    exact ⟨v, u, PySem.W.mg_of X G e, r1, fun μ H => by simpa only [Rep] using r2 H⟩
  · cases c
/-- what a name of the top is asked for: data, or a builtin -/
inductive CK where
  | p : P → CK
  | b : String → CK
def cK (K : PySem.W.Frag) (x : Str) : CK → Bool
  | .p d => cB K x d
  | .b id => match PySem.W.nsIn K mainGlobals x with
    | some (some (.builtin j)) => decide (j = id)
    | _ => false
theorem cK_b {K : PySem.W.Frag} {mg : Str → Option Value} {h : Heap} {x : Str} {id : String} (X : K.In h) (G : h.Ns mainGlobals mg) (c : cK K x (.b id) = true) : mg x = some (.builtin id) := by
  unfold cK at c
  dsimp only at c
  split at c
  · rename_i j e
    have e2 : j = id := by simpa using c
    subst e2
    exact PySem.W.mg_of X G e
  · cases c
abbrev AlX : Type := He.AlD × Bool
def obsX (fa : List He.Fa) (fn : List He.DefD) (cs : List (Str × CK)) (K : PySem.W.Frag) : AlX := (He.obsD fa fn K, cs.all fun q => cK K q.1 q.2)
def valX (fn : List He.DefD) : AlX := (He.valD fn, true)
def obsXG (n : Nat) (fa : List He.Fa) (fn : List He.DefD) (cs : List (Str × CK)) (g : Addr → Option Obj) : AlX := obsX fa fn cs (He.frG g (He.asD g n))
structure SaysX (fa : List He.Fa) (fn : List He.DefD) (cs : List (Str × CK)) (K : PySem.W.Frag) : Prop where
  d : He.SaysD fa fn K
  c : ∀ q ∈ cs, cK K q.1 q.2 = true
def hookX (n : Nat) (fa : List He.Fa) (fn : List He.DefD) (cs : List (Str × CK)) : PySem.W.Hook where
  α := AlX
  obs := fun s => obsXG n fa fn cs s.heap.get?
  val := fun _ => valX fn
  says := fun _ h => ∃ K : PySem.W.Frag, K.In h ∧ SaysX fa fn cs K
  of := fun _ _ e => ⟨_, He.frG_in, congrArg (fun z : AlX => z.1) e, List.all_eq_true.mp (congrArg (fun z : AlX => z.2) e)⟩
  keeps := fun _ _ _ ⟨K, hK, c⟩ k => ⟨K, PySem.W.Frag.In.keeps hK k, c⟩
theorem obsXG_eq {n : Nat} {fa : List He.Fa} {fn : List He.DefD} {cs : List (Str × CK)} {g : Addr → Option Obj} {s : Shared} (h : ∀ a, g a = s.heap.get? a) : obsXG n fa fn cs g = (hookX n fa fn cs).obs s := by
  have e : g = s.heap.get? := funext h
  rw [e] <;> rfl
theorem exc_C {K : PySem.W.Frag} {mg : Str → Option Value} {h : Heap} {x : Str} (X : K.In h) (G : h.Ns mainGlobals mg) (c : (He.Fa.exc x).ok K = true) (g : (He.Fa.glo x).ok K = true) : ExC ⟨K, mg⟩ x (He.ga K x) := by
  obtain ⟨h1, h2, h3, h4⟩ := He.exc_ok c
  exact ⟨He.glo_ok X G g, h1, h2, h3, h4⟩
theorem exm_C {K : PySem.W.Frag} {mg : Str → Option Value} {h : Heap} {x y : Str} {b : Bool} (X : K.In h) (G : h.Ns mainGlobals mg) (c : (He.Fa.exm x y b).ok K = true) (g : (He.Fa.glo x).ok K = true) : PySem.W.exmOne K (cval ⟨K, mg⟩ x) (.ref (He.ga K y)) = some b := by
  have e : cval ⟨K, mg⟩ x = .ref (He.ga K x) := by
    unfold cval
    show (mg x).getD .none = _
    rw [He.glo_ok X G g]
    rfl
  rw [e]
  exact He.exm_ok c
theorem hu_r {A : Around} {k : Nat} (r : Room k A) : A.units + 120 < cLine := by have := r.un; omega
theorem df_mk {P : Program} {w : World} {K : PySem.W.Frag} {mg : Str → Option Value} {base : Heap} {x qual : Str} {params : Arguments} {body : List Stmt} {scope : Scope} {f : Addr} {fd : FuncData} {ps : List Str} {F : List D → Store → R D} {k : Nat}
    (Fu : FunD K x qual params body scope [] [] f fd) (g : mg x = some (.ref f)) (b : Binds K fd ps []) (h : FnOk P w K mg base (L2N.CX P w) k f fd ps (spD ⟨K, mg⟩ F ps.length)) : Df P w K mg base x ps F k := ⟨f, fd, g, Fu.kp, b, h⟩
/-- the law's end: F tells True of every script -/
theorem law_spec {K : PySem.W.Frag} {mg : Str → Option Value} {F : List D → Store → R D} {n : Nat} (hF : ∀ ns : List Int, ns.length ≤ n → ∃ M, F [.ref 0] [.ro (ns.map fun i => .p (.int i))] = .ok (.p (.bl true)) M) :
    ∀ (H : Hp) (a : Addr) (ns : List Int), ns.length ≤ n → Only H → SqL K H a (ns.map V.int) → spD ⟨K, mg⟩ F 1 [.ref a] H (fun v _ => v = .bl true) fun _ _ _ => False := by
  intro H a ns hl hO hq
  have ha : RoL K H a (ns.map V.int) := by
    rcases hq with (hq | hq) | hq
    · rcases hO a with z | ⟨o, xs, z⟩
      · rw [z] at hq; cases hq
      · rw [z] at hq; cases hq
    · exact .inl hq
    · exact .inr hq
  obtain ⟨M, e⟩ := hF ns hl
  refine ⟨[a], [.ref 0], [.ro (ns.map fun i => .p (.int i))], rfl, .cons (Rep.ref.mpr ⟨a, rfl, rfl⟩) .nil, ?_, ?_⟩
  · refine ⟨rfl, fun i j b x y h1 h2 h3 h4 => ?_, fun l b ob h1 h2 => ?_⟩
    · cases i with
      | zero => cases h3; exact .inl rfl
      | succ i => simp at h3
    cases l with
    | zero =>
      cases h1
      cases h2
      refine ⟨ns.map V.int, ha, ?_⟩
      clear ha hl e hq
      induction ns with
      | nil => exact .nil
      | cons x xs ih => exact .cons (Rep.int.mpr rfl) ih
    | succ l => simp at h1
  · rw [e]
    exact fun μ' v H' _ _ _ r => Rep.bl.mp r
/-- a law: F gives the written part, the function object, the promise over every base; what leaves may hang on the world -/
theorem walk_ofXE {l : PySem.W.OpenLaw} {n k : Nat} {q : Program} {loose : List Str} {XP : (Str → Option Value) → Heap → Prop} {YP : World → Heap → Prop} {d : DefRec} {CX : World → CXT} {x : Str}
    (hn : l.most = some n) (hn2 : n ≤ sizeLine) (hdf : d.params.defaults = []) (hr : Room k callerA)
    (F : ∀ (w : World) (mg : Str → Option Value) (fa : Addr) (h : Heap), YP w h → h.Ns mainGlobals mg → mg d.name = some (.ref fa) →
      ∃ (K : PySem.W.Frag) (fd : FuncData) (sp : Sp), K.In h ∧ (∀ (s : Shared) (u : Value), BindsTo s fd ⟨[u], []⟩ [(x, u)]) ∧
        (∀ (H : Hp) (a : Addr) (ns : List Int), ns.length ≤ n → Only H → SqL K H a (ns.map V.int) → sp [.ref a] H (fun v _ => v = .bl true) fun _ _ _ => False) ∧
        ∀ base : Heap, K.In base → base.Ns mainGlobals mg → FnOk l.prog w K mg base (CX w) k fa fd [x] sp)
    (hCX : ∀ (w : World) (H : Hp) (s : Shared) (e : Value) (s' : Shared), CX w [] H s (fun _ _ _ => False) e s' → False) :
    PySem.W.WalkO q loose XP YP l.row.toRowW d [] (fun f vs => PySem.call f vs) := by
  refine Att.attach_call hn hdf fun w s₀ s₁ mg mb fa o pm cd doc a vs ns G Y ho hd hcd hmg hobj hints hlen hg => ?_
  obtain ⟨K, fd, sp, KX, hb, hsp, hF⟩ := F w mg fa _ Y G.T.g hmg
  exact law_call KX G.T.g G.T.b G.T.builtins G.T.nolimit hg hobj hints (Nat.le_trans hlen hn2) hr hF hb (fun H hO hS => hsp H a ns hlen hO hS) fun H e s' => hCX w H s₁ e s'
theorem bi_len : bootBuiltins "len" = some (.builtin "len") := by decide +kernel
theorem bi_abs : bootBuiltins "abs" = some (.builtin "abs") := by decide +kernel
theorem bi_min : bootBuiltins "min" = some (.builtin "min") := by decide +kernel
theorem bi_max : bootBuiltins "max" = some (.builtin "max") := by decide +kernel
theorem bi_sorted : bootBuiltins "sorted" = some (.builtin "sorted") := by decide +kernel
theorem bi_int : bootBuiltins "int" = some (.type "int") := by decide +kernel
theorem bi_bool : bootBuiltins "bool" = some (.type "bool") := by decide +kernel
theorem bi_str : bootBuiltins "str" = some (.type "str") := by decide +kernel
theorem bi_list : bootBuiltins "list" = some (.type "list") := by decide +kernel
theorem bi_tuple : bootBuiltins "tuple" = some (.type "tuple") := by decide +kernel
theorem bi_dict : bootBuiltins "dict" = some (.type "dict") := by decide +kernel
/-- F is told of a body's reading -/
def Ref (n N : Nat) (F : List D → Store → R D) (m : RS) : Prop := ∀ ds M, ds.length = n → Grows M (F ds M) ∧ Tells (F ds M) (bodyR (m (startD N ds) M))
/-- nothing is promised -/
theorem fnok_no {P : Program} {w : World} {K : PySem.W.Frag} {mg : Str → Option Value} {base : Heap} {G : Gm} {k n : Nat} {f : Addr} {fd : FuncData} {ps : List Str} : FnOk P w K mg base (L2N.CX P w) k f fd ps (spD G (fun _ _ => .no) n) :=
  ⟨fun _ _ _ _ ⟨_, _, _, _, _, _, z⟩ => z.elim, fun _ _ _ _ _ _ _ _ _ _ _ _ _ ⟨_, _, _, _, _, _, z⟩ => z.elim⟩
end Fl

set_option Elab.async false
set_option linter.all false
set_option maxRecDepth 100000
/-! Fl, part S: readings are reckoned by simp; loops by folds and invariants. -/
namespace Fl
open PySem PySem.Spec L2
set_option autoImplicit false
def oK {α β : Type} (o : Option (α × β)) (f : α → β → Out) : Out := match o with
  | some (a, b) => f a b
  | none => .no
@[simp] theorem oK_some {α β : Type} (a : α) (b : β) (f : α → β → Out) : oK (some (a, b)) f = f a b := (rfl)
@[simp] theorem oK_none {α β : Type} (f : α → β → Out) : oK (none : Option (α × β)) f = .no := (rfl)
section
variable {ρ : Env} {M : Store}
@[simp] theorem e_var (i : Nat) : rVar i ρ M = (match ρ[i]? with
  | some (some d) => .ok d M
  | _ => .no) := (rfl)
@[simp] theorem e_C (d : D) : rC d ρ M = .ok d M := (rfl)
@[simp] theorem e_bin (op fa fb) : rBin op fa fb ρ M = (fa ρ M).bind fun x M1 => (fb ρ M1).bind fun y M2 => ofO (op x y M2) := (rfl)
@[simp] theorem e_un (op fa) : rUn op fa ρ M = (fa ρ M).bind fun x M1 => ofO (op x M1) := (rfl)
def tsK (o : Option Bool) (M : Store) : R Bool := match o with
  | some b => .ok b M
  | none => .no
@[simp] theorem tsK_some (b : Bool) : tsK (some b) M = .ok b M := (rfl)
@[simp] theorem e_tst (t fa) : rTst t fa ρ M = (fa ρ M).bind fun x M1 => tsK (t x M1) M1 := (rfl)
@[simp] theorem e_tand (f g : RT) : rtAnd f g ρ M = (f ρ M).bind fun b M1 => if b = true then g ρ M1 else .ok false M1 := by
  unfold rtAnd; congr; funext b M1; cases b <;> simp
@[simp] theorem e_tor (f g : RT) : rtOr f g ρ M = (f ρ M).bind fun b M1 => if b = true then .ok true M1 else g ρ M1 := by
  unfold rtOr; congr; funext b M1; cases b <;> simp
@[simp] theorem e_tnot (f : RT) : rtNot f ρ M = (f ρ M).bind fun b M1 => .ok (!b) M1 := (rfl)
@[simp] theorem e_not (f : RT) : rNot f ρ M = (f ρ M).bind fun b M1 => .ok (.p (.bl (!b))) M1 := (rfl)
@[simp] theorem e_if (t : RT) (f g : RE) : rIf t f g ρ M = (t ρ M).bind fun b M1 => if b = true then f ρ M1 else g ρ M1 := by
  unfold rIf; congr; funext b M1; cases b <;> simp
def chK (o : Option (D × Store)) (f : Store → R D) : R D := match o with
  | some (.p (.bl true), M3) => f M3
  | some (.p (.bl false), M3) => .ok (.p (.bl false)) M3
  | _ => .no
@[simp] theorem chK_bl (b : Bool) (M : Store) (f : Store → R D) : chK (some (.p (.bl b), M)) f = if b = true then f M else .ok (.p (.bl false)) M := by cases b <;> rfl
@[simp] theorem e_chain (op op' fa fb fc) : rChain op op' fa fb fc ρ M = (fa ρ M).bind fun x M1 => (fb ρ M1).bind fun y M2 => chK (op x y M2) fun M3 => (fc ρ M3).bind fun z M4 => ofO (op' y z M4) := (rfl)
def trK {α : Type} (o : Option Bool) (f g : R α) : R α := match o with
  | some true => f
  | some false => g
  | none => .no
@[simp] theorem trK_some {α : Type} (b : Bool) (f g : R α) : trK (some b) f g = if b = true then f else g := by cases b <;> rfl
@[simp] theorem e_and (f g : RE) : rAnd f g ρ M = (f ρ M).bind fun x M1 => trK (truthD x M1) (g ρ M1) (.ok x M1) := (rfl)
@[simp] theorem e_or (f g : RE) : rOr f g ρ M = (f ρ M).bind fun x M1 => trK (truthD x M1) (.ok x M1) (g ρ M1) := (rfl)
@[simp] theorem e_nil : rNil ρ M = .ok [] M := (rfl)
@[simp] theorem e_cons (f g) : rCons f g ρ M = (f ρ M).bind fun x M1 => (g ρ M1).bind fun xs M2 => .ok (x :: xs) M2 := (rfl)
@[simp] theorem e_tup (f) : rTup f ρ M = (f ρ M).bind fun xs M1 => if xs.length ≤ 1000 then .ok (mkTup xs) M1 else .no := (rfl)
@[simp] theorem e_lst (f) : rLst f ρ M = (f ρ M).bind fun xs M1 => if xs.length ≤ 1000 then .ok (.ref M1.length) (M1 ++ [.lst xs]) else .no := (rfl)
@[simp] theorem e_CB (op f) : rCB op f ρ M = (f ρ M).bind fun xs M1 => ofO (op xs M1) := (rfl)
@[simp] theorem e_isa (T f) : rIsa T f ρ M = (f ρ M).bind fun x M1 => ofO (cIsa T x M1) := (rfl)
@[simp] theorem e_nopart : rNoPart ρ M = .ok none M := (rfl)
@[simp] theorem e_part (f) : rPart f ρ M = (f ρ M).bind fun x M1 => ofO (asPart x M1) := (rfl)
@[simp] theorem e_sl (f lo hi) : rSl f lo hi ρ M = (f ρ M).bind fun x M1 => (lo ρ M1).bind fun a M2 => (hi ρ M2).bind fun b M3 => ofO (dSl x a b M3) := (rfl)
@[simp] theorem e_rev (f) : rRev f ρ M = (f ρ M).bind fun x M1 => ofO (dRev x M1) := (rfl)
@[simp] theorem e_LM (op fo fs) : rLM op fo fs ρ M = (fo ρ M).bind fun x M1 => if isLst x M1 = true then (fs ρ M1).bind fun xs M2 => ofO (op x xs M2) else .no := by
  unfold rLM; congr; funext x M1; cases isLst x M1 <;> simp
@[simp] theorem e_LM0 (op fo) : rLM0 op fo ρ M = (fo ρ M).bind fun x M1 => if isLst x M1 = true then ofO (op x [] M1) else .no := by
  unfold rLM0; congr; funext x M1; cases isLst x M1 <;> simp
@[simp] theorem e_callN (n F fs) : rCallN n F fs ρ M = (fs ρ M).bind fun ds M1 => if ds.length = n then F ds M1 else .no := (rfl)
@[simp] theorem e_callK (n m ix p F fa fk) : rCallK n m ix p F fa fk ρ M = (fa ρ M).bind fun ds M1 => (fk ρ M1).bind fun zs M2 => if ds.length = n ∧ zs.length = m ∧ (pick ix ds zs).length = p then F (pick ix ds zs) M2 else .no := (rfl)
@[simp] theorem e_skip : rSkip ρ M = .nx ρ M := (rfl)
@[simp] theorem e_seq (a b) : rSeq a b ρ M = (a ρ M).bind b := (rfl)
@[simp] theorem e_expr (f) : rExpr f ρ M = (f ρ M).out ρ fun _ M1 => .nx ρ M1 := (rfl)
@[simp] theorem e_ret (f) : rRet f ρ M = (f ρ M).out ρ fun d M1 => .rt d M1 := (rfl)
@[simp] theorem e_retN : rRetN ρ M = .rt (.p .non) M := (rfl)
@[simp] theorem e_break : rBreak ρ M = .bk ρ M := (rfl)
@[simp] theorem e_cont : rCont ρ M = .ct ρ M := (rfl)
@[simp] theorem e_ifS (t a b) : rIfS t a b ρ M = (t ρ M).out ρ fun k M1 => if k = true then a ρ M1 else b ρ M1 := by
  unfold rIfS; congr; funext k M1; cases k <;> simp
@[simp] theorem e_set (i f) : rSet i f ρ M = (f ρ M).out ρ fun d M1 => .nx (ρ.set i (some d)) M1 := (rfl)
@[simp] theorem e_asg (f g) : rAsg f g ρ M = (f ρ M).out ρ fun d M1 => oK (g d ρ M1) fun ρ2 M2 => .nx ρ2 M2 := by
  unfold rAsg; congr; funext ds M1; rcases g ds ρ M1 with _ | ⟨a, b⟩ <;> rfl
@[simp] theorem e_par (i j f) : rPar i j f ρ M = (f ρ M).out ρ fun ds M1 => match ds with
  | [x, y] => .nx ((ρ.set i (some x)).set j (some y)) M1
  | _ => .no := (rfl)
@[simp] theorem e_gNm (i d) : gNm i d ρ M = some (ρ.set i (some d), M) := (rfl)
@[simp] theorem e_gNi : gNi [] ρ M = some (ρ, M) := (rfl)
@[simp] theorem e_gCo (g gs d r) : gCo g gs (d :: r) ρ M = (match g d ρ M with
  | some (ρ1, M1) => gs r ρ1 M1
  | none => none) := (rfl)
@[simp] theorem e_gTp (n gs d) : gTp n gs d ρ M = (match tupD d with
  | some xs => if xs.length = n then gs xs ρ M else none
  | none => none) := (rfl)
def vK (o : Option (Option D)) (f : D → Out) : Out := match o with
  | some (some x) => f x
  | _ => .no
@[simp] theorem vK_some (x : D) (f : D → Out) : vK (some (some x)) f = f x := (rfl)
@[simp] theorem e_aug (i op f) : rAug i op f ρ M = vK ρ[i]? fun x => (f ρ M).out ρ fun y M1 => oK (op x y M1) fun z M2 => .nx (ρ.set i (some z)) M2 := by
  unfold rAug; rcases ρ[i]? with _ | _ | x
  · rfl
  · rfl
  · show (f ρ M).out ρ _ = (f ρ M).out ρ _; congr; funext y M1; rcases op x y M1 with _ | ⟨a, b⟩ <;> rfl
@[simp] theorem e_forR (rg f g body) : rForR rg f g body ρ M = (f ρ M).out ρ fun ds M1 => oK (rg ds) fun lo n => forL none g body (intsD lo n) ρ M1 := by
  unfold rForR; congr; funext ds M1; rcases rg ds with _ | ⟨a, b⟩ <;> rfl
@[simp] theorem e_for (f g body) : rFor f g body ρ M = (f ρ M).out ρ fun d M1 => oK (walkD d M1) fun xs k => forL k g body xs ρ M1 := by
  unfold rFor; congr; funext ds M1; rcases walkD ds M1 with _ | ⟨a, b⟩ <;> rfl
@[simp] theorem e_raise (c) : rRaise c ρ M = .ex c none ρ M := (rfl)
@[simp] theorem e_try (exs a b) : rTry exs a b ρ M = (match a ρ M with
  | .ex c fs ρ1 M1 => (match exs.lookup c with
    | some true => noEx (b ρ1 M1)
    | some false => .ex c fs ρ1 M1
    | none => .no)
  | o => o) := (rfl)
@[simp] theorem e_noEx_nx : noEx (.nx ρ M) = .nx ρ M := (rfl)
@[simp] theorem e_noEx_rt (d) : noEx (.rt d M) = .rt d M := (rfl)
@[simp] theorem e_body_nx : bodyR (.nx ρ M) = .ok (.p .non) M := (rfl)
@[simp] theorem e_body_rt (d) : bodyR (.rt d M) = .ok d M := (rfl)
@[simp] theorem e_body_ex (c fs) : bodyR (.ex c fs ρ M) = .ex c fs M := (rfl)
@[simp] theorem e_body_no : bodyR .no = .no := (rfl)
end
@[simp] theorem mkTup_nil : mkTup [] = .p (.tup []) := (rfl)
theorem mkTup_map (xs : List P) : mkTup (xs.map D.p) = .p (.tup xs) := by unfold mkTup; rw [allP_map]
@[simp] theorem mkTup_1 (a : P) : mkTup [.p a] = .p (.tup [a]) := (rfl)
@[simp] theorem mkTup_2 (a b : P) : mkTup [.p a, .p b] = .p (.tup [a, b]) := (rfl)
@[simp] theorem mkTup_3 (a b c : P) : mkTup [.p a, .p b, .p c] = .p (.tup [a, b, c]) := (rfl)
@[simp] theorem mkTup_4 (a b c d : P) : mkTup [.p a, .p b, .p c, .p d] = .p (.tup [a, b, c, d]) := (rfl)
@[simp] theorem mkTup_5 (a b c d e : P) : mkTup [.p a, .p b, .p c, .p d, .p e] = .p (.tup [a, b, c, d, e]) := (rfl)
@[simp] theorem mkTup_8 (a b c d e f g h : P) : mkTup [.p a, .p b, .p c, .p d, .p e, .p f, .p g, .p h] = .p (.tup [a, b, c, d, e, f, g, h]) := (rfl)
@[simp] theorem tells_no (s : R D) : Tells .no s := trivial
@[simp] theorem grows_no (M : Store) : Grows M .no := trivial
@[simp] theorem tells_same (d : D) (M : Store) : Tells (.ok d M) (.ok d M) := ⟨[], by simp, .inl rfl⟩
@[simp] theorem tells_same_ex (c : Str) (fs : Option (List (Str × D))) (M : Store) : Tells (.ex c fs M) (.ex c fs M) := ⟨[], by simp, .inl rfl⟩
@[simp] theorem grows_ok (M M' : Store) (d : D) : Grows M (.ok d M') = (M.length ≤ M'.length) := (rfl)
@[simp] theorem grows_ex (M M' : Store) (c fs) : Grows M (.ex c fs M') = (M.length ≤ M'.length) := (rfl)
@[simp] theorem start_n0 (n : Nat) (ds : List D) : startD n ds = ds.map some ++ List.replicate (n - ds.length) none := (rfl)
/-! ### values -/
@[simp] theorem v_asBool (b M) : asBool (.p (.bl b)) M = some b := (rfl)
@[simp] theorem v_tr_bl (b M) : truthD (.p (.bl b)) M = some b := (rfl)
@[simp] theorem v_tr_int (b M) : truthD (.p (.int b)) M = some (b != 0) := (rfl)
@[simp] theorem v_tr_non (M) : truthD (.p .non) M = some false := (rfl)
@[simp] theorem v_tr_tup (xs M) : truthD (.p (.tup xs)) M = some (!xs.isEmpty) := (rfl)
@[simp] theorem v_add (i j M) : dAdd (.p (.int i)) (.p (.int j)) M = some (.p (.int (i + j)), M) := by simp [dAdd]
@[simp] theorem v_sub (i j M) : dSub (.p (.int i)) (.p (.int j)) M = some (.p (.int (i - j)), M) := (rfl)
theorem v_mul (i j M) (h : mulOk i j) : dMul (.p (.int i)) (.p (.int j)) M = some (.p (.int (i * j)), M) := by simp [dMul, h]
theorem v_div (i j M) (h : divOk j) : dDiv (.p (.int i)) (.p (.int j)) M = some (.p (.int (i / j)), M) := by simp [dDiv, h]
theorem v_mod (i j M) (h : 0 < j) : dMod (.p (.int i)) (.p (.int j)) M = some (.p (.int (i % j)), M) := by
  have h0 : j ≠ 0 := by omega
  simp [dMod, h0, Int.fmod_eq_emod_of_nonneg _ (Int.le_of_lt h)]
theorem v_pow (i j M) (h : 0 ≤ j ∧ j ≤ 1000000 ∧ i.natAbs < 2 ^ 64) : dPow (.p (.int i)) (.p (.int j)) M = some (.p (.int (i ^ j.toNat)), M) := by simp [dPow, h]
@[simp] theorem v_neg (i M) : dNeg (.p (.int i)) M = some (.p (.int (-i)), M) := (rfl)
@[simp] theorem v_lt (i j M) : dLt (.p (.int i)) (.p (.int j)) M = some (.p (.bl (decide (i < j))), M) := (rfl)
@[simp] theorem v_le (i j M) : dLe (.p (.int i)) (.p (.int j)) M = some (.p (.bl (decide (i ≤ j))), M) := (rfl)
@[simp] theorem v_gt (i j M) : dGt (.p (.int i)) (.p (.int j)) M = some (.p (.bl (decide (j < i))), M) := (rfl)
@[simp] theorem v_ge (i j M) : dGe (.p (.int i)) (.p (.int j)) M = some (.p (.bl (decide (j ≤ i))), M) := (rfl)
@[simp] theorem v_eq_i (x : P) (j M) : dEq (.p x) (.p (.int j)) M = some (.p (.bl (P.eqv x (.int j))), M) := by simp [dEq, dOk, P.depth]
@[simp] theorem v_ne_i (x : P) (j M) : dNe (.p x) (.p (.int j)) M = some (.p (.bl (!P.eqv x (.int j))), M) := by simp [dNe, dOk, P.depth]
@[simp] theorem v_eq_s (x : P) (j M) : dEq (.p x) (.p (.str j)) M = some (.p (.bl (P.eqv x (.str j))), M) := by simp [dEq, dOk, P.depth]
@[simp] theorem v_ne_s (x : P) (j M) : dNe (.p x) (.p (.str j)) M = some (.p (.bl (!P.eqv x (.str j))), M) := by simp [dNe, dOk, P.depth]
@[simp] theorem v_eqv_ii (i j) : P.eqv (.int i) (.int j) = decide (i = j) := by rw [P.eqv]; exact (Bool.eq_iff_iff.mpr (by simp))
@[simp] theorem v_eqv_ss (i j : Str) : P.eqv (.str i) (.str j) = decide (i = j) := by rw [P.eqv]; exact (Bool.eq_iff_iff.mpr (by simp))
@[simp] theorem v_eqv_bb (i j) : P.eqv (.bl i) (.bl j) = decide (i = j) := by rw [P.eqv]; exact (Bool.eq_iff_iff.mpr (by simp))
@[simp] theorem v_isN (x : D) (M) : dIsN x (.p .non) M = some (.p (.bl (isNon x)), M) := (rfl)
@[simp] theorem v_notN (x : D) (M) : dNotN x (.p .non) M = some (.p (.bl (!isNon x)), M) := (rfl)
@[simp] theorem v_isNon : isNon (.p .non) = true := (rfl)
@[simp] theorem v_isNon_i (i) : isNon (.p (.int i)) = false := (rfl)
@[simp] theorem v_isNon_t (i) : isNon (.p (.tup i)) = false := (rfl)
@[simp] theorem v_isNon_s (i) : isNon (.p (.str i)) = false := (rfl)
@[simp] theorem v_isNon_b (i) : isNon (.p (.bl i)) = false := (rfl)
@[simp] theorem v_int (i M) : cInt [.p (.int i)] M = some (.p (.int i), M) := (rfl)
@[simp] theorem v_int_b (b M) : cInt [.p (.bl b)] M = some (.p (.int (if b then 1 else 0)), M) := (rfl)
@[simp] theorem v_abs (i M) : cAbs [.p (.int i)] M = some (.p (.int (if i < 0 then -i else i)), M) := (rfl)
@[simp] theorem v_max (i j M) : cMax2 [.p (.int i), .p (.int j)] M = some (.p (.int (max i j)), M) := by
  have e : (if j > i then j else i) = max i j := by omega
  simp only [cMax2, e]
@[simp] theorem v_min (i j M) : cMin2 [.p (.int i), .p (.int j)] M = some (.p (.int (min i j)), M) := by
  have e : (if j < i then j else i) = min i j := by omega
  simp only [cMin2, e]
@[simp] theorem v_isa_i (T : String) (i M) : cIsa T (.p (.int i)) M = some (.p (.bl (isaT "int" T)), M) := (rfl)
@[simp] theorem v_isa_b (T : String) (i M) : cIsa T (.p (.bl i)) M = some (.p (.bl (isaT "bool" T)), M) := (rfl)
@[simp] theorem v_isa_s (T : String) (i M) : cIsa T (.p (.str i)) M = some (.p (.bl (isaT "str" T)), M) := (rfl)
@[simp] theorem v_isa_t (T : String) (i M) : cIsa T (.p (.tup i)) M = some (.p (.bl (isaT "tuple" T)), M) := (rfl)
@[simp] theorem v_isa_n (T : String) (M) : cIsa T (.p .non) M = some (.p (.bl (isaT "NoneType" T)), M) := (rfl)
@[simp] theorem v_len_t (xs M) : cLen [.p (.tup xs)] M = some (.p (.int (xs.length : Int)), M) := (rfl)
@[simp] theorem v_ix_t (xs : List P) (i M) : dIx (.p (.tup xs)) (.p (.int i)) M = (atI (xs.map D.p) i).map fun x => (x, M) := by
  simp only [dIx, rowD]
@[simp] theorem v_tupD (xs : List P) : tupD (.p (.tup xs)) = some (xs.map D.p) := (rfl)
@[simp] theorem v_walk_t (xs : List P) (M) : walkD (.p (.tup xs)) M = some (xs.map D.p, none) := (rfl)
theorem atI_map {α β : Type} (f : α → β) (xs : List α) (i : Int) : atI (xs.map f) i = (atI xs i).map f := by
  unfold atI
  rw [List.length_map]
  cases ixN xs.length i with
  | none => rfl
  | some j => simp
/-! ### loops -/
theorem forL_fold {σ : Type} {k : Option (Nat × O)} {g : RG} {body : RS} (st : σ → Env × Store) (f : σ → D → σ) (I : σ → Prop) : ∀ (xs : List D) (s : σ), I s → (∀ s, I s → chk k (st s).2) →
    (∀ s x, x ∈ xs → I s → I (f s x) ∧ ∃ ρ1 M1, g x (st s).1 (st s).2 = some (ρ1, M1) ∧ (body ρ1 M1 = .nx (st (f s x)).1 (st (f s x)).2 ∨ body ρ1 M1 = .ct (st (f s x)).1 (st (f s x)).2)) →
    forL k g body xs (st s).1 (st s).2 = .nx (st (xs.foldl f s)).1 (st (xs.foldl f s)).2 ∧ I (xs.foldl f s)
  | [], s, hs, hc, h => by
    refine ⟨?_, hs⟩
    unfold forL
    rw [if_pos (hc s hs)]
    rfl
  | x :: xs, s, hs, hc, h => by
    obtain ⟨h1, ρ1, M1, h2, h3⟩ := h s x List.mem_cons_self hs
    have ih := forL_fold st f I xs (f s x) h1 hc fun s y hy => h s y (List.mem_cons_of_mem _ hy)
    refine ⟨?_, ih.2⟩
    unfold forL
    rw [if_pos (hc s hs), h2]
    rcases h3 with h3 | h3
    · simp only [h3]; exact ih.1
    · simp only [h3]; exact ih.1
theorem forL_inv {k : Option (Nat × O)} {g : RG} {body : RS} (xs : List D) (I : Nat → Env → Store → Prop) (hc : ∀ i ρ M, I i ρ M → chk k M)
    (h : ∀ i x ρ M, xs[i]? = some x → I i ρ M → ∃ ρ1 M1 ρ2 M2, g x ρ M = some (ρ1, M1) ∧ (body ρ1 M1 = .nx ρ2 M2 ∨ body ρ1 M1 = .ct ρ2 M2) ∧ I (i + 1) ρ2 M2) :
    ∀ {ρ M}, I 0 ρ M → ∃ ρ' M', forL k g body xs ρ M = .nx ρ' M' ∧ I xs.length ρ' M' := by
  have go : ∀ (n i : Nat) (ρ M), n = xs.length - i → i ≤ xs.length → I i ρ M → ∃ ρ' M', forL k g body (xs.drop i) ρ M = .nx ρ' M' ∧ I xs.length ρ' M' := by
    intro n
    induction n with
    | zero =>
      intro i ρ M hn hi hI
      have e : i = xs.length := by omega
      subst e
      refine ⟨ρ, M, ?_, hI⟩
      rw [List.drop_length]
      unfold forL
      rw [if_pos (hc _ _ _ hI)]
    | succ n ih =>
      intro i ρ M hn hi hI
      have hlt : i < xs.length := by omega
      obtain ⟨ρ1, M1, ρ2, M2, h1, h2, h3⟩ := h i xs[i] ρ M (List.getElem?_eq_getElem hlt) hI
      obtain ⟨ρ', M', h4, h5⟩ := ih (i + 1) ρ2 M2 (by omega) (by omega) h3
      refine ⟨ρ', M', ?_, h5⟩
      rw [List.drop_eq_getElem_cons hlt]
      unfold forL
      rw [if_pos (hc _ _ _ hI), h1]
      rcases h2 with h2 | h2
      · simp only [h2]; exact h4
      · simp only [h2]; exact h4
  intro ρ M hI
  exact go _ 0 ρ M rfl (Nat.zero_le _) hI
/-- some turn may return -/
theorem forL_find {k : Option (Nat × O)} {g : RG} {body : RS} (xs : List D) (I : Nat → Env → Store → Prop) (Q : Out → Prop) (hc : ∀ i ρ M, I i ρ M → chk k M)
    (h : ∀ i x ρ M, xs[i]? = some x → I i ρ M → ∃ ρ1 M1, g x ρ M = some (ρ1, M1) ∧ ((∃ ρ2 M2, (body ρ1 M1 = .nx ρ2 M2 ∨ body ρ1 M1 = .ct ρ2 M2) ∧ I (i + 1) ρ2 M2) ∨ (∃ ρ2 M2, body ρ1 M1 = .bk ρ2 M2 ∧ Q (.nx ρ2 M2)) ∨ (∃ d M2, body ρ1 M1 = .rt d M2 ∧ Q (.rt d M2)) ∨ ∃ c fs ρ2 M2, body ρ1 M1 = .ex c fs ρ2 M2 ∧ Q (.ex c fs ρ2 M2)))
    (hd : ∀ ρ M, I xs.length ρ M → Q (.nx ρ M)) : ∀ {ρ M}, I 0 ρ M → Q (forL k g body xs ρ M) := by
  have go : ∀ (n i : Nat) (ρ M), n = xs.length - i → i ≤ xs.length → I i ρ M → Q (forL k g body (xs.drop i) ρ M) := by
    intro n
    induction n with
    | zero =>
      intro i ρ M hn hi hI
      have e : i = xs.length := by omega
      subst e
      rw [List.drop_length]
      unfold forL
      rw [if_pos (hc _ _ _ hI)]
      exact hd _ _ hI
    | succ n ih =>
      intro i ρ M hn hi hI
      have hlt : i < xs.length := by omega
      obtain ⟨ρ1, M1, h1, h2⟩ := h i xs[i] ρ M (List.getElem?_eq_getElem hlt) hI
      rw [List.drop_eq_getElem_cons hlt]
      unfold forL
      rw [if_pos (hc _ _ _ hI), h1]
      rcases h2 with ⟨ρ2, M2, h2, h3⟩ | ⟨ρ2, M2, h2, h3⟩ | ⟨d, M2, h2, h3⟩ | ⟨c, fs, ρ2, M2, h2, h3⟩
      · have ih' := ih (i + 1) ρ2 M2 (by omega) (by omega) h3
        rcases h2 with h2 | h2
        · simp only [h2]; exact ih'
        · simp only [h2]; exact ih'
      · simp only [h2]; exact h3
      · simp only [h2]; exact h3
      · simp only [h2]; exact h3
  intro ρ M hI
  exact go _ 0 ρ M rfl (Nat.zero_le _) hI
/-- a def that is told by its own reading -/
def tellOk (M : Store) (r : R D) : R D := match r with
  | .ok d M' => if M.length ≤ M'.length then .ok d M' else .no
  | .ex c fs M' => if M.length ≤ M'.length then .ex c fs M' else .no
  | _ => .no
def selfF (N : Nat) (m : RS) : List D → Store → R D := fun ds M => tellOk M (bodyR (m (startD N ds) M))
theorem ref_self (n N : Nat) (m : RS) : Ref n N (selfF N m) m := by
  intro ds M _
  unfold selfF tellOk
  split
  · rename_i d M' e
    split
    · rename_i h
      exact ⟨h, by rw [e]; exact tells_same d M'⟩
    · exact ⟨trivial, trivial⟩
  · rename_i c fs M' e
    split
    · rename_i h
      exact ⟨h, by rw [e]; exact tells_same_ex c fs M'⟩
    · exact ⟨trivial, trivial⟩
  · exact ⟨trivial, trivial⟩
theorem selfF_ok {N : Nat} {m : RS} {ds : List D} {M M' : Store} {d : D} (h : bodyR (m (startD N ds) M) = .ok d M') (hl : M.length ≤ M'.length) : selfF N m ds M = .ok d M' := by
  unfold selfF tellOk
  rw [h]
  exact if_pos hl
theorem selfF_ex {N : Nat} {m : RS} {ds : List D} {M M' : Store} {c : Str} {fs : Option (List (Str × D))} (h : bodyR (m (startD N ds) M) = .ex c fs M') (hl : M.length ≤ M'.length) : selfF N m ds M = .ex c fs M' := by
  unfold selfF tellOk
  rw [h]
  exact if_pos hl
/-- an answer that does not shrink the store -/
def Gr (M : Store) (r : R D) : Prop := match r with
  | .ok _ M' => M.length ≤ M'.length
  | .ex _ _ M' => M.length ≤ M'.length
  | _ => False
theorem selfF_eq {N : Nat} {m : RS} {ds : List D} {M : Store} {r : R D} (h : bodyR (m (startD N ds) M) = r) (hl : Gr M r) : selfF N m ds M = r := by
  unfold selfF tellOk
  rw [h]
  match r, hl with
  | .ok _ M', hl => exact if_pos hl
  | .ex _ _ M', hl => exact if_pos hl
theorem mul_small {i j : Int} (h1 : -(2 ^ 64) < j) (h2 : j < 2 ^ 64) : mulOk i j := .inl (.inr ⟨h1, h2⟩)
theorem mul_small' {i j : Int} (h1 : -(2 ^ 64) < i) (h2 : i < 2 ^ 64) : mulOk i j := .inl (.inl ⟨h1, h2⟩)
theorem div_small {j : Int} (h1 : 0 < j) (h2 : j < 2 ^ 1000) : divOk j := wide_div (i := 0) h1 (b := 1000) (by have h3 : (j.natAbs : Int) = j := Int.natAbs_of_nonneg (Int.le_of_lt h1); exact Int.ofNat_lt.mp (by rw [h3]; exact_mod_cast h2)) (by decide) (by decide)
theorem rng1_ok (j : Int) (h0 : 0 ≤ j) (h : j ≤ 1000000000) : rng1 [.p (.int j)] = some (0, j.toNat) := by
  have h1 : -(2 ^ 62) ≤ j ∧ j < 2 ^ 62 := by
    constructor
    · have : (-(2 ^ 62) : Int) ≤ 0 := by decide
      omega
    · have : (1000000000 : Int) < 2 ^ 62 := by decide
      omega
  unfold rng1
  exact if_pos h1
theorem rng2_ok (i j : Int) (h0 : -1000000000 ≤ i) (h1 : i ≤ 1000000000) (h2 : -1000000000 ≤ j) (h3 : j ≤ 1000000000) : rng2 [.p (.int i), .p (.int j)] = some (i, (j - i).toNat) := by
  have a : (-(2 ^ 62) : Int) ≤ -1000000000 := by decide
  have b : (1000000000 : Int) < 2 ^ 62 := by decide
  have h : -(2 ^ 62) ≤ i ∧ i < 2 ^ 62 ∧ -(2 ^ 62) ≤ j ∧ j < 2 ^ 62 := ⟨by omega, by omega, by omega, by omega⟩
  unfold rng2
  exact if_pos h
theorem rng1_len (n : Nat) (h : n ≤ 1000000) : rng1 [.p (.int (n : Int))] = some (0, n) := by
  have e := rng1_ok (n : Int) (by omega) (by omega)
  simpa using e
section
variable {P : Program} {w : World} {K : PySem.W.Frag} {mg : Str → Option Value} {base : Heap}
/-- `fn_D`, with the way out told -/
theorem fn_E {x qual : Str} {params : Arguments} {body : List Stmt} {scope : Scope} {dvs : List V} {kws : List (Str × V)} {f : Addr} {fd : FuncData} {N ps : List Str} {k : Nat} {m : RS} {F : List D → Store → R D}
    (Fu : FunD K x qual params body scope dvs kws f fd) (S : FnScope N ps scope)
    (hb : ∀ (cdv : Value) (A : Around) (outer : List PySem.Env) (s : Shared) (H : Hp) (E : XK), Room k (A.deeper (PyProof.Rows.envOfC qual scope s.heap.objs.size f cdv)) →
      PassesOwn (model P w) (cxOf (L2N.CX P w) P w K mg base N qual scope f cdv A outer s H E).A (cxOf (L2N.CX P w) P w K mg base N qual scope f cdv A outer s H E).env (cxOf (L2N.CX P w) P w K mg base N qual scope f cdv A outer s H E).xe →
      ∀ W : WX, L2N.Takes (cxOf (L2N.CX P w) P w K mg base N qual scope f cdv A outer s H E) W → PSs (cxOf (L2N.CX P w) P w K mg base N qual scope f cdv A outer s H E) body (tS ⟨K, mg⟩ W m))
    (hF : ∀ ds M, ds.length = ps.length → Grows M (F ds M) ∧ Tells (F ds M) (bodyR (m (startD N.length ds) M))) :
    FnOk P w K mg base (L2N.CX P w) (k + 1) f fd ps (spD ⟨K, mg⟩ F ps.length) :=
  fn_D Fu S (fun cdv A outer s H E hr W tk => hb cdv A outer s H E hr (passes_of rfl) W tk) hF
end
end Fl

set_option Elab.async false
set_option linter.all false
set_option maxRecDepth 100000
/-! Fl, part T: builtins under a name of the top; comb and gcd. -/
namespace Fl
open PySem PySem.Spec L2
set_option autoImplicit false
section
variable {X : Cx} {W : WX} {e : Expr} {es : List Expr} {fs : RA} {p pos : Pos}
theorem pe_callM {x : Str} {t : TA} {id : String} {r : List V → Hp → VK → Prop} (hc : CallR X (.builtin id) r) (hg : Gl X x) (hm : X.mg x = some (.builtin id)) (ha : PA X (e :: es) t)
    (hdb : (x == ("__debug__" : Str)) = false := by decide) (he : starEach (e :: es) X.env = (false, eval e X.env) :: starEach es X.env := by rfl) (hpl : (backTo pos (starEach es X.env)).any (·.1) = false := by rfl) :
    PE X (.Call (.Name x p) (e :: es) [] pos) (tCB r t) :=
  ⟨fun pins s σ H Q I h => wpAny_Call_Name_kw (ld_glob I hg hm (PyProof.Rows.callWith_builtin1 (thn (ha.run pos pins s σ H (fun vs H1 => r vs H1 Q) I h) fun us s1 x => match x with
    | ⟨vs, H1, I1, r1, q1⟩ => hc pins s1 σ H1 vs us Q I1 r1 q1) he hpl) hdb)⟩
theorem i_callM {x : Str} {id : String} {op r} (hc : CallR X (.builtin id) r) (hd : CallD (gm X) op r) (hg : Gl X x) (hm : X.mg x = some (.builtin id)) (ha : PA X (e :: es) (tA (gm X) W fs))
    (hdb : (x == ("__debug__" : Str)) = false := by decide) (he : starEach (e :: es) X.env = (false, eval e X.env) :: starEach es X.env := by rfl) (hpl : (backTo pos (starEach es X.env)).any (·.1) = false := by rfl) :
    PE X (.Call (.Name x p) (e :: es) [] pos) (tE (gm X) W (rCB op fs)) :=
  PEimp (pe_callM hc hg hm ha hdb he hpl) fun _ _ _ h => cb_in hd h
theorem vals2 {a b : Int} {us : List Value} (h : Vals [.int a, .int b] us) : ∃ t u, us = [.int a t, .int b u] := by
  cases h with
  | cons h1 h2 =>
    cases h2 with
    | cons h2 h3 =>
      cases h3
      obtain ⟨t, rfl⟩ := h1
      obtain ⟨u, rfl⟩ := h2
      exact ⟨t, u, rfl⟩
def combOk (a b : Int) : Prop := 0 ≤ a ∧ 0 ≤ b ∧ a < 2 ^ 64 ∧ (b ≤ 9000 ∨ a ≤ 18000)
theorem call_comb : CallR X (.builtin "math.comb") (fun xs H Q => ∃ a b, xs = [.int a, .int b] ∧ combOk a b ∧ Q (.int (PySem.W.mcComb a b)) H) := by
  intro pins s σ H xs us Q I vs h
  obtain ⟨a, b, rfl, ⟨h1, h2, h3, h4⟩, hq⟩ := h
  obtain ⟨t, u, rfl⟩ := vals2 vs
  exact PySem.W.mc_comb h1 h2 h3 h4 fun _ => ⟨.int _, H, I.tok _, ⟨_, rfl⟩, hq⟩
theorem call_gcd : CallR X (.builtin "math.gcd") (fun xs H Q => ∃ a b, xs = [.int a, .int b] ∧ Q (.int (Nat.gcd a.natAbs b.natAbs : Nat)) H) := by
  intro pins s σ H xs us Q I vs h
  obtain ⟨a, b, rfl, hq⟩ := h
  obtain ⟨t, u, rfl⟩ := vals2 vs
  exact PySem.W.mg_gcd fun _ => ⟨.int _, H, I.tok _, ⟨_, rfl⟩, hq⟩
end
open Classical in
noncomputable def cComb : List D → Store → Option (D × Store)
  | [.p (.int a), .p (.int b)], M => if combOk a b then some (.p (.int (PySem.W.mcComb a b)), M) else none
  | _, _ => none
def cGcd : List D → Store → Option (D × Store)
  | [.p (.int a), .p (.int b)], M => some (.p (.int (Nat.gcd a.natAbs b.natAbs : Nat)), M)
  | _, _ => none
section
variable {G : Gm}
theorem d_comb : CallD G cComb (fun xs H Q => ∃ a b, xs = [.int a, .int b] ∧ combOk a b ∧ Q (.int (PySem.W.mcComb a b)) H) := by
  intro μ H M xs vs Q d M' S r q k
  unfold cComb at q
  split at q
  · split at q
    · rename_i h
      cases q
      obtain ⟨v, u, rfl, r1, r2⟩ := r.inv2
      rw [Rep.int] at r1 r2
      subst r1 r2
      exact ⟨_, _, rfl, h, k μ _ H (.refl _) (List.prefix_refl _) S (Rep.int.mpr rfl)⟩
    · cases q
  · cases q
theorem d_gcd : CallD G cGcd (fun xs H Q => ∃ a b, xs = [.int a, .int b] ∧ Q (.int (Nat.gcd a.natAbs b.natAbs : Nat)) H) := by
  intro μ H M xs vs Q d M' S r q k
  unfold cGcd at q
  split at q
  · cases q
    obtain ⟨v, u, rfl, r1, r2⟩ := r.inv2
    rw [Rep.int] at r1 r2
    subst r1 r2
    exact ⟨_, _, rfl, k μ _ H (.refl _) (List.prefix_refl _) S (Rep.int.mpr rfl)⟩
  · cases q
end
theorem v_comb (a b : Int) (M : Store) (h : combOk a b) : cComb [.p (.int a), .p (.int b)] M = some (.p (.int (PySem.W.mcComb a b)), M) := by simp [cComb, h]
@[simp] theorem v_gcd (a b : Int) (M : Store) : cGcd [.p (.int a), .p (.int b)] M = some (.p (.int (Nat.gcd a.natAbs b.natAbs : Nat)), M) := (rfl)
/-! ### o[i] = v, o a list -/
def kOk (r : R D) (f : D → Store → Option (Env × Store)) : Option (Env × Store) := match r with
  | .ok d M => f d M
  | _ => none
@[simp] theorem kOk_ok (d M) (f : D → Store → Option (Env × Store)) : kOk (.ok d M) f = f d M := (rfl)
def gSu (fo fi : RE) (op : D → D → D → Store → Option Store) : RG := fun v ρ M => kOk (fo ρ M) fun o M1 => kOk (fi ρ M1) fun i M2 => (op o i v M2).map fun M3 => (ρ, M3)
def setD : D → D → D → Store → Option Store
  | .ref l, .p (.int k), v, M => (match M[l]? with
    | some (.lst xs) => (ixN xs.length k).map fun j => M.set l (.lst (xs.set j v))
    | _ => none)
  | _, _, _, _ => none
section
variable {X : Cx} {W : WX} {o i : Expr} {fo fi : RE} {pos : Pos}
theorem g_sub (ho : PE X o (tE (gm X) W fo)) (hi : PE X i (tE (gm X) W fi)) (hs : ∀ (v : Value), assign (o.Subscript i pos) X.env v = (do
      let ov ← holding [v] (eval o X.env)
      let iv ← holding [v, ov] (eval i X.env)
      standAt pos
      holding [v, ov, iv] (setItem ov iv v)
      release [v, ov, iv] []) := by exact fun _ => rfl) : PG X (.Subscript o i pos) (tG (gm X) (gSu fo fi setD)) :=
  PGimp (pg_sub ho hi set_list hs) fun v σ H Q h => by
    obtain ⟨μ, ρ, M, d, hE, hS, r, hF⟩ := h
    have hF : FinG (gm X) μ H Q (kOk (fo ρ M) fun o M1 => kOk (fi ρ M1) fun i M2 => (setD o i d M2).map fun M3 => (ρ, M3)) := hF
    refine ⟨μ, ρ, M, hE, hS, ?_⟩
    cases q : fo ρ M with
    | no => rw [q] at hF; exact hF.elim
    | ex c fs M1 => rw [q] at hF; exact hF.elim
    | ok x M1 =>
      rw [q, kOk_ok] at hF
      intro μ1 vo H1 e1 p1 s1 r1
      refine ⟨μ1, ρ, M1, hE.ext e1 p1, s1, ?_⟩
      cases q2 : fi ρ M1 with
      | no => rw [q2] at hF; exact hF.elim
      | ex c fs M2 => rw [q2] at hF; exact hF.elim
      | ok y M2 =>
        rw [q2, kOk_ok] at hF
        intro μ2 vi H2 e2 p2 s2 r2
        unfold setD at hF
        split at hF
        · rename_i l k
          split at hF
          · rename_i xs e
            cases q3 : ixN xs.length k with
            | none => rw [q3] at hF; exact hF.elim
            | some j =>
              rw [q3] at hF
              obtain ⟨a, h1, rfl⟩ := Rep.ref.mp (r1.ext e2 p2)
              rw [Rep.int] at r2
              subst r2
              obtain ⟨ws, h2, h3⟩ := s2.lst h1 e
              have rv := (r.ext e1 p1).ext e2 p2
              refine ⟨a, ws, k, j, rfl, rfl, h2, by rw [← h3.length]; exact q3, ?_⟩
              have ex := Ext.lst (o := .lst (ws.set j v)) h2
              exact hF μ2 σ _ ((e1.trans e2).trans ex) (p1.trans p2) ((hE.ext e1 p1).ext (e2.trans ex) p2) (s2.put h1 e rfl rfl (fun ob w z => by rw [h2] at z; cases z) ex ⟨_, upd_same, (h3.set j rv).ext ex (List.prefix_refl _)⟩)
          · exact hF.elim
        · exact hF.elim
end
@[simp] theorem e_gSu (fo fi : RE) (op) (v ρ M) : gSu fo fi op v ρ M = kOk (fo ρ M) fun o M1 => kOk (fi ρ M1) fun i M2 => (op o i v M2).map fun M3 => (ρ, M3) := (rfl)
/-- a while with a measure -/
theorem rWh_find {c : RT} {b : RS} (I : Nat → Env → Store → Prop) (Q : Out → Prop)
    (h : ∀ n ρ M, I n ρ M → (∃ M1, c ρ M = .ok false M1 ∧ Q (.nx ρ M1)) ∨ (∃ M1, c ρ M = .ok true M1 ∧ ((∃ ρ2 M2 m, (b ρ M1 = .nx ρ2 M2 ∨ b ρ M1 = .ct ρ2 M2) ∧ m < n ∧ I m ρ2 M2) ∨ (∃ ρ2 M2, b ρ M1 = .bk ρ2 M2 ∧ Q (.nx ρ2 M2)) ∨ ∃ d M2, b ρ M1 = .rt d M2 ∧ Q (.rt d M2)))) :
    ∀ n ρ M, I n ρ M → Q (rWh c b ρ M) := by
  have go : ∀ n ρ M, I n ρ M → ∃ k o, whileN c b k ρ M = some o ∧ Q o := by
    intro n
    induction n using Nat.strongRecOn with
    | ind n ih =>
      intro ρ M hI
      rcases h n ρ M hI with ⟨M1, h1, h2⟩ | ⟨M1, h1, ⟨ρ2, M2, m, h2, h3, h4⟩ | ⟨ρ2, M2, h2, h3⟩ | ⟨d, M2, h2, h3⟩⟩
      · exact ⟨1, _, by unfold whileN; rw [h1], h2⟩
      · obtain ⟨k, o, h5, h6⟩ := ih m h3 ρ2 M2 h4
        refine ⟨k + 1, o, ?_, h6⟩
        unfold whileN
        rcases h2 with h2 | h2
        · simp only [h1, h2]; exact h5
        · simp only [h1, h2]; exact h5
      · exact ⟨1, _, by unfold whileN; simp only [h1, h2], h3⟩
      · exact ⟨1, _, by unfold whileN; simp only [h1, h2], h3⟩
  intro n ρ M hI
  obtain ⟨k, o, h1, h2⟩ := go n ρ M hI
  rw [rWh_of h1]
  exact h2
/-- small enough to be multiplied -/
def Sm (i : Int) : Prop := ∃ k : Nat, k ≤ 20000 ∧ i.natAbs < 2 ^ k
theorem Sm.log {i : Int} (h : Sm i) : i.natAbs.log2 ≤ 20000 := by
  obtain ⟨k, hk, h⟩ := h
  by_cases e : i.natAbs = 0
  · rw [e]; simp
  · have := (Nat.log2_lt e).mpr h
    omega
theorem Sm.mulOk {i j : Int} (h1 : Sm i) (h2 : Sm j) : mulOk i j := .inr (by have := h1.log; have := h2.log; omega)
theorem Sm.divOk {j : Int} (k : Nat) (h : 0 < j) (hk : k ≤ 9000) (h2 : j.natAbs < 2 ^ k) : divOk j := ⟨h, (Nat.log2_lt (by omega)).mpr (Nat.lt_of_lt_of_le h2 (Nat.pow_le_pow_right (by decide) hk))⟩
theorem Sm.le {i j : Int} (h : Sm j) (k : i.natAbs ≤ j.natAbs) : Sm i := by
  obtain ⟨n, hn, h⟩ := h
  exact ⟨n, hn, by omega⟩
end Fl

set_option Elab.async false
set_option linter.all false
set_option maxRecDepth 100000
/-! Fl, part U: walks in general; list comprehensions. -/
namespace Fl
open PySem PySem.Spec L2
set_option autoImplicit false
/-- J walks xs; k: what must stand -/
def Wk (G : Gm) (J : It) (k : Option (Nat × O)) (xs : List D) (μ : List Addr) (H : Hp) : Prop :=
  ∃ B : List Addr → Hp → Prop, (∀ μ μ' H H', Ext H H' → μ <+: μ' → B μ H → B μ' H') ∧
    (∀ i μ H M, i < xs.length → SR G μ H M → B μ H → chk k M → J.go i H) ∧ (∀ μ H M, SR G μ H M → B μ H → chk k M → J.stop xs.length H) ∧
    (∀ i μ H M v H', i < xs.length → SR G μ H M → B μ H → chk k M → J.yld i H v H' → ∃ d, xs[i]? = some d ∧ Ext H H' ∧ SR G μ H' M ∧ Rep G μ H' d v) ∧ B μ H
abbrev RW := RX (List D × Option (Nat × O))
abbrev tW (G : Gm) (W : WX) (f : RW) : TI := fun σ H R => tX G (fun μ H (a : List D × Option (Nat × O)) J => Wk G J a.2 a.1 μ H) W f σ H R
theorem wk_tup {G : Gm} {a : Addr} {xs : List D} {vs : List V} {μ : List Addr} {H : Hp} (h1 : SqT G.K H a vs) (h2 : Reps G μ H xs vs) : Wk G (Itt G.K a) none xs μ H := by
  refine ⟨fun μ H => SqT G.K H a vs ∧ Reps G μ H xs vs, fun _ _ _ _ e p z => ⟨e.sqt z.1, z.2.ext e p⟩, ?_, ?_, ?_, h1, h2⟩
  · rintro i μ H M hi _ ⟨z1, z2⟩ _
    obtain ⟨w, hw, _⟩ := z2.get (List.getElem?_eq_getElem hi)
    exact ⟨vs, w, z1, hw⟩
  · rintro μ H M _ ⟨z1, z2⟩ _
    exact ⟨vs, z1, by rw [z2.len_eq]; exact Nat.le_refl _⟩
  · rintro i μ H M w H' hi S ⟨z1, z2⟩ _ ⟨rfl, y⟩
    obtain ⟨w', hw, r⟩ := z2.get (List.getElem?_eq_getElem hi)
    have := (y vs z1).symm.trans hw
    cases this
    exact ⟨_, List.getElem?_eq_getElem hi, .refl _, S, r⟩
theorem wk_lst {G : Gm} {a : Addr} {l : Nat} {o : O} {xs : List D} {μ : List Addr} {H : Hp} (ha : μ[l]? = some a) (hk : o = .lst xs ∨ o = .ro xs) : Wk G (Itl G.K a) (some (l, o)) xs μ H := by
  refine ⟨fun μ H => μ[l]? = some a, fun _ _ _ _ e p z => pre_get p z, ?_, ?_, ?_, ha⟩
  · rintro i μ H M hi S z c
    obtain ⟨vs, z1, z2⟩ := SR.list_at S z c hk
    obtain ⟨w, hw, _⟩ := z2.get (List.getElem?_eq_getElem hi)
    exact ⟨vs, w, z1, hw⟩
  · rintro μ H M S z c
    obtain ⟨vs, z1, z2⟩ := SR.list_at S z c hk
    exact ⟨vs, z1, by rw [z2.len_eq]; exact Nat.le_refl _⟩
  · rintro i μ H M w H' hi S z c ⟨rfl, y⟩
    obtain ⟨vs, z1, z2⟩ := SR.list_at S z c hk
    obtain ⟨w', hw, r⟩ := z2.get (List.getElem?_eq_getElem hi)
    have := (y vs z1).symm.trans hw
    cases this
    exact ⟨_, List.getElem?_eq_getElem hi, .refl _, S, r⟩
theorem wk_rng {G : Gm} {lo : Int} {n : Nat} {μ : List Addr} {H : Hp} : Wk G (Itr lo n) none (intsD lo n) μ H := by
  refine ⟨fun _ _ => True, fun _ _ _ _ _ _ z => z, ?_, ?_, ?_, trivial⟩
  · rintro i μ H M hi _ _ _
    rw [intsD_len] at hi
    exact hi
  · rintro μ H M _ _ _
    rw [intsD_len]
    exact Nat.le_refl _
  · rintro i μ H M w H' hi S _ _ ⟨rfl, rfl⟩
    rw [intsD_len] at hi
    exact ⟨_, intsD_get lo n i hi, .refl _, S, Rep.int.mpr rfl⟩
def ofW : Option (List D × Option (Nat × O)) → Store → R (List D × Option (Nat × O))
  | some q, M => .ok q M
  | none, _ => .no
/-- the walk of a list or a tuple -/
def wRow (f : RE) : RW := fun ρ M => (f ρ M).bind fun d M1 => ofW (walkD d M1) M1
/-- the walk of a range -/
def wRng (rg : List D → Option (Int × Nat)) (f : RA) : RW := fun ρ M => (f ρ M).bind fun ds M1 => ofW ((rg ds).map fun q => (intsD q.1 q.2, none)) M1
section
variable {X : Cx} {W : WX} {e tg : Expr} {fe : RE} {fs : RA} {pos : Pos}
theorem wi_row (he : PE X e (tE (gm X) W fe)) : PI X tg e (tW (gm X) W (wRow fe)) :=
  PIimp (pi_row he) fun σ H R h => by
    refine (tX.bind (f := fe) (g := fun d ρ M1 => ofW (walkD d M1) M1) (rel := Rep (gm X)) h).mono fun v H1 ⟨μ, ρ, M, d, hE, hS, rd, hF⟩ => ?_
    have hF : Fin (gm X) _ W μ σ H1 R (ofW (walkD d M) M) := hF
    cases q : walkD d M with
    | none => rw [q] at hF; exact hF.elim
    | some p =>
      obtain ⟨xs, k⟩ := p
      rw [q] at hF
      unfold walkD at q
      split at q
      · cases q
        obtain ⟨a, vs, e1, h1, h2⟩ := Rep.ptup.mp rd
        exact ⟨a, e1, .inr ⟨⟨vs, h1⟩, hF μ _ H1 (.refl _) (List.prefix_refl _) hS (wk_tup h1 (Reps.of_P h2))⟩⟩
      · cases q
        obtain ⟨a, vs, e1, h1, h2⟩ := Rep.tup.mp rd
        exact ⟨a, e1, .inr ⟨⟨vs, h1⟩, hF μ _ H1 (.refl _) (List.prefix_refl _) hS (wk_tup h1 h2)⟩⟩
      · obtain ⟨a, ha, e1⟩ := Rep.ref.mp rd
        split at q
        · rename_i ys e2
          cases q
          obtain ⟨vs, z1, z2⟩ := SR.list_at hS ha e2 (.inl rfl)
          exact ⟨a, e1, .inl ⟨⟨vs, z1⟩, hF μ _ H1 (.refl _) (List.prefix_refl _) hS (wk_lst ha (.inl rfl))⟩⟩
        · rename_i ys e2
          cases q
          obtain ⟨vs, z1, z2⟩ := SR.list_at hS ha e2 (.inr rfl)
          exact ⟨a, e1, .inl ⟨⟨vs, z1⟩, hF μ _ H1 (.refl _) (List.prefix_refl _) hS (wk_lst ha (.inr rfl))⟩⟩
        · cases q
      · cases q
end
/-! ### list comprehensions -/
theorem wipe_get (σ : St) (k : Nat) : ∀ vs : List Nat, (L2.wipe σ vs)[k]? = if k ∈ vs ∧ k < σ.length then some none else σ[k]?
  | [] => by simp [L2.wipe]
  | i :: is => by
    have ih := wipe_get σ k is
    have il : (L2.wipe σ is).length = σ.length := L2.wipe_length ..
    unfold L2.wipe
    by_cases e : i = k
    · subst e
      by_cases hk : i < σ.length
      · rw [List.getElem?_set_self (by rw [il]; exact hk), if_pos ⟨List.mem_cons_self, hk⟩]
      · rw [if_neg (fun h => hk h.2), List.getElem?_eq_none (by rw [List.length_set, il]; omega), List.getElem?_eq_none (by omega)]
    · rw [List.getElem?_set_ne e, ih]
      have e' : ¬ k = i := fun z => e z.symm
      simp only [List.mem_cons, e', false_or]
theorem wipe_set (σ : St) (i : Nat) (x : Option V) (vs : List Nat) (h : i ∈ vs) : L2.wipe (σ.set i x) vs = L2.wipe σ vs := by
  apply List.ext_getElem?
  intro k
  rw [wipe_get, wipe_get, List.length_set]
  by_cases e : k ∈ vs ∧ k < σ.length
  · rw [if_pos e, if_pos e]
  · rw [if_neg e, if_neg e]
    by_cases e2 : i = k
    · subst e2
      have : ¬ i < σ.length := fun z => e ⟨h, z⟩
      rw [List.getElem?_eq_none (by rw [List.length_set]; omega), List.getElem?_eq_none (by omega)]
    · rw [List.getElem?_set_ne e2]
def wipeE (ρ : Env) : List Nat → Env
  | [] => ρ
  | i :: is => (wipeE ρ is).set i none
theorem ER.unset {G : Gm} {μ : List Addr} {H : Hp} {ρ : Env} {σ : St} (h : ER G μ H ρ σ) (i : Nat) : ER G μ H (ρ.set i none) (σ.set i none) := by
  refine ⟨by simp [h.len], fun j d hj => ?_⟩
  by_cases e : i = j
  · subst e
    by_cases hl : i < ρ.length
    · rw [List.getElem?_set_self hl] at hj
      cases hj
    · rw [List.getElem?_eq_none (by rw [List.length_set]; omega)] at hj
      cases hj
  · rw [List.getElem?_set_ne e] at hj ⊢
    exact h.at_ j d hj
theorem ER.wipe {G : Gm} {μ : List Addr} {H : Hp} {ρ : Env} {σ : St} (h : ER G μ H ρ σ) : ∀ vs : List Nat, ER G μ H (wipeE ρ vs) (L2.wipe σ vs)
  | [] => h
  | i :: is => by
    unfold wipeE L2.wipe
    exact (ER.wipe h is).unset i
open Classical in
noncomputable def lcL (l : Nat) (k : Option (Nat × O)) (g : RG) (tt : RT) (te : RE) (ρ : Env) : List D → Store → R D
  | [], M => if chk k M then .ok (.ref l) M else .no
  | x :: xs, M => if chk k M then (match g x ρ M with
    | some (ρ1, M1) => (match tt ρ1 M1 with
      | .ok true M2 => (match te ρ1 M2 with
        | .ok y M3 => (match M3[l]? with
          | some (.lst acc) => if acc.length < sizeLine then lcL l k g tt te ρ xs (M3.set l (.lst (acc ++ [y]))) else .no
          | _ => .no)
        | _ => .no)
      | .ok false M2 => lcL l k g tt te ρ xs M2
      | _ => .no)
    | none => .no) else .no
noncomputable def rLC (fw : RW) (g : RG) (tt : RT) (te : RE) (vs : List Nat) : RE := fun ρ M => (fw ρ M).bind fun q M1 => lcL M1.length q.2 g tt te (wipeE ρ vs) q.1 (M1 ++ [.lst []])
/-- the targets of a comprehension: names of its own -/
def Own (G : Gm) (vs : List Nat) (g : RG) (graw : TG) : Prop := ∀ (d : D) (v : V) (μ : List Addr) (H : Hp) (M : Store) (σ : St) (ρ ρ1 : Env) (M1 : Store) (Q : St → Hp → Prop), ER G μ H ρ σ → Rep G μ H d v → g d ρ M = some (ρ1, M1) →
  (∀ σ1, M1 = M → ER G μ H ρ1 σ1 → L2.wipe σ1 vs = L2.wipe σ vs → Q σ1 H) → graw v σ H Q
theorem own_nm {G : Gm} {vs : List Nat} {i : Nat} (h : i ∈ vs) : Own G vs (gNm i) (gName i) := by
  intro d v μ H M σ ρ ρ1 M1 Q hE r e k
  cases e
  exact k _ rfl (hE.set i r) (wipe_set σ i _ vs h)
def W0 : WX := fun _ _ _ _ => False
def rYes : RT := fun _ M => .ok true M
section
variable {X : Cx} {W : WX} {e tg iter elt : Expr} {ifs : List Expr} {scope : Scope} {own : List (Str × Nat)} {fw : RW} {g : RG} {graw : TG} {tt : RT} {te : RE} {pos : Pos}
theorem pts_yes : PTs X [] (tT (gm X) W rYes) :=
  ⟨fun pins s σ H Q I h => pts_nil.run pins s σ H Q I (by
    obtain ⟨μ, ρ, M, hE, hS, hF⟩ := h
    exact hF μ true H (.refl _) (List.prefix_refl _) hS rfl)⟩
theorem lc_in {X : Cx} {W : WX} {fw : RW} {g : RG} {graw : TG} {tt : RT} {te : RE} {vs : List Nat} (ho : Own (gm X) vs g graw) {σ : St} {H : Hp} {Q : VK} (h : tE (gm X) W (rLC fw g tt te vs) σ H Q) :
    tLc (tW (gm X) W fw) graw (tT (gm X) W0 tt) (tE (gm X) W0 te) vs σ H Q := by
  refine (tX.bind (f := fw) (g := fun q ρ M1 => lcL M1.length q.2 g tt te (wipeE ρ vs) q.1 (M1 ++ [.lst []])) (rel := fun μ H (a : List D × Option (Nat × O)) J => Wk (gm X) J a.2 a.1 μ H) h).mono fun J H1 ⟨μ, ρ, M, q, hE, hS, hW, hF⟩ => ?_
  obtain ⟨xs, k⟩ := q
  obtain ⟨B, mono, hgo, hstop, hyld, hB⟩ := hW
  have hF : Fin (gm X) (Rep (gm X)) W μ σ H1 Q (lcL M.length k g tt te (wipeE ρ vs) xs (M ++ [.lst []])) := hF
  intro D hD
  have exD : Ext H1 (upd H1 D (.lst [])) := .new hD
  have hS1 : SR (gm X) (μ ++ [D]) (upd H1 D (.lst [])) (M ++ [.lst []]) := hS.new hD ⟨[], upd_same, .nil⟩
  have hl : (μ ++ [D])[M.length]? = some D := by rw [← hS.len]; simp
  generalize M.length = l at hF hl
  have hchk : ∀ {xs M}, Fin (gm X) (Rep (gm X)) W μ σ H1 Q (lcL l k g tt te (wipeE ρ vs) xs M) → True := fun _ => trivial
  refine ⟨fun i m H => m = xs.length - i ∧ i ≤ xs.length ∧ ∃ μ M, ER (gm X) μ H ρ σ ∧ SR (gm X) μ H M ∧ B μ H ∧ μ[l]? = some D ∧ Fin (gm X) (Rep (gm X)) W μ σ H Q (lcL l k g tt te (wipeE ρ vs) (xs.drop i) M), ⟨_, rfl, Nat.zero_le _, μ ++ [D], M ++ [.lst []], hE.ext exD (List.prefix_append _ _), hS1, mono _ _ _ _ exD (List.prefix_append _ _) hB, hl, (by rw [List.drop_zero]; exact Fin.later exD (List.prefix_append _ _) hF)⟩, ?_⟩
  rintro i m H ⟨rfl, hi, μ, M, hE, hS, hB, hl, hF⟩
  by_cases hlt : i < xs.length
  · rw [List.drop_eq_getElem_cons hlt] at hF
    unfold lcL at hF
    split at hF
    · rename_i hk
      refine .inr ⟨hgo i μ H M hlt hS hB hk, fun H' => (∃ μ M, ER (gm X) μ H' ρ σ ∧ SR (gm X) μ H' M ∧ B μ H' ∧ μ[l]? = some D ∧ Fin (gm X) (Rep (gm X)) W μ σ H' Q (lcL l k g tt te (wipeE ρ vs) (xs.drop (i + 1)) M)), fun H' h => ⟨_, by omega, rfl, hlt, h⟩, ?_⟩
      intro x H2 hy
      obtain ⟨d, hd, ex2, hS2, rd⟩ := hyld i μ H M x H2 hlt hS hB hk hy
      have e0 : d = xs[i] := by
        rw [List.getElem?_eq_getElem hlt] at hd
        exact (Option.some.inj hd).symm
      subst e0
      have hE2 := hE.ext ex2 (List.prefix_refl _)
      have hB2 := mono _ _ _ _ ex2 (List.prefix_refl _) hB
      cases q1 : g xs[i] (wipeE ρ vs) M with
      | none => rw [q1] at hF; exact hF.elim
      | some p =>
        obtain ⟨ρ1, M1⟩ := p
        rw [q1] at hF
        refine ho _ x μ H2 M _ (wipeE ρ vs) ρ1 M1 _ (hE2.wipe vs) rd q1 fun σ2 eM hE3 hw => ⟨hw.trans ?_, ?_⟩
        · apply List.ext_getElem?
          intro k
          rw [wipe_get, wipe_get, L2.wipe_length]
          split
          · rfl
          · rfl
        · subst eM
          refine ⟨μ, ρ1, M1, hE3, hS2, ?_⟩
          cases q2 : tt ρ1 M1 with
          | no => simp only [q2] at hF; exact hF.elim
          | ex c fs M2 => simp only [q2] at hF; exact hF.elim
          | ok b M2 =>
            intro μ3 b' H3 ex3 p3 hS3 eb
            cases eb
            cases b with
            | false =>
              simp only [q2] at hF
              show ∃ μ M, _
              exact ⟨μ3, M2, hE2.ext ex3 p3, hS3, mono _ _ _ _ ex3 p3 hB2, pre_get p3 hl, Fin.later (ex2.trans ex3) p3 hF⟩
            | true =>
              simp only [q2] at hF
              show tE (gm X) W0 te _ _ _
              refine ⟨μ3, ρ1, M2, hE3.ext ex3 p3, hS3, ?_⟩
              cases q3 : te ρ1 M2 with
              | no => simp only [q3] at hF; exact hF.elim
              | ex c fs M3 => simp only [q3] at hF; exact hF.elim
              | ok y M3 =>
                simp only [q3] at hF
                intro μ4 v H4 ex4 p4 hS4 rv
                split at hF
                · rename_i acc eacc
                  split at hF
                  · rename_i hlen
                    have hl4 := pre_get p4 (pre_get p3 hl)
                    obtain ⟨ws, h2, h3⟩ := hS4.lst hl4 eacc
                    have ex := Ext.lst (o := .lst (ws ++ [v])) h2
                    refine ⟨ws, h2, by rw [← h3.length]; exact hlen, μ4, _, hE2.ext (ex3.trans (ex4.trans ex)) (p3.trans p4), hS4.put (o := .lst (acc ++ [y])) hl4 eacc rfl rfl (fun ob w z => by rw [h2] at z; cases z) ex ⟨_, upd_same, (h3.app (.cons rv .nil)).ext ex (List.prefix_refl _)⟩, mono _ _ _ _ (ex3.trans (ex4.trans ex)) (p3.trans p4) hB2, hl4, Fin.later (ex2.trans (ex3.trans (ex4.trans ex))) (p3.trans p4) hF⟩
                  · exact hF.elim
                · exact hF.elim
    · exact hF.elim
  · have e0 : i = xs.length := by omega
    subst e0
    rw [List.drop_length] at hF
    unfold lcL at hF
    split at hF
    · rename_i hk
      exact .inl ⟨hstop μ H M hS hB hk, hF μ _ H (.refl _) (List.prefix_refl _) hS (Rep.ref.mpr ⟨D, hl, rfl⟩)⟩
    · exact hF.elim
theorem i_lc (hc : X.calm = true) (hN : X.N.Nodup) (hi : PI X tg iter (tW (gm X) W fw)) (ok : BlkOk X.N X.env.scope scope own) (ho : Own (gm X) (own.map (·.2)) g graw)
    (hg : ∀ (s : Shared) (H : Hp) (C : Addr) (cl : List (Str × Addr)) (fp : List Addr), PG (X.blk s H scope (compEnvC scope cl C X.env) fp) tg graw)
    (ht : ∀ (s : Shared) (H : Hp) (C : Addr) (cl : List (Str × Addr)) (fp : List Addr), PTs (X.blk s H scope (compEnvC scope cl C X.env) fp) ifs (tT (gm X) W0 tt))
    (he : ∀ (s : Shared) (H : Hp) (C : Addr) (cl : List (Str × Addr)) (fp : List Addr), PE (X.blk s H scope (compEnvC scope cl C X.env) fp) elt (tE (gm X) W0 te))
    (hs : ∀ (x : Value), foldedSetIterable iter X.env x = pure x := by exact fun _ => rfl) :
    PE X (.ListComp elt [{ target := tg, iter := iter, ifs := ifs, is_async := 0 }] scope pos) (tE (gm X) W (rLC fw g tt te (own.map (·.2)))) :=
  PEimp (pe_lc hc hN hi ok hg ht he hs) fun σ H Q h => lc_in ho h
/-- y = [..] -/
theorem s_setLc (i : Nat) {y : Str} {py spos : Pos} (hc : X.calm = true) (hN : X.N.Nodup) (hi : PI X tg iter (tW (gm X) W fw)) (ok : BlkOk X.N X.env.scope scope own) (ho : Own (gm X) (own.map (·.2)) g graw)
    (hg : ∀ (s : Shared) (H : Hp) (C : Addr) (cl : List (Str × Addr)) (fp : List Addr), PG (X.blk s H scope (compEnvC scope cl C X.env) fp) tg graw)
    (ht : ∀ (s : Shared) (H : Hp) (C : Addr) (cl : List (Str × Addr)) (fp : List Addr), PTs (X.blk s H scope (compEnvC scope cl C X.env) fp) ifs (tT (gm X) W0 tt))
    (he : ∀ (s : Shared) (H : Hp) (C : Addr) (cl : List (Str × Addr)) (fp : List Addr), PE (X.blk s H scope (compEnvC scope cl C X.env) fp) elt (tE (gm X) W0 te))
    (hy : X.N[i]? = some y := by rfl) (hl : X.env.scope.names.lookup y = some .local := by rfl)
    (hw : swapsWith (elt.ListComp [{ target := tg, iter := iter, ifs := ifs, is_async := 0 }] scope pos) (some (Expr.Name y py)) spos.line X.env = pure true := by exact sw_true rfl rfl rfl (by decide +kernel))
    (hs : ∀ (x : Value), foldedSetIterable iter X.env x = pure x := by exact fun _ => rfl) :
    PS X (.Assign [.Name y py] (.ListComp elt [{ target := tg, iter := iter, ifs := ifs, is_async := 0 }] scope pos) spos) (tS (gm X) W (rSet i (rLC fw g tt te (own.map (·.2))))) :=
  PSimp (ps_setLc hc hN hy hl hw hi ok hg ht he hs) fun D σ H h => lc_in ho ((tX.out h).mono fun v H1 ⟨μ, ρ, M, x, hE, hS, rx, hF⟩ => hF μ _ H1 (.refl _) (List.prefix_refl _) (hE.set i rx) hS)
end
/-! ### for over any walk -/
noncomputable def rForW (fw : RW) (g : RG) (body : RS) : RS := fun ρ M => (fw ρ M).out ρ fun q M1 => forL q.2 g body q.1 ρ M1
def enumD (xs : List D) : List D := (List.range xs.length).map fun (i : Nat) => mkTup [.p (.int (i : Int)), xs.getD i (.p .non)]
theorem enumD_get {xs : List D} {i : Nat} (h : i < xs.length) : (enumD xs)[i]? = some (mkTup [.p (.int (i : Int)), xs[i]]) := by
  simp [enumD, h]
theorem enumD_len (xs : List D) : (enumD xs).length = xs.length := by simp [enumD]
/-- enumerate of a list -/
def enumK (ds : List D) (M1 : Store) : R (List D × Option (Nat × O)) := match ds with
  | [.ref l] => (match M1[l]? with
    | some (.lst xs) => .ok (enumD xs, some (l, .lst xs)) M1
    | some (.ro xs) => .ok (enumD xs, some (l, .ro xs)) M1
    | _ => .no)
  | _ => .no
def wEnum (f : RA) : RW := fun ρ M => (f ρ M).bind enumK
theorem wk_enum {G : Gm} {a : Addr} {l : Nat} {o : O} {xs : List D} {μ : List Addr} {H : Hp} (ha : μ[l]? = some a) (hk : o = .lst xs ∨ o = .ro xs) : Wk G (Ite G.K a) (some (l, o)) (enumD xs) μ H := by
  refine ⟨fun μ H => μ[l]? = some a, fun _ _ _ _ e p z => pre_get p z, ?_, ?_, ?_, ha⟩
  · rintro i μ H M hi S z c
    rw [enumD_len] at hi
    obtain ⟨vs, z1, z2⟩ := SR.list_at S z c hk
    obtain ⟨w, hw, _⟩ := z2.get (List.getElem?_eq_getElem hi)
    exact ⟨vs, w, z1, hw⟩
  · rintro μ H M S z c
    obtain ⟨vs, z1, z2⟩ := SR.list_at S z c hk
    exact ⟨vs, z1, by rw [enumD_len, z2.len_eq]; exact Nat.le_refl _⟩
  · rintro i μ H M w H' hi S z c ⟨T, x, rfl, hT, rfl, y⟩
    rw [enumD_len] at hi
    obtain ⟨vs, z1, z2⟩ := SR.list_at S z c hk
    obtain ⟨w', hw, r⟩ := z2.get (List.getElem?_eq_getElem hi)
    have := (y vs z1).symm.trans hw
    cases this
    have ex : Ext H (upd H T (.tup [.int i, x])) := .new hT
    exact ⟨_, enumD_get hi, ex, S.grow hT, mkTup_ok (SqT.of upd_same) (.cons (Rep.int.mpr rfl) (.cons (r.ext ex (List.prefix_refl _)) .nil))⟩
section
variable {X : Cx} {W : WX} {e tg : Expr} {fs : RA} {fw : RW} {g : RG} {body : RS} {pos p tpos : Pos} {sb : List Stmt}
theorem s_forW (hp : PassesOwn (model X.prog X.w) X.A X.env X.xe) (hc : X.calm = true) (hi : PI X tg e (tW (gm X) W fw)) (hg : PG X tg (tG (gm X) g)) (hb : PSs X sb (tS (gm X) W body))
    (hs : ∀ x, foldedSetIterable e X.env x = pure x := by intro _; rfl) : PS X (.For tg e sb [] pos) (tS (gm X) W (rForW fw g body)) :=
  PSimp (ps_for hp hc hi hg hb hs) fun D σ H h => by
    refine (tX.out (f := fw) (rel := fun μ H (a : List Fl.D × Option (Nat × O)) J => Wk (gm X) J a.2 a.1 μ H) (g := fun q ρ M => forL q.2 g body q.1 ρ M) h).mono fun J H1 ⟨μ, ρ, M, q, hE, hS, hW, hF⟩ => ?_
    obtain ⟨B, mono, hgo, hstop, hyld, hB⟩ := hW
    exact loop_gen (X := X) (W := W) (J := J) (k := q.2) (xs := q.1) B mono hgo hstop hyld hE hS hB hF
theorem wi_enum {elts : List Expr} {kk : Nat} (hgl : Gl X "enumerate") (hm : X.mg "enumerate" = none) (ha : PA X [e] (tA (gm X) W fs)) (hs1 : starEach [e] X.env = [(false, eval e X.env)] := by rfl) :
    PI X (.Tuple elts kk tpos) (.Call (.Name "enumerate" p) [e] [] pos) (tW (gm X) W (wEnum fs)) :=
  PIimp (pi_enum hgl hm ha hs1) fun σ H R h => by
    refine (tX.bind (f := fs) (g := fun ds ρ M1 => enumK ds M1) (rel := Reps (gm X)) h).mono fun vs H1 ⟨μ, ρ, M, ds, hE, hS, rd, hF⟩ => ?_
    have hF : Fin (gm X) (fun μ H (a : List Fl.D × Option (Nat × O)) J => Wk (gm X) J a.2 a.1 μ H) W μ σ H1 R (enumK ds M) := hF
    unfold enumK at hF
    split at hF
    · rename_i l
      obtain ⟨v, rfl, r⟩ := rd.inv1
      obtain ⟨a, ha, rfl⟩ := Rep.ref.mp r
      split at hF
      · rename_i ys e2
        obtain ⟨vs, z1, z2⟩ := SR.list_at hS ha e2 (.inl rfl)
        exact ⟨a, vs, rfl, z1, hF μ _ H1 (.refl _) (List.prefix_refl _) hS (wk_enum ha (.inl rfl))⟩
      · rename_i ys e2
        obtain ⟨vs, z1, z2⟩ := SR.list_at hS ha e2 (.inr rfl)
        exact ⟨a, vs, rfl, z1, hF μ _ H1 (.refl _) (List.prefix_refl _) hS (wk_enum ha (.inr rfl))⟩
      · exact hF.elim
    · exact hF.elim
theorem wi_rng1 {a : Expr} (hgl : Gl X "range") (hm : X.mg "range" = none) (ha : PA X [a] (tA (gm X) W fs)) (hs1 : starEach [a] X.env = [(false, eval a X.env)] := by rfl) :
    PI X tg (.Call (.Name "range" p) [a] [] pos) (tW (gm X) W (wRng rng1 fs)) :=
  PIimp (pi_range1 hgl hm ha hs1) fun σ H R h => by
    refine (tX.bind (f := fs) (g := fun ds ρ M1 => ofW ((rng1 ds).map fun q => (intsD q.1 q.2, none)) M1) (rel := Reps (gm X)) h).mono fun vs H1 ⟨μ, ρ, M, ds, hE, hS, rd, hF⟩ => ?_
    have hF : Fin (gm X) (fun μ H (a : List Fl.D × Option (Nat × O)) J => Wk (gm X) J a.2 a.1 μ H) W μ σ H1 R (ofW ((rng1 ds).map fun q => (intsD q.1 q.2, none)) M) := hF
    cases q : rng1 ds with
    | none => rw [q] at hF; exact hF.elim
    | some r =>
      obtain ⟨lo, n⟩ := r
      rw [q] at hF
      unfold rng1 at q
      split at q
      · split at q
        · rename_i j hj
          cases q
          obtain ⟨v, rfl, r⟩ := rd.inv1
          rw [Rep.int] at r
          subst r
          exact ⟨j, rfl, hj.1, hj.2, hF μ _ H1 (.refl _) (List.prefix_refl _) hS wk_rng⟩
        · cases q
      · cases q
theorem wi_rng2 {a b : Expr} (hgl : Gl X "range") (hm : X.mg "range" = none) (ha : PA X [a, b] (tA (gm X) W fs)) (hs1 : starEach [a, b] X.env = [(false, eval a X.env), (false, eval b X.env)] := by rfl) (hs2 : starEach [b] X.env = [(false, eval b X.env)] := by rfl) :
    PI X tg (.Call (.Name "range" p) [a, b] [] pos) (tW (gm X) W (wRng rng2 fs)) :=
  PIimp (pi_range2 hgl hm ha hs1 hs2) fun σ H R h => by
    refine (tX.bind (f := fs) (g := fun ds ρ M1 => ofW ((rng2 ds).map fun q => (intsD q.1 q.2, none)) M1) (rel := Reps (gm X)) h).mono fun vs H1 ⟨μ, ρ, M, ds, hE, hS, rd, hF⟩ => ?_
    have hF : Fin (gm X) (fun μ H (a : List Fl.D × Option (Nat × O)) J => Wk (gm X) J a.2 a.1 μ H) W μ σ H1 R (ofW ((rng2 ds).map fun q => (intsD q.1 q.2, none)) M) := hF
    cases q : rng2 ds with
    | none => rw [q] at hF; exact hF.elim
    | some r =>
      obtain ⟨lo, n⟩ := r
      rw [q] at hF
      unfold rng2 at q
      split at q
      · split at q
        · rename_i i j hj
          cases q
          obtain ⟨v, u, rfl, r1, r2⟩ := rd.inv2
          rw [Rep.int] at r1 r2
          subst r1 r2
          exact ⟨_, _, rfl, hj, hF μ _ H1 (.refl _) (List.prefix_refl _) hS wk_rng⟩
        · cases q
      · cases q
end
end Fl

set_option Elab.async false
set_option linter.all false
set_option maxRecDepth 100000
/-! Fl, part V: words within a comprehension; bits; sum. -/
namespace Fl
open PySem PySem.Spec L2
set_option autoImplicit false
theorem tk0 {X : Cx} : L2N.Takes X W0 := fun u s' h => by
  obtain ⟨_, _, _, _, _, _, _, _, _, _, _, _, _, _, _, _, z⟩ := h
  exact (z : False).elim
open Classical in
noncomputable def dShl : D → D → Store → Option (D × Store)
  | .p (.int i), .p (.int j), M => if CPow i j then some (.p (.int (i * 2 ^ j.toNat)), M) else none
  | _, _, _ => none
def dShr : D → D → Store → Option (D × Store)
  | .p (.int i), .p (.int j), M => if 0 ≤ j then some (.p (.int (i / 2 ^ j.toNat)), M) else none
  | _, _, _ => none
def dBAnd : D → D → Store → Option (D × Store)
  | .p (.int i), .p (.int j), M => some (.p (.int (Builtin.bitAnd i j)), M)
  | _, _, _ => none
section
variable {G : Gm}
theorem d_shl : OpD G dShl (rI CPow fun i j => .int (i * 2 ^ j.toNat)) := by
  intro μ H M x y v u Q d M' S rx ry q k
  unfold dShl at q
  split at q
  · split at q
    · rename_i h
      cases q
      rw [Rep.int] at rx ry
      exact ⟨_, _, rx, ry, h, k μ _ H (.refl H) (List.prefix_refl _) S (Rep.int.mpr rfl)⟩
    · cases q
  · cases q
theorem d_shr : OpD G dShr (rI (fun x j => 0 ≤ j) fun i j => .int (i / 2 ^ j.toNat)) := by
  intro μ H M x y v u Q d M' S rx ry q k
  unfold dShr at q
  split at q
  · split at q
    · rename_i h
      cases q
      rw [Rep.int] at rx ry
      exact ⟨_, _, rx, ry, h, k μ _ H (.refl H) (List.prefix_refl _) S (Rep.int.mpr rfl)⟩
    · cases q
  · cases q
theorem d_band : OpD G dBAnd (rI0 fun i j => .int (Builtin.bitAnd i j)) := by
  intro μ H M x y v u Q d M' S rx ry q k
  unfold dBAnd at q
  split at q
  · cases q
    rw [Rep.int] at rx ry
    exact ⟨_, _, rx, ry, k μ _ H (.refl H) (List.prefix_refl _) S (Rep.int.mpr rfl)⟩
  · cases q
end
def intsOf : List D → Option (List Int)
  | [] => some []
  | .p (.int i) :: r => (intsOf r).map fun s => i :: s
  | _ :: _ => none
theorem intsOf_eq : ∀ {xs : List D} {ns : List Int}, intsOf xs = some ns → xs = ns.map fun i => .p (.int i)
  | [], ns, h => by cases h; rfl
  | .p (.int i) :: r, ns, h => by
    obtain ⟨s, h1, rfl⟩ := Option.map_eq_some_iff.mp h
    rw [intsOf_eq h1]
    rfl
  | .p .non :: _, _, h => by cases h
  | .p (.bl _) :: _, _, h => by cases h
  | .p (.str _) :: _, _, h => by cases h
  | .p (.tup _) :: _, _, h => by cases h
  | .ref _ :: _, _, h => by cases h
  | .tup _ :: _, _, h => by cases h
  | .gl _ :: _, _, h => by cases h
  | .exv _ :: _, _, h => by cases h
  | .exf _ _ _ :: _, _, h => by cases h
  | .lam _ :: _, _, h => by cases h
theorem intsOf_map (ns : List Int) : intsOf (ns.map fun i => D.p (.int i)) = some ns := by
  induction ns with
  | nil => rfl
  | cons n ns ih => show (intsOf (ns.map _)).map _ = _; rw [ih]; rfl
theorem Reps.ints {G : Gm} {μ : List Addr} {H : Hp} : ∀ {ns : List Int} {vs : List V}, Reps G μ H (ns.map fun i => D.p (.int i)) vs → vs = ns.map V.int
  | [], vs, h => h.inv0
  | n :: ns, vs, h => by
    obtain ⟨v, ws, rfl, r, t⟩ := h.inv
    rw [Rep.int] at r
    subst r
    rw [Reps.ints t]
    rfl
/-- sum of a list of ints -/
def cSum : List D → Store → Option (D × Store)
  | [.ref l], M => (match M[l]? with
    | some (.lst xs) => (intsOf xs).map fun ns => (.p (.int ns.sum), M)
    | _ => none)
  | _, _ => none
theorem d_sum {G : Gm} : CallD G cSum (rSum G.K) := by
  intro μ H M xs vs Q d M' S r q k
  unfold cSum at q
  split at q
  · rename_i l
    obtain ⟨v, rfl, r1⟩ := r.inv1
    obtain ⟨a, ha, rfl⟩ := Rep.ref.mp r1
    split at q
    · rename_i ys e
      obtain ⟨ns, h1, h2⟩ := Option.map_eq_some_iff.mp q
      cases h2
      obtain ⟨ws, z1, z2⟩ := SR.list_at S ha e (.inl rfl)
      rw [intsOf_eq h1] at z2
      rw [z2.ints] at z1
      exact ⟨a, ns, rfl, z1, k μ _ H (.refl _) (List.prefix_refl _) S (Rep.int.mpr rfl)⟩
    · cases q
  · cases q
theorem bi_sum : bootBuiltins "sum" = some (.builtin "sum") := by decide +kernel
section
variable {X : Cx} {s : Shared} {H : Hp} {scope : Scope} {cenv : PySem.Env} {fp : List Addr} {x : Str} {ps : List Str} {F : List D → Store → R D} {k : Nat} {e : Expr} {es : List Expr} {fs : RA} {p pos : Pos}
/-- a def called within a comprehension -/
theorem i_callI (D : Df X.prog X.w X.K X.mg X.base x ps F k) (hr : Room k X.A) (hg : Gl (X.blk s H scope cenv fp) x) (tk : L2N.Takes (X.blk s H scope cenv fp) W0) (ha : PA (X.blk s H scope cenv fp) (e :: es) (tA (gm X) W0 fs)) (hdb : (x == ("__debug__" : Str)) = false := by decide)
    (he : starEach (e :: es) (X.blk s H scope cenv fp).env = (false, eval e (X.blk s H scope cenv fp).env) :: starEach es (X.blk s H scope cenv fp).env := by rfl) (hpl : (backTo pos (starEach es (X.blk s H scope cenv fp).env)).any (·.1) = false := by rfl) :
    PE (X.blk s H scope cenv fp) (.Call (.Name x p) (e :: es) [] pos) (tE (gm X) W0 (rCallN ps.length F fs)) :=
  i_call (X := X.blk s H scope cenv fp) D hr hg tk ha hdb he hpl
end
/-! ### comprehensions whose turns leave the store alone -/
@[simp] theorem e_lc (fw g tt te vs ρ M) : rLC fw g tt te vs ρ M = (fw ρ M).bind fun q M1 => lcL M1.length q.2 g tt te (wipeE ρ vs) q.1 (M1 ++ [.lst []]) := (rfl)
@[simp] theorem e_yes (ρ : Env) (M : Store) : rYes ρ M = .ok true M := (rfl)
@[simp] theorem e_ofW_some (q M) : ofW (some q) M = .ok q M := (rfl)
@[simp] theorem e_wRow (f : RE) (ρ : Env) (M : Store) : wRow f ρ M = (f ρ M).bind fun d M1 => ofW (walkD d M1) M1 := (rfl)
@[simp] theorem e_wRng (rg f) (ρ : Env) (M : Store) : wRng rg f ρ M = (f ρ M).bind fun ds M1 => ofW ((rg ds).map fun q => (intsD q.1 q.2, none)) M1 := (rfl)
@[simp] theorem e_forW (fw g body) (ρ : Env) (M : Store) : rForW fw g body ρ M = (fw ρ M).out ρ fun q M1 => forL q.2 g body q.1 ρ M1 := (rfl)
@[simp] theorem e_wEnum (f : RA) (ρ : Env) (M : Store) : wEnum f ρ M = (f ρ M).bind enumK := (rfl)
theorem set_set {α : Type} (M : List α) (l : Nat) (x y : α) : (M.set l x).set l y = M.set l y := by simp
theorem lc_pure {l : Nat} {k : Option (Nat × O)} {g : RG} {tt : RT} {te : RE} {ρ : Env} (p : D → Bool) (f : D → D) (M : Store) (hl : l < M.length) (hk : ∀ ys, chk k (M.set l (.lst ys))) : ∀ (xs acc : List D), acc.length + xs.length < sizeLine →
    (∀ x ∈ xs, ∀ ys, ∃ ρ1, g x ρ (M.set l (.lst ys)) = some (ρ1, M.set l (.lst ys)) ∧ tt ρ1 (M.set l (.lst ys)) = .ok (p x) (M.set l (.lst ys)) ∧ (p x = true → te ρ1 (M.set l (.lst ys)) = .ok (f x) (M.set l (.lst ys)))) →
    lcL l k g tt te ρ xs (M.set l (.lst acc)) = .ok (.ref l) (M.set l (.lst (acc ++ (xs.filter p).map f)))
  | [], acc, _, _ => by
    unfold lcL
    rw [if_pos (hk acc)]
    simp
  | x :: xs, acc, hlen, h => by
    obtain ⟨ρ1, h1, h2, h3⟩ := h x List.mem_cons_self acc
    have hr : ∀ y ∈ xs, _ := fun y hy => h y (List.mem_cons_of_mem _ hy)
    unfold lcL
    rw [if_pos (hk acc), h1]
    dsimp only
    rw [h2]
    cases q : p x with
    | false =>
      dsimp only
      rw [lc_pure p f M hl hk xs acc (by simp only [List.length_cons] at hlen; omega) hr, List.filter_cons_of_neg (by simp [q])]
    | true =>
      dsimp only
      rw [h3 q]
      dsimp only
      rw [List.getElem?_set_self hl]
      dsimp only
      rw [if_pos (by simp only [List.length_cons] at hlen; omega), set_set, lc_pure p f M hl hk xs (acc ++ [f x]) (by simp only [List.length_cons, List.length_append, List.length_nil] at hlen ⊢; omega) hr, List.filter_cons_of_pos (by simp [q])]
      simp
/-! ### a, b, c = x, y, z -/
def rPar3 (i j l : Nat) (f : RA) : RS := fun ρ M => (f ρ M).out ρ fun ds M1 => match ds with
  | [x, y, z] => .nx (((ρ.set i (some x)).set j (some y)).set l (some z)) M1
  | _ => .no
@[simp] theorem e_par3 (i j l f) (ρ : Env) (M : Store) : rPar3 i j l f ρ M = (f ρ M).out ρ fun ds M1 => match ds with
  | [x, y, z] => .nx (((ρ.set i (some x)).set j (some y)).set l (some z)) M1
  | _ => .no := (rfl)
section
variable {X : Cx} {W : WX} {fs : RA} {pos : Pos}
theorem s_par3 (i j l : Nat) {x y z : Str} {a b c : Expr} {px py pz pt : Pos} {kt k2 : Nat} {pt2 : Pos} (ha : PA X [a, b, c] (tA (gm X) W fs)) (hc : X.calm = true) (hN : X.N.Nodup) (hi : X.N[i]? = some x := by rfl) (hj : X.N[j]? = some y := by rfl) (hl : X.N[l]? = some z := by rfl) (hij : i ≠ j := by decide) (hil : i ≠ l := by decide) (hjl : j ≠ l := by decide)
    (hx : X.env.scope.names.lookup x = some .local := by rfl) (hy : X.env.scope.names.lookup y = some .local := by rfl) (hz : X.env.scope.names.lookup z = some .local := by rfl)
    (hw : swappedStores [.Tuple [.Name x px, .Name y py, .Name z pz] kt pt] (.Tuple [a, b, c] k2 pt2) X.env = pure (some [x, y, z]) := by rfl)
    (hs : swapsWithSole [.Tuple [.Name x px, .Name y py, .Name z pz] kt pt] (.Tuple [a, b, c] k2 pt2) pos.line X.env = pure false := by rfl) :
    PS X (.Assign [.Tuple [.Name x px, .Name y py, .Name z pz] kt pt] (.Tuple [a, b, c] k2 pt2) pos) (tS (gm X) W (rPar3 i j l fs)) :=
  PSimp (ps_par3 hc hN hi hj hl hij hil hjl hx hy hz ha hw hs) fun D σ H h => by
    refine (tX.out (rel := Reps (gm X)) (g := fun ds ρ M1 => match ds with | [x, y, z] => .nx (((ρ.set i (some x)).set j (some y)).set l (some z)) M1 | _ => .no) h).mono fun vs H1 ⟨μ, ρ, M, ds, hE, hS, rx, hF⟩ => ?_
    match ds, rx, hF with
    | [], _, hF => exact hF.elim
    | [_], _, hF => exact hF.elim
    | [_, _], _, hF => exact hF.elim
    | [d1, d2, d3], rx, hF =>
      obtain ⟨v1, w1, rfl, r1, t1⟩ := rx.inv
      obtain ⟨v2, w2, rfl, r2, t2⟩ := t1.inv
      obtain ⟨v3, w3, rfl, r3, t3⟩ := t2.inv
      have e := t3.inv0
      subst e
      exact ⟨v1, v2, v3, rfl, hF μ _ H1 (.refl _) (List.prefix_refl _) (((hE.set i r1).set j r2).set l r3) hS⟩
    | _ :: _ :: _ :: _ :: _, _, hF => exact hF.elim
end
/-! ### isinstance(e, (S, T)) -/
def cIsa2 (T1 T2 : String) : D → Store → Option (D × Store) := fun x M => (tyD x M).map fun t => (.p (.bl (isaT t T1 || isaT t T2)), M)
/-- isinstance(e, (T1, T2)) -/
def rIsa2 (T1 T2 : String) (f : RE) : RE := rUn (cIsa2 T1 T2) f
section
variable {X : Cx} {W : WX}
theorem i_isa2 {e : Expr} {f : RE} {T1 T2 : String} {x1 x2 : Str} {p p1 p2 pt pos : Pos} {kk : Nat} (hT1 : T1 = "int" ∨ T1 = "bool" ∨ T1 = "str" ∨ T1 = "tuple" ∨ T1 = "list" ∨ T1 = "dict") (hT2 : T2 = "int" ∨ T2 = "bool" ∨ T2 = "str" ∨ T2 = "tuple" ∨ T2 = "list" ∨ T2 = "dict") (hg : Gl X "isinstance") (hm : X.mg "isinstance" = none)
    (hg1 : Gl X x1) (hm1 : X.mg x1 = none) (hv1 : bootBuiltins x1 = some (.type T1)) (hg2 : Gl X x2) (hm2 : X.mg x2 = none) (hv2 : bootBuiltins x2 = some (.type T2))
    (ha : PE X e (tE (gm X) W f)) (hn1 : x1 ≠ "__name__" := by decide) (hd1 : (x1 == ("__debug__" : Str)) = false := by decide) (hn2 : x2 ≠ "__name__" := by decide) (hd2 : (x2 == ("__debug__" : Str)) = false := by decide)
    (hs : starEach [e, .Tuple [.Name x1 p1, .Name x2 p2] kk pt] X.env = (false, eval e X.env) :: starEach [.Tuple [.Name x1 p1, .Name x2 p2] kk pt] X.env := by rfl) (hs2 : starEach [.Tuple [.Name x1 p1, .Name x2 p2] kk pt] X.env = (false, eval (.Tuple [.Name x1 p1, .Name x2 p2] kk pt) X.env) :: starEach [] X.env := by rfl)
    (hs3 : starEach [.Name x1 p1, .Name x2 p2] X.env = (false, eval (.Name x1 p1) X.env) :: starEach [.Name x2 p2] X.env := by rfl) (hs4 : starEach [.Name x2 p2] X.env = (false, eval (.Name x2 p2) X.env) :: starEach [] X.env := by rfl)
    (hpl : (backTo pos (starEach [.Tuple [.Name x1 p1, .Name x2 p2] kk pt] X.env)).any (·.1) = false := by rfl) :
    PE X (.Call (.Name "isinstance" p) [e, .Tuple [.Name x1 p1, .Name x2 p2] kk pt] [] pos) (tE (gm X) W (rIsa2 T1 T2 f)) := by
  refine PEimp (pe_callB call_isiT hg hm PyProof.Rows.boot_isinstance (pa_cons ha (pa_cons (pe_tup (pa_cons (pe_bltn (v := .ty T1) hg1 hm1 hv1 rfl hn1 hd1) (pa_cons (pe_bltn (v := .ty T2) hg2 hm2 hv2 rfl hn2 hd2) pa_nil hs4) hs3)) pa_nil hs2) hs) (by decide) (by decide) hs hpl) fun σ H Q h => ?_
  refine (tX.bind h).mono fun v H1 ⟨μ, ρ, M, x, hE, hS, rx, hF⟩ => ?_
  have hF : Fin (gm X) (Rep (gm X)) W μ σ H1 Q (ofO (cIsa2 T1 T2 x M)) := hF
  cases q : tyD x M with
  | none =>
    unfold cIsa2 at hF
    rw [q] at hF
    exact hF.elim
  | some t =>
    unfold cIsa2 at hF
    rw [q] at hF
    refine ⟨(by decide : 2 ≤ sizeLine), fun a ha0 => ?_⟩
    have ex : Ext H1 (upd H1 a (.tup [.ty T1, .ty T2])) := .new ha0
    have hk : PySem.W.kitAny X.K (.type t) [.type T1, .type T2] = some (isaT t T1 || isaT t T2) := by
      have k1 := kit_ty (K := X.K) (isaT_ok t T1 (tyD_names q) hT1)
      have k2 := kit_ty (K := X.K) (isaT_ok t T2 (tyD_names q) hT2)
      simp only [PySem.W.kitAny, k1, k2]
      cases isaT t T1 <;> cases isaT t T2 <;> rfl
    exact ⟨v, a, [.ty T1, .ty T2], .type t, [.type T1, .type T2], _, rfl, upd_same, .cons (.ty T1) (.cons (.ty T2) .nil), tyD_ok (hS.grow ha0) (rx.ext ex (List.prefix_refl _)) q, hk, hF μ _ _ ex (List.prefix_refl _) (hS.grow ha0) (Rep.bl.mpr rfl)⟩
end
@[simp] theorem e_isa2 (T1 T2 f) (ρ : Env) (M : Store) : rIsa2 T1 T2 f ρ M = (f ρ M).bind fun x M1 => ofO (cIsa2 T1 T2 x M1) := (rfl)
/-! ### more methods of lists -/
def mReverse : D → List D → Store → Option (D × Store)
  | .ref l, [], M => (match M[l]? with
    | some (.lst xs) => some (.p .non, M.set l (.lst xs.reverse))
    | _ => none)
  | _, _, _ => none
def mInsert : D → List D → Store → Option (D × Store)
  | .ref l, [.p (.int i), y], M => (match M[l]? with
    | some (.lst xs) => if xs.length < sizeLine ∧ 0 ≤ i ∧ i < 2 ^ 63 then some (.p .non, M.set l (.lst (xs.take i.toNat ++ [y] ++ xs.drop i.toNat))) else none
    | _ => none)
  | _, _, _ => none
section
variable {G : Gm}
theorem d_reverse : MtD G mReverse rReverse := by
  intro μ H M x xs v vs Q d M' S rx rxs q k
  unfold mReverse at q
  split at q
  · rename_i l
    split at q
    · rename_i ys e
      cases q
      obtain ⟨a, h1, rfl⟩ := Rep.ref.mp rx
      obtain ⟨ws, h2, h3⟩ := S.lst h1 e
      have e0 := rxs.inv0
      subst e0
      have ex := Ext.lst (o := .lst ws.reverse) h2
      exact ⟨a, ws, rfl, rfl, h2, k μ _ _ ex (List.prefix_refl _) (S.put (o := .lst ys.reverse) h1 e rfl rfl (fun ob w z => by rw [h2] at z; cases z) ex ⟨_, upd_same, h3.rev.ext ex (List.prefix_refl _)⟩) (Rep.non.mpr rfl)⟩
    · cases q
  · cases q
theorem d_insert : MtD G mInsert (fun x vs H Q => ∃ l xs i y, x = V.ref l ∧ vs = [V.int i, y] ∧ H l = some (HO.lst xs) ∧ xs.length < sizeLine ∧ 0 ≤ i ∧ i < 2 ^ 63 ∧ Q V.non (upd H l (HO.lst (List.take i.toNat xs ++ [y] ++ List.drop i.toNat xs)))) := by
  intro μ H M x xs v vs Q d M' S rx rxs q k
  unfold mInsert at q
  split at q
  · rename_i l i y
    split at q
    · rename_i ys e
      split at q
      · rename_i hl
        cases q
        obtain ⟨a, h1, rfl⟩ := Rep.ref.mp rx
        obtain ⟨ws, h2, h3⟩ := S.lst h1 e
        obtain ⟨w1, w, rfl, r1, h4⟩ := rxs.inv2
        rw [Rep.int] at r1
        subst r1
        have ex := Ext.lst (o := .lst (ws.take i.toNat ++ [w] ++ ws.drop i.toNat)) h2
        exact ⟨a, ws, i, w, rfl, rfl, h2, by rw [← h3.length]; exact hl.1, hl.2.1, hl.2.2, k μ _ _ ex (List.prefix_refl _) (S.put (o := .lst (ys.take i.toNat ++ [y] ++ ys.drop i.toNat)) h1 e rfl rfl (fun ob w z => by rw [h2] at z; cases z) ex ⟨_, upd_same, (((h3.take _).app (.cons h4 .nil)).app (h3.drop _)).ext ex (List.prefix_refl _)⟩) (Rep.non.mpr rfl)⟩
      · cases q
    · cases q
  · cases q
end
/-! ### a comprehension, turn by turn -/
@[simp] theorem lcL_nil {l : Nat} {g : RG} {tt : RT} {te : RE} {ρ : Env} {M : Store} : lcL l none g tt te ρ [] M = .ok (.ref l) M := by
  unfold lcL
  exact if_pos True.intro
/-- one turn that is kept -/
theorem lcL_keep {l : Nat} {k : Option (Nat × O)} {g : RG} {tt : RT} {te : RE} {ρ ρ1 : Env} {x y : D} {xs acc : List D} {M M1 M2 M3 : Store} (hk : chk k M) (h1 : g x ρ M = some (ρ1, M1)) (h2 : tt ρ1 M1 = .ok true M2) (h3 : te ρ1 M2 = .ok y M3) (h4 : M3[l]? = some (.lst acc)) (h5 : acc.length < sizeLine) :
    lcL l k g tt te ρ (x :: xs) M = lcL l k g tt te ρ xs (M3.set l (.lst (acc ++ [y]))) := by
  conv => lhs; unfold lcL
  rw [if_pos hk, h1]
  dsimp only
  rw [h2]
  dsimp only
  rw [h3]
  dsimp only
  rw [h4]
  dsimp only
  rw [if_pos h5]
theorem lcL_skip {l : Nat} {k : Option (Nat × O)} {g : RG} {tt : RT} {te : RE} {ρ ρ1 : Env} {x : D} {xs : List D} {M M1 M2 : Store} (hk : chk k M) (h1 : g x ρ M = some (ρ1, M1)) (h2 : tt ρ1 M1 = .ok false M2) :
    lcL l k g tt te ρ (x :: xs) M = lcL l k g tt te ρ xs M2 := by
  conv => lhs; unfold lcL
  rw [if_pos hk, h1]
  dsimp only
  rw [h2]
/-- an invariant of a comprehension that keeps every item -/
theorem lcL_inv {l : Nat} {k : Option (Nat × O)} {g : RG} {te : RE} {ρ : Env} (xs : List D) (I : Nat → Store → Prop) (hc : ∀ i M, I i M → chk k M)
    (h : ∀ i x M, xs[i]? = some x → I i M → ∃ ρ1 y M3 acc, g x ρ M = some (ρ1, M) ∧ te ρ1 M = .ok y M3 ∧ M3[l]? = some (.lst acc) ∧ acc.length < sizeLine ∧ I (i + 1) (M3.set l (.lst (acc ++ [y])))) :
    ∀ {M}, I 0 M → ∃ M', lcL l k g rYes te ρ xs M = .ok (.ref l) M' ∧ I xs.length M' := by
  have go : ∀ (n i : Nat) (M), n = xs.length - i → i ≤ xs.length → I i M → ∃ M', lcL l k g rYes te ρ (xs.drop i) M = .ok (.ref l) M' ∧ I xs.length M' := by
    intro n
    induction n with
    | zero =>
      intro i M hn hi hI
      have e : i = xs.length := by omega
      subst e
      refine ⟨M, ?_, hI⟩
      rw [List.drop_length]
      unfold lcL
      exact if_pos (hc _ _ hI)
    | succ n ih =>
      intro i M hn hi hI
      have hlt : i < xs.length := by omega
      obtain ⟨ρ1, y, M3, acc, h1, h2, h3, h4, h5⟩ := h i xs[i] M (List.getElem?_eq_getElem hlt) hI
      obtain ⟨M', h6, h7⟩ := ih (i + 1) _ (by omega) (by omega) h5
      refine ⟨M', ?_, h7⟩
      rw [List.drop_eq_getElem_cons hlt, lcL_keep (hc _ _ hI) h1 rfl h2 h3 h4]
      exact h6
  intro M hI
  exact go _ 0 M rfl (Nat.zero_le _) hI
end Fl

set_option Elab.async false
set_option linter.all false
set_option maxRecDepth 100000
/-! Fl, part W: what stays in the store. -/
namespace Fl
open PySem PySem.Spec L2
set_option autoImplicit false
theorem pfx_get {α : Type} {M M' : List α} (p : M <+: M') {l : Nat} {o : α} (h : M[l]? = some o) : M'[l]? = some o := by
  obtain ⟨t, rfl⟩ := p
  obtain ⟨hl, e⟩ := List.getElem?_eq_some_iff.mp h
  rw [List.getElem?_append_left hl]
  exact h
theorem pfx_app {α : Type} {M M' : List α} (p : M <+: M') (x : List α) : M <+: M' ++ x := p.trans (List.prefix_append _ _)
theorem pfx_set {α : Type} {M M' : List α} (p : M <+: M') {l : Nat} (h : M.length ≤ l) (x : α) : M <+: M'.set l x := by
  obtain ⟨t, rfl⟩ := p
  rw [List.set_append_right _ _ h]
  exact List.prefix_append _ _
theorem pfx_len {α : Type} {M M' : List α} (p : M <+: M') : M.length ≤ M'.length := p.length_le
theorem get_app {α : Type} {M : List α} {l : Nat} {o : α} (h : M[l]? = some o) (x : List α) : (M ++ x)[l]? = some o := pfx_get (List.prefix_append _ _) h
theorem get_new {α : Type} (M : List α) (o : α) : (M ++ [o])[M.length]? = some o := by simp
theorem get_lt {α : Type} {M : List α} {l : Nat} {o : α} (h : M[l]? = some o) : l < M.length := (List.getElem?_eq_some_iff.mp h).1
theorem get_set_ne {α : Type} {M : List α} {l k : Nat} {o x : α} (h : M[l]? = some o) (n : k ≠ l) : (M.set k x)[l]? = some o := by rw [List.getElem?_set_ne n]; exact h
theorem get_set_same {α : Type} {M : List α} {l : Nat} {x : α} (h : l < M.length) : (M.set l x)[l]? = some x := List.getElem?_set_self h
theorem chk_some {l : Nat} {o : O} {M : Store} (h : M[l]? = some o) : chk (some (l, o)) M := h
theorem v_len_l (l : Nat) (xs : List D) (M : Store) (h : M[l]? = some (.lst xs)) : cLen [.ref l] M = some (.p (.int (xs.length : Nat)), M) := by simp [cLen, lenD, h]
theorem v_ix_l (l : Nat) (xs : List D) (i : Nat) (d : D) (M : Store) (h : M[l]? = some (.lst xs)) (hi : xs[i]? = some d) : dIx (.ref l) (.p (.int i)) M = some (d, M) := by
  simp only [dIx, rowD, h, atI_nat hi, Option.map_some]
theorem v_cat (l k : Nat) (xs ys : List D) (M : Store) (h : M[l]? = some (.lst xs)) (h2 : M[k]? = some (.lst ys)) (hl : xs.length + ys.length ≤ sizeLine) : dAdd (.ref l) (.ref k) M = some (.ref M.length, M ++ [.lst (xs ++ ys)]) := by
  simp [dAdd, h, h2, hl]
theorem v_set (l : Nat) (xs : List D) (i : Nat) (d : D) (M : Store) (h : M[l]? = some (.lst xs)) (hi : i < xs.length) : setD (.ref l) (.p (.int i)) d M = some (M.set l (.lst (xs.set i d))) := by
  have e : ixN xs.length (i : Int) = some i := by
    unfold ixN
    rw [if_pos (by omega), if_pos (by omega)]
    simp
  simp only [setD, h, e, Option.map_some]
theorem v_append (l : Nat) (xs : List D) (d : D) (M : Store) (h : M[l]? = some (.lst xs)) (hl : xs.length < sizeLine) : mAppend (.ref l) [d] M = some (.p .non, M.set l (.lst (xs ++ [d]))) := by
  simp [mAppend, h, hl]
theorem isLst_ref (l : Nat) (xs : List D) (M : Store) (h : M[l]? = some (.lst xs)) : isLst (.ref l) M = true := by simp [isLst, h]
theorem walk_ref (l : Nat) (xs : List D) (M : Store) (h : M[l]? = some (.lst xs)) : walkD (.ref l) M = some (xs, some (l, .lst xs)) := by simp [walkD, h]
theorem lt_line {n : Nat} (h : n ≤ 1000000) : n < sizeLine := by rw [sizeLine_eq]; omega
theorem le_line {n : Nat} (h : n ≤ 1000000) : n ≤ sizeLine := by rw [sizeLine_eq]; omega
/-- a comprehension that reads alone: filter and map -/
theorem lc_new {k : Option (Nat × O)} {g : RG} {tt : RT} {te : RE} {ρ : Env} (p : D → Bool) (f : D → D) (M : Store) (hk : ∀ ys, chk k (M ++ [.lst ys])) (xs : List D) (hl : xs.length ≤ 1000000)
    (h : ∀ x ∈ xs, ∀ ys, ∃ ρ1, g x ρ (M ++ [.lst ys]) = some (ρ1, M ++ [.lst ys]) ∧ tt ρ1 (M ++ [.lst ys]) = .ok (p x) (M ++ [.lst ys]) ∧ (p x = true → te ρ1 (M ++ [.lst ys]) = .ok (f x) (M ++ [.lst ys]))) :
    lcL M.length k g tt te ρ xs (M ++ [.lst []]) = .ok (.ref M.length) (M ++ [.lst ((xs.filter p).map f)]) := by
  have hset : ∀ ys, (M ++ [O.lst []]).set M.length (.lst ys) = M ++ [.lst ys] := fun ys => by simp
  have key := lc_pure (l := M.length) (k := k) (g := g) (tt := tt) (te := te) (ρ := ρ) p f (M ++ [.lst []]) (by simp) (fun ys => by rw [hset]; exact hk ys) xs [] (by simpa using lt_line hl) (fun x hx ys => by rw [hset]; exact h x hx ys)
  rw [hset, hset, List.nil_append] at key
  exact key
/-- the same without a test -/
theorem lc_map {k : Option (Nat × O)} {g : RG} {te : RE} {ρ : Env} (f : D → D) (M : Store) (hk : ∀ ys, chk k (M ++ [.lst ys])) (xs : List D) (hl : xs.length ≤ 1000000)
    (h : ∀ x ∈ xs, ∀ ys, ∃ ρ1, g x ρ (M ++ [.lst ys]) = some (ρ1, M ++ [.lst ys]) ∧ te ρ1 (M ++ [.lst ys]) = .ok (f x) (M ++ [.lst ys])) :
    lcL M.length k g rYes te ρ xs (M ++ [.lst []]) = .ok (.ref M.length) (M ++ [.lst (xs.map f)]) := by
  have key := lc_new (k := k) (g := g) (tt := rYes) (te := te) (ρ := ρ) (fun _ => true) f M hk xs hl (fun x hx ys => by
    obtain ⟨ρ1, h1, h2⟩ := h x hx ys
    exact ⟨ρ1, h1, rfl, fun _ => h2⟩)
  have e : xs.filter (fun _ => true) = xs := List.filter_eq_self.mpr fun _ _ => rfl
  rw [e] at key
  exact key
theorem chk_app {l : Nat} {o : O} {M : Store} (h : M[l]? = some o) (ys : List O) : chk (some (l, o)) (M ++ ys) := get_app h ys
end Fl

set_option Elab.async false
set_option linter.all false
set_option maxRecDepth 100000
/-! Fl, part X: texts, f-strings, written tables, is of bools. -/
namespace Fl
open PySem PySem.Spec L2 PyProof.Rows
set_option autoImplicit false
/-! ### is of bools -/
def isBl : D → Bool → Bool
  | .p (.bl a), b => a == b
  | _, _ => false
def dIsB : D → D → Store → Option (D × Store)
  | x, .p (.bl b), M => some (.p (.bl (isBl x b)), M)
  | _, _, _ => none
section
variable {X : Cx}
theorem op_isB : OpR X (compareOp .Is) (fun x y H Q => ∃ b, y = .bl b ∧ Q (.bl (decide (x = .bl b))) H) := by
  intro pins s σ H x y v u Q I rx ry h
  obtain ⟨b, rfl, q⟩ := h
  cases (show u = Value.bool b from ry)
  cases x with
  | bl a =>
    cases (show v = Value.bool a from rx)
    by_cases e : a = b
    · subst e
      exact wpAny_is_self rfl ⟨.bl true, H, I, rfl, by simpa using q⟩
    · exact wpAny_is_other rfl (fun z => e (Value.bool.inj z)) ⟨.bl false, H, I, rfl, by simpa [e] using q⟩
  | non => cases rx; exact wpAny_is_other rfl (fun z => by cases z) ⟨.bl false, H, I, rfl, by simpa using q⟩
  | int i => obtain ⟨t, rfl⟩ := rx; exact wpAny_is_other rfl (fun z => by cases z) ⟨.bl false, H, I, rfl, by simpa using q⟩
  | str i => obtain ⟨t, rfl⟩ := rx; exact wpAny_is_other rfl (fun z => by cases z) ⟨.bl false, H, I, rfl, by simpa using q⟩
  | byt i => obtain ⟨t, rfl⟩ := rx; exact wpAny_is_other rfl (fun z => by cases z) ⟨.bl false, H, I, rfl, by simpa using q⟩
  | flt i => obtain ⟨t, rfl⟩ := rx; exact wpAny_is_other rfl (fun z => by cases z) ⟨.bl false, H, I, rfl, by simpa using q⟩
  | ref a => cases rx; exact wpAny_is_other rfl (fun z => by cases z) ⟨.bl false, H, I, rfl, by simpa using q⟩
  | ty a => cases rx; exact wpAny_is_other rfl (fun z => by cases z) ⟨.bl false, H, I, rfl, by simpa using q⟩
theorem isBl_ok {G : Gm} {μ : List Addr} {H : Hp} {x : D} {v : V} (r : Rep G μ H x v) (b : Bool) : isBl x b = decide (v = .bl b) := by
  unfold isBl
  split
  · rw [Rep.bl] at r
    subst r
    rename_i a _
    cases a <;> cases b <;> simp
  · rename_i h
    cases x with
    | p x => cases x with
      | bl a => exact absurd rfl (h a)
      | non => rw [Rep.non] at r; subst r; simp
      | int i => rw [Rep.int] at r; subst r; simp
      | str i => rw [Rep.str] at r; subst r; simp
      | tup xs => obtain ⟨a, vs, rfl, _⟩ := Rep.ptup.mp r; simp
    | ref l => obtain ⟨a, _, rfl⟩ := Rep.ref.mp r; simp
    | tup xs => obtain ⟨a, vs, rfl, _⟩ := Rep.tup.mp r; simp
    | gl x => simp only [Rep] at r; obtain ⟨a, _, rfl⟩ := r; simp
    | exv x => simp only [Rep] at r; subst r; simp
    | exf a d fs => simp only [Rep] at r; obtain ⟨rfl, _⟩ := r; simp
    | lam i => simp only [Rep] at r; obtain ⟨rfl, _⟩ := r; simp
theorem d_isB {G : Gm} : OpD G dIsB (fun x y H Q => ∃ b, y = .bl b ∧ Q (.bl (decide (x = .bl b))) H) := by
  intro μ H M x y v u Q d M' S rx ry q k
  unfold dIsB at q
  split at q
  · rename_i x' b
    cases q
    rw [Rep.bl] at ry
    subst ry
    refine ⟨b, rfl, ?_⟩
    rw [← isBl_ok rx b]
    exact k μ _ H (.refl _) (List.prefix_refl _) S (Rep.bl.mpr rfl)
  · cases q
end
/-! ### str of an int -/
def numS (i : Int) : Str := toString i
def cStr : List D → Store → Option (D × Store)
  | [.p (.int i)], M => if i.natAbs.log2 < 1920 then some (.p (.str (numS i)), M) else none
  | _, _ => none
theorem d_str {G : Gm} : CallD G cStr (fun xs H Q => ∃ i, xs = [.int i] ∧ i.natAbs.log2 < 1920 ∧ Q (.str (toString i)) H) := by
  intro μ H M xs vs Q d M' S r q k
  unfold cStr at q
  split at q
  · rename_i M0 i
    split at q
    · rename_i hz
      cases q
      obtain ⟨v, rfl, rv⟩ := r.inv1
      rw [Rep.int] at rv
      subst rv
      exact ⟨i, rfl, hz, k μ _ H (.refl _) (List.prefix_refl _) S (Rep.str.mpr rfl)⟩
    · cases q
  · cases q
/-! ### xs.extend(ys), xs.pop(i) -/
def mExtend : D → List D → Store → Option (D × Store)
  | .ref l, [.ref b], M => (match M[l]?, M[b]? with
    | some (.lst xs), some (.lst ys) => if xs.length + ys.length ≤ sizeLine then some (.p .non, M.set l (.lst (xs ++ ys))) else none
    | _, _ => none)
  | _, _, _ => none
theorem d_extend {G : Gm} : MtD G mExtend rExtend := by
  intro μ H M x xs v vs Q d M' S r rs q k
  unfold mExtend at q
  split at q
  · rename_i M0 l b
    split at q
    · rename_i ys zs e1 e2
      split at q
      · rename_i hl
        cases q
        obtain ⟨a, ha, rfl⟩ := Rep.ref.mp r
        obtain ⟨w, rfl, rw⟩ := rs.inv1
        obtain ⟨c, hc, rfl⟩ := Rep.ref.mp rw
        obtain ⟨us, h1, h2⟩ := S.lst ha e1
        obtain ⟨ws, h3, h4⟩ := S.lst hc e2
        have ex := Ext.lst (o := .lst (us ++ ws)) h1
        exact ⟨a, c, us, ws, rfl, rfl, h1, h3, by rw [← h2.length, ← h4.length]; exact hl, k μ _ _ ex (List.prefix_refl _) (S.put (o := .lst (ys ++ zs)) ha e1 rfl rfl (fun ob w z => by rw [h1] at z; cases z) ex ⟨_, upd_same, (h2.app h4).ext ex (List.prefix_refl _)⟩) (Rep.non.mpr rfl)⟩
      · cases q
    · cases q
  · cases q
theorem Reps.erase {G : Gm} {μ : List Addr} {H : Hp} {xs : List D} {vs : List V} (h : Reps G μ H xs vs) (n : Nat) : Reps G μ H (xs.eraseIdx n) (vs.eraseIdx n) := by
  rw [List.eraseIdx_eq_take_drop_succ, List.eraseIdx_eq_take_drop_succ]
  exact (h.take n).app (h.drop (n + 1))
def mPopAt : D → List D → Store → Option (D × Store)
  | .ref l, [.p (.int i)], M => (match M[l]? with
    | some (.lst xs) => if 0 ≤ i ∧ i < 1000000000 then (match xs[i.toNat]? with
      | some y => some (y, M.set l (.lst (xs.eraseIdx i.toNat)))
      | none => none) else none
    | _ => none)
  | _, _, _ => none
theorem d_popAt {G : Gm} : MtD G mPopAt rPopAt := by
  intro μ H M x xs v vs Q d M' S r rs q k
  unfold mPopAt at q
  split at q
  · rename_i M0 l i
    split at q
    · rename_i ys e1
      split at q
      · rename_i hi
        split at q
        · rename_i y hy
          cases q
          obtain ⟨a, ha, rfl⟩ := Rep.ref.mp r
          obtain ⟨w, rfl, rw⟩ := rs.inv1
          rw [Rep.int] at rw
          subst rw
          obtain ⟨us, h1, h2⟩ := S.lst ha e1
          obtain ⟨u, hu, ru⟩ := h2.get hy
          have hlt := (List.getElem?_eq_some_iff.mp hu).1
          have ex := Ext.lst (o := .lst (us.eraseIdx i.toNat)) h1
          have hs : seqIndex? i us.length = some i.toNat := by
            refine (ixN_seq (n := us.length) (i := i) (j := i.toNat) ?_).1
            unfold ixN
            rw [if_pos hi.1, if_pos (by omega)]
          exact ⟨a, us, i, i.toNat, u, rfl, rfl, h1, by omega, by omega, hs, hu, k μ _ _ ex (List.prefix_refl _) (S.put (o := .lst (ys.eraseIdx i.toNat)) ha e1 rfl rfl (fun ob w z => by rw [h1] at z; cases z) ex ⟨_, upd_same, (h2.erase _).ext ex (List.prefix_refl _)⟩) (ru.ext ex (List.prefix_refl _))⟩
        · cases q
      · cases q
    · cases q
  · cases q
/-! ### a method of a text, one argument -/
def isStr : D → Bool
  | .p (.str _) => true
  | _ => false
def rSM (op : D → D → Store → Option (D × Store)) (fo fe : RE) : RE := fun ρ M => (fo ρ M).bind fun x M1 => match isStr x with
  | true => (fe ρ M1).bind fun y M2 => ofO (op x y M2)
  | false => .no
def MsD (G : Gm) (op : D → D → Store → Option (D × Store)) (r : V → List V → Hp → VK → Prop) : Prop :=
  ∀ (μ : List Addr) (H : Hp) (M : Store) (x y : D) (v u : V) (Q : VK) (d : D) (M' : Store), SR G μ H M → Rep G μ H x v → Rep G μ H y u → op x y M = some (d, M') →
    (∀ μ' w H', Ext H H' → μ <+: μ' → SR G μ' H' M' → Rep G μ' H' d w → Q w H') → r v [u] H Q
theorem isStr_ok {G : Gm} {μ : List Addr} {H : Hp} {x : D} {v : V} (r : Rep G μ H x v) (h : isStr x = true) : ∃ a, v = .str a := by
  unfold isStr at h
  split at h
  · rw [Rep.str] at r; exact ⟨_, r⟩
  · cases h
section
variable {X : Cx} {W : WX} {fo fe : RE} {r : V → List V → Hp → VK → Prop} {op : D → D → Store → Option (D × Store)}
theorem sm_in (hd : MsD (gm X) op r) {σ : L2.St} {H : Hp} {Q : VK} (h : tE (gm X) W (rSM op fo fe) σ H Q) : tM1 r (tE (gm X) W fo) (tE (gm X) W fe) σ H Q := by
  refine (tX.bind h).mono fun v H1 ⟨μ, ρ, M, x, hE, hS, rx, hF⟩ => ?_
  have hF : Fin (gm X) (Rep (gm X)) W μ σ H1 Q (match isStr x with
    | true => (fe ρ M).bind fun y M2 => ofO (op x y M2)
    | false => .no) := hF
  cases q : isStr x with
  | false => rw [q] at hF; exact hF.elim
  | true =>
    rw [q] at hF
    refine ⟨isStr_ok rx q, ?_⟩
    have g1 : Go (gm X) (Rep (gm X)) (Rep (gm X)) W (fun x ρ M => (fe ρ M).bind fun y M2 => ofO (op x y M2)) σ Q v H1 := ⟨μ, ρ, M, x, hE, hS, rx, hF⟩
    refine (Go.bind Rep.mono g1).mono fun u H2 ⟨μ2, ρ2, M2, x2, y, hE2, hS2, rx2, ry, hF2⟩ => ?_
    have hF2 : Fin (gm X) (Rep (gm X)) W μ2 σ H2 Q (ofO (op x2 y M2)) := hF2
    cases q2 : op x2 y M2 with
    | none => rw [q2] at hF2; exact hF2.elim
    | some p =>
      obtain ⟨d, M'⟩ := p
      rw [q2] at hF2
      exact hd μ2 H2 M2 x2 y v u Q d M' hS2 rx2 ry q2 hF2
end
/-- the texts of a list -/
def strsOf : List D → Option (List Str)
  | [] => some []
  | .p (.str y) :: r => (strsOf r).map (y :: ·)
  | _ => none
theorem strsOf_map : ∀ ys : List Str, strsOf (ys.map fun y => D.p (.str y)) = some ys
  | [] => rfl
  | y :: ys => by simp [strsOf, strsOf_map ys]
theorem Reps.strs {G : Gm} {μ : List Addr} {H : Hp} : ∀ {xs : List D} {ys : List Str} {vs : List V}, strsOf xs = some ys → Reps G μ H xs vs → vs = ys.map V.str
  | [], ys, vs, e, h => by
    cases e
    rw [h.inv0]
    rfl
  | x :: xs, ys, vs, e, h => by
    obtain ⟨v, r, rfl, h1, h2⟩ := h.inv
    unfold strsOf at e
    split at e
    · rename_i h0; cases h0
    · rename_i y r0 h0
      cases h0
      cases q : strsOf xs with
      | none => rw [q] at e; cases e
      | some zs =>
        rw [q] at e
        cases e
        rw [Rep.str] at h1
        rw [h1, Reps.strs q h2]
        rfl
    · cases e
abbrev rJoinU (K : PySem.W.Frag) : V → List V → Hp → VK → Prop := fun x xs H Q => ∃ a p, ∃ ys : List Str, x = .str a ∧ xs = [.ref p] ∧ (SqL K H p (ys.map V.str) ∨ SqT K H p (ys.map V.str)) ∧
      (ys.map (·.length)).sum + ys.length * a.length ≤ 16777216 ∧ Q (.str (Txt.join a ys)) H
def sJoin : D → D → Store → Option (D × Store)
  | .p (.str a), .ref l, M => (match M[l]? with
    | some (.lst xs) => (match strsOf xs with
      | some ys => if (ys.map (·.length)).sum + ys.length * a.length ≤ 16777216 then some (.p (.str (Txt.join a ys)), M) else none
      | none => none)
    | _ => none)
  | _, _, _ => none
theorem d_join {G : Gm} : MsD G sJoin (rJoinU G.K) := by
  intro μ H M x y v u Q d M' S rx ry q k
  unfold sJoin at q
  split at q
  · rename_i M0 a l
    split at q
    · rename_i xs e1
      split at q
      · rename_i ys e2
        split at q
        · rename_i hz
          cases q
          rw [Rep.str] at rx
          subst rx
          obtain ⟨b, hb, rfl⟩ := Rep.ref.mp ry
          obtain ⟨vs, h1, h2⟩ := S.lst hb e1
          have e3 := Reps.strs e2 h2
          subst e3
          exact ⟨a, b, ys, rfl, rfl, .inl (SqL.of h1), hz, k μ _ H (.refl _) (List.prefix_refl _) S (Rep.str.mpr rfl)⟩
        · cases q
      · cases q
    · cases q
  · cases q
section
variable {X : Cx} {W : WX} {o e : Expr} {fo fe : RE} {apos pos : Pos}
theorem i_join (ho : PE X o (tE (gm X) W fo)) (he : PE X e (tE (gm X) W fe)) (hs : starEach [e] X.env = [(false, eval e X.env)] := by rfl) (hbase : attributeBase o "join" X.env (eval o X.env) = eval o X.env := by rfl) (hline : (apos.endLine == pos.line) = true := by rfl) :
    PE X (.Call (.Attribute o "join" apos) [e] [] pos) (tE (gm X) W (rSM sJoin fo fe)) :=
  PEimp (pe_join ho he hs hbase hline) fun σ H Q h => sm_in d_join h
end
/-! ### f-strings -/
def dFmt : D → Store → Option (D × Store)
  | .p (.str y), M => if y.length ≤ sizeLine then some (.p (.str y), M) else none
  | .p (.int i), M => if i.natAbs.log2 < 1920 then some (.p (.str (numS i)), M) else none
  | _, _ => none
abbrev rFmtU : V → Hp → VK → Prop := fun x H1 Q => (∃ y : Str, x = .str y ∧ y.length ≤ sizeLine ∧ Q (.str y) H1) ∨ ∃ i : Int, x = .int i ∧ i.natAbs.log2 < 1920 ∧ Q (.str (toString i)) H1
theorem d_fmt {G : Gm} : OpU G dFmt rFmtU := by
  intro μ H M x v Q d M' S r q k
  unfold dFmt at q
  split at q
  · split at q
    · rename_i hz
      cases q
      rw [Rep.str] at r
      subst r
      exact .inl ⟨_, rfl, hz, k μ _ H (.refl _) (List.prefix_refl _) S (Rep.str.mpr rfl)⟩
    · cases q
  · split at q
    · rename_i hz
      cases q
      rw [Rep.int] at r
      subst r
      exact .inr ⟨_, rfl, hz, k μ _ H (.refl _) (List.prefix_refl _) S (Rep.str.mpr rfl)⟩
    · cases q
  · cases q
def jsK (acc : Str) (k : Str → Store → R Str) : D → Store → R Str
  | .p (.str y), M1 => if (acc ++ y).length ≤ sizeLine then k (acc ++ y) M1 else .no
  | _, _ => .no
def rJs : List RE → Str → RX Str
  | [], acc => fun _ M => .ok acc M
  | f :: fs, acc => fun ρ M => (f ρ M).bind (jsK acc fun a M1 => rJs fs a ρ M1)
def rFS (fs : List RE) : RE := fun ρ M => (rJs fs Str.empty ρ M).bind fun out M1 => .ok (.p (.str out)) M1
section
variable {X : Cx} {W : WX} {e : Expr} {fe : RE} {pos : Pos}
theorem js_in {G : Gm} : ∀ (fs : List RE) (acc : Str) {σ : L2.St} {H : Hp} {Q : Str → Hp → Prop}, tX G (fun _ _ (a b : Str) => a = b) W (rJs fs acc) σ H Q → tJs (fs.map fun f => tE G W f) acc σ H Q
  | [], acc, σ, H, Q, h => by
    obtain ⟨μ, ρ, M, hE, hS, hF⟩ := h
    exact hF μ acc H (.refl _) (List.prefix_refl _) hS rfl
  | f :: fs, acc, σ, H, Q, h => by
    refine (tX.bind (f := f) (rel := Rep G) (g := fun d ρ M1 => jsK acc (fun a M1 => rJs fs a ρ M1) d M1) h).mono fun v H1 ⟨μ, ρ, M, d, hE, hS, rd, hF⟩ => ?_
    have hF : Fin G (fun _ _ (a b : Str) => a = b) W μ σ H1 Q (jsK acc (fun a M1 => rJs fs a ρ M1) d M) := hF
    unfold jsK at hF
    split at hF
    · rw [Rep.str] at rd
      split at hF
      · rename_i hl
        exact ⟨_, rd, hl, js_in fs _ ⟨μ, ρ, _, hE, hS, hF⟩⟩
      · exact hF.elim
    · exact hF.elim
theorem i_fmt (he : PE X e (tE (gm X) W fe)) : PE X (.FormattedValue e (-1) none pos) (tE (gm X) W (rUn dFmt fe)) := PEimp (pe_fmt he) fun σ H Q h => un_in d_fmt h
theorem i_fs {v1 v2 : Expr} {rest : List Expr} {fs : List RE} (h : PJ X (v1 :: v2 :: rest) (fs.map fun f => tE (gm X) W f)) : PE X (.JoinedStr (v1 :: v2 :: rest) pos) (tE (gm X) W (rFS fs)) :=
  PEimp (pe_joined h) fun σ H Q h => js_in fs Str.empty ((tX.bind (rel := fun _ _ (a b : Str) => a = b) (g := fun (out : Str) (_ : Env) (M1 : Store) => (R.ok (D.p (.str out)) M1 : R D)) h).mono fun out H1 ⟨μ, ρ, M, d, hE, hS, rd, hF⟩ => by
    cases rd
    exact hF μ _ H1 (.refl _) (List.prefix_refl _) hS (Rep.str.mpr rfl))
theorem i_fs1 (he : PE X e (tE (gm X) W fe)) : PE X (.JoinedStr [e] pos) (tE (gm X) W fe) := pe_joined1 he
theorem pj_nil : PJ X [] (([] : List RE).map fun f => tE (gm X) W f) := PJ.nil
theorem pj_cons {es : List Expr} {fs : List RE} (he : PE X e (tE (gm X) W fe)) (h : PJ X es (fs.map fun f => tE (gm X) W f)) : PJ X (e :: es) ((fe :: fs).map fun f => tE (gm X) W f) := PJ.cons he h
end
/-! ### written tables with text keys -/
structure Dtb (K : PySem.W.Frag) (mg : Str → Option Value) (w : World) (x : Str) (kvs : List (Str × P)) : Prop where
  ex : ∃ (a : Addr) (es : Array DictEntry) (n : Nat), mg x = some (.ref a) ∧ KDict K w a es n ∧ ∀ q ∈ kvs, ∃ u, PySem.W.nsIn K a q.1 = some (some u) ∧ pB K q.2 u = true
def dTab (x : Str) (kvs : List (Str × P)) : D → D → Store → Option (D × Store)
  | .gl y, .p (.str z), M => if y = x then (kvs.lookup z).map fun p => (.p p, M) else none
  | _, _, _ => none
theorem lookup_in {α : Type} : ∀ {l : List (Str × α)} {k : Str} {v : α}, l.lookup k = some v → (k, v) ∈ l
  | (k0, v0) :: l, k, v, h => by
    rw [List.lookup_cons] at h
    split at h
    · rename_i e
      cases h
      rw [eq_of_beq e]
      exact List.mem_cons_self
    · exact List.mem_cons_of_mem _ (lookup_in h)
theorem d_tab {X : Cx} {x : Str} {kvs : List (Str × P)} (T : Dtb X.K X.mg X.w x kvs) : OpD (gm X) (dTab x kvs) (rIxD X.K X.w) := by
  intro μ H M x0 y v u Q d M' S rx ry q k
  unfold dTab at q
  split at q
  · rename_i M0 y0 z
    split at q
    · rename_i e0
      subst e0
      cases q2 : kvs.lookup z with
      | none => rw [q2] at q; cases q
      | some p =>
        rw [q2] at q
        cases q
        obtain ⟨a, es, n, g, D, hk⟩ := T.ex
        simp only [Rep] at rx
        obtain ⟨b, hb, rfl⟩ := rx
        have e1 : (gm X).mg y0 = some (.ref a) := g
        rw [e1] at hb
        cases hb
        rw [Rep.str] at ry
        subst ry
        obtain ⟨u, h1, h2⟩ := hk _ (lookup_in q2)
        obtain ⟨v, r1, r2⟩ := pB_ok h2
        exact ⟨a, z, v, rfl, rfl, ⟨es, n, u, D.at_, D.lit, h1, r1⟩, k μ v H (.refl _) (List.prefix_refl _) S (by simp only [Rep]; exact r2 H)⟩
    · cases q
  · cases q
theorem dtb_cst {K : PySem.W.Frag} {mg : Str → Option Value} {w : World} {x : Str} {kvs : List (Str × P)} (T : Dtb K mg w x kvs) : Cst ⟨K, mg⟩ x (.gl x) := by
  obtain ⟨a, es, n, g, D, hk⟩ := T.ex
  exact ⟨.ref a, .ref a, g, rfl, fun μ H => by simp only [Rep]; exact ⟨a, g, rfl⟩⟩
/-- the values of a table -/
def tbB (K : PySem.W.Frag) (x : Str) (kvs : List (Str × P)) : Bool := kvs.all fun q => match PySem.W.nsIn K (He.ga K x) q.1 with
  | some (some u) => pB K q.2 u
  | _ => false
abbrev Tb : Type := Str × List (Str × P)
abbrev AlY : Type := (He.AlD × Bool) × (Bool × List (Option (List (Option (Str × Int)))))
def obsY (fa : List He.Fa) (fn : List He.DefD) (cs : List (Str × CK)) (ts : List Tb) (K : PySem.W.Frag) : AlY := (obsX fa fn cs K, (ts.all fun t => tbB K t.1 t.2, ts.map fun t => He.dicW K (He.ga K t.1)))
def valY (fn : List He.DefD) (ts : List Tb) (w : World) : AlY := (valX fn, (true, ts.map fun t => some (He.keysIn w.params (t.2.map (·.1)))))
def obsYG (n : Nat) (fa : List He.Fa) (fn : List He.DefD) (cs : List (Str × CK)) (ts : List Tb) (g : Addr → Option Obj) : AlY := obsY fa fn cs ts (He.frG g (He.asD g n))
structure SaysY (fa : List He.Fa) (fn : List He.DefD) (cs : List (Str × CK)) (ts : List Tb) (w : World) (K : PySem.W.Frag) : Prop where
  d : He.SaysD fa fn K
  c : ∀ q ∈ cs, cK K q.1 q.2 = true
  t : ∀ q ∈ ts, tbB K q.1 q.2 = true ∧ He.dicW K (He.ga K q.1) = some (He.keysIn w.params (q.2.map (·.1)))
theorem map_eq_mem {α β : Type} {f g : α → β} : ∀ {l : List α}, l.map f = l.map g → ∀ x ∈ l, f x = g x
  | a :: l, h, x, hx => by
    simp only [List.map_cons, List.cons.injEq] at h
    rcases List.mem_cons.mp hx with rfl | hx
    · exact h.1
    · exact map_eq_mem h.2 x hx
def hookY (n : Nat) (fa : List He.Fa) (fn : List He.DefD) (cs : List (Str × CK)) (ts : List Tb) : PySem.W.Hook where
  α := AlY
  obs := fun s => obsYG n fa fn cs ts s.heap.get?
  val := fun w => valY fn ts w
  says := fun w h => ∃ K : PySem.W.Frag, K.In h ∧ SaysY fa fn cs ts w K
  of := fun _ _ e => ⟨_, He.frG_in, congrArg (fun z : AlY => z.1.1) e, List.all_eq_true.mp (congrArg (fun z : AlY => z.1.2) e), fun q hq => ⟨List.all_eq_true.mp (congrArg (fun z : AlY => z.2.1) e) q hq, map_eq_mem (congrArg (fun z : AlY => z.2.2) e) q hq⟩⟩
  keeps := fun _ _ _ ⟨K, hK, c⟩ k => ⟨K, PySem.W.Frag.In.keeps hK k, c⟩
theorem obsYG_eq {n : Nat} {fa : List He.Fa} {fn : List He.DefD} {cs : List (Str × CK)} {ts : List Tb} {g : Addr → Option Obj} {s : Shared} (h : ∀ a, g a = s.heap.get? a) : obsYG n fa fn cs ts g = (hookY n fa fn cs ts).obs s := by
  have e : g = s.heap.get? := funext h
  rw [e] <;> rfl
theorem dtb_ok {K : PySem.W.Frag} {mg : Str → Option Value} {h : Heap} {w : World} {fa : List He.Fa} {fn : List He.DefD} {cs : List (Str × CK)} {ts : List Tb} {t : Tb} (X : K.In h) (G : h.Ns mainGlobals mg) (c : SaysY fa fn cs ts w K) (ht : t ∈ ts) (g : (He.Fa.glo t.1).ok K = true) : Dtb K mg w t.1 t.2 := by
  obtain ⟨h1, h2⟩ := c.t t ht
  obtain ⟨es, n, D⟩ := He.dicW_ok h2
  refine ⟨_, es, n, He.glo_ok X G g, D, fun q hq => ?_⟩
  have h3 := List.all_eq_true.mp h1 q hq
  split at h3
  · rename_i u e
    exact ⟨u, e, h3⟩
  · cases h3
/-! ### readings -/
section
variable (ρ : Env) (M : Store)
@[simp] theorem e_SM (op fo fe) : rSM op fo fe ρ M = (fo ρ M).bind fun x M1 => if isStr x = true then (fe ρ M1).bind fun y M2 => ofO (op x y M2) else .no := by
  unfold rSM
  congr 1
  funext x M1
  cases isStr x <;> rfl
@[simp] theorem e_FS (fs : List RE) : rFS fs ρ M = (rJs fs Str.empty ρ M).bind fun out M1 => .ok (.p (.str out)) M1 := (rfl)
@[simp] theorem e_Js0 (acc : Str) : rJs [] acc ρ M = .ok acc M := (rfl)
@[simp] theorem e_Js1 (f : RE) (fs : List RE) (acc : Str) : rJs (f :: fs) acc ρ M = (f ρ M).bind (jsK acc fun a M1 => rJs fs a ρ M1) := (rfl)
@[simp] theorem e_jsK (acc : Str) (k : Str → Store → R Str) (y : Str) : jsK acc k (.p (.str y)) M = if (acc ++ y).length ≤ sizeLine then k (acc ++ y) M else .no := (rfl)
@[simp] theorem v_isStr (y : Str) : isStr (.p (.str y)) = true := (rfl)
@[simp] theorem v_isB (x : D) (b : Bool) : dIsB x (.p (.bl b)) M = some (.p (.bl (isBl x b)), M) := (rfl)
@[simp] theorem v_isBl_b (a b : Bool) : isBl (.p (.bl a)) b = (a == b) := (rfl)
@[simp] theorem v_isBl_n (b : Bool) : isBl (.p .non) b = false := (rfl)
@[simp] theorem v_isBl_i (i : Int) (b : Bool) : isBl (.p (.int i)) b = false := (rfl)
@[simp] theorem v_isBl_s (i : Str) (b : Bool) : isBl (.p (.str i)) b = false := (rfl)
@[simp] theorem v_isBl_t (xs : List P) (b : Bool) : isBl (.p (.tup xs)) b = false := (rfl)
theorem v_str (i : Int) (h : i.natAbs.log2 < 1920) : cStr [.p (.int i)] M = some (.p (.str (numS i)), M) := by simp [cStr, h]
theorem v_fmt_i (i : Int) (h : i.natAbs.log2 < 1920) : dFmt (.p (.int i)) M = some (.p (.str (numS i)), M) := by simp [dFmt, h]
theorem v_fmt_s (y : Str) (h : y.length ≤ sizeLine) : dFmt (.p (.str y)) M = some (.p (.str y), M) := by simp [dFmt, h]
theorem v_tab (x : Str) (kvs : List (Str × P)) (z : Str) (p : P) (h : kvs.lookup z = some p) : dTab x kvs (.gl x) (.p (.str z)) M = some (.p p, M) := by simp [dTab, h]
theorem v_extend (l b : Nat) (xs ys : List D) (h : M[l]? = some (.lst xs)) (h2 : M[b]? = some (.lst ys)) (hl : xs.length + ys.length ≤ sizeLine) : mExtend (.ref l) [.ref b] M = some (.p .non, M.set l (.lst (xs ++ ys))) := by simp [mExtend, h, h2, hl]
theorem v_popAt (l : Nat) (xs : List D) (i : Nat) (y : D) (h : M[l]? = some (.lst xs)) (hi : xs[i]? = some y) (hs : i < 1000000000) : mPopAt (.ref l) [.p (.int i)] M = some (y, M.set l (.lst (xs.eraseIdx i))) := by
  have h1 : (0 : Int) ≤ (i : Int) ∧ (i : Int) < 1000000000 := by omega
  simp [mPopAt, h, h1, hi]
theorem v_join (a : Str) (l : Nat) (ys : List Str) (h : M[l]? = some (.lst (ys.map fun y => D.p (.str y)))) (hz : (ys.map (·.length)).sum + ys.length * a.length ≤ 16777216) : sJoin (.p (.str a)) (.ref l) M = some (.p (.str (Txt.join a ys)), M) := by simp [sJoin, h, strsOf_map, hz]
end
end Fl

set_option Elab.async false
set_option linter.all false
set_option maxRecDepth 100000
/-! Fl, part Y: walks over texts, a sign in a text. -/
namespace Fl
open PySem PySem.Spec L2 PyProof.Rows
set_option autoImplicit false
def signsD (z : Str) : List D := z.cps.toList.map fun c => .p (.str ⟨#[c]⟩)
def walkS : D → Option (List D × Option (Nat × O))
  | .p (.str z) => some (signsD z, none)
  | _ => none
def wStr (f : RE) : RW := fun ρ M => (f ρ M).bind fun d M1 => ofW (walkS d) M1
theorem wk_str {G : Gm} {z : Str} {μ : List Addr} {H : Hp} : Wk G (Its z) none (signsD z) μ H := by
  refine ⟨fun _ _ => True, fun _ _ _ _ _ _ z => z, ?_, ?_, ?_, trivial⟩
  · rintro i μ H M hi _ _ _
    show i < z.cps.size
    simpa [signsD] using hi
  · rintro μ H M _ _ _
    show z.cps.size ≤ _
    simp [signsD]
  · rintro i μ H M w H' hi S _ _ ⟨rfl, c, h1, rfl⟩
    refine ⟨.p (.str ⟨#[c]⟩), ?_, .refl _, S, Rep.str.mpr rfl⟩
    unfold signsD
    rw [List.getElem?_map, Array.getElem?_toList, h1]
    rfl
theorem wi_str {X : Cx} {W : WX} {e tg : Expr} {fe : RE} (he : PE X e (tE (gm X) W fe)) : PI X tg e (tW (gm X) W (wStr fe)) :=
  PIimp (pi_str he) fun σ H R h => by
    refine (tX.bind (f := fe) (g := fun d ρ M1 => ofW (walkS d) M1) (rel := Rep (gm X)) h).mono fun v H1 ⟨μ, ρ, M, d, hE, hS, rd, hF⟩ => ?_
    have hF : Fin (gm X) _ W μ σ H1 R (ofW (walkS d) M) := hF
    cases q : walkS d with
    | none => rw [q] at hF; exact hF.elim
    | some p =>
      obtain ⟨xs, k⟩ := p
      rw [q] at hF
      unfold walkS at q
      split at q
      · cases q
        rw [Rep.str] at rd
        exact ⟨_, rd, hF μ _ H1 (.refl _) (List.prefix_refl _) hS wk_str⟩
      · cases q
/-! ### in -/
def sgn (a z : Str) : Option Bool := match a.cps.toList with
  | [c] => some (decide (c ∈ z.cps.toList))
  | _ => none
theorem sgn_ok {a z : Str} {b : Bool} (h : sgn a z = some b) : ∃ c, a = ⟨#[c]⟩ ∧ b = decide (c ∈ z.cps.toList) := by
  unfold sgn at h
  cases e : a.cps.toList with
  | nil => rw [e] at h; cases h
  | cons c r =>
    rw [e] at h
    cases r with
    | nil =>
      refine ⟨c, ?_, (Option.some.inj h).symm⟩
      cases a with
      | mk cps => exact congrArg Str.mk (Array.toList_inj.mp e)
    | cons _ _ => cases h
def dInX : D → D → Store → Option (D × Store)
  | .p (.str a), .p (.str z), M => (sgn a z).map fun b => (.p (.bl b), M)
  | x, y, M => dIn x y M
def dNotInX : D → D → Store → Option (D × Store)
  | .p (.str a), .p (.str z), M => (sgn a z).map fun b => (.p (.bl (!b)), M)
  | x, y, M => dNotIn x y M
theorem o_inX {X : Cx} (hu : X.A.units + 120 < cLine) : OpR X (compareOp .In) (fun x y H Q => rInP X.K false x y H Q ∨ ∃ (c : Nat) (z : Str), x = .str ⟨#[c]⟩ ∧ y = .str z ∧ Q (.bl (decide (c ∈ z.cps.toList))) H) := (o_in hu).or op_in_sign
theorem o_notInX {X : Cx} (hu : X.A.units + 120 < cLine) : OpR X (compareOp .NotIn) (fun x y H Q => rInP X.K true x y H Q ∨ ∃ (c : Nat) (z : Str), x = .str ⟨#[c]⟩ ∧ y = .str z ∧ Q (.bl (!decide (c ∈ z.cps.toList))) H) := (o_notIn hu).or op_notIn_sign
theorem d_inX {G : Gm} : OpD G dInX (fun x y H Q => rInP G.K false x y H Q ∨ ∃ (c : Nat) (z : Str), x = .str ⟨#[c]⟩ ∧ y = .str z ∧ Q (.bl (decide (c ∈ z.cps.toList))) H) := by
  intro μ H M x y v u Q d M' S rx ry q k
  unfold dInX at q
  split at q
  · rename_i M0 a z
    obtain ⟨b, e1, e2⟩ := Option.map_eq_some_iff.mp q
    cases e2
    obtain ⟨c, rfl, rfl⟩ := sgn_ok e1
    rw [Rep.str] at rx ry
    exact .inr ⟨c, z, rx, ry, k μ _ H (.refl _) (List.prefix_refl _) S (Rep.bl.mpr rfl)⟩
  · exact .inl (d_in μ H M x y v u Q d M' S rx ry q k)
theorem d_notInX {G : Gm} : OpD G dNotInX (fun x y H Q => rInP G.K true x y H Q ∨ ∃ (c : Nat) (z : Str), x = .str ⟨#[c]⟩ ∧ y = .str z ∧ Q (.bl (!decide (c ∈ z.cps.toList))) H) := by
  intro μ H M x y v u Q d M' S rx ry q k
  unfold dNotInX at q
  split at q
  · rename_i M0 a z
    obtain ⟨b, e1, e2⟩ := Option.map_eq_some_iff.mp q
    cases e2
    obtain ⟨c, rfl, rfl⟩ := sgn_ok e1
    rw [Rep.str] at rx ry
    exact .inr ⟨c, z, rx, ry, k μ _ H (.refl _) (List.prefix_refl _) S (Rep.bl.mpr rfl)⟩
  · exact .inl (d_notIn μ H M x y v u Q d M' S rx ry q k)
section
variable (ρ : Env) (M : Store)
@[simp] theorem e_wStr (f : RE) : wStr f ρ M = (f ρ M).bind fun d M1 => ofW (walkS d) M1 := (rfl)
@[simp] theorem v_walkS (z : Str) : walkS (.p (.str z)) = some (signsD z, none) := (rfl)
@[simp] theorem v_in_sign (c : Nat) (z : Str) : dInX (.p (.str ⟨#[c]⟩)) (.p (.str z)) M = some (.p (.bl (decide (c ∈ z.cps.toList))), M) := (rfl)
@[simp] theorem v_notIn_sign (c : Nat) (z : Str) : dNotInX (.p (.str ⟨#[c]⟩)) (.p (.str z)) M = some (.p (.bl (!decide (c ∈ z.cps.toList))), M) := (rfl)
theorem v_in_t (x : P) (xs : List P) (h : x.depth ≤ 100) : dInX (.p x) (.p (.tup xs)) M = some (.p (.bl (xs.any fun z => P.eqv z x)), M) := by
  have e : dInX (.p x) (.p (.tup xs)) M = dIn (.p x) (.p (.tup xs)) M := by cases x <;> rfl
  rw [e]
  simp [dIn, rowP, h]
theorem v_notIn_t (x : P) (xs : List P) (h : x.depth ≤ 100) : dNotInX (.p x) (.p (.tup xs)) M = some (.p (.bl (!xs.any fun z => P.eqv z x)), M) := by
  have e : dNotInX (.p x) (.p (.tup xs)) M = dNotIn (.p x) (.p (.tup xs)) M := by cases x <;> rfl
  rw [e]
  simp [dNotIn, rowP, h]
theorem v_in_l (x : P) (l : Nat) (xs : List P) (h : x.depth ≤ 100) (hl : M[l]? = some (.lst (xs.map D.p))) : dInX (.p x) (.ref l) M = some (.p (.bl (xs.any fun z => P.eqv z x)), M) := by
  have e : dInX (.p x) (.ref l) M = dIn (.p x) (.ref l) M := by cases x <;> rfl
  rw [e]
  simp [dIn, rowP, h, hl, allP_map]
theorem v_notIn_l (x : P) (l : Nat) (xs : List P) (h : x.depth ≤ 100) (hl : M[l]? = some (.lst (xs.map D.p))) : dNotInX (.p x) (.ref l) M = some (.p (.bl (!xs.any fun z => P.eqv z x)), M) := by
  have e : dNotInX (.p x) (.ref l) M = dNotIn (.p x) (.ref l) M := by cases x <;> rfl
  rw [e]
  simp [dNotIn, rowP, h, hl, allP_map]
end
end Fl
namespace Fl
open PySem PySem.Spec L2 PyProof.Rows
set_option autoImplicit false
/-! ### loops over what is no list of the store: turn by turn -/
def loopK : Out → (Env → Store → Out) → Out
  | .nx ρ M, k => k ρ M
  | .ct ρ M, k => k ρ M
  | .bk ρ M, _ => .nx ρ M
  | o, _ => o
@[simp] theorem loopK_nx (ρ M k) : loopK (.nx ρ M) k = k ρ M := (rfl)
@[simp] theorem loopK_ct (ρ M k) : loopK (.ct ρ M) k = k ρ M := (rfl)
@[simp] theorem loopK_bk (ρ M k) : loopK (.bk ρ M) k = .nx ρ M := (rfl)
@[simp] theorem loopK_rt (d M k) : loopK (.rt d M) k = .rt d M := (rfl)
@[simp] theorem loopK_ex (c fs ρ M k) : loopK (.ex c fs ρ M) k = .ex c fs ρ M := (rfl)
@[simp] theorem loopK_no (k) : loopK .no k = .no := (rfl)
@[simp] theorem forL0_nil (g : RG) (body : RS) (ρ : Env) (M : Store) : forL none g body [] ρ M = .nx ρ M := by
  unfold forL
  exact if_pos True.intro
@[simp] theorem forL0_cons (g : RG) (body : RS) (x : D) (xs : List D) (ρ : Env) (M : Store) : forL none g body (x :: xs) ρ M = oK (g x ρ M) fun ρ1 M1 => loopK (body ρ1 M1) fun ρ2 M2 => forL none g body xs ρ2 M2 := by
  conv => lhs; unfold forL
  rw [if_pos (show chk none M from True.intro)]
  cases g x ρ M with
  | none => rfl
  | some p =>
    obtain ⟨ρ1, M1⟩ := p
    show (match body ρ1 M1 with | _ => _) = loopK (body ρ1 M1) _
    cases body ρ1 M1 <;> rfl
/-- every turn goes on, the store stays -/
theorem forL_ok {σ : Type} {g : RG} {body : RS} (st : σ → Env) (M : Store) : ∀ (xs : List D), (∀ x ∈ xs, ∀ s, ∃ ρ1 s', g x (st s) M = some (ρ1, M) ∧ body ρ1 M = .nx (st s') M) → ∀ s, ∃ s', forL none g body xs (st s) M = .nx (st s') M
  | [], _, s => ⟨s, by simp⟩
  | x :: xs, h, s => by
    obtain ⟨ρ1, s1, h1, h2⟩ := h x List.mem_cons_self s
    obtain ⟨s2, h3⟩ := forL_ok st M xs (fun y hy => h y (List.mem_cons_of_mem _ hy)) s1
    exact ⟨s2, by rw [forL0_cons, h1, oK_some, h2, loopK_nx, h3]⟩
/-! ### texts put together -/
def catS : List Str → Str
  | [] => Str.empty
  | y :: ys => y ++ catS ys
inductive EvS (ρ : Env) (M : Store) : List RE → List Str → Prop where
  | nil : EvS ρ M [] []
  | lit {y : Str} {fs : List RE} {ys : List Str} (h : y.length ≤ 4000) (r : EvS ρ M fs ys) : EvS ρ M (rC (.p (.str y)) :: fs) (y :: ys)
  | val {f : RE} {y : Str} {fs : List RE} {ys : List Str} (e : f ρ M = .ok (.p (.str y)) M) (h : y.length ≤ 4000) (r : EvS ρ M fs ys) : EvS ρ M (f :: fs) (y :: ys)
theorem js_ok {ρ : Env} {M : Store} {fs : List RE} {ys : List Str} (h : EvS ρ M fs ys) : ∀ acc : Str, acc.length + 4000 * fs.length ≤ 1000000 → rJs fs acc ρ M = .ok (acc ++ catS ys) M := by
  induction h with
  | nil =>
    intro acc _
    show R.ok acc M = _
    rw [catS, Str.append_empty]
  | lit h r ih =>
    intro acc hl
    simp only [List.length_cons] at hl
    rw [e_Js1, e_C, R.bind_ok, e_jsK, if_pos (le_line (by rw [Str.length_append]; omega)), ih _ (by rw [Str.length_append]; omega), catS, Str.append_assoc]
  | val e h r ih =>
    intro acc hl
    simp only [List.length_cons] at hl
    rw [e_Js1, e, R.bind_ok, e_jsK, if_pos (le_line (by rw [Str.length_append]; omega)), ih _ (by rw [Str.length_append]; omega), catS, Str.append_assoc]
theorem fs_ok {ρ : Env} {M : Store} {fs : List RE} {ys : List Str} (h : EvS ρ M fs ys) (hl : fs.length ≤ 200) : rFS fs ρ M = .ok (.p (.str (catS ys))) M := by
  rw [e_FS, js_ok h _ (by show 0 + _ ≤ _; omega), R.bind_ok, Str.empty_append]
theorem v_adds (x y : Str) (M : Store) (h : x.length + y.length ≤ 16000000) : dAdd (.p (.str x)) (.p (.str y)) M = some (.p (.str (x ++ y)), M) := by
  have e : x.length + y.length ≤ sizeLine := by rw [sizeLine_eq]; omega
  simp [dAdd, e]
theorem join_cons (a x : Str) : ∀ ys : List Str, Txt.join a (x :: ys) = x ++ catS (ys.map (a ++ ·)) := by
  intro ys
  unfold Txt.join
  rw [StrLaws.glued_eq_join]
  induction ys generalizing x with
  | nil => rw [List.map_nil, catS, Str.append_empty]; rfl
  | cons y ys ih =>
    show x ++ a ++ Str.join a (y :: ys) = _
    rw [ih y, List.map_cons, catS, Str.append_assoc, Str.append_assoc]
theorem join_empty : ∀ ys : List Str, Txt.join (("" : Str)) ys = catS ys
  | [] => rfl
  | x :: ys => by
    rw [join_cons]
    have e : ys.map ((("" : Str)) ++ ·) = ys := by
      conv => rhs; rw [← List.map_id ys]
      exact List.map_congr_left fun y _ => Str.empty_append y
    rw [e, catS]
theorem catS_app : ∀ xs ys : List Str, catS (xs ++ ys) = catS xs ++ catS ys
  | [], ys => by rw [List.nil_append, catS, Str.empty_append]
  | x :: xs, ys => by rw [List.cons_append, catS, catS, catS_app xs ys, Str.append_assoc]
theorem numS_len (n : Nat) (h : n ≤ 10000000) : (numS (n : Int)).length ≤ 1921 ∧ (n : Int).natAbs.log2 < 1920 := by
  have e : (n : Int).natAbs.log2 < 1920 := by
    rw [Int.natAbs_natCast]
    by_cases h0 : n = 0
    · subst h0; decide
    · exact Nat.lt_of_lt_of_le ((Nat.log2_lt h0).mpr (Nat.lt_of_le_of_lt h (by decide : 10000000 < 2 ^ 24))) (by decide)
  exact ⟨int_text_len_1921 e, e⟩
theorem str_lit_eq (a b : String) : ((a : Str) = (b : Str)) = (a = b) := by
  refine propext ⟨fun h => ?_, fun h => by rw [h]⟩
  rw [Str.ofString_eq_toList, Str.ofString_eq_toList] at h
  have h1 : a.toList.map Char.toNat = b.toList.map Char.toNat := by
    have := congrArg (fun z : Str => z.cps.toList) h
    simpa using this
  have inj : ∀ {c d : Char}, c.toNat = d.toNat → c = d := fun {c d} e => Char.ext (UInt32.toNat_inj.mp e)
  have h2 : a.toList = b.toList := by
    generalize a.toList = x at h1
    generalize b.toList = y at h1
    induction x generalizing y with
    | nil => cases y with
      | nil => rfl
      | cons d y => simp at h1
    | cons c x ih => cases y with
      | nil => simp at h1
      | cons d y =>
        simp only [List.map_cons, List.cons.injEq] at h1
        rw [inj h1.1, ih y h1.2]
  exact String.toList_inj.mp h2
theorem EvS.num {ρ : Env} {M : Store} {f : RE} {n : Nat} {fs : List RE} {ys : List Str} (h : n ≤ 10000000) (e : f ρ M = .ok (.p (.str (numS (n : Int)))) M) (r : EvS ρ M fs ys) : EvS ρ M (f :: fs) (numS (n : Int) :: ys) := .val e (by have := (numS_len n h).1; omega) r
theorem EvS.txt {ρ : Env} {M : Store} {f : RE} (y : Str) {fs : List RE} {ys : List Str} (h : y.length ≤ 4000) (e : f ρ M = .ok (.p (.str y)) M) (r : EvS ρ M fs ys) : EvS ρ M (f :: fs) (y :: ys) := .val e h r
theorem v_eqv_tt (xs ys : List P) : P.eqv (.tup xs) (.tup ys) = P.eqvs xs ys := by rw [P.eqv]
theorem v_eqvs_c (x y : P) (xs ys : List P) : P.eqvs (x :: xs) (y :: ys) = (P.eqv x y && P.eqvs xs ys) := by rw [P.eqvs]
theorem v_eqvs_n : P.eqvs [] [] = true := by rw [P.eqvs]
end Fl

set_option Elab.async false
set_option linter.all false
set_option maxRecDepth 100000
/-! Fl, part Z: equality of data with lists in it, xs[a:b] = ys, except X as e. -/
namespace Fl
open PySem PySem.Spec L2 PyProof.Rows
set_option autoImplicit false
/-! ### data with lists -/
mutual
def pyP : P → PyData
  | .non => .none
  | .bl b => .bool b
  | .int i => .int i
  | .str x => .str x
  | .tup xs => .tuple (pyPs xs)
def pyPs : List P → List PyData
  | [] => []
  | x :: xs => pyP x :: pyPs xs
end
def allD (f : D → Option PyData) : List D → Option (List PyData)
  | [] => some []
  | x :: xs => (f x).bind fun y => (allD f xs).map fun r => y :: r
def datN (M : Store) : Nat → D → Option PyData
  | 0, x => (match x with
    | .p x => some (pyP x)
    | _ => none)
  | n + 1, x => (match x with
    | .p x => some (pyP x)
    | .ref l => (match M[l]? with
      | some (.lst xs) => (allD (datN M n) xs).map .list
      | some (.ro xs) => (allD (datN M n) xs).map .list
      | _ => none)
    | .tup xs => (allD (datN M n) xs).map .tuple
    | _ => none)
mutual
theorem pyP_ok {K : PySem.W.Frag} {H : Hp} : ∀ {x : P} {v : V}, RepP K H x v → Dp K H v (pyP x)
  | .non, v, h => by simp only [RepP] at h; subst h; exact .non
  | .bl b, v, h => by simp only [RepP] at h; subst h; exact .bl b
  | .int b, v, h => by simp only [RepP] at h; subst h; exact .int b
  | .str b, v, h => by simp only [RepP] at h; subst h; exact .str b
  | .tup xs, v, h => by
    simp only [RepP] at h
    obtain ⟨a, vs, rfl, h1, h2⟩ := h
    exact .tup h1 (pyPs_ok h2)
theorem pyPs_ok {K : PySem.W.Frag} {H : Hp} : ∀ {xs : List P} {vs : List V}, RepPs K H xs vs → DpAll K H vs (pyPs xs)
  | [], vs, h => by simp only [RepPs] at h; subst h; exact .nil
  | x :: xs, vs, h => by
    simp only [RepPs] at h
    obtain ⟨v, r, rfl, h1, h2⟩ := h
    exact .cons (pyP_ok h1) (pyPs_ok h2)
end
section
variable {G : Gm} {μ : List Addr} {H : Hp} {M : Store}
theorem allD_ok {f : D → Option PyData} (hf : ∀ x v d, Rep G μ H x v → f x = some d → Dp G.K H v d) : ∀ {xs : List D} {vs : List V} {ds : List PyData}, Reps G μ H xs vs → allD f xs = some ds → DpAll G.K H vs ds
  | [], vs, ds, r, h => by
    rw [r.inv0]
    cases h
    exact .nil
  | x :: xs, vs, ds, r, h => by
    obtain ⟨v, w, rfl, r1, r2⟩ := r.inv
    obtain ⟨y, h1, h2⟩ := Option.bind_eq_some_iff.mp h
    obtain ⟨z, h3, rfl⟩ := Option.map_eq_some_iff.mp h2
    exact .cons (hf _ _ _ r1 h1) (allD_ok hf r2 h3)
theorem datN_ok (S : SR G μ H M) : ∀ (n : Nat) (x : D) (v : V) (d : PyData), Rep G μ H x v → datN M n x = some d → Dp G.K H v d
  | 0, x, v, d, r, h => by
    unfold datN at h
    split at h
    · cases h
      simp only [Rep] at r
      exact pyP_ok r
    · cases h
  | n + 1, x, v, d, r, h => by
    unfold datN at h
    split at h
    · cases h
      simp only [Rep] at r
      exact pyP_ok r
    · rename_i l
      obtain ⟨a, h1, rfl⟩ := Rep.ref.mp r
      split at h
      · rename_i xs e
        obtain ⟨ds, h2, rfl⟩ := Option.map_eq_some_iff.mp h
        obtain ⟨vs, h3, h4⟩ := S.lst h1 e
        exact .lst (SqL.of h3) (allD_ok (datN_ok S n) h4 h2)
      · rename_i xs e
        obtain ⟨ds, h2, rfl⟩ := Option.map_eq_some_iff.mp h
        obtain ⟨vs, h3, h4⟩ := S.obj _ a _ h1 e
        exact .lst h3.sql (allD_ok (datN_ok S n) h4 h2)
      · cases h
    · rename_i xs
      obtain ⟨ds, h2, rfl⟩ := Option.map_eq_some_iff.mp h
      obtain ⟨a, vs, rfl, h3, h4⟩ := Rep.tup.mp r
      exact .tup h3 (allD_ok (datN_ok S n) h4 h2)
    · cases h
end
def eqvD (x y : D) (M : Store) : Option Bool := match datN M 8 x, datN M 8 y with
  | some d, some e => if (SeqAt.shaped d && SeqAt.shaped e) = true then some (PyData.eqv d e) else none
  | _, _ => none
def dEqX (x y : D) (M : Store) : Option (D × Store) := match dEq x y M with
  | some r => some r
  | none => (eqvD x y M).map fun b => (.p (.bl b), M)
def dNeX (x y : D) (M : Store) : Option (D × Store) := match dNe x y M with
  | some r => some r
  | none => (eqvD x y M).map fun b => (.p (.bl (!b)), M)
section
variable {X : Cx} {G : Gm}
theorem o_eqX (hu : X.A.units + 120 < cLine) : OpR X (compareOp .Eq) (fun x y H Q => rEqP X.K x y H Q ∨ rEqD X.K x y H Q) := (o_eq hu).or (op_eqD (by omega))
theorem o_neX (hu : X.A.units + 120 < cLine) : OpR X (compareOp .NotEq) (fun x y H Q => rNeP X.K x y H Q ∨ rNeD X.K x y H Q) := (o_ne hu).or (op_neD (by omega))
theorem eqvD_ok {μ : List Addr} {H : Hp} {M : Store} {x y : D} {v u : V} {b : Bool} (S : SR G μ H M) (rx : Rep G μ H x v) (ry : Rep G μ H y u) (h : eqvD x y M = some b) :
    ∃ d e, Dp G.K H v d ∧ Dp G.K H u e ∧ SeqAt.shaped d = true ∧ SeqAt.shaped e = true ∧ PyData.eqv d e = b := by
  unfold eqvD at h
  split at h
  · rename_i d e h1 h2
    split at h
    · rename_i h3
      cases h
      rw [Bool.and_eq_true] at h3
      exact ⟨d, e, datN_ok S _ _ _ _ rx h1, datN_ok S _ _ _ _ ry h2, h3.1, h3.2, rfl⟩
    · cases h
  · cases h
theorem d_eqX : OpD G dEqX (fun x y H Q => rEqP G.K x y H Q ∨ rEqD G.K x y H Q) := by
  intro μ H M x y v u Q d M' S rx ry q k
  unfold dEqX at q
  split at q
  · rename_i r e
    cases q
    exact .inl (d_eq μ H M x y v u Q d M' S rx ry e k)
  · obtain ⟨b, h1, h2⟩ := Option.map_eq_some_iff.mp q
    cases h2
    obtain ⟨d, e, h3, h4, h5, h6, h7⟩ := eqvD_ok S rx ry h1
    refine .inr ⟨d, e, h3, h4, h5, h6, ?_⟩
    rw [h7]
    exact k μ _ H (.refl H) (List.prefix_refl _) S (Rep.bl.mpr rfl)
theorem d_neX : OpD G dNeX (fun x y H Q => rNeP G.K x y H Q ∨ rNeD G.K x y H Q) := by
  intro μ H M x y v u Q d M' S rx ry q k
  unfold dNeX at q
  split at q
  · rename_i r e
    cases q
    exact .inl (d_ne μ H M x y v u Q d M' S rx ry e k)
  · obtain ⟨b, h1, h2⟩ := Option.map_eq_some_iff.mp q
    cases h2
    obtain ⟨d, e, h3, h4, h5, h6, h7⟩ := eqvD_ok S rx ry h1
    refine .inr ⟨d, e, h3, h4, h5, h6, ?_⟩
    rw [h7]
    exact k μ _ H (.refl H) (List.prefix_refl _) S (Rep.bl.mpr rfl)
end
@[simp] theorem v_eqX_p (x y : P) (M : Store) (h : dOk x y) : dEqX (.p x) (.p y) M = some (.p (.bl (P.eqv x y)), M) := by
  have e : dEq (.p x) (.p y) M = some (.p (.bl (P.eqv x y)), M) := if_pos h
  unfold dEqX
  rw [e]
@[simp] theorem v_neX_p (x y : P) (M : Store) (h : dOk x y) : dNeX (.p x) (.p y) M = some (.p (.bl (!P.eqv x y)), M) := by
  have e : dNe (.p x) (.p y) M = some (.p (.bl (!P.eqv x y)), M) := if_pos h
  unfold dNeX
  rw [e]
/-! ### xs[a:b] = ys -/
section
variable {X : Cx} {o : Expr} {lo hi : Option Expr} {to : TE} {tl th : TO} {p2 pos : Pos}
def gSlice (to : TE) (tl th : TO) : TG := fun v σ H Q => to σ H fun x H1 => tl σ H1 fun l H2 => th σ H2 fun u H3 =>
  ∃ a b xs ys i j, x = .ref a ∧ v = .ref b ∧ a ≠ b ∧ l = some i ∧ u = some j ∧ H3 a = some (.lst xs) ∧ H3 b = some (.lst ys) ∧ 0 ≤ i ∧ i ≤ j ∧ j ≤ xs.length ∧ xs.length + ys.length ≤ sizeLine ∧ Q σ (upd H3 a (.lst (xs.take i.toNat ++ ys ++ xs.drop j.toNat)))
theorem part_int {u : Value} {i : Int} (h : IsPart u (some i)) : RelV (.int i) u := by
  cases h
  exact ⟨_, rfl⟩
theorem pg_slice (ho : PE X o to) (hl : PO X lo tl) (hu : PO X hi th)
    (ha : ∀ v, assign (.Subscript o (.Slice lo hi none p2) pos) X.env v = (do
      let ov ← holding [v] (eval o X.env)
      let iv ← holding [v, ov] (eval (.Slice lo hi none p2) X.env)
      standAt pos
      holding [v, ov, iv] (setItem ov iv v)
      release [iv, v, ov] []) := by intro _; rfl) : PG X (.Subscript o (.Slice lo hi none p2) pos) (gSlice to tl th) := by
  refine ⟨fun pins s σ H v u Q I r h => ?_⟩
  rw [ha]
  refine wpAny_bind (wpAny_holding (thn (ho.run pins s σ H _ I h) fun ov s1 ⟨x, H1, I1, r1, q1⟩ => ?_))
  refine wpAny_bind (wpAny_holding ?_)
  refine wpAny_Slice (thn (hl.run pins s1 σ H1 _ I1 q1) fun vl s2 ⟨l, H2, I2, pl, q2⟩ => thn (hu.run pins s2 σ H2 _ I2 q2) fun vu s3 ⟨w, H3, I3, pu, q3⟩ => ?_)
  rw [evalPart_none]
  refine wpAny_pure ?_
  have I4 : Inv X pins σ H3 { s3 with heap := s3.heap.push { cls := .type "slice", data := .fields #[vl, vu, .none] } } := I3.kept (t' := s3.toks) fun b ob q => Heap.get?_push_of_some _ q
  obtain ⟨a, b, xs, ys, i, j, rfl, rfl, hne, rfl, rfl, h1, h2, h3, h4, h5, h6, q⟩ := q3
  cases r1
  cases r
  refine wpAny_bind (wpAny_standAt (wpAny_bind (wpAny_holding ?_)))
  refine set_slice I4 h1 h2 hne (Heap.IsSliceOf.new ..) (part_int pl) (part_int pu) h3 h4 h5 h6 fun s' I5 => ?_
  exact wpAny_release ⟨σ, _, I5, q⟩
end
def kOp {α : Type} (r : R α) (f : α → Store → Option (Env × Store)) : Option (Env × Store) := match r with
  | .ok d M => f d M
  | _ => none
@[simp] theorem kOp_ok {α : Type} (d : α) (M) (f : α → Store → Option (Env × Store)) : kOp (.ok d M) f = f d M := (rfl)
def setSl : D → Option Int → Option Int → D → Store → Option Store
  | .ref l, some i, some j, .ref m, M => (match M[l]?, M[m]? with
    | some (.lst xs), some (.lst ys) => if l ≠ m ∧ 0 ≤ i ∧ i ≤ j ∧ j ≤ xs.length ∧ xs.length + ys.length ≤ sizeLine then some (M.set l (.lst (xs.take i.toNat ++ ys ++ xs.drop j.toNat))) else none
    | _, _ => none)
  | _, _, _, _, _ => none
def gSlS (fo : RE) (fl fh : RX (Option Int)) : RG := fun v ρ M => kOk (fo ρ M) fun o M1 => kOp (fl ρ M1) fun a M2 => kOp (fh ρ M2) fun b M3 => (setSl o a b v M3).map fun M4 => (ρ, M4)
@[simp] theorem e_gSlS (fo : RE) (fl fh) (v ρ M) : gSlS fo fl fh v ρ M = kOk (fo ρ M) fun o M1 => kOp (fl ρ M1) fun a M2 => kOp (fh ρ M2) fun b M3 => (setSl o a b v M3).map fun M4 => (ρ, M4) := (rfl)
section
variable {X : Cx} {W : WX} {o : Expr} {lo hi : Option Expr} {fo : RE} {fl fh : RX (Option Int)} {p2 pos : Pos}
theorem g_slice (ho : PE X o (tE (gm X) W fo)) (hl : PO X lo (tPt (gm X) W fl)) (hu : PO X hi (tPt (gm X) W fh))
    (ha : ∀ v, assign (.Subscript o (.Slice lo hi none p2) pos) X.env v = (do
      let ov ← holding [v] (eval o X.env)
      let iv ← holding [v, ov] (eval (.Slice lo hi none p2) X.env)
      standAt pos
      holding [v, ov, iv] (setItem ov iv v)
      release [iv, v, ov] []) := by intro _; rfl) : PG X (.Subscript o (.Slice lo hi none p2) pos) (tG (gm X) (gSlS fo fl fh)) :=
  PGimp (pg_slice ho hl hu ha) fun v σ H Q h => by
    obtain ⟨μ, ρ, M, d, hE, hS, r, hF⟩ := h
    have hF : FinG (gm X) μ H Q (kOk (fo ρ M) fun o M1 => kOp (fl ρ M1) fun a M2 => kOp (fh ρ M2) fun b M3 => (setSl o a b d M3).map fun M4 => (ρ, M4)) := hF
    refine ⟨μ, ρ, M, hE, hS, ?_⟩
    cases q : fo ρ M with
    | no => rw [q] at hF; exact hF.elim
    | ex c fs M1 => rw [q] at hF; exact hF.elim
    | ok x M1 =>
      rw [q, kOk_ok] at hF
      intro μ1 vo H1 e1 p1 s1 r1
      refine ⟨μ1, ρ, M1, hE.ext e1 p1, s1, ?_⟩
      cases q2 : fl ρ M1 with
      | no => rw [q2] at hF; exact hF.elim
      | ex c fs M2 => rw [q2] at hF; exact hF.elim
      | ok a M2 =>
        rw [q2, kOp_ok] at hF
        intro μ2 a' H2 e2 p2 s2 ea
        subst ea
        refine ⟨μ2, ρ, M2, (hE.ext e1 p1).ext e2 p2, s2, ?_⟩
        cases q3 : fh ρ M2 with
        | no => rw [q3] at hF; exact hF.elim
        | ex c fs M3 => rw [q3] at hF; exact hF.elim
        | ok b M3 =>
          rw [q3, kOp_ok] at hF
          intro μ3 b' H3 e3 p3 s3 eb
          subst eb
          unfold setSl at hF
          split at hF
          · rename_i l i j m M4
            split at hF
            · rename_i xs ys ex ey
              split at hF
              · rename_i hc
                obtain ⟨hne, h0, h1, h2, h3⟩ := hc
                obtain ⟨pa, ha1, rfl⟩ := Rep.ref.mp ((r1.ext e2 p2).ext e3 p3)
                obtain ⟨pb, hb1, rfl⟩ := Rep.ref.mp (((r.ext e1 p1).ext e2 p2).ext e3 p3)
                obtain ⟨vs, g1, g2⟩ := s3.lst ha1 ex
                obtain ⟨ws, g3, g4⟩ := s3.lst hb1 ey
                have hab : pa ≠ pb := fun z => by
                  subst z
                  rcases s3.nd l m pa _ _ ha1 hb1 ex ey with z | z | z
                  · cases z
                  · cases z
                  · exact hne z
                refine ⟨pa, pb, vs, ws, i, j, rfl, rfl, hab, rfl, rfl, g1, g3, h0, h1, by rw [← g2.length]; exact h2, by rw [← g2.length, ← g4.length]; exact h3, ?_⟩
                have ex2 := Ext.lst (o := .lst (vs.take i.toNat ++ ws ++ vs.drop j.toNat)) g1
                exact hF μ3 σ _ (((e1.trans e2).trans e3).trans ex2) ((p1.trans p2).trans p3) ((hE.ext e1 p1).ext ((e2.trans e3).trans ex2) (p2.trans p3)) (s3.put ha1 ex rfl rfl (fun ob w z => by rw [g1] at z; cases z) ex2 ⟨_, upd_same, (((g2.take _).app g4).app (g2.drop _)).ext ex2 (List.prefix_refl _)⟩)
              · exact hF.elim
            · exact hF.elim
          · exact hF.elim
end
/-! ### try .. except X as e: suite -/
def setI (i : Nat) : Out → Out
  | .nx ρ M => .nx (ρ.set i none) M
  | .rt d M => .rt d M
  | .bk ρ M => .bk (ρ.set i none) M
  | .ct ρ M => .ct (ρ.set i none) M
  | .ex _ _ _ _ => .no
  | .no => .no
/-- exs: the classes that may come, and whether the clause takes them; the suite may read the class -/
def rTryAs (exs : List (Str × Bool)) (i : Nat) (body : RS) (suite : Nat → Str → RS) : RS := fun ρ M => match body ρ M with
  | .ex c fs ρ1 M1 => (match exs.lookup c with
    | some true => setI i (suite 0 c (ρ1.set i (some (.exv 0))) M1)
    | some false => .ex c fs ρ1 M1
    | none => .no)
  | o => o
theorem ER.setN {G : Gm} {μ : List Addr} {H : Hp} {ρ : Fl.Env} {σ : L2.St} (h : ER G μ H ρ σ) (i : Nat) : ER G μ H (ρ.set i none) (σ.set i none) :=
  ⟨by simp [h.len], fun j e q => by
    by_cases hj : j = i
    · subst hj
      have hlt : j < ρ.length := by
        have := (List.getElem?_eq_some_iff.mp q).1
        simpa using this
      rw [List.getElem?_set_self hlt] at q
      cases q
    · rw [List.getElem?_set_ne (Ne.symm hj)] at q ⊢
      exact h.at_ j e q⟩
section
variable {X : Cx} {Wout : WX} {pos : Pos}
def endsI (i : Nat) (D : Ends) : Ends := { nx := fun σ' H' => D.nx (σ'.set i none) H', rt := D.rt, bk := fun σ' H' => D.bk (σ'.set i none) H', ct := fun σ' H' => D.ct (σ'.set i none) H' }
theorem noW_fin {G : Gm} {W W' : WX} {D : Ends} {μ : List Addr} {H : Hp} {o : Out} {i : Nat} (h : FinS G W D μ H (setI i o)) : FinS G W' D μ H (setI i o) := by
  cases o with
  | ex c fs ρ1 M1 => exact h.elim
  | nx ρ1 M1 => exact h
  | rt d M1 => exact h
  | bk ρ1 M1 => exact h
  | ct ρ1 M1 => exact h
  | no => exact h
theorem setI_fin {G : Gm} {W W' : WX} {D : Ends} {μ : List Addr} {H : Hp} {o : Out} {i : Nat} (h : FinS G W D μ H (setI i o)) :
    FinS G W' (endsI i D) μ H o := by
  cases o with
  | ex c fs ρ1 M1 => exact h.elim
  | nx ρ1 M1 => exact fun μ' σ' H' e p hE hS => h μ' _ H' e p (hE.setN i) hS
  | rt d M1 => exact h
  | bk ρ1 M1 => exact fun μ' σ' H' e p hE hS => h μ' _ H' e p (hE.setN i) hS
  | ct ρ1 M1 => exact fun μ' σ' H' e p hE hS => h μ' _ H' e p (hE.setN i) hS
  | no => exact h
theorem s_tryAs {x n : Str} {xc : Value} {exs : List (Str × Bool)} {i : Nat} {body : RS} {suite : Nat → Str → RS} {sb sc : List Stmt} {b0 : Stmt} {np pos' : Pos} (hs : X.stack = X.env :: X.outer) (hf : X.env.frame = some X.env.locals)
    (hN : X.N.Nodup) (hi : X.N[i]? = some n) (hln : X.env.kindOf n = some .local) (hc : Names X x xc) (tk : L2N.Takes X Wout)
    (hx : ∀ q ∈ exs, PySem.W.exmOne X.K (cval (gm X) q.1) xc = some q.2)
    (hb : ∀ (W : WX) (pn : List (Addr × Obj)) (xe : Value → Shared → Prop), L2N.Takes (X.tr pn xe) W → PassesOwn (model X.prog X.w) X.A X.env xe → PSs (X.tr pn xe) sb (tS (gm X) W body))
    (hsu : ∀ (a : Addr) (oe : Obj) (c : Str) (d : Option Addr) (pn : List (Addr × Obj)), (∃ b, (c, b) ∈ exs) → L2N.Zn (cval (gm X) c) d oe → (∃ vs, oe.data = .fields vs) → PSs (X.suite a ((a, oe) :: pn)) (b0 :: sc) (tS (gm X) (fun _ _ _ _ => False) (suite a c)))
    (hex : ∀ (ρ : Fl.Env) (M : Store) c fs ρ1 M1, body ρ M = .ex c fs ρ1 M1 → fs = none)
    (hind : ∀ (a : Nat) (c : Str) (ρ : Fl.Env) (M : Store), (∃ b, (c, b) ∈ exs) → ρ.length = X.N.length → setI i (suite a c (ρ.set i (some (.exv a))) M) = setI i (suite 0 c (ρ.set i (some (.exv 0))) M)) :
    PS X (.Try sb [.ExceptHandler (some (.Name x np)) (some n) (b0 :: sc) pos'] [] [] pos) (tS (gm X) Wout (rTryAs exs i body suite)) :=
  PSimp (L2N.ps_try_as (tb := fun W => tS (gm X) W body) (ts := fun a cls d D σ H => ∃ c D0, cls = cval (gm X) c ∧ (∃ b, (c, b) ∈ exs) ∧ D = endsI i D0 ∧ ∃ (μ : List Addr) (ρ : Fl.Env) (M : Store), ER (gm X) μ H (ρ.set i (some (.exv a))) σ ∧ SR (gm X) μ H M ∧ FinS (gm X) (fun _ _ _ _ => False) D0 μ H (setI i (suite 0 c (ρ.set i (some (.exv 0))) M))) hs hf hN hi hln hc tk (fun W pn xe h1 h2 => hb W pn xe h1 h2)
    (fun a oe cls d pn hz hfd => ⟨fun pins s σ H D I h => by
      obtain ⟨c, D0, rfl, hm, rfl, μ, ρ, M, hE, hS, hF⟩ := h
      have hlen : ρ.length = X.N.length := by
        have h1 := hE.len
        rw [List.length_set] at h1
        exact h1.trans I.len
      rw [← hind a c ρ M hm hlen] at hF
      exact (hsu a oe c d pn hm hz hfd).run pins s σ H _ I ⟨μ, _, M, hE, hS, setI_fin hF⟩⟩)) fun D σ H h => by
    obtain ⟨μ, ρ, M, hE, hS, hF⟩ := h
    refine ⟨μ, ρ, M, hE, hS, ?_⟩
    have hF : FinS (gm X) Wout D μ H (match body ρ M with
      | .ex c fs ρ1 M1 => (match exs.lookup c with
        | some true => setI i (suite 0 c (ρ1.set i (some (.exv 0))) M1)
        | some false => .ex c fs ρ1 M1
        | none => .no)
      | o => o) := hF
    cases q : body ρ M with
    | ex c fs ρ1 M1 =>
      rw [q] at hF
      have hF : FinS (gm X) Wout D μ H (match exs.lookup c with
        | some true => setI i (suite 0 c (ρ1.set i (some (.exv 0))) M1)
        | some false => .ex c fs ρ1 M1
        | none => .no) := hF
      intro μ' σ' H' dx e p hE' hS' xr
      cases q2 : exs.lookup c with
      | none => rw [q2] at hF; exact hF.elim
      | some k =>
        rw [q2] at hF
        refine ⟨k, hx (c, k) (lookup_mem q2), fun hk a _ => ?_, fun hk => ?_⟩
        · subst hk
          have hF : FinS (gm X) Wout D μ H (setI i (suite 0 c (ρ1.set i (some (.exv 0))) M1)) := hF
          have ef := hex _ _ _ _ _ _ q
          subst ef
          exact ⟨c, D, rfl, ⟨_, lookup_mem q2⟩, rfl, μ', ρ1, M1, hE'.set i (by simp only [Rep]), hS', FinS.later e p (noW_fin hF)⟩
        · subst hk
          exact hF μ' σ' H' dx e p hE' hS' xr
    | nx ρ1 M1 => rw [q] at hF; exact hF
    | rt d M1 => rw [q] at hF; exact hF
    | bk ρ1 M1 => rw [q] at hF; exact hF
    | ct ρ1 M1 => rw [q] at hF; exact hF
    | no => rw [q] at hF; exact hF
end
/-! ### isinstance(e, C), e held by the suite -/
def cExIs (a : Nat) (C : Str) (b : Bool) : List D → Store → Option (D × Store)
  | [.exv x, .gl y], M => if x = a ∧ y = C then some (.p (.bl b), M) else none
  | _, _ => none
theorem d_exis {G : Gm} {a : Nat} {C : Str} {b : Bool} {D0 A0 : Addr} (hC : G.mg C = some (.ref A0)) (hk : PySem.W.kitOne G.K (.ref D0) (.ref A0) = some b) : CallD G (cExIs a C b) (rIsE G.K D0 a) := by
  intro μ H M xs vs Q d M' S r q k
  unfold cExIs at q
  split at q
  · split at q
    · rename_i h
      obtain ⟨rfl, rfl⟩ := h
      cases q
      obtain ⟨v, u, rfl, r1, r2⟩ := r.inv2
      simp only [Rep] at r1 r2
      subst r1
      obtain ⟨A1, e1, rfl⟩ := r2
      rw [hC] at e1
      cases e1
      exact ⟨.ref A0, .ref A0, b, rfl, fun u h => h, hk, k μ _ H (.refl _) (List.prefix_refl _) S (Rep.bl.mpr rfl)⟩
    · cases q
  · cases q
@[simp] theorem v_exis (a : Nat) (C : Str) (b : Bool) (M : Store) : cExIs a C b [.exv a, .gl C] M = some (.p (.bl b), M) := by simp [cExIs]
theorem gl_cst {K : PySem.W.Frag} {mg : Str → Option Value} {x : Str} {a : Addr} (h : mg x = some (.ref a)) : Cst ⟨K, mg⟩ x (.gl x) :=
  ⟨.ref a, .ref a, h, rfl, fun μ H => by simp only [Rep]; exact ⟨a, h, rfl⟩⟩
/-! ### i ** j of great numbers -/
def powXOk (i j : Int) : Prop := 0 ≤ j ∧ (Builtin.Int.intBits i : Int) * j ≤ 2 ^ 27
instance (i j : Int) : Decidable (powXOk i j) := by unfold powXOk; infer_instance
def dPowX : D → D → Store → Option (D × Store)
  | .p (.int i), .p (.int j), M => if powXOk i j then some (.p (.int (i ^ j.toNat)), M) else none
  | _, _, _ => none
section
variable {X : Cx} {G : Gm}
theorem op_powX : OpR X (binaryOp .Pow) (rI powXOk fun i j => .int (i ^ j.toNat)) := opI fun _ _ _ _ _ _ _ hc q => pow_int hc.1 hc.2 q
theorem d_powX : OpD G dPowX (rI powXOk fun i j => .int (i ^ j.toNat)) := by
  intro μ H M x y v u Q d M' S rx ry q k
  unfold dPowX at q
  split at q
  · split at q
    · rename_i h
      cases q
      rw [Rep.int] at rx ry
      exact ⟨_, _, rx, ry, h, k μ _ H (.refl H) (List.prefix_refl _) S (Rep.int.mpr rfl)⟩
    · cases q
  · cases q
end
theorem v_powX (i j : Int) (M : Store) (h : powXOk i j) : dPowX (.p (.int i)) (.p (.int j)) M = some (.p (.int (i ^ j.toNat)), M) := by simp [dPowX, h]
end Fl

set_option Elab.async false
set_option linter.all false
set_option maxRecDepth 100000
/-! Fl, part R: isinstance of a held error whatever its dict is; raising a class with an own __init__. -/
namespace PySem.W
open PySem PySem.Calls PyProof.Rows Builtin Builtin.ObjectAttr Builtin.Getset_descriptor
/-- at x: something of the class at C, whatever its dict -/
structure ObjAt (h : Heap) (x : Addr) (ox : Obj) (C : Addr) : Prop where
  at_ : h.get? x = some ox
  cls : ox.cls = .ref C
theorem ObjAt.type {M : Model} {h : Heap} {x C : Addr} {ox : Obj} (I : ObjAt h x ox C) : Looks M h (typeOf (.ref x)) (.ref C) := I.cls ▸ (Looks.ld I.at_).andThen .now
/-- a data descriptor of the class is found without a look at the dict -/
theorem fl_find {K : Frag} {M : Model} {h : Heap} (X : K.In h) {x C : Addr} {name : Str} {a g : Value} (ha : findIn K (.ref C) name = some (some a)) (hg : specialIn K a "__get__" = some (some g)) (ht : takesIn K a = some true) : Looks M h (find (.ref x) (.ref C) name) (.bind g a) := by
  have L1 := looks_findIn (M := M) X ha
  have L2 : Looks M h (getOf (some a)) (some g) := looks_specialIn X hg
  have L3 := looks_takesIn (M := M) X ht
  exact L1.andThen (L2.andThen ((show Looks M h (dataDescriptor? (some a) (some g)) (some (g, a)) from L3.andThen .now).andThen (Looks.tag .now)))
section
variable {prog : Program} {w : World} {A : Around} {s : Shared} {K : Frag} {p x C : Addr} {R : Result → Shared → Prop} {ox : Obj} {E : Value → Shared → Prop}
theorem fl_class_get {tp : Value} (X : K.In s.heap) (I : ObjAt s.heap x ox C) (hm : mroIn K C (.type "object") = some true)
    (h : R (.ok (.ret (.ref C))) s) : codeAny (model prog w) A (.call (.builtin "getset_descriptor.__get__") ⟨[.builtin "object.__class__", .ref x, tp], []⟩) R s := by
  obtain ⟨hh, g, dr, t, os⟩ := s
  have L0 := I.type (M := model prog w)
  have L1 := looks_mroIn (M := model prog w) X hm
  refine codeAny_call_builtin KF.slot_gs.plain KF.entry_gs (KF.slot_gs.check _ _ _ _ _ _ _ _ KF.type_class (KF.args_gs _ _ _) ?_)
  unfold Builtin.«getset_descriptor.__get__» descrGet
  rw [dga_obj]
  refine wpAny_bind (wpAny_pure ?_)
  unfold descrGetter descrCheckInstance descrNameAndClass isInstance
  simp only [KF.owner_class]
  repeat lk
  refine ⟨Code.quiet_builtin _ (by decide +kernel), codeAny_builtin KF.entry_class ?_⟩
  unfold Builtin.«object.__class__» shownTypeOf
  repeat lk
  exact h
/-- e.__class__ -/
theorem fl_classE {Q : Option Value → Shared → Prop} (EC : L2.ExcC K C) (X : K.In s.heap) (I : ObjAt s.heap x ox C)
    (h : Q (some (.ref C)) { s with toks := s.toks + 1 }) : wpAny (model prog w) A (getAttr? (.ref x) "__class__") Q E s := by
  obtain ⟨hp, g, d, t, os⟩ := s
  have L0 := I.type (M := model prog w)
  have L1 := looks_findIn (M := model prog w) X EC.hg
  have L2 := looks_findIn (M := model prog w) X EC.hk
  have L3 := fl_find (x := x) (M := model prog w) X EC.ha EC.hn EC.ht
  have sub : Looks (model prog w) hp (isInstance (.ref x) (.type "BaseException")) true := L0.andThen (looks_subIn X EC.hs)
  have hx0 : (false && onTheHeap (Value.builtin "BaseException.__getattribute__")) = false := rfl
  have hx2 : (Value.builtin "BaseException.__getattribute__" == Value.builtin "object.__getattribute__") = false := by decide +kernel
  have hx1 : (onTheHeap (Value.ref C) && Value.builtin "BaseException.__getattribute__" == Value.builtin "object.__getattribute__") = false := by rw [hx2]; rfl
  unfold getAttr? getAttrBy? getAttrBy
  refine wpAny_bind (wpAny_mkText (wpAny_bind (wpAny_attempt (wpAny_holding (wpAny_bind (L0.at (wpAny_bind (L1.at ?_))))))))
  show wpAny _ _ (if (onTheHeap (Value.ref C) && Value.builtin "BaseException.__getattribute__" == Value.builtin "object.__getattribute__") = true then _ else _) _ _ _
  rw [hx1, if_neg Bool.false_ne_true]
  unfold getAttrByItsOwn hookBefore
  refine wpAny_bind ?_
  rw [if_pos (show onTheHeap (Value.ref C) = true from rfl)]
  refine L2.at ?_
  refine wpAny_bind (wpAny_attempt (wpAny_holding ?_))
  unfold callGetattribute
  rw [hx0, if_neg Bool.false_ne_true]
  unfold boundAndCalled
  rw [PySem.F.excAttr_ValueError.ga.bind (.ref x)]
  refine wpAny_bind (wpAny_pure ?_)
  show wpAny _ _ (call (.builtin "BaseException.__getattribute__") [.ref x, .str "__class__" t]) _ _ _
  refine wpAny_call (codeAny_call_builtin PySem.F.excAttr_ValueError.ga.plain PySem.F.entry_bexc_ga ?_)
  refine @PySem.W.check_slot (model prog w) _ _ ⟨hp, g, d, t + 1, os⟩ "BaseException.__getattribute__" "BaseException" "__getattribute__" (.ref x) [.str "__class__" t] [] _ (by decide +kernel) (by decide +kernel) sub (PySem.F.args_bexc_ga (.ref x) (.str "__class__" t)) ?_
  unfold Builtin.«object.__getattribute__»
  refine wpAny_bind (wpAny_of_eq (a := ((Value.ref x : Value), [Value.str "__class__" t])) (by first | rfl | (simp only [slotArgs]; rfl)) ?_)
  refine wpAny_bind (wpAny_pure (wpAny_bind (L0.at (wpAny_bind (L3.at ?_)))))
  refine wpAny_bind (wpAny_holding (wpAny_call (fl_class_get (s := ⟨hp, g, d, t + 1, os⟩) (ox := ox) X I EC.hm ?_)))
  refine wpAny_pure ?_
  show wpAny _ _ (handedOut (.ref C)) _ _ _
  rw [handedOut_of (show handedIn (.ref C) = true from rfl)]
  first | exact wpAny_pure h | exact wpAny_pure (wpAny_pure h)
theorem fl_kitx (EC : L2.ExcC K C) : KitX K (.ref x) (.ref C) (fun h => ObjAt h x ox C) where
  ty := fun _ _ _ I => I.type
  it := fun _ _ X _ => by
    obtain ⟨cdD, hcD, _⟩ := any_some EC.hd
    unfold clsIn at hcD
    split at hcD
    · rename_i c' d' cd' sl' ho
      intro A' Q' E' s' k q
      unfold isType loadHead
      exact wpAny_bind (wpAny_loadPart (k _ _ (X _ _ ho)) (wpAny_pure q))
    · cases hcD
  ne := fun h tp dd its n sl X htp => by
    obtain ⟨cdD, hcD, _⟩ := any_some EC.hd
    refine Bool.eq_false_iff.mpr fun q => ?_
    have e : C = tp := Value.ref.inj (beq_iff_eq.mp q)
    subst e
    unfold clsIn at hcD
    split at hcD
    · rename_i c' d' cd' sl' ho
      have z := (X _ _ ho).symm.trans htp
      cases z
    · cases hcD
  ca := fun X I k => fl_classE EC X I k
end
end PySem.W
namespace Fl
open PySem PySem.Spec L2 PyProof.Rows
set_option autoImplicit false
theorem call_isX {X : Cx} {a D0 : Addr} {oe : Obj} {d : Option Addr} {pn : List (Addr × Obj)} (EC : ExcC X.K D0) (hz : Zc (.ref D0) d oe) : CallR (X.suite a ((a, oe) :: pn)) (.builtin "isinstance") (rIsE X.K D0 a) := by
  intro pins s σ H xs us Q I r h
  obtain ⟨c, cv, b, rfl, hcv, e, q⟩ := h
  cases r with
  | cons rx rr =>
    cases rr with
    | cons rt rr =>
      cases rr
      cases rx
      have ec := hcv _ rt
      subst ec
      obtain ⟨hget, _⟩ := I.pin (a, oe) (List.mem_append.mpr (.inl List.mem_cons_self))
      have J : PySem.W.ObjAt s.heap a oe D0 := ⟨hget, hz.1⟩
      exact PySem.W.kia_one (PySem.W.fl_kitx EC) I.kIn J e (fun z => nomatch z) fun tk => ⟨.bl b, H, I.kept (t' := tk) fun _ _ z => z, rfl, q⟩

/-! ### an own class of errors with an own __init__: B.__init__(self, f'..{what}'), self.what = what -/
theorem mk_endN {X : Cx} {pins : List (Addr × Obj)} {σ : L2.St} {H1 H2 : Hp} {Q : XK} {hp hp2 h2 : Heap} {g1 g2 : Array GenState} {d1 d2 : Drawn} {t1 t2 : Nat} {os1 os2 : OsState} {a C d : Addr} {fs : List (Str × V)} (T : Raises X (.ref C)) (I1 : L2.Inv X pins σ H1 ⟨hp, g1, d1, t1, os1⟩)
    (ha : hp.objs.size ≤ a) (k : ∀ b o, hp.get? b = some o → hp2.get? b = some o) (un : Un (frs X.stack) [] (upd H1 a (exo a C none)) H2 hp2 h2) (hok : HOk X.prog X.w H2 h2) (ho : os2 = os1) (hb : AllBare g2)
    (ea : H2 a = some (exo a C (some d))) (ed : H2 d = some (exd d fs)) (hd1 : H1 d = none) (q : Q (.ref C) (some d) (upd (del H2 a) d (.xd fs))) : L2N.MkP X pins σ Q (.ref a) ⟨h2, g2, d2, t2, os2⟩ := by
  obtain ⟨t0, G, J, kG, ge, hoe, na⟩ := mk_end0 (d2 := d2) (t2 := t2) I1 ha k un hok ho hb ea ed hd1
  exact ⟨a, _, _, ⟨G, g2, d2, t2, os2⟩, _, .ref C, some d, rfl, J, kG, ge, hoe, ⟨rfl, rfl, fun vs e => by cases e; rfl⟩, rfl, rfl, na, rfl, hb, T, q⟩
theorem pmk_oexN {X : Cx} {x : Str} {C fI : Addr} {k : Nat} {fd : FuncData} {ps : List Str} {sp : Sp} {W : WX} {e : Expr} {es : List Expr} {ta : TA} {p pos : Pos} (T : OexC X.K C) (iC : PySem.W.findIn X.K (.ref C) "__init__" = some (some (.ref fI))) (tI : PySem.W.typeIn X.K (.ref fI) = some (.type "function"))
    (F1 : FnOk X.prog X.w X.K X.mg X.base (L2N.CX X.prog X.w) k fI fd ps sp) (hr : Room (k + 1) X.A) (hb : Binds X.K fd ps []) (tk : L2N.Takes X W) (hg : Gl X x) (hm : X.mg x = some (.ref C)) (ha : PA X (e :: es) ta)
    (hdb : (x == ("__debug__" : Str)) = false := by decide) (he : starEach (e :: es) X.env = (false, eval e X.env) :: starEach es X.env := by rfl) (hpl : (backTo pos (starEach es X.env)).any (·.1) = false := by rfl) :
    L2N.PMk X (.Call (.Name x p) (e :: es) [] pos) (tMkO C sp [] ta) := by
  intro pins s σ H Q I h
  have hx := fun pins σ H s e s' => L2N.passes_call (E := fun _ _ _ => False) tk (fun _ _ _ _ z => z.elim) pins σ H s e s'
  obtain ⟨nm, q, N, bs, bm, sn, sub, ab, col, dd, k0, k1, k2, k3, k5, hC, hbm⟩ := T.cls
  refine wpAny_Call_Name_kw (ld_glob I hg hm ?_ hdb)
  refine PySem.W.callWith_K (h₀ := X.base) I.ok.mod.kin T.kC (thn (ha.run pos pins s σ H _ I h) fun us s1 ⟨vs, H1, I1, r1, hz, q1⟩ => ⟨I1.kIn, ?_⟩) he hpl
  show wpAny _ _ (call (.ref C) us) _ _ _
  obtain ⟨hp, g, dr, tk', os⟩ := s1
  have hsz : hp.objs.size ≤ hp.objs.size + 1 := Nat.le_succ _
  have hn : H1 (hp.objs.size + 1) = none := I1.hok.fresh hsz
  have hq := q1 (hp.objs.size + 1) hn
  have kk : ∀ b o, hp.get? b = some o → ((hp.push (PySem.W.kdv_tup us)).push (PySem.HandSPX.excO C hp.objs.size)).get? b = some o := fun b o e => Heap.get?_push_of_some _ (Heap.get?_push_of_some _ e)
  have hget : ((hp.push (PySem.W.kdv_tup us)).push (PySem.HandSPX.excO C hp.objs.size)).get? (hp.objs.size + 1) = some (PySem.HandSPX.excO C hp.objs.size) := by heap_get
  have I2 : L2.Inv X pins σ (upd H1 (hp.objs.size + 1) (exo (hp.objs.size + 1) C none)) ⟨(hp.push (PySem.W.kdv_tup us)).push (PySem.HandSPX.excO C hp.objs.size), g, dr, tk', os⟩ :=
    I1.laid (t' := tk') (a := hp.objs.size + 1) (o := exo (hp.objs.size + 1) C none) (h' := (hp.push (PySem.W.kdv_tup us)).push (PySem.HandSPX.excO C hp.objs.size)) kk hsz (exo_ok hget)
  have r2 : Vals (V.ref (hp.objs.size + 1) :: (vs ++ [])) (Value.ref (hp.objs.size + 1) :: (us ++ [])) := .cons rfl (r1.append .nil)
  have hl : (Value.ref (hp.objs.size + 1) :: us ++ []).length = ps.length := by
    have e := r2.length
    rw [F1.len _ _ _ _ hq] at e
    exact e.symm
  have hb2 : ∀ u, BindsTo _ fd ⟨Value.ref (hp.objs.size + 1) :: us, []⟩ (ps.zip (Value.ref (hp.objs.size + 1) :: (us ++ []))) := fun (u : Unit) => by
    have z := hb _ (Value.ref (hp.objs.size + 1) :: us) I2.kIn hl
    rw [List.cons_append] at z
    exact z
  have hus : us.length ≤ sizeLine := by
    rw [← Paired.length r1, sizeLine_eq]
    omega
  refine wpAny_call (PySem.HandSPX.call_own F.excBase_ValueError (fun Y => PySem.HandSPX.refsVE_contains Y bm hbm) (I1.kIn _ _ hC) (PySem.W.looks_findIn I1.kIn iC) (fun self => PySem.W.bind_fn I1.kIn self tI) hus
    (codeAny_mono (F1.run _ X.stack _ _ ⟨Value.ref (hp.objs.size + 1) :: us, []⟩ (Value.ref (hp.objs.size + 1) :: (us ++ [])) _ _ (fun _ _ _ => False) (hr.make C us []) (I2.env0.make C us []) (hb2 ()) r2 hq) fun r s' hq' => ?_))
  cases r with
  | error er => exact hx pins σ _ _ er s' I2 hq'
  | ok fl =>
    cases fl with
    | ret u =>
      obtain ⟨v, H2, os2, bare2, un2, hok2, rv, ev, d, fs, ea, ed, hd1, q2⟩ := hq'
      subst ev
      obtain ⟨h2, g2, d2, t2, os'⟩ := s'
      exact ⟨rv, mk_endN (raises_own T.exC T.tyC) I1 hsz kk un2 hok2 os2 bare2 ea ed hd1 q2⟩
    | next => exact False.elim hq'
    | brk => exact False.elim hq'
    | cont => exact False.elim hq'
/-- what such a class's __init__ keeps -/
def spI (K : PySem.W.Frag) : Sp := fun vs H Q E => ∃ (a C : Addr) (y : Str), vs = [.ref a, .str y] ∧ y.length ≤ 1000 ∧ OexC K C ∧ PySem.W.findIn K (.ref C) "what" = some none ∧ H a = some (exo a C none) ∧
  ∀ dx, H dx = none → dx ≠ a → Q .non (upd (upd H dx (exd dx [("what", .str y)])) a (exo a C (some dx)))
/-- the written part says of the base class: its __init__ is ValueError's -/
structure InitC (K : PySem.W.Frag) (CB : Addr) : Prop where
  sp : PySem.W.specialIn K (.ref CB) "__getattribute__" = some (some (.builtin "type.__getattribute__"))
  rd : PySem.W.readsIn K CB (.type "type") = true
  fc : PySem.W.findCls K (.ref CB) (.type "type") "__init__" = some (.val (.builtin "ValueError.__init__"))
section
variable {X : Cx} {B : Str} {CB : Addr} {e : Expr} {es : List Expr} {ta : TA} {p1 p2 pos : Pos}
theorem pe_xinit {pl : Sem Bool} (hg : Gl X B) (hm : X.mg B = some (.ref CB)) (hI : InitC X.K CB) (ha : PA X (e :: es) ta) (hdb : (B == ("__debug__" : Str)) = false)
    (hc : eval (.Call (.Attribute (.Name B p1) "__init__" p2) (e :: es) [] pos) X.env = (do
      let ov ← eval (.Name B p1) X.env
      standAt p2.atName
      let (f, first) ← holding [ov] (getMethod ov "__init__" pl)
      callWith pos f first (backTo pos (starEach (e :: es) X.env)) (backToKw pos (keywordEach [] X.env))) := by rfl)
    (he : starEach (e :: es) X.env = (false, eval e X.env) :: starEach es X.env := by rfl) (hpl : (backTo pos (starEach es X.env)).any (·.1) = false := by rfl) :
    PE X (.Call (.Attribute (.Name B p1) "__init__" p2) (e :: es) [] pos) (tVeI X.K ta) := by
  refine ⟨fun pins s σ H Q I h => ?_⟩
  refine PySem.W.methodCall_KW (ld_glob I hg hm ?_ hdb) hc
  refine PySem.W.method_cls I.kIn hI.sp (PySem.W.cls_value I.kIn hI.rd hI.fc (by decide +kernel) ?_)
  show wpAny _ _ (callWith pos (Value.builtin "ValueError.__init__") [] (backTo pos (starEach (e :: es) X.env)) []) _ _ _
  refine PyProof.Rows.callWith_method1 (thn (ha.run pos pins _ σ H _ (I.tok _) h) fun us s1 ⟨vs, H1, I1, r1, a, C, ws, ev, hl, T, ea, q⟩ => ?_) he hpl
  subst ev
  cases r1 with
  | @cons _ u0 _ ur ra rw' =>
    obtain rfl : u0 = Value.ref a := ra
    have hlen : ur.length ≤ sizeLine := by
      rw [← Paired.length rw', sizeLine_eq]
      omega
    exact oinit_ok T I1 ea hlen fun s' J => ⟨.non, H1, J, rfl, q⟩
end

theorem fn_I {P : Program} {w : World} {K : PySem.W.Frag} {mg : Str → Option Value} {base : Heap} {x qual : Str} {params : Arguments} {scope : Scope} {f : Addr} {fd : FuncData} {k : Nat} {t0 : Str} {CB : Addr} {j : Nat} {a1 a2 a3 a4 a5 a6 a7 a8 a9 b1 b2 b3 b4 : Pos}
    (Fu : FunD K x qual params [.Expr (.Call (.Attribute (.Name "DoorError" a1) "__init__" a2) [.Name "self" a3, .JoinedStr [.Constant (.str t0) j a4, .FormattedValue (.Name "what" a5) (-1) none a6] a7] [] a8) a9, .Assign [.Attribute (.Name "self" b1) "what" b2] (.Name "what" b3) b4] scope [] [] f fd)
    (S : FnScope ["self", "what"] ["self", "what"] scope) (hv0 : Vis scope "self") (hv1 : Vis scope "what") (hg : scope.names.lookup ("DoorError" : Str) = some .globalImplicit) (hmB : mg "DoorError" = some (.ref CB)) (hI : InitC K CB) (ht : t0.length ≤ 1000) {pl : PySem.Env → Sem Bool}
    (hc : ∀ env : PySem.Env, eval (.Call (.Attribute (.Name "DoorError" a1) "__init__" a2) [.Name "self" a3, .JoinedStr [.Constant (.str t0) j a4, .FormattedValue (.Name "what" a5) (-1) none a6] a7] [] a8) env = (do
      let ov ← eval (.Name "DoorError" a1) env
      standAt a2.atName
      let (f, first) ← holding [ov] (getMethod ov "__init__" (pl env))
      callWith a8 f first (backTo a8 (starEach [.Name "self" a3, .JoinedStr [.Constant (.str t0) j a4, .FormattedValue (.Name "what" a5) (-1) none a6] a7] env)) (backToKw a8 (keywordEach [] env)))) :
    FnOk P w K mg base (L2N.CX P w) (k + 1) f fd ["self", "what"] (spI K) := by
  refine Fu.ok S (fun vs H Q E h => ?_) fun cdv A outer s H vs Q E hr h => ?_
  · obtain ⟨a, C, y, rfl, _⟩ := h
    rfl
  obtain ⟨a, C, y, rfl, hy, T, hno, ha, hq⟩ := h
  obtain ⟨Z, hZ⟩ : ∃ Z : Cx, Z = cxOf (L2N.CX P w) P w K mg base ["self", "what"] qual scope f cdv A outer s H E := ⟨_, rfl⟩
  have n0 : PE (cxOf (L2N.CX P w) P w K mg base ["self", "what"] qual scope f cdv A outer s H E) (.Name "self" a3) (tVar 0) := pe_var rfl hv0
  have n1 : PE (cxOf (L2N.CX P w) P w K mg base ["self", "what"] qual scope f cdv A outer s H E) (.Name "what" a5) (tVar 1) := pe_var rfl hv1
  have n2 : PE (cxOf (L2N.CX P w) P w K mg base ["self", "what"] qual scope f cdv A outer s H E) (.Name "self" b1) (tVar 0) := pe_var rfl hv0
  have n3 : PE (cxOf (L2N.CX P w) P w K mg base ["self", "what"] qual scope f cdv A outer s H E) (.Name "what" b3) (tVar 1) := pe_var rfl hv1
  have js := pe_joined (pos := a7) (PJ.cons (pe_str (X := cxOf (L2N.CX P w) P w K mg base ["self", "what"] qual scope f cdv A outer s H E) (x := t0) (pos := a4) (j := j)) (PJ.cons (pe_fmt (pos := a6) n1) PJ.nil))
  have c0 := pe_xinit (X := cxOf (L2N.CX P w) P w K mg base ["self", "what"] qual scope f cdv A outer s H E) (p1 := a1) (p2 := a2) (pos := a8) hg hmB hI (pa_cons n0 (pa_cons js pa_nil)) (by decide +kernel) (hc := hc _)
  have st1 := ps_expr (pos := a9) c0
  have st2 := ps_ost (f := "what") (p' := b2) (pos := b4) n2 n3
  refine ⟨_, pss_cons st1 (pss_cons st2 pss_nil), ?_⟩
  have l1 : (Str.empty ++ t0).length ≤ sizeLine := by
    rw [sizeLine_eq, Str.length_append]
    have : (Str.empty : Str).length = 0 := rfl
    omega
  have l2 : (Str.empty ++ t0 ++ y).length ≤ sizeLine := by
    rw [sizeLine_eq, Str.length_append, Str.length_append]
    have : (Str.empty : Str).length = 0 := rfl
    omega
  have l3 : y.length ≤ sizeLine := by
    rw [sizeLine_eq]
    omega
  exact ⟨.ref a, rfl, t0, rfl, l1, .str y, rfl, .inl ⟨y, rfl, l3, y, rfl, l2, a, C, [.str (Str.empty ++ t0 ++ y)], rfl, by simp, T, ha, .str y, rfl, .ref a, rfl, a, C, rfl, T, hno, .inl ⟨ha, fun dx hn hne => hq dx hn hne⟩⟩⟩
/-- a class of errors with such an __init__ -/
structure ExI (P : Program) (w : World) (K : PySem.W.Frag) (mg : Str → Option Value) (base : Heap) (c : Str) (k : Nat) : Prop where
  is_ : ∃ C fI fd, mg c = some (.ref C) ∧ OexC K C ∧ PySem.W.findIn K (.ref C) "__init__" = some (some (.ref fI)) ∧ PySem.W.typeIn K (.ref fI) = some (.type "function") ∧ PySem.W.findIn K (.ref C) "what" = some none ∧ Binds K fd ["self", "what"] [] ∧
    FnOk P w K mg base (L2N.CX P w) k fI fd ["self", "what"] (spI K)
section
variable {X : Cx} {W : WX} {pos : Pos}
theorem s_raiseI {c m : Str} {j k : Nat} {p p2 pos' : Pos} (D0 : ExI X.prog X.w X.K X.mg X.base c k) (hr : Room (k + 1) X.A) (hc : X.calm = true) (tk : L2N.Takes X W) (hg : Gl X c) (hm : m.length ≤ 1000 := by decide) (hdb : (c == ("__debug__" : Str)) = false := by decide) :
    PS X (.Raise (some (.Call (.Name c p) [.Constant (.str m) j p2] [] pos')) none pos) (tS (gm X) W (rRaise c)) := by
  obtain ⟨C, fI, fd, h1, T, h2, h3, h4, h5, h6⟩ := D0.is_
  refine PSimp (L2N.ps_raise hc tk (pmk_oexN T h2 h3 h6 hr h5 tk hg h1 (pa_cons (pe_str (x := m) (j := j) (pos := p2)) pa_nil) hdb)) fun D σ H q => ?_
  obtain ⟨μ, ρ, M, hE, hS, hF⟩ := q
  refine ⟨by simp, fun a ha => ⟨a, C, m, rfl, hm, T, h4, upd_same, fun dx hdx hne => ⟨rfl, dx, [("what", .str m)], upd_same, ?_, ?_, ?_⟩⟩⟩
  · rw [upd_ne hne, upd_same]
  · rw [upd_ne hne] at hdx
    exact hdx
  · rw [upd_ne hne] at hdx
    have e : upd (del (upd (upd (upd H a (exo a C none)) dx (exd dx [("what", .str m)])) a (exo a C (some dx))) a) dx (.xd [("what", .str m)]) = upd H dx (.xd [("what", .str m)]) := by
      funext b
      by_cases hb : b = dx
      · subst hb
        rw [upd_same, upd_same]
      · rw [upd_ne hb, upd_ne hb]
        by_cases hb2 : b = a
        · subst hb2
          rw [del_same, ha]
        · rw [del_ne hb2, upd_ne hb2, upd_ne hb, upd_ne hb2]
    rw [e]
    have z := hF μ σ (upd H dx (.xd [("what", .str m)])) (some dx) (Ext.new hdx) (List.prefix_refl _) (hE.ext (Ext.new hdx) (List.prefix_refl _)) (hS.grow hdx) trivial
    unfold cval at z
    rw [show (gm X).mg c = some (.ref C) from h1] at z
    exact z
end
/-! ### what the written part must say -/
def oexB (K : PySem.W.Frag) (C : Addr) : Bool := match K.lookup C with
  | some ⟨.type "type", _, .cls cd, sl⟩ => (match cd.mro, sl.toList with
    | .ref C' :: bm, [_, _, _, _, some (.builtin n), _] => C' == C && n == "ValueError.__new__" && !cd.hasDel && cd.hasDict && PySem.HandSPX.refsVE bm
    | _, _ => false)
  | _ => false
theorem oexB_ok {K : PySem.W.Frag} {C : Addr} (q : oexB K C = true) : ∃ nm q N bs bm sn sub ab col dd k0 k1 k2 k3 k5, K.lookup C = some (excClassObj nm q C N bs bm true sn sub ab col dd k0 k1 k2 k3 k5 "ValueError.__new__") ∧ PySem.HandSPX.refsVE bm = true := by
  unfold oexB at q
  split at q
  · rename_i dd cd sl ho
    split at q
    · rename_i C' bm k0 k1 k2 k3 n k5 hm hs
      simp only [Bool.and_eq_true, beq_iff_eq, Bool.not_eq_true'] at q
      obtain ⟨⟨⟨⟨rfl, rfl⟩, hdel⟩, hdict⟩, hv⟩ := q
      obtain ⟨nm, bs, mro, ns, qn, hd, sn, sub, ab, col, del⟩ := cd
      dsimp only at hm hdel hdict
      subst hm hdel hdict
      have hsl : sl = #[k0, k1, k2, k3, some (.builtin "ValueError.__new__"), k5] := by
        obtain ⟨l⟩ := sl
        simp only at hs
        rw [hs]
      subst hsl
      exact ⟨nm, qn, ns, bs, bm, sn, sub, ab, col, dd, k0, k1, k2, k3, k5, ho, hv⟩
    · cases q
  · cases q
def exiB (K : PySem.W.Frag) (c B : Str) : Bool :=
  oexB K (He.ga K c) && PySem.W.findIn K (.ref (He.ga K c)) "__setattr__" == some (some (.builtin "object.__setattr__")) && PySem.W.subIn K (.ref (He.ga K c)) (.type "BaseException") == some true && PySem.W.typeIn K (.ref (He.ga K c)) == some (.type "type") && PySem.W.keepIn K (.ref (He.ga K c)) &&
  PySem.W.findIn K (.ref (He.ga K c)) "__init__" == some (some (.ref (He.ma K (He.ga K c) "__init__"))) && PySem.W.typeIn K (.ref (He.ma K (He.ga K c) "__init__")) == some (.type "function") && PySem.W.findIn K (.ref (He.ga K c)) "what" == some none &&
  PySem.W.specialIn K (.ref (He.ga K B)) "__getattribute__" == some (some (.builtin "type.__getattribute__")) && PySem.W.readsIn K (He.ga K B) (.type "type") && (match PySem.W.findCls K (.ref (He.ga K B)) (.type "type") "__init__" with
    | some (.val v) => v == .builtin "ValueError.__init__"
    | _ => false)
structure ExiB (K : PySem.W.Frag) (c B : Str) : Prop where
  oe : OexC K (He.ga K c)
  i1 : PySem.W.findIn K (.ref (He.ga K c)) "__init__" = some (some (.ref (He.ma K (He.ga K c) "__init__")))
  i2 : PySem.W.typeIn K (.ref (He.ma K (He.ga K c) "__init__")) = some (.type "function")
  i3 : PySem.W.findIn K (.ref (He.ga K c)) "what" = some none
  ic : InitC K (He.ga K B)
theorem exiB_ok {K : PySem.W.Frag} {c B : Str} (h : exiB K c B = true) : ExiB K c B := by
  unfold exiB at h
  simp only [Bool.and_eq_true] at h
  obtain ⟨⟨⟨⟨⟨⟨⟨⟨⟨⟨h1, h2⟩, h3⟩, h4⟩, h5⟩, h6⟩, h7⟩, h8⟩, h9⟩, h10⟩, h11⟩ := h
  refine ⟨⟨oexB_ok h1, eq_of_beq h2, eq_of_beq h3, eq_of_beq h4, h5⟩, eq_of_beq h6, eq_of_beq h7, eq_of_beq h8, ⟨eq_of_beq h9, h10, ?_⟩⟩
  split at h11
  · rename_i v e
    rw [e, eq_of_beq h11]
  · cases h11
end Fl

set_option Elab.async false
set_option linter.all false
set_option maxRecDepth 100000
/-! Fl, part L: lambdas without parameters, handed to defs. -/
namespace Fl
open PySem PySem.Spec L2 PyProof.Rows LamX
set_option autoImplicit false
/-- the context of a lambda's body, what it lets out told with its context -/
abbrev lamCxN (X : Cx) (A : Around) (outer : List PySem.Env) (s : Shared) (H : Hp) (E : XK) (scope : Scope) (f c' : Addr) : Cx :=
  (lamCx X A outer s H E scope f c').wish fun e s' => wpAny (model X.prog X.w) (A.deeper (lamEnv X scope s.heap.objs.size f c')) (leaving (lamEnv X scope s.heap.objs.size f c') e) (fun _ s'' => L2N.CX X.prog X.w outer H s E e s'') (fun e' s'' => L2N.CX X.prog X.w outer H s E e' s'') s'
/-- from the making of the lambda to now -/
def Link (i : LamI) (s : Shared) (H : Hp) : Prop := Un i.F [] i.H0 H i.h0 s.heap
theorem Un.on {F F' : List Addr} {H0 H H1 : Hp} {h0 h h1 : Heap} (a : Un F [] H0 H h0 h) (b : Un F' [] H H1 h h1) (hF : ∀ x ∈ F', x ∈ F ∨ h0.get? x = none) : Un F [] H0 H1 h0 h1 where
  keep := fun c ob q n hc hx => b.keep c ob (a.keep c ob q n hc hx) (a.free c ob q n hx) (fun z => by
    rcases hF c z with z | z
    · exact hc z
    · rw [q] at z; cases z) hx
  slot := fun c ob q n hc hx => by
    obtain ⟨sl, e1⟩ := a.slot c ob q n hc hx
    obtain ⟨sl', e2⟩ := Un.any b e1 (a.free c ob q n hx) hx
    exact ⟨sl', e2⟩
  free := fun c ob q n hx => by
    obtain ⟨o', e1⟩ := a.there c ob q hx
    exact b.free c o' e1 (a.free c ob q n hx) hx
  there := fun c ob q hx => by
    obtain ⟨o', e1⟩ := a.there c ob q hx
    exact b.there c o' e1 hx
  tups := fun c xs q => b.tups c xs (a.tups c xs q)
  frzs := fun c ob xs q => b.frzs c ob xs (a.frzs c ob xs q)
  tbls := fun c ps q => by
    obtain ⟨m1, e1⟩ := a.tbls c ps q
    obtain ⟨m2, e2⟩ := b.tbls c _ e1
    exact ⟨m1 ++ m2, by rw [e2, Array.append_assoc]⟩
/-- what the value stands for -/
def LamR (i : LamI) (μ : List Addr) (H : Hp) : Prop := H i.c = some (CodeO i.c i.q) ∧ i.ν <+: μ ∧ ExtW i.H0 H
theorem Rep.lam {G : Gm} {μ : List Addr} {H : Hp} {i : LamI} {v : V} : Rep G μ H (.lam i) v ↔ v = .ref i.f ∧ LamR i μ H := by simp only [Rep, LamR]
/-- what the lambda does when it is called -/
structure LamOk (P : Program) (w : World) (K : PySem.W.Frag) (mg : Str → Option Value) (base : Heap) (k : Nat) (i : LamI) (B : Store → R D) : Prop where
  ob : ∃ q params body scope cl pm ctv, i.h0.get? i.f = some (PySem.W.kla_obj "<lambda>" q params body scope cl pm i.c ctv) ∧ i.H0 i.f = none ∧ i.f ∉ i.F
  run : ∀ (A : Around) (outer : List PySem.Env) (s : Shared) (H : Hp) (μ : List Addr) (M : Store) (Q : VK) (E : XK), Room k A → Env0 P w K mg base A outer s H → Link i s H → LamR i μ H → SR ⟨K, mg⟩ μ H M → FinC ⟨K, mg⟩ E μ H Q (B M) →
    codeAny (model P w) A (.call (.ref i.f) ⟨[], []⟩) (CR (L2N.CX P w) outer P w H s Q E) s
theorem LamOk.mono {P : Program} {w : World} {K : PySem.W.Frag} {mg : Str → Option Value} {base : Heap} {j k : Nat} {i : LamI} {B : Store → R D} (l : LamOk P w K mg base j i B) (h : j ≤ k) : LamOk P w K mg base k i B :=
  ⟨l.ob, fun A outer s H μ M Q E hr => l.run A outer s H μ M Q E (hr.mono h)⟩
theorem Fin_of_C {G : Gm} {E : XK} {σ : L2.St} {μ : List Addr} {H : Hp} {Q : VK} {r : R D} (h : FinC G E μ H Q r) : Fin G (Rep G) (fun c d _ H => E c d H) μ σ H Q r := by
  cases r with
  | ok d M' => exact h
  | ex c gs M' => exact h
  | no => exact h
section
variable {X : Cx} {pins : List (Addr × Obj)} {σ : L2.St} {H : Hp} {s : Shared}
/-- the lambda that was just made -/
theorem lam_ok {ν : List Addr} {ρ : Fl.Env} {params : Arguments} {body : Expr} {scope : Scope} {f c' : Addr} {pm ctv : Value} {k : Nat} {fb : RE} (I : Inv X pins σ H s) (L : LamS X.env.scope scope)
    (hf : s.heap.get? f = some (PySem.W.kla_obj "<lambda>" (X.env.qual ++ "<lambda>") params body scope (cloFrom X.env.cells scope.names []) pm c' ctv)) (hfn : H f = none) (hfr : f ∉ frs X.stack)
    (hbind : bindArgs (PySem.W.kla_fn "<lambda>" (X.env.qual ++ "<lambda>") params body scope (cloFrom X.env.cells scope.names []) pm (.ref c') ctv) ⟨[], []⟩ = pure []) (hE : ER (gm X) ν H ρ σ)
    (hbody : ∀ (A : Around) (outer : List PySem.Env) (s : Shared) (H : Hp) (E : XK), Room k (A.deeper (lamEnv X scope s.heap.objs.size f c')) → ∀ W : WX, L2N.Takes (lamCxN X A outer s H E scope f c') W → PE (lamCxN X A outer s H E scope f c') body (tE (gm X) W fb)) :
    LamOk X.prog X.w X.K X.mg X.base (k + 1) ⟨f, c', X.env.qual ++ "<lambda>", ν, H, s.heap, frs X.stack⟩ (fb ρ) := by
  refine ⟨⟨_, _, _, _, _, _, _, hf, hfn, hfr⟩, fun A outer sZ HZ μ M Q E hr e0 lk lr S hF => ?_⟩
  have un : Un (frs X.stack) [] H HZ s.heap sZ.heap := lk
  obtain ⟨hco, hpre, hext⟩ := lr
  have of1 : sZ.heap.get? f = some (PySem.W.kla_obj "<lambda>" (X.env.qual ++ "<lambda>") params body scope (cloFrom X.env.cells scope.names []) pm c' ctv) := un.keep f _ hf hfn hfr (fun z => nomatch (show f ∈ ([] : List Addr) from z))
  obtain ⟨⟨oc, vs, t, hoc, hdc, hvc⟩, _, _⟩ := e0.hok c' _ hco
  have lim : sZ.heap.NoLimit := e0.mod.nolimit.keeps fun b o e => (e0.bs b o e).1
  refine PySem.W.kla_callFunE hr.depth of1 rfl L.co L.gen rfl ⟨c', oc, vs, t, rfl, hoc, hdc, hvc⟩ ?_
  rw [hbind]
  refine wpAny_pure (wpAny_newFunctionEnv (fun y hy => (L.own y hy).2) (fun y hy => absurd hy (by simp)) (fun h₁ hns hsb => ⟨lim.fresh _ hsb, ?_⟩) L.kind)
  show codeAny _ _ (.expr body (lamEnv X scope sZ.heap.objs.size f c')) _ _
  have kp : ∀ b o, sZ.heap.get? b = some o → h₁.get? b = some o := fun b o e => hsb.extBut b o (Nat.ne_of_lt (Heap.lt_size e)) (Heap.get?_push_of_some _ e)
  have J : Inv (lamCxN X A outer sZ HZ E scope f c') [] σ HZ { sZ with heap := h₁, toks := sZ.toks + ([] : List (Str × Value)).length } := (lam_start2 (E := E) I L e0 hr.hd un hns kp).wish _
  have tk : L2N.Takes (lamCxN X A outer sZ HZ E scope f c') (fun cls d _ H' => E cls d H') := L2N.takes_of rfl rfl rfl rfl
  have ht : tE (gm X) (fun cls d _ H' => E cls d H') fb σ HZ Q := ⟨μ, ρ, M, hE.extW hext hpre, S, Fin_of_C hF⟩
  refine PySem.W.kla_codeExpr (wpAny_mono ((hbody A outer sZ HZ E (hr.deeper _) _ tk).run [] _ σ HZ Q J ht) (fun v s' hq => ?_) fun e s' hq => hq)
  obtain ⟨w', H', J', rv, q⟩ := hq
  exact ⟨w', H', J'.os, J'.bare, J'.base, J'.hok, rv, q⟩
end
/-! ### x(), x a parameter that got a lambda -/
/-- an error with fields of its own is not told -/
def noFs : R D → R D
  | .ex _ (some _) _ => .no
  | r => r
theorem noFs_fin {G : Gm} {E : XK} {μ : List Addr} {H : Hp} {Q : VK} {r : R D} (h : FinC G E μ H Q (noFs r)) : FinC G E μ H Q r := by
  cases r with
  | ok d M => exact h
  | no => exact h
  | ex c fs M =>
    cases fs with
    | none => exact h
    | some gs => exact h.elim
open Classical in
noncomputable def rLam (j : Nat) (i : LamI) (B : Store → R D) : RE := fun ρ M => match ρ[j]? with
  | some (some (.lam i')) => if i' = i then noFs (B M) else .no
  | _ => .no
theorem i_lamcall {Z : Cx} {W : WX} {i : LamI} {B : Store → R D} {k j : Nat} {a : Str} {p1 p2 : Pos} (LO : LamOk Z.prog Z.w Z.K Z.mg Z.base k i B) (hr : Room k Z.A) (tk : L2N.Takes Z W) (hlk : ∀ pins s σ H, Inv Z pins σ H s → Link i s H)
    (hN : Z.N[j]? = some a := by rfl) (hv : Vis Z.env.scope a := by first | exact Or.inl rfl | exact Or.inr (Or.inl rfl) | exact Or.inr (Or.inr rfl)) (hd : (a == ("__debug__" : Str)) = false := by decide) (hcd : (a == ("__classdict__" : Str)) = false := by decide) :
    PE Z (.Call (.Name a p1) [] [] p2) (tE (gm Z) W (rLam j i B)) := by
  refine ⟨fun pins s σ H Q I h => ?_⟩
  obtain ⟨μ, ρ, M, hE, hS, hF⟩ := h
  unfold rLam at hF
  split at hF
  · rename_i i' e
    split at hF
    · rename_i ei
      subst ei
      obtain ⟨v, e1, r⟩ := hE.at_ j _ e
      simp only [Rep] at r
      obtain ⟨rfl, r2⟩ := r
      refine wpAny_Call_Name_kw (thn ((pe_var (pos := p1) (i := j) hN hv hd hcd).run pins s σ H (fun v H1 => v = .ref i'.f ∧ H1 = H) I ⟨_, e1, rfl, rfl⟩) fun u s1 ⟨v, H1, I1, r1, q1⟩ => ?_)
      obtain ⟨ev, eH⟩ := q1
      subst ev eH
      obtain rfl : u = Value.ref i'.f := r1
      have lk := hlk _ _ _ _ I1
      obtain ⟨q, params, body, scope, cl, pm, ctv, o1, o2, o3⟩ := LO.ob
      have of1 := lk.keep _ _ o1 o2 o3 (fun z => nomatch (show _ ∈ ([] : List Addr) from z))
      refine PySem.W.callWith_F0 ⟨_, _, _, _, of1⟩ ?_
      refine wpAny_call (codeAny_mono (LO.run Z.A Z.stack s1 H1 μ M Q (WE W σ) hr I1.env0 lk r2 hS (noFs_fin (FinC_of hF))) fun r s' hq => ?_)
      cases r with
      | error e => exact L2N.passAt tk σ pins H1 s1 e s' I1 hq
      | ok fl =>
        cases fl with
        | ret u => exact I1.after hq
        | next => exact False.elim hq
        | brk => exact False.elim hq
        | cont => exact False.elim hq
    · exact hF.elim
  · exact hF.elim
/-! ### a def that gets a lambda as its first argument -/
/-- the promise: FT tells what comes, by what the lambda does -/
def FnL (P : Program) (w : World) (K : PySem.W.Frag) (mg : Str → Option Value) (base : Heap) (kl k : Nat) (f : Addr) (fd : FuncData) (ps : List Str) (FT : (Store → R D) → List D → Store → R D) : Prop :=
  ∀ (A : Around) (outer : List PySem.Env) (s : Shared) (H : Hp) (i : LamI) (B : Store → R D) (args : Args) (us : List Value) (vs : List V) (μ : List Addr) (ds : List D) (M : Store) (Q : VK) (E : XK), Room k A → Env0 P w K mg base A outer s H →
    LamOk P w K mg base kl i B → Link i s H → (∀ b ∈ frs outer, b ∈ i.F ∨ i.h0.get? b = none) → BindsTo s fd args (ps.zip us) → Vals vs us → Reps ⟨K, mg⟩ μ H (.lam i :: ds) vs → ds.length + 1 = ps.length → SR ⟨K, mg⟩ μ H M → FinC ⟨K, mg⟩ E μ H Q (FT B ds M) →
    codeAny (model P w) A (.call (.ref f) args) (CR (L2N.CX P w) outer P w H s Q E) s
structure DfL (P : Program) (w : World) (K : PySem.W.Frag) (mg : Str → Option Value) (base : Heap) (x : Str) (ps : List Str) (FT : (Store → R D) → List D → Store → R D) (kl k : Nat) : Prop where
  is_ : ∃ f fd, mg x = some (.ref f) ∧ PySem.W.keepIn K (.ref f) = true ∧ Binds K fd ps [] ∧ FnL P w K mg base kl k f fd ps FT
section
variable {P : Program} {w : World} {K : PySem.W.Frag} {mg : Str → Option Value} {base : Heap}
/-- the frame of a def that is entered at s is new -/
theorem link_in {N : List Str} {qual : Str} {scope : Scope} {f : Addr} {cdv : Value} {A : Around} {outer : List PySem.Env} {s : Shared} {H : Hp} {E : XK} {i : LamI} (lk : Link i s H) (hF : ∀ b ∈ frs outer, b ∈ i.F ∨ i.h0.get? b = none) {CX : CXT}
    {pins : List (Addr × Obj)} {s' : Shared} {σ : L2.St} {H' : Hp} (u : Un (frs outer) [] H H' s.heap s'.heap) : Link i s' H' := Un.on lk u hF
theorem frs_in {qual : Str} {scope : Scope} {f : Addr} {cdv : Value} {outer : List PySem.Env} {s : Shared} {H : Hp} {i : LamI} (lk : Link i s H) (hF : ∀ b ∈ frs outer, b ∈ i.F ∨ i.h0.get? b = none) :
    ∀ b ∈ frs (PyProof.Rows.envOfC qual scope s.heap.objs.size f cdv :: outer), b ∈ i.F ∨ i.h0.get? b = none := fun b hb => by
  rcases List.mem_cons.mp (show b ∈ s.heap.objs.size :: frs outer from hb) with rfl | hb
  · refine .inr ?_
    cases q : i.h0.get? s.heap.objs.size with
    | none => rfl
    | some o =>
      obtain ⟨o', e⟩ := lk.there _ o q (fun z => nomatch (show _ ∈ ([] : List Addr) from z))
      exact absurd (Heap.lt_size e) (Nat.lt_irrefl _)
  · exact hF b hb
/-- THE RULE for such a def: m is its body's reading -/
theorem fn_L {x qual : Str} {params : Arguments} {body : List Stmt} {scope : Scope} {dvs : List V} {kws : List (Str × V)} {f : Addr} {fd : FuncData} {N ps : List Str} {kl k : Nat} {m : LamI → (Store → R D) → RS} {FT : (Store → R D) → List D → Store → R D}
    (Fu : FunD K x qual params body scope dvs kws f fd) (S : FnScope N ps scope)
    (hb : ∀ (cdv : Value) (A : Around) (outer : List PySem.Env) (s : Shared) (H : Hp) (E : XK) (i : LamI) (B : Store → R D), Room k (A.deeper (PyProof.Rows.envOfC qual scope s.heap.objs.size f cdv)) → LamOk P w K mg base kl i B → Link i s H → (∀ b ∈ frs outer, b ∈ i.F ∨ i.h0.get? b = none) →
      ∀ W : WX, L2N.Takes (cxOf (L2N.CX P w) P w K mg base N qual scope f cdv A outer s H E) W → PSs (cxOf (L2N.CX P w) P w K mg base N qual scope f cdv A outer s H E) body (tS ⟨K, mg⟩ W (m i B)))
    (hF : ∀ i B ds M, ds.length + 1 = ps.length → Grows M (FT B ds M) ∧ Tells (FT B ds M) (bodyR (m i B (startD N.length (.lam i :: ds)) M))) :
    FnL P w K mg base kl (k + 1) f fd ps FT := by
  obtain ⟨oc, od, dV, kV, doc, pm, an, cdv, ct, osl, rfl, lk, hcd, _, _⟩ := Fu.ex
  intro A outer s H i B args us vs μ ds M Q E hr e0 LO lnk hfr hbd rv hds hn hS hQ
  have hl : vs.length = ps.length := by rw [hds.len_eq]; simpa using hn
  refine run_ofS lk hcd S hr e0 hbd rv hl fun hr' => ?_
  have tk : L2N.Takes (cxOf (L2N.CX P w) P w K mg base N qual scope f cdv A outer s H E) (fun c d _ H' => E c d H') := L2N.takes_of rfl rfl rfl rfl
  refine ⟨_, hb cdv A outer s H E i B hr' LO lnk hfr _ tk, μ, startD N.length (.lam i :: ds), M, startD_ok hds, hS, ?_⟩
  obtain ⟨g, t⟩ := hF i B ds M hn
  have hq := FinC_tells hS.len g t hQ
  cases q : m i B (startD N.length (.lam i :: ds)) M with
  | nx ρ M' => rw [q] at hq; exact fun μ' σ' H' e p _ s => hq μ' .non H' e p s (Rep.non.mpr rfl)
  | rt d M' => rw [q] at hq; exact hq
  | bk ρ M' => rw [q] at hq; exact hq.elim
  | ct ρ M' => rw [q] at hq; exact hq.elim
  | ex c fs ρ M' => rw [q] at hq; exact fun μ' σ' H' dx e p _ s x => hq μ' H' dx e p s x
  | no => rw [q] at hq; exact hq
end
/-! ### the making of a lambda -/
/-- the tables of code objects in the store -/
def tabsOf (μ : List Addr) (M : Store) : List (Addr × Str) := (μ.zip M).filterMap fun q => match q.2 with
  | .tab x => some (q.1, lamQ x)
  | _ => none
theorem tabsOf_mem {μ : List Addr} {M : Store} {a : Addr} {q : Str} : (a, q) ∈ tabsOf μ M ↔ ∃ (l : Nat) (x : Str), μ[l]? = some a ∧ M[l]? = some (O.tab x) ∧ q = lamQ x := by
  unfold tabsOf
  rw [List.mem_filterMap]
  constructor
  · rintro ⟨⟨b, o⟩, hm, h⟩
    obtain ⟨l, hl, e⟩ := List.mem_iff_getElem.mp hm
    have e1 : (μ.zip M)[l]? = some (b, o) := by rw [List.getElem?_eq_getElem hl, e]
    rw [List.getElem?_zip_eq_some] at e1
    obtain ⟨e2, e3⟩ := e1
    cases o with
    | tab x => cases h; exact ⟨l, x, e2, e3, rfl⟩
    | _ => cases h
  · rintro ⟨l, x, e1, e2, rfl⟩
    refine ⟨(a, O.tab x), ?_, rfl⟩
    have e3 : (μ.zip M)[l]? = some (a, O.tab x) := List.getElem?_zip_eq_some.mpr ⟨e1, e2⟩
    exact List.mem_of_getElem? e3
section
variable {G : Gm} {μ : List Addr} {H H1 : Hp} {M : Store}
theorem tabs_SR (S : SR G μ H M) : Tabs (tabsOf μ M) H := by
  rintro ⟨a, q⟩ hm
  obtain ⟨l, x, e1, e2, rfl⟩ := tabsOf_mem.mp hm
  exact (S.obj l a _ e1 e2).2
theorem SR.extN (S : SR G μ H M) (e : ExtN H H1) (T : Tabs (tabsOf μ M) H1) : SR G μ H1 M := by
  refine ⟨S.len, S.nd, fun l a o h1 h2 => ?_⟩
  have r := S.obj l a o h1 h2
  have ex := Ext.extN e
  have keep : ∀ u, H a = some u → (∀ ps, u ≠ .tbl ps) → H1 a = H a := fun u hu n => by rw [hu]; exact e a u hu n
  cases o with
  | tab x => exact ⟨r.1, T (a, lamQ x) (tabsOf_mem.mpr ⟨l, x, h1, h2, rfl⟩)⟩
  | ro xs => exact r.ext ex (List.prefix_refl _) (by
      obtain ⟨vs, k1, k2⟩ := r
      rcases k1 with ⟨ob, k1⟩ | k1
      · exact .inl (keep _ k1 (fun ps z => by cases z))
      · cases q : H a with
        | none => exact .inr ⟨rfl, fun ob w z => by cases z⟩
        | some u =>
          by_cases hu : ∃ ps, u = .tbl ps
          · obtain ⟨ps, rfl⟩ := hu
            exact .inr ⟨rfl, fun ob w z => by cases z⟩
          · rw [← q]
            exact .inl (keep u q fun ps z => hu ⟨ps, z⟩))
  | lst xs => obtain ⟨vs, k1, k2⟩ := r; exact ⟨vs, e _ _ k1 (fun ps z => by cases z), k2.ext ex (List.prefix_refl _)⟩
  | ins c fs => obtain ⟨C, dx, gs, k0, k1, k2⟩ := r; exact ⟨C, dx, gs, k0, e _ _ k1 (fun ps z => by cases z), k2.ext ex (List.prefix_refl _)⟩
  | dk fs => obtain ⟨gs, k1, k2⟩ := r; exact ⟨gs, e _ _ k1 (fun ps z => by cases z), k2.ext ex (List.prefix_refl _)⟩
  | dt fs => obtain ⟨gs, k1, k2⟩ := r; exact ⟨gs, e _ _ k1 (fun ps z => by cases z), k2.ext ex (List.prefix_refl _)⟩
  | rod fs => obtain ⟨od, gs, k1, k2⟩ := r; exact ⟨od, gs, e _ _ k1 (fun ps z => by cases z), k2.ext ex (List.prefix_refl _)⟩
  | rodt fs => obtain ⟨od, gs, k1, k2⟩ := r; exact ⟨od, gs, e _ _ k1 (fun ps z => by cases z), k2.ext ex (List.prefix_refl _)⟩
end
/-- what is known of a def that makes lambdas -/
structure LamT (X : Cx) (y : Str) : Prop where
  is_ : ∃ c P, PySem.W.tabIn X.K y = some (c, P) ∧ X.env.code = .ref c ∧ TabB X.base X.mg c P ∧ X.env.qual ++ "<lambda>" = lamQ y
section
variable {X : Cx} {pins : List (Addr × Obj)} {σ : L2.St} {H : Hp} {s : Shared}
theorem wp_lam {y : Str} {μ : List Addr} {ρ : Fl.Env} {M : Store} {l k : Nat} {params : Arguments} {body : Expr} {scope : Scope} {pos : Pos} {fb : RE} {Q E' : Value → Shared → Prop} (I : Inv X pins σ H s) (hE : ER (gm X) μ H ρ σ) (hS : SR (gm X) μ H M) (hl : M[l]? = some (.tab y))
    (T : LamT X y) (L : LamS X.env.scope scope) (hdef : defaultsOf params X.env = ([], []))
    (hbind : ∀ (q : Str) (cl : List (Str × Addr)) (pm cv ctv : Value), bindArgs (PySem.W.kla_fn "<lambda>" q params body scope cl pm cv ctv) ⟨[], []⟩ = pure [])
    (hbody : ∀ (A : Around) (outer : List PySem.Env) (s : Shared) (H : Hp) (E : XK) (f c' : Addr), Room k (A.deeper (lamEnv X scope s.heap.objs.size f c')) → ∀ W : WX, L2N.Takes (lamCxN X A outer s H E scope f c') W → PE (lamCxN X A outer s H E scope f c') body (tE (gm X) W fb))
    (h : ∀ (i : LamI) (H1 : Hp) (s' : Shared), Inv X pins σ H1 s' → Ext H H1 → SR (gm X) μ H1 M → LamOk X.prog X.w X.K X.mg X.base (k + 1) i (fb ρ) → Link i s' H1 → (∀ b ∈ frs X.stack, b ∈ i.F) → LamR i μ H1 → Q (.ref i.f) s') :
    wpAny (model X.prog X.w) X.A (eval (.Lambda params body scope pos) X.env) Q E' s := by
  obtain ⟨c, P, ht, hcode, TB, hq⟩ := T.is_
  obtain ⟨a, ha, hr⟩ := hS.adr hl
  obtain ⟨⟨c0, ht0⟩, hts⟩ := hr
  have ec := ht.symm.trans ht0
  cases ec
  refine lam_make2 (T := tabsOf μ M) I TB hcode (by rw [hq]; exact tabsOf_mem.mpr ⟨l, y, ha, hl, rfl⟩) (fun p hp hb => ?_) (tabs_SR hS) hdef (L.has I.ok) fun f c' pm ctv H1 s' I1 eN T1 hf hfn hfr hco => ?_
  · obtain ⟨b, q⟩ := p
    obtain ⟨l2, x2, e1, e2, rfl⟩ := tabsOf_mem.mp hp
    have hb : b = P := hb
    subst hb
    rcases hS.nd l l2 b _ _ ha e1 hl e2 with z | z | z
    · cases z
    · cases z
    · subst z
      rw [hl] at e2
      cases e2
      exact hq.symm
  · have ex := Ext.extN eN
    have S1 := hS.extN eN T1
    exact h ⟨f, c', X.env.qual ++ "<lambda>", μ, H1, s'.heap, frs X.stack⟩ H1 s' I1 ex S1 (lam_ok I1 L hf hfn hfr (hbind _ _ _ _ _) (hE.ext ex (List.prefix_refl _)) fun A outer s H E hr W tk => hbody A outer s H E f c' hr W tk) Un.refl (fun b hb => hb) ⟨hco, List.prefix_refl _, .refl _⟩
/-- the call's end -/
theorem call_end {W : WX} {Q : VK} {f : Addr} {us : List Value} (tk : L2N.Takes X W) (I : Inv X pins σ H s) (rc : codeAny (model X.prog X.w) X.A (.call (.ref f) ⟨us, []⟩) (CR (L2N.CX X.prog X.w) X.stack X.prog X.w H s Q (WE W σ)) s) :
    wpAny (model X.prog X.w) X.A (call (.ref f) us) (EP X pins σ Q) X.xe s := by
  refine wpAny_call (codeAny_mono rc fun r s' hq => ?_)
  cases r with
  | error e => exact L2N.passAt tk σ pins H s e s' I hq
  | ok fl =>
    cases fl with
    | ret u => exact I.after hq
    | next => exact False.elim hq
    | brk => exact False.elim hq
    | cont => exact False.elim hq
end
/-- f(lambda: body), f(lambda: body, 'text'): y, the def that makes it; l, the place of its table -/
def rLamCall (l : Nat) (y : Str) (FT : (Store → R D) → List D → Store → R D) (fb : RE) (ds : List D) : RE := fun ρ M => match M[l]? with
  | some (.tab x) => if x = y then FT (fb ρ) ds M else .no
  | _ => .no
section
variable {X : Cx} {W : WX}
theorem lam_pre {l : Nat} {y : Str} {FT : (Store → R D) → List D → Store → R D} {fb : RE} {ds : List D} {σ : L2.St} {H : Hp} {Q : VK} (h : tE (gm X) W (rLamCall l y FT fb ds) σ H Q) :
    ∃ μ ρ M, ER (gm X) μ H ρ σ ∧ SR (gm X) μ H M ∧ M[l]? = some (.tab y) ∧ Fin (gm X) (Rep (gm X)) W μ σ H Q (FT (fb ρ) ds M) := by
  obtain ⟨μ, ρ, M, hE, hS, hF⟩ := h
  unfold rLamCall at hF
  split at hF
  · rename_i x e
    split at hF
    · rename_i e1
      subst e1
      exact ⟨μ, ρ, M, hE, hS, e, hF⟩
    · exact hF.elim
  · exact hF.elim
theorem i_callLam0 {x y : Str} {ps : List Str} {FT : (Store → R D) → List D → Store → R D} {kl k l : Nat} {params : Arguments} {body : Expr} {scope : Scope} {fb : RE} {p lpos pos : Pos} (D0 : DfL X.prog X.w X.K X.mg X.base x ps FT (kl + 1) k) (hn : ps.length = 1) (hr : Room k X.A) (hg : Gl X x) (tk : L2N.Takes X W)
    (T : LamT X y) (L : LamS X.env.scope scope) (hdef : defaultsOf params X.env = ([], []))
    (hbind : ∀ (q : Str) (cl : List (Str × Addr)) (pm cv ctv : Value), bindArgs (PySem.W.kla_fn "<lambda>" q params body scope cl pm cv ctv) ⟨[], []⟩ = pure [])
    (hbody : ∀ (A : Around) (outer : List PySem.Env) (s : Shared) (H : Hp) (E : XK) (f c' : Addr), Room kl (A.deeper (lamEnv X scope s.heap.objs.size f c')) → ∀ W : WX, L2N.Takes (lamCxN X A outer s H E scope f c') W → PE (lamCxN X A outer s H E scope f c') body (tE (gm X) W fb))
    (hdb : (x == ("__debug__" : Str)) = false := by decide) :
    PE X (.Call (.Name x p) [.Lambda params body scope lpos] [] pos) (tE (gm X) W (rLamCall l y FT fb [])) := by
  obtain ⟨g, fd, h1, h2, h3, h4⟩ := D0.is_
  refine ⟨fun pins s σ H Q I h => ?_⟩
  obtain ⟨μ, ρ, M, hE, hS, hl, hF⟩ := lam_pre h
  refine wpAny_Call_Name_kw (ld_glob I hg h1 ?_ hdb)
  refine PySem.W.callWith_K (h₀ := X.base) I.ok.mod.kin h2 ?_ (by rfl) (by rfl)
  show wpAny _ _ (spliced ((false, eval (.Lambda params body scope lpos) X.env) :: backTo pos (starEach [] X.env))) _ _ s
  refine Calls.spliced_cons (wp_lam I hE hS hl T L hdef hbind hbody fun i H1 s' I1 ex S1 LO lk hfr lr => ?_)
  refine Calls.spliced_nil ⟨I1.kIn, ?_⟩
  have hFC := Fin.later ex (List.prefix_refl μ) hF
  have hb := h3 s' [.ref i.f] I1.kIn (by rw [List.append_nil, hn]; rfl)
  rw [List.append_nil] at hb
  exact call_end tk I1 (h4 X.A X.stack s' H1 i (fb ρ) ⟨[.ref i.f], []⟩ [.ref i.f] [.ref i.f] μ [] M Q (WE W σ) hr I1.env0 LO lk (fun b hb => .inl (hfr b hb)) hb (.cons rfl .nil) (.cons (Rep.lam.mpr ⟨rfl, lr⟩) .nil) (by rw [hn]; rfl) S1 (FinC_of hFC))
theorem i_callLam1 {x y z : Str} {ps : List Str} {FT : (Store → R D) → List D → Store → R D} {kl k l j : Nat} {params : Arguments} {body : Expr} {scope : Scope} {fb : RE} {p lpos zpos pos : Pos} (D0 : DfL X.prog X.w X.K X.mg X.base x ps FT (kl + 1) k) (hn : ps.length = 2) (hr : Room k X.A) (hg : Gl X x) (tk : L2N.Takes X W)
    (T : LamT X y) (L : LamS X.env.scope scope) (hdef : defaultsOf params X.env = ([], []))
    (hbind : ∀ (q : Str) (cl : List (Str × Addr)) (pm cv ctv : Value), bindArgs (PySem.W.kla_fn "<lambda>" q params body scope cl pm cv ctv) ⟨[], []⟩ = pure [])
    (hbody : ∀ (A : Around) (outer : List PySem.Env) (s : Shared) (H : Hp) (E : XK) (f c' : Addr), Room kl (A.deeper (lamEnv X scope s.heap.objs.size f c')) → ∀ W : WX, L2N.Takes (lamCxN X A outer s H E scope f c') W → PE (lamCxN X A outer s H E scope f c') body (tE (gm X) W fb))
    (hdb : (x == ("__debug__" : Str)) = false := by decide) :
    PE X (.Call (.Name x p) [.Lambda params body scope lpos, .Constant (.str z) j zpos] [] pos) (tE (gm X) W (rLamCall l y FT fb [.p (.str z)])) := by
  obtain ⟨g, fd, h1, h2, h3, h4⟩ := D0.is_
  refine ⟨fun pins s σ H Q I h => ?_⟩
  obtain ⟨μ, ρ, M, hE, hS, hl, hF⟩ := lam_pre h
  refine wpAny_Call_Name_kw (ld_glob I hg h1 ?_ hdb)
  refine PySem.W.callWith_K (h₀ := X.base) I.ok.mod.kin h2 ?_ (by rfl) (by rfl)
  show wpAny _ _ (spliced ((false, eval (.Lambda params body scope lpos) X.env) :: backTo pos (starEach [.Constant (.str z) j zpos] X.env))) _ _ s
  refine Calls.spliced_cons (wp_lam I hE hS hl T L hdef hbind hbody fun i H1 s' I1 ex S1 LO lk hfr lr => ?_)
  show wpAny _ _ (spliced ((false, eval (.Constant (.str z) j zpos) X.env) :: backTo pos (starEach [] X.env))) _ _ s'
  refine Calls.spliced_cons (Calls.Constant_str ?_)
  have I2 := I1.tok (t := s'.toks + 1)
  refine Calls.spliced_nil ⟨I2.kIn, ?_⟩
  have hFC := Fin.later ex (List.prefix_refl μ) hF
  have hb := h3 { s' with toks := s'.toks + 1 } [.ref i.f, .str z s'.toks] I2.kIn (by rw [List.append_nil, hn]; rfl)
  rw [List.append_nil] at hb
  exact call_end tk I2 (h4 X.A X.stack _ H1 i (fb ρ) ⟨[.ref i.f, .str z s'.toks], []⟩ [.ref i.f, .str z s'.toks] [.ref i.f, .str z] μ [.p (.str z)] M Q (WE W σ) hr I2.env0 LO lk (fun b hb => .inl (hfr b hb)) hb (.cons rfl (.cons ⟨_, rfl⟩ .nil)) (.cons (Rep.lam.mpr ⟨rfl, lr⟩) (.cons (Rep.str.mpr rfl) .nil)) (by rw [hn]; rfl) S1 (FinC_of hFC))
end
/-! ### a def that hands its lambda on -/
open Classical in
noncomputable def lamOnK (n : Nat) (i : LamI) (B : Store → R D) (FT : (Store → R D) → List D → Store → R D) : List D → Store → R D
  | .lam i' :: r, M1 => if i' = i ∧ r.length + 1 = n then FT B r M1 else .no
  | _, _ => .no
noncomputable def rLamOn (n : Nat) (i : LamI) (B : Store → R D) (FT : (Store → R D) → List D → Store → R D) (fs : RA) : RE := fun ρ M => (fs ρ M).bind fun ds M1 => lamOnK n i B FT ds M1
section
variable {X : Cx} {W : WX}
theorem i_lamon {x : Str} {ps : List Str} {FT : (Store → R D) → List D → Store → R D} {kl k : Nat} {i : LamI} {B : Store → R D} {e : Expr} {es : List Expr} {fs : RA} {p pos : Pos} (D0 : DfL X.prog X.w X.K X.mg X.base x ps FT kl k) (LO : LamOk X.prog X.w X.K X.mg X.base kl i B) (hr : Room k X.A) (hg : Gl X x) (tk : L2N.Takes X W)
    (hlk : ∀ pins s σ H, Inv X pins σ H s → Link i s H ∧ ∀ b ∈ frs X.stack, b ∈ i.F ∨ i.h0.get? b = none)
    (ha : PA X (e :: es) (tA (gm X) W fs)) (hdb : (x == ("__debug__" : Str)) = false := by decide)
    (he : starEach (e :: es) X.env = (false, eval e X.env) :: starEach es X.env := by rfl) (hpl : (backTo pos (starEach es X.env)).any (·.1) = false := by rfl) : PE X (.Call (.Name x p) (e :: es) [] pos) (tE (gm X) W (rLamOn ps.length i B FT fs)) := by
  obtain ⟨g, fd, h1, h2, h3, h4⟩ := D0.is_
  refine ⟨fun pins s σ H Q I h => ?_⟩
  refine wpAny_Call_Name_kw (ld_glob I hg h1 ?_ hdb)
  refine PySem.W.callWith_K (h₀ := X.base) I.ok.mod.kin h2 (thn (ha.run pos pins s σ H _ I (tX.bind h)) fun us s1 ⟨vs, H1, I1, r, q⟩ => ⟨I1.kIn, ?_⟩) he hpl
  obtain ⟨μ, ρ, M, ds, hE, hS, rx, hF⟩ := q
  have hF2 : Fin (gm X) (Rep (gm X)) W μ σ H1 Q (lamOnK ps.length i B FT ds M) := hF
  unfold lamOnK at hF2
  split at hF2
  · rename_i i' r0
    split at hF2
    · rename_i hc
      obtain ⟨rfl, hn⟩ := hc
      have hlen : us.length = ps.length := by rw [← r.length, rx.len_eq, ← hn]; rfl
      have hb := h3 s1 us I1.kIn (by rw [List.append_nil]; exact hlen)
      rw [List.append_nil] at hb
      obtain ⟨lk, hfr⟩ := hlk _ _ _ _ I1
      exact call_end tk I1 (h4 X.A X.stack s1 H1 i' B ⟨us, []⟩ us vs μ r0 M Q (WE W σ) hr I1.env0 LO lk hfr hb r rx hn hS (FinC_of hF2))
    · exact hF2.elim
  · exact hF2.elim
end
/-! ### the end of a law that makes lambdas -/
/-- the written part tells the table of the def y, and does not hold it -/
def lamB (K : PySem.W.Frag) (y : Str) : Bool := match PySem.W.tabIn K y with
  | some (_, P) => (K.lookup P).isNone
  | none => false
theorem lamB_ok {K : PySem.W.Frag} {y : Str} (h : lamB K y = true) : ∃ c P, PySem.W.tabIn K y = some (c, P) ∧ K.lookup P = none := by
  unfold lamB at h
  split at h
  · rename_i c P e
    exact ⟨c, P, e, by simpa using h⟩
  · cases h
theorem law_specT {K : PySem.W.Frag} {mg : Str → Option Value} {F : List D → Store → R D} {n : Nat} {y : Str} {c P : Addr} (ht : PySem.W.tabIn K y = some (c, P))
    (hF : ∀ ns : List Int, ns.length ≤ n → ∀ o, (o = .ro (ns.map fun i => .p (.int i)) ∨ o = .lst (ns.map fun i => .p (.int i))) → ∃ M, F [.ref 0] [o, .tab y] = .ok (.p (.bl true)) M) :
    ∀ (H : Hp) (a : Addr) (ns : List Int), ns.length ≤ n → (∀ p ∈ [(c, P)], H p.2 = some (.tbl #[])) → SqL K H a (ns.map V.int) → spD ⟨K, mg⟩ F 1 [.ref a] H (fun v _ => v = .bl true) fun _ _ _ => False := by
  intro H a ns hl hT hq
  have hP : H P = some (.tbl #[]) := hT (c, P) List.mem_cons_self
  have intsR : ∀ (μ : List Addr) (ns : List Int), Reps ⟨K, mg⟩ μ H (ns.map fun i => D.p (.int i)) (ns.map V.int) := fun μ ns => by
    induction ns with
    | nil => exact .nil
    | cons x xs ih => exact .cons (Rep.int.mpr rfl) ih
  obtain ⟨o, ho, hro, hob⟩ : ∃ o : O, (o = .ro (ns.map fun i => D.p (.int i)) ∨ o = .lst (ns.map fun i => D.p (.int i))) ∧ (o.isRo = true ∨ a ≠ P) ∧ ∀ μ, ObjRep ⟨K, mg⟩ μ H a o := by
    rcases hq with (hq | hq) | hq
    · exact ⟨_, .inr rfl, .inr (fun z => by rw [z, hP] at hq; cases hq), fun μ => ⟨_, hq, intsR μ ns⟩⟩
    · exact ⟨_, .inl rfl, .inl rfl, fun μ => ⟨_, .inl hq, intsR μ ns⟩⟩
    · exact ⟨_, .inl rfl, .inl rfl, fun μ => ⟨_, .inr hq, intsR μ ns⟩⟩
  obtain ⟨M, e⟩ := hF ns hl o ho
  refine ⟨[a, P], [.ref 0], [o, .tab y], rfl, .cons (Rep.ref.mpr ⟨a, rfl, rfl⟩) .nil, ?_, ?_⟩
  · refine ⟨rfl, fun i j b x y' h1 h2 h3 h4 => ?_, fun l b ob h1 h2 => ?_⟩
    · match i, j with
      | 0, 0 => exact .inr (.inr rfl)
      | 1, 1 => exact .inr (.inr rfl)
      | 0, 1 =>
        cases h1
        cases h2
        cases h3
        rcases hro with z | z
        · exact .inl z
        · exact absurd rfl z
      | 1, 0 =>
        cases h1
        cases h2
        cases h4
        rcases hro with z | z
        · exact .inr (.inl z)
        · exact absurd rfl z
      | i + 2, j => simp at h1
      | 0, j + 2 => simp at h2
      | 1, j + 2 => simp at h2
    · match l with
      | 0 =>
        cases h1
        cases h2
        exact hob _
      | 1 =>
        cases h1
        cases h2
        exact ⟨⟨c, ht⟩, TabS.nil hP⟩
      | l + 2 => simp at h1
  · rw [e]
    exact fun μ' v H' _ _ _ r => Rep.bl.mp r
/-- a law with a table: F gives the written part, the function object, the promise over every base -/
theorem walk_ofXT {l : PySem.W.OpenLaw} {n k : Nat} {q : Program} {loose : List Str} {XP : (Str → Option Value) → Heap → Prop} {YP : World → Heap → Prop} {d : DefRec} {CX : World → CXT} {x y : Str} {dd : DefRec}
    (hn : l.most = some n) (hn2 : n ≤ sizeLine) (hdf : d.params.defaults = []) (hr : Room k callerA) (hd : (recsOf q).find? (fun e => e.name == y) = some dd)
    (F : ∀ (w : World) (mg : Str → Option Value) (fa : Addr) (h : Heap), YP w h → h.Ns mainGlobals mg → mg d.name = some (.ref fa) →
      ∃ (K : PySem.W.Frag) (fd : FuncData) (sp : Sp) (c P : Addr), K.In h ∧ PySem.W.tabIn K y = some (c, P) ∧ K.lookup P = none ∧ (∀ (s : Shared) (u : Value), BindsTo s fd ⟨[u], []⟩ [(x, u)]) ∧
        (∀ (H : Hp) (a : Addr) (ns : List Int), ns.length ≤ n → (∀ p ∈ [(c, P)], H p.2 = some (.tbl #[])) → SqL K H a (ns.map V.int) → sp [.ref a] H (fun v _ => v = .bl true) fun _ _ _ => False) ∧
        ∀ base : Heap, K.In base → base.Ns mainGlobals mg → TabB base mg c P → FnOk l.prog w K mg base (CX w) k fa fd [x] sp)
    (hCX : ∀ (w : World) (H : Hp) (s : Shared) (e : Value) (s' : Shared), CX w [] H s (fun _ _ _ => False) e s' → False) :
    PySem.W.WalkO q loose XP YP l.row.toRowW d [] (fun f vs => PySem.call f vs) := by
  refine Att.attach_callB hn hdf fun w s₀ s₁ mg mb fa o pm cd doc a vs ns G Y ho hd2 hcd hmg hobj hints hlen hbits hg => ?_
  obtain ⟨K, fd, sp, c, P, KX, ht, hnP, hb, hsp, hF⟩ := F w mg fa _ Y G.T.g hmg
  obtain ⟨hC, hP⟩ := PySem.W.tab_of G.T KX hd ht
  refine law_callTs (cs := [(c, P)]) KX G.T.g G.T.b G.T.builtins G.T.nolimit hg (fun p hp => ?_) (fun p hp => ?_) (fun p hp => ?_) G.T.bmain hobj hints (Nat.le_trans hlen hn2) hr
    (fun base hb1 hb2 hT => hF base hb1 hb2 (hT (c, P) List.mem_cons_self)) hb (fun H hH hS => hsp H a ns hlen hH hS) fun H e s' => hCX w H s₁ e s'
  · rw [List.mem_singleton.mp hp]; exact hP
  · rw [List.mem_singleton.mp hp]; exact hnP
  · rw [List.mem_singleton.mp hp]; exact hC
end Fl

set_option Elab.async false
set_option linter.all false
set_option maxRecDepth 100000
/-! Fl, part M: [.. for k in range(n) if ..] while an exception is handled. -/
namespace Fl
open PySem PySem.Spec L2 PyProof.Rows L2H
set_option autoImplicit false
section
variable {X : Cx} {pins : List (Addr × Obj)} {σ : L2.St} {H : Hp} {s : Shared}
/-- the pins of a block, told in its context -/
theorem toHot {Y : Cx} {p : Addr × Obj} (hp : Y.pn = []) (I : Inv Y (p :: pins) σ H s) : Inv { Y with pn := [p] } pins σ H s :=
  ⟨⟨I.ok.1, I.ok.2, I.ok.3, I.ok.4, I.ok.5, I.ok.6, I.ok.7, I.ok.8, I.ok.9, I.ok.10, I.ok.11, I.ok.12, I.ok.13, I.ok.14, I.ok.15, I.ok.16, I.ok.17, I.ok.18⟩, I.os, I.bare, I.base, I.loc, I.cell, I.free, I.freeC, fun q hq => I.pin q (by rw [hp]; simpa using hq), I.hok, I.len⟩
theorem ofHot {Y : Cx} {p : Addr × Obj} (hp : Y.pn = []) (I : Inv { Y with pn := [p] } pins σ H s) : Inv Y (p :: pins) σ H s :=
  ⟨⟨I.ok.1, I.ok.2, I.ok.3, I.ok.4, I.ok.5, I.ok.6, I.ok.7, I.ok.8, I.ok.9, I.ok.10, I.ok.11, I.ok.12, I.ok.13, I.ok.14, I.ok.15, I.ok.16, I.ok.17, I.ok.18⟩, I.os, I.bare, I.base, I.loc, I.cell, I.free, I.freeC, fun q hq => I.pin q (by rw [hp] at hq; simpa using hq), I.hok, I.len⟩
end
section
variable {X : Cx}
/-- the turns of a comprehension's list while an exception is handled: the handled one is pinned in the block too -/
theorem pe_lcH {elt tg iter : Expr} {ifs : List Expr} {scope : Scope} {own : List (Str × Nat)} {pos : Pos} {wi : TI} {g : TG} {tt : TT} {te : TE} (hc : HotC X) (hN : X.N.Nodup) (hi : PIH X tg iter wi) (ok : BlkOk X.N X.env.scope scope own)
    (hg : ∀ (s : Shared) (H : Hp) (C : Addr) (cl : List (Str × Addr)) (fp : List Addr), PG (X.blk s H scope (compEnvC scope cl C X.env) fp) tg g) (ht : ∀ (s : Shared) (H : Hp) (C : Addr) (cl : List (Str × Addr)) (fp : List Addr), PTs (X.blk s H scope (compEnvC scope cl C X.env) fp) ifs tt)
    (he : ∀ (s : Shared) (H : Hp) (C : Addr) (cl : List (Str × Addr)) (fp : List Addr), PE (X.blk s H scope (compEnvC scope cl C X.env) fp) elt te) (hs : ∀ x, foldedSetIterable iter X.env x = pure x := by intro _; rfl) :
    PE X (.ListComp elt [⟨tg, iter, ifs, 0⟩] scope pos) (tLc wi g tt te (own.map (·.2))) := by
  refine ⟨fun pins s σ H Q I h => ?_⟩
  obtain ⟨p, hot1, hpX⟩ := hc
  rw [eval_ListComp]
  have hfree : ∀ y ∈ scope.names, y.2 = .free → ∃ c, X.env.cells.lookup y.1 = some c := fun y hy e => (ok.free y hy e).elim (fun k => I.ok.has _ (.inl k)) fun k => I.ok.has _ (.inr k)
  refine wpAny_comprehension_free rfl hs (closure_ok hfree) ok.kind (fun y hy e => by rw [ok.uniq y hy, e]) (thn (hi.run pins s σ H _ I h) fun xv s1 hx => thn hx fun itv s2 ⟨it, fp, tn, J, H2, e, I2, T, st2, f2, q⟩ => ?_)
  subst e
  refine wpAny_newObj_type (newEnv_comp ?_) (by show 0 ≤ sizeLine; decide)
  -- the list, tracked
  have nD : H2 s2.heap.objs.size = none := I2.hok.fresh (Nat.le_refl _)
  obtain ⟨W, ⟨m0, w0⟩, turn⟩ := q _ nD
  have kD : ∀ b o, s2.heap.get? b = some o → (s2.heap.push { cls := .type "list", data := .seq ([] : List Value).toArray }).get? b = some o := fun b o e => Heap.get?_push_of_some _ e
  have I3 : Inv X pins σ (upd H2 s2.heap.objs.size (.lst [])) { s2 with heap := s2.heap.push { cls := .type "list", data := .seq ([] : List Value).toArray } } :=
    I2.laid (t' := s2.toks) kD (Nat.le_refl _) ⟨Nat.zero_le _, [], 0, .nil, Heap.get?_push_size _ rfl⟩
  have szD : (s2.heap.push { cls := .type "list", data := .seq ([] : List Value).toArray }).objs.size = s2.heap.objs.size + 1 := Heap.size_push ..
  have f3 : ∀ b ∈ fp, FpOk X pins (upd H2 s2.heap.objs.size (.lst [])) b ∧ b < (s2.heap.push { cls := .type "list", data := .seq ([] : List Value).toArray }).objs.size := fun b hb => by
    obtain ⟨o, e, _⟩ := T.obj _ _ st2 b hb
    have hlt := Heap.lt_size e
    exact ⟨⟨by rw [upd_ne (Nat.ne_of_lt hlt)]; exact (f2 b hb).1, (f2 b hb).2⟩, by rw [szD]; exact Nat.lt_succ_of_lt hlt⟩
  have st3 : tn 0 (s2.heap.push { cls := .type "list", data := .seq ([] : List Value).toArray }) := T.keep _ _ _ st2 fun b _ o e => kD b o e
  generalize hD : s2.heap.objs.size = D at *
  generalize hs3 : ({ s2 with heap := s2.heap.push { cls := .type "list", data := .seq ([] : List Value).toArray } } : Shared) = s3 at I3
  have h3 : s3.heap = s2.heap.push { cls := .type "list", data := .seq ([] : List Value).toArray } := by rw [← hs3]
  rw [← h3] at f3 st3
  have I4 := block_start I3 ok hN f3
  have pg := hg s3 (upd H2 D (.lst [])) s3.heap.objs.size (cellsFrom (s3.heap.objs.size + 1) scope.names (cloFrom X.env.cells scope.names [])) fp
  have pt := ht s3 (upd H2 D (.lst [])) s3.heap.objs.size (cellsFrom (s3.heap.objs.size + 1) scope.names (cloFrom X.env.cells scope.names [])) fp
  have pe := he s3 (upd H2 D (.lst [])) s3.heap.objs.size (cellsFrom (s3.heap.objs.size + 1) scope.names (cloFrom X.env.cells scope.names [])) fp
  show codeAny _ _ (.compStart (.ListComp elt [⟨tg, iter, ifs, 0⟩] scope pos) 0 (.ref it) (.ref D) (compEnvC scope (cellsFrom (s3.heap.objs.size + 1) scope.names (cloFrom X.env.cells scope.names [])) s3.heap.objs.size X.env)) (compPost (model X.prog X.w) X.A X.xe none (EP X pins σ Q) (.ref D) s3.heap.objs.size) { s3 with heap := pushCells (s3.heap.push { cls := .type "dict", data := .dict #[] }) scope.names }
  generalize hce : compEnvC scope (cellsFrom (s3.heap.objs.size + 1) scope.names (cloFrom X.env.cells scope.names [])) s3.heap.objs.size X.env = ce at I4 pg pt pe ⊢
  have cL : ce.locals = s3.heap.objs.size := by subst hce; rfl
  have kC : ∀ b o, s3.heap.get? b = some o → (pushCells (s3.heap.push { cls := .type "dict", data := .dict #[] }) scope.names).get? b = some o := fun b o e => pushCells_keeps _ _ _ _ (Heap.get?_push_of_some _ e)
  generalize hH3 : upd H2 D (.lst []) = H3 at I3 I4 pg pt pe w0 f3
  generalize hs4 : ({ s3 with heap := pushCells (s3.heap.push { cls := .type "dict", data := .dict #[] }) scope.names } : Shared) = s4 at I4 ⊢
  have h4 : s4.heap = pushCells (s3.heap.push { cls := .type "dict", data := .dict #[] }) scope.names := by rw [← hs4]
  have st4 : tn 0 s4.heap := T.keep _ _ _ st3 fun b _ o e => by rw [h4]; exact kC _ _ e
  -- the handled exception, pinned in the block
  have p3 := I3.pin p (List.mem_append_left _ hpX)
  have fpp : ∀ b ∈ fp, p.1 ≠ b := fun b hb => (f3 b hb).1.2.2.2.2.2 p (List.mem_append_left _ hpX)
  have pstk : p.1 ∉ frs X.stack := fun hm => (List.mem_cons.mp (I3.stkSub p.1 hm)).elim p3.2.2.1 p3.2.2.2.1
  have I4p : Inv (X.blk s3 H3 scope ce fp) [p] (wipe σ (own.map (·.2))) H3 s4 := I4.pins_of fun q hq => by
    rw [List.mem_singleton.mp hq]
    exact ⟨by rw [h4]; exact kC _ _ p3.1, p3.2.1, by show p.1 ≠ ce.locals; rw [cL]; exact Nat.ne_of_lt (Heap.lt_size p3.1), pstk, p3.2.2.2.2⟩
  have hotY : HotC { X.blk s3 H3 scope ce fp with pn := [p] } := ⟨p, hot1, List.mem_singleton.mpr rfl⟩
  have stat : ∀ {σ' : L2.St} {H' : Hp} {s' : Shared}, Inv (X.blk s3 H3 scope ce fp) [p] σ' H' s' → (∀ b ∈ fp, H' b = none) → ∀ b ∈ fp, FpOk { X.blk s3 H3 scope ce fp with pn := [p] } [] H' b := fun {σ' H' s'} I' hn b hb =>
    ⟨hn b hb, (I'.ok.exf b hb).1, I'.ok.exfs b hb, .inl hb, fun x c e => (I'.ok.exf b hb).2 x c e, fun q hq => by
      have eq : q = p := by simpa using hq
      rw [eq]
      exact fpp b hb⟩
  have loop : codeAny (model X.prog X.w) X.A (.compLoop (.ListComp elt [⟨tg, iter, ifs, 0⟩] scope pos) 0 (.ref it) (.ref D) ce) (compPost (model X.prog X.w) X.A X.xe none (EP X pins σ Q) (.ref D) s3.heap.objs.size) s4 := by
    refine compLoop_any (fun n s' => ∃ i H', Inv (X.blk s3 H3 scope ce fp) [p] (wipe σ (own.map (·.2))) H' s' ∧ tn i s'.heap ∧ (∀ b ∈ fp, H' b = none) ∧ W i n H') ?_ m0 ⟨0, H3, I4p, st4, fun b hb => (f3 b hb).1.1, w0⟩
    rintro n s5 ⟨i, H5, I5, st5, n5, w5⟩
    rcases turn i n H5 w5 with ⟨stop, qq⟩ | ⟨go, Nx, hNx, step⟩
    · have td := T.done { X.blk s3 H3 scope ce fp with pn := [p] } rfl rfl rfl hotY i [] s5 _ H5 (fun _ _ => False) (toHot rfl I5) (stat I5 n5) st5 stop
      refine thnF td fun r s6 ⟨hr, I6⟩ => ?_
      subst hr
      have I7 : Inv X pins σ H5 s6 := I3.call' (ch := fp) I6.os I6.base I6.hok I6.bare fun b hb => ⟨(f3 b hb).1.2.2.2.1, (f3 b hb).1.2.1, (f3 b hb).1.2.2.2.2.1, (f3 b hb).1.2.2.2.2.2⟩
      have nC : H5 s3.heap.objs.size = none := by
        have z : H5 ce.locals = none := I6.free
        rw [cL] at z
        exact z
      obtain ⟨m, hn, _⟩ := I6.loc
      have hn : s6.heap.Ns ce.locals m := hn
      rw [cL] at hn
      obtain ⟨f0, f1, f2', f3', f4, f5⟩ := I3.fpOk (Nat.le_refl _) nC
      exact ⟨m, hn, fun h'' sb => ⟨.ref D, H5, I7.turned (t' := s6.toks) (fun b o hb e => (sb.2 b hb).trans e) f0 f1 f3' f4 f5, rfl, qq⟩⟩
    · have ti := T.item { X.blk s3 H3 scope ce fp with pn := [p] } rfl rfl rfl hotY i [] s5 _ H5 (fun _ _ => False) (toHot rfl I5) (stat I5 n5) st5 go
      refine thnF ti fun r s6 ⟨u, hr, h6⟩ => ?_
      subst hr
      refine thnF h6 fun _ s7 ⟨x, H7, I7, r7, y7, st7, n7⟩ => ?_
      have I7' := ofHot rfl (I7.pinned (stat (ofHot rfl I7) n7) (T.obj _ _ st7))
      refine thnF (pg.run _ s7 _ H7 x u _ I7' r7 (step x H7 y7)) fun _ s8 ⟨σ8, H8, I8, hw8, q8⟩ => ?_
      refine thnF (pt.run _ s8 σ8 H8 _ I8 q8) fun b s9 ⟨H9, I9, q9⟩ => ?_
      have fin : ∀ {s' : Shared} {H' : Hp}, Inv (X.blk s3 H3 scope ce fp) (p :: ([] ++ pinsAt fp s7.heap)) σ8 H' s' → Nx H' → ∃ m, m < n ∧ ∃ i H', Inv (X.blk s3 H3 scope ce fp) [p] (wipe σ (own.map (·.2))) H' s' ∧ tn i s'.heap ∧ (∀ b ∈ fp, H' b = none) ∧ W i m H' := fun {s' H'} I' nx => by
        obtain ⟨m', hm, w'⟩ := hNx H' nx
        have pin' : ∀ b ∈ fp, ∀ o, s7.heap.get? b = some o → s'.heap.get? b = some o ∧ H' b = none := fun b hb o e =>
          let z := I'.pin (b, o) (List.mem_append_right _ (List.mem_cons_of_mem _ (List.mem_append_right _ (mem_pinsAt hb e))))
          ⟨z.1, z.2.1⟩
        have hl : (wipe σ (own.map (·.2))).length = σ8.length := by rw [← hw8, wipe_length]
        refine ⟨m', hm, i + 1, H', (I'.pins_of (pins' := [p]) fun q hq => I'.pin q (List.mem_append_right _ ?_)).weak hl (fun j v e => ?_), T.keep _ _ _ st7 fun b hb o e => (pin' b hb o e).1, fun b hb => ?_, w'⟩
        · rw [List.mem_singleton.mp hq]
          exact List.mem_cons_self
        · rw [← hw8] at e
          exact (wipe_some e).1
        · obtain ⟨o, e, _⟩ := T.obj _ _ st7 b hb
          exact (pin' b hb o e).2
      cases b with
      | false =>
        simp only [Bool.false_eq_true, if_false] at q9 ⊢
        exact fin I9 q9
      | true =>
        simp only [if_true] at q9 ⊢
        refine thnF (pe.run _ s9 σ8 H9 _ I9 q9) fun z s10 ⟨yv, H10, I10, r10, acc, hD10, hz10, nx⟩ => ?_
        exact app_ok (X := X.blk s3 H3 scope ce fp) I10 hD10 hz10 r10 fun s11 I11 => fin I11 nx
  exact codeAny_compStart_list loop (T.self X.A 0 _ _ _ st4 loop)
end
section
variable {X : Cx} {W : WX} {tg elt : Expr} {fs : RA} {p pos : Pos}
theorem wi_rng1H {a : Expr} (hgl : Gl X "range") (hm : X.mg "range" = none) (ha : PA X [a] (tA (gm X) W fs)) (hs1 : starEach [a] X.env = [(false, eval a X.env)] := by rfl) :
    PIH X tg (.Call (.Name "range" p) [a] [] pos) (tW (gm X) W (wRng rng1 fs)) :=
  ⟨fun pins s σ H R I h => (pi_range1H hgl hm ha hs1).run pins s σ H R I (by
    refine (tX.bind (f := fs) (g := fun ds ρ M1 => ofW ((rng1 ds).map fun q => (intsD q.1 q.2, none)) M1) (rel := Reps (gm X)) h).mono fun vs H1 ⟨μ, ρ, M, ds, hE, hS, rd, hF⟩ => ?_
    have hF : Fin (gm X) (fun μ H (a : List Fl.D × Option (Nat × O)) J => Wk (gm X) J a.2 a.1 μ H) W μ σ H1 R (ofW ((rng1 ds).map fun q => (intsD q.1 q.2, none)) M) := hF
    cases q : rng1 ds with
    | none => rw [q] at hF; exact hF.elim
    | some r =>
      obtain ⟨lo, n⟩ := r
      rw [q] at hF
      unfold rng1 at q
      split at q
      · split at q
        · rename_i j hj
          cases q
          obtain ⟨v, rfl, r⟩ := rd.inv1
          rw [Rep.int] at r
          subst r
          exact ⟨j, rfl, hj.1, hj.2, hF μ _ H1 (.refl _) (List.prefix_refl _) hS wk_rng⟩
        · cases q
      · cases q)⟩
theorem i_lcH {iter : Expr} {ifs : List Expr} {scope : Scope} {own : List (Str × Nat)} {fw : RW} {g : RG} {graw : TG} {tt : RT} {te : RE} (hc : HotC X) (hN : X.N.Nodup) (hi : PIH X tg iter (tW (gm X) W fw)) (ok : BlkOk X.N X.env.scope scope own) (ho : Own (gm X) (own.map (·.2)) g graw)
    (hg : ∀ (s : Shared) (H : Hp) (C : Addr) (cl : List (Str × Addr)) (fp : List Addr), PG (X.blk s H scope (compEnvC scope cl C X.env) fp) tg graw)
    (ht : ∀ (s : Shared) (H : Hp) (C : Addr) (cl : List (Str × Addr)) (fp : List Addr), PTs (X.blk s H scope (compEnvC scope cl C X.env) fp) ifs (tT (gm X) W0 tt))
    (he : ∀ (s : Shared) (H : Hp) (C : Addr) (cl : List (Str × Addr)) (fp : List Addr), PE (X.blk s H scope (compEnvC scope cl C X.env) fp) elt (tE (gm X) W0 te))
    (hs : ∀ (x : Value), foldedSetIterable iter X.env x = pure x := by exact fun _ => rfl) :
    PE X (.ListComp elt [{ target := tg, iter := iter, ifs := ifs, is_async := 0 }] scope pos) (tE (gm X) W (rLC fw g tt te (own.map (·.2)))) :=
  PEimp (pe_lcH hc hN hi ok hg ht he hs) fun σ H Q h => lc_in ho h
theorem hot_suite {a : Addr} {oe : Obj} {pn : List (Addr × Obj)} {cls : Value} {d : Option Addr} (hz : L2N.Zn cls d oe) (hf : ∃ vs, oe.data = .fields vs) : HotC (X.suite a ((a, oe) :: pn)) := by
  obtain ⟨vs, e⟩ := hf
  exact ⟨(a, oe), ⟨rfl, vs, e, hz.2.2 vs e⟩, List.mem_cons_self⟩
/-- isinstance(e, C), in the suite that holds e -/
theorem i_exis {a D0 A0 : Addr} {oe : Obj} {pn : List (Addr × Obj)} {c C n : Str} {d : Option Addr} {i : Nat} {b : Bool} {p1 p2 p3 : Pos} (hz : L2N.Zn (cval (gm X) c) d oe) (hc : X.mg c = some (.ref D0)) (EC : ExcC X.K D0)
    (hC : X.mg C = some (.ref A0)) (hk : PySem.W.kitOne X.K (.ref D0) (.ref A0) = some b) (hm : X.mg "isinstance" = none) (hgl : Gl X "isinstance") (hglC : Gl X C) (hN : X.N[i]? = some n) (hv : Vis X.env.scope n)
    (hdC : (C == ("__debug__" : Str)) = false := by decide) (hd1 : (n == ("__debug__" : Str)) = false := by decide) (hd2 : (n == ("__classdict__" : Str)) = false := by decide) :
    PE (X.suite a ((a, oe) :: pn)) (.Call (.Name "isinstance" p1) [.Name n p2, .Name C p3] [] pos) (tE (gm X) W (rCB (cExIs a C b) (rCons (rVar i) (rCons (rC (.gl C)) rNil)))) := by
  have ec : cval (gm X) c = .ref D0 := by
    unfold cval
    show (X.mg c).getD .none = _
    rw [hc]
    rfl
  rw [ec] at hz
  refine i_callB (X := X.suite a ((a, oe) :: pn)) (call_isX EC hz.zc) (d_exis hC hk) hgl hm PyProof.Rows.boot_isinstance (i_cons (X := X.suite a ((a, oe) :: pn)) (i_var (X := X.suite a ((a, oe) :: pn)) i hN hv hd1 hd2) (i_cons (X := X.suite a ((a, oe) :: pn)) (i_glob (X := X.suite a ((a, oe) :: pn)) hglC (gl_cst hC) hdC) i_nil))
end
/-! ### what the printer asks of the written part besides -/
/-- the class named c says what isinstance asks -/
def excCB (K : PySem.W.Frag) (c : Str) : Bool :=
  PySem.W.findIn K (.ref (He.ga K c)) "__getattribute__" == some (some (.builtin "BaseException.__getattribute__")) && PySem.W.findIn K (.ref (He.ga K c)) "__getattr__" == some none &&
  PySem.W.subIn K (.ref (He.ga K c)) (.type "BaseException") == some true && PySem.W.hasDictIn K (He.ga K c) && PySem.W.findIn K (.ref (He.ga K c)) "__class__" == some (some (.builtin "object.__class__")) &&
  PySem.W.specialIn K (.builtin "object.__class__") "__get__" == some (some (.builtin "getset_descriptor.__get__")) && PySem.W.takesIn K (.builtin "object.__class__") == some true && PySem.W.mroIn K (He.ga K c) (.type "object") == some true
theorem excCB_ok {K : PySem.W.Frag} {c : Str} (h : excCB K c = true) : ExcC K (He.ga K c) := by
  unfold excCB at h
  simp only [Bool.and_eq_true] at h
  obtain ⟨⟨⟨⟨⟨⟨⟨h1, h2⟩, h3⟩, h4⟩, h5⟩, h6⟩, h7⟩, h8⟩ := h
  exact ⟨eq_of_beq h1, eq_of_beq h2, eq_of_beq h3, h4, eq_of_beq h5, eq_of_beq h6, eq_of_beq h7, eq_of_beq h8⟩
/-- isinstance of an error of the class c, asked for C -/
def kitB (K : PySem.W.Frag) (c C : Str) (b : Bool) : Bool := PySem.W.kitOne K (.ref (He.ga K c)) (.ref (He.ga K C)) == some b
theorem kitB_ok {K : PySem.W.Frag} {c C : Str} {b : Bool} (h : kitB K c C b = true) : PySem.W.kitOne K (.ref (He.ga K c)) (.ref (He.ga K C)) = some b := eq_of_beq h
/-- the classes cs may come, ts are asked for -/
def askB (K : PySem.W.Frag) (cs ts : List Str) : Bool := cs.all fun c => excCB K c && ts.all fun t => kitB K c t (c == t)
structure Ask (K : PySem.W.Frag) (mg : Str → Option Value) (cs ts : List Str) : Prop where
  ok : ∀ c ∈ cs, ∃ D0, mg c = some (.ref D0) ∧ ExcC K D0 ∧ ∀ t ∈ ts, ∃ A0, mg t = some (.ref A0) ∧ PySem.W.kitOne K (.ref D0) (.ref A0) = some (c == t)
theorem ask_ok {K : PySem.W.Frag} {mg : Str → Option Value} {h : Heap} {cs ts : List Str} (X : K.In h) (G : h.Ns mainGlobals mg) (c : askB K cs ts = true) (g1 : ∀ c ∈ cs, (He.Fa.glo c).ok K = true) (g2 : ∀ c ∈ ts, (He.Fa.glo c).ok K = true) : Ask K mg cs ts := by
  refine ⟨fun x hx => ?_⟩
  have h1 := List.all_eq_true.mp c x hx
  rw [Bool.and_eq_true] at h1
  exact ⟨_, He.glo_ok X G (g1 x hx), excCB_ok h1.1, fun t ht => ⟨_, He.glo_ok X G (g2 t ht), kitB_ok (List.all_eq_true.mp h1.2 t ht)⟩⟩
abbrev AlZ : Type := AlY × Bool
def obsZ (fa : List He.Fa) (fn : List He.DefD) (cs : List (Str × CK)) (ts : List Tb) (k : PySem.W.Frag → Bool) (K : PySem.W.Frag) : AlZ := (obsY fa fn cs ts K, k K)
def valZ (fn : List He.DefD) (ts : List Tb) (w : World) : AlZ := (valY fn ts w, true)
/-- an empty table of code objects -/
def isTab : Option Obj → Bool
  | some o => (match o.cls, o.data with
    | .none, .fields vs => vs.isEmpty
    | _, _ => false)
  | none => false
/-- the written part, without the tables -/
def frZ (g : Addr → Option Obj) (n : Nat) : PySem.W.Frag := He.frG g (cStatics :: (He.asD g n).filter fun a => !isTab (g a))
def obsZG (n : Nat) (fa : List He.Fa) (fn : List He.DefD) (cs : List (Str × CK)) (ts : List Tb) (k : PySem.W.Frag → Bool) (g : Addr → Option Obj) : AlZ := obsZ fa fn cs ts k (frZ g n)
structure SaysZ (fa : List He.Fa) (fn : List He.DefD) (cs : List (Str × CK)) (ts : List Tb) (k : PySem.W.Frag → Bool) (w : World) (K : PySem.W.Frag) : Prop where
  y : SaysY fa fn cs ts w K
  k : k K = true
def hookZ (n : Nat) (fa : List He.Fa) (fn : List He.DefD) (cs : List (Str × CK)) (ts : List Tb) (k : PySem.W.Frag → Bool) : PySem.W.Hook where
  α := AlZ
  obs := fun s => obsZG n fa fn cs ts k s.heap.get?
  val := fun w => valZ fn ts w
  says := fun w h => ∃ K : PySem.W.Frag, K.In h ∧ SaysZ fa fn cs ts k w K
  of := fun _ _ e => ⟨_, He.frG_in, ⟨congrArg (fun z : AlZ => z.1.1.1) e, List.all_eq_true.mp (congrArg (fun z : AlZ => z.1.1.2) e), fun q hq => ⟨List.all_eq_true.mp (congrArg (fun z : AlZ => z.1.2.1) e) q hq, map_eq_mem (congrArg (fun z : AlZ => z.1.2.2) e) q hq⟩⟩, congrArg (fun z : AlZ => z.2) e⟩
  keeps := fun _ _ _ ⟨K, hK, c⟩ k => ⟨K, PySem.W.Frag.In.keeps hK k, c⟩
theorem obsZG_eq {n : Nat} {fa : List He.Fa} {fn : List He.DefD} {cs : List (Str × CK)} {ts : List Tb} {k : PySem.W.Frag → Bool} {g : Addr → Option Obj} {s : Shared} (h : ∀ a, g a = s.heap.get? a) : obsZG n fa fn cs ts k g = (hookZ n fa fn cs ts k).obs s := by
  have e : g = s.heap.get? := funext h
  rw [e] <;> rfl
/-! ### rules for defs that get lambdas, that make them -/
section
variable {P : Program} {w : World} {K : PySem.W.Frag} {mg : Str → Option Value} {base : Heap}
theorem fn_LE {x qual : Str} {params : Arguments} {body : List Stmt} {scope : Scope} {dvs : List V} {kws : List (Str × V)} {f : Addr} {fd : FuncData} {N ps : List Str} {kl k : Nat} {m : LamI → (Store → R D) → RS} {FT : (Store → R D) → List D → Store → R D}
    (Fu : FunD K x qual params body scope dvs kws f fd) (S : FnScope N ps scope)
    (hb : ∀ (cdv : Value) (A : Around) (outer : List PySem.Env) (s : Shared) (H : Hp) (E : XK) (i : LamI) (B : Store → R D), Room k (A.deeper (PyProof.Rows.envOfC qual scope s.heap.objs.size f cdv)) → LamOk P w K mg base kl i B → Link i s H → (∀ b ∈ frs outer, b ∈ i.F ∨ i.h0.get? b = none) →
      PassesOwn (model P w) (cxOf (L2N.CX P w) P w K mg base N qual scope f cdv A outer s H E).A (cxOf (L2N.CX P w) P w K mg base N qual scope f cdv A outer s H E).env (cxOf (L2N.CX P w) P w K mg base N qual scope f cdv A outer s H E).xe →
      ∀ W : WX, L2N.Takes (cxOf (L2N.CX P w) P w K mg base N qual scope f cdv A outer s H E) W → PSs (cxOf (L2N.CX P w) P w K mg base N qual scope f cdv A outer s H E) body (tS ⟨K, mg⟩ W (m i B)))
    (hF : ∀ i B ds M, ds.length + 1 = ps.length → Grows M (FT B ds M) ∧ Tells (FT B ds M) (bodyR (m i B (startD N.length (.lam i :: ds)) M))) :
    FnL P w K mg base kl (k + 1) f fd ps FT := fn_L Fu S (fun cdv A outer s H E i B hr LO lk hfr W tk => hb cdv A outer s H E i B hr LO lk hfr (passes_of rfl) W tk) hF
/-- what is known of the table of the def y -/
def TabK (K : PySem.W.Frag) (mg : Str → Option Value) (base : Heap) (y : Str) : Prop := ∃ c P, PySem.W.tabIn K y = some (c, P) ∧ LamX.TabB base mg c P
theorem code_of_tab {y : Str} {c P f : Addr} {oc : Value} {od : Option Addr} {fd : FuncData} {osl : Array (Option Value)} (KX : K.In base) (G : base.Ns mainGlobals mg) (hm : mg y = some (.ref f)) (lk : K.lookup f = some ⟨oc, od, .func fd, osl⟩) (ht : PySem.W.tabIn K y = some (c, P)) : fd.code = .ref c := by
  unfold PySem.W.tabIn at ht
  split at ht
  · rename_i f' hf
    have e1 := PySem.W.mg_of KX G hf
    rw [hm] at e1
    cases e1
    rw [lk] at ht
    dsimp only at ht
    split at ht
    · rename_i c' e2
      rw [e2]
      split at ht
      · split at ht
        · cases ht
          rfl
        · cases ht
      · cases ht
    · cases ht
  · cases ht
/-- a def that makes lambdas -/
theorem fn_T {x : Str} {params : Arguments} {body : List Stmt} {scope : Scope} {dvs : List V} {kws : List (Str × V)} {f : Addr} {fd : FuncData} {N ps : List Str} {k : Nat} {m : RS} {F : List D → Store → R D}
    (TK : TabK K mg base x) (KX : K.In base) (G : base.Ns mainGlobals mg) (hm : mg x = some (.ref f)) (Fu : FunD K x x params body scope dvs kws f fd) (S : FnScope N ps scope)
    (hb : ∀ (cdv : Value) (A : Around) (outer : List PySem.Env) (s : Shared) (H : Hp) (E : XK), LamT (cxOf (L2N.CX P w) P w K mg base N x scope f cdv A outer s H E) x → Room k (A.deeper (PyProof.Rows.envOfC x scope s.heap.objs.size f cdv)) →
      PassesOwn (model P w) (cxOf (L2N.CX P w) P w K mg base N x scope f cdv A outer s H E).A (cxOf (L2N.CX P w) P w K mg base N x scope f cdv A outer s H E).env (cxOf (L2N.CX P w) P w K mg base N x scope f cdv A outer s H E).xe →
      ∀ W : WX, L2N.Takes (cxOf (L2N.CX P w) P w K mg base N x scope f cdv A outer s H E) W → PSs (cxOf (L2N.CX P w) P w K mg base N x scope f cdv A outer s H E) body (tS ⟨K, mg⟩ W m))
    (hF : ∀ ds M, ds.length = ps.length → Grows M (F ds M) ∧ Tells (F ds M) (bodyR (m (startD N.length ds) M))) :
    FnOk P w K mg base (L2N.CX P w) (k + 1) f fd ps (spD ⟨K, mg⟩ F ps.length) := by
  obtain ⟨oc, od, dV, kV, doc, pm, an, cdv, ct, osl, rfl, lk, hcd, _, _⟩ := Fu.ex
  obtain ⟨c, P0, ht, TB⟩ := TK
  have ec : cdv = .ref c := code_of_tab KX G hm lk ht
  refine fn_of lk hcd S (fun vs H Q E h => h.choose_spec.choose_spec.choose_spec.1) fun A outer s H vs Q E hr h => ?_
  obtain ⟨μ, ds, M, hn, hds, hS, hQ⟩ := h
  have tk : L2N.Takes (cxOf (L2N.CX P w) P w K mg base N x scope f cdv A outer s H E) (fun c d _ H' => E c d H') := L2N.takes_of rfl rfl rfl rfl
  refine ⟨_, hb cdv A outer s H E ⟨c, P0, ht, ec, TB, rfl⟩ hr (passes_of rfl) _ tk, μ, startD N.length ds, M, startD_ok hds, hS, ?_⟩
  obtain ⟨g, t⟩ := hF ds M (by rw [hds.length]; exact hn)
  have hq := FinC_tells hS.len g t hQ
  cases q : m (startD N.length ds) M with
  | nx ρ M' => rw [q] at hq; exact fun μ' σ' H' e p _ s => hq μ' .non H' e p s (Rep.non.mpr rfl)
  | rt d M' => rw [q] at hq; exact hq
  | bk ρ M' => rw [q] at hq; exact hq.elim
  | ct ρ M' => rw [q] at hq; exact hq.elim
  | ex c fs ρ M' => rw [q] at hq; exact fun μ' σ' H' dx e p _ s x => hq μ' H' dx e p s x
  | no => rw [q] at hq; exact hq
end
end Fl

set_option Elab.async false
set_option linter.all false
set_option maxRecDepth 100000
/-! Fl, part N: enumerate of a tuple. -/
namespace PySem
open Sem (wp)
open AutoSeq1 (wpAny_loadPart')
theorem meets_enum_tup (l : Addr) (items : Array Value) (n : Nat) (dct : Option Addr) (sl : Array (Option Value)) :
    Meets (Builtin.«enumerate.__new__» ⟨[.type "enumerate", .ref l], []⟩) (fun _ R s => s.heap.get? l = some { cls := .type "tuple", dict := dct, data := .seq items n, slots := sl } ∧
      R (.ok (.ret (.ref (s.heap.push { cls := .type "tuple_iterator", data := .fields #[.ref l, .int 0 0] }).objs.size)))
        { s with heap := (s.heap.push { cls := .type "tuple_iterator", data := .fields #[.ref l, .int 0 0] }).push { cls := .type "enumerate", data := .fields #[.none, .bool false, .ref s.heap.objs.size, rawInt 0, .none, .none] } }) :=
  .of_wp fun prog w A R s h => by
    obtain ⟨hp, g, d, tk, os⟩ := s; obtain ⟨hl, h⟩ := h
    have hsub := sub_enumerate
    have hL : Heap.IsTuple (Shared.heap ⟨hp, g, d, tk, os⟩) l items := ⟨_, hl, rfl, n, rfl⟩
    wp_walk using wpAny_loadPart' hl
    refine wpAny_stack_any fun st => wpAny_pure ?_
    split
    · rename_i c _ _ _ _ _
      cases (c == Value.type "enumerate")
      · wp_walk using wpAny_loadPart' hl, wpAny_pyIter_tuple hL
        exact ⟨_, rfl, h⟩
      · wp_walk using wpAny_loadPart' hl, wpAny_pyIter_tuple hL
        exact ⟨_, rfl, h⟩
    · wp_walk using wpAny_loadPart' hl, wpAny_pyIter_tuple hL
      exact ⟨_, rfl, h⟩
theorem call_enum_tup {prog : Program} {w : World} {A : Around} {E : Value → Shared → Prop} {s : Shared} {l : Addr} {items : Array Value} {Q : Value → Shared → Prop} (hL : s.heap.IsTuple l items)
    (h : ∀ h', IsEnum h' (s.heap.objs.size + 1) s.heap.objs.size 0 .none → h'.IsTupleIter s.heap.objs.size l 0 → h'.objs.size = s.heap.objs.size + 2 →
      (∀ b o, s.heap.get? b = some o → h'.get? b = some o) → Q (.ref (s.heap.objs.size + 1)) { s with heap := h' }) :
    wpAny (model prog w) A (call (.type "enumerate") [.ref l]) Q E s := by
  obtain ⟨⟨c, dct, dt, sl⟩, hl, hc, n, hd⟩ := hL
  replace hc : c = .type "tuple" := hc
  replace hd : dt = .seq items n := hd
  subst hc hd
  refine callType_new F.called_enumerate (by decide) (F.typeCall_enumerate_1 _) (F.newCall_enumerate_1 _) (fun obj => F.args_object_init_2 obj _) F.entry_enumerate_new
    (meets_enum_tup l items n dct sl) ⟨hl, ?_⟩
  have hz : (s.heap.push { cls := .type "tuple_iterator", data := .fields #[.ref l, .int 0 0] }).objs.size = s.heap.objs.size + 1 := Heap.size_push ..
  show _ ∧ _
  rw [hz]
  have he : IsEnum ((s.heap.push { cls := .type "tuple_iterator", data := .fields #[.ref l, .int 0 0] }).push
      { cls := .type "enumerate", data := .fields #[.none, .bool false, .ref s.heap.objs.size, rawInt 0, .none, .none] }) (s.heap.objs.size + 1) s.heap.objs.size 0 .none := by
    have := Heap.get?_push_size (s.heap.push { cls := .type "tuple_iterator", data := .fields #[.ref l, .int 0 0] })
      (o := { cls := .type "enumerate", data := .fields #[.none, .bool false, .ref s.heap.objs.size, rawInt 0, .none, .none] }) rfl
    rw [hz] at this; exact this
  refine ⟨⟨_, he, rfl⟩, h _ he ⟨_, Heap.get?_push_of_some _ (Heap.get?_push_size _ rfl), rfl, rfl⟩ (by rw [Heap.size_push, hz]) fun b o x => Heap.get?_push_of_some _ (Heap.get?_push_of_some _ x)⟩
end PySem
namespace L2
open PySem PySem.Spec PyProof.Rows
/-- the tuple at a, each item in a new pair -/
def Itet (K : PySem.W.Frag) (a : Addr) : It :=
  ⟨fun i H => ∃ (xs : List V) (x : V), SqT K H a xs ∧ xs[i]? = some x, fun i H v H' => ∃ T x, v = .ref T ∧ H T = none ∧ H' = upd H T (.tup [.int (i : Nat), x]) ∧ ∀ xs, SqT K H a xs → xs[i]? = some x, fun i H => ∃ xs : List V, SqT K H a xs ∧ xs.length = i⟩
theorem turn_enumT {P : Program} {w : World} {K : PySem.W.Frag} {elts : List Expr} {kk : Nat} {tpos : Pos} (a e it : Addr) (items : Array Value) (hai : a ≠ it) (hae : a ≠ e) :
    Turn P w K (.Tuple elts kk tpos) (Itet K a) [e, it] e (fun i h => (∃ old, IsEnum h e it ((i : Nat) : Int) old) ∧ h.IsTupleIter it a i ∧ e ≠ it) where
  mem := by simp
  obj := fun i h st b hb => by
    obtain ⟨⟨old, he⟩, ⟨o, ho, hc, hd⟩, _⟩ := st
    have e' : b = e ∨ b = it := by simpa using hb
    rcases e' with z | z
    · rw [z]; exact ⟨_, he, fun v q => nomatch q⟩
    · rw [z]; exact ⟨o, ho, fun v q => by rw [hd] at q; cases q⟩
  keep := fun i h h' st k => let ⟨⟨old, he⟩, hi, hne⟩ := st; ⟨⟨old, k e (by simp) _ he⟩, hi.at fun o q => k it (by simp) o q, hne⟩
  item := by
    intro X hP hw hK hc i pins s σ H E I hf st hg
    subst hP hw hK
    obtain ⟨⟨old, he⟩, hit, hne⟩ := st
    obtain ⟨xs, x, hq, hx⟩ := hg
    obtain ⟨its, rv, p, hz⟩ := I.tuple hq
    obtain ⟨u, hu, ru⟩ := rv.get hx
    have hel : e < s.heap.objs.size := Heap.lt_size he
    have hil : it < s.heap.objs.size := by obtain ⟨_, q, _⟩ := hit; exact Heap.lt_size q
    have hi : i < its.toArray.size := by
      have := (List.getElem?_eq_some_iff.mp hu).1
      simpa using this
    refine wpAny_pyNext_enum_itemD (Draws.tuple (prog := X.prog) (w := X.w) (A := X.A.in1) (I.ok.hd hc) it a hai its.toArray) he ⟨hit, p⟩ hi hne (by simp [hne, Ne.symm hae]) fun y h' tk hy ho hit' hT hsz hk => ?_
    have hyu : y = u := by
      have h1 : its[i]? = some y := by simpa using hy
      rw [hu] at h1
      exact (Option.some.inj h1).symm
    subst hyu
    refine ⟨_, rfl, wpAny_letOwnedTupleGo_enum (s := { s with heap := h', toks := tk + 1 }) ho fun h'' he' sb => ?_⟩
    have hT2 : h''.get? s.heap.objs.size = some { cls := .type "tuple", data := .seq #[.int i tk, y] } := (sb.2 _ (Nat.ne_of_gt hel)).trans hT
    have new : ObjOk X.prog X.w (upd H s.heap.objs.size (.tup [.int (i : Nat), x])) h'' s.heap.objs.size (.tup [.int (i : Nat), x]) :=
      ⟨by show 2 ≤ sizeLine; decide, [.int i tk, y], .cons ⟨_, rfl⟩ (.cons ru .nil), ⟨_, hT2, rfl, _, rfl⟩⟩
    have I1 : Inv X pins σ (upd H s.heap.objs.size (.tup [.int (i : Nat), x])) { s with heap := h'', toks := tk + 1 } :=
      I.turnedNew (ch := [e, it]) (fun b ob hb q => (sb.2 b (fun z => hb (by simp [z]))).trans (hk b ob (fun z => hb (by simp [z])) (fun z => hb (by simp [z])) q)) hf (Nat.le_refl _) new
    refine ⟨.ref s.heap.objs.size, _, I1, rfl, ⟨_, x, rfl, I.hok.fresh (Nat.le_refl _), rfl, fun ys hy => by rw [I.tuple_inj hy hq]; exact hx⟩, ⟨⟨y, ?_⟩, hit'.1.at fun o q => (sb.2 it (Ne.symm hne)).trans q, hne⟩, fun b hb => ?_⟩
    · have e1 : ((i + 1 : Nat) : Int) = (i : Int) + 1 := by omega
      rw [e1]; exact he'
    · have hb' : b < s.heap.objs.size := by
        have e' : b = e ∨ b = it := by simpa using hb
        rcases e' with z | z
        · rw [z]; exact hel
        · rw [z]; exact hil
      rw [upd_ne (Nat.ne_of_lt hb')]
      exact (hf b hb).1
  done := by
    intro X hP hw hK hc i pins s σ H E I hf st hg
    subst hP hw hK
    obtain ⟨⟨old, he⟩, hit, hne⟩ := st
    obtain ⟨xs, hq, hx⟩ := hg
    obtain ⟨its, rv, p, hz⟩ := I.tuple hq
    obtain ⟨f0, f1, f2, f3, f4, f5⟩ := hf it (by simp)
    have hl := rv.length
    subst hx
    exact wpAny_pyNext_enum_endD (Draws.tuple (prog := X.prog) (w := X.w) (A := X.A.in1) (I.ok.hd hc) it a hai its.toArray) he (by rw [List.size_toArray, ← hl]; exact ⟨hit, p⟩) fun h' eb => ⟨rfl, I.turned (t' := s.toks) (fun b o hb q => eb b o hb q) f0 f1 f3 f4 f5⟩
  self := fun A i s Q E st h => let ⟨⟨_, he⟩, _⟩ := st; wpAny_pyIter_enum he h
def iEnumT (K : PySem.W.Frag) (ta : TA) : TI := fun σ H R => ta σ H fun vs H1 => ∃ a xs, vs = [.ref a] ∧ SqT K H1 a xs ∧ R (Itet K a) H1
theorem pi_enumT {X : Cx} {e : Expr} {ta : TA} {p pos tpos : Pos} {elts : List Expr} {kk : Nat} (hg : Gl X "enumerate") (hm : X.mg "enumerate" = none) (ha : PA X [e] ta) (hs : starEach [e] X.env = [(false, eval e X.env)] := by rfl) :
    PI X (.Tuple elts kk tpos) (.Call (.Name "enumerate" p) [e] [] pos) (iEnumT X.K ta) := by
  refine ⟨fun pins s σ H R I h => ?_⟩
  refine Call_ (ld_blt I hg hm boot_enumerate (PyProof.Rows.callWith_type1 (thn (ha.run pos pins s σ H _ I h) fun us s1 ⟨vs, H1, I1, r1, q1⟩ => ?_) hs rfl))
  obtain ⟨a, xs, ex, hq, q⟩ := q1
  subst ex
  cases r1 with
  | cons r rr =>
    cases rr
    cases r
    obtain ⟨its, rv, p', hz⟩ := I1.tuple hq
    have hlt : a < s1.heap.objs.size := by obtain ⟨o, ho, _⟩ := p'; exact Heap.lt_size ho
    refine call_enum_tup p' fun h' he hit hsz hk => wpAny_pyIter_enum he ?_
    have I2 : Inv X pins σ H1 { s1 with heap := h' } := I1.kept (t' := s1.toks) hk
    refine ⟨s1.heap.objs.size + 1, [s1.heap.objs.size + 1, s1.heap.objs.size], _, _, H1, rfl, I2, turn_enumT a (s1.heap.objs.size + 1) s1.heap.objs.size its.toArray (Nat.ne_of_lt hlt) (Nat.ne_of_lt (Nat.lt_succ_of_lt hlt)), ⟨⟨.none, he⟩, hit, Nat.succ_ne_self _⟩, fun b hb => ?_, q⟩
    have e' : b = s1.heap.objs.size + 1 ∨ b = s1.heap.objs.size := by simpa using hb
    have hle : s1.heap.objs.size ≤ b := by
      rcases e' with z | z
      · rw [z]; exact Nat.le_succ _
      · rw [z]; exact Nat.le_refl _
    exact I1.fpOk hle (I1.hok.fresh hle)
end L2
namespace Fl
open PySem PySem.Spec L2
set_option autoImplicit false
/-- enumerate of a pure tuple -/
def enumTK (ds : List D) (M1 : Store) : R (List D × Option (Nat × O)) := match ds with
  | [.p (.tup xs)] => .ok (enumD (xs.map D.p), none) M1
  | _ => .no
def wEnumT (f : RA) : RW := fun ρ M => (f ρ M).bind enumTK
theorem wk_enumT {G : Gm} {a : Addr} {xs : List D} {vs : List V} {μ : List Addr} {H : Hp} (h1 : SqT G.K H a vs) (h2 : Reps G μ H xs vs) : Wk G (Itet G.K a) none (enumD xs) μ H := by
  refine ⟨fun μ H => SqT G.K H a vs ∧ Reps G μ H xs vs, fun _ _ _ _ e p z => ⟨e.sqt z.1, z.2.ext e p⟩, ?_, ?_, ?_, h1, h2⟩
  · rintro i μ H M hi _ ⟨z1, z2⟩ _
    rw [enumD_len] at hi
    obtain ⟨w, hw, _⟩ := z2.get (List.getElem?_eq_getElem hi)
    exact ⟨vs, w, z1, hw⟩
  · rintro μ H M _ ⟨z1, z2⟩ _
    exact ⟨vs, z1, by rw [enumD_len, z2.len_eq]⟩
  · rintro i μ H M w H' hi S ⟨z1, z2⟩ _ ⟨T, x, rfl, hT, rfl, y⟩
    rw [enumD_len] at hi
    obtain ⟨w', hw, r⟩ := z2.get (List.getElem?_eq_getElem hi)
    have := (y vs z1).symm.trans hw
    cases this
    have ex : Ext H (upd H T (.tup [.int i, x])) := .new hT
    exact ⟨_, enumD_get hi, ex, S.grow hT, mkTup_ok (SqT.of upd_same) (.cons (Rep.int.mpr rfl) (.cons (r.ext ex (List.prefix_refl _)) .nil))⟩
section
variable {X : Cx} {W : WX} {e : Expr} {fs : RA} {pos p tpos : Pos}
theorem wi_enumT {elts : List Expr} {kk : Nat} (hgl : Gl X "enumerate") (hm : X.mg "enumerate" = none) (ha : PA X [e] (tA (gm X) W fs)) (hs1 : starEach [e] X.env = [(false, eval e X.env)] := by rfl) :
    PI X (.Tuple elts kk tpos) (.Call (.Name "enumerate" p) [e] [] pos) (tW (gm X) W (wEnumT fs)) :=
  PIimp (pi_enumT hgl hm ha hs1) fun σ H R h => by
    refine (tX.bind (f := fs) (g := fun ds ρ M1 => enumTK ds M1) (rel := Reps (gm X)) h).mono fun vs H1 ⟨μ, ρ, M, ds, hE, hS, rd, hF⟩ => ?_
    have hF : Fin (gm X) (fun μ H (a : List Fl.D × Option (Nat × O)) J => Wk (gm X) J a.2 a.1 μ H) W μ σ H1 R (enumTK ds M) := hF
    unfold enumTK at hF
    split at hF
    · rename_i xs
      obtain ⟨v, rfl, r⟩ := rd.inv1
      obtain ⟨a, vs, rfl, k1, k2⟩ := Rep.ptup.mp r
      exact ⟨a, vs, rfl, k1, hF μ _ H1 (.refl _) (List.prefix_refl _) hS (wk_enumT k1 (Reps.of_P k2))⟩
    · exact hF.elim
end
@[simp] theorem v_enumT (xs : List P) (M : Store) : enumTK [.p (.tup xs)] M = .ok (enumD (xs.map D.p), none) M := (rfl)
@[simp] theorem e_enumT (f : RA) (ρ : Env) (M : Store) : wEnumT f ρ M = (f ρ M).bind enumTK := (rfl)
end Fl

set_option Elab.async false
set_option linter.all false
set_option maxRecDepth 100000
/-! Fl, part O: dicts by ints and texts; instances, their attributes and methods; dead places; bits. -/
namespace Fl
open PySem PySem.Spec L2
set_option autoImplicit false
/-! ### a place that no run reaches -/
def rDead : RS := fun _ _ => .no
theorem s_dead {X : Cx} {W : WX} {st : Stmt} : PS X st (tS (gm X) W rDead) := ⟨fun _ _ _ _ _ _ ⟨_, _, _, _, _, hF⟩ => hF.elim⟩
def rDeadE : RE := fun _ _ => .no
theorem i_dead {X : Cx} {W : WX} {e : Expr} : PE X e (tE (gm X) W rDeadE) := ⟨fun _ _ _ _ _ _ ⟨_, _, _, _, _, hF⟩ => hF.elim⟩
/-! ### what a dict holds -/
section
variable {κ : Type} [DecidableEq κ] {G : Gm} {μ : List Addr} {H : Hp}
def valD (kvs : List (κ × D)) (k : κ) : Option D := (kvs.find? fun q => decide (q.1 = k)).map (·.2)
def putD (kvs : List (κ × D)) (k : κ) (d : D) : List (κ × D) :=
  if (kvs.any fun q => decide (q.1 = k)) = true then kvs.map (fun q => if q.1 = k then (q.1, d) else q) else kvs ++ [(k, d)]
theorem valD_nil {k : κ} : valD ([] : List (κ × D)) k = none := rfl
theorem valD_cons (q : κ × D) (r : List (κ × D)) (k : κ) : valD (q :: r) k = if q.1 = k then some q.2 else valD r k := by
  unfold valD
  rw [List.find?_cons]
  by_cases e : q.1 = k
  · simp [e]
  · simp [e]
theorem FsRep.vals : ∀ {kvs : List (κ × D)} {ws : List (κ × V)}, FsRep G μ H kvs ws → ∀ k : κ, (valD kvs k = none ∧ valV ws k = none) ∨ ∃ d v, valD kvs k = some d ∧ valV ws k = some v ∧ Rep G μ H d v
  | [], ws, h, k => by
    have e : ws = [] := h
    subst e
    exact .inl ⟨rfl, rfl⟩
  | (f, d) :: kvs, ws, h, k => by
    obtain ⟨v, r, rfl, h1, h2⟩ := h
    by_cases e : f = k
    · exact .inr ⟨d, v, by rw [valD_cons]; exact if_pos e, valV_pos e, h1⟩
    · rw [valD_cons, if_neg (show ¬ (f, d).1 = k from e), valV_neg (show ¬ (f, v).1 = k from e)]
      exact FsRep.vals h2 k
theorem FsRep.len : ∀ {kvs : List (κ × D)} {ws : List (κ × V)}, FsRep G μ H kvs ws → kvs.length = ws.length
  | [], ws, h => by
    have e : ws = [] := h
    subst e
    rfl
  | (f, d) :: kvs, ws, h => by
    obtain ⟨v, r, rfl, h1, h2⟩ := h
    rw [List.length_cons, List.length_cons, FsRep.len h2]
theorem FsRep.keys : ∀ {kvs : List (κ × D)} {ws : List (κ × V)}, FsRep G μ H kvs ws → kvs.map (·.1) = ws.map (·.1)
  | [], ws, h => by
    have e : ws = [] := h
    subst e
    rfl
  | (f, d) :: kvs, ws, h => by
    obtain ⟨v, r, rfl, h1, h2⟩ := h
    rw [List.map_cons, List.map_cons, FsRep.keys h2]
theorem FsRep.anyK : ∀ {kvs : List (κ × D)} {ws : List (κ × V)}, FsRep G μ H kvs ws → ∀ k : κ, (kvs.any fun q => decide (q.1 = k)) = ws.any fun q => decide (q.1 = k)
  | [], ws, h, k => by
    have e : ws = [] := h
    subst e
    rfl
  | (f, d) :: kvs, ws, h, k => by
    obtain ⟨v, r, rfl, h1, h2⟩ := h
    rw [List.any_cons, List.any_cons, FsRep.anyK h2 k]
theorem FsRep.repl : ∀ {kvs : List (κ × D)} {ws : List (κ × V)}, FsRep G μ H kvs ws → ∀ (k : κ) {d : D} {v : V}, Rep G μ H d v → FsRep G μ H (kvs.map fun q => if q.1 = k then (q.1, d) else q) (ws.map fun q => if q.1 = k then (q.1, v) else q)
  | [], ws, h, k, d, v, r => by
    have e : ws = [] := h
    subst e
    exact h
  | (f, x) :: kvs, ws, h, k, d, v, r => by
    obtain ⟨u, t, rfl, h1, h2⟩ := h
    have ih := FsRep.repl h2 k r
    rw [List.map_cons, List.map_cons]
    by_cases e : f = k
    · rw [if_pos (show (f, x).1 = k from e), if_pos (show (f, u).1 = k from e)]
      exact ⟨v, _, rfl, r, ih⟩
    · rw [if_neg (show ¬ (f, x).1 = k from e), if_neg (show ¬ (f, u).1 = k from e)]
      exact ⟨u, _, rfl, h1, ih⟩
theorem FsRep.snoc : ∀ {kvs : List (κ × D)} {ws : List (κ × V)}, FsRep G μ H kvs ws → ∀ (k : κ) {d : D} {v : V}, Rep G μ H d v → FsRep G μ H (kvs ++ [(k, d)]) (ws ++ [(k, v)])
  | [], ws, h, k, d, v, r => by
    have e : ws = [] := h
    subst e
    exact ⟨v, [], rfl, r, rfl⟩
  | (f, x) :: kvs, ws, h, k, d, v, r => by
    obtain ⟨u, t, rfl, h1, h2⟩ := h
    exact ⟨u, _, rfl, h1, FsRep.snoc h2 k r⟩
theorem FsRep.put {kvs : List (κ × D)} {ws : List (κ × V)} (h : FsRep G μ H kvs ws) (k : κ) {d : D} {v : V} (r : Rep G μ H d v) : FsRep G μ H (putD kvs k d) (putK ws k v) := by
  unfold putD putK
  rw [h.anyK k]
  split
  · exact h.repl k r
  · exact h.snoc k r
end
/-- a key -/
def keyD : D → Option L2.Key
  | .p (.int i) => some (.inl i)
  | .p (.str x) => some (.inr x)
  | _ => none
def dictD : D → Store → Option (List (L2.Key × D))
  | .ref l, M => (match M[l]? with
    | some (.dk kvs) => some kvs
    | some (.rod kvs) => some kvs
    | _ => none)
  | _, _ => none
section
variable {G : Gm} {μ : List Addr} {H : Hp} {M : Store}
theorem keyD_ok {d : D} {v : V} {k : L2.Key} (r : Rep G μ H d v) (h : keyD d = some k) : v = kV k := by
  unfold keyD at h
  split at h
  · cases h; exact Rep.int.mp r
  · cases h; exact Rep.str.mp r
  · cases h
theorem dictD_ok {x : D} {v : V} {kvs : List (L2.Key × D)} (S : SR G μ H M) (r : Rep G μ H x v) (h : dictD x M = some kvs) : ∃ a ws, v = .ref a ∧ Rd H a (.dK ws) ∧ FsRep G μ H kvs ws := by
  unfold dictD at h
  split at h
  · obtain ⟨a, h1, rfl⟩ := Rep.ref.mp r
    split at h
    · rename_i l kvs' e
      cases h
      obtain ⟨ws, h2, h3⟩ := S.obj _ a _ h1 e
      exact ⟨a, ws, rfl, .inl h2, h3⟩
    · rename_i l kvs' e
      cases h
      obtain ⟨od, ws, h2, h3⟩ := S.obj _ a _ h1 e
      exact ⟨a, ws, rfl, .inr ⟨od, h2⟩, h3⟩
    · cases h
  · cases h
theorem getK {a : Addr} {ws : List (L2.Key × V)} {k : L2.Key} (e : Rd H a (.dK ws)) : DGet H a (kV k) (valV ws k) := .inl ⟨ws, k, e, rfl, rfl⟩
end
/-- d[k] -/
def dGet (x y : D) (M : Store) : Option (D × Store) := (dictD x M).bind fun kvs => (keyD y).bind fun k => (valD kvs k).map fun d => (d, M)
theorem d_dget {G : Gm} : OpD G dGet (fun x y H Q => ∃ a v, x = .ref a ∧ DGet H a y (some v) ∧ Q v H) := by
  intro μ H M x y v u Q d M' S rx ry q k
  unfold dGet at q
  cases q1 : dictD x M with
  | none => rw [q1] at q; cases q
  | some kvs =>
    rw [q1, Option.bind_some] at q
    cases q2 : keyD y with
    | none => rw [q2] at q; cases q
    | some ky =>
      rw [q2, Option.bind_some] at q
      obtain ⟨a, ws, rfl, h2, h3⟩ := dictD_ok S rx q1
      have ey := keyD_ok ry q2
      subst ey
      rcases h3.vals ky with ⟨e1, e2⟩ | ⟨d', v', e1, e2, e3⟩
      · rw [e1] at q; cases q
      · rw [e1] at q
        cases q
        exact ⟨a, v', rfl, by rw [← e2]; exact getK h2, k μ v' H (.refl _) (List.prefix_refl _) S e3⟩
/-- k in d, k not in d -/
def dInD (y x : D) (M : Store) : Option (D × Store) := (dictD x M).bind fun kvs => (keyD y).map fun k => (.p (.bl (valD kvs k).isSome), M)
def dNotInD (y x : D) (M : Store) : Option (D × Store) := (dictD x M).bind fun kvs => (keyD y).map fun k => (.p (.bl (!(valD kvs k).isSome)), M)
theorem d_dinD {G : Gm} : OpD G dInD (fun y x H Q => ∃ a o, x = .ref a ∧ DGet H a y o ∧ Q (.bl o.isSome) H) := by
  intro μ H M y x u v Q d M' S ry rx q k
  unfold dInD at q
  cases q1 : dictD x M with
  | none => rw [q1] at q; cases q
  | some kvs =>
    rw [q1, Option.bind_some] at q
    cases q2 : keyD y with
    | none => rw [q2] at q; cases q
    | some ky =>
      rw [q2] at q
      cases q
      obtain ⟨a, ws, rfl, h2, h3⟩ := dictD_ok S rx q1
      have ey := keyD_ok ry q2
      subst ey
      have es : (valD kvs ky).isSome = (valV ws ky).isSome := by
        rcases h3.vals ky with ⟨e1, e2⟩ | ⟨d', v', e1, e2, e3⟩
        · rw [e1, e2] <;> rfl
        · rw [e1, e2] <;> rfl
      exact ⟨a, valV ws ky, rfl, getK h2, k μ _ H (.refl _) (List.prefix_refl _) S (Rep.bl.mpr (by rw [es]))⟩
theorem d_dnotinD {G : Gm} : OpD G dNotInD (fun y x H Q => ∃ a o, x = .ref a ∧ DGet H a y o ∧ Q (.bl (!o.isSome)) H) := by
  intro μ H M y x u v Q d M' S ry rx q k
  unfold dNotInD at q
  cases q1 : dictD x M with
  | none => rw [q1] at q; cases q
  | some kvs =>
    rw [q1, Option.bind_some] at q
    cases q2 : keyD y with
    | none => rw [q2] at q; cases q
    | some ky =>
      rw [q2] at q
      cases q
      obtain ⟨a, ws, rfl, h2, h3⟩ := dictD_ok S rx q1
      have ey := keyD_ok ry q2
      subst ey
      have es : (valD kvs ky).isSome = (valV ws ky).isSome := by
        rcases h3.vals ky with ⟨e1, e2⟩ | ⟨d', v', e1, e2, e3⟩
        · rw [e1, e2] <;> rfl
        · rw [e1, e2] <;> rfl
      exact ⟨a, valV ws ky, rfl, getK h2, k μ _ H (.refl _) (List.prefix_refl _) S (Rep.bl.mpr (by rw [es]))⟩
section
variable {X : Cx} {W : WX} {e o i value : Expr} {fo fi fv fe : RE} {pos pos' : Pos}
theorem i_dget (hu : X.A.units + 1 < cLine) (ho : PE X o (tE (gm X) W fo)) (hi : PE X i (tE (gm X) W fi)) (hs : NoSl i := by exact fun _ _ => rfl) : PE X (.Subscript o i pos) (tE (gm X) W (rBin dGet fo fi)) :=
  PEimp (pe_dget hu ho hi hs) fun σ H Q h => bin_in d_dget h
theorem i_din (hu : X.A.units + 1 < cLine) (hi : PE X i (tE (gm X) W fi)) (ho : PE X o (tE (gm X) W fo)) (hm : behindInMarks .In o = false := by rfl) : PE X (.Compare i [.In] [o] pos) (tE (gm X) W (rBin dInD fi fo)) :=
  PEimp (pe_cmp (pc_din hu hi ho) hm) fun σ H Q h => bin_in d_dinD h
theorem i_dnotin (hu : X.A.units + 1 < cLine) (hi : PE X i (tE (gm X) W fi)) (ho : PE X o (tE (gm X) W fo)) (hm : behindInMarks .NotIn o = false := by rfl) : PE X (.Compare i [.NotIn] [o] pos) (tE (gm X) W (rBin dNotInD fi fo)) :=
  PEimp (pe_cmp (pc_dnotin hu hi ho) hm) fun σ H Q h => bin_in d_dnotinD h
theorem i_tdin (hu : X.A.units + 1 < cLine) (hi : PE X i (tE (gm X) W fi)) (ho : PE X o (tE (gm X) W fo)) (hm : behindInMarks .In o = false := by rfl) : PT X (.Compare i [.In] [o] pos) (tT (gm X) W (rTst asBool (rBin dInD fi fo))) :=
  PTimp (pt_cmp (pc_din hu hi ho) hm) fun σ H Q h => by
    refine bin_in (Q := fun v H1 => ∃ d, v = V.bl d ∧ Q d H1) d_dinD ((tst_in h).mono fun v H1 ⟨μ, M, x, k, hS, rx, q, w⟩ => ?_)
    cases asBool_ok q
    exact ⟨k, Rep.bl.mp rx, w⟩
theorem i_tdnotin (hu : X.A.units + 1 < cLine) (hi : PE X i (tE (gm X) W fi)) (ho : PE X o (tE (gm X) W fo)) (hm : behindInMarks .NotIn o = false := by rfl) : PT X (.Compare i [.NotIn] [o] pos) (tT (gm X) W (rTst asBool (rBin dNotInD fi fo))) :=
  PTimp (pt_cmp (pc_dnotin hu hi ho) hm) fun σ H Q h => by
    refine bin_in (Q := fun v H1 => ∃ d, v = V.bl d ∧ Q d H1) d_dnotinD ((tst_in h).mono fun v H1 ⟨μ, M, x, k, hS, rx, q, w⟩ => ?_)
    cases asBool_ok q
    exact ⟨k, Rep.bl.mp rx, w⟩
/-- {} -/
def rDict0 : RE := fun _ M => .ok (.ref M.length) (M ++ [.dk []])
theorem i_dict0 : PE X (.Dict [] [] pos) (tE (gm X) W rDict0) := PEimp pe_dnewK fun σ H Q h => by
  obtain ⟨μ, ρ, M, hE, hS, hF⟩ := h
  intro p hp
  exact hF (μ ++ [p]) (.ref p) _ (.new hp) (List.prefix_append _ _) (hS.new hp ⟨[], upd_same, rfl⟩) (Rep.ref.mpr ⟨p, by rw [← hS.len]; simp, rfl⟩)
/-- d[k] = v -/
def putM (x y v : D) (M : Store) : Option Store := match x with
  | .ref l => (match M[l]? with
    | some (.dk kvs) => (keyD y).bind fun k => if kvs.length < 100000 then some (M.set l (.dk (putD kvs k v))) else none
    | _ => none)
  | _ => none
def rDPut (fo fi fv : RE) : RS := fun ρ M => (fv ρ M).out ρ fun v M1 => (fo ρ M1).out ρ fun x M2 => (fi ρ M2).out ρ fun y M3 => match putM x y v M3 with
  | some M4 => .nx ρ M4
  | none => .no
theorem s_dput (hu : X.A.units + 1 < cLine) (ho : PE X o (tE (gm X) W fo)) (hi : PE X i (tE (gm X) W fi)) (hv : PE X value (tE (gm X) W fv)) (hs : swapsWith value (some (.Subscript o i pos')) pos.line X.env = pure false := by rfl) :
    PS X (.Assign [.Subscript o i pos'] value pos) (tS (gm X) W (rDPut fo fi fv)) :=
  PSimp (ps_dput hu ho hi hv hs) fun D σ H h => by
    obtain ⟨μ, ρ, M, hE, hS, hF⟩ := h
    refine ⟨μ, ρ, M, hE, hS, ?_⟩
    unfold rDPut at hF
    cases q : fv ρ M with
    | no => rw [q] at hF; exact hF.elim
    | ex c fs M1 => rw [q] at hF; exact fun μ' H' dx e p s x => hF μ' σ H' dx e p (hE.ext e p) s x
    | ok v M1 =>
      rw [q, R.out_ok] at hF
      intro μ1 v1 H1 e1 p1 s1 r1
      refine ⟨μ1, ρ, M1, hE.ext e1 p1, s1, ?_⟩
      cases q2 : fo ρ M1 with
      | no => rw [q2] at hF; exact hF.elim
      | ex c fs M2 => rw [q2] at hF; exact fun μ' H' dx e p s x => hF μ' σ H' dx (e1.trans e) (p1.trans p) (hE.ext (e1.trans e) (p1.trans p)) s x
      | ok x M2 =>
        rw [q2, R.out_ok] at hF
        intro μ2 v2 H2 e2 p2 s2 r2
        have e12 := e1.trans e2
        have p12 := p1.trans p2
        refine ⟨μ2, ρ, M2, hE.ext e12 p12, s2, ?_⟩
        cases q3 : fi ρ M2 with
        | no => rw [q3] at hF; exact hF.elim
        | ex c fs M3 => rw [q3] at hF; exact fun μ' H' dx e p s x => hF μ' σ H' dx (e12.trans e) (p12.trans p) (hE.ext (e12.trans e) (p12.trans p)) s x
        | ok y M3 =>
          rw [q3, R.out_ok] at hF
          intro μ3 v3 H3 e3 p3 s3 r3
          have hF : FinS (gm X) W D μ H (match putM x y v M3 with
            | some M4 => .nx ρ M4
            | none => .no) := hF
          cases q4 : putM x y v M3 with
          | none => rw [q4] at hF; exact hF.elim
          | some M4 =>
            rw [q4] at hF
            unfold putM at q4
            split at q4
            · rename_i l
              split at q4
              · rename_i kvs em
                cases q5 : keyD y with
                | none => rw [q5] at q4; cases q4
                | some k =>
                  rw [q5, Option.bind_some] at q4
                  split at q4
                  · rename_i hl
                    cases q4
                    obtain ⟨a, h1, rfl⟩ := Rep.ref.mp (r2.ext e3 p3)
                    have ey := keyD_ok r3 q5
                    subst ey
                    obtain ⟨ws, h2, h3⟩ := s3.obj _ a _ h1 em
                    have rv := (r1.ext e2 p2).ext e3 p3
                    have ex := Ext.dk (o := .dK (putK ws k v1)) h2
                    have hl2 : ws.length < sizeLine := by rw [← h3.len, sizeLine_eq]; omega
                    refine ⟨a, _, rfl, DPut.k h2 hl2, ?_⟩
                    have e123 := e12.trans e3
                    have p123 := p12.trans p3
                    exact hF μ3 σ _ (e123.trans ex) p123 (hE.ext (e123.trans ex) p123) (s3.put h1 em rfl rfl (fun ob w z => by rw [h2] at z; cases z) ex ⟨_, upd_same, (h3.put k rv).ext ex (List.prefix_refl _)⟩)
                  · cases q4
              · cases q4
            · cases q4
/-- len(d) -/
def cLenDk : List D → Store → Option (D × Store)
  | [x], M => (dictD x M).map fun kvs => (.p (.int kvs.length), M)
  | _, _ => none
theorem d_lenDk {G : Gm} : CallD G cLenDk (fun xs H Q => ∃ a kvs, xs = [.ref a] ∧ Rd H a (.dK kvs) ∧ Q (.int (kvs.length : Int)) H) := by
  intro μ H M xs vs Q d M' S r q k
  unfold cLenDk at q
  split at q
  · rename_i x
    cases q1 : dictD x M with
    | none => rw [q1] at q; cases q
    | some kvs =>
      rw [q1] at q
      cases q
      obtain ⟨v, rfl, r1⟩ := r.inv1
      obtain ⟨a, ws, rfl, h2, h3⟩ := dictD_ok S r1 q1
      exact ⟨a, ws, rfl, h2, k μ _ H (.refl _) (List.prefix_refl _) S (Rep.int.mpr (by rw [h3.len]))⟩
  · cases q
end
/-! ### written dicts -/
def mergeD {κ : Type} [DecidableEq κ] (kvs more : List (κ × D)) : List (κ × D) := more.foldl (fun acc q => putD acc q.1 q.2) kvs
theorem FsRep.mergeK {G : Gm} {μ : List Addr} {H : Hp} : ∀ {more : List (L2.Key × D)} {ms : List (L2.Key × V)} {kvs : List (L2.Key × D)} {ws : List (L2.Key × V)}, FsRep G μ H more ms → FsRep G μ H kvs ws → FsRep G μ H (mergeD kvs more) (L2.mergeK ws ms)
  | [], ms, kvs, ws, h, k => by
    have e : ms = [] := h
    subst e
    exact k
  | (f, d) :: more, ms, kvs, ws, h, k => by
    obtain ⟨v, r, rfl, h1, h2⟩ := h
    exact FsRep.mergeK (kvs := putD kvs f d) (ws := putK ws f v) h2 (k.put f h1)
noncomputable def rPs : List (RE × RE) → Env → Store → R (List (L2.Key × D))
  | [], _, M => .ok [] M
  | (fk, fv) :: r, ρ, M => (fk ρ M).bind fun x M1 => (fv ρ M1).bind fun y M2 => (rPs r ρ M2).bind fun ps M3 => match keyD x with
    | some k => .ok ((k, y) :: ps) M3
    | none => .no
section
variable {X : Cx} {W : WX} {pos : Pos} {fk fv : RE} {k v : Expr} {ks : List (Option Expr)} {vs : List Expr} {rs : List (RE × RE)}
abbrev ttD (X : Cx) (W : WX) (q : RE × RE) : TE × TE := (tE (gm X) W q.1, tE (gm X) W q.2)
theorem tPairs_mono : ∀ (rs : List (RE × RE)) {σ : L2.St} {H : Hp} {Q Q' : List (V × V) → Hp → Prop}, (∀ ps H', Q ps H' → Q' ps H') → tPairs (rs.map (ttD X W)) σ H Q → tPairs (rs.map (ttD X W)) σ H Q'
  | [], σ, H, Q, Q', hq, h => hq _ _ h
  | (fk, fv) :: rs, σ, H, Q, Q', hq, h => by
    have h : tE (gm X) W fk σ H fun x H1 => tE (gm X) W fv σ H1 fun y H2 => tPairs (rs.map (ttD X W)) σ H2 fun ps H3 => Q ((x, y) :: ps) H3 := h
    show tE (gm X) W fk σ H fun x H1 => tE (gm X) W fv σ H1 fun y H2 => tPairs (rs.map (ttD X W)) σ H2 fun ps H3 => Q' ((x, y) :: ps) H3
    exact h.mono fun x H1 h1 => h1.mono fun y H2 h2 => tPairs_mono rs (fun ps H3 h3 => hq _ _ h3) h2
theorem pairs_in : ∀ {rs : List (RE × RE)} {σ : L2.St} {H : Hp} {Q : List (L2.Key × V) → Hp → Prop}, tX (gm X) (FsRep (gm X)) W (rPs rs) σ H Q →
    tPairs (rs.map (ttD X W)) σ H fun ps H2 => ∃ kvs : List (L2.Key × V), ps = kvs.map (fun kv => (kV kv.1, kv.2)) ∧ Q kvs H2
  | [], σ, H, Q, h => by
    obtain ⟨μ, ρ, M, hE, hS, hF⟩ := h
    exact ⟨[], rfl, hF μ [] H (.refl _) (List.prefix_refl _) hS rfl⟩
  | (fk, fv) :: rs, σ, H, Q, h => by
    obtain ⟨μ, ρ, M, hE, hS, hF⟩ := h
    show tE (gm X) W fk σ H fun x H1 => tE (gm X) W fv σ H1 fun y H2 => tPairs (rs.map (ttD X W)) σ H2 fun ps H3 => ∃ kvs : List (L2.Key × V), ((x, y) :: ps) = kvs.map (fun kv => (kV kv.1, kv.2)) ∧ Q kvs H3
    refine ⟨μ, ρ, M, hE, hS, ?_⟩
    have hF : Fin (gm X) (FsRep (gm X)) W μ σ H Q ((fk ρ M).bind fun x M1 => (fv ρ M1).bind fun y M2 => (rPs rs ρ M2).bind fun ps M3 => match keyD x with
      | some k => .ok ((k, y) :: ps) M3
      | none => .no) := hF
    cases q : fk ρ M with
    | no => rw [q] at hF; exact hF.elim
    | ex c fs M1 => rw [q] at hF; exact hF
    | ok x M1 =>
      rw [q, R.bind_ok] at hF
      intro μ1 v1 H1 e1 p1 s1 r1
      refine ⟨μ1, ρ, M1, hE.ext e1 p1, s1, ?_⟩
      cases q2 : fv ρ M1 with
      | no => rw [q2] at hF; exact hF.elim
      | ex c fs M2 => rw [q2] at hF; exact fun μ' H' dx e p s z => hF μ' H' dx (e1.trans e) (p1.trans p) s z
      | ok y M2 =>
        rw [q2, R.bind_ok] at hF
        intro μ2 v2 H2 e2 p2 s2 r2
        have e12 := e1.trans e2
        have p12 := p1.trans p2
        have ih : tX (gm X) (FsRep (gm X)) W (rPs rs) σ H2 (fun kvs H3 => ∃ kk, v1 = kV kk ∧ Q ((kk, v2) :: kvs) H3) := by
          refine ⟨μ2, ρ, M2, hE.ext e12 p12, s2, ?_⟩
          cases q3 : rPs rs ρ M2 with
          | no => rw [q3] at hF; exact hF.elim
          | ex c fs M3 => rw [q3] at hF; exact fun μ' H' dx e p s z => hF μ' H' dx (e12.trans e) (p12.trans p) s z
          | ok ps M3 =>
            rw [q3, R.bind_ok] at hF
            cases q4 : keyD x with
            | none => rw [q4] at hF; exact hF.elim
            | some kk =>
              rw [q4] at hF
              intro μ3 ws H3 e3 p3 s3 r3
              exact ⟨kk, keyD_ok r1 q4, hF μ3 _ H3 (e12.trans e3) (p12.trans p3) s3 ⟨v2, ws, rfl, (r2.ext e3 p3), r3⟩⟩
        refine tPairs_mono rs (fun ps H3 h3 => ?_) (pairs_in ih)
        obtain ⟨kvs, rfl, kk, rfl, h4⟩ := h3
        exact ⟨(kk, v2) :: kvs, rfl, h4⟩
theorem p_nil : PPs X pos [] [] (([] : List (RE × RE)).map (ttD X W)) := pps_nil
theorem p_cons (hk : PE X k (tE (gm X) W fk)) (hv : PE X v (tE (gm X) W fv)) (hr : PPs X pos ks vs (rs.map (ttD X W))) :
    PPs X pos (some k :: ks) (v :: vs) (((fk, fv) :: rs).map (ttD X W)) := pps_cons hk hv hr
noncomputable def rDisp (rs : List (RE × RE)) : RE := fun ρ M => (rPs rs ρ (M ++ [.dk []])).bind fun ps M2 => match M2[M.length]? with
  | some (.dk []) => if ps.length ≤ 15 then .ok (.ref M.length) (M2.set M.length (.dk (mergeD [] ps))) else .no
  | _ => .no
theorem i_disp (h : PPs X pos ks vs (rs.map (ttD X W))) (hall : ks.all (·.isSome) = true := by rfl) (hl : ks.length = vs.length := by rfl) (h0 : ks ≠ [] := by exact fun z => by cases z) (h15 : ks.length ≤ 15 := by decide) :
    PE X (.Dict ks vs pos) (tE (gm X) W (rDisp rs)) :=
  PEimp (pe_disp h hall hl h0 h15) fun σ H Q z => by
    obtain ⟨μ, ρ, M, hE, hS, hF⟩ := z
    intro p hp
    have S1 := hS.new (o := .dk []) hp ⟨[], upd_same, rfl⟩
    have ex0 : Ext H (upd H p (.dK [])) := .new hp
    have key : tX (gm X) (FsRep (gm X)) W (rPs rs) σ (upd H p (.dK [])) fun kvs H2 => H2 p = some (.dK []) ∧ kvs.length ≤ 15 ∧ Q (.ref p) (upd H2 p (.dK (L2.mergeK [] kvs))) := by
      refine ⟨μ ++ [p], ρ, M ++ [.dk []], hE.ext ex0 (List.prefix_append _ _), S1, ?_⟩
      have hF : Fin (gm X) (Rep (gm X)) W μ σ H Q ((rPs rs ρ (M ++ [.dk []])).bind fun ps M2 => match M2[M.length]? with
        | some (.dk []) => if ps.length ≤ 15 then .ok (.ref M.length) (M2.set M.length (.dk (mergeD [] ps))) else .no
        | _ => .no) := hF
      cases q : rPs rs ρ (M ++ [.dk []]) with
      | no => rw [q] at hF; exact hF.elim
      | ex c fs M2 => rw [q] at hF; exact fun μ' H' dx e p' s z => hF μ' H' dx (ex0.trans e) ((List.prefix_append _ _).trans p') s z
      | ok ps M2 =>
        rw [q, R.bind_ok] at hF
        intro μ2 kvs H2 e2 p2 s2 r2
        have hp2 : μ2[M.length]? = some p := pre_get p2 (by rw [← hS.len]; simp)
        split at hF
        · rename_i em
          split at hF
          · rename_i hl15
            obtain ⟨ws, h2, h3⟩ := s2.obj _ p _ hp2 em
            have e0 : ws = [] := h3
            subst e0
            refine ⟨h2, by rw [← r2.len]; exact hl15, ?_⟩
            have ex := Ext.dk (o := .dK (L2.mergeK [] kvs)) h2
            have rk := r2.mergeK (kvs := []) (ws := []) rfl
            exact hF μ2 (.ref p) _ ((ex0.trans e2).trans ex) ((List.prefix_append _ _).trans p2) (s2.put hp2 em rfl rfl (fun ob w z => by rw [h2] at z; cases z) ex ⟨_, upd_same, rk.ext ex (List.prefix_refl _)⟩) (Rep.ref.mpr ⟨p, hp2, rfl⟩)
          · exact hF.elim
        · exact hF.elim
    have h2 := pairs_in key
    refine tPairs_mono rs (fun ps H3 h3 => ?_) h2
    obtain ⟨kvs, e, h4, h5, h6⟩ := h3
    exact ⟨h4, kvs, e, h5, h6⟩
end
end Fl

set_option Elab.async false
set_option linter.all false
set_option maxRecDepth 100000
/-! Fl, part P: sorted ints of lists and dicts, bits, instances, their attributes and methods. -/
namespace Fl
open PySem PySem.Spec L2 PyProof.Rows
set_option autoImplicit false
/-! ### sorted -/
def srtI (ns : List Int) : List Int := ns.mergeSort fun a b => decide (a ≤ b)
theorem srtI_perm (ns : List Int) : (srtI ns).Perm ns := List.mergeSort_perm _ _
theorem srtI_le (ns : List Int) : (srtI ns).Pairwise (· ≤ ·) := by
  have h := List.pairwise_mergeSort (le := fun a b : Int => decide (a ≤ b)) (fun a b c h1 h2 => by simp at h1 h2 ⊢; omega) (fun a b => by simp; omega) ns
  exact h.imp fun h => by simpa using h
theorem srtI_uniq {ns ms : List Int} (h1 : ms.Perm ns) (h2 : ms.Pairwise (· ≤ ·)) : ms = srtI ns :=
  List.Perm.eq_of_pairwise (le := (· ≤ ·)) (fun a b _ _ h1 h2 => Int.le_antisymm h1 h2) h2 (srtI_le ns) (h1.trans (srtI_perm ns).symm)
theorem Reps.of_ints {G : Gm} {μ : List Addr} {H : Hp} : ∀ ns : List Int, Reps G μ H (ns.map fun i => .p (.int i)) (ns.map V.int)
  | [] => .nil
  | i :: ns => .cons (Rep.int.mpr rfl) (Reps.of_ints ns)
/-- the keys, all ints -/
def keysI : List (L2.Key × D) → Option (List Int)
  | [] => some []
  | (.inl i, _) :: r => (keysI r).map fun s => i :: s
  | _ :: _ => none
theorem keysI_eq : ∀ {kvs : List (L2.Key × D)} {ns : List Int}, keysI kvs = some ns → kvs.map (·.1) = ns.map Sum.inl
  | [], ns, h => by cases h; rfl
  | (k, d) :: r, ns, h => by
    unfold keysI at h
    split at h
    · rename_i e
      cases e
    · rename_i i d' r' e
      cases e
      cases q : keysI r with
      | none => rw [q] at h; cases h
      | some s =>
        rw [q] at h
        cases h
        rw [List.map_cons, List.map_cons, keysI_eq q]
    · cases h
def sortD (x : D) (M : Store) : Option (List Int) := match x with
  | .ref l => (match M[l]? with
    | some (.dk kvs) => keysI kvs
    | some (.rod kvs) => keysI kvs
    | some (.lst xs) => intsOf xs
    | some (.ro xs) => intsOf xs
    | _ => none)
  | _ => none
def cSorted : List D → Store → Option (D × Store)
  | [x], M => (sortD x M).map fun ns => (.ref M.length, M ++ [.lst ((srtI ns).map fun i => .p (.int i))])
  | _, _ => none
def rSortA (K : PySem.W.Frag) : List V → Hp → VK → Prop := fun xs H Q => ∃ (a : Addr) (ns : List Int), xs = [.ref a] ∧ ((∃ kvs : List (L2.Key × V), Rd H a (.dK kvs) ∧ kvs.map (·.1) = ns.map Sum.inl) ∨ SqL K H a (ns.map V.int)) ∧
  ∀ p : Addr, H p = none → Q (.ref p) (upd H p (.lst ((srtI ns).map V.int)))
theorem d_sorted {G : Gm} : CallD G cSorted (rSortA G.K) := by
  intro μ H M xs vs Q d M' S r q k
  unfold cSorted at q
  split at q
  · rename_i x
    cases q1 : sortD x M with
    | none => rw [q1] at q; cases q
    | some ns =>
      rw [q1] at q
      cases q
      obtain ⟨v, rfl, r1⟩ := r.inv1
      have fin : ∀ p : Addr, H p = none → Q (.ref p) (upd H p (.lst ((srtI ns).map V.int))) := fun p hp =>
        k (μ ++ [p]) _ _ (.new hp) (List.prefix_append _ _) (new_lst S hp (Reps.of_ints _)) (new_ref S p)
      unfold sortD at q1
      split at q1
      · rename_i l
        obtain ⟨a, h1, rfl⟩ := Rep.ref.mp r1
        split at q1
        · rename_i kvs e
          obtain ⟨ws, h2, h3⟩ := S.obj _ a _ h1 e
          exact ⟨a, ns, rfl, .inl ⟨ws, .inl h2, by rw [← h3.keys]; exact keysI_eq q1⟩, fin⟩
        · rename_i kvs e
          obtain ⟨od, ws, h2, h3⟩ := S.obj _ a _ h1 e
          exact ⟨a, ns, rfl, .inl ⟨ws, .inr ⟨od, h2⟩, by rw [← h3.keys]; exact keysI_eq q1⟩, fin⟩
        · rename_i ys e
          obtain ⟨ws, h2, h3⟩ := S.obj _ a _ h1 e
          rw [intsOf_eq q1] at h3
          exact ⟨a, ns, rfl, .inr (by rw [← Reps.ints h3]; exact SqL.of h2), fin⟩
        · rename_i ys e
          obtain ⟨ws, h2, h3⟩ := S.obj _ a _ h1 e
          rw [intsOf_eq q1] at h3
          exact ⟨a, ns, rfl, .inr (by rw [← Reps.ints h3]; exact h2.sql), fin⟩
        · cases q1
      · cases q1
  · cases q
section
variable {X : Cx}
theorem keys_ints {ks : List Int} {vs : List (L2.Key × Value)} {us : List Value} (hkeys : vs.map (·.1) = ks.map Sum.inl) (hl : us.length = ks.length) (h : ∀ (j : Nat) (v : Value), us[j]? = some v → ∃ k x, vs[j]? = some (k, x) ∧ keyIs k v = true) : IntsAre us ks :=
  ints_each hl fun j v e => by
    obtain ⟨k, x, e1, e2⟩ := h j v e
    have e3 := congrArg (fun z => z[j]?) hkeys
    simp only [List.getElem?_map, e1, Option.map_some] at e3
    cases e4 : ks[j]? with
    | none => rw [e4] at e3; cases e3
    | some y =>
      rw [e4] at e3
      obtain rfl : k = Sum.inl y := Option.some.inj e3
      rcases keyIs_shape e2 with ⟨i, t, ek, ev⟩ | ⟨z, t, ek, ev⟩
      · cases ek; exact ⟨y, t, rfl, ev⟩
      · cases ek
theorem o_sorted (hcalm : X.calm = true) : CallR X (.builtin "sorted") (rSortA X.K) := by
  intro pins s σ H xs us Q I r q
  obtain ⟨a, ns, rfl, hd | hq, fin⟩ := q
  · obtain ⟨kvs, hd, hks⟩ := hd
    have eu := Vals.ref1 r
    rw [eu]
    obtain ⟨z, lo, vs, rel, dd⟩ := dk_rd I.hok hd
    obtain ⟨ep, hat⟩ := dd.dictAt
    have hkeys : vs.map (·.1) = ns.map Sum.inl := rel.keys.symm.trans hks
    have hln : vs.length = ns.length := by simpa using congrArg List.length hkeys
    have hz : vs.length ≤ sizeLine := by rw [← rel.length]; exact z
    refine Calls.call_function_entry kind_sorted plain_sorted entry_sorted (args_sorted1 (.ref a)) ?_
    unfold Builtin.«sorted»
    refine wpAny_bind (m := checkCount "sorted" 1 1 _) (wpAny_pure (wpAny_bind (PySem.W.kdu_collect (A := X.A.in1) (PySem.W.kdl_dict (kvs := vs) (knd := mixKind X.prog X.w) (ep := ep) lo) (I.ok.hd hcalm) hat hz fun hN tN acc old items => ?_)))
    have ha : acc.toList.length = ns.length := by rw [Array.length_toList, items.1, hln]
    have hS : IntsAre acc.toList ns := keys_ints hkeys ha fun j v e => items.2 j v (by rw [← Array.getElem?_toList]; exact e)
    have hzL : acc.toList.length ≤ sizeLine := by rw [ha, ← hln]; exact hz
    have I1 : Inv X pins σ H { s with heap := hN, toks := tN } := I.kept old
    have ho : (hN.push (seqObj "list" acc.toList.toArray 0)).get? hN.objs.size = some (seqObj "list" acc.toList.toArray 0) := Heap.get?_push_size hN rfl
    refine wpAny_bind (wpAny_newList ?_ hzL)
    show wpAny _ _ _ _ _ { s with toks := tN, heap := hN.push (seqObj "list" acc.toList.toArray 0) }
    refine wpAny_bind (wpAny_holding (wpAny_call_entry slot_list_sort ⟨_, ho, rfl⟩ entry_list_sort
      (SrtO.list_sort_ord (s := { s with toks := tN, heap := hN.push (seqObj "list" acc.toList.toArray 0) }) SrtO.swo_int ho hzL (fun two => SrtO.ints_sortable hS two) fun out o1 o2 => ⟨.none, rfl, ?_⟩) (args_list_sort (.ref hN.objs.size))))
    obtain ⟨k1, k2, k3⟩ := SrtO.ints_out hS o1 o2
    obtain ⟨en, hen⟩ := sortedHeap_at (vs := acc.toList) (out := out.toArray) ho
    have hm : out.map SrtO.iv = srtI ns := srtI_uniq k2 k3
    have hlo : ((out.map SrtO.iv).map V.int).length ≤ sizeLine := by
      rw [List.length_map, k2.length_eq, ← hln]
      exact hz
    have q := fin hN.objs.size (I1.hok.fresh (Nat.le_refl _))
    rw [← hm] at q
    refine wpAny_pure ⟨_, rfl, .ref hN.objs.size, _, I1.laid (a := hN.objs.size) (o := .lst ((out.map SrtO.iv).map V.int)) (t' := tN) (fun b u e => ?_) (Nat.le_refl _) ⟨hlo, out, en, vals_of_ints k1, hen⟩, rfl, q⟩
    have hb : b < hN.objs.size := Heap.lt_size e
    rw [sortedHeap_old (Nat.ne_of_lt hb) (by rw [size_push']; exact Nat.lt_succ_of_lt hb)]
    exact Heap.get?_push_of_some _ e
  · exact cr_sortedI pins s σ H _ us Q I r ⟨a, ns, rfl, hq, fun ns' p h1 h2 hp => by
      rw [srtI_uniq h1 h2]
      exact fin p hp⟩
end
/-! ### bits -/
def dBOr : D → D → Store → Option (D × Store)
  | .p (.int i), .p (.int j), M => some (.p (.int (Builtin.bitOr i j)), M)
  | _, _, _ => none
theorem d_bor {G : Gm} : OpD G dBOr (rI0 fun i j => .int (Builtin.bitOr i j)) := by
  intro μ H M x y v u Q d M' S rx ry q k
  unfold dBOr at q
  split at q
  · cases q
    exact ⟨_, _, Rep.int.mp rx, Rep.int.mp ry, k μ _ H (.refl _) (List.prefix_refl _) S (Rep.int.mpr rfl)⟩
  · cases q
@[simp] theorem v_bor (i j : Int) (M : Store) : dBOr (.p (.int i)) (.p (.int j)) M = some (.p (.int (Builtin.bitOr i j)), M) := (rfl)
def dBits : D → Store → Option (D × Store)
  | .p (.int i), M => some (.p (.int (Builtin.Int.intBits i : Nat)), M)
  | _, _ => none
@[simp] theorem v_bits (i : Int) (M : Store) : dBits (.p (.int i)) M = some (.p (.int (Builtin.Int.intBits i : Nat)), M) := (rfl)
theorem d_bits {G : Gm} : OpU G dBits (fun x H Q => ∃ i, x = .int i ∧ Q (.int (Builtin.Int.intBits i : Nat)) H) := by
  intro μ H M x v Q d M' S rx q k
  unfold dBits at q
  split at q
  · cases q
    exact ⟨_, Rep.int.mp rx, k μ _ H (.refl _) (List.prefix_refl _) S (Rep.int.mpr rfl)⟩
  · cases q
section
variable {X : Cx} {W : WX} {o e value : Expr} {es : List Expr} {fo fe fv : RE} {fs : RA} {f c m x : Str} {p pos pos' apos : Pos}
theorem i_bits (ho : PE X o (tE (gm X) W fo)) (hbase : attributeBase o "bit_length" X.env (eval o X.env) = eval o X.env := by rfl) (hline : (apos.endLine == pos.line) = true := by rfl) : PE X (.Call (.Attribute o "bit_length" apos) [] [] pos) (tE (gm X) W (rUn dBits fo)) :=
  PEimp (pe_bits ho hbase hline) fun σ H Q h => un_in d_bits h
/-! ### instances -/
/-- the class c, its attributes' names -/
structure ClsF (G : Gm) (c : Str) (as : List Str) : Prop where
  is_ : ∃ C, G.mg c = some (.ref C) ∧ Cls G.K C ∧ ∀ f ∈ as, NoAttr G.K C f
def dFld (c f : Str) : D → Store → Option (D × Store)
  | .ref l, M => (match M[l]? with
    | some (.ins c' fs) => if c' = c then (fs.lookup f).map fun d => (d, M) else none
    | _ => none)
  | _, _ => none
theorem FsRep.look {G : Gm} {μ : List Addr} {H : Hp} (f : Str) : ∀ {fs : List (Str × D)} {gs : List (Str × V)}, FsRep G μ H fs gs → (fs.lookup f = none ∧ gs.lookup f = none) ∨ ∃ d v, fs.lookup f = some d ∧ gs.lookup f = some v ∧ Rep G μ H d v
  | [], gs, h => by
    have e : gs = [] := h
    subst e
    exact .inl ⟨rfl, rfl⟩
  | (g, d) :: fs, gs, h => by
    obtain ⟨v, r, rfl, h1, h2⟩ := h
    rw [List.lookup_cons, List.lookup_cons]
    cases q : f == g with
    | true => exact .inr ⟨d, v, rfl, rfl, h1⟩
    | false => exact FsRep.look f h2
def putFD (f : Str) (d : D) : List (Str × D) → List (Str × D)
  | [] => [(f, d)]
  | (g, x) :: r => if g = f then (g, d) :: r else (g, x) :: putFD f d r
theorem FsRep.putF {G : Gm} {μ : List Addr} {H : Hp} (f : Str) {d : D} {v : V} (r : Rep G μ H d v) : ∀ {fs : List (Str × D)} {gs : List (Str × V)}, FsRep G μ H fs gs → FsRep G μ H (putFD f d fs) (L2.putF f v gs)
  | [], gs, h => by
    have e : gs = [] := h
    subst e
    exact ⟨v, [], rfl, r, rfl⟩
  | (g, x) :: fs, gs, h => by
    obtain ⟨u, t, rfl, h1, h2⟩ := h
    unfold putFD L2.putF
    by_cases e : g = f
    · rw [if_pos e, if_pos e]
      exact ⟨v, t, rfl, r, h2⟩
    · rw [if_neg e, if_neg e]
      exact ⟨u, _, rfl, h1, FsRep.putF f r h2⟩
theorem d_fld {G : Gm} {as : List Str} (hc : ClsF G c as) (hf : f ∈ as) : OpU G (dFld c f) (fun x H Q => ∃ a C dx fs v, x = .ref a ∧ H a = some (.ins C dx fs) ∧ Cls G.K C ∧ NoAttr G.K C f ∧ fs.lookup f = some v ∧ Q v H) := by
  intro μ H M x v Q d M' S rx q k
  unfold dFld at q
  split at q
  · rename_i l
    obtain ⟨a, h1, rfl⟩ := Rep.ref.mp rx
    split at q
    · rename_i c' fs e
      split at q
      · rename_i ec
        subst ec
        obtain ⟨C, dx, gs, h0, h2, h3⟩ := S.obj _ a _ h1 e
        obtain ⟨C', k0, k1, k2⟩ := hc.is_
        obtain rfl : C = C' := by
          have := h0.symm.trans k0
          cases this
          rfl
        rcases h3.look f with ⟨e1, e2⟩ | ⟨d', v', e1, e2, e3⟩
        · rw [e1] at q; cases q
        · rw [e1] at q
          cases q
          exact ⟨a, C, dx, gs, v', rfl, h2, k1, k2 f hf, e2, k μ v' H (.refl _) (List.prefix_refl _) S e3⟩
      · cases q
    · cases q
  · cases q
/-- o.f -/
theorem i_fld {as : List Str} (hc : ClsF (gm X) c as) (hf : f ∈ as) (ho : PE X o (tE (gm X) W fo)) (hb : attributeBase o f X.env (eval o X.env) = eval o X.env := by rfl) : PE X (.Attribute o f pos) (tE (gm X) W (rUn (dFld c f) fo)) :=
  PEimp (pe_fld ho hb) fun σ H Q h => un_in (d_fld hc hf) h
/-- o.f = e -/
def setF (c f : Str) (x v : D) (M : Store) : Option Store := match x with
  | .ref l => (match M[l]? with
    | some (.ins c' fs) => if c' = c ∧ fs.length < 1000 then some (M.set l (.ins c (putFD f v fs))) else none
    | _ => none)
  | _ => none
def rSetF (c f : Str) (fo fv : RE) : RS := fun ρ M => (fv ρ M).out ρ fun v M1 => (fo ρ M1).out ρ fun x M2 => match setF c f x v M2 with
  | some M3 => .nx ρ M3
  | none => .no
theorem s_fld {as : List Str} (hc : ClsF (gm X) c as) (hf : f ∈ as) (ho : PE X o (tE (gm X) W fo)) (hv : PE X value (tE (gm X) W fv)) (hs : swapsWith value (some (.Attribute o f pos')) pos.line X.env = pure false := by rfl) :
    PS X (.Assign [.Attribute o f pos'] value pos) (tS (gm X) W (rSetF c f fo fv)) :=
  PSimp (ps_fld ho hv hs) fun D σ H h => by
    obtain ⟨μ, ρ, M, hE, hS, hF⟩ := h
    refine ⟨μ, ρ, M, hE, hS, ?_⟩
    unfold rSetF at hF
    cases q : fv ρ M with
    | no => rw [q] at hF; exact hF.elim
    | ex c fs M1 => rw [q] at hF; exact fun μ' H' dx e p s x => hF μ' σ H' dx e p (hE.ext e p) s x
    | ok v M1 =>
      rw [q, R.out_ok] at hF
      intro μ1 v1 H1 e1 p1 s1 r1
      refine ⟨μ1, ρ, M1, hE.ext e1 p1, s1, ?_⟩
      cases q2 : fo ρ M1 with
      | no => rw [q2] at hF; exact hF.elim
      | ex c fs M2 => rw [q2] at hF; exact fun μ' H' dx e p s x => hF μ' σ H' dx (e1.trans e) (p1.trans p) (hE.ext (e1.trans e) (p1.trans p)) s x
      | ok x M2 =>
        rw [q2, R.out_ok] at hF
        intro μ2 v2 H2 e2 p2 s2 r2
        have e12 := e1.trans e2
        have p12 := p1.trans p2
        have hF : FinS (gm X) W D μ H (match setF c f x v M2 with
          | some M3 => .nx ρ M3
          | none => .no) := hF
        cases q4 : setF c f x v M2 with
        | none => rw [q4] at hF; exact hF.elim
        | some M3 =>
          rw [q4] at hF
          unfold setF at q4
          split at q4
          · rename_i l
            obtain ⟨a, h1, rfl⟩ := Rep.ref.mp r2
            split at q4
            · rename_i c' fs em
              split at q4
              · rename_i hl
                cases q4
                obtain ⟨rfl, hl⟩ := hl
                obtain ⟨C, dx, gs, h0, h2, h3⟩ := s2.obj _ a _ h1 em
                obtain ⟨C', k0, k1, k2⟩ := hc.is_
                obtain rfl : C = C' := by
                  have := h0.symm.trans k0
                  cases this
                  rfl
                have ex := Ext.ins (o := .ins C dx (L2.putF f v1 gs)) h2
                refine ⟨a, C, dx, gs, rfl, h2, k1, k2 f hf, by rw [← h3.len]; exact hl, ?_⟩
                exact hF μ2 σ _ (e12.trans ex) p12 (hE.ext (e12.trans ex) p12) (s2.put h1 em rfl rfl (fun ob w z => by rw [h2] at z; cases z) ex ⟨C, dx, _, h0, upd_same, (FsRep.putF f (r1.ext e2 p2) h3).ext ex (List.prefix_refl _)⟩)
              · cases q4
            · cases q4
          · cases q4
/-- a class's method, a class's __init__ -/
structure Dm (P : Program) (w : World) (K : PySem.W.Frag) (mg : Str → Option Value) (base : Heap) (c m : Str) (ps : List Str) (F : List D → Store → R D) (k : Nat) : Prop where
  is_ : ∃ C f fd, mg c = some (.ref C) ∧ Cls K C ∧ Meth K C m f ∧ Binds K fd ps [] ∧ FnOk P w K mg base (L2N.CX P w) k f fd ps (spD ⟨K, mg⟩ F ps.length)
structure Di (P : Program) (w : World) (K : PySem.W.Frag) (mg : Str → Option Value) (base : Heap) (c : Str) (ps : List Str) (F : List D → Store → R D) (k : Nat) : Prop where
  is_ : ∃ C f fd, mg c = some (.ref C) ∧ Mk K C f ∧ Binds K fd ps [] ∧ FnOk P w K mg base (L2N.CX P w) k f fd ps (spD ⟨K, mg⟩ F ps.length)
def insC (c m : Str) : D → Store → Bool
  | .ref l, M => (match M[l]? with
    | some (.ins c' fs) => decide (c' = c) && (fs.lookup m).isNone
    | _ => false)
  | _, _ => false
/-- o.m(e, ..) -/
def rMeth (c m : Str) (n : Nat) (F : List D → Store → R D) (fo : RE) (fs : RA) : RE := fun ρ M => (fo ρ M).bind fun x M1 => match insC c m x M1 with
  | true => (fs ρ M1).bind fun ds M2 => if ds.length + 1 = n then F (x :: ds) M2 else .no
  | false => .no
theorem insC_ok {G : Gm} {μ : List Addr} {H : Hp} {M : Store} {x : D} {v : V} {C : Addr} (S : SR G μ H M) (r : Rep G μ H x v) (h : insC c m x M = true) (g : G.mg c = some (.ref C)) : ∃ a dx fs, v = .ref a ∧ H a = some (.ins C dx fs) ∧ fs.lookup m = none := by
  unfold insC at h
  split at h
  · rename_i l
    obtain ⟨a, h1, rfl⟩ := Rep.ref.mp r
    split at h
    · rename_i c' fs e
      rw [Bool.and_eq_true, decide_eq_true_eq] at h
      obtain ⟨rfl, hn⟩ := h
      obtain ⟨C', dx, gs, h0, h2, h3⟩ := S.obj _ a _ h1 e
      obtain rfl : C' = C := by
        have := h0.symm.trans g
        cases this
        rfl
      refine ⟨a, dx, gs, rfl, h2, ?_⟩
      rcases h3.look m with ⟨e1, e2⟩ | ⟨d', v', e1, e2, e3⟩
      · exact e2
      · rw [e1] at hn; cases hn
    · cases h
  · cases h
variable {ps : List Str} {F : List D → Store → R D} {k : Nat}
theorem meth_in {C : Addr} (g : (gm X).mg c = some (.ref C)) {n : Nat} {σ : L2.St} {H : Hp} {Q : VK} (h : tE (gm X) W (rMeth c m n F fo fs) σ H Q) :
    tE (gm X) W fo σ H fun x H1 => ∃ a dx gs, x = .ref a ∧ H1 a = some (.ins C dx gs) ∧ gs.lookup m = none ∧ tA (gm X) W fs σ H1 fun vs H2 => spD (gm X) F n (x :: vs) H2 Q (WE W σ) := by
  obtain ⟨μ, ρ, M, hE, hS, hF⟩ := h
  refine ⟨μ, ρ, M, hE, hS, ?_⟩
  have hF : Fin (gm X) (Rep (gm X)) W μ σ H Q ((fo ρ M).bind fun x M1 => match insC c m x M1 with
    | true => (fs ρ M1).bind fun ds M2 => if ds.length + 1 = n then F (x :: ds) M2 else .no
    | false => .no) := hF
  cases q : fo ρ M with
  | no => rw [q] at hF; exact hF.elim
  | ex c fs M1 => rw [q] at hF; exact hF
  | ok x M1 =>
    rw [q, R.bind_ok] at hF
    intro μ1 v1 H1 e1 p1 s1 r1
    cases q2 : insC c m x M1 with
    | false => rw [q2] at hF; exact hF.elim
    | true =>
      rw [q2] at hF
      obtain ⟨a, dx, gs, rfl, h2, h3⟩ := insC_ok s1 r1 q2 g
      refine ⟨a, dx, gs, rfl, h2, h3, μ1, ρ, M1, hE.ext e1 p1, s1, ?_⟩
      have hF : Fin (gm X) (Rep (gm X)) W μ σ H Q ((fs ρ M1).bind fun ds M2 => if ds.length + 1 = n then F (x :: ds) M2 else .no) := hF
      cases q3 : fs ρ M1 with
      | no => rw [q3] at hF; exact hF.elim
      | ex c fs M2 => rw [q3] at hF; exact fun μ' H' dx e p s z => hF μ' H' dx (e1.trans e) (p1.trans p) s z
      | ok ds M2 =>
        rw [q3, R.bind_ok] at hF
        split at hF
        · rename_i hn
          intro μ2 vs H2 e2 p2 s2 r2
          exact ⟨μ2, x :: ds, M2, by rw [List.length_cons, r2.len_eq]; exact hn, .cons (r1.ext e2 p2) r2, s2, FinC_of (Fin.later (e1.trans e2) (p1.trans p2) hF)⟩
        · exact hF.elim
theorem i_meth (Dd : Dm X.prog X.w X.K X.mg X.base c m ps F k) (hr : Room k X.A) (tk : L2N.Takes X W) (ho : PE X o (tE (gm X) W fo)) (ha : PA X (e :: es) (tA (gm X) W fs)) {pl : Sem Bool}
    (hst : starEach (e :: es) X.env = (false, eval e X.env) :: starEach es X.env := by rfl) (hpl : (backTo pos (starEach es X.env)).any (·.1) = false := by rfl)
    (ht : eval (.Call (.Attribute o m apos) (e :: es) [] pos) X.env = (do
      let obj ← eval o X.env
      standAt apos.atName
      let (g, us) ← holding [obj] (getMethod obj m pl)
      callWith pos g us (backTo pos (starEach (e :: es) X.env)) (backToKw pos (keywordEach [] X.env))) := by rfl) :
    PE X (.Call (.Attribute o m apos) (e :: es) [] pos) (tE (gm X) W (rMeth c m ps.length F fo fs)) := by
  obtain ⟨C, g, fd, h1, h2, h3, h4, h5⟩ := Dd.is_
  refine ⟨fun pins s σ H Q I h => ?_⟩
  refine PySem.W.methodCall_KW (pl := pl) (thn (ho.run pins s σ H _ I (meth_in h1 h)) fun u s1 ⟨x, H1, I1, rx, a, dx, gs, ex, ea, l, q⟩ => ?_) ht
  subst ex
  cases (show u = Value.ref a from rx)
  refine getmeth_ok I1 ea h2 h3 l (PySem.W.callWith_K (h₀ := X.base) (first := [.ref a]) I.ok.mod.kin h3.kp (thn (ha.run pos pins s1 σ H1 _ I1 q) fun us s2 ⟨vs, H2, I2, r, q2⟩ => ⟨I2.kIn, ?_⟩) hst hpl)
  exact run_fnSD (vs := V.ref a :: vs) (us := Value.ref a :: us) (dvs := []) (E := WE W) h5 hr h4 .nil (L2N.passAt tk σ) I2 (.cons rfl r) (by rw [List.append_nil]; exact q2)
/-- o.m() -/
theorem i_meth0 (Dd : Dm X.prog X.w X.K X.mg X.base c m ps F k) (hr : Room k X.A) (tk : L2N.Takes X W) (ho : PE X o (tE (gm X) W fo)) {pl : Sem Bool}
    (ht : eval (.Call (.Attribute o m apos) [] [] pos) X.env = (do
      let obj ← eval o X.env
      standAt apos.atName
      let (g, us) ← holding [obj] (getMethod obj m pl)
      callWith pos g us (backTo pos (starEach [] X.env)) (backToKw pos (keywordEach [] X.env))) := by rfl) :
    PE X (.Call (.Attribute o m apos) [] [] pos) (tE (gm X) W (rMeth c m ps.length F fo rNil)) := by
  obtain ⟨C, g, fd, h1, h2, h3, h4, h5⟩ := Dd.is_
  refine ⟨fun pins s σ H Q I h => ?_⟩
  refine PySem.W.methodCall_KW (pl := pl) (thn (ho.run pins s σ H _ I (meth_in h1 h)) fun u s1 ⟨x, H1, I1, rx, a, dx, gs, ex, ea, l, q⟩ => ?_) ht
  subst ex
  cases (show u = Value.ref a from rx)
  obtain ⟨μ, ρ, M, hE, hS, hF⟩ := q
  have q2 := hF μ [] H1 (.refl _) (List.prefix_refl _) hS .nil
  refine getmeth_ok I1 ea h2 h3 l (PySem.W.callWith_K0 (first := [.ref a]) I1.kIn h3.kp ?_)
  exact run_fnSD (vs := [V.ref a]) (us := [Value.ref a]) (dvs := []) (E := WE W) h5 hr h4 .nil (L2N.passAt tk σ) I1 (.cons rfl .nil) (by rw [List.append_nil]; exact q2)
end
/-! ### C(e, ..) -/
section
variable {X : Cx} {W : WX} {e : Expr} {es : List Expr} {fs : RA} {c : Str} {p pos : Pos} {ps : List Str} {F : List D → Store → R D} {k : Nat}
def rMake (c : Str) (n : Nat) (F : List D → Store → R D) (fs : RA) : RE := fun ρ M => (fs ρ M).bind fun ds M1 => if ds.length + 1 = n then (match F (.ref M1.length :: ds) (M1 ++ [.ins c []]) with
  | .ok (.p .non) M2 => .ok (.ref M1.length) M2
  | .ex x gs M2 => .ex x gs M2
  | _ => .no) else .no
/-- what a new instance's __init__ wants -/
def makeQ (X : Cx) (W : WX) (F : List D → Store → R D) (n : Nat) (C : Addr) (σ : L2.St) (Q : VK) (vs : List V) (H : Hp) : Prop := ∀ x dx, H x = none → H dx = none → dx ≠ x →
  spD (gm X) F n (.ref x :: vs) (upd (upd H dx (.own x)) x (.ins C dx [])) (fun v H2 => v = .non ∧ Q (.ref x) H2) (WE W σ)
theorem make_in {C : Addr} (g : (gm X).mg c = some (.ref C)) {n : Nat} {σ : L2.St} {H : Hp} {Q : VK} (h : tE (gm X) W (rMake c n F fs) σ H Q) : tA (gm X) W fs σ H (makeQ X W F n C σ Q) := by
  obtain ⟨μ, ρ, M, hE, hS, hF⟩ := h
  refine ⟨μ, ρ, M, hE, hS, ?_⟩
  unfold rMake at hF
  cases q : fs ρ M with
  | no => rw [q] at hF; exact hF.elim
  | ex c fs M1 => rw [q] at hF; exact hF
  | ok ds M1 =>
    rw [q, R.bind_ok] at hF
    intro μ1 vs H1 e1 p1 s1 r1
    split at hF
    · rename_i hn
      intro x dx hx hd ne
      have ne2 : (upd H1 dx (.own x)) x = none := by rw [upd_ne (Ne.symm ne)]; exact hx
      have ex1 : Ext H1 (upd (upd H1 dx (.own x)) x (.ins C dx [])) := (Ext.new hd).trans (.new ne2)
      have S2 := (s1.grow (u := .own x) hd).new (o := .ins c []) ne2 ⟨C, dx, [], g, upd_same, rfl⟩
      have hx1 : (μ1 ++ [x])[M1.length]? = some x := by rw [← s1.len]; simp
      refine ⟨μ1 ++ [x], .ref M1.length :: ds, M1 ++ [.ins c []], by rw [List.length_cons, r1.len_eq]; exact hn, .cons (Rep.ref.mpr ⟨x, hx1, rfl⟩) (r1.ext ex1 (List.prefix_append _ _)), S2, ?_⟩
      cases q2 : F (.ref M1.length :: ds) (M1 ++ [.ins c []]) with
      | no => rw [q2] at hF; exact hF.elim
      | ex y gs M2 => rw [q2] at hF; exact fun μ' H' dd e p s z => hF μ' H' dd ((e1.trans ex1).trans e) ((p1.trans (List.prefix_append _ _)).trans p) s z
      | ok d M2 =>
        rw [q2] at hF
        intro μ3 v H3 e3 p3 s3 r3
        split at hF
        · rename_i M2' eq
          cases eq
          exact ⟨Rep.non.mp r3, hF μ3 (.ref x) H3 ((e1.trans ex1).trans e3) ((p1.trans (List.prefix_append _ _)).trans p3) s3 (Rep.ref.mpr ⟨x, pre_get p3 hx1, rfl⟩)⟩
        · rename_i eq
          cases eq
        · exact hF.elim
    · exact hF.elim
theorem run_makeW {C f : Addr} {fd : FuncData} {pins : List (Addr × Obj)} {σ : L2.St} {H : Hp} {s : Shared} {Q : VK} {us : List Value} {vs : List V} (Mc : Mk X.K C f) (hF : FnOk X.prog X.w X.K X.mg X.base (L2N.CX X.prog X.w) k f fd ps (spD (gm X) F ps.length)) (hr : Room (k + 1) X.A) (hb : Binds X.K fd ps [])
    (tk : L2N.Takes X W) (I : L2.Inv X pins σ H s) (r : Vals vs us) (h : makeQ X W F ps.length C σ Q vs H) : wpAny (model X.prog X.w) X.A (call (.ref C) us) (EP X pins σ Q) X.xe s := by
  have n1 := I.hok.fresh (Nat.le_refl s.heap.objs.size)
  have n2 := I.hok.fresh (Nat.le_succ s.heap.objs.size)
  have want := h _ _ n2 n1 (Nat.ne_of_lt (Nat.lt_succ_self s.heap.objs.size))
  have J := L2.Inv.made (C := C) I
  have rr : Vals (V.ref (s.heap.objs.size + 1) :: vs) (Value.ref (s.heap.objs.size + 1) :: us) := .cons rfl r
  have hn : (Value.ref (s.heap.objs.size + 1) :: us ++ []).length = ps.length := by
    have := hF.len _ _ _ _ want
    rw [List.append_nil, ← rr.length]
    exact this
  have bd := hb _ (Value.ref (s.heap.objs.size + 1) :: us) J.kIn hn
  rw [List.append_nil] at bd
  refine wpAny_call (make_map (f := f) I.kIn Mc.makes Mc.init (beq_iff_eq.mp Mc.fn) (codeAny_mono (hF.run _ X.stack _ _ ⟨Value.ref (s.heap.objs.size + 1) :: us, []⟩ _ _ _ (WE W σ) (hr.make C us []) (J.env0.make C us []) bd rr want) fun res s2 hq => ?_))
  match res, hq with
  | .error e, hq => exact L2N.passAt tk σ pins _ _ e s2 J hq
  | .ok (.ret u), hq =>
    obtain ⟨v, H2, I2, rv, ev, q2⟩ := J.after hq
    subst ev
    exact ⟨rv, V.ref (s.heap.objs.size + 1), H2, I2, rfl, q2⟩
  | .ok .next, hq => exact hq.elim
  | .ok .brk, hq => exact hq.elim
  | .ok .cont, hq => exact hq.elim
theorem i_make (Dd : Di X.prog X.w X.K X.mg X.base c ps F k) (hr : Room (k + 1) X.A) (hg : Gl X c) (tk : L2N.Takes X W) (ha : PA X (e :: es) (tA (gm X) W fs)) (hdb : (c == ("__debug__" : Str)) = false := by decide)
    (he : starEach (e :: es) X.env = (false, eval e X.env) :: starEach es X.env := by rfl) (hpl : (backTo pos (starEach es X.env)).any (·.1) = false := by rfl) : PE X (.Call (.Name c p) (e :: es) [] pos) (tE (gm X) W (rMake c ps.length F fs)) := by
  obtain ⟨C, f, fd, h1, h2, h3, h4⟩ := Dd.is_
  refine ⟨fun pins s σ H Q I h => wpAny_Call_Name_kw (ld_glob I hg h1 ?_ hdb)⟩
  exact PySem.W.callWith_K (h₀ := X.base) I.ok.mod.kin h2.kp (thn (ha.run pos pins s σ H _ I (make_in h1 h)) fun us s1 ⟨vs, H1, I1, r, q⟩ => ⟨I1.kIn, run_makeW h2 h4 hr h3 tk I1 r q⟩) he hpl
theorem i_make0 (Dd : Di X.prog X.w X.K X.mg X.base c ps F k) (hr : Room (k + 1) X.A) (hg : Gl X c) (tk : L2N.Takes X W) (hdb : (c == ("__debug__" : Str)) = false := by decide) : PE X (.Call (.Name c p) [] [] pos) (tE (gm X) W (rMake c ps.length F rNil)) := by
  obtain ⟨C, f, fd, h1, h2, h3, h4⟩ := Dd.is_
  refine ⟨fun pins s σ H Q I h => wpAny_Call_Name_kw (ld_glob I hg h1 ?_ hdb)⟩
  obtain ⟨μ, ρ, M, hE, hS, hF⟩ := make_in h1 h
  exact PySem.W.callWith_K0 I.kIn h2.kp (run_makeW (us := []) (vs := []) h2 h4 hr h3 tk I .nil (hF μ [] H (.refl _) (List.prefix_refl _) hS .nil))
end
/-! ### for k in d -/
def keyOf : L2.Key → D
  | .inl i => .p (.int i)
  | .inr x => .p (.str x)
theorem keyOf_ok {G : Gm} {μ : List Addr} {H : Hp} : ∀ k : L2.Key, Rep G μ H (keyOf k) (kV k)
  | .inl i => Rep.int.mpr rfl
  | .inr x => Rep.str.mpr rfl
def keysW : D → Store → Option (List D × Option (Nat × O))
  | .ref l, M => (match M[l]? with
    | some (.rod kvs) => some (kvs.map fun q => keyOf q.1, some (l, .rod kvs))
    | _ => none)
  | _, _ => none
def wKeys (f : RE) : RW := fun ρ M => (f ρ M).bind fun d M1 => ofW (keysW d M1) M1
theorem wk_keys {G : Gm} {a : Addr} {od : Obj} {l : Nat} {kvs : List (L2.Key × D)} {ws : List (L2.Key × V)} {μ : List Addr} {H : Hp} (h : H a = some (.frz od (.dK ws))) (hk : kvs.map (·.1) = ws.map (·.1)) :
    Wk G (Itk a od ws) (some (l, .rod kvs)) (kvs.map fun q => keyOf q.1) μ H := by
  have hl : kvs.length = ws.length := by simpa using congrArg List.length hk
  refine ⟨fun _ H => H a = some (.frz od (.dK ws)), fun _ _ _ _ e _ z => e.fz _ _ _ z, ?_, ?_, ?_, h⟩
  · intro i μ H M hi _ z _
    rw [List.length_map] at hi
    exact ⟨z, by omega⟩
  · intro μ H M _ z _
    rw [List.length_map]
    exact ⟨z, by omega⟩
  · rintro i μ H M w H' hi S z _ ⟨rfl, k, v, e1, rfl⟩
    refine ⟨keyOf k, ?_, .refl _, S, keyOf_ok k⟩
    have e2 := congrArg (fun z => z[i]?) hk
    simp only [List.getElem?_map, e1, Option.map_some] at e2
    rw [List.getElem?_map]
    cases q : kvs[i]? with
    | none => rw [q] at e2; cases e2
    | some p =>
      rw [q] at e2
      have e3 : p.1 = k := Option.some.inj e2
      rw [Option.map_some, e3]
section
variable {X : Cx} {W : WX} {e tg : Expr} {fe : RE} {g : RG} {body : RS} {sb : List Stmt} {pos : Pos}
theorem wi_keys (he : PE X e (tE (gm X) W fe)) : PI X tg e (tW (gm X) W (wKeys fe)) :=
  PIimp (pi_keys he) fun σ H R h => by
    refine (tX.bind (f := fe) (g := fun d ρ M1 => ofW (keysW d M1) M1) (rel := Rep (gm X)) h).mono fun v H1 ⟨μ, ρ, M, d, hE, hS, rd, hF⟩ => ?_
    have hF : Fin (gm X) _ W μ σ H1 R (ofW (keysW d M) M) := hF
    cases q : keysW d M with
    | none => rw [q] at hF; exact hF.elim
    | some p =>
      obtain ⟨xs, k⟩ := p
      rw [q] at hF
      unfold keysW at q
      split at q
      · rename_i l
        obtain ⟨a, ha, e1⟩ := Rep.ref.mp rd
        split at q
        · rename_i kvs e2
          cases q
          obtain ⟨od, ws, z1, z2⟩ := hS.obj _ a _ ha e2
          exact ⟨a, od, e1, .inl ⟨ws, z1, hF μ _ H1 (.refl _) (List.prefix_refl _) hS (wk_keys z1 z2.keys)⟩⟩
        · cases q
      · cases q
def unlS (l : Nat) (kvs : List (L2.Key × D)) (M : Store) (f : Store → Out) : Out := match M[l]? with
  | some (.rod _) => f (M.set l (.dk kvs))
  | _ => .no
def unlO (l : Nat) (kvs : List (L2.Key × D)) : Out → Out
  | .nx ρ M => unlS l kvs M fun M' => .nx ρ M'
  | .rt d M => unlS l kvs M fun M' => .rt d M'
  | .bk ρ M => unlS l kvs M fun M' => .bk ρ M'
  | .ct ρ M => unlS l kvs M fun M' => .ct ρ M'
  | _ => .no
open Classical in
/-- for k in d: the dict stays while it is walked -/
noncomputable def rForD (fe : RE) (g : RG) (body : RS) : RS := fun ρ M => match fe ρ M with
  | .ok (.ref l) M1 => if M1 = M then (match M[l]? with
    | some (.dk kvs) => unlO l kvs (rForW (wKeys fe) g body ρ (M.set l (.rod kvs)))
    | _ => .no) else .no
  | _ => .no
theorem SR.unlock {G : Gm} {μ : List Addr} {H : Hp} {M : Store} {l : Nat} {a : Addr} {kvs kvs0 : List (L2.Key × D)} {ws : List (L2.Key × V)} {od : Obj} (S : SR G μ H M) (h : μ[l]? = some a) (h0 : M[l]? = some (.rod kvs0)) (hh : H a = some (.frz od (.dK ws))) (r : FsRep G μ (upd H a (.dK ws)) kvs ws) :
    SR G μ (upd H a (.dK ws)) (M.set l (.dk kvs)) :=
  S.putW h h0 rfl rfl (fun ob xs z => by rw [hh] at z; cases z) (.unlock hh rfl) ⟨ws, upd_same, r⟩
theorem s_forD (hp : PassesOwn (model X.prog X.w) X.A X.env X.xe) (hc : X.calm = true) (he : PE X e (tE (gm X) W fe)) (hg : PG X tg (tG (gm X) g)) (hb : PSs X sb (tS (gm X) W body))
    (hs : ∀ x, foldedSetIterable e X.env x = pure x := by intro _; rfl) : PS X (.For tg e sb [] pos) (tS (gm X) W (rForD fe g body)) :=
  PSimp (ps_lock (s_forW hp hc (wi_keys he) hg hb hs)) fun D σ H h => by
    obtain ⟨μ, ρ, M, hE, hS, hF⟩ := h
    unfold rForD at hF
    cases q : fe ρ M with
    | no => rw [q] at hF; exact hF.elim
    | ex c fs M1 => rw [q] at hF; exact hF.elim
    | ok d M1 =>
      rw [q] at hF
      split at hF
      · rename_i l M1' eq
        cases eq
        split at hF
        · split at hF
          · rename_i kvs el
            obtain ⟨a, ha, ho⟩ := hS.adr el
            obtain ⟨ws, h2, h3⟩ := ho
            refine ⟨a, .dK ws, h2, True.intro, fun od => ?_⟩
            have ex := Ext.dk (o := .frz od (.dK ws)) h2
            have S2 : SR (gm X) μ (upd H a (.frz od (.dK ws))) (M.set l (.rod kvs)) := hS.put ha el rfl rfl (fun ob xs z => by rw [h2] at z; cases z) ex ⟨od, ws, upd_same, h3.ext ex (List.prefix_refl _)⟩
            refine ⟨μ, ρ, _, hE.ext ex (List.prefix_refl _), S2, ?_⟩
            have back : ∀ {H' : Hp}, Ext (upd H a (.frz od (.dK ws))) H' → Ext H (upd H' a (.dK ws)) := fun e => Ext.over h2 (fun _ z => by cases z) (fun _ _ z => by cases z) (fun _ z => by cases z) (fun _ z => by cases z) e
            have stay : ∀ {H' : Hp}, Ext (upd H a (.frz od (.dK ws))) H' → H' a = some (.frz od (.dK ws)) := fun e => e.fz _ _ _ upd_same
            have fin : ∀ (M' : Store) (f : Store → Out), FinS (gm X) W D μ H (unlS l kvs M' f) → ∃ kvs0, M'[l]? = some (.rod kvs0) ∧ FinS (gm X) W D μ H (f (M'.set l (.dk kvs))) := fun M' f z => by
              unfold unlS at z
              split at z
              · rename_i k0 e0; exact ⟨k0, e0, z⟩
              · exact z.elim
            cases q2 : rForW (wKeys fe) g body ρ (M.set l (.rod kvs)) with
            | no => rw [q2] at hF; exact hF.elim
            | ex c fs ρ1 M2 => rw [q2] at hF; exact hF.elim
            | nx ρ1 M2 =>
              rw [q2] at hF
              obtain ⟨k0, e0, z⟩ := fin _ _ hF
              intro μ' σ' H' e p hE' hS'
              exact ⟨stay e, z μ' σ' _ (back e) p (hE'.extW (.unlock (stay e) rfl) (List.prefix_refl _)) (hS'.unlock (pre_get p ha) e0 (stay e) (h3.ext (back e) p))⟩
            | rt d M2 =>
              rw [q2] at hF
              obtain ⟨k0, e0, z⟩ := fin _ _ hF
              intro μ' v H' e p hS' r
              exact ⟨stay e, z μ' v _ (back e) p (hS'.unlock (pre_get p ha) e0 (stay e) (h3.ext (back e) p)) (r.extW (.unlock (stay e) rfl) (List.prefix_refl _))⟩
            | bk ρ1 M2 =>
              rw [q2] at hF
              obtain ⟨k0, e0, z⟩ := fin _ _ hF
              intro μ' σ' H' e p hE' hS'
              exact ⟨stay e, z μ' σ' _ (back e) p (hE'.extW (.unlock (stay e) rfl) (List.prefix_refl _)) (hS'.unlock (pre_get p ha) e0 (stay e) (h3.ext (back e) p))⟩
            | ct ρ1 M2 =>
              rw [q2] at hF
              obtain ⟨k0, e0, z⟩ := fin _ _ hF
              intro μ' σ' H' e p hE' hS'
              exact ⟨stay e, z μ' σ' _ (back e) p (hE'.extW (.unlock (stay e) rfl) (List.prefix_refl _)) (hS'.unlock (pre_get p ha) e0 (stay e) (h3.ext (back e) p))⟩
          · exact hF.elim
        · exact hF.elim
      · exact hF.elim
end
theorem hu_1 {A : Around} {k : Nat} (r : Room k A) : A.units + 1 < cLine := by have := hu_r r; omega
/-! ### len(d), max(xs), min(xs) -/
theorem o_lenDk {X : Cx} : CallR X (.builtin "len") (fun xs H Q => ∃ a kvs, xs = [.ref a] ∧ Rd H a (.dK kvs) ∧ Q (.int (kvs.length : Int)) H) := by
  intro pins s σ H xs us Q I r ⟨a, kvs, e, hd, q⟩
  subst e
  have eu := Vals.ref1 r
  subst eu
  exact L2.d_len I hd fun t s' J => ⟨.int kvs.length, H, J, ⟨t, rfl⟩, q⟩
def maxI (ns : List Int) : Int := ns.foldl max (ns.headD 0)
def minI (ns : List Int) : Int := ns.foldl min (ns.headD 0)
theorem foldl_max (ns : List Int) : ∀ m : Int, m ≤ ns.foldl max m ∧ (∀ y ∈ ns, y ≤ ns.foldl max m) ∧ (ns.foldl max m = m ∨ ns.foldl max m ∈ ns) := by
  induction ns with
  | nil => exact fun m => ⟨Int.le_refl _, by simp, by simp⟩
  | cons x ns ih =>
    intro m
    obtain ⟨h1, h2, h3⟩ := ih (max m x)
    refine ⟨by show m ≤ ns.foldl max (max m x); omega, fun y hy => ?_, ?_⟩
    · show y ≤ ns.foldl max (max m x)
      rcases List.mem_cons.mp hy with rfl | hy
      · omega
      · exact h2 y hy
    · show ns.foldl max (max m x) = m ∨ ns.foldl max (max m x) ∈ x :: ns
      rcases h3 with h3 | h3
      · rw [h3]
        by_cases c : x ≤ m
        · left; omega
        · right; rw [show max m x = x by omega]; exact List.mem_cons_self
      · right; exact List.mem_cons_of_mem _ h3
theorem foldl_min (ns : List Int) : ∀ m : Int, ns.foldl min m ≤ m ∧ (∀ y ∈ ns, ns.foldl min m ≤ y) ∧ (ns.foldl min m = m ∨ ns.foldl min m ∈ ns) := by
  induction ns with
  | nil => exact fun m => ⟨Int.le_refl _, by simp, by simp⟩
  | cons x ns ih =>
    intro m
    obtain ⟨h1, h2, h3⟩ := ih (min m x)
    refine ⟨by show ns.foldl min (min m x) ≤ m; omega, fun y hy => ?_, ?_⟩
    · show ns.foldl min (min m x) ≤ y
      rcases List.mem_cons.mp hy with rfl | hy
      · omega
      · exact h2 y hy
    · show ns.foldl min (min m x) = m ∨ ns.foldl min (min m x) ∈ x :: ns
      rcases h3 with h3 | h3
      · rw [h3]
        by_cases c : m ≤ x
        · left; omega
        · right; rw [show min m x = x by omega]; exact List.mem_cons_self
      · right; exact List.mem_cons_of_mem _ h3
theorem maxI_mem {ns : List Int} (h : 0 < ns.length) : maxI ns ∈ ns ∧ ∀ y ∈ ns, y ≤ maxI ns := by
  cases ns with
  | nil => simp at h
  | cons x ns =>
    obtain ⟨h1, h2, h3⟩ := foldl_max (x :: ns) x
    exact ⟨h3.elim (fun e => by unfold maxI; rw [List.headD_cons, e]; exact List.mem_cons_self) fun e => e, h2⟩
theorem minI_mem {ns : List Int} (h : 0 < ns.length) : minI ns ∈ ns ∧ ∀ y ∈ ns, minI ns ≤ y := by
  cases ns with
  | nil => simp at h
  | cons x ns =>
    obtain ⟨h1, h2, h3⟩ := foldl_min (x :: ns) x
    exact ⟨h3.elim (fun e => by unfold minI; rw [List.headD_cons, e]; exact List.mem_cons_self) fun e => e, h2⟩
def cMaxL : List D → Store → Option (D × Store)
  | [.ref l], M => (match M[l]? with
    | some (.lst xs) => (intsOf xs).bind fun ns => if 0 < ns.length then some (.p (.int (maxI ns)), M) else none
    | _ => none)
  | _, _ => none
def cMinL : List D → Store → Option (D × Store)
  | [.ref l], M => (match M[l]? with
    | some (.lst xs) => (intsOf xs).bind fun ns => if 0 < ns.length then some (.p (.int (minI ns)), M) else none
    | _ => none)
  | _, _ => none
theorem d_maxL {G : Gm} : CallD G cMaxL (rMax G.K) := by
  intro μ H M xs vs Q d M' S r q k
  unfold cMaxL at q
  split at q
  · rename_i l
    split at q
    · rename_i ys e
      cases q1 : intsOf ys with
      | none => rw [q1] at q; cases q
      | some ns =>
        rw [q1, Option.bind_some] at q
        split at q
        · rename_i hn
          cases q
          obtain ⟨v, rfl, r1⟩ := r.inv1
          obtain ⟨a, h1, rfl⟩ := Rep.ref.mp r1
          obtain ⟨ws, h2, h3⟩ := S.obj _ a _ h1 e
          rw [intsOf_eq q1] at h3
          obtain ⟨m1, m2⟩ := maxI_mem hn
          refine ⟨a, ns, rfl, by rw [← Reps.ints h3]; exact SqL.of h2, hn, fun m hm hle => k μ _ H (.refl _) (List.prefix_refl _) S (Rep.int.mpr ?_)⟩
          rw [Int.le_antisymm (m2 m hm) (hle _ m1)]
        · cases q
    · cases q
  · cases q
theorem d_minL {G : Gm} : CallD G cMinL (rMin G.K) := by
  intro μ H M xs vs Q d M' S r q k
  unfold cMinL at q
  split at q
  · rename_i l
    split at q
    · rename_i ys e
      cases q1 : intsOf ys with
      | none => rw [q1] at q; cases q
      | some ns =>
        rw [q1, Option.bind_some] at q
        split at q
        · rename_i hn
          cases q
          obtain ⟨v, rfl, r1⟩ := r.inv1
          obtain ⟨a, h1, rfl⟩ := Rep.ref.mp r1
          obtain ⟨ws, h2, h3⟩ := S.obj _ a _ h1 e
          rw [intsOf_eq q1] at h3
          obtain ⟨m1, m2⟩ := minI_mem hn
          refine ⟨a, ns, rfl, by rw [← Reps.ints h3]; exact SqL.of h2, hn, fun m hm hle => k μ _ H (.refl _) (List.prefix_refl _) S (Rep.int.mpr ?_)⟩
          rw [Int.le_antisymm (hle _ m1) (m2 m hm)]
        · cases q
    · cases q
  · cases q
end Fl

set_option Elab.async false
set_option linter.all false
set_option maxRecDepth 100000
/-! Fl, part Q: the readings of part O and P by simp; sets of ints kept in dicts. -/
namespace Fl
open PySem PySem.Spec L2
set_option autoImplicit false
def ptK (o : Option Store) (f : Store → Out) : Out := match o with
  | some M => f M
  | none => .no
@[simp] theorem ptK_some (M : Store) (f : Store → Out) : ptK (some M) f = f M := (rfl)
section
variable (ρ : Env) (M : Store)
@[simp] theorem e_dict0 : rDict0 ρ M = .ok (.ref M.length) (M ++ [.dk []]) := (rfl)
@[simp] theorem e_disp1 (i : Int) (d : D) : rDisp [(rC (.p (.int i)), rC d)] ρ M = .ok (.ref M.length) (M ++ [.dk [(.inl i, d)]]) := by
  unfold rDisp
  simp [rPs, keyD, mergeD, putD]
@[simp] theorem e_dput (fo fi fv) : rDPut fo fi fv ρ M = (fv ρ M).out ρ fun v M1 => (fo ρ M1).out ρ fun x M2 => (fi ρ M2).out ρ fun y M3 => ptK (putM x y v M3) fun M4 => .nx ρ M4 := by
  unfold rDPut ptK
  rfl
@[simp] theorem e_setF (c f fo fv) : rSetF c f fo fv ρ M = (fv ρ M).out ρ fun v M1 => (fo ρ M1).out ρ fun x M2 => ptK (setF c f x v M2) fun M3 => .nx ρ M3 := by
  unfold rSetF ptK
  rfl
@[simp] theorem e_meth (c m n F fo fs) : rMeth c m n F fo fs ρ M = (fo ρ M).bind fun x M1 => if insC c m x M1 = true then (fs ρ M1).bind fun ds M2 => if ds.length + 1 = n then F (x :: ds) M2 else .no else .no := by
  unfold rMeth
  congr 1
  funext x M1
  cases insC c m x M1 <;> rfl
def mkK (l : Nat) (r : R D) : R D := match r with
  | .ok (.p .non) M2 => .ok (.ref l) M2
  | .ex x gs M2 => .ex x gs M2
  | _ => .no
@[simp] theorem mkK_ok (l : Nat) (M2 : Store) : mkK l (.ok (.p .non) M2) = .ok (.ref l) M2 := (rfl)
@[simp] theorem e_make (c n F fs) : rMake c n F fs ρ M = (fs ρ M).bind fun ds M1 => if ds.length + 1 = n then mkK M1.length (F (.ref M1.length :: ds) (M1 ++ [.ins c []])) else .no := by
  unfold rMake mkK
  rfl
@[simp] theorem e_dead : rDead ρ M = .no := (rfl)
end
theorem v_fld {c f : Str} {l : Nat} {fs : List (Str × D)} {d : D} {M : Store} (h : M[l]? = some (.ins c fs)) (hf : fs.lookup f = some d) : dFld c f (.ref l) M = some (d, M) := by
  simp [dFld, h, hf]
theorem v_setF {c f : Str} {l : Nat} {fs : List (Str × D)} {d : D} {M : Store} (h : M[l]? = some (.ins c fs)) (hl : fs.length < 1000) : setF c f (.ref l) d M = some (M.set l (.ins c (putFD f d fs))) := by
  simp [setF, h, hl]
theorem v_insC {c m : Str} {l : Nat} {fs : List (Str × D)} {M : Store} (h : M[l]? = some (.ins c fs)) (hm : fs.lookup m = none) : insC c m (.ref l) M = true := by
  simp [insC, h, hm]
theorem v_put {l : Nat} {i : Int} {kvs : List (L2.Key × D)} {d : D} {M : Store} (h : M[l]? = some (.dk kvs)) (hl : kvs.length < 100000) : putM (.ref l) (.p (.int i)) d M = some (M.set l (.dk (putD kvs (.inl i) d))) := by
  simp [putM, h, hl, keyD]
theorem v_dget {l : Nat} {i : Int} {kvs : List (L2.Key × D)} {d : D} {M : Store} (h : M[l]? = some (.dk kvs)) (hv : valD kvs (.inl i) = some d) : dGet (.ref l) (.p (.int i)) M = some (d, M) := by
  simp [dGet, dictD, h, keyD, hv]
theorem v_din {l : Nat} {i : Int} {kvs : List (L2.Key × D)} {M : Store} (h : M[l]? = some (.dk kvs)) : dInD (.p (.int i)) (.ref l) M = some (.p (.bl (valD kvs (.inl i)).isSome), M) := by
  simp [dInD, dictD, h, keyD]
theorem v_dnotin {l : Nat} {i : Int} {kvs : List (L2.Key × D)} {M : Store} (h : M[l]? = some (.dk kvs)) : dNotInD (.p (.int i)) (.ref l) M = some (.p (.bl (!(valD kvs (.inl i)).isSome)), M) := by
  simp [dNotInD, dictD, h, keyD]
/-! ### a set of ints: a dict whose values are True -/
def insI (ks : List Int) (i : Int) : List Int := if i ∈ ks then ks else ks ++ [i]
def setK (ks : List Int) : List (L2.Key × D) := ks.map fun i => (.inl i, .p (.bl true))
theorem any_setK (ks : List Int) (i : Int) : ((setK ks).any fun q => decide (q.1 = (Sum.inl i : L2.Key))) = decide (i ∈ ks) := by
  induction ks with
  | nil => rfl
  | cons k ks ih =>
    rw [show setK (k :: ks) = (.inl k, .p (.bl true)) :: setK ks from rfl, List.any_cons, ih, Bool.eq_iff_iff]
    simp only [Sum.inl.injEq, Bool.or_eq_true, decide_eq_true_eq, List.mem_cons]
    exact or_congr eq_comm Iff.rfl
theorem put_setK (ks : List Int) (i : Int) : putD (setK ks) (.inl i) (.p (.bl true)) = setK (insI ks i) := by
  unfold putD insI
  rw [any_setK]
  by_cases h : i ∈ ks
  · simp only [h, decide_true, if_true]
    unfold setK
    rw [List.map_map]
    apply List.map_congr_left
    intro k _
    simp only [Function.comp_apply]
    split <;> rfl
  · simp [h, setK]
theorem val_setK (ks : List Int) (i : Int) : valD (setK ks) (.inl i) = if i ∈ ks then some (.p (.bl true)) else none := by
  induction ks with
  | nil => rfl
  | cons k ks ih =>
    rw [show setK (k :: ks) = (.inl k, .p (.bl true)) :: setK ks from rfl, valD_cons, ih]
    by_cases h : k = i
    · simp [h]
    · have h2 : i ≠ k := fun z => h z.symm
      simp [h, h2]
theorem keys_setK (ks : List Int) : keysI (setK ks) = some ks := by
  induction ks with
  | nil => rfl
  | cons k ks ih =>
    rw [show setK (k :: ks) = (.inl k, .p (.bl true)) :: setK ks from rfl]
    unfold keysI
    rw [ih]
    rfl
theorem len_setK (ks : List Int) : (setK ks).length = ks.length := by simp [setK]
theorem len_insI (ks : List Int) (i : Int) : (insI ks i).length ≤ ks.length + 1 := by
  unfold insI
  split <;> simp
theorem mem_insI (ks : List Int) (i j : Int) : j ∈ insI ks i ↔ j ∈ ks ∨ j = i := by
  unfold insI
  split
  · rename_i h
    exact ⟨.inl, fun z => z.elim id fun e => by rw [e]; exact h⟩
  · simp
theorem nodup_insI {ks : List Int} (h : ks.Nodup) (i : Int) : (insI ks i).Nodup := by
  unfold insI
  split
  · exact h
  · rename_i n
    rw [List.nodup_append]
    exact ⟨h, by simp, fun a ha b hb e => by
      rw [List.mem_singleton] at hb
      subst hb e
      exact n ha⟩
theorem v_sorted_d {l : Nat} {ks : List Int} {M : Store} (h : M[l]? = some (.dk (setK ks))) : cSorted [.ref l] M = some (.ref M.length, M ++ [.lst ((srtI ks).map fun i => .p (.int i))]) := by
  simp [cSorted, sortD, h, keys_setK]
theorem v_sorted_l {l : Nat} {ks : List Int} {M : Store} (h : M[l]? = some (.lst (ks.map fun i => .p (.int i)))) : cSorted [.ref l] M = some (.ref M.length, M ++ [.lst ((srtI ks).map fun i => .p (.int i))]) := by
  simp [cSorted, sortD, h, intsOf_map]
/-- ints that are all unlike stand rising -/
theorem srtI_lt {ks : List Int} (h : ks.Nodup) : (srtI ks).Pairwise (· < ·) := by
  have h1 := srtI_le ks
  have h2 : (srtI ks).Nodup := (srtI_perm ks).nodup_iff.mpr h
  exact (h1.and h2).imp fun ⟨a, b⟩ => by omega
/-- a comprehension whose turns may make new things -/
theorem lc_inv {k : Option (Nat × O)} {g : RG} {te : RE} {ρ : Env} {l : Nat} (xs : List D) (I : Nat → List D → Store → Prop) (hc : ∀ i acc M, I i acc M → M[l]? = some (.lst acc) → chk k M)
    (h : ∀ i x acc M, xs[i]? = some x → acc.length = i → I i acc M → M[l]? = some (.lst acc) → ∃ ρ1 y M', g x ρ M = some (ρ1, M) ∧ te ρ1 M = .ok y M' ∧ M'[l]? = some (.lst acc) ∧ I (i + 1) (acc ++ [y]) (M'.set l (.lst (acc ++ [y]))))
    (hl : xs.length ≤ 1000000) {M : Store} (h0 : I 0 [] M) (hM : M[l]? = some (.lst [])) :
    ∃ M' ys, lcL l k g rYes te ρ xs M = .ok (.ref l) M' ∧ ys.length = xs.length ∧ M'[l]? = some (.lst ys) ∧ I xs.length ys M' := by
  have go : ∀ (n i : Nat) (acc : List D) (M : Store), n = xs.length - i → i ≤ xs.length → acc.length = i → I i acc M → M[l]? = some (.lst acc) → ∃ M' ys, lcL l k g rYes te ρ (xs.drop i) M = .ok (.ref l) M' ∧ ys.length = xs.length ∧ M'[l]? = some (.lst ys) ∧ I xs.length ys M' := by
    intro n
    induction n with
    | zero =>
      intro i acc M hn hi ha hI hM
      have e : i = xs.length := by omega
      subst e
      refine ⟨M, acc, ?_, ha, hM, hI⟩
      rw [List.drop_length]
      unfold lcL
      rw [if_pos (hc _ _ _ hI hM)]
    | succ n ih =>
      intro i acc M hn hi ha hI hM
      have hlt : i < xs.length := by omega
      obtain ⟨ρ1, y, M', e1, e2, e3, e4⟩ := h i xs[i] acc M (List.getElem?_eq_getElem hlt) ha hI hM
      have hlt2 : acc.length < sizeLine := by rw [sizeLine_eq]; omega
      have hget : (M'.set l (.lst (acc ++ [y])))[l]? = some (.lst (acc ++ [y])) := List.getElem?_set_self (List.getElem?_eq_some_iff.mp e3).1
      obtain ⟨M2, ys, f1, f2, f3, f4⟩ := ih (i + 1) (acc ++ [y]) _ (by omega) (by omega) (by simp [ha]) e4 hget
      refine ⟨M2, ys, ?_, f2, f3, f4⟩
      rw [List.drop_eq_getElem_cons hlt]
      unfold lcL
      rw [if_pos (hc _ _ _ hI hM), e1]
      simp only [rYes, e2, e3, hlt2, if_true]
      exact f1
  exact go _ 0 [] M rfl (Nat.zero_le _) rfl h0 hM
/-- a loop that returns at the first item of a kind; the store stays -/
theorem forL_first {α : Type} {k : Option (Nat × O)} {g : RG} {body : RS} (f : α → D) (p : α → Bool) (d : α → D) (J : Env → Prop) (M : Store) (hc : chk k M) : ∀ (L : List α),
    (∀ x ∈ L, ∀ ρ, J ρ → ∃ ρ1, g (f x) ρ M = some (ρ1, M) ∧ (p x = false → ∃ ρ2, (body ρ1 M = .nx ρ2 M ∨ body ρ1 M = .ct ρ2 M) ∧ J ρ2) ∧ (p x = true → body ρ1 M = .rt (d x) M)) →
    ∀ ρ, J ρ → (L.find? p = none → ∃ ρ', J ρ' ∧ forL k g body (L.map f) ρ M = .nx ρ' M) ∧ (∀ x, L.find? p = some x → forL k g body (L.map f) ρ M = .rt (d x) M)
  | [], h, ρ, hJ => by
    refine ⟨fun _ => ⟨ρ, hJ, ?_⟩, fun x z => by simp at z⟩
    show forL k g body [] ρ M = _
    unfold forL
    exact if_pos hc
  | x :: L, h, ρ, hJ => by
    obtain ⟨ρ1, h1, h2, h3⟩ := h x List.mem_cons_self ρ hJ
    have e : forL k g body ((x :: L).map f) ρ M = (match body ρ1 M with
        | .nx ρ2 M2 => forL k g body (L.map f) ρ2 M2
        | .ct ρ2 M2 => forL k g body (L.map f) ρ2 M2
        | .bk ρ2 M2 => .nx ρ2 M2
        | o => o) := by
      rw [List.map_cons]
      conv => lhs; unfold forL
      rw [if_pos hc, h1]
      all_goals (try dsimp only)
      all_goals (cases body ρ1 M <;> rfl)
    rw [e, List.find?_cons]
    cases q : p x with
    | true =>
      rw [h3 q]
      exact ⟨fun z => by simp at z, fun y z => by cases z; rfl⟩
    | false =>
      obtain ⟨ρ2, h4, h5⟩ := h2 q
      have ih := forL_first f p d J M hc L (fun y hy => h y (List.mem_cons_of_mem _ hy)) ρ2 h5
      rcases h4 with h4 | h4
      · rw [h4]; exact ih
      · rw [h4]; exact ih
end Fl

set_option Elab.async false
set_option linter.all false
set_option maxRecDepth 100000
/-! Fl, part Tm: a tuple times an int. -/
namespace Fl
open PySem PySem.Spec L2 PyProof.Rows
set_option autoImplicit false
theorem tuple_mul1 (l : Addr) (items : Array Value) (n : Nat) (sl : Array (Option Value)) (dd : Option Addr) (u : Tok) :
    Meets (Builtin.«tuple.__mul__» ⟨[.ref l, .int 1 u], []⟩) (fun _ R s => s.heap.get? l = some { cls := .type "tuple", dict := dd, data := .seq items n, slots := sl } ∧ R (.ok (.ret (Value.ref l))) s) :=
  .of_wp fun prog w A R s h => by
    obtain ⟨hp, g, d, tk, os⟩ := s
    obtain ⟨hl, h⟩ := h
    have f1 := AutoSeq1.idx_int
    have c0 : (decide ((1 : Int) < -(2 ^ 63)) || decide ((1 : Int) ≥ 2 ^ 63)) = false := by decide
    have c1 : (items.isEmpty || (1 : Int) == 1) = true := by simp
    wp_walk using wpAny_loadPart' hl
    repeat (first
      | (refine wpAny_ite_false (decide_eq_false (by rw [c0]; exact Bool.false_ne_true)) ?_; wp_walk using wpAny_loadPart' hl)
      | (refine wpAny_ite_true (decide_eq_true (by rw [c1])) ?_; wp_walk using wpAny_loadPart' hl))
    exact ⟨_, rfl, h⟩
def rRep1 (K : PySem.W.Frag) : R2 := fun x y H Q => ∃ l xs, x = .ref l ∧ y = .int 1 ∧ SqT K H l xs ∧ Q (.ref l) H
theorem op_rep1 {X : Cx} : OpR X (binaryOp .Mult) (rRep1 X.K) := by
  intro pins s σ H x y v u Q I rx ry h
  obtain ⟨l, xs, rfl, rfl, hT, q⟩ := h
  cases rx
  obtain ⟨t, rfl⟩ := ry
  obtain ⟨its, r, ⟨⟨cls, dd, data, sl⟩, ho, hc, n, hd⟩, hs⟩ := I.tuple hT
  simp only at hc hd
  subst hc hd
  exact wpAny_binaryOp_repeat_ref (T := "tuple") (U := "int") (by decide) ⟨_, ho, rfl⟩ (fun s' => typeIs_int s' 1 t) noFill_tuple_mul F.fills_int_mul F.slot_int_rmul repeat_tuple F.slot_int_index.lookup
    (call_meets F.slot_int_rmul (typeIs_int s 1 t) F.entry_int_rmul (F.args_int_rmul_2 _ _) (int_rmul_tuple 1 t l its.toArray n dd sl)
      ⟨ho, rfl, ⟨_, ho, rfl⟩, call_meets F.slot_tuple_mul ⟨_, ho, rfl⟩ F.entry_tuple_mul (F.args_tuple_mul_2 _ _) (tuple_mul1 l its.toArray n sl dd t) ⟨ho, ⟨.ref l, H, I, rfl, q⟩⟩⟩)
open Classical in
noncomputable def dMulT : D → D → Store → Option (D × Store)
  | .p (.tup xs), .p (.int k), M => if xs ≠ [] ∧ 1 ≤ k ∧ k ≤ 1000 ∧ xs.length ≤ 1000 then some (.p (.tup (List.replicate k.toNat xs).flatten), M) else none
  | _, _, _ => none
theorem o_mulT {X : Cx} : OpR X (binaryOp .Mult) (fun x y H Q => rRep1 X.K x y H Q ∨ rRepT X.K x y H Q) := op_rep1.or op_repT
theorem RepPs.app {K : PySem.W.Frag} {H : Hp} : ∀ {xs ys : List P} {vs ws : List V}, RepPs K H xs vs → RepPs K H ys ws → RepPs K H (xs ++ ys) (vs ++ ws)
  | [], ys, vs, ws, h, h2 => by
    simp only [RepPs] at h
    subst h
    exact h2
  | x :: xs, ys, vs, ws, h, h2 => by
    simp only [RepPs] at h
    obtain ⟨v, r, rfl, h1, h3⟩ := h
    simp only [List.cons_append, RepPs]
    exact ⟨v, r ++ ws, rfl, h1, RepPs.app h3 h2⟩
theorem RepPs.rep {K : PySem.W.Frag} {H : Hp} {xs : List P} {vs : List V} (r : RepPs K H xs vs) : ∀ n : Nat, RepPs K H (List.replicate n xs).flatten (List.replicate n vs).flatten
  | 0 => by first | exact .nil | trivial | simp [RepPs]
  | n + 1 => by
    rw [List.replicate_succ, List.replicate_succ, List.flatten_cons, List.flatten_cons]
    exact r.app (RepPs.rep r n)
theorem d_mulT {G : Gm} : OpD G dMulT (fun x y H Q => rRep1 G.K x y H Q ∨ rRepT G.K x y H Q) := by
  intro μ H M x y v u Q d M' S rx ry q k
  unfold dMulT at q
  split at q
  · rename_i xs j
    split at q
    · rename_i h
      cases q
      rw [Rep.int] at ry
      subst ry
      obtain ⟨a, vs, rfl, h1, h2⟩ := Rep.ptup.mp rx
      have hl : vs.length = xs.length := by
        first
        | exact h2.length
        | exact h2.length.symm
      by_cases c : j = 1
      · subst c
        refine .inl ⟨a, vs, rfl, rfl, h1, ?_⟩
        have e : (List.replicate (1 : Int).toNat xs).flatten = xs := by simp
        rw [e] at k
        exact k μ _ H (.refl H) (List.prefix_refl _) S rx
      · refine .inr ⟨a, j, vs, rfl, rfl, h1, fun z => ?_, by omega, h.2.2.1, by rw [hl]; exact h.2.2.2, fun p hp => ?_⟩
        · rw [z] at hl
          exact h.1 (List.eq_nil_of_length_eq_zero hl.symm)
        · exact k μ _ _ (.new hp) (List.prefix_refl _) (S.grow hp) (Rep.ptup.mpr ⟨p, _, rfl, SqT.of upd_same, (RepPs.rep h2 _).ext (.new hp)⟩)
    · cases q
  · cases q
end Fl

set_option Elab.async false
set_option linter.all false
set_option maxRecDepth 100000
/-! Fl, part Xf: errors with fields of their own: raised, held, read. -/
namespace Fl
open PySem PySem.Spec L2 PyProof.Rows
set_option autoImplicit false
def unFs (gs : List (Str × D)) : List (Str × P) := gs.map fun q => (q.1, unP q.2)
theorem unFs_map (gs : List (Str × D)) : (unFs gs).map (fun q => (q.1, flV q.2)) = gs.map fun q => (q.1, flD q.2) := by
  unfold unFs
  rw [List.map_map]
  exact List.map_congr_left fun q _ => by simp [flV_un]
def onFs (fs : Option (List (Str × D))) (f : List (Str × P) → Out) : Out := match fs with
  | some gs => f (unFs gs)
  | none => .no
@[simp] theorem onFs_some (gs : List (Str × D)) (f : List (Str × P) → Out) : onFs (some gs) f = f (unFs gs) := (rfl)
/-- the suite reads the class and the fields -/
def rTryAsF (exs : List (Str × Bool)) (i : Nat) (body : RS) (suite : Nat → Nat → Str → RS) : RS := fun ρ M => match body ρ M with
  | .ex c fs ρ1 M1 => (match exs.lookup c with
    | some true => onFs fs fun gs => setI i (suite 0 0 c (ρ1.set i (some (.exf 0 0 gs))) M1)
    | some false => .ex c fs ρ1 M1
    | none => .no)
  | o => o
section
variable {X : Cx} {Wout : WX} {pos : Pos}
theorem tk_none {Y : Cx} : L2N.Takes Y (fun _ _ _ _ => False) := fun u s' h => by
  obtain ⟨_, _, _, _, _, _, _, _, _, _, _, _, _, _, _, _, z⟩ := h
  exact z.elim
theorem s_tryAsF {x n : Str} {xc : Value} {exs : List (Str × Bool)} {i : Nat} {body : RS} {suite : Nat → Nat → Str → RS} {sb sc : List Stmt} {b0 : Stmt} {np pos' : Pos} (hs : X.stack = X.env :: X.outer) (hf : X.env.frame = some X.env.locals)
    (hN : X.N.Nodup) (hi : X.N[i]? = some n) (hln : X.env.kindOf n = some .local) (hc : Names X x xc) (tk : L2N.Takes X Wout)
    (hx : ∀ q ∈ exs, PySem.W.exmOne X.K (cval (gm X) q.1) xc = some q.2)
    (hb : ∀ (W : WX) (pn : List (Addr × Obj)) (xe : Value → Shared → Prop), L2N.Takes (X.tr pn xe) W → PassesOwn (model X.prog X.w) X.A X.env xe → PSs (X.tr pn xe) sb (tS (gm X) W body))
    (hsu : ∀ (a : Addr) (oe : Obj) (c : Str) (dd : Addr) (pn : List (Addr × Obj)), (c, true) ∈ exs → L2N.Zn (cval (gm X) c) (some dd) oe → (∃ vs, oe.data = .fields vs) → PSs (X.suite a ((a, oe) :: pn)) (b0 :: sc) (tS (gm X) (fun _ _ _ _ => False) (suite a dd c)))
    (hind : ∀ (a dd : Nat) (gs : List (Str × P)) (c : Str) (ρ : Fl.Env) (M : Store), (c, true) ∈ exs → ρ.length = X.N.length → setI i (suite a dd c (ρ.set i (some (.exf a dd gs))) M) = setI i (suite 0 0 c (ρ.set i (some (.exf 0 0 gs))) M)) :
    PS X (.Try sb [.ExceptHandler (some (.Name x np)) (some n) (b0 :: sc) pos'] [] [] pos) (tS (gm X) Wout (rTryAsF exs i body suite)) :=
  PSimp (L2N.ps_try_as (tb := fun W => tS (gm X) W body) (ts := fun a cls d D σ H => ∃ c D0 dd gs, cls = cval (gm X) c ∧ d = some dd ∧ (c, true) ∈ exs ∧ D = endsI i D0 ∧ ∃ (μ : List Addr) (ρ : Fl.Env) (M : Store), ER (gm X) μ H (ρ.set i (some (.exf a dd gs))) σ ∧ SR (gm X) μ H M ∧ FinS (gm X) (fun _ _ _ _ => False) D0 μ H (setI i (suite 0 0 c (ρ.set i (some (.exf 0 0 gs))) M))) hs hf hN hi hln hc tk (fun W pn xe h1 h2 => hb W pn xe h1 h2)
    (fun a oe cls d pn hz hfd => ⟨fun pins s σ H D I h => by
      obtain ⟨c, D0, dd, gs, rfl, rfl, hm, rfl, μ, ρ, M, hE, hS, hF⟩ := h
      have hlen : ρ.length = X.N.length := by
        have h1 := hE.len
        rw [List.length_set] at h1
        exact h1.trans I.len
      rw [← hind a dd gs c ρ M hm hlen] at hF
      exact (hsu a oe c dd pn hm hz hfd).run pins s σ H _ I ⟨μ, _, M, hE, hS, setI_fin hF⟩⟩)) fun D σ H h => by
    obtain ⟨μ, ρ, M, hE, hS, hF⟩ := h
    refine ⟨μ, ρ, M, hE, hS, ?_⟩
    have hF : FinS (gm X) Wout D μ H (match body ρ M with
      | .ex c fs ρ1 M1 => (match exs.lookup c with
        | some true => onFs fs fun gs => setI i (suite 0 0 c (ρ1.set i (some (.exf 0 0 gs))) M1)
        | some false => .ex c fs ρ1 M1
        | none => .no)
      | o => o) := hF
    cases q : body ρ M with
    | ex c fs ρ1 M1 =>
      rw [q] at hF
      have hF : FinS (gm X) Wout D μ H (match exs.lookup c with
        | some true => onFs fs fun gs => setI i (suite 0 0 c (ρ1.set i (some (.exf 0 0 gs))) M1)
        | some false => .ex c fs ρ1 M1
        | none => .no) := hF
      intro μ' σ' H' dx e p hE' hS' xr
      cases q2 : exs.lookup c with
      | none => rw [q2] at hF; exact hF.elim
      | some k =>
        rw [q2] at hF
        refine ⟨k, hx (c, k) (lookup_mem q2), fun hk a _ => ?_, fun hk => ?_⟩
        · subst hk
          cases fs with
          | none => exact hF.elim
          | some gs =>
            have hF : FinS (gm X) Wout D μ H (setI i (suite 0 0 c (ρ1.set i (some (.exf 0 0 (unFs gs)))) M1)) := hF
            obtain ⟨dd, rfl, hd⟩ := xr
            exact ⟨c, D, dd, unFs gs, rfl, rfl, lookup_mem q2, rfl, μ', ρ1, M1, hE'.set i (by simp only [Rep]; exact ⟨trivial, by rw [unFs_map]; exact hd⟩), hS', FinS.later e p (noW_fin hF)⟩
        · subst hk
          exact hF μ' σ' H' dx e p hE' hS' xr
    | nx ρ1 M1 => rw [q] at hF; exact hF
    | rt d M1 => rw [q] at hF; exact hF
    | bk ρ1 M1 => rw [q] at hF; exact hF
    | ct ρ1 M1 => rw [q] at hF; exact hF
    | no => rw [q] at hF; exact hF
end
/-! ### e.what -/
def flatP : P → Bool
  | .tup _ => false
  | _ => true
theorem flat_rep {K : PySem.W.Frag} {H : Hp} {x : P} (h : flatP x = true) : RepP K H x (flV x) := by
  cases x with
  | tup _ => cases h
  | non => simp [RepP, flV]
  | bl b => simp [RepP, flV]
  | int i => simp [RepP, flV]
  | str x => simp [RepP, flV]
def dExF (f : Str) (a d : Nat) : D → Store → Option (D × Store)
  | .exf a' d' fs, M => if a' = a ∧ d' = d then (match fs.lookup f with
    | some x => if flatP x = true then some (.p x, M) else none
    | none => none) else none
  | _, _ => none
theorem dExF_some {f : Str} {a d : Nat} {x : D} {M : Store} {r : D × Store} (h : dExF f a d x M = some r) : ∃ fs y, x = .exf a d fs ∧ fs.lookup f = some y ∧ flatP y = true ∧ r.1 = .p y ∧ r.2 = M := by
  unfold dExF at h
  split at h
  · split at h
    · rename_i hh
      obtain ⟨rfl, rfl⟩ := hh
      split at h
      · rename_i y hy
        split at h
        · rename_i hx
          cases h
          exact ⟨_, y, rfl, hy, hx, rfl, rfl⟩
        · cases h
      · cases h
    · cases h
  · cases h
theorem lookup_map {α β γ : Type} [BEq α] (g : β → γ) (k : α) : ∀ xs : List (α × β), (xs.map fun q => (q.1, g q.2)).lookup k = (xs.lookup k).map g
  | [] => rfl
  | (a, b) :: xs => by
    simp only [List.map_cons, List.lookup_cons]
    split
    · rfl
    · exact lookup_map g k xs
section
variable {X : Cx} {W : WX} {pos : Pos}
theorem i_exfld {a D0 dd : Addr} {oe : Obj} {pn : List (Addr × Obj)} {c n f : Str} {i : Nat} {p : Pos} (hz : L2N.Zn (cval (gm X) c) (some dd) oe) (hfd : ∃ vs, oe.data = .fields vs) (hc : X.mg c = some (.ref D0)) (EC : ExcC X.K D0) (hno : PySem.W.findIn X.K (.ref D0) f = some none)
    (hN : X.N[i]? = some n) (hv : Vis X.env.scope n) (hb : attributeBase (.Name n p) f X.env (eval (.Name n p) X.env) = eval (.Name n p) X.env := by rfl)
    (hd1 : (n == ("__debug__" : Str)) = false := by decide) (hd2 : (n == ("__classdict__" : Str)) = false := by decide) :
    PE (X.suite a ((a, oe) :: pn)) (.Attribute (.Name n p) f pos) (tE (gm X) W (rUn (dExF f a dd) (rVar i))) := by
  have ec : cval (gm X) c = .ref D0 := by
    unfold cval
    show (X.mg c).getD .none = _
    rw [hc]
    rfl
  rw [ec] at hz
  have xc : XfC X.K D0 := ⟨EC.hg, EC.hk, EC.hs, EC.hd⟩
  refine PEimp (pe_xf (a := a) (pn := pn) (n := f) xc hno hz.zc hfd (i_var (X := X.suite a ((a, oe) :: pn)) (W := W) i hN hv hd1 hd2) hb) fun σ H Q h => ?_
  refine (tX.bind h).mono fun v H1 g1 => ?_
  obtain ⟨μ, ρ, M, x, hE, hS, rx, hF⟩ := g1
  have hG : Fin (gm X) (Rep (gm X)) W μ σ H1 Q (ofO (dExF f a dd x M)) := hF
  clear hF
  cases q : dExF f a dd x M with
  | none => rw [q] at hG; exact hG.elim
  | some p =>
    obtain ⟨d1, M'⟩ := p
    rw [q] at hG
    obtain ⟨fs, y, rfl, h1, h2, h3, h4⟩ := dExF_some q
    dsimp only at h3 h4
    subst h3 h4
    simp only [Rep] at rx
    obtain ⟨rfl, rd⟩ := rx
    exact ⟨rfl, rfl, _, _, flV y, rfl, rd, by rw [lookup_map, h1]; rfl, hG μ _ H1 (.refl _) (List.prefix_refl _) hS (by simp only [Rep]; exact flat_rep h2)⟩
end
@[simp] theorem v_exf (f : Str) (a d : Nat) (fs : List (Str × P)) (M : Store) : dExF f a d (.exf a d fs) M = (match fs.lookup f with
    | some x => if flatP x = true then some (.p x, M) else none
    | none => none) := by simp [dExF]
/-! ### raise C('m'), C with its own __init__ -/
def rRaiseF (c m : Str) : RS := fun ρ M => .ex c (some [("what", .p (.str m))]) ρ M
@[simp] theorem e_raiseF (c m : Str) (ρ : Fl.Env) (M : Store) : rRaiseF c m ρ M = .ex c (some [("what", .p (.str m))]) ρ M := (rfl)
section
variable {X : Cx} {W : WX} {pos : Pos}
theorem s_raiseF {c m : Str} {j k : Nat} {p p2 pos' : Pos} (D0 : ExI X.prog X.w X.K X.mg X.base c k) (hr : Room (k + 1) X.A) (hc : X.calm = true) (tk : L2N.Takes X W) (hg : Gl X c) (hm : m.length ≤ 1000 := by decide) (hdb : (c == ("__debug__" : Str)) = false := by decide) :
    PS X (.Raise (some (.Call (.Name c p) [.Constant (.str m) j p2] [] pos')) none pos) (tS (gm X) W (rRaiseF c m)) := by
  obtain ⟨C, fI, fd, h1, T, h2, h3, h4, h5, h6⟩ := D0.is_
  refine PSimp (L2N.ps_raise hc tk (pmk_oexN T h2 h3 h6 hr h5 tk hg h1 (pa_cons (pe_str (x := m) (j := j) (pos := p2)) pa_nil) hdb)) fun D σ H q => ?_
  obtain ⟨μ, ρ, M, hE, hS, hF⟩ := q
  refine ⟨by simp, fun a ha => ⟨a, C, m, rfl, hm, T, h4, upd_same, fun dx hdx hne => ⟨rfl, dx, [("what", .str m)], upd_same, ?_, ?_, ?_⟩⟩⟩
  · rw [upd_ne hne, upd_same]
  · rw [upd_ne hne] at hdx
    exact hdx
  · rw [upd_ne hne] at hdx
    have e : upd (del (upd (upd (upd H a (exo a C none)) dx (exd dx [("what", .str m)])) a (exo a C (some dx))) a) dx (.xd [("what", .str m)]) = upd H dx (.xd [("what", .str m)]) := by
      funext b
      by_cases hb : b = dx
      · subst hb
        rw [upd_same, upd_same]
      · rw [upd_ne hb, upd_ne hb]
        by_cases hb2 : b = a
        · subst hb2
          rw [del_same, ha]
        · rw [del_ne hb2, upd_ne hb2, upd_ne hb, upd_ne hb2]
    rw [e]
    have z := hF μ σ (upd H dx (.xd [("what", .str m)])) (some dx) (Ext.new hdx) (List.prefix_refl _) (hE.ext (Ext.new hdx) (List.prefix_refl _)) (hS.grow hdx) ⟨dx, rfl, upd_same⟩
    unfold cval at z
    rw [show (gm X).mg c = some (.ref C) from h1] at z
    exact z
end
end Fl

set_option Elab.async false
set_option linter.all false
set_option maxRecDepth 100000
/-! Fl, part Hot: defs called within a suite that holds an error. -/
namespace Fl
open PySem PySem.Spec L2 PyProof.Rows
set_option autoImplicit false
/-- a def that keeps it, called while an error is held -/
structure DfH (P : Program) (w : World) (K : PySem.W.Frag) (mg : Str → Option Value) (base : Heap) (x : Str) (ps : List Str) (F : List D → Store → R D) (k : Nat) : Prop where
  is_ : ∃ f fd, mg x = some (.ref f) ∧ PySem.W.keepIn K (.ref f) = true ∧ Binds K fd ps [] ∧ L2H.FnH P w K mg base (L2N.CX P w) k f fd ps (spD ⟨K, mg⟩ F ps.length)
theorem hu_H {A : Around} {k : Nat} (r : L2H.RoomH k A) : A.units + 120 < cLine := by have := r.un; omega
section
variable {P : Program} {w : World} {K : PySem.W.Frag} {mg : Str → Option Value} {base : Heap}
theorem fn_EH {x qual : Str} {params : Arguments} {body : List Stmt} {scope : Scope} {dvs : List V} {kws : List (Str × V)} {f : Addr} {fd : FuncData} {N ps : List Str} {k : Nat} {m : RS} {F : List D → Store → R D}
    (Fu : FunD K x qual params body scope dvs kws f fd) (S : FnScope N ps scope)
    (hb : ∀ (cdv : Value) (A : Around) (outer : List PySem.Env) (s : Shared) (H : Hp) (E : XK) (p : Addr × Obj), L2H.RoomH k (A.deeper (PyProof.Rows.envOfC qual scope s.heap.objs.size f cdv)) →
      ∀ W : WX, PSs (L2H.cxH (L2N.CX P w) P w K mg base N qual scope f cdv A outer s H E p) body (tS ⟨K, mg⟩ W m))
    (hF : ∀ ds M, ds.length = ps.length → Grows M (F ds M) ∧ Tells (F ds M) (bodyR (m (startD N.length ds) M))) :
    L2H.FnH P w K mg base (L2N.CX P w) (k + 1) f fd ps (spD ⟨K, mg⟩ F ps.length) := by
  obtain ⟨oc, od, dV, kV, doc, pm, an, cdv, ct, osl, e1, lk, hcd, hD, hK⟩ := Fu.ex
  subst e1
  refine L2H.fn_ofH lk hcd S (fun vs H Q E h => h.choose_spec.choose_spec.choose_spec.1) fun A outer s H vs Q E p hh hr h => ?_
  obtain ⟨μ, ds, M, hn, hds, hS, hQ⟩ := h
  refine ⟨_, hb cdv A outer s H E p hr (fun c d _ H' => E c d H'), μ, startD N.length ds, M, startD_ok hds, hS, ?_⟩
  obtain ⟨g, t⟩ := hF ds M (by rw [hds.length]; exact hn)
  have hq := FinC_tells hS.len g t hQ
  cases q : m (startD N.length ds) M with
  | nx ρ M' => rw [q] at hq; exact fun μ' σ' H' e p _ s => hq μ' .non H' e p s (Rep.non.mpr rfl)
  | rt d M' => rw [q] at hq; exact fun μ' v H' e p s r => hq μ' v H' e p s r
  | bk ρ M' => rw [q] at hq; exact hq.elim
  | ct ρ M' => rw [q] at hq; exact hq.elim
  | ex c fs ρ M' => rw [q] at hq; exact fun μ' σ' H' dx e p _ s x => hq μ' H' dx e p s x
  | no => rw [q] at hq; exact hq.elim
end
section
variable {X : Cx} {W : WX} {x : Str} {ps : List Str} {F : List D → Store → R D} {k j : Nat} {e : Expr} {es : List Expr} {fs : RA} {p pos : Pos}
theorem i_callH (D : DfH X.prog X.w X.K X.mg X.base x ps F k) (hr : L2H.RoomH k X.A) (hc : L2H.HotC X) (hg : Gl X x) (tk : L2N.Takes X W) (ha : PA X (e :: es) (tA (gm X) W fs)) (hdb : (x == ("__debug__" : Str)) = false := by decide)
    (he : starEach (e :: es) X.env = (false, eval e X.env) :: starEach es X.env := by rfl) (hpl : (backTo pos (starEach es X.env)).any (·.1) = false := by rfl) : PE X (.Call (.Name x p) (e :: es) [] pos) (tE (gm X) W (rCallN ps.length F fs)) := by
  obtain ⟨f, fd, h1, h2, h3, h4⟩ := D.is_
  refine PEimp (L2H.pe_callH (E := WE W) h4 hr hc hg h1 h2 h3 (fun σ => L2N.passAt tk σ) ha hdb he hpl) fun σ H Q h => ?_
  exact (call_in h).mono fun vs H1 q => q
end
theorem roomH {X : Cx} {a : Addr} {pn : List (Addr × Obj)} {k j : Nat} (hr : Room k X.A) (h : j ≤ k) : L2H.RoomH j (X.suite a pn).A :=
  ⟨Nat.lt_of_le_of_lt (by show X.A.depth + 3 * j + 5 ≤ X.A.depth + 3 * k + 5; omega) hr.dp, Nat.lt_of_le_of_lt (by show X.A.units + 16 * j + 200 ≤ X.A.units + 16 * k + 200; omega) hr.un⟩
end Fl

set_option Elab.async false
set_option linter.all false
set_option maxRecDepth 100000
/-! Walls, part A: rules, cuts, masks; no program in sight. -/
namespace Fl
open PySem PySem.Spec L2
set_option autoImplicit false
structure Rl where
  b : Nat
  s0 : Nat × Nat
  s1 : Nat × Nat
  s2 : Nat × Nat
def Rl.sp (r : Rl) : Nat → Nat × Nat
  | 0 => r.s0
  | 1 => r.s1
  | _ => r.s2
def spP (s : Nat × Nat) : P := .tup [.int s.1, .int s.2]
def Rl.P (r : Rl) : P := .tup [.int r.b, spP r.s0, spP r.s1, spP r.s2]
def SpOk (s : Nat × Nat) : Prop := s.1 ≤ s.2 ∧ s.2 ≤ 99999
structure Rl.Ok (r : Rl) : Prop where
  b : r.b ≤ 1
  s0 : SpOk r.s0
  s1 : SpOk r.s1
  s2 : SpOk r.s2
theorem Rl.Ok.sp {r : Rl} (h : r.Ok) : ∀ p, SpOk (r.sp p)
  | 0 => h.s0
  | 1 => h.s1
  | _ + 2 => h.s2
def wallP (rs : List Rl) : P := .tup (rs.map Rl.P)
/-! ### cuts -/
def cutStep (p : Nat) (ks : List Int) (r : Rl) : List Int :=
  if (r.sp p).2 < 99999 then insI (insI ks (r.sp p).1) ((r.sp p).2 + 1) else insI ks (r.sp p).1
def cutKeys (p : Nat) (rs : List Rl) : List Int := rs.foldl (cutStep p) [0]
def cutsI (p : Nat) (rs : List Rl) : List Int := srtI (cutKeys p rs)
theorem cutStep_nodup {p : Nat} {ks : List Int} (h : ks.Nodup) (r : Rl) : (cutStep p ks r).Nodup := by
  unfold cutStep
  split
  · exact nodup_insI (nodup_insI h _) _
  · exact nodup_insI h _
theorem cutFold_nodup {p : Nat} : ∀ (rs : List Rl) {ks : List Int}, ks.Nodup → (rs.foldl (cutStep p) ks).Nodup
  | [], _, h => h
  | r :: rs, _, h => cutFold_nodup rs (cutStep_nodup h r)
theorem cutKeys_nodup (p : Nat) (rs : List Rl) : (cutKeys p rs).Nodup := cutFold_nodup rs (by simp)
theorem mem_cutStep (p : Nat) (ks : List Int) (r : Rl) (j : Int) : j ∈ cutStep p ks r ↔ j ∈ ks ∨ j = (r.sp p).1 ∨ ((r.sp p).2 < 99999 ∧ j = (r.sp p).2 + 1) := by
  unfold cutStep
  split
  · rename_i h
    rw [mem_insI, mem_insI, or_assoc]
    simp [h]
  · rename_i h
    rw [mem_insI]
    simp [h]
theorem mem_cutFold (p : Nat) (j : Int) : ∀ (rs : List Rl) (ks : List Int), j ∈ rs.foldl (cutStep p) ks ↔ j ∈ ks ∨ ∃ r ∈ rs, j = (r.sp p).1 ∨ ((r.sp p).2 < 99999 ∧ j = (r.sp p).2 + 1)
  | [], ks => by simp
  | r :: rs, ks => by
    rw [List.foldl_cons, mem_cutFold p j rs, mem_cutStep, or_assoc]
    simp
theorem mem_cutKeys (p : Nat) (rs : List Rl) (j : Int) : j ∈ cutKeys p rs ↔ j = 0 ∨ ∃ r ∈ rs, j = (r.sp p).1 ∨ ((r.sp p).2 < 99999 ∧ j = (r.sp p).2 + 1) := by
  unfold cutKeys
  rw [mem_cutFold]
  simp
theorem mem_cutsI (p : Nat) (rs : List Rl) (j : Int) : j ∈ cutsI p rs ↔ j = 0 ∨ ∃ r ∈ rs, j = (r.sp p).1 ∨ ((r.sp p).2 < 99999 ∧ j = (r.sp p).2 + 1) := by
  unfold cutsI
  rw [(srtI_perm _).mem_iff, mem_cutKeys]
theorem cutsI_lt (p : Nat) (rs : List Rl) : (cutsI p rs).Pairwise (· < ·) := srtI_lt (cutKeys_nodup p rs)
theorem cutsI_len (p : Nat) (rs : List Rl) : (cutsI p rs).length = (cutKeys p rs).length := (srtI_perm _).length_eq
/-- the rules of the same members, their cuts -/
theorem cutsI_mem {p : Nat} {rs ss : List Rl} (h : ∀ r, r ∈ rs ↔ r ∈ ss) : cutsI p rs = cutsI p ss := by
  have hp : (cutKeys p rs).Perm (cutKeys p ss) := by
    refine (List.perm_ext_iff_of_nodup (cutKeys_nodup p rs) (cutKeys_nodup p ss)).mpr fun j => ?_
    rw [mem_cutKeys, mem_cutKeys]
    simp only [h]
  exact srtI_uniq ((srtI_perm _).trans hp) (srtI_le _)
def full : Nat × Nat := (0, 99999)
/-- rules that cut here -/
def nfull (p : Nat) (rs : List Rl) : Nat := (rs.filter fun r => decide (r.sp p ≠ full)).length
theorem cutFold_len (p : Nat) : ∀ (rs : List Rl) (ks : List Int), 0 ∈ ks → (rs.foldl (cutStep p) ks).length ≤ ks.length + 2 * nfull p rs
  | [], ks, _ => by simp [nfull]
  | r :: rs, ks, h0 => by
    have h1 : (0 : Int) ∈ cutStep p ks r := (mem_cutStep p ks r 0).mpr (.inl h0)
    have ih := cutFold_len p rs (cutStep p ks r) h1
    rw [List.foldl_cons]
    by_cases hf : r.sp p = full
    · have e : cutStep p ks r = ks := by
        unfold cutStep
        rw [hf]
        simp [full, insI, h0]
      have e2 : nfull p (r :: rs) = nfull p rs := by simp [nfull, List.filter_cons, hf]
      rw [e] at ih ⊢
      rw [e2]
      exact ih
    · have e2 : nfull p (r :: rs) = nfull p rs + 1 := by simp [nfull, List.filter_cons, hf]
      have l2 : (cutStep p ks r).length ≤ ks.length + 2 := by
        unfold cutStep
        split
        · have := len_insI (insI ks (r.sp p).1) ((r.sp p).2 + 1)
          have := len_insI ks (r.sp p).1
          omega
        · have := len_insI ks (r.sp p).1
          omega
      omega
theorem cutsI_few (p : Nat) (rs : List Rl) : (cutsI p rs).length ≤ 1 + 2 * nfull p rs := by
  rw [cutsI_len]
  exact cutFold_len p rs [0] (by simp)
theorem cutsI_pos (p : Nat) (rs : List Rl) : 0 < (cutsI p rs).length := List.length_pos_of_mem ((mem_cutsI p rs 0).mpr (.inl rfl))
theorem cutsI_bound {p : Nat} {rs : List Rl} (h : ∀ r ∈ rs, r.Ok) {j : Int} (hj : j ∈ cutsI p rs) : 0 ≤ j ∧ j ≤ 99999 := by
  rcases (mem_cutsI p rs j).mp hj with rfl | ⟨r, hr, rfl | ⟨h1, rfl⟩⟩
  · omega
  · have := (h r hr).sp p
    unfold SpOk at this
    omega
  · omega
/-! ### masks -/
def maskOf (f : Nat → Bool) : Nat → Nat
  | 0 => 0
  | n + 1 => maskOf f n + if f n then 2 ^ n else 0
theorem maskOf_lt (f : Nat → Bool) : ∀ n, maskOf f n < 2 ^ n
  | 0 => by simp [maskOf]
  | n + 1 => by
    have ih := maskOf_lt f n
    unfold maskOf
    rw [Nat.pow_succ]
    split <;> omega
theorem testBit_maskOf (f : Nat → Bool) (k : Nat) : ∀ n, (maskOf f n).testBit k = (decide (k < n) && f k)
  | 0 => by simp [maskOf]
  | n + 1 => by
    have ih := testBit_maskOf f k n
    have hl := maskOf_lt f n
    unfold maskOf
    by_cases hf : f n = true
    · rw [if_pos hf]
      have e : maskOf f n + 2 ^ n = 2 ^ n * 1 + maskOf f n := by omega
      rw [e, Nat.testBit_two_pow_mul_add 1 hl]
      by_cases hk : k < n
      · rw [if_pos hk, ih]
        simp [hk, show k < n + 1 by omega]
      · rw [if_neg hk]
        by_cases e2 : k = n
        · subst e2
          simp [hf]
        · have e3 : ¬ k < n + 1 := by omega
          obtain ⟨j, hj⟩ : ∃ j, k - n = j + 1 := ⟨k - n - 1, by omega⟩
          rw [hj]
          simp [e3, Nat.testBit_succ]
    · rw [if_neg hf, Nat.add_zero, ih]
      by_cases hk : k < n
      · simp [hk, show k < n + 1 by omega]
      · by_cases e2 : k = n
        · subst e2
          simp [hf]
        · simp [hk, show ¬ k < n + 1 by omega]
theorem maskOf_and (f g : Nat → Bool) (n : Nat) : maskOf f n &&& maskOf g n = maskOf (fun k => f k && g k) n := by
  apply Nat.eq_of_testBit_eq
  intro k
  rw [Nat.testBit_and, testBit_maskOf, testBit_maskOf, testBit_maskOf]
  cases decide (k < n) <;> cases f k <;> cases g k <;> rfl
theorem maskOf_congr {f g : Nat → Bool} : ∀ {n : Nat}, (∀ k, k < n → f k = g k) → maskOf f n = maskOf g n
  | 0, _ => rfl
  | n + 1, h => by
    unfold maskOf
    rw [maskOf_congr (n := n) fun k hk => h k (by omega), h n (by omega)]
theorem maskOf_zero {f : Nat → Bool} : ∀ {n : Nat}, (∀ k, k < n → f k = false) → maskOf f n = 0
  | 0, _ => rfl
  | n + 1, h => by
    unfold maskOf
    rw [maskOf_zero (n := n) fun k hk => h k (by omega), h n (by omega)]
    rfl
theorem maskOf_split (f : Nat → Bool) (k : Nat) : ∀ n, k ≤ n → ∃ q, maskOf f n = 2 ^ k * q + maskOf f k
  | 0, h => by
    have e : k = 0 := by omega
    subst e
    exact ⟨0, by simp⟩
  | n + 1, h => by
    by_cases e : k = n + 1
    · subst e
      exact ⟨0, by simp⟩
    · obtain ⟨q, hq⟩ := maskOf_split f k n (by omega)
      refine ⟨q + if f n then 2 ^ (n - k) else 0, ?_⟩
      have e2 : 2 ^ n = 2 ^ k * 2 ^ (n - k) := by rw [← Nat.pow_add]; congr 1; omega
      have e1 : maskOf f (n + 1) = maskOf f n + if f n then 2 ^ n else 0 := rfl
      rw [e1, hq, Nat.mul_add]
      split
      · rw [e2]; omega
      · omega
/-- the first one -/
def firstF (f : Nat → Bool) (n : Nat) : Option Nat := (List.range n).find? f
theorem firstF_some {f : Nat → Bool} {n k : Nat} : firstF f n = some k ↔ k < n ∧ f k = true ∧ ∀ j, j < k → f j = false := by
  unfold firstF
  rw [List.find?_range_eq_some]
  simp only [List.mem_range, Bool.not_eq_true']
  exact ⟨fun ⟨a, b, c⟩ => ⟨b, a, c⟩, fun ⟨a, b, c⟩ => ⟨b, a, c⟩⟩
theorem firstF_none {f : Nat → Bool} {n : Nat} : firstF f n = none ↔ ∀ j, j < n → f j = false := by
  unfold firstF
  rw [List.find?_eq_none]
  simp
theorem band_nn (a b : Nat) : Builtin.bitAnd (a : Int) (b : Int) = ((a &&& b : Nat) : Int) := by
  rw [PyProof.Rows.bitAnd_pp (Int.natCast_nonneg a) (Int.natCast_nonneg b)]
  simp
theorem and_pow (n k : Nat) : n &&& 2 ^ k = if n.testBit k then 2 ^ k else 0 := by
  apply Nat.eq_of_testBit_eq
  intro j
  rw [Nat.testBit_and, Nat.testBit_two_pow]
  by_cases e : k = j
  · subst e
    cases q : n.testBit k <;> simp [q]
  · cases q : n.testBit k <;> simp [e]
/-- the lowest bit stands alone -/
theorem low_bit {f : Nat → Bool} {n k : Nat} (h : firstF f n = some k) : Builtin.bitAnd (maskOf f n : Int) (-(maskOf f n : Int)) = ((2 ^ k : Nat) : Int) := by
  obtain ⟨h1, h2, h3⟩ := firstF_some.mp h
  obtain ⟨q, hq⟩ := maskOf_split f (k + 1) n (by omega)
  have hk : maskOf f (k + 1) = 2 ^ k := by
    show maskOf f k + (if f k then 2 ^ k else 0) = 2 ^ k
    rw [maskOf_zero h3, h2]
    simp
  rw [hk] at hq
  have hp : 0 < 2 ^ k := Nat.pow_pos (by decide)
  have hm : 0 < maskOf f n := by rw [hq]; omega
  have e1 : (-(maskOf f n : Int)) = Builtin.bitNot ((maskOf f n - 1 : Nat) : Int) := by
    unfold Builtin.bitNot
    omega
  have e2 : maskOf f n &&& (maskOf f n - 1) = 2 ^ (k + 1) * q := by
    have a1 : maskOf f n - 1 = 2 ^ (k + 1) * q + (2 ^ k - 1) := by omega
    have lt1 : 2 ^ k < 2 ^ (k + 1) := by rw [Nat.pow_succ]; omega
    rw [a1, hq]
    apply Nat.eq_of_testBit_eq
    intro j
    rw [Nat.testBit_and, Nat.testBit_two_pow_mul_add q lt1, Nat.testBit_two_pow_mul_add q (show 2 ^ k - 1 < 2 ^ (k + 1) by omega)]
    have a3 := Nat.testBit_two_pow_mul_add q (show 0 < 2 ^ (k + 1) from Nat.pow_pos (by decide)) j
    rw [Nat.add_zero] at a3
    rw [a3]
    by_cases hj : j < k + 1
    · rw [if_pos hj, if_pos hj, if_pos hj]
      rw [Nat.testBit_two_pow, Nat.testBit_two_pow_sub_one]
      have : ¬ (k = j ∧ j < k) := by omega
      by_cases e : k = j
      · subst e; simp
      · simp [e]
    · rw [if_neg hj, if_neg hj, if_neg hj]
      simp
  rw [e1, PyProof.Rows.bitAnd_not, band_nn, e2, hq]
  have lt1 : 2 ^ (k + 1) * q ≤ 2 ^ (k + 1) * q + 2 ^ k := by omega
  omega
theorem low_none {f : Nat → Bool} {n : Nat} (h : firstF f n = none) : maskOf f n = 0 := maskOf_zero (firstF_none.mp h)
theorem pow_and (k n : Nat) : 2 ^ k &&& n = if n.testBit k then 2 ^ k else 0 := by
  rw [Nat.and_comm, and_pow]
/-- what a wall decides of a mask: bit g of the first one -/
def letsF (f g : Nat → Bool) (n : Nat) : Bool := match firstF f n with
  | some k => g k
  | none => false
theorem lets_ok (f g : Nat → Bool) (n : Nat) : Builtin.bitAnd (Builtin.bitAnd (maskOf f n : Int) (-(maskOf f n : Int))) (maskOf g n : Int) ≠ 0 ↔ letsF f g n = true := by
  unfold letsF
  cases q : firstF f n with
  | none =>
    rw [low_none q]
    have e : Builtin.bitAnd (Builtin.bitAnd ((0 : Nat) : Int) (-((0 : Nat) : Int))) (maskOf g n : Int) = 0 := by
      have e1 : (-((0 : Nat) : Int)) = ((0 : Nat) : Int) := rfl
      rw [e1, band_nn, band_nn]
      simp
    simp only [e]
    simp
  | some k =>
    rw [low_bit q, band_nn, pow_and, testBit_maskOf]
    have hk := (firstF_some.mp q).1
    have hp : 0 < 2 ^ k := Nat.pow_pos (by decide)
    simp only [hk, decide_true, Bool.true_and]
    cases g k
    · simp
    · refine ⟨fun _ => rfl, fun _ z => ?_⟩
      have z2 : (2 ^ k : Nat) = 0 := Int.ofNat.inj z
      omega
theorem or_new {f : Nat → Bool} {n : Nat} (h : f n = true) : Builtin.bitOr (maskOf f n : Int) (1 * 2 ^ n) = (maskOf f (n + 1) : Int) := by
  rw [PyProof.Rows.bitOr_and]
  have e1 : (1 * 2 ^ n : Int) = ((2 ^ n : Nat) : Int) := by simp
  have e2 : maskOf f n &&& 2 ^ n = 0 := by
    rw [and_pow, testBit_maskOf]
    simp
  have e3 : maskOf f (n + 1) = maskOf f n + 2 ^ n := by
    show maskOf f n + (if f n then 2 ^ n else 0) = _
    rw [h]; rfl
  rw [e1, band_nn, e2, e3]
  omega
theorem or_old {f : Nat → Bool} {n : Nat} (h : f n = false) : maskOf f n = maskOf f (n + 1) := by
  show _ = maskOf f n + (if f n then 2 ^ n else 0)
  rw [h]
  simp
/-! ### what rules have -/
def Rl.hasAt (r : Rl) (p : Nat) (c : Int) : Bool := decide (((r.sp p).1 : Int) ≤ c) && decide (c ≤ (r.sp p).2)
def hasA (rs : List Rl) (p : Nat) (c : Int) (k : Nat) : Bool := match rs[k]? with
  | some r => r.hasAt p c
  | none => false
structure Tr where
  x : Int
  y : Int
  z : Int
def Tr.P (t : Tr) : P := .tup [.int t.x, .int t.y, .int t.z]
def Rl.has (r : Rl) (t : Tr) : Bool := r.hasAt 0 t.x && r.hasAt 1 t.y && r.hasAt 2 t.z
def hasK (rs : List Rl) (t : Tr) (k : Nat) : Bool := match rs[k]? with
  | some r => r.has t
  | none => false
theorem hasK_eq (rs : List Rl) (t : Tr) (k : Nat) : (hasA rs 0 t.x k && hasA rs 1 t.y k && hasA rs 2 t.z k) = hasK rs t k := by
  unfold hasA hasK Rl.has
  cases rs[k]? <;> rfl
def bitK (rs : List Rl) (k : Nat) : Bool := match rs[k]? with
  | some r => decide (r.b ≠ 0)
  | none => false
/-- the first rule's number; what is let -/
def fstR (rs : List Rl) (t : Tr) : Option Nat := firstF (hasK rs t) rs.length
def letR (rs : List Rl) (t : Tr) : Bool := letsF (hasK rs t) (bitK rs) rs.length
/-! ### all boxes -/
def idx3 (a b c : Nat) : List (Nat × Nat × Nat) := (List.range a).flatMap fun i => (List.range b).flatMap fun j => (List.range c).map fun k => (i, j, k)
def trips (as bs cs : List Int) : List Tr := as.flatMap fun x => bs.flatMap fun y => cs.map fun z => ⟨x, y, z⟩
def cornT (as bs cs : List Int) (q : Nat × Nat × Nat) : Tr := ⟨as.getD q.1 0, bs.getD q.2.1 0, cs.getD q.2.2 0⟩
theorem range_map_getD (as : List Int) : (List.range as.length).map (fun i => as.getD i 0) = as := by
  apply List.ext_getElem?
  intro i
  rw [List.getElem?_map]
  by_cases h : i < as.length
  · rw [List.getElem?_range h, List.getElem?_eq_getElem h]
    simp [h]
  · rw [List.getElem?_eq_none (by simp; omega), List.getElem?_eq_none (by omega)]
    rfl
theorem idx3_corn (as bs cs : List Int) : (idx3 as.length bs.length cs.length).map (cornT as bs cs) = trips as bs cs := by
  have e3 : ∀ x y, (List.range cs.length).map (fun k => (⟨x, y, cs.getD k 0⟩ : Tr)) = cs.map fun z => ⟨x, y, z⟩ := fun x y => by
    conv => rhs; rw [← range_map_getD cs]
    rw [List.map_map]
    rfl
  have e2 : ∀ x, (List.range bs.length).flatMap (fun j => cs.map fun z => (⟨x, bs.getD j 0, z⟩ : Tr)) = bs.flatMap fun y => cs.map fun z => ⟨x, y, z⟩ := fun x => by
    conv => rhs; rw [← range_map_getD bs]
    rw [List.flatMap_map]
  have e1 : (List.range as.length).flatMap (fun i => bs.flatMap fun y => cs.map fun z => (⟨as.getD i 0, y, z⟩ : Tr)) = trips as bs cs := by
    unfold trips
    conv => rhs; rw [← range_map_getD as]
    rw [List.flatMap_map]
  rw [← e1]
  unfold idx3
  rw [List.map_flatMap]
  congr 1
  funext i
  rw [List.map_flatMap, ← e2]
  congr 1
  funext j
  rw [List.map_map, ← e3]
  rfl
theorem idx3_mem {a b c : Nat} {q : Nat × Nat × Nat} : q ∈ idx3 a b c ↔ q.1 < a ∧ q.2.1 < b ∧ q.2.2 < c := by
  obtain ⟨i, j, k⟩ := q
  unfold idx3
  simp only [List.mem_flatMap, List.mem_map, List.mem_range, Prod.mk.injEq]
  constructor
  · rintro ⟨i', hi, j', hj, k', hk, rfl, rfl, rfl⟩
    exact ⟨hi, hj, hk⟩
  · rintro ⟨hi, hj, hk⟩
    exact ⟨i, hi, j, hj, k, hk, rfl, rfl, rfl⟩
theorem idx3_len (a b c : Nat) : (idx3 a b c).length = a * b * c := by
  simp [idx3, List.length_flatMap, Nat.mul_assoc, List.map_const', List.sum_replicate_nat]
/-! ### the places of cuts -/
theorem getD_lt {cs : List Int} (h : cs.Pairwise (· < ·)) {i j : Nat} (hj : j < cs.length) (hij : i < j) : cs.getD i 0 < cs.getD j 0 := by
  have := List.pairwise_iff_getElem.mp h i j (by omega) hj hij
  simp [List.getD_eq_getElem?_getD, List.getElem?_eq_getElem hj, List.getElem?_eq_getElem (show i < cs.length by omega), this]
theorem getD_lt_iff {cs : List Int} (h : cs.Pairwise (· < ·)) {i j : Nat} (hi : i < cs.length) (hj : j < cs.length) : cs.getD i 0 < cs.getD j 0 ↔ i < j := by
  constructor
  · intro hlt
    rcases Nat.lt_trichotomy i j with c | c | c
    · exact c
    · subst c; omega
    · have := getD_lt h hi c; omega
  · exact getD_lt h hj
theorem getD_inj {cs : List Int} (h : cs.Pairwise (· < ·)) {i j : Nat} (hi : i < cs.length) (hj : j < cs.length) (e : cs.getD i 0 = cs.getD j 0) : i = j := by
  rcases Nat.lt_trichotomy i j with c | c | c
  · have := getD_lt h hj c; omega
  · exact c
  · have := getD_lt h hi c; omega
theorem mem_getD {cs : List Int} {c : Int} (h : c ∈ cs) : ∃ i, i < cs.length ∧ cs.getD i 0 = c := by
  obtain ⟨i, hi, e⟩ := List.mem_iff_getElem.mp h
  exact ⟨i, hi, by simp [List.getD_eq_getElem?_getD, List.getElem?_eq_getElem hi, e]⟩
theorem getD_mem {cs : List Int} {i : Nat} (h : i < cs.length) : cs.getD i 0 ∈ cs := by
  simp [List.getD_eq_getElem?_getD, List.getElem?_eq_getElem h]
def numK (cs : List Int) (n : Nat) : List (L2.Key × D) := (List.range n).map fun j => (.inl (cs.getD j 0), .p (.int j))
theorem numK_put {cs : List Int} (h : cs.Pairwise (· < ·)) {i : Nat} (hi : i < cs.length) : putD (numK cs i) (.inl (cs.getD i 0)) (.p (.int i)) = numK cs (i + 1) := by
  have e : ((numK cs i).any fun q => decide (q.1 = (Sum.inl (cs.getD i 0) : L2.Key))) = false := by
    rw [List.any_eq_false]
    intro q hq
    obtain ⟨j, hj, rfl⟩ := List.mem_map.mp hq
    rw [List.mem_range] at hj
    have := getD_lt h hi hj
    simp only [Sum.inl.injEq, decide_eq_true_eq]
    omega
  unfold putD
  rw [if_neg (by rw [e]; decide)]
  unfold numK
  rw [List.range_succ]
  simp
theorem numK_val {cs : List Int} (h : cs.Pairwise (· < ·)) {i : Nat} : ∀ n, n ≤ cs.length → i < n → valD (numK cs n) (.inl (cs.getD i 0)) = some (.p (.int i)) := by
  intro n hn hi
  have key : ∀ (m j : Nat), m + j = n → j ≤ i → valD ((List.range' j m).map fun j => ((Sum.inl (cs.getD j 0) : L2.Key), D.p (.int j))) (.inl (cs.getD i 0)) = some (.p (.int i)) := by
    intro m
    induction m with
    | zero => intro j h1 h2; omega
    | succ m ih =>
      intro j h1 h2
      rw [List.range'_succ, List.map_cons, valD_cons]
      by_cases c : j = i
      · subst c
        simp
      · have ne : ¬ ((Sum.inl (cs.getD j 0) : L2.Key) = Sum.inl (cs.getD i 0)) := fun z => c (getD_inj h (by omega) (by omega) (Sum.inl.inj z))
        rw [if_neg ne]
        exact ih (j + 1) (by omega) (by omega)
  have := key n 0 (by omega) (by omega)
  unfold numK
  rw [List.range_eq_range']
  exact this
theorem numK_len (cs : List Int) (n : Nat) : (numK cs n).length = n := by simp [numK]
/-! ### the masks of the cuts, while the rules are gone through -/
def maskD (rs : List Rl) (p : Nat) (c : Int) (j : Nat) : D := .p (.int (maskOf (hasA rs p c) j))
def maskL (rs : List Rl) (p : Nat) (cs : List Int) (j : Nat) : List D := cs.map fun c => maskD rs p c j
/-- the first ones up to b + i are done -/
def maskM (rs : List Rl) (p : Nat) (cs : List Int) (j b i : Nat) : List D := (List.range cs.length).map fun x => if b ≤ x ∧ x < b + i then maskD rs p (cs.getD x 0) (j + 1) else maskD rs p (cs.getD x 0) j
theorem maskL_range (rs : List Rl) (p : Nat) (cs : List Int) (j : Nat) : maskL rs p cs j = (List.range cs.length).map fun x => maskD rs p (cs.getD x 0) j := by
  unfold maskL
  conv => lhs; rw [← range_map_getD cs]
  rw [List.map_map]
  rfl
theorem maskM_zero (rs : List Rl) (p : Nat) (cs : List Int) (j b : Nat) : maskM rs p cs j b 0 = maskL rs p cs j := by
  rw [maskL_range]
  unfold maskM
  apply List.map_congr_left
  intro x _
  rw [if_neg (by omega)]
theorem maskM_get (rs : List Rl) (p : Nat) (cs : List Int) (j b i : Nat) (h : b + i < cs.length) : (maskM rs p cs j b i)[b + i]? = some (maskD rs p (cs.getD (b + i) 0) j) := by
  unfold maskM
  rw [List.getElem?_map, List.getElem?_range h, Option.map_some, if_neg (by omega)]
theorem maskM_set (rs : List Rl) (p : Nat) (cs : List Int) (j b i : Nat) : (maskM rs p cs j b i).set (b + i) (maskD rs p (cs.getD (b + i) 0) (j + 1)) = maskM rs p cs j b (i + 1) := by
  apply List.ext_getElem?
  intro x
  unfold maskM
  by_cases hx : x < cs.length
  · by_cases e : b + i = x
    · subst e
      rw [List.getElem?_set_self (by simpa using hx), List.getElem?_map, List.getElem?_range hx, Option.map_some, if_pos (by omega)]
    · rw [List.getElem?_set_ne e, List.getElem?_map, List.getElem?_map, List.getElem?_range hx, Option.map_some, Option.map_some]
      have : (b ≤ x ∧ x < b + i) ↔ (b ≤ x ∧ x < b + (i + 1)) := by omega
      simp only [this]
  · rw [List.getElem?_eq_none (by simp; omega), List.getElem?_eq_none (by simp; omega)]
theorem maskM_len (rs : List Rl) (p : Nat) (cs : List Int) (j b i : Nat) : (maskM rs p cs j b i).length = cs.length := by simp [maskM]
theorem maskM_done {rs : List Rl} {p : Nat} {cs : List Int} {j b e : Nat} {r : Rl} (hr : rs[j]? = some r) (h : ∀ x, x < cs.length → ((b ≤ x ∧ x < e) ↔ (((r.sp p).1 : Int) ≤ cs.getD x 0 ∧ cs.getD x 0 ≤ (r.sp p).2))) (hbe : b ≤ e) : maskM rs p cs j b (e - b) = maskL rs p cs (j + 1) := by
  rw [maskL_range]
  unfold maskM
  apply List.map_congr_left
  intro x hx
  rw [List.mem_range] at hx
  have hA : hasA rs p (cs.getD x 0) j = r.hasAt p (cs.getD x 0) := by unfold hasA; rw [hr]
  by_cases c : b ≤ x ∧ x < e
  · rw [if_pos (by omega)]
  · rw [if_neg (by omega)]
    unfold maskD
    have hf : hasA rs p (cs.getD x 0) j = false := by
      rw [hA]
      unfold Rl.hasAt
      have := mt (h x hx).mpr c
      rw [Bool.eq_false_iff]
      intro z
      rw [Bool.and_eq_true, decide_eq_true_eq, decide_eq_true_eq] at z
      exact this z
    rw [or_old hf]
theorem maskL_zero (rs : List Rl) (p : Nat) (cs : List Int) : maskL rs p cs 0 = List.replicate cs.length (.p (.int 0)) := by
  unfold maskL
  rw [List.map_eq_replicate_iff.mpr]
  intro c _
  rfl
/-- where a rule begins and ends among the cuts -/
structure CutsOf (cs : List Int) (p : Nat) (rs : List Rl) : Prop where
  lt : cs.Pairwise (· < ·)
  bnd : ∀ c ∈ cs, 0 ≤ c ∧ c ≤ 99999
  lo : ∀ r ∈ rs, ((r.sp p).1 : Int) ∈ cs
  hi : ∀ r ∈ rs, (r.sp p).2 < 99999 → ((r.sp p).2 + 1 : Int) ∈ cs
theorem cutsOf_mem {p : Nat} {rs ss : List Rl} (h : ∀ r ∈ ss, r.Ok) (hs : ∀ r ∈ rs, r ∈ ss) : CutsOf (cutsI p ss) p rs :=
  ⟨cutsI_lt p ss, fun c hc => cutsI_bound h hc, fun r hr => (mem_cutsI p ss _).mpr (.inr ⟨r, hs r hr, .inl rfl⟩), fun r hr hlt => (mem_cutsI p ss _).mpr (.inr ⟨r, hs r hr, .inr ⟨hlt, rfl⟩⟩)⟩
theorem CutsOf.begin {cs : List Int} {p : Nat} {rs : List Rl} (h : CutsOf cs p rs) {r : Rl} (hr : r ∈ rs) (hok : r.Ok) :
    ∃ b e, b < cs.length ∧ cs.getD b 0 = (r.sp p).1 ∧ b ≤ e ∧ e ≤ cs.length ∧ (if (r.sp p).2 < 99999 then e < cs.length ∧ cs.getD e 0 = (r.sp p).2 + 1 else e = cs.length) ∧ ∀ x, x < cs.length → ((b ≤ x ∧ x < e) ↔ (((r.sp p).1 : Int) ≤ cs.getD x 0 ∧ cs.getD x 0 ≤ (r.sp p).2)) := by
  have hsp := hok.sp p
  unfold SpOk at hsp
  obtain ⟨b, hb, eb⟩ := mem_getD (h.lo r hr)
  have key : ∀ {i j : Nat}, i < cs.length → j < cs.length → (cs.getD i 0 ≤ cs.getD j 0 ↔ i ≤ j) := fun {i j} hi hj => by
    have := getD_lt_iff h.lt hj hi
    omega
  by_cases c : (r.sp p).2 < 99999
  · obtain ⟨e, he, ee⟩ := mem_getD (h.hi r hr c)
    have hbe : b < e := (getD_lt_iff h.lt hb he).mp (by omega)
    refine ⟨b, e, hb, eb, by omega, by omega, by rw [if_pos c]; exact ⟨he, ee⟩, fun x hx => ?_⟩
    have k1 := key hb hx
    have k2 := getD_lt_iff h.lt hx he
    omega
  · refine ⟨b, cs.length, hb, eb, by omega, Nat.le_refl _, by rw [if_neg c], fun x hx => ?_⟩
    have k1 := key hb hx
    have k2 := (h.bnd _ (getD_mem hx)).2
    omega
theorem v_shl (i j : Int) (M : Store) (h : CPow i j) : dShl (.p (.int i)) (.p (.int j)) M = some (.p (.int (i * 2 ^ j.toNat)), M) := by simp [dShl, h]
@[simp] theorem v_band (i j : Int) (M : Store) : dBAnd (.p (.int i)) (.p (.int j)) M = some (.p (.int (Builtin.bitAnd i j)), M) := (rfl)
end Fl

set_option Elab.async false
set_option linter.all false
set_option maxRecDepth 100000
/-! The plain side of walls, part E: sets made by loops; a mask without its first rule. -/
namespace Fl
open PySem PySem.Spec L2
set_option autoImplicit false
/-- a loop that puts ints into a set, the last thing of the store -/
theorem set_loop {k : Option (Nat × O)} {g : RG} {body : RS} (xs : List D) (M : Store) (R : Nat → Int → Prop) (c b0 : Nat) (J : Env → Prop) (hk : ∀ o, chk k (M ++ [o]))
    (h : ∀ n d ks ρ, xs[n]? = some d → ks.Nodup → ks.length ≤ b0 + n * c → J ρ → ∃ ρ1 ρ2 ks2, g d ρ (M ++ [.dk (setK ks)]) = some (ρ1, M ++ [.dk (setK ks)]) ∧ body ρ1 (M ++ [.dk (setK ks)]) = .nx ρ2 (M ++ [.dk (setK ks2)]) ∧ J ρ2 ∧ ks2.Nodup ∧ ks2.length ≤ ks.length + c ∧ ∀ x, x ∈ ks2 ↔ x ∈ ks ∨ R n x)
    (ks : List Int) (ρ : Env) (hn : ks.Nodup) (hl : ks.length ≤ b0) (hJ : J ρ) :
    ∃ ρ' ks', forL k g body xs ρ (M ++ [.dk (setK ks)]) = .nx ρ' (M ++ [.dk (setK ks')]) ∧ J ρ' ∧ ks'.Nodup ∧ ks'.length ≤ ks.length + xs.length * c ∧ ∀ x, x ∈ ks' ↔ x ∈ ks ∨ ∃ n, n < xs.length ∧ R n x := by
  obtain ⟨ρ', M', k1, ks', rfl, j1, j2, j3, j4⟩ := forL_inv (k := k) (g := g) (body := body) xs (fun n ρ M' => ∃ ks', M' = M ++ [.dk (setK ks')] ∧ J ρ ∧ ks'.Nodup ∧ ks'.length ≤ ks.length + n * c ∧ ∀ x, x ∈ ks' ↔ x ∈ ks ∨ ∃ m, m < n ∧ R m x) (by
    rintro n ρ M' ⟨ks', rfl, _⟩
    exact hk _) (by
    rintro n d ρ M' hx ⟨ks', rfl, j1, j2, j3, j4⟩
    obtain ⟨ρ1, ρ2, ks2, e1, e2, e3, e4, e5, e6⟩ := h n d ks' ρ hx j2 (by omega) j1
    refine ⟨_, _, _, _, e1, .inl e2, ks2, rfl, e3, e4, by rw [Nat.succ_mul]; omega, fun x => ?_⟩
    rw [e6, j4]
    constructor
    · rintro ((z | ⟨m, hm, z⟩) | z)
      · exact .inl z
      · exact .inr ⟨m, by omega, z⟩
      · exact .inr ⟨n, by omega, z⟩
    · rintro (z | ⟨m, hm, z⟩)
      · exact .inl (.inl z)
      · by_cases c : m = n
        · subst c; exact .inr z
        · exact .inl (.inr ⟨m, by omega, z⟩)) (ρ := ρ) (M := M ++ [.dk (setK ks)]) ⟨ks, rfl, hJ, hn, by omega, fun x => by simp⟩
  exact ⟨ρ', ks', k1, j1, j2, j3, j4⟩
/-- one put -/
theorem put_last (M : Store) (ks : List Int) (i : Int) (hl : ks.length < 100000) : putM (.ref M.length) (.p (.int i)) (.p (.bl true)) (M ++ [.dk (setK ks)]) = some (M ++ [.dk (setK (insI ks i))]) := by
  have e := v_put (i := i) (d := .p (.bl true)) (get_new M (O.dk (setK ks))) (by rw [len_setK]; omega)
  rw [e, put_setK]
  simp
/-! ### without the first one -/
/-- the next one -/
def nextF (f : Nat → Bool) (k : Nat) : Nat → Bool := fun j => f j && decide (k < j)
theorem mask_below {f : Nat → Bool} {n k : Nat} (h : firstF f n = some k) : Builtin.bitAnd (maskOf f n : Int) ((maskOf f n : Int) - 1) = ((maskOf (nextF f k) n : Nat) : Int) := by
  obtain ⟨h1, h2, h3⟩ := firstF_some.mp h
  obtain ⟨q, hq⟩ := maskOf_split f (k + 1) n (by omega)
  have hk : maskOf f (k + 1) = 2 ^ k := by
    show maskOf f k + (if f k then 2 ^ k else 0) = 2 ^ k
    rw [maskOf_zero h3, h2]
    simp
  rw [hk] at hq
  have hp : 0 < 2 ^ k := Nat.pow_pos (by decide)
  have hm : 0 < maskOf f n := by rw [hq]; omega
  rw [show ((maskOf f n : Int) - 1) = ((maskOf f n - 1 : Nat) : Int) by omega, band_nn]
  congr 1
  apply Nat.eq_of_testBit_eq
  intro j
  have lt1 : 2 ^ k < 2 ^ (k + 1) := by rw [Nat.pow_succ]; omega
  have a1 : maskOf f n - 1 = 2 ^ (k + 1) * q + (2 ^ k - 1) := by omega
  rw [Nat.testBit_and, testBit_maskOf, testBit_maskOf]
  have t1 : (maskOf f n - 1).testBit j = if j < k + 1 then decide (j < k) else q.testBit (j - (k + 1)) := by
    rw [a1, Nat.testBit_two_pow_mul_add q (show 2 ^ k - 1 < 2 ^ (k + 1) by omega), Nat.testBit_two_pow_sub_one]
  have t2 := testBit_maskOf f j n
  rw [hq, Nat.testBit_two_pow_mul_add q lt1] at t2
  rw [t1]
  unfold nextF
  by_cases c : j < k + 1
  · rw [if_pos c]
    by_cases c2 : j < k
    · have := h3 j c2
      simp [this]
    · have c3 : ¬ k < j := by omega
      simp [c2, c3]
  · rw [if_neg c] at t2 ⊢
    have c3 : k < j := by omega
    rw [t2]
    cases decide (j < n) <;> cases f j <;> simp [c3]
/-- the first one of what stands behind k -/
theorem next_first (f : Nat → Bool) (n k : Nat) (hk : k < n) : firstF (nextF f k) n = (firstF (fun j => f (k + 1 + j)) (n - (k + 1))).map (k + 1 + ·) := by
  cases q : firstF (fun j => f (k + 1 + j)) (n - (k + 1)) with
  | none =>
    rw [Option.map_none, firstF_none]
    intro j hj
    have := firstF_none.mp q
    unfold nextF
    by_cases c : k < j
    · have t := this (j - (k + 1)) (by omega)
      rw [show k + 1 + (j - (k + 1)) = j by omega] at t
      simp [t]
    · simp [c]
  | some m =>
    obtain ⟨a, b, c⟩ := firstF_some.mp q
    rw [Option.map_some, firstF_some]
    refine ⟨by omega, ?_, fun j hj => ?_⟩
    · unfold nextF
      simp only [b, Bool.true_and, decide_eq_true_eq]
      omega
    · unfold nextF
      by_cases cc : k < j
      · have t := c (j - (k + 1)) (by omega)
        rw [show k + 1 + (j - (k + 1)) = j by omega] at t
        simp [t]
      · simp [cc]
/-- the rules behind k -/
theorem hasK_drop (rs : List Rl) (t : Tr) (k j : Nat) : hasK (rs.drop k) t j = hasK rs t (k + j) := by
  unfold hasK
  rw [List.getElem?_drop]
theorem bitK_drop (rs : List Rl) (k j : Nat) : bitK (rs.drop k) j = bitK rs (k + j) := by
  unfold bitK
  rw [List.getElem?_drop]
/-- would a triple be decided otherwise without rule k, its first one -/
def diffB (rs : List Rl) (t : Tr) (k : Nat) : Bool := letsF (nextF (hasK rs t) k) (bitK rs) rs.length != bitK rs k
theorem lets_first {f g : Nat → Bool} {n k : Nat} (h : firstF f n = some k) : letsF f g n = g k := by
  unfold letsF
  rw [h]
theorem lets_next (rs : List Rl) (t : Tr) (k : Nat) (hk : k < rs.length) : letsF (nextF (hasK rs t) k) (bitK rs) rs.length = letR (rs.drop (k + 1)) t := by
  unfold letR letsF
  rw [next_first _ _ _ hk]
  have e1 : (fun j => hasK rs t (k + 1 + j)) = hasK (rs.drop (k + 1)) t := by
    funext j
    rw [hasK_drop]
  rw [e1, List.length_drop]
  cases firstF (hasK (rs.drop (k + 1)) t) (rs.length - (k + 1)) with
  | none => rfl
  | some m =>
    rw [Option.map_some]
    exact (bitK_drop rs (k + 1) m).symm
/-- the mask tells which rules there are -/
theorem mask_inj {f g : Nat → Bool} {n : Nat} (h : maskOf f n = maskOf g n) : ∀ k, k < n → f k = g k := fun k hk => by
  have a := testBit_maskOf f k n
  have b := testBit_maskOf g k n
  rw [h, b] at a
  simpa [hk] using a.symm
theorem firstF_congr {f g : Nat → Bool} {n : Nat} (h : ∀ k, k < n → f k = g k) : firstF f n = firstF g n := by
  cases q : firstF g n with
  | none =>
    rw [firstF_none]
    intro j hj
    rw [h j hj]
    exact firstF_none.mp q j hj
  | some k =>
    obtain ⟨a, b, c⟩ := firstF_some.mp q
    rw [firstF_some]
    exact ⟨a, by rw [h k a]; exact b, fun j hj => by rw [h j (by omega)]; exact c j hj⟩
theorem mask_fst {rs : List Rl} {t t' : Tr} (h : maskOf (hasK rs t) rs.length = maskOf (hasK rs t') rs.length) : fstR rs t = fstR rs t' := firstF_congr (mask_inj h)
theorem mask_diff {rs : List Rl} {t t' : Tr} (h : maskOf (hasK rs t) rs.length = maskOf (hasK rs t') rs.length) (k : Nat) : diffB rs t k = diffB rs t' k := by
  unfold diffB letsF
  rw [firstF_congr (f := nextF (hasK rs t) k) (g := nextF (hasK rs t') k) fun j hj => by unfold nextF; rw [mask_inj h j hj]]
def allT (rs : List Rl) : List Tr := trips (cutsI 0 rs) (cutsI 1 rs) (cutsI 2 rs)
def inB (c0 c1 c2 : List Int) (q : Nat × Nat × Nat) : Prop := q.1 < c0.length ∧ q.2.1 < c1.length ∧ q.2.2 < c2.length
theorem mem_allT {rs : List Rl} {t : Tr} : t ∈ allT rs ↔ ∃ q, inB (cutsI 0 rs) (cutsI 1 rs) (cutsI 2 rs) q ∧ t = cornT (cutsI 0 rs) (cutsI 1 rs) (cutsI 2 rs) q := by
  unfold allT
  rw [← idx3_corn, List.mem_map]
  constructor
  · rintro ⟨q, hq, rfl⟩; exact ⟨q, idx3_mem.mp hq, rfl⟩
  · rintro ⟨q, hq, rfl⟩; exact ⟨q, idx3_mem.mpr hq, rfl⟩
end Fl

set_option Elab.async false
set_option linter.all false
set_option maxRecDepth 100000
set_option exponentiation.threshold 20000
namespace Law
open PySem PySem.Spec L2 Fl
set_option autoImplicit false
abbrev Env := Fl.Env

def c_TOP : P := (.int 99999)
def c_RANGES_OF_A_RULE : P := (.int 3)
def c_MOST_RULES : P := (.int 400)
def c_MOST_LOOKED_AT : P := (.int 40)
def c_MOST_BOXES : P := (.int 60000)
def c_PLACES : P := (.tup [(.int 0), (.int 1), (.int 2)])
@[simp] theorem lit_0 : Str.length (("BadRule" : Str)) = 7 := by decide +kernel
@[simp] theorem lit_1 : Str.length (("BadRules" : Str)) = 8 := by decide +kernel
@[simp] theorem lit_2 : Str.length (("TooMany" : Str)) = 7 := by decide +kernel
@[simp] theorem lit_3 : Str.length (("boxes" : Str)) = 5 := by decide +kernel
@[simp] theorem lit_4 : Str.length (("error" : Str)) = 5 := by decide +kernel
@[simp] theorem lit_5 : Str.length (("holesmet.errors" : Str)) = 15 := by decide +kernel
@[simp] theorem lit_6 : Str.length (("holesmet.grids" : Str)) = 14 := by decide +kernel
@[simp] theorem lit_7 : Str.length (("holesmet.idling" : Str)) = 15 := by decide +kernel
@[simp] theorem lit_8 : Str.length (("holesmet.items" : Str)) = 14 := by decide +kernel
@[simp] theorem lit_9 : Str.length (("holesmet.kinds" : Str)) = 14 := by decide +kernel
@[simp] theorem lit_10 : Str.length (("holesmet.ruling" : Str)) = 15 := by decide +kernel
@[simp] theorem lit_11 : Str.length (("holesmet.walls" : Str)) = 14 := by decide +kernel
@[simp] theorem lit_12 : Str.length (("law_holesmet_k73_hidden_and_idle_rules" : Str)) = 38 := by decide +kernel
@[simp] theorem lit_13 : Str.length (("no tuple of up to 400 rules" : Str)) = 27 := by decide +kernel
@[simp] theorem lit_14 : Str.length (("rules" : Str)) = 5 := by decide +kernel
@[simp] theorem lit_15 : Str.length (("told" : Str)) = 4 := by decide +kernel
@[simp] theorem lit_16 : Str.length (("too many " : Str)) = 9 := by decide +kernel
/-! ### rules are looked at -/
-- slots: 0:value
noncomputable def m_is_int  : RS :=
  (rRet (rAnd (rIsa "int" (rVar 0)) (rNot (rTst truthD (rIsa "bool" (rVar 0))))))

noncomputable def F_is_int : List D → Store → R D := selfF 1 m_is_int
theorem r_is_int : Ref 1 1 F_is_int m_is_int := ref_self 1 1 m_is_int
theorem x_is_int (i : Int) (M : Store) : F_is_int [.p (.int i)] M = .ok (.p (.bl true)) M := by
  refine selfF_ok ?_ (Nat.le_refl _)
  simp [m_is_int, isaT]
-- slots: 0:value 1:least 2:greatest
noncomputable def m_is_between  : RS :=
  (rRet (rAnd (rCallN 1 F_is_int (rCons (rVar 0) rNil)) (rChain dLe dLe (rVar 1) (rVar 0) (rVar 2))))

noncomputable def F_is_between : List D → Store → R D := selfF 3 m_is_between
theorem r_is_between : Ref 3 3 F_is_between m_is_between := ref_self 3 3 m_is_between
theorem x_between (i a b : Int) (M : Store) : F_is_between [.p (.int i), .p (.int a), .p (.int b)] M = .ok (.p (.bl (decide (a ≤ i) && decide (i ≤ b)))) M := by
  have h := x_is_int i M
  refine selfF_ok ?_ (Nat.le_refl _)
  by_cases h1 : a ≤ i <;> simp [m_is_between, h, h1]
-- slots: 0:value
noncomputable def m_is_bit  : RS :=
  (rRet (rCallN 3 F_is_between (rCons (rVar 0) (rCons (rC (.p (.int 0))) (rCons (rC (.p (.int 1))) rNil)))))

noncomputable def F_is_bit : List D → Store → R D := selfF 1 m_is_bit
theorem r_is_bit : Ref 1 1 F_is_bit m_is_bit := ref_self 1 1 m_is_bit
theorem x_is_bit (i : Int) (M : Store) : F_is_bit [.p (.int i)] M = .ok (.p (.bl (decide (0 ≤ i) && decide (i ≤ 1)))) M := by
  have h := x_between i 0 1 M
  refine selfF_ok ?_ (Nat.le_refl _)
  simp [m_is_bit, h]
-- slots: 0:value 1:length
noncomputable def m_is_tuple_of  : RS :=
  (rRet (rAnd (rIsa "tuple" (rVar 0)) (rBin dEq (rCB cLen (rCons (rVar 0) rNil)) (rVar 1))))

noncomputable def F_is_tuple_of : List D → Store → R D := selfF 2 m_is_tuple_of
theorem r_is_tuple_of : Ref 2 2 F_is_tuple_of m_is_tuple_of := ref_self 2 2 m_is_tuple_of
theorem x_tuple_of (xs : List P) (n : Nat) (M : Store) : F_is_tuple_of [.p (.tup xs), .p (.int n)] M = .ok (.p (.bl (decide (xs.length = n)))) M := by
  refine selfF_ok ?_ (Nat.le_refl _)
  have e : P.eqv (.int (xs.length : Nat)) (.int n) = decide (xs.length = n) := by
    rw [v_eqv_ii, Bool.eq_iff_iff]
    simp
    omega
  simp [m_is_tuple_of, isaT, -v_eqv_ii, e]
-- slots: 0:value
noncomputable def m_is_told_number  : RS :=
  (rRet (rCallN 3 F_is_between (rCons (rVar 0) (rCons (rC (.p (.int 0))) (rCons (rC (.p c_TOP)) rNil)))))

noncomputable def F_is_told_number : List D → Store → R D := selfF 1 m_is_told_number
theorem r_is_told_number : Ref 1 1 F_is_told_number m_is_told_number := ref_self 1 1 m_is_told_number
def numB (i : Int) : Bool := decide (0 ≤ i) && decide (i ≤ 99999)
theorem x_told_number (i : Int) (M : Store) : F_is_told_number [.p (.int i)] M = .ok (.p (.bl (numB i))) M := by
  have h := x_between i 0 99999 M
  refine selfF_ok ?_ (Nat.le_refl _)
  simp [m_is_told_number, c_TOP, h, numB]
-- slots: 0:value
noncomputable def m_is_told_range  : RS :=
  (rRet (rAnd (rCallN 2 F_is_tuple_of (rCons (rVar 0) (rCons (rC (.p (.int 2))) rNil))) (rAnd (rCallN 1 F_is_told_number (rCons (rBin dIx (rVar 0) (rC (.p (.int 0)))) rNil)) (rCallN 1 F_is_told_number (rCons (rBin dIx (rVar 0) (rC (.p (.int 1)))) rNil)))))

noncomputable def F_is_told_range : List D → Store → R D := selfF 1 m_is_told_range
theorem r_is_told_range : Ref 1 1 F_is_told_range m_is_told_range := ref_self 1 1 m_is_told_range
theorem x_told_range (a b : Int) (M : Store) : F_is_told_range [.p (.tup [.int a, .int b])] M = .ok (.p (.bl (numB a && numB b))) M := by
  have h := x_tuple_of [.int a, .int b] 2 M
  have h1 := x_told_number a M
  have h2 := x_told_number b M
  simp at h
  refine selfF_ok ?_ (Nat.le_refl _)
  cases q : numB a <;> rw [q] at h1 <;> simp [m_is_told_range, h, h1, h2, atI, ixN]
-- slots: 0:value
noncomputable def m_is_told_rule  : RS :=
  (rSeq (rIfS (rtOr (rtNot (rTst truthD (rCallN 2 F_is_tuple_of (rCons (rVar 0) (rCons (rBin dAdd (rC (.p (.int 1))) (rC (.p c_RANGES_OF_A_RULE))) rNil))))) (rtNot (rTst truthD (rCallN 1 F_is_bit (rCons (rBin dIx (rVar 0) (rC (.p (.int 0)))) rNil)))))
  (rRet (rC (.p (.bl false))))
  rSkip)
  (rRet (rAnd (rCallN 1 F_is_told_range (rCons (rBin dIx (rVar 0) (rC (.p (.int 1)))) rNil)) (rAnd (rCallN 1 F_is_told_range (rCons (rBin dIx (rVar 0) (rC (.p (.int 2)))) rNil)) (rCallN 1 F_is_told_range (rCons (rBin dIx (rVar 0) (rC (.p (.int 3)))) rNil))))))

noncomputable def F_is_told_rule : List D → Store → R D := selfF 1 m_is_told_rule
theorem r_is_told_rule : Ref 1 1 F_is_told_rule m_is_told_rule := ref_self 1 1 m_is_told_rule
theorem x_told_rule (b a1 b1 a2 b2 a3 b3 : Int) (M : Store) : F_is_told_rule [.p (.tup [.int b, .tup [.int a1, .int b1], .tup [.int a2, .int b2], .tup [.int a3, .int b3]])] M =
    .ok (.p (.bl ((decide (0 ≤ b) && decide (b ≤ 1)) && ((numB a1 && numB b1) && ((numB a2 && numB b2) && (numB a3 && numB b3)))))) M := by
  have h := x_tuple_of [.int b, .tup [.int a1, .int b1], .tup [.int a2, .int b2], .tup [.int a3, .int b3]] 4 M
  have h0 := x_is_bit b M
  have h1 := x_told_range a1 b1 M
  have h2 := x_told_range a2 b2 M
  have h3 := x_told_range a3 b3 M
  simp at h
  refine selfF_ok ?_ (Nat.le_refl _)
  cases q : (decide (0 ≤ b) && decide (b ≤ 1))
  · rw [q] at h0
    simp [m_is_told_rule, c_RANGES_OF_A_RULE, h, h0, atI, ixN]
  · rw [q] at h0
    cases q1 : (numB a1 && numB b1)
    · rw [q1] at h1
      simp [m_is_told_rule, c_RANGES_OF_A_RULE, h, h0, h1, atI, ixN]
    · rw [q1] at h1
      cases q2 : (numB a2 && numB b2)
      · rw [q2] at h2
        simp [m_is_told_rule, c_RANGES_OF_A_RULE, h, h0, h1, h2, atI, ixN]
      · rw [q2] at h2
        simp [m_is_told_rule, c_RANGES_OF_A_RULE, h, h0, h1, h2, h3, atI, ixN]
-- slots: 0:value
noncomputable def m_is_range  : RS :=
  (rRet (rAnd (rCallN 1 F_is_told_range (rCons (rVar 0) rNil)) (rBin dLe (rBin dIx (rVar 0) (rC (.p (.int 0)))) (rBin dIx (rVar 0) (rC (.p (.int 1)))))))

noncomputable def F_is_range : List D → Store → R D := selfF 1 m_is_range
theorem r_is_range : Ref 1 1 F_is_range m_is_range := ref_self 1 1 m_is_range
theorem x_is_range (a b : Int) (M : Store) : F_is_range [.p (.tup [.int a, .int b])] M = .ok (.p (.bl ((numB a && numB b) && decide (a ≤ b)))) M := by
  have h := x_told_range a b M
  refine selfF_ok ?_ (Nat.le_refl _)
  cases q : (numB a && numB b) <;> rw [q] at h <;> simp [m_is_range, h, atI, ixN]
-- slots: 0:value
noncomputable def m_is_rule  : RS :=
  (rSeq (rIfS (rtNot (rTst truthD (rCallN 1 F_is_told_rule (rCons (rVar 0) rNil))))
  (rRet (rC (.p (.bl false))))
  rSkip)
  (rRet (rAnd (rCallN 1 F_is_range (rCons (rBin dIx (rVar 0) (rC (.p (.int 1)))) rNil)) (rAnd (rCallN 1 F_is_range (rCons (rBin dIx (rVar 0) (rC (.p (.int 2)))) rNil)) (rCallN 1 F_is_range (rCons (rBin dIx (rVar 0) (rC (.p (.int 3)))) rNil))))))

noncomputable def F_is_rule : List D → Store → R D := selfF 1 m_is_rule
theorem r_is_rule : Ref 1 1 F_is_rule m_is_rule := ref_self 1 1 m_is_rule
def ruleB (b a1 b1 a2 b2 a3 b3 : Int) : Bool := ((decide (0 ≤ b) && decide (b ≤ 1)) && ((numB a1 && numB b1) && ((numB a2 && numB b2) && (numB a3 && numB b3)))) && (((numB a1 && numB b1) && decide (a1 ≤ b1)) && (((numB a2 && numB b2) && decide (a2 ≤ b2)) && ((numB a3 && numB b3) && decide (a3 ≤ b3))))
theorem x_is_rule (b a1 b1 a2 b2 a3 b3 : Int) (M : Store) : F_is_rule [.p (.tup [.int b, .tup [.int a1, .int b1], .tup [.int a2, .int b2], .tup [.int a3, .int b3]])] M = .ok (.p (.bl (ruleB b a1 b1 a2 b2 a3 b3))) M := by
  have h := x_told_rule b a1 b1 a2 b2 a3 b3 M
  have h1 := x_is_range a1 b1 M
  have h2 := x_is_range a2 b2 M
  have h3 := x_is_range a3 b3 M
  refine selfF_ok ?_ (Nat.le_refl _)
  unfold ruleB
  cases q : ((decide (0 ≤ b) && decide (b ≤ 1)) && ((numB a1 && numB b1) && ((numB a2 && numB b2) && (numB a3 && numB b3))))
  · rw [q] at h
    simp [m_is_rule, h]
  · rw [q] at h
    cases q1 : ((numB a1 && numB b1) && decide (a1 ≤ b1))
    · rw [q1] at h1
      simp [m_is_rule, h, h1, atI, ixN]
    · rw [q1] at h1
      cases q2 : ((numB a2 && numB b2) && decide (a2 ≤ b2))
      · rw [q2] at h2
        simp [m_is_rule, h, h1, h2, atI, ixN]
      · rw [q2] at h2
        simp [m_is_rule, h, h1, h2, h3, atI, ixN]
theorem num_ok {n : Nat} (h : n ≤ 99999) : numB n = true := by simp [numB]; omega
theorem ruleB_ok {r : Rl} (h : r.Ok) : ruleB r.b r.s0.1 r.s0.2 r.s1.1 r.s1.2 r.s2.1 r.s2.2 = true := by
  have h0 := h.b
  have h1 := h.s0
  have h2 := h.s1
  have h3 := h.s2
  unfold SpOk at h1 h2 h3
  unfold ruleB
  rw [num_ok (show r.s0.1 ≤ 99999 by omega), num_ok h1.2, num_ok (show r.s1.1 ≤ 99999 by omega), num_ok h2.2, num_ok (show r.s2.1 ≤ 99999 by omega), num_ok h3.2]
  simp
  omega
theorem x_rule_ok {r : Rl} (h : r.Ok) (M : Store) : F_is_rule [.p r.P] M = .ok (.p (.bl true)) M := by
  have e := x_is_rule r.b r.s0.1 r.s0.2 r.s1.1 r.s1.2 r.s2.1 r.s2.2 M
  rw [ruleB_ok h] at e
  exact e
-- slots: 0:value 1:rule
noncomputable def s_is_rules_1  : RS :=
  (rRet (rC (.p (.bl false))))
noncomputable def s_is_rules_2  : RS :=
  (rRet (rC (.p (.bl false))))
noncomputable def s_is_rules_3  : RS :=
  (rIfS (rtNot (rTst truthD (rCallN 1 F_is_rule (rCons (rVar 1) rNil))))
  s_is_rules_2
  rSkip)
noncomputable def s_is_rules_4  : RS :=
  (rIfS (rtOr (rtNot (rTst truthD (rIsa "tuple" (rVar 0)))) (rTst asBool (rBin dGt (rCB cLen (rCons (rVar 0) rNil)) (rC (.p c_MOST_RULES)))))
  s_is_rules_1
  rSkip)
noncomputable def s_is_rules_5  : RS :=
  (rFor (rVar 0) (gNm 1)
  s_is_rules_3)
noncomputable def s_is_rules_6  : RS :=
  (rRet (rC (.p (.bl true))))
noncomputable def m_is_rules  : RS :=
  (rSeq s_is_rules_4
  (rSeq s_is_rules_5
  s_is_rules_6))

noncomputable def F_is_rules : List D → Store → R D := selfF 2 m_is_rules
theorem r_is_rules : Ref 1 2 F_is_rules m_is_rules := ref_self 1 2 m_is_rules
/-- rows of good rules, and the first bad one -/
theorem x_is_rules {rs : List Rl} (h : ∀ r ∈ rs, r.Ok) (hl : rs.length ≤ 400) (M : Store) : F_is_rules [.p (wallP rs)] M = .ok (.p (.bl true)) M := by
  have hl2 : ¬ (400 : Int) < (rs.length : Nat) := by omega
  obtain ⟨ρ', M2, k1, z, rfl, rfl⟩ := forL_inv (k := none) (g := gNm 1) (body := s_is_rules_3) ((rs.map Rl.P).map D.p) (fun _ ρ M' => ∃ z, M' = M ∧ ρ = [some (.p (wallP rs)), z]) (fun _ _ _ _ => True.intro) (by
    rintro i x ρ M3 hx ⟨z, rfl, rfl⟩
    obtain ⟨hi, e⟩ := List.getElem?_eq_some_iff.mp hx
    simp only [List.length_map] at hi
    simp only [List.getElem_map] at e
    subst e
    have hr := x_rule_ok (h rs[i] (List.getElem_mem hi)) M3
    exact ⟨_, _, [some (.p (wallP rs)), some (.p rs[i].P)], M3, rfl, .inl (by simp [s_is_rules_3, hr]), _, rfl, rfl⟩) (ρ := [some (.p (wallP rs)), none]) (M := M) ⟨none, rfl, rfl⟩
  refine selfF_ok ?_ (Nat.le_refl _)
  unfold wallP at k1 ⊢
  simp [m_is_rules, s_is_rules_4, s_is_rules_5, s_is_rules_6, isaT, c_MOST_RULES, hl2, -List.map_map, k1]
theorem x_is_rules_bad {rs : List Rl} (h : ∀ r ∈ rs, r.Ok) (x : P) (post : List P) (hb : ∀ M, F_is_rule [.p x] M = .ok (.p (.bl false)) M) (hl : rs.length + 1 + post.length ≤ 400) (M : Store) : F_is_rules [.p (.tup (rs.map Rl.P ++ x :: post))] M = .ok (.p (.bl false)) M := by
  obtain ⟨ys, hys⟩ : ∃ ys, ys = rs.map Rl.P ++ x :: post := ⟨_, rfl⟩
  have hlen : ys.length = rs.length + 1 + post.length := by rw [hys]; simp; omega
  have hl2 : ¬ (400 : Int) < (ys.length : Nat) := by omega
  rw [← hys]
  have key := forL_find (k := none) (g := gNm 1) (body := s_is_rules_3) (ys.map D.p) (fun i ρ M' => i ≤ rs.length ∧ M' = M ∧ ∃ z, ρ = [some (.p (.tup ys)), z]) (fun o => o = .rt (.p (.bl false)) M) (fun _ _ _ _ => True.intro) (by
    rintro i y ρ M3 hy ⟨hi, rfl, z, rfl⟩
    rw [List.getElem?_map] at hy
    by_cases c : i = rs.length
    · subst c
      rw [hys, List.getElem?_append_right (by simp)] at hy
      simp at hy
      subst hy
      exact ⟨_, _, rfl, .inr (.inr (.inl ⟨.p (.bl false), M3, by simp [s_is_rules_3, s_is_rules_2, hb], rfl⟩))⟩
    · have hlt : i < rs.length := by omega
      rw [hys, List.getElem?_append_left (by simpa using hlt), List.getElem?_map, List.getElem?_eq_getElem hlt] at hy
      simp at hy
      subst hy
      have hr := x_rule_ok (h rs[i] (List.getElem_mem hlt)) M3
      exact ⟨_, _, rfl, .inl ⟨[some (.p (.tup ys)), some (.p rs[i].P)], M3, .inl (by simp [s_is_rules_3, hr]), by omega, rfl, _, rfl⟩⟩) (by
    rintro ρ M3 ⟨hi, _⟩
    rw [List.length_map, hlen] at hi
    omega) (ρ := [some (.p (.tup ys)), none]) (M := M) ⟨Nat.zero_le _, rfl, none, rfl⟩
  refine selfF_ok ?_ (Nat.le_refl _)
  simp [m_is_rules, s_is_rules_4, s_is_rules_5, isaT, c_MOST_RULES, hl2, -List.map_map, key]
theorem x_is_rules_long (ys : List P) (hl : 400 < ys.length) (M : Store) : F_is_rules [.p (.tup ys)] M = .ok (.p (.bl false)) M := by
  have hl2 : (400 : Int) < (ys.length : Nat) := by omega
  refine selfF_ok ?_ (Nat.le_refl _)
  simp [m_is_rules, s_is_rules_4, s_is_rules_1, isaT, c_MOST_RULES, hl2]
theorem x_is_rules_none (d : D) (M : Store) (h : cIsa "tuple" d M = some (.p (.bl false), M)) : F_is_rules [d] M = .ok (.p (.bl false)) M := by
  refine selfF_ok ?_ (Nat.le_refl _)
  simp [m_is_rules, s_is_rules_4, s_is_rules_1, h]
-- slots: 0:value
noncomputable def s_check_rules_1  : RS :=
  (rRaise "BadRules")
noncomputable def s_check_rules_2  : RS :=
  (rIfS (rtNot (rTst truthD (rCallN 1 F_is_rules (rCons (rVar 0) rNil))))
  s_check_rules_1
  rSkip)
noncomputable def m_check_rules  : RS :=
  s_check_rules_2

noncomputable def F_check_rules : List D → Store → R D := selfF 1 m_check_rules
theorem r_check_rules : Ref 1 1 F_check_rules m_check_rules := ref_self 1 1 m_check_rules
theorem x_check_rules {rs : List Rl} (h : ∀ r ∈ rs, r.Ok) (hl : rs.length ≤ 400) (M : Store) : F_check_rules [.p (wallP rs)] M = .ok (.p .non) M := by
  have e := x_is_rules h hl M
  refine selfF_ok ?_ (Nat.le_refl _)
  simp [m_check_rules, s_check_rules_2, e]
theorem x_check_bad (d : D) (M : Store) (h : F_is_rules [d] M = .ok (.p (.bl false)) M) : F_check_rules [d] M = .ex "BadRules" none M := by
  refine selfF_ex ?_ (Nat.le_refl _)
  simp [m_check_rules, s_check_rules_2, s_check_rules_1, h]
-- slots: 0:cuts 1:first 2:second 3:third
noncomputable def s_check_boxes_1  : RS :=
  (rRaiseF "TooMany" "boxes")
noncomputable def s_check_boxes_2  : RS :=
  (rAsg (rVar 0) (gTp 3 (gCo (gNm 1) (gCo (gNm 2) (gCo (gNm 3) gNi)))))
noncomputable def s_check_boxes_3  : RS :=
  (rIfS (rTst asBool (rBin dGt (rBin dMul (rBin dMul (rCB cLen (rCons (rVar 1) rNil)) (rCB cLen (rCons (rVar 2) rNil))) (rCB cLen (rCons (rVar 3) rNil))) (rC (.p c_MOST_BOXES))))
  s_check_boxes_1
  rSkip)
noncomputable def m_check_boxes  : RS :=
  (rSeq s_check_boxes_2
  s_check_boxes_3)

noncomputable def F_check_boxes : List D → Store → R D := selfF 4 m_check_boxes
theorem r_check_boxes : Ref 1 4 F_check_boxes m_check_boxes := ref_self 1 4 m_check_boxes
theorem x_check_boxes (as bs cs : List Int) (h : as.length * bs.length * cs.length ≤ 60000) (hb : bs.length ≤ 10000) (hc : cs.length ≤ 10000) (M : Store) :
    F_check_boxes [.p (.tup [.tup (as.map .int), .tup (bs.map .int), .tup (cs.map .int)])] M = .ok (.p .non) M := by
  have h1 : ((as.length : Nat) : Int) * (bs.length : Nat) * (cs.length : Nat) = ((as.length * bs.length * cs.length : Nat) : Int) := by simp
  have h2 : ¬ (60000 : Int) < ((as.length : Nat) : Int) * (bs.length : Nat) * (cs.length : Nat) := by rw [h1]; omega
  have m1 := v_mul (as.length : Nat) (bs.length : Nat) M (mul_small (by omega) (by omega))
  have m2 := v_mul ((as.length : Nat) * (bs.length : Nat) : Int) (cs.length : Nat) M (mul_small (by omega) (by omega))
  refine selfF_ok ?_ (Nat.le_refl _)
  simp [m_check_boxes, s_check_boxes_2, s_check_boxes_3, c_MOST_BOXES, m1, m2, h2]
/-! ### cuts -/
-- slots: 0:walls 1:place 2:found 3:rules 4:rule 5:least 6:greatest
noncomputable def s_cuts_at_1  : RS :=
  (rDPut (rVar 2) (rBin dAdd (rVar 6) (rC (.p (.int 1)))) (rC (.p (.bl true))))
noncomputable def s_cuts_at_2  : RS :=
  (rAsg (rBin dIx (rVar 4) (rBin dAdd (rC (.p (.int 1))) (rVar 1))) (gTp 2 (gCo (gNm 5) (gCo (gNm 6) gNi))))
noncomputable def s_cuts_at_3  : RS :=
  (rDPut (rVar 2) (rVar 5) (rC (.p (.bl true))))
noncomputable def s_cuts_at_4  : RS :=
  (rIfS (rTst asBool (rBin dLt (rVar 6) (rC (.p c_TOP))))
  s_cuts_at_1
  rSkip)
noncomputable def b_cuts_at_5  : RS :=
  (rSeq s_cuts_at_2
  (rSeq s_cuts_at_3
  s_cuts_at_4))
noncomputable def s_cuts_at_6  : RS :=
  (rFor (rVar 3) (gNm 4)
  b_cuts_at_5)
noncomputable def s_cuts_at_7  : RS :=
  (rSet 2 (rDisp (((rC (.p (.int 0))), (rC (.p (.bl true)))) :: [])))
noncomputable def s_cuts_at_8  : RS :=
  (rFor (rVar 0) (gNm 3)
  s_cuts_at_6)
noncomputable def s_cuts_at_9  : RS :=
  (rRet (rCB cTuple (rCons (rCB cSorted (rCons (rVar 2) rNil)) rNil)))
noncomputable def m_cuts_at  : RS :=
  (rSeq s_cuts_at_7
  (rSeq s_cuts_at_8
  s_cuts_at_9))

noncomputable def F_cuts_at : List D → Store → R D := selfF 7 m_cuts_at
theorem r_cuts_at : Ref 2 7 F_cuts_at m_cuts_at := ref_self 2 7 m_cuts_at
theorem ix_rule (r : Rl) (p : Nat) (hp : p < 3) (M : Store) : dIx (.p r.P) (.p (.int (1 + (p : Int)))) M = some (.p (spP (r.sp p)), M) := by
  match p, hp with
  | 0, _ => rfl
  | 1, _ => rfl
  | 2, _ => rfl
theorem set_new {α : Type} (M : List α) (o x : α) : (M ++ [o]).set M.length x = M ++ [x] := by simp
theorem cutStep_len (p : Nat) (ks : List Int) (r : Rl) : (cutStep p ks r).length ≤ ks.length + 2 := by
  unfold cutStep
  split
  · have := len_insI (insI ks (r.sp p).1) ((r.sp p).2 + 1)
    have := len_insI ks (r.sp p).1
    omega
  · have := len_insI ks (r.sp p).1
    omega
/-- one rule's cuts -/
theorem cuts_turn (M : Store) (d : D) (p : Nat) (hp : p < 3) (ks : List Int) (r : Rl) (hk : ks.length < 99990) (x3 x5 x6 : Option D) :
    ∃ y5 y6, b_cuts_at_5 [some d, some (.p (.int p)), some (.ref M.length), x3, some (.p r.P), x5, x6] (M ++ [.dk (setK ks)]) = .nx [some d, some (.p (.int p)), some (.ref M.length), x3, some (.p r.P), y5, y6] (M ++ [.dk (setK (cutStep p ks r))]) := by
  have e1 := ix_rule r p hp (M ++ [.dk (setK ks)])
  have l1 := len_insI ks (r.sp p).1
  have p1 := v_put (i := (r.sp p).1) (d := .p (.bl true)) (get_new M (O.dk (setK ks))) (by rw [len_setK]; omega)
  rw [put_setK, set_new] at p1
  have p2 := v_put (i := (r.sp p).2 + 1) (d := .p (.bl true)) (get_new M (O.dk (setK (insI ks (r.sp p).1)))) (by rw [len_setK]; omega)
  rw [put_setK, set_new] at p2
  refine ⟨some (.p (.int (r.sp p).1)), some (.p (.int (r.sp p).2)), ?_⟩
  unfold cutStep
  by_cases c : (r.sp p).2 < 99999
  · have c2 : ((r.sp p).2 : Int) < 99999 := by omega
    simp [b_cuts_at_5, s_cuts_at_2, s_cuts_at_3, s_cuts_at_4, s_cuts_at_1, e1, spP, p1, p2, c, c2, c_TOP]
  · have c2 : ¬ ((r.sp p).2 : Int) < 99999 := by omega
    simp [b_cuts_at_5, s_cuts_at_2, s_cuts_at_3, s_cuts_at_4, s_cuts_at_1, e1, spP, p1, p2, c, c2, c_TOP]
theorem cutFold_le (p : Nat) : ∀ (rs : List Rl) (ks : List Int), (rs.foldl (cutStep p) ks).length ≤ ks.length + 2 * rs.length
  | [], ks => by simp
  | r :: rs, ks => by
    have := cutFold_le p rs (cutStep p ks r)
    have := cutStep_len p ks r
    rw [List.foldl_cons, List.length_cons]
    omega
theorem foldl_take_succ {α β : Type} (f : β → α → β) (b : β) (xs : List α) {i : Nat} {x : α} (h : xs[i]? = some x) : (xs.take (i + 1)).foldl f b = f ((xs.take i).foldl f b) x := by
  obtain ⟨hi, e⟩ := List.getElem?_eq_some_iff.mp h
  rw [List.take_succ, h]
  simp
theorem cuts_wall (M : Store) (d : D) (p : Nat) (hp : p < 3) (ks : List Int) (rs : List Rl) (hk : ks.length + 2 * rs.length ≤ 90000) (x4 x5 x6 : Option D) :
    ∃ y4 y5 y6, s_cuts_at_6 [some d, some (.p (.int p)), some (.ref M.length), some (.p (wallP rs)), x4, x5, x6] (M ++ [.dk (setK ks)]) = .nx [some d, some (.p (.int p)), some (.ref M.length), some (.p (wallP rs)), y4, y5, y6] (M ++ [.dk (setK (rs.foldl (cutStep p) ks))]) := by
  obtain ⟨ρ', M2, k1, y4, y5, y6, rfl, rfl⟩ := forL_inv (k := none) (g := gNm 4) (body := b_cuts_at_5) ((rs.map Rl.P).map D.p) (fun i ρ M' => ∃ y4 y5 y6, M' = M ++ [.dk (setK ((rs.take i).foldl (cutStep p) ks))] ∧ ρ = [some d, some (.p (.int p)), some (.ref M.length), some (.p (wallP rs)), y4, y5, y6]) (fun _ _ _ _ => True.intro) (by
    rintro i x ρ M3 hx ⟨y4, y5, y6, rfl, rfl⟩
    obtain ⟨hi, e⟩ := List.getElem?_eq_some_iff.mp hx
    simp only [List.length_map] at hi
    simp only [List.getElem_map] at e
    subst e
    have hl := cutFold_le p (rs.take i) ks
    rw [List.length_take] at hl
    obtain ⟨z5, z6, e⟩ := cuts_turn M d p hp ((rs.take i).foldl (cutStep p) ks) rs[i] (by omega) (some (.p (wallP rs))) y5 y6
    exact ⟨_, _, _, _, rfl, .inl e, some (.p rs[i].P), z5, z6, by rw [foldl_take_succ _ _ _ (List.getElem?_eq_getElem hi)], rfl⟩) (ρ := [some d, some (.p (.int p)), some (.ref M.length), some (.p (wallP rs)), x4, x5, x6]) (M := M ++ [.dk (setK ks)]) ⟨x4, x5, x6, rfl, rfl⟩
  refine ⟨y4, y5, y6, ?_⟩
  rw [show ((rs.map Rl.P).map D.p).length = rs.length by simp, List.take_length] at k1
  unfold wallP at k1 ⊢
  simp [s_cuts_at_6, -List.map_map, k1]
theorem foldl_flat {α β : Type} (f : β → α → β) : ∀ (xss : List (List α)) (b : β), xss.foldl (fun b xs => xs.foldl f b) b = xss.flatten.foldl f b
  | [], _ => rfl
  | xs :: xss, b => by
    rw [List.foldl_cons, List.flatten_cons, List.foldl_append]
    exact foldl_flat f xss _
theorem flatten_take_succ {α : Type} (W : List (List α)) {i : Nat} {x : List α} (h : W[i]? = some x) : (W.take (i + 1)).flatten = (W.take i).flatten ++ x := by
  rw [List.take_succ, h]
  simp
theorem x_cuts_at (W : List (List Rl)) (p : Nat) (hp : p < 3) (hk : W.flatten.length ≤ 40000) (M : Store) :
    ∃ M', M <+: M' ∧ F_cuts_at [.p (.tup (W.map wallP)), .p (.int p)] M = .ok (.p (.tup ((cutsI p W.flatten).map .int))) M' := by
  obtain ⟨ρ', M2, k1, y3, y4, y5, y6, rfl, rfl⟩ := forL_inv (k := none) (g := gNm 3) (body := s_cuts_at_6) ((W.map wallP).map D.p) (fun i ρ M' => ∃ y3 y4 y5 y6, M' = M ++ [.dk (setK ((W.take i).flatten.foldl (cutStep p) [0]))] ∧ ρ = [some (.p (.tup (W.map wallP))), some (.p (.int p)), some (.ref M.length), y3, y4, y5, y6]) (fun _ _ _ _ => True.intro) (by
    rintro i x ρ M3 hx ⟨y3, y4, y5, y6, rfl, rfl⟩
    obtain ⟨hi, e⟩ := List.getElem?_eq_some_iff.mp hx
    simp only [List.length_map] at hi
    simp only [List.getElem_map] at e
    subst e
    have hl := cutFold_le p (W.take i).flatten [0]
    have hl2 : (W.take i).flatten.length + W[i].length ≤ W.flatten.length := by
      have e1 : (W.take (i + 1)).flatten.length ≤ W.flatten.length := by
        conv => rhs; rw [← List.take_append_drop (i + 1) W, List.flatten_append, List.length_append]
        omega
      rw [flatten_take_succ W (List.getElem?_eq_getElem hi), List.length_append] at e1
      exact e1
    rw [List.length_singleton] at hl
    obtain ⟨z4, z5, z6, e⟩ := cuts_wall M (.p (.tup (W.map wallP))) p hp ((W.take i).flatten.foldl (cutStep p) [0]) W[i] (by omega) y4 y5 y6
    refine ⟨_, _, _, _, rfl, .inl e, some (.p (wallP W[i])), z4, z5, z6, ?_, rfl⟩
    rw [flatten_take_succ W (List.getElem?_eq_getElem hi), List.foldl_append]) (ρ := [some (.p (.tup (W.map wallP))), some (.p (.int p)), some (.ref M.length), none, none, none, none]) (M := M ++ [.dk (setK [0])]) ⟨none, none, none, none, rfl, rfl⟩
  rw [show ((W.map wallP).map D.p).length = W.length by simp, List.take_length] at k1
  have so := v_sorted_d (get_new M (O.dk (setK (W.flatten.foldl (cutStep p) [0]))))
  refine ⟨_, (List.prefix_append M [.dk (setK (W.flatten.foldl (cutStep p) [0]))]).trans (List.prefix_append _ _), selfF_ok ?_ (pfx_len ((List.prefix_append M [.dk (setK (W.flatten.foldl (cutStep p) [0]))]).trans (List.prefix_append _ [.lst ((cutsI p W.flatten).map fun i => .p (.int i))])))⟩
  have e0 : [((Sum.inl 0 : L2.Key), D.p (.bl true))] = setK [0] := rfl
  have tt : cTuple [.ref (M.length + 1)] (M ++ [.dk (setK (W.flatten.foldl (cutStep p) [0])), .lst ((cutsI p W.flatten).map fun i => .p (.int i))]) = some (.p (.tup ((cutsI p W.flatten).map .int)), M ++ [.dk (setK (W.flatten.foldl (cutStep p) [0])), .lst ((cutsI p W.flatten).map fun i => .p (.int i))]) := by
    have g : (M ++ [.dk (setK (W.flatten.foldl (cutStep p) [0])), .lst ((cutsI p W.flatten).map fun i => .p (.int i))])[M.length + 1]? = some (O.lst (((cutsI p W.flatten).map P.int).map D.p)) := by simp [Function.comp_def]
    simp only [cTuple, rowD, g, mkTup, allP_map, Option.map_some]
  rw [show srtI (W.flatten.foldl (cutStep p) [0]) = cutsI p W.flatten from rfl] at so
  simp [m_cuts_at, s_cuts_at_7, s_cuts_at_8, s_cuts_at_9, e0, -List.map_map, k1, so, tt]
-- slots: 0:walls 1:cuts 2:place
noncomputable def s_cuts_of_1  : RS :=
  (rSet 1 (rCB cTuple (rCons (rLC (wRow (rC (.p c_PLACES))) (gNm 2) rYes (rCallN 2 F_cuts_at (rCons (rVar 0) (rCons (rVar 2) rNil))) [2]) rNil)))
noncomputable def s_cuts_of_2  : RS :=
  (rExpr (rCallN 1 F_check_boxes (rCons (rVar 1) rNil)))
noncomputable def s_cuts_of_3  : RS :=
  (rRet (rVar 1))
noncomputable def m_cuts_of  : RS :=
  (rSeq s_cuts_of_1
  (rSeq s_cuts_of_2
  s_cuts_of_3))

noncomputable def F_cuts_of : List D → Store → R D := selfF 3 m_cuts_of
theorem r_cuts_of : Ref 1 3 F_cuts_of m_cuts_of := ref_self 1 3 m_cuts_of
def cutsP (W : List (List Rl)) (p : Nat) : P := .tup ((cutsI p W.flatten).map .int)
def cuts3 (W : List (List Rl)) : P := .tup [cutsP W 0, cutsP W 1, cutsP W 2]
def boxB (W : List (List Rl)) : Prop := (cutsI 0 W.flatten).length * (cutsI 1 W.flatten).length * (cutsI 2 W.flatten).length ≤ 60000 ∧ W.flatten.length ≤ 4000
theorem x_cuts_of (W : List (List Rl)) (hb : boxB W) (M : Store) : ∃ M', M <+: M' ∧ F_cuts_of [.p (.tup (W.map wallP))] M = .ok (.p (cuts3 W)) M' := by
  obtain ⟨M1, ys, k1, k2, k3, k4, k5⟩ := lc_inv (k := none) (g := gNm 2) (te := rCallN 2 F_cuts_at (rCons (rVar 0) (rCons (rVar 2) rNil))) (ρ := wipeE [some (.p (.tup (W.map wallP))), none, none] [2]) (l := M.length) [.p (.int 0), .p (.int 1), .p (.int 2)]
    (fun i acc M' => M <+: M' ∧ acc = ((List.range i).map (cutsP W)).map D.p) (fun _ _ _ _ _ => True.intro) (by
      rintro i x acc M2 hx ha ⟨q, rfl⟩ hM
      have hi : i < 3 := (List.getElem?_eq_some_iff.mp hx).1
      have ex : x = .p (.int i) := by
        match i, hi, hx with
        | 0, _, hx => cases hx; rfl
        | 1, _, hx => cases hx; rfl
        | 2, _, hx => cases hx; rfl
      subst ex
      obtain ⟨M3, p3, e3⟩ := x_cuts_at W i hi (by have := hb.2; omega) M2
      have e4 : F_cuts_at [.p (.tup (W.map wallP)), .p (.int i)] M2 = .ok (.p (cutsP W i)) M3 := e3
      refine ⟨[some (.p (.tup (W.map wallP))), none, some (.p (.int i))], .p (cutsP W i), M3, rfl, by simp [e4], pfx_get p3 hM, ?_, ?_⟩
      · exact pfx_set (q.trans p3) (Nat.le_refl _) _
      · rw [List.range_succ]
        simp) (by simp) (M := M ++ [.lst []]) ⟨List.prefix_append _ _, rfl⟩ (get_new _ _)
  have tt : cTuple [.ref M.length] M1 = some (.p (cuts3 W), M1) := by
    have e : ((List.range 3).map (cutsP W)).map D.p = ([cutsP W 0, cutsP W 1, cutsP W 2]).map D.p := rfl
    rw [k5, show ([D.p (.int 0), .p (.int 1), .p (.int 2)] : List D).length = 3 from rfl, e] at k3
    simp only [cTuple, rowD, k3, mkTup, allP_map, Option.map_some]
    rfl
  have l0 := cutsI_few 0 W.flatten
  have l1 := cutsI_few 1 W.flatten
  have l2 := cutsI_few 2 W.flatten
  have n0 : ∀ p, nfull p W.flatten ≤ W.flatten.length := fun p => List.length_filter_le _ _
  have n00 := n0 0
  have n01 := n0 1
  have n02 := n0 2
  have hb2 := hb.2
  have cb := x_check_boxes (cutsI 0 W.flatten) (cutsI 1 W.flatten) (cutsI 2 W.flatten) hb.1 (by omega) (by omega) M1
  have cb' : F_check_boxes [.p (cuts3 W)] M1 = .ok (.p .non) M1 := cb
  refine ⟨M1, k4, selfF_ok ?_ (pfx_len k4)⟩
  have kk : lcL M.length none (gNm 2) rYes (rCallN 2 F_cuts_at (rCons (rVar 0) (rCons (rVar 2) rNil))) [some (.p (.tup (W.map wallP))), none, none] [.p (.int 0), .p (.int 1), .p (.int 2)] (M ++ [.lst []]) = .ok (.ref M.length) M1 := k1
  simp [m_cuts_of, s_cuts_of_1, s_cuts_of_2, s_cuts_of_3, c_PLACES, wipeE, kk, tt, cb']
-- slots: 0:rules 1:cuts 2:place 3:masks 4:numbers 5:at 6:cut 7:number 8:rule 9:begin 10:end 11:least 12:greatest
noncomputable def s_masks_at_1  : RS :=
  (rDPut (rVar 4) (rVar 6) (rVar 5))
noncomputable def s_masks_at_2  : RS :=
  (rAsg (rBin dBOr (rBin dIx (rVar 3) (rVar 5)) (rBin dShl (rC (.p (.int 1))) (rVar 7))) (gSu (rVar 3) (rVar 5) setD))
noncomputable def s_masks_at_3  : RS :=
  (rAsg (rBin dIx (rVar 8) (rBin dAdd (rC (.p (.int 1))) (rVar 2))) (gTp 2 (gCo (gNm 11) (gCo (gNm 12) gNi))))
noncomputable def s_masks_at_4  : RS :=
  (rSet 9 (rBin dGet (rVar 4) (rVar 11)))
noncomputable def s_masks_at_5  : RS :=
  (rSet 10 (rIf (rTst asBool (rBin dLt (rVar 12) (rC (.p c_TOP)))) (rBin dGet (rVar 4) (rBin dAdd (rVar 12) (rC (.p (.int 1))))) (rCB cLen (rCons (rVar 1) rNil))))
noncomputable def s_masks_at_6  : RS :=
  (rForR rng2 (rCons (rVar 9) (rCons (rVar 10) rNil)) (gNm 5)
  s_masks_at_2)
noncomputable def b_masks_at_7  : RS :=
  (rSeq s_masks_at_3
  (rSeq s_masks_at_4
  (rSeq s_masks_at_5
  s_masks_at_6)))
noncomputable def s_masks_at_8  : RS :=
  (rSet 3 (rBin dMul (rLst (rCons (rC (.p (.int 0))) rNil)) (rCB cLen (rCons (rVar 1) rNil))))
noncomputable def s_masks_at_9  : RS :=
  (rSet 4 rDict0)
noncomputable def s_masks_at_10  : RS :=
  (rForW (wEnumT (rCons (rVar 1) rNil)) (gTp 2 (gCo (gNm 5) (gCo (gNm 6) gNi)))
  s_masks_at_1)
noncomputable def s_masks_at_11  : RS :=
  (rForW (wEnumT (rCons (rVar 0) rNil)) (gTp 2 (gCo (gNm 7) (gCo (gNm 8) gNi)))
  b_masks_at_7)
noncomputable def s_masks_at_12  : RS :=
  (rRet (rVar 3))
noncomputable def m_masks_at  : RS :=
  (rSeq s_masks_at_8
  (rSeq s_masks_at_9
  (rSeq s_masks_at_10
  (rSeq s_masks_at_11
  s_masks_at_12))))

noncomputable def F_masks_at : List D → Store → R D := selfF 13 m_masks_at
theorem r_masks_at : Ref 3 13 F_masks_at m_masks_at := ref_self 3 13 m_masks_at
def StM (M : Store) (ms : List D) (kvs : List (L2.Key × D)) : Store := M ++ [.lst [.p (.int 0)], .lst ms, .dk kvs]
theorem st_1 (M : Store) (ms kvs) : (StM M ms kvs)[M.length + 1]? = some (.lst ms) := by simp [StM]
theorem st_2 (M : Store) (ms kvs) : (StM M ms kvs)[M.length + 2]? = some (.dk kvs) := by simp [StM]
theorem st_s1 (M : Store) (ms ms' kvs) : (StM M ms kvs).set (M.length + 1) (.lst ms') = StM M ms' kvs := by
  unfold StM
  rw [List.set_append_right _ _ (by omega)]
  simp
theorem st_s2 (M : Store) (ms kvs kvs') : (StM M ms kvs).set (M.length + 2) (.dk kvs') = StM M ms kvs' := by
  unfold StM
  rw [List.set_append_right _ _ (by omega)]
  simp
theorem masks_numbers (M : Store) (ms : List D) (cs : List Int) (hc : cs.Pairwise (· < ·)) (hl : cs.length ≤ 90000) (x0 x2 x3 x7 x8 x9 x10 x11 x12 x5 x6 : Option D) :
    ∃ y5 y6, s_masks_at_10 [x0, some (.p (.tup (cs.map .int))), x2, x3, some (.ref (M.length + 2)), x5, x6, x7, x8, x9, x10, x11, x12] (StM M ms []) = .nx [x0, some (.p (.tup (cs.map .int))), x2, x3, some (.ref (M.length + 2)), y5, y6, x7, x8, x9, x10, x11, x12] (StM M ms (numK cs cs.length)) := by
  obtain ⟨ρ', M2, k1, y5, y6, rfl, rfl⟩ := forL_inv (k := none) (g := gTp 2 (gCo (gNm 5) (gCo (gNm 6) gNi))) (body := s_masks_at_1) (enumD ((cs.map P.int).map D.p)) (fun i ρ M' => ∃ y5 y6, M' = StM M ms (numK cs i) ∧ ρ = [x0, some (.p (.tup (cs.map .int))), x2, x3, some (.ref (M.length + 2)), y5, y6, x7, x8, x9, x10, x11, x12]) (fun _ _ _ _ => True.intro) (by
    rintro i x ρ M3 hx ⟨y5, y6, rfl, rfl⟩
    have hi : i < cs.length := by
      have := (List.getElem?_eq_some_iff.mp hx).1
      rw [enumD_len] at this
      simpa using this
    rw [enumD_get (by simpa using hi)] at hx
    simp at hx
    subst hx
    have eg : cs.getD i 0 = cs[i] := by simp [List.getD_eq_getElem?_getD, List.getElem?_eq_getElem hi]
    have p1 := v_put (i := cs[i]) (d := .p (.int i)) (st_2 M ms (numK cs i)) (by rw [numK_len]; omega)
    rw [← eg, numK_put hc hi, st_s2, eg] at p1
    exact ⟨_, _, [x0, some (.p (.tup (cs.map .int))), x2, x3, some (.ref (M.length + 2)), some (.p (.int i)), some (.p (.int cs[i])), x7, x8, x9, x10, x11, x12], _, by simp <;> exact ⟨rfl, rfl⟩, .inl (by simp [s_masks_at_1, p1]), _, _, rfl, rfl⟩) (ρ := [x0, some (.p (.tup (cs.map .int))), x2, x3, some (.ref (M.length + 2)), x5, x6, x7, x8, x9, x10, x11, x12]) (M := StM M ms []) ⟨x5, x6, rfl, rfl⟩
  rw [enumD_len] at k1
  simp only [List.length_map] at k1
  exact ⟨y5, y6, by simp [s_masks_at_10, -List.map_map, k1]⟩
theorem masks_inner (M : Store) (kvs : List (L2.Key × D)) (cs : List Int) (rs : List Rl) (p j b e : Nat) (hj : j ≤ 1000) (he : e ≤ cs.length) (hbe : b ≤ e) (hl : cs.length ≤ 90000) (hh : ∀ x, b ≤ x → x < e → hasA rs p (cs.getD x 0) j = true) (x0 x1 x2 x4 x5 x6 x8 x11 x12 : Option D) :
    ∃ y5, s_masks_at_6 [x0, x1, x2, some (.ref (M.length + 1)), x4, x5, x6, some (.p (.int j)), x8, some (.p (.int b)), some (.p (.int e)), x11, x12] (StM M (maskL rs p cs j) kvs) = .nx [x0, x1, x2, some (.ref (M.length + 1)), x4, y5, x6, some (.p (.int j)), x8, some (.p (.int b)), some (.p (.int e)), x11, x12] (StM M (maskM rs p cs j b (e - b)) kvs) := by
  have er := rng2_ok (b : Int) (e : Int) (by omega) (by omega) (by omega) (by omega)
  rw [show ((e : Int) - (b : Int)).toNat = e - b by omega] at er
  have sh := fun M => v_shl 1 (j : Int) M ⟨by omega, by omega, by decide⟩
  obtain ⟨ρ', M2, k1, y5, rfl, rfl⟩ := forL_inv (k := none) (g := gNm 5) (body := s_masks_at_2) (intsD (b : Int) (e - b)) (fun i ρ M' => ∃ y5, M' = StM M (maskM rs p cs j b i) kvs ∧ ρ = [x0, x1, x2, some (.ref (M.length + 1)), x4, y5, x6, some (.p (.int j)), x8, some (.p (.int b)), some (.p (.int e)), x11, x12]) (fun _ _ _ _ => True.intro) (by
    rintro i x ρ M3 hx ⟨y5, rfl, rfl⟩
    have hi : i < e - b := by
      have := (List.getElem?_eq_some_iff.mp hx).1
      rw [intsD_len] at this
      exact this
    rw [intsD_get _ _ i hi] at hx
    cases hx
    have ec : (b : Int) + (i : Int) = ((b + i : Nat) : Int) := by omega
    rw [ec]
    have g1 := v_ix_l (M.length + 1) _ (b + i) _ _ (st_1 M (maskM rs p cs j b i) kvs) (maskM_get rs p cs j b i (by omega))
    have o1 := or_new (hh (b + i) (by omega) (by omega))
    have s1 := v_set (M.length + 1) _ (b + i) (maskD rs p (cs.getD (b + i) 0) (j + 1)) _ (st_1 M (maskM rs p cs j b i) kvs) (by rw [maskM_len]; omega)
    rw [maskM_set, st_s1] at s1
    obtain ⟨m0, h0⟩ : ∃ m0 : Int, m0 = (maskOf (hasA rs p (cs.getD (b + i) 0)) j : Nat) := ⟨_, rfl⟩
    obtain ⟨m1, h1⟩ : ∃ m1 : Int, m1 = (maskOf (hasA rs p (cs.getD (b + i) 0)) (j + 1) : Nat) := ⟨_, rfl⟩
    unfold maskD at g1 s1
    rw [← h0] at g1
    rw [← h1] at s1
    refine ⟨_, _, [x0, x1, x2, some (.ref (M.length + 1)), x4, some (.p (.int ((b + i : Nat) : Int))), x6, some (.p (.int j)), x8, some (.p (.int b)), some (.p (.int e)), x11, x12], _, rfl, .inl ?_, _, rfl, rfl⟩
    have e2 : ∀ S : Store, dBOr (.p (.int m0)) (.p (.int (1 * 2 ^ j))) S = some (.p (.int m1), S) := fun S => by
      rw [v_bor, h0, o1, h1]
    simp only [Int.natCast_add] at g1 s1 ⊢
    simp [s_masks_at_2, g1, sh, -v_bor, -Int.one_mul, e2, s1]) (ρ := [x0, x1, x2, some (.ref (M.length + 1)), x4, x5, x6, some (.p (.int j)), x8, some (.p (.int b)), some (.p (.int e)), x11, x12]) (M := StM M (maskL rs p cs j) kvs) ⟨x5, by rw [maskM_zero], rfl⟩
  rw [intsD_len] at k1
  exact ⟨y5, by simp [s_masks_at_6, er, k1]⟩
theorem masks_turn (M : Store) (cs : List Int) (rs : List Rl) (p j : Nat) (hp : p < 3) (hj : j ≤ 1000) (hl : cs.length ≤ 90000) (hC : CutsOf cs p rs) (r : Rl) (hr : rs[j]? = some r) (hok : r.Ok) (x0 x5 x6 x9 x10 x11 x12 : Option D) :
    ∃ y5 y9 y10 y11 y12, b_masks_at_7 [x0, some (.p (.tup (cs.map .int))), some (.p (.int p)), some (.ref (M.length + 1)), some (.ref (M.length + 2)), x5, x6, some (.p (.int j)), some (.p r.P), x9, x10, x11, x12] (StM M (maskL rs p cs j) (numK cs cs.length)) =
      .nx [x0, some (.p (.tup (cs.map .int))), some (.p (.int p)), some (.ref (M.length + 1)), some (.ref (M.length + 2)), y5, x6, some (.p (.int j)), some (.p r.P), y9, y10, y11, y12] (StM M (maskL rs p cs (j + 1)) (numK cs cs.length)) := by
  obtain ⟨b, e, hb, eb, hbe, he, hee, hh⟩ := hC.begin (List.mem_of_getElem? hr) hok
  have hA : ∀ x, b ≤ x → x < e → hasA rs p (cs.getD x 0) j = true := fun x h1 h2 => by
    have := (hh x (by omega)).mp ⟨h1, h2⟩
    unfold hasA
    rw [hr]
    show r.hasAt p (cs.getD x 0) = true
    unfold Rl.hasAt
    rw [decide_eq_true this.1, decide_eq_true this.2]
    rfl
  have e1 := fun S => ix_rule r p hp S
  have v1 := numK_val hC.lt cs.length (Nat.le_refl _) hb
  rw [eb] at v1
  have d1 := v_dget (st_2 M (maskL rs p cs j) (numK cs cs.length)) v1
  obtain ⟨y5, k1⟩ := masks_inner M (numK cs cs.length) cs rs p j b e hj he hbe hl hA x0 (some (.p (.tup (cs.map .int)))) (some (.p (.int p))) (some (.ref (M.length + 2))) x5 x6 (some (.p r.P)) (some (.p (.int (r.sp p).1))) (some (.p (.int (r.sp p).2)))
  rw [maskM_done hr hh hbe] at k1
  refine ⟨y5, some (.p (.int b)), some (.p (.int e)), some (.p (.int (r.sp p).1)), some (.p (.int (r.sp p).2)), ?_⟩
  by_cases c : (r.sp p).2 < 99999
  · have c2 : ((r.sp p).2 : Int) < 99999 := by omega
    rw [if_pos c] at hee
    have v2 := numK_val hC.lt cs.length (Nat.le_refl _) hee.1
    rw [hee.2] at v2
    have d2 := v_dget (st_2 M (maskL rs p cs j) (numK cs cs.length)) v2
    simp [b_masks_at_7, s_masks_at_3, s_masks_at_4, s_masks_at_5, e1, spP, d1, d2, c_TOP, c2, k1]
  · have c2 : ¬ ((r.sp p).2 : Int) < 99999 := by omega
    rw [if_neg c] at hee
    subst hee
    simp [b_masks_at_7, s_masks_at_3, s_masks_at_4, s_masks_at_5, e1, spP, d1, c_TOP, c2, k1]
theorem x_masks_at (rs : List Rl) (hok : ∀ r ∈ rs, r.Ok) (cs : List Int) (p : Nat) (hp : p < 3) (hC : CutsOf cs p rs) (hl : cs.length ≤ 90000) (hr : rs.length ≤ 900) (M : Store) :
    ∃ M', M <+: M' ∧ F_masks_at [.p (wallP rs), .p (.tup (cs.map .int)), .p (.int p)] M = .ok (.ref (M.length + 1)) M' ∧ M'[M.length + 1]? = some (.lst (maskL rs p cs rs.length)) := by
  obtain ⟨y5, y6, k1⟩ := masks_numbers M (maskL rs p cs 0) cs hC.lt hl (some (.p (wallP rs))) (some (.p (.int p))) (some (.ref (M.length + 1))) none none none none none none none none
  obtain ⟨ρ', M2, k2, z5, z7, z8, z9, z10, z11, z12, rfl, rfl⟩ := forL_inv (k := none) (g := gTp 2 (gCo (gNm 7) (gCo (gNm 8) gNi))) (body := b_masks_at_7) (enumD ((rs.map Rl.P).map D.p)) (fun i ρ M' => ∃ z5 z7 z8 z9 z10 z11 z12, M' = StM M (maskL rs p cs i) (numK cs cs.length) ∧ ρ = [some (.p (wallP rs)), some (.p (.tup (cs.map .int))), some (.p (.int p)), some (.ref (M.length + 1)), some (.ref (M.length + 2)), z5, y6, z7, z8, z9, z10, z11, z12]) (fun _ _ _ _ => True.intro) (by
    rintro i x ρ M3 hx ⟨z5, z7, z8, z9, z10, z11, z12, rfl, rfl⟩
    have hi : i < rs.length := by
      have := (List.getElem?_eq_some_iff.mp hx).1
      rw [enumD_len] at this
      simpa using this
    rw [enumD_get (by simpa using hi)] at hx
    simp at hx
    subst hx
    obtain ⟨w5, w9, w10, w11, w12, e⟩ := masks_turn M cs rs p i hp (by omega) hl hC rs[i] (List.getElem?_eq_getElem hi) (hok _ (List.getElem_mem hi)) (some (.p (wallP rs))) z5 y6 z9 z10 z11 z12
    exact ⟨_, _, _, _, by simp <;> exact ⟨rfl, rfl⟩, .inl e, w5, _, _, w9, w10, w11, w12, rfl, rfl⟩) (ρ := [some (.p (wallP rs)), some (.p (.tup (cs.map .int))), some (.p (.int p)), some (.ref (M.length + 1)), some (.ref (M.length + 2)), y5, y6, none, none, none, none, none, none]) (M := StM M (maskL rs p cs 0) (numK cs cs.length)) ⟨y5, none, none, none, none, none, none, rfl, rfl⟩
  rw [enumD_len] at k2
  simp only [List.length_map] at k2
  have pf : M <+: StM M (maskL rs p cs rs.length) (numK cs cs.length) := List.prefix_append _ _
  refine ⟨_, pf, selfF_ok ?_ (pfx_len pf), st_1 _ _ _⟩
  have rep : dMul (.ref M.length) (.p (.int (cs.length : Nat))) (M ++ [.lst [.p (.int 0)]]) = some (.ref (M.length + 1), M ++ [.lst [.p (.int 0)], .lst (maskL rs p cs 0)]) := by
    have g : (M ++ [O.lst [.p (.int 0)]])[M.length]? = some (.lst [.p (.int 0)]) := get_new _ _
    have c : -(2 ^ 63) ≤ (cs.length : Int) ∧ (cs.length : Int) < 2 ^ 63 ∧ [D.p (.int 0)].length * (cs.length : Int).toNat ≤ sizeLine := ⟨by omega, by omega, le_line (by simp; omega)⟩
    simp only [dMul, g]
    rw [if_pos c, maskL_zero]
    have e : (List.replicate (cs.length : Int).toNat [D.p (.int 0)]).flatten = List.replicate cs.length (D.p (.int 0)) := by simp
    rw [e]
    simp
  have em : M ++ [O.lst [.p (.int 0)], .lst (maskL rs p cs 0)] ++ [.dk []] = StM M (maskL rs p cs 0) [] := by simp [StM]
  unfold wallP at k1 k2 ⊢
  simp [m_masks_at, s_masks_at_8, s_masks_at_9, rep]
  rw [show M ++ [O.lst [.p (.int 0)], .lst (maskL rs p cs 0), .dk []] = StM M (maskL rs p cs 0) [] from rfl, k1]
  simp [s_masks_at_11, s_masks_at_12, -List.map_map, k2]

/-! ### the grid -/
theorem n_rc : ¬ (("rules" : Str) = "cuts") := by decide +kernel
theorem n_rm : ¬ (("rules" : Str) = "masks") := by decide +kernel
theorem n_cm : ¬ (("cuts" : Str) = "masks") := by decide +kernel
theorem n_rl : ¬ (("rules" : Str) = "letting") := by decide +kernel
theorem n_cl : ¬ (("cuts" : Str) = "letting") := by decide +kernel
theorem n_ml : ¬ (("masks" : Str) = "letting") := by decide +kernel
def gridF (R C Mk L : D) : List (Str × D) := [("rules", R), ("cuts", C), ("masks", Mk), ("letting", L)]
theorem put_1 (R : D) : putFD "rules" R [] = [(("rules" : Str), R)] := rfl
theorem put_2 (R C : D) : putFD "cuts" C [(("rules" : Str), R)] = [(("rules" : Str), R), ("cuts", C)] := by simp only [putFD, if_neg n_rc]
theorem put_3 (R C Mk : D) : putFD "masks" Mk [(("rules" : Str), R), ("cuts", C)] = [(("rules" : Str), R), ("cuts", C), ("masks", Mk)] := by simp only [putFD, if_neg n_rm, if_neg n_cm]
theorem put_4 (R C Mk L : D) : putFD "letting" L [(("rules" : Str), R), ("cuts", C), ("masks", Mk)] = gridF R C Mk L := by simp only [putFD, if_neg n_rl, if_neg n_cl, if_neg n_ml, gridF]
theorem put_5 (R C Mk L L' : D) : putFD "letting" L' (gridF R C Mk L) = gridF R C Mk L' := by simp only [gridF, putFD, if_neg n_rl, if_neg n_cl, if_neg n_ml, if_true]
theorem b_of {a b : Str} (h : ¬ a = b) : (b == a) = false := beq_eq_false_iff_ne.mpr fun z => h z.symm
theorem look_r (R C Mk L : D) : (gridF R C Mk L).lookup ("rules" : Str) = some R := by simp [gridF, List.lookup]
theorem look_c (R C Mk L : D) : (gridF R C Mk L).lookup ("cuts" : Str) = some C := by
  simp only [gridF, List.lookup_cons, b_of n_rc, beq_self_eq_true]
theorem look_m (R C Mk L : D) : (gridF R C Mk L).lookup ("masks" : Str) = some Mk := by
  simp only [gridF, List.lookup_cons, b_of n_rm, b_of n_cm, beq_self_eq_true]
theorem look_l (R C Mk L : D) : (gridF R C Mk L).lookup ("letting" : Str) = some L := by
  simp only [gridF, List.lookup_cons, b_of n_rl, b_of n_cl, b_of n_ml, beq_self_eq_true]
theorem look_no (R C Mk L : D) (m : Str) (h1 : ¬ ("rules" : Str) = m) (h2 : ¬ ("cuts" : Str) = m) (h3 : ¬ ("masks" : Str) = m) (h4 : ¬ ("letting" : Str) = m) : (gridF R C Mk L).lookup m = none := by
  simp only [gridF, List.lookup_cons, b_of h1, b_of h2, b_of h3, b_of h4, List.lookup_nil]
def cutP (c0 c1 c2 : List Int) : P := .tup [.tup (c0.map .int), .tup (c1.map .int), .tup (c2.map .int)]
def cAt (c0 c1 c2 : List Int) : Nat → List Int
  | 0 => c0
  | 1 => c1
  | _ => c2
structure IsGrid (M : Store) (g : Nat) (rs : List Rl) (c0 c1 c2 : List Int) : Prop where
  is_ : ∃ lm a0 a1 a2, M[g]? = some (.ins "Grid" (gridF (.p (wallP rs)) (.p (cutP c0 c1 c2)) (.ref lm) (.p (.int (maskOf (bitK rs) rs.length))))) ∧ M[lm]? = some (.lst [.ref a0, .ref a1, .ref a2]) ∧
    M[a0]? = some (.lst (maskL rs 0 c0 rs.length)) ∧ M[a1]? = some (.lst (maskL rs 1 c1 rs.length)) ∧ M[a2]? = some (.lst (maskL rs 2 c2 rs.length))
theorem IsGrid.pfx {M M' : Store} {g : Nat} {rs : List Rl} {c0 c1 c2 : List Int} (h : IsGrid M g rs c0 c1 c2) (p : M <+: M') : IsGrid M' g rs c0 c1 c2 := by
  obtain ⟨lm, a0, a1, a2, h1, h2, h3, h4, h5⟩ := h.is_
  exact ⟨lm, a0, a1, a2, pfx_get p h1, pfx_get p h2, pfx_get p h3, pfx_get p h4, pfx_get p h5⟩
theorem ix_cut (c0 c1 c2 : List Int) (p : Nat) (hp : p < 3) (M : Store) : dIx (.p (cutP c0 c1 c2)) (.p (.int (p : Int))) M = some (.p (.tup ((cAt c0 c1 c2 p).map .int)), M) := by
  match p, hp with
  | 0, _ => rfl
  | 1, _ => rfl
  | 2, _ => rfl
-- slots: 0:self 1:rules 2:cuts 3:number 4:rule 5:place
noncomputable def s_Grid___init___1  : RS :=
  (rSetF "Grid" "letting" (rVar 0) (rBin dBOr (rUn (dFld "Grid" "letting") (rVar 0)) (rBin dShl (rC (.p (.int 1))) (rVar 3))))
noncomputable def s_Grid___init___2  : RS :=
  (rIfS (rTst truthD (rBin dIx (rVar 4) (rC (.p (.int 0)))))
  s_Grid___init___1
  rSkip)
noncomputable def s_Grid___init___3  : RS :=
  (rSetF "Grid" "rules" (rVar 0) (rVar 1))
noncomputable def s_Grid___init___4  : RS :=
  (rSetF "Grid" "cuts" (rVar 0) (rVar 2))
noncomputable def s_Grid___init___5  : RS :=
  (rSetF "Grid" "masks" (rVar 0) (rLC (wRow (rC (.p c_PLACES))) (gNm 5) rYes (rCallN 3 F_masks_at (rCons (rVar 1) (rCons (rBin dIx (rVar 2) (rVar 5)) (rCons (rVar 5) rNil)))) [5]))
noncomputable def s_Grid___init___6  : RS :=
  (rSetF "Grid" "letting" (rVar 0) (rC (.p (.int 0))))
noncomputable def s_Grid___init___7  : RS :=
  (rForW (wEnumT (rCons (rVar 1) rNil)) (gTp 2 (gCo (gNm 3) (gCo (gNm 4) gNi)))
  s_Grid___init___2)
noncomputable def m_Grid___init__  : RS :=
  (rSeq s_Grid___init___3
  (rSeq s_Grid___init___4
  (rSeq s_Grid___init___5
  (rSeq s_Grid___init___6
  s_Grid___init___7))))

noncomputable def F_Grid___init__ : List D → Store → R D := selfF 6 m_Grid___init__
theorem r_Grid___init__ : Ref 3 6 F_Grid___init__ m_Grid___init__ := ref_self 3 6 m_Grid___init__
theorem grid_letting (M3 : Store) (g : Nat) (hg : g < M3.length) (rs : List Rl) (hr : rs.length ≤ 900) (R C Mk : D) (x2 x5 : Option D) :
    ∃ y3 y4, s_Grid___init___7 [some (.ref g), some (.p (wallP rs)), x2, none, none, x5] (M3.set g (.ins "Grid" (gridF R C Mk (.p (.int 0))))) = .nx [some (.ref g), some (.p (wallP rs)), x2, y3, y4, x5] (M3.set g (.ins "Grid" (gridF R C Mk (.p (.int (maskOf (bitK rs) rs.length)))))) := by
  have gget : ∀ o : O, (M3.set g o)[g]? = some o := fun o => List.getElem?_set_self hg
  obtain ⟨ρ', M2, k1, y3, y4, rfl, rfl⟩ := forL_inv (k := none) (g := gTp 2 (gCo (gNm 3) (gCo (gNm 4) gNi))) (body := s_Grid___init___2) (enumD ((rs.map Rl.P).map D.p)) (fun i ρ M' => ∃ y3 y4, M' = M3.set g (.ins "Grid" (gridF R C Mk (.p (.int (maskOf (bitK rs) i))))) ∧ ρ = [some (.ref g), some (.p (wallP rs)), x2, y3, y4, x5]) (fun _ _ _ _ => True.intro) (by
    rintro i x ρ Mx hx ⟨y3, y4, rfl, rfl⟩
    have hi : i < rs.length := by
      have := (List.getElem?_eq_some_iff.mp hx).1
      rw [enumD_len] at this
      simpa using this
    rw [enumD_get (by simpa using hi)] at hx
    simp at hx
    subst hx
    obtain ⟨r, hr0⟩ : ∃ r, r = rs[i] := ⟨_, rfl⟩
    rw [← hr0]
    have hk : bitK rs i = decide (r.b ≠ 0) := by
      unfold bitK
      rw [List.getElem?_eq_getElem hi, ← hr0]
    have e1 : ∀ S, dIx (.p r.P) (.p (.int 0)) S = some (.p (.int r.b), S) := fun S => rfl
    have sh := fun M => v_shl 1 (i : Int) M ⟨by omega, by omega, by decide⟩
    refine ⟨_, _, [some (.ref g), some (.p (wallP rs)), x2, some (.p (.int i)), some (.p r.P), x5], _, by simp <;> exact ⟨rfl, rfl⟩, .inl ?_, _, _, rfl, rfl⟩
    cases q : bitK rs i with
    | false =>
      have hb : r.b = 0 := by rw [hk] at q; simpa using q
      rw [or_old q]
      simp [s_Grid___init___2, e1, hb]
    | true =>
      have hb : ¬ r.b = 0 := by rw [hk] at q; simpa using q
      have o1 := or_new q
      obtain ⟨m0, h0⟩ : ∃ m0 : Int, m0 = (maskOf (bitK rs) i : Nat) := ⟨_, rfl⟩
      obtain ⟨m1, h1⟩ : ∃ m1 : Int, m1 = (maskOf (bitK rs) (i + 1) : Nat) := ⟨_, rfl⟩
      have f1 := v_fld (gget (.ins "Grid" (gridF R C Mk (.p (.int m0))))) (look_l R C Mk (.p (.int m0)))
      have f2 := v_setF (d := .p (.int m1)) (f := "letting") (gget (.ins "Grid" (gridF R C Mk (.p (.int m0))))) (by show 4 < 1000; omega)
      rw [put_5, List.set_set] at f2
      have e2 : ∀ S : Store, dBOr (.p (.int m0)) (.p (.int (1 * 2 ^ i))) S = some (.p (.int m1), S) := fun S => by
        rw [v_bor, h0, o1, h1]
      rw [← h0, ← h1]
      simp [s_Grid___init___2, s_Grid___init___1, e1, hb, f1, sh, -v_bor, -Int.one_mul, e2, f2]) (ρ := [some (.ref g), some (.p (wallP rs)), x2, none, none, x5]) (M := M3.set g (.ins "Grid" (gridF R C Mk (.p (.int 0))))) ⟨none, none, rfl, rfl⟩
  rw [enumD_len] at k1
  simp only [List.length_map] at k1
  refine ⟨y3, y4, ?_⟩
  unfold wallP at k1 ⊢
  simp [s_Grid___init___7, -List.map_map, k1]
theorem x_grid_init (rs : List Rl) (hok : ∀ r ∈ rs, r.Ok) (c0 c1 c2 : List Int) (hC : ∀ p, p < 3 → CutsOf (cAt c0 c1 c2 p) p rs) (hl : ∀ p, p < 3 → (cAt c0 c1 c2 p).length ≤ 90000) (hr : rs.length ≤ 900) (M : Store) :
    ∃ M', M <+: M' ∧ F_Grid___init__ [.ref M.length, .p (wallP rs), .p (cutP c0 c1 c2)] (M ++ [.ins "Grid" []]) = .ok (.p .non) M' ∧ IsGrid M' M.length rs c0 c1 c2 := by
  obtain ⟨S2, hS2⟩ : ∃ S2 : Store, S2 = M ++ [.ins "Grid" [(("rules" : Str), .p (wallP rs)), (("cuts" : Str), .p (cutP c0 c1 c2))]] := ⟨_, rfl⟩
  have l2 : S2.length = M.length + 1 := by rw [hS2]; simp
  have g2 : S2[M.length]? = some (.ins "Grid" [(("rules" : Str), .p (wallP rs)), (("cuts" : Str), .p (cutP c0 c1 c2))]) := by rw [hS2]; exact get_new _ _
  obtain ⟨M3, ys, k1, k2, k3, k4, k5⟩ := lc_inv (k := none) (g := gNm 5) (te := rCallN 3 F_masks_at (rCons (rVar 1) (rCons (rBin dIx (rVar 2) (rVar 5)) (rCons (rVar 5) rNil)))) (ρ := wipeE [some (.ref M.length), some (.p (wallP rs)), some (.p (cutP c0 c1 c2)), none, none, none] [5]) (l := S2.length) [.p (.int 0), .p (.int 1), .p (.int 2)]
    (fun i acc M' => S2 <+: M' ∧ ∀ j, j < i → ∃ a, acc[j]? = some (.ref a) ∧ S2.length < a ∧ M'[a]? = some (.lst (maskL rs j (cAt c0 c1 c2 j) rs.length))) (fun _ _ _ _ _ => True.intro) (by
      rintro i x acc M2 hx ha ⟨q, hq⟩ hM
      have hi : i < 3 := (List.getElem?_eq_some_iff.mp hx).1
      have ex : x = .p (.int i) := by
        match i, hi, hx with
        | 0, _, hx => cases hx; rfl
        | 1, _, hx => cases hx; rfl
        | 2, _, hx => cases hx; rfl
      subst ex
      obtain ⟨M4, p4, e4, g4⟩ := x_masks_at rs hok (cAt c0 c1 c2 i) i hi (hC i hi) (hl i hi) hr M2
      have ixc := ix_cut c0 c1 c2 i hi M2
      have hlt := get_lt hM
      refine ⟨[some (.ref M.length), some (.p (wallP rs)), some (.p (cutP c0 c1 c2)), none, none, some (.p (.int i))], .ref (M2.length + 1), M4, rfl, by simp [ixc, e4], pfx_get p4 hM, pfx_set (q.trans p4) (Nat.le_refl _) _, fun j hj => ?_⟩
      by_cases c : j = i
      · subst c
        refine ⟨M2.length + 1, by rw [List.getElem?_append_right (by omega), ha]; simp, by omega, ?_⟩
        rw [List.getElem?_set_ne (by omega)]
        exact g4
      · obtain ⟨a, f1, f2, f3⟩ := hq j (by omega)
        refine ⟨a, ?_, f2, ?_⟩
        · rw [List.getElem?_append_left (by omega)]; exact f1
        · rw [List.getElem?_set_ne (by omega)]
          exact pfx_get p4 f3) (by simp) (M := S2 ++ [.lst []]) ⟨List.prefix_append _ _, fun j hj => absurd hj (Nat.not_lt_zero j)⟩ (get_new _ _)
  obtain ⟨a0, f0, n0, m0⟩ := k5 0 (by simp)
  obtain ⟨a1, f1, n1, m1⟩ := k5 1 (by simp)
  obtain ⟨a2, f2, n2, m2⟩ := k5 2 (by simp)
  have ey : ys = [.ref a0, .ref a1, .ref a2] := by
    simp at k2
    match ys, k2, f0, f1, f2 with
    | [_, _, _], _, f0, f1, f2 =>
      simp at f0 f1 f2
      rw [f0, f1, f2]
  rw [ey] at k3
  have g3 : M.length < M3.length := by have := pfx_len k4; omega
  have s1 := v_setF (c := "Grid") (f := "rules") (d := .p (wallP rs)) (get_new M (O.ins "Grid" [])) (by decide)
  rw [put_1, set_new] at s1
  have s2 := v_setF (c := "Grid") (f := "cuts") (d := .p (cutP c0 c1 c2)) (get_new M (O.ins "Grid" [(("rules" : Str), .p (wallP rs))])) (by simp)
  rw [put_2, set_new, ← hS2] at s2
  have s3 := v_setF (c := "Grid") (f := "masks") (d := .ref S2.length) (pfx_get k4 g2) (by simp)
  rw [put_3] at s3
  have s4 := v_setF (c := "Grid") (f := "letting") (d := .p (.int 0)) (M := M3.set M.length (.ins "Grid" [(("rules" : Str), .p (wallP rs)), (("cuts" : Str), .p (cutP c0 c1 c2)), (("masks" : Str), .ref S2.length)])) (List.getElem?_set_self g3) (by simp)
  rw [put_4, List.set_set] at s4
  obtain ⟨y3, y4, k6⟩ := grid_letting M3 M.length g3 rs hr (.p (wallP rs)) (.p (cutP c0 c1 c2)) (.ref S2.length) (some (.p (cutP c0 c1 c2))) none
  have pM : M <+: M3 := by
    refine List.IsPrefix.trans ?_ k4
    rw [hS2]
    exact List.prefix_append _ _
  have pf : M <+: M3.set M.length (.ins "Grid" (gridF (.p (wallP rs)) (.p (cutP c0 c1 c2)) (.ref S2.length) (.p (.int (maskOf (bitK rs) rs.length))))) := pfx_set pM (Nat.le_refl _) _
  refine ⟨_, pf, selfF_ok ?_ (by rw [List.length_set]; simp; omega), ⟨S2.length, a0, a1, a2, List.getElem?_set_self g3, ?_, ?_, ?_, ?_⟩⟩
  · have kk : lcL S2.length none (gNm 5) rYes (rCallN 3 F_masks_at (rCons (rVar 1) (rCons (rBin dIx (rVar 2) (rVar 5)) (rCons (rVar 5) rNil)))) [some (.ref M.length), some (.p (wallP rs)), some (.p (cutP c0 c1 c2)), none, none, none] [.p (.int 0), .p (.int 1), .p (.int 2)] (S2 ++ [.lst []]) = .ok (.ref S2.length) M3 := k1
    simp [m_Grid___init__, s_Grid___init___3, s_Grid___init___4, s_Grid___init___5, s_Grid___init___6, s1, s2, c_PLACES, wipeE, kk, s3, s4, k6]
  · rw [List.getElem?_set_ne (by omega)]; exact k3
  · rw [List.getElem?_set_ne (by omega)]; exact m0
  · rw [List.getElem?_set_ne (by omega)]; exact m1
  · rw [List.getElem?_set_ne (by omega)]; exact m2
/-- what makes a grid fit: few enough cuts -/
theorem boxB_len {W : List (List Rl)} (h : boxB W) (p : Nat) : (cutsI p W.flatten).length ≤ 90000 := by
  have h1 := cutsI_few p W.flatten
  have h2 : nfull p W.flatten ≤ W.flatten.length := List.length_filter_le _ _
  have h3 := h.2
  omega
theorem cuts3_eq (W : List (List Rl)) : cuts3 W = cutP (cutsI 0 W.flatten) (cutsI 1 W.flatten) (cutsI 2 W.flatten) := rfl
theorem cAt_cuts (W : List (List Rl)) (p : Nat) (hp : p < 3) : cAt (cutsI 0 W.flatten) (cutsI 1 W.flatten) (cutsI 2 W.flatten) p = cutsI p W.flatten := by
  match p, hp with
  | 0, _ => rfl
  | 1, _ => rfl
  | 2, _ => rfl
/-- a grid of a wall over the cuts of some walls -/
theorem x_make_grid (W : List (List Rl)) (hb : boxB W) (hW : ∀ r ∈ W.flatten, r.Ok) (rs : List Rl) (hs : ∀ r ∈ rs, r ∈ W.flatten) (hr : rs.length ≤ 900) (M : Store) :
    ∃ M', M <+: M' ∧ mkK M.length (F_Grid___init__ [.ref M.length, .p (wallP rs), .p (cuts3 W)] (M ++ [.ins "Grid" []])) = .ok (.ref M.length) M' ∧ IsGrid M' M.length rs (cutsI 0 W.flatten) (cutsI 1 W.flatten) (cutsI 2 W.flatten) := by
  obtain ⟨M', p, e, g⟩ := x_grid_init rs (fun r h => hW r (hs r h)) (cutsI 0 W.flatten) (cutsI 1 W.flatten) (cutsI 2 W.flatten) (fun p hp => by rw [cAt_cuts W p hp]; exact cutsOf_mem hW hs) (fun p hp => by rw [cAt_cuts W p hp]; exact boxB_len hb p) hr M
  rw [← cuts3_eq] at e
  exact ⟨M', p, by rw [e]; rfl, g⟩

-- slots: 0:self 1:mask
noncomputable def m_Grid_lets  : RS :=
  (rRet (rIf (rTst truthD (rBin dBAnd (rBin dBAnd (rVar 1) (rUn dNeg (rVar 1))) (rUn (dFld "Grid" "letting") (rVar 0)))) (rC (.p (.int 1))) (rC (.p (.int 0)))))

noncomputable def F_Grid_lets : List D → Store → R D := selfF 2 m_Grid_lets
theorem r_Grid_lets : Ref 2 2 F_Grid_lets m_Grid_lets := ref_self 2 2 m_Grid_lets
theorem x_lets {M : Store} {g : Nat} {rs : List Rl} {c0 c1 c2 : List Int} (hG : IsGrid M g rs c0 c1 c2) (f : Nat → Bool) :
    F_Grid_lets [.ref g, .p (.int (maskOf f rs.length))] M = .ok (.p (.int (if letsF f (bitK rs) rs.length then 1 else 0))) M := by
  obtain ⟨lm, a0, a1, a2, h1, h2, h3, h4, h5⟩ := hG.is_
  have f1 := v_fld h1 (look_l _ _ _ _)
  have hb := lets_ok f (bitK rs) rs.length
  obtain ⟨m0, h0⟩ : ∃ m0 : Int, m0 = (maskOf f rs.length : Nat) := ⟨_, rfl⟩
  obtain ⟨m1, hm1⟩ : ∃ m1 : Int, m1 = (maskOf (bitK rs) rs.length : Nat) := ⟨_, rfl⟩
  rw [← h0, ← hm1] at hb
  rw [← hm1] at f1
  rw [← h0]
  refine selfF_ok ?_ (Nat.le_refl _)
  by_cases c : letsF f (bitK rs) rs.length = true
  · have := hb.mpr c
    simp [m_Grid_lets, f1, c, this]
  · have := mt hb.mp c
    simp only [ne_eq, Classical.not_not] at this
    simp [m_Grid_lets, f1, c, this]

-- slots: 0:self 1:box 2:first 3:second 4:third
noncomputable def m_Grid_mask  : RS :=
  (rSeq (rAsg (rVar 1) (gTp 3 (gCo (gNm 2) (gCo (gNm 3) (gCo (gNm 4) gNi)))))
  (rRet (rBin dBAnd (rBin dBAnd (rBin dIx (rBin dIx (rUn (dFld "Grid" "masks") (rVar 0)) (rC (.p (.int 0)))) (rVar 2)) (rBin dIx (rBin dIx (rUn (dFld "Grid" "masks") (rVar 0)) (rC (.p (.int 1)))) (rVar 3))) (rBin dIx (rBin dIx (rUn (dFld "Grid" "masks") (rVar 0)) (rC (.p (.int 2)))) (rVar 4)))))

noncomputable def F_Grid_mask : List D → Store → R D := selfF 5 m_Grid_mask
theorem r_Grid_mask : Ref 2 5 F_Grid_mask m_Grid_mask := ref_self 2 5 m_Grid_mask
theorem maskL_get {rs : List Rl} {p : Nat} {cs : List Int} {n i : Nat} (hi : i < cs.length) : (maskL rs p cs n)[i]? = some (.p (.int (maskOf (hasA rs p (cs.getD i 0)) n))) := by
  unfold maskL
  rw [List.getElem?_map, List.getElem?_eq_getElem hi]
  simp [maskD, List.getD_eq_getElem?_getD, List.getElem?_eq_getElem hi]
def boxP (q : Nat × Nat × Nat) : P := .tup [.int q.1, .int q.2.1, .int q.2.2]
theorem x_mask {M : Store} {g : Nat} {rs : List Rl} {c0 c1 c2 : List Int} (hG : IsGrid M g rs c0 c1 c2) {q : Nat × Nat × Nat} (hq : q.1 < c0.length ∧ q.2.1 < c1.length ∧ q.2.2 < c2.length) :
    F_Grid_mask [.ref g, .p (boxP q)] M = .ok (.p (.int (maskOf (hasK rs (cornT c0 c1 c2 q)) rs.length))) M := by
  obtain ⟨lm, a0, a1, a2, h1, h2, h3, h4, h5⟩ := hG.is_
  obtain ⟨i, j, k⟩ := q
  obtain ⟨hi, hj, hk⟩ := hq
  have f1 := v_fld h1 (look_m _ _ _ _)
  have e0 := v_ix_l lm _ 0 _ M h2 rfl
  have e1 := v_ix_l lm _ 1 _ M h2 rfl
  have e2 := v_ix_l lm _ 2 _ M h2 rfl
  have b0 := v_ix_l a0 _ i _ M h3 (maskL_get hi)
  have b1 := v_ix_l a1 _ j _ M h4 (maskL_get hj)
  have b2 := v_ix_l a2 _ k _ M h5 (maskL_get hk)
  have bb : Builtin.bitAnd (Builtin.bitAnd (maskOf (hasA rs 0 (c0.getD i 0)) rs.length : Nat) (maskOf (hasA rs 1 (c1.getD j 0)) rs.length : Nat)) (maskOf (hasA rs 2 (c2.getD k 0)) rs.length : Nat) = (maskOf (hasK rs (cornT c0 c1 c2 (i, j, k))) rs.length : Nat) := by
    rw [band_nn, band_nn, maskOf_and, maskOf_and]
    congr 1
    exact maskOf_congr fun n _ => hasK_eq rs (cornT c0 c1 c2 (i, j, k)) n
  obtain ⟨m0, z0⟩ : ∃ m0 : Int, m0 = (maskOf (hasA rs 0 (c0.getD i 0)) rs.length : Nat) := ⟨_, rfl⟩
  obtain ⟨m1, z1⟩ : ∃ m1 : Int, m1 = (maskOf (hasA rs 1 (c1.getD j 0)) rs.length : Nat) := ⟨_, rfl⟩
  obtain ⟨m2, z2⟩ : ∃ m2 : Int, m2 = (maskOf (hasA rs 2 (c2.getD k 0)) rs.length : Nat) := ⟨_, rfl⟩
  rw [← z0] at b0
  rw [← z1] at b1
  rw [← z2] at b2
  rw [← z0, ← z1, ← z2] at bb
  rw [← bb]
  refine selfF_ok ?_ (Nat.le_refl _)
  simp only [Int.natCast_zero, Int.natCast_one] at e0 e1 e2
  have e2' : dIx (.ref lm) (.p (.int 2)) M = some (.ref a2, M) := e2
  simp [m_Grid_mask, boxP, f1, e0, e1, e2', b0, b1, b2]

/-! ### the drawn numbers -/
@[irreducible] def tenL : Int := 10 ^ 64
@[irreducible] def bigL : Int := tenL ^ 6
theorem bigL_eq : bigL = 10 ^ 384 := by unfold bigL tenL; decide +kernel
theorem bigL_pos : 0 < bigL := by rw [bigL_eq]; decide +kernel
theorem p_64 (M : Store) : dPow (.p (.int 10)) (.p (.int 64)) M = some (.p (.int tenL), M) := by
  rw [v_pow 10 64 M (by decide)]
  unfold tenL
  rfl
theorem p_6 (M : Store) : dPowX (.p (.int tenL)) (.p (.int 6)) M = some (.p (.int bigL), M) := by
  have h : powXOk tenL 6 := by unfold tenL; decide +kernel
  rw [v_powX _ _ M h]
  unfold bigL
  rfl
theorem p_18 (M : Store) : dPow (.p (.int 10)) (.p (.int 18)) M = some (.p (.int 1000000000000000000), M) := by
  rw [v_pow 10 18 M (by decide)]
  rfl
def numL (ns : List Int) : List D := ns.map fun i => .p (.int i)
/-- count numbers from 0 to 999999 -/
structure Nums (xs : List Int) (n : Nat) : Prop where
  len : xs.length = n
  all : ∀ x ∈ xs, 0 ≤ x ∧ x < 1000000
theorem Nums.at {xs : List Int} {n : Nat} (h : Nums xs n) {i : Nat} (hi : i < n) : ∃ x, xs[i]? = some x ∧ 0 ≤ x ∧ x < 1000000 := by
  have hl : i < xs.length := by rw [h.len]; exact hi
  exact ⟨xs[i], List.getElem?_eq_getElem hl, h.all _ (List.getElem_mem hl)⟩
-- slots: 0:script 1:at 2:count 3:cell 4:great 5:base 6:found 7:k 8:x
noncomputable def s__law_numbers_1  : RS :=
  (rSet 3 (rBin dMod (rCB cAbs (rCons (rCB cInt (rCons (rBin dIx (rVar 0) (rVar 1)) rNil)) rNil)) (rBin dPowX (rBin dPow (rC (.p (.int 10))) (rC (.p (.int 64)))) (rC (.p (.int 6))))))
noncomputable def s__law_numbers_2  : RS :=
  (rExpr (rLM mAppend (rVar 6) (rCons (rBin dMod (rVar 3) (rC (.p (.int 1000000)))) rNil)))
noncomputable def s__law_numbers_3  : RS :=
  (rSet 3 (rBin dDiv (rVar 3) (rC (.p (.int 1000000)))))
noncomputable def b__law_numbers_4  : RS :=
  (rSeq s__law_numbers_2
  s__law_numbers_3)
noncomputable def s__law_numbers_5  : RS :=
  (rSet 8 (rBin dMod (rBin dAdd (rBin dAdd (rBin dMul (rVar 5) (rC (.p (.int 48271)))) (rBin dMul (rBin dAdd (rVar 7) (rC (.p (.int 1)))) (rC (.p (.int 40692))))) (rBin dMul (rBin dAdd (rVar 1) (rC (.p (.int 3)))) (rC (.p (.int 69621))))) (rC (.p (.int 2147483647)))))
noncomputable def s__law_numbers_6  : RS :=
  (rSet 8 (rBin dMod (rBin dAdd (rBin dAdd (rBin dAdd (rBin dMul (rVar 8) (rVar 8)) (rBin dMul (rC (.p (.int 16807))) (rVar 8))) (rBin dMul (rBin dMul (rC (.p (.int 7))) (rVar 7)) (rVar 7))) (rC (.p (.int 11)))) (rC (.p (.int 2147483629)))))
noncomputable def s__law_numbers_7  : RS :=
  (rSet 8 (rBin dMod (rBin dAdd (rBin dMul (rVar 8) (rC (.p (.int 16807)))) (rBin dDiv (rVar 8) (rC (.p (.int 1000))))) (rC (.p (.int 2147483647)))))
noncomputable def s__law_numbers_8  : RS :=
  (rExpr (rLM mAppend (rVar 6) (rCons (rBin dMod (rBin dDiv (rVar 8) (rC (.p (.int 7)))) (rC (.p (.int 1000000)))) rNil)))
noncomputable def b__law_numbers_9  : RS :=
  (rSeq s__law_numbers_5
  (rSeq s__law_numbers_6
  (rSeq s__law_numbers_7
  s__law_numbers_8)))
noncomputable def s__law_numbers_10  : RS :=
  (rIfS (rtAnd (rTst truthD (rVar 4)) (rTst asBool (rBin dGt (rVar 3) (rC (.p (.int 0))))))
  b__law_numbers_4
  b__law_numbers_9)
noncomputable def s__law_numbers_11  : RS :=
  (rSet 3 (rC (.p (.int 0))))
noncomputable def s__law_numbers_12  : RS :=
  (rIfS (rTst asBool (rBin dLt (rVar 1) (rCB cLen (rCons (rVar 0) rNil))))
  s__law_numbers_1
  rSkip)
noncomputable def s__law_numbers_13  : RS :=
  (rSet 4 (rBin dGe (rVar 3) (rBin dPow (rC (.p (.int 10))) (rC (.p (.int 18))))))
noncomputable def s__law_numbers_14  : RS :=
  (rSet 5 (rBin dMod (rVar 3) (rC (.p (.int 2147483647)))))
noncomputable def s__law_numbers_15  : RS :=
  (rSet 6 (rLst rNil))
noncomputable def s__law_numbers_16  : RS :=
  (rForR rng1 (rCons (rVar 2) rNil) (gNm 7)
  s__law_numbers_10)
noncomputable def s__law_numbers_17  : RS :=
  (rRet (rVar 6))
noncomputable def m__law_numbers  : RS :=
  (rSeq s__law_numbers_11
  (rSeq s__law_numbers_12
  (rSeq s__law_numbers_13
  (rSeq s__law_numbers_14
  (rSeq s__law_numbers_15
  (rSeq s__law_numbers_16
  s__law_numbers_17))))))

noncomputable def F__law_numbers : List D → Store → R D := selfF 9 m__law_numbers
theorem r__law_numbers : Ref 3 9 F__law_numbers m__law_numbers := ref_self 3 9 m__law_numbers
theorem numbers_turn (M : Store) (o0 : Option D) (at_ n : Nat) (cell base : Int) (gr : Bool) (k : Nat) (zk zx : Option D) (xs : List Int) (ha : at_ ≤ 1000) (hk : k < 1000) (hc : 0 ≤ cell) (hb : 0 ≤ base) (hx : Nums xs k) :
    ∃ (cell' : Int) (zx' : Option D) (x : Int), 0 ≤ cell' ∧ 0 ≤ x ∧ x < 1000000 ∧
      s__law_numbers_10 [o0, some (.p (.int at_)), some (.p (.int n)), some (.p (.int cell)), some (.p (.bl gr)), some (.p (.int base)), some (.ref M.length), some (.p (.int k)), zx] (M ++ [.lst (numL xs)]) =
        .nx [o0, some (.p (.int at_)), some (.p (.int n)), some (.p (.int cell')), some (.p (.bl gr)), some (.p (.int base)), some (.ref M.length), some (.p (.int k)), zx'] (M ++ [.lst (numL (xs ++ [x]))]) := by
  have hM := get_new M (O.lst (numL xs))
  have hl : (numL xs).length < sizeLine := lt_line (by simp [numL, hx.len]; omega)
  have ap : ∀ d : D, mAppend (.ref M.length) [d] (M ++ [.lst (numL xs)]) = some (.p .non, M ++ [.lst (numL xs ++ [d])]) := fun d => by
    rw [v_append _ _ d _ hM hl]
    simp
  have isl := isLst_ref _ _ _ hM
  have fin : ∀ x : Int, numL xs ++ [D.p (.int x)] = numL (xs ++ [x]) := fun x => by simp [numL]
  generalize hS : M ++ [O.lst (numL xs)] = S at *
  by_cases hg : gr = true ∧ 0 < cell
  · obtain ⟨rfl, hp⟩ := hg
    refine ⟨cell / 1000000, zx, cell % 1000000, Int.ediv_nonneg hc (by decide), Int.emod_nonneg _ (by decide), Int.emod_lt_of_pos _ (by decide), ?_⟩
    simp [s__law_numbers_10, b__law_numbers_4, s__law_numbers_2, s__law_numbers_3, hp, isl, ap, v_mod, v_div, fin, div_small]
  · have skip : (rtAnd (rTst truthD (rVar 4)) (rTst asBool (rBin dGt (rVar 3) (rC (.p (.int 0)))))) [o0, some (.p (.int at_)), some (.p (.int n)), some (.p (.int cell)), some (.p (.bl gr)), some (.p (.int base)), some (.ref M.length), some (.p (.int k)), zx] S = .ok false S := by
      cases gr with
      | false => simp
      | true =>
        have h2 : ¬ 0 < cell := fun z => hg ⟨rfl, z⟩
        simp [h2]
    obtain ⟨x1, hx1⟩ : ∃ x1 : Int, x1 = (base * 48271 + ((k : Int) + 1) * 40692 + ((at_ : Int) + 3) * 69621) % 2147483647 := ⟨_, rfl⟩
    have a1 : 0 ≤ x1 := by rw [hx1]; exact Int.emod_nonneg _ (by decide)
    have b1 : x1 < 2147483647 := by rw [hx1]; exact Int.emod_lt_of_pos _ (by decide)
    obtain ⟨x2, hx2⟩ : ∃ x2 : Int, x2 = (x1 * x1 + 16807 * x1 + 7 * (k : Int) * k + 11) % 2147483629 := ⟨_, rfl⟩
    obtain ⟨x3, hx3⟩ : ∃ x3 : Int, x3 = (x2 * 16807 + x2 / 1000) % 2147483647 := ⟨_, rfl⟩
    have m1 := fun M => v_mul base 48271 M (mul_small (by decide) (by decide))
    have m2 := fun M => v_mul ((k : Int) + 1) 40692 M (mul_small (by decide) (by decide))
    have m3 := fun M => v_mul ((at_ : Int) + 3) 69621 M (mul_small (by decide) (by decide))
    have m4 := fun M => v_mul x1 x1 M (mul_small (by omega) (by omega))
    have m5 := fun M => v_mul 16807 x1 M (mul_small (by omega) (by omega))
    have m6 := fun M => v_mul 7 (k : Int) M (mul_small (by omega) (by omega))
    have m7 := fun M => v_mul (7 * (k : Int)) k M (mul_small (by omega) (by omega))
    have m8 := fun M => v_mul x2 16807 M (mul_small (by decide) (by decide))
    refine ⟨cell, some (.p (.int x3)), x3 / 7 % 1000000, hc, Int.emod_nonneg _ (by decide), Int.emod_lt_of_pos _ (by decide), ?_⟩
    have e5 : s__law_numbers_5 [o0, some (.p (.int at_)), some (.p (.int n)), some (.p (.int cell)), some (.p (.bl gr)), some (.p (.int base)), some (.ref M.length), some (.p (.int k)), zx] S = .nx [o0, some (.p (.int at_)), some (.p (.int n)), some (.p (.int cell)), some (.p (.bl gr)), some (.p (.int base)), some (.ref M.length), some (.p (.int k)), some (.p (.int x1))] S := by
      simp [s__law_numbers_5, m1, m2, m3, v_mod, ← hx1]
    have e6 : s__law_numbers_6 [o0, some (.p (.int at_)), some (.p (.int n)), some (.p (.int cell)), some (.p (.bl gr)), some (.p (.int base)), some (.ref M.length), some (.p (.int k)), some (.p (.int x1))] S = .nx [o0, some (.p (.int at_)), some (.p (.int n)), some (.p (.int cell)), some (.p (.bl gr)), some (.p (.int base)), some (.ref M.length), some (.p (.int k)), some (.p (.int x2))] S := by
      simp [s__law_numbers_6, m4, m5, m6, m7, v_mod, ← hx2]
    have e7 : s__law_numbers_7 [o0, some (.p (.int at_)), some (.p (.int n)), some (.p (.int cell)), some (.p (.bl gr)), some (.p (.int base)), some (.ref M.length), some (.p (.int k)), some (.p (.int x2))] S = .nx [o0, some (.p (.int at_)), some (.p (.int n)), some (.p (.int cell)), some (.p (.bl gr)), some (.p (.int base)), some (.ref M.length), some (.p (.int k)), some (.p (.int x3))] S := by
      simp [s__law_numbers_7, m8, v_mod, v_div, div_small, ← hx3]
    unfold s__law_numbers_10
    simp only [e_ifS, skip]
    simp [b__law_numbers_9, e5, e6, e7, s__law_numbers_8, isl, ap, v_mod, v_div, fin, div_small]
theorem x_numbers (ns : List Int) (o : O) (ho : o = .ro (numL ns) ∨ o = .lst (numL ns)) (M : Store) (h0 : M[0]? = some o) (at_ n : Nat) (ha : at_ ≤ 1000) (hn : n ≤ 1000) :
    ∃ xs : List Int, Nums xs n ∧ F__law_numbers [.ref 0, .p (.int at_), .p (.int n)] M = .ok (.ref M.length) (M ++ [.lst (numL xs)]) := by
  have hlen : cLen [.ref 0] M = some (.p (.int (ns.length : Nat)), M) := by
    rcases ho with rfl | rfl <;> simp [cLen, lenD, h0, numL]
  have hix : ∀ x, ns[at_]? = some x → dIx (.ref 0) (.p (.int at_)) M = some (.p (.int x), M) := fun x hx => by
    have e : (numL ns)[at_]? = some (.p (.int x)) := by simp [numL, hx]
    rcases ho with rfl | rfl <;> simp only [dIx, rowD, h0, atI_nat e, Option.map_some]
  -- the cell
  obtain ⟨cell, c0, e12⟩ : ∃ cell : Int, 0 ≤ cell ∧ s__law_numbers_12 [some (.ref 0), some (.p (.int at_)), some (.p (.int n)), some (.p (.int 0)), none, none, none, none, none] M = .nx [some (.ref 0), some (.p (.int at_)), some (.p (.int n)), some (.p (.int cell)), none, none, none, none, none] M := by
    by_cases h : at_ < ns.length
    · obtain ⟨x, hx⟩ : ∃ x, ns[at_]? = some x := ⟨ns[at_], List.getElem?_eq_getElem h⟩
      have i1 := hix x hx
      have h' : (at_ : Int) < (ns.length : Nat) := by omega
      refine ⟨(if x < 0 then -x else x) % bigL, Int.emod_nonneg _ (Int.ne_of_gt bigL_pos), ?_⟩
      simp [s__law_numbers_12, s__law_numbers_1, hlen, h, i1, cInt, cAbs, p_64, p_6, v_mod _ _ _ bigL_pos]
    · refine ⟨0, Int.le_refl _, ?_⟩
      simp [s__law_numbers_12, hlen, h]
  obtain ⟨gr, e13⟩ : ∃ gr : Bool, s__law_numbers_13 [some (.ref 0), some (.p (.int at_)), some (.p (.int n)), some (.p (.int cell)), none, none, none, none, none] M = .nx [some (.ref 0), some (.p (.int at_)), some (.p (.int n)), some (.p (.int cell)), some (.p (.bl gr)), none, none, none, none] M := ⟨_, by simp [s__law_numbers_13, p_18]; rfl⟩
  obtain ⟨base, hb⟩ : ∃ base : Int, base = cell % 2147483647 := ⟨_, rfl⟩
  have b0 : 0 ≤ base := by rw [hb]; exact Int.emod_nonneg _ (by decide)
  have e14 : s__law_numbers_14 [some (.ref 0), some (.p (.int at_)), some (.p (.int n)), some (.p (.int cell)), some (.p (.bl gr)), none, none, none, none] M = .nx [some (.ref 0), some (.p (.int at_)), some (.p (.int n)), some (.p (.int cell)), some (.p (.bl gr)), some (.p (.int base)), none, none, none] M := by
    simp [s__law_numbers_14, v_mod, ← hb]
  obtain ⟨ρ', M', k1, xs, cell', zk, zx, k2, k3, rfl, rfl⟩ := forL_inv (k := none) (g := gNm 7) (body := s__law_numbers_10) (intsD 0 n)
    (fun i ρ M' => ∃ (xs : List Int) (cell' : Int) (zk zx : Option D), Nums xs i ∧ 0 ≤ cell' ∧ ρ = [some (.ref 0), some (.p (.int at_)), some (.p (.int n)), some (.p (.int cell')), some (.p (.bl gr)), some (.p (.int base)), some (.ref M.length), zk, zx] ∧ M' = M ++ [.lst (numL xs)]) (fun _ _ _ _ => True.intro) (by
      rintro i x ρ M1 hx ⟨xs, cell', zk, zx, h1, h2, rfl, rfl⟩
      have hi : i < n := by
        have := (List.getElem?_eq_some_iff.mp hx).1
        rw [intsD_len] at this
        exact this
      rw [intsD_get 0 n i hi] at hx
      cases hx
      obtain ⟨c2, zx2, x, g1, g2, g3, g4⟩ := numbers_turn M (some (.ref 0)) at_ n cell' base gr i (some (.p (.int i))) zx xs ha (by omega) h2 b0 h1
      have hxs : Nums (xs ++ [x]) (i + 1) := ⟨by simp [h1.len], fun y hy => by
        rcases List.mem_append.mp hy with hy | hy
        · exact h1.all y hy
        · rw [List.mem_singleton.mp hy]; exact ⟨g2, g3⟩⟩
      refine ⟨_, _, _, _, rfl, .inl ?_, xs ++ [x], c2, some (.p (.int i)), zx2, hxs, g1, rfl, rfl⟩
      simpa using g4) ⟨[], cell, none, none, ⟨rfl, fun x hx => nomatch hx⟩, c0, rfl, rfl⟩
  rw [intsD_len] at k2
  have er := rng1_len n (by omega)
  refine ⟨xs, k2, selfF_ok ?_ (by simp)⟩
  simp only [numL, List.map_nil] at k1
  simp [m__law_numbers, s__law_numbers_11, e12, e13, e14, s__law_numbers_15, s__law_numbers_16, s__law_numbers_17, er, k1, numL]

-- slots: 0:numbers 1:at 2:count
noncomputable def m__law_pick  : RS :=
  (rRet (rBin dMod (rCB cInt (rCons (rBin dIx (rVar 0) (rBin dMod (rVar 1) (rCB cLen (rCons (rVar 0) rNil)))) rNil)) (rVar 2)))

noncomputable def F__law_pick : List D → Store → R D := selfF 3 m__law_pick
theorem r__law_pick : Ref 3 3 F__law_pick m__law_pick := ref_self 3 3 m__law_pick
theorem x_pick (M : Store) (l n : Nat) (xs : List Int) (h : M[l]? = some (.lst (numL xs))) (hx : Nums xs n) (hn : 0 < n) (at_ c : Nat) (hc : 0 < c) : ∃ v : Nat, v < c ∧ F__law_pick [.ref l, .p (.int at_), .p (.int c)] M = .ok (.p (.int v)) M := by
  obtain ⟨x, h1, h2, h3⟩ := hx.at (i := at_ % n) (Nat.mod_lt _ hn)
  have e1 := v_len_l l _ M h
  rw [show (numL xs).length = n by simp [numL, hx.len]] at e1
  have e2 : (at_ : Int) % (n : Nat) = ((at_ % n : Nat) : Int) := by omega
  have e3 := v_ix_l l _ (at_ % n) (.p (.int x)) M h (by simp [numL, h1])
  refine ⟨(x % c).toNat, ?_, selfF_ok ?_ (Nat.le_refl _)⟩
  · have := Int.emod_lt_of_pos x (show (0 : Int) < c by omega)
    have := Int.emod_nonneg x (show (c : Int) ≠ 0 by omega)
    omega
  · have h4 := Int.emod_nonneg x (show (c : Int) ≠ 0 by omega)
    have e5 : ((x % c).toNat : Int) = x % c := Int.toNat_of_nonneg h4
    rw [e5]
    have v1 := fun M => v_mod (at_ : Int) (n : Nat) M (by omega)
    have v2 := fun M => v_mod x (c : Int) M (by omega)
    rw [← e2] at e3
    simp [m__law_pick, e1, v1, e3, cInt, v2]

/-! ### the drawn walls -/
theorem any_ints (n : Int) : ∀ ns : List Int, ((ns.map P.int).any fun z => P.eqv z (.int n)) = decide (n ∈ ns)
  | [] => rfl
  | m :: ns => by
    rw [List.map_cons, List.any_cons, any_ints n ns, v_eqv_ii]
    by_cases c : m = n
    · subst c; simp
    · have c2 : ¬ n = m := fun z => c z.symm
      simp [c, c2]
theorem v_notIn_ints (n : Int) (l : Nat) (ns : List Int) (M : Store) (h : M[l]? = some (.lst (numL ns))) : dNotInX (.p (.int n)) (.ref l) M = some (.p (.bl (!decide (n ∈ ns))), M) := by
  have e := v_notIn_l (M := M) (.int n) l (ns.map P.int) (by simp [P.depth]) (by rw [h]; simp [numL, Function.comp_def])
  rw [e, any_ints]
theorem v_ix_last (l : Nat) (xs : List D) (x : D) (M : Store) (h : M[l]? = some (.lst (xs ++ [x]))) : dIx (.ref l) (.p (.int (-1))) M = some (x, M) := by
  have e : atI (xs ++ [x]) (-1) = some x := by
    unfold atI ixN
    rw [if_neg (by decide), if_pos (by rw [List.length_append]; simp; omega)]
    have e1 : ((-1 : Int) + ((xs ++ [x]).length : Nat)).toNat = xs.length := by rw [List.length_append]; simp; omega
    rw [e1]
    simp
  simp only [dIx, rowD, h, e, Option.map_some]
-- slots: 0:numbers 1:at 2:count 3:found 4:k 5:n 6:kind
noncomputable def s__law_points_1  : RS :=
  (rSet 5 (rBin dIx (rLst (rCons (rC (.p (.int 0))) (rCons (rC (.p (.int 1))) (rCons (rC (.p (.int 99998))) (rCons (rC (.p (.int 99999))) rNil))))) (rVar 6)))
noncomputable def s__law_points_2  : RS :=
  (rSet 5 (rCB cMin2 (rCons (rC (.p (.int 99999))) (rCons (rBin dAdd (rBin dIx (rVar 3) (rUn dNeg (rC (.p (.int 1))))) (rC (.p (.int 1)))) rNil))))
noncomputable def s__law_points_3  : RS :=
  (rExpr (rLM mAppend (rVar 3) (rCons (rVar 5) rNil)))
noncomputable def s__law_points_4  : RS :=
  (rSet 5 (rBin dMod (rCB cInt (rCons (rBin dIx (rVar 0) (rBin dMod (rCB cInt (rCons (rBin dAdd (rBin dAdd (rVar 1) (rBin dMul (rC (.p (.int 2))) (rVar 4))) (rC (.p (.int 1)))) rNil)) (rCB cLen (rCons (rVar 0) rNil)))) rNil)) (rC (.p (.int 100000)))))
noncomputable def s__law_points_5  : RS :=
  (rSet 6 (rCallN 3 F__law_pick (rCons (rVar 0) (rCons (rBin dAdd (rVar 1) (rBin dMul (rC (.p (.int 2))) (rVar 4))) (rCons (rC (.p (.int 12))) rNil)))))
noncomputable def s__law_points_6  : RS :=
  (rIfS (rTst asBool (rBin dLt (rVar 6) (rC (.p (.int 4)))))
  s__law_points_1
  rSkip)
noncomputable def s__law_points_7  : RS :=
  (rIfS (rtAnd (rTst asBool (rBin dEq (rVar 6) (rC (.p (.int 4))))) (rTst asBool (rBin dGt (rCB cLen (rCons (rVar 3) rNil)) (rC (.p (.int 0))))))
  s__law_points_2
  rSkip)
noncomputable def s__law_points_8  : RS :=
  (rIfS (rTst asBool (rBin dNotInX (rVar 5) (rVar 3)))
  s__law_points_3
  rSkip)
noncomputable def b__law_points_9  : RS :=
  (rSeq s__law_points_4
  (rSeq s__law_points_5
  (rSeq s__law_points_6
  (rSeq s__law_points_7
  s__law_points_8))))
noncomputable def s__law_points_10  : RS :=
  (rSet 3 (rLst rNil))
noncomputable def s__law_points_11  : RS :=
  (rForR rng1 (rCons (rVar 2) rNil) (gNm 4)
  b__law_points_9)
noncomputable def s__law_points_12  : RS :=
  (rRet (rCB cSorted (rCons (rVar 3) rNil)))
noncomputable def m__law_points  : RS :=
  (rSeq s__law_points_10
  (rSeq s__law_points_11
  s__law_points_12))

noncomputable def F__law_points : List D → Store → R D := selfF 7 m__law_points
theorem r__law_points : Ref 3 7 F__law_points m__law_points := ref_self 3 7 m__law_points
def Pts (ps : List Int) : Prop := ∀ x ∈ ps, 0 ≤ x ∧ x ≤ 99999
theorem points_turn (M0 M : Store) (ln l n : Nat) (xs : List Int) (h0 : M0[ln]? = some (.lst (numL xs))) (hx : Nums xs n) (hn : 0 < n) (hl : M0.length ≤ l) (q : M0 <+: M) (ps : List Int) (hp : Pts ps) (hp2 : ps.length ≤ 100) (h : M[l]? = some (.lst (numL ps))) (at_ k : Nat) (hk : k ≤ 100) (x2 x5 x6 : Option D) :
    ∃ M' ps' y5 y6, M0 <+: M' ∧ M'[l]? = some (.lst (numL ps')) ∧ Pts ps' ∧ ps'.length ≤ ps.length + 1 ∧ 0 < ps'.length ∧
      b__law_points_9 [some (.ref ln), some (.p (.int at_)), x2, some (.ref l), some (.p (.int k)), x5, x6] M = .nx [some (.ref ln), some (.p (.int at_)), x2, some (.ref l), some (.p (.int k)), y5, y6] M' := by
  have hM := pfx_get q h0
  obtain ⟨v, hv1, hv2, hv3⟩ := hx.at (i := (at_ + 2 * k + 1) % n) (Nat.mod_lt _ hn)
  have e1 := v_len_l ln _ M hM
  rw [show (numL xs).length = n by simp [numL, hx.len]] at e1
  have e2 : ((at_ : Int) + 2 * (k : Int) + 1) % (n : Nat) = (((at_ + 2 * k + 1) % n : Nat) : Int) := by simp
  have e3 := v_ix_l ln _ ((at_ + 2 * k + 1) % n) (.p (.int v)) M hM (by simp [numL, hv1])
  rw [← e2] at e3
  have m1 := v_mul 2 (k : Int) M (mul_small (by omega) (by omega))
  have v1 := v_mod ((at_ : Int) + 2 * (k : Int) + 1) (n : Nat) M (by omega)
  have v2 := v_mod v 100000 M (by decide)
  obtain ⟨w, hw, p1⟩ := x_pick M ln n xs hM hx hn (at_ + 2 * k) 12 (by omega)
  simp only [Int.natCast_add, Int.natCast_mul] at p1
  have p1' : F__law_pick [.ref ln, .p (.int ((at_ : Int) + 2 * (k : Int))), .p (.int 12)] M = .ok (.p (.int w)) M := p1
  have s4 : s__law_points_4 [some (.ref ln), some (.p (.int at_)), x2, some (.ref l), some (.p (.int k)), x5, x6] M = .nx [some (.ref ln), some (.p (.int at_)), x2, some (.ref l), some (.p (.int k)), some (.p (.int (v % 100000))), x6] M := by
    simp [s__law_points_4, m1, e1, v1, e3, v2]
  have s5 : s__law_points_5 [some (.ref ln), some (.p (.int at_)), x2, some (.ref l), some (.p (.int k)), some (.p (.int (v % 100000))), x6] M = .nx [some (.ref ln), some (.p (.int at_)), x2, some (.ref l), some (.p (.int k)), some (.p (.int (v % 100000))), some (.p (.int w))] M := by
    simp [s__law_points_5, m1, p1']
  obtain ⟨M1, n1, q1, b1, b2, s6⟩ : ∃ (M1 : Store) (n1 : Int), M <+: M1 ∧ 0 ≤ n1 ∧ n1 ≤ 99999 ∧ s__law_points_6 [some (.ref ln), some (.p (.int at_)), x2, some (.ref l), some (.p (.int k)), some (.p (.int (v % 100000))), some (.p (.int w))] M = .nx [some (.ref ln), some (.p (.int at_)), x2, some (.ref l), some (.p (.int k)), some (.p (.int n1)), some (.p (.int w))] M1 := by
    by_cases c : w < 4
    · have c2 : (w : Int) < 4 := by omega
      have key : ∀ (n1 : Int), ([D.p (.int 0), .p (.int 1), .p (.int 99998), .p (.int 99999)])[w]? = some (.p (.int n1)) → s__law_points_6 [some (.ref ln), some (.p (.int at_)), x2, some (.ref l), some (.p (.int k)), some (.p (.int (v % 100000))), some (.p (.int w))] M = .nx [some (.ref ln), some (.p (.int at_)), x2, some (.ref l), some (.p (.int k)), some (.p (.int n1)), some (.p (.int w))] (M ++ [.lst [.p (.int 0), .p (.int 1), .p (.int 99998), .p (.int 99999)]]) := fun n1 hw1 => by
        have ix := v_ix_l M.length _ w _ _ (get_new M (O.lst [D.p (.int 0), .p (.int 1), .p (.int 99998), .p (.int 99999)])) hw1
        simp [s__law_points_6, s__law_points_1, c2, ix]
      have hw4 : w = 0 ∨ w = 1 ∨ w = 2 ∨ w = 3 := by omega
      rcases hw4 with rfl | rfl | rfl | rfl
      · exact ⟨_, 0, List.prefix_append _ _, by decide, by decide, key 0 rfl⟩
      · exact ⟨_, 1, List.prefix_append _ _, by decide, by decide, key 1 rfl⟩
      · exact ⟨_, 99998, List.prefix_append _ _, by decide, by decide, key 99998 rfl⟩
      · exact ⟨_, 99999, List.prefix_append _ _, by decide, by decide, key 99999 rfl⟩
    · have c2 : ¬ (w : Int) < 4 := by omega
      exact ⟨M, v % 100000, List.prefix_refl _, by omega, by omega, by simp [s__law_points_6, c2]⟩
  have h1 := pfx_get q1 h
  have e4 := v_len_l l _ M1 h1
  rw [show (numL ps).length = ps.length by simp [numL]] at e4
  obtain ⟨n2, b3, b4, s7⟩ : ∃ n2 : Int, 0 ≤ n2 ∧ n2 ≤ 99999 ∧ s__law_points_7 [some (.ref ln), some (.p (.int at_)), x2, some (.ref l), some (.p (.int k)), some (.p (.int n1)), some (.p (.int w))] M1 = .nx [some (.ref ln), some (.p (.int at_)), x2, some (.ref l), some (.p (.int k)), some (.p (.int n2)), some (.p (.int w))] M1 := by
    by_cases c : (w : Int) = 4
    · rcases List.eq_nil_or_concat ps with rfl | ⟨ps0, y, ey⟩
      · simp at e4
        exact ⟨n1, b1, b2, by simp [s__law_points_7, c, e4]⟩
      · rw [List.concat_eq_append] at ey
        have hl1 := v_ix_last l (numL ps0) (.p (.int y)) M1 (by rw [h1, ey]; simp [numL])
        have hy := hp y (by rw [ey]; simp)
        have c3 : ¬ ps = [] := by rw [ey]; simp
        exact ⟨min 99999 (y + 1), by omega, by omega, by simp only [s__law_points_7, s__law_points_2]; simp [c, e4, c3, hl1]⟩
    · exact ⟨n1, b1, b2, by simp [s__law_points_7, c]⟩
  have nn := v_notIn_ints n2 l ps M1 h1
  by_cases c : n2 ∈ ps
  · refine ⟨M1, ps, some (.p (.int n2)), some (.p (.int w)), q.trans q1, h1, hp, by omega, List.length_pos_of_mem c, ?_⟩
    simp [b__law_points_9, s4, s5, s6, s7, s__law_points_8, nn, c]
  · have isl := isLst_ref l _ M1 h1
    have ap := v_append l _ (.p (.int n2)) M1 h1 (lt_line (by simp [numL]; omega))
    have e5 : numL ps ++ [.p (.int n2)] = numL (ps ++ [n2]) := by simp [numL]
    rw [e5] at ap
    refine ⟨M1.set l (.lst (numL (ps ++ [n2]))), ps ++ [n2], some (.p (.int n2)), some (.p (.int w)), pfx_set (q.trans q1) hl _, List.getElem?_set_self (get_lt h1), fun x hx => ?_, by simp, by simp, ?_⟩
    · rcases List.mem_append.mp hx with hx | hx
      · exact hp x hx
      · rw [List.mem_singleton.mp hx]; exact ⟨b3, b4⟩
    · simp [b__law_points_9, s4, s5, s6, s7, s__law_points_8, s__law_points_3, nn, c, isl, ap]
theorem x_law_points (M : Store) (ln n : Nat) (xs : List Int) (h0 : M[ln]? = some (.lst (numL xs))) (hx : Nums xs n) (hn : 0 < n) (at_ count : Nat) (hc : 0 < count) (hc2 : count ≤ 90) :
    ∃ M' l ps, M <+: M' ∧ F__law_points [.ref ln, .p (.int at_), .p (.int count)] M = .ok (.ref l) M' ∧ M'[l]? = some (.lst (numL ps)) ∧ Pts ps ∧ 0 < ps.length ∧ ps.length ≤ count := by
  have er := rng1_len count (by omega)
  obtain ⟨ρ', M2, k1, ps, y4, y5, y6, a1, a2, a3, a4, a5, rfl⟩ := forL_inv (k := none) (g := gNm 4) (body := b__law_points_9) (intsD 0 count) (fun i ρ M' => ∃ ps y4 y5 y6, M <+: M' ∧ M'[M.length]? = some (.lst (numL ps)) ∧ Pts ps ∧ ps.length ≤ i ∧ (0 < i → 0 < ps.length) ∧ ρ = [some (.ref ln), some (.p (.int at_)), some (.p (.int count)), some (.ref M.length), y4, y5, y6]) (fun _ _ _ _ => True.intro) (by
    rintro i x ρ M3 hx2 ⟨ps, y4, y5, y6, a1, a2, a3, a4, a5, rfl⟩
    have hi : i < count := by
      have := (List.getElem?_eq_some_iff.mp hx2).1
      rw [intsD_len] at this
      exact this
    rw [intsD_get _ _ i hi] at hx2
    cases hx2
    rw [Int.zero_add]
    obtain ⟨M4, ps', z5, z6, b1, b2, b3, b4, b5, b6⟩ := points_turn M M3 ln M.length n xs h0 hx hn (Nat.le_refl _) a1 ps a3 (by omega) a2 at_ i (by omega) (some (.p (.int count))) y5 y6
    exact ⟨_, _, _, M4, rfl, .inl b6, ps', _, z5, z6, b1, b2, b3, by omega, fun _ => b5, rfl⟩) (ρ := [some (.ref ln), some (.p (.int at_)), some (.p (.int count)), some (.ref M.length), none, none, none]) (M := M ++ [.lst []]) ⟨[], none, none, none, List.prefix_append _ _, by simp [numL], fun x hx => by simp at hx, by simp, fun z => absurd z (by omega), rfl⟩
  rw [intsD_len] at a4 a5
  have so := v_sorted_l a2
  have pf : M <+: M2 ++ [.lst ((srtI ps).map fun i => .p (.int i))] := pfx_app a1 _
  refine ⟨_, M2.length, srtI ps, pf, selfF_ok ?_ (pfx_len pf), get_new _ _, fun x hx => a3 x ((srtI_perm ps).mem_iff.mp hx), ?_, ?_⟩
  · simp [m__law_points, s__law_points_10, s__law_points_11, s__law_points_12, er, k1, so]
  · rw [(srtI_perm ps).length_eq]; exact a5 hc
  · rw [(srtI_perm ps).length_eq]; exact a4
-- slots: 0:points 1:kind 2:one 3:other 4:low 5:high
noncomputable def s__law_between_1  : RS :=
  (rRet (rTup (rCons (rC (.p (.int 0))) (rCons (rC (.p (.int 99999))) rNil))))
noncomputable def s__law_between_2  : RS :=
  (rRet (rTup (rCons (rVar 4) (rCons (rVar 4) rNil))))
noncomputable def s__law_between_3  : RS :=
  (rRet (rTup (rCons (rC (.p (.int 0))) (rCons (rVar 5) rNil))))
noncomputable def s__law_between_4  : RS :=
  (rRet (rTup (rCons (rVar 4) (rCons (rC (.p (.int 99999))) rNil))))
noncomputable def s__law_between_5  : RS :=
  (rSet 4 (rBin dIx (rVar 0) (rBin dMod (rCB cInt (rCons (rVar 2) rNil)) (rCB cLen (rCons (rVar 0) rNil)))))
noncomputable def s__law_between_6  : RS :=
  (rSet 5 (rBin dIx (rVar 0) (rBin dMod (rCB cInt (rCons (rBin dAdd (rBin dAdd (rVar 2) (rC (.p (.int 1)))) (rBin dMod (rVar 3) (rCB cMax2 (rCons (rC (.p (.int 1))) (rCons (rBin dSub (rCB cLen (rCons (rVar 0) rNil)) (rC (.p (.int 1)))) rNil))))) rNil)) (rCB cLen (rCons (rVar 0) rNil)))))
noncomputable def s__law_between_7  : RS :=
  (rIfS (rTst asBool (rBin dLt (rVar 1) (rC (.p (.int 2)))))
  s__law_between_1
  rSkip)
noncomputable def s__law_between_8  : RS :=
  (rIfS (rTst asBool (rBin dEq (rVar 1) (rC (.p (.int 2)))))
  s__law_between_2
  rSkip)
noncomputable def s__law_between_9  : RS :=
  (rIfS (rTst asBool (rBin dEq (rVar 1) (rC (.p (.int 3)))))
  s__law_between_3
  rSkip)
noncomputable def s__law_between_10  : RS :=
  (rIfS (rTst asBool (rBin dEq (rVar 1) (rC (.p (.int 4)))))
  s__law_between_4
  rSkip)
noncomputable def s__law_between_11  : RS :=
  (rRet (rTup (rCons (rCB cMin2 (rCons (rVar 4) (rCons (rVar 5) rNil))) (rCons (rCB cMax2 (rCons (rVar 4) (rCons (rVar 5) rNil))) rNil))))
noncomputable def m__law_between  : RS :=
  (rSeq s__law_between_5
  (rSeq s__law_between_6
  (rSeq s__law_between_7
  (rSeq s__law_between_8
  (rSeq s__law_between_9
  (rSeq s__law_between_10
  s__law_between_11))))))

noncomputable def F__law_between : List D → Store → R D := selfF 6 m__law_between
theorem r__law_between : Ref 4 6 F__law_between m__law_between := ref_self 4 6 m__law_between
/-- two ends -/
theorem x_law_between (M : Store) (l : Nat) (ps : List Int) (h : M[l]? = some (.lst (numL ps))) (hp : Pts ps) (h0 : 0 < ps.length) (kind one other : Nat) :
    ∃ s : Nat × Nat, SpOk s ∧ F__law_between [.ref l, .p (.int kind), .p (.int one), .p (.int other)] M = .ok (.p (spP s)) M := by
  have e1 := v_len_l l _ M h
  rw [show (numL ps).length = ps.length by simp [numL]] at e1
  have hg : ∀ i : Nat, ∃ x : Nat, x ≤ 99999 ∧ dIx (.ref l) (.p (.int ((i % ps.length : Nat) : Int))) M = some (.p (.int x), M) := fun i => by
    have hi : i % ps.length < ps.length := Nat.mod_lt _ h0
    have hb := hp _ (List.getElem_mem hi)
    refine ⟨(ps[i % ps.length]).toNat, by omega, ?_⟩
    rw [v_ix_l l _ (i % ps.length) (.p (.int ps[i % ps.length])) M h (by simp [numL, List.getElem?_eq_getElem hi]), Int.toNat_of_nonneg hb.1]
  obtain ⟨lo, hlo, i1⟩ := hg one
  obtain ⟨mx, hmx⟩ : ∃ mx : Nat, mx = max 1 (ps.length - 1) := ⟨_, rfl⟩
  obtain ⟨hi, hhi, i2⟩ := hg (one + 1 + other % mx)
  have em : max (1 : Int) ((ps.length : Nat) - 1) = (mx : Nat) := by omega
  have v1 := v_mod (one : Int) (ps.length : Nat) M (by omega)
  have v2 := v_mod (other : Int) (mx : Nat) M (by omega)
  have v3 := v_mod ((one : Int) + 1 + (other : Int) % (mx : Nat)) (ps.length : Nat) M (by omega)
  simp only [Int.natCast_emod, Int.natCast_add, Int.natCast_one] at i1 i2
  have s5 : s__law_between_5 [some (.ref l), some (.p (.int kind)), some (.p (.int one)), some (.p (.int other)), none, none] M = .nx [some (.ref l), some (.p (.int kind)), some (.p (.int one)), some (.p (.int other)), some (.p (.int lo)), none] M := by
    simp [s__law_between_5, e1, v1, i1]
  have s6 : s__law_between_6 [some (.ref l), some (.p (.int kind)), some (.p (.int one)), some (.p (.int other)), some (.p (.int lo)), none] M = .nx [some (.ref l), some (.p (.int kind)), some (.p (.int one)), some (.p (.int other)), some (.p (.int lo)), some (.p (.int hi))] M := by
    simp [s__law_between_6, e1, em, v2, v3, i2]
  have fin : ∀ s : Nat × Nat, SpOk s → bodyR ((rSeq s__law_between_7 (rSeq s__law_between_8 (rSeq s__law_between_9 (rSeq s__law_between_10 s__law_between_11)))) [some (.ref l), some (.p (.int kind)), some (.p (.int one)), some (.p (.int other)), some (.p (.int lo)), some (.p (.int hi))] M) = .ok (.p (spP s)) M →
      ∃ s : Nat × Nat, SpOk s ∧ F__law_between [.ref l, .p (.int kind), .p (.int one), .p (.int other)] M = .ok (.p (spP s)) M := fun s h1 h2 => by
    refine ⟨s, h1, selfF_ok ?_ (Nat.le_refl _)⟩
    have es : startD 6 [.ref l, .p (.int kind), .p (.int one), .p (.int other)] = [some (.ref l), some (.p (.int kind)), some (.p (.int one)), some (.p (.int other)), none, none] := rfl
    unfold m__law_between
    rw [es, e_seq, s5, Out.bind_nx, e_seq, s6, Out.bind_nx]
    exact h2
  by_cases c1 : (kind : Int) < 2
  · exact fin (0, 99999) ⟨by decide, by decide⟩ (by simp [s__law_between_7, s__law_between_1, c1, spP])
  by_cases c2 : (kind : Int) = 2
  · exact fin (lo, lo) ⟨Nat.le_refl _, hlo⟩ (by simp [s__law_between_7, s__law_between_8, s__law_between_2, c2, spP])
  by_cases c3 : (kind : Int) = 3
  · exact fin (0, hi) ⟨Nat.zero_le _, hhi⟩ (by simp [s__law_between_7, s__law_between_8, s__law_between_9, s__law_between_3, c3, spP])
  by_cases c4 : (kind : Int) = 4
  · exact fin (lo, 99999) ⟨hlo, Nat.le_refl _⟩ (by simp [s__law_between_7, s__law_between_8, s__law_between_9, s__law_between_10, s__law_between_4, c4, spP])
  · have z1 : min (lo : Int) (hi : Int) = ((min lo hi : Nat) : Int) := by omega
    have z2 : max (lo : Int) (hi : Int) = ((max lo hi : Nat) : Int) := by omega
    exact fin (min lo hi, max lo hi) ⟨by show min lo hi ≤ max lo hi; omega, by show max lo hi ≤ 99999; omega⟩ (by simp [s__law_between_7, s__law_between_8, s__law_between_9, s__law_between_10, s__law_between_11, c1, c2, c3, c4, spP, z1, z2])
-- slots: 0:numbers 1:at 2:count 3:points 4:made 5:k 6:spans 7:place 8:here 9:kind 10:one 11:other
noncomputable def s__law_rules_1  : RS :=
  (rSet 8 (rBin dAdd (rBin dAdd (rVar 1) (rBin dMul (rC (.p (.int 10))) (rVar 5))) (rBin dMul (rC (.p (.int 3))) (rVar 7))))
noncomputable def s__law_rules_2  : RS :=
  (rSet 9 (rCallN 3 F__law_pick (rCons (rVar 0) (rCons (rVar 8) (rCons (rC (.p (.int 8))) rNil)))))
noncomputable def s__law_rules_3  : RS :=
  (rSet 10 (rCallN 3 F__law_pick (rCons (rVar 0) (rCons (rBin dAdd (rVar 8) (rC (.p (.int 1)))) (rCons (rC (.p (.int 1000))) rNil)))))
noncomputable def s__law_rules_4  : RS :=
  (rSet 11 (rCallN 3 F__law_pick (rCons (rVar 0) (rCons (rBin dAdd (rVar 8) (rC (.p (.int 2)))) (rCons (rC (.p (.int 1000))) rNil)))))
noncomputable def s__law_rules_5  : RS :=
  (rExpr (rLM mAppend (rVar 6) (rCons (rCallN 4 F__law_between (rCons (rBin dIx (rVar 3) (rVar 7)) (rCons (rVar 9) (rCons (rVar 10) (rCons (rVar 11) rNil))))) rNil)))
noncomputable def b__law_rules_6  : RS :=
  (rSeq s__law_rules_1
  (rSeq s__law_rules_2
  (rSeq s__law_rules_3
  (rSeq s__law_rules_4
  s__law_rules_5))))
noncomputable def s__law_rules_7  : RS :=
  (rSet 6 (rLst rNil))
noncomputable def s__law_rules_8  : RS :=
  (rForR rng1 (rCons (rC (.p (.int 3))) rNil) (gNm 7)
  b__law_rules_6)
noncomputable def s__law_rules_9  : RS :=
  (rExpr (rLM mAppend (rVar 4) (rCons (rTup (rCons (rCB cInt (rCons (rBin dLt (rCallN 3 F__law_pick (rCons (rVar 0) (rCons (rBin dAdd (rBin dAdd (rVar 1) (rBin dMul (rC (.p (.int 10))) (rVar 5))) (rC (.p (.int 9)))) (rCons (rC (.p (.int 5))) rNil)))) (rC (.p (.int 3)))) rNil)) (rCons (rBin dIx (rVar 6) (rC (.p (.int 0)))) (rCons (rBin dIx (rVar 6) (rC (.p (.int 1)))) (rCons (rBin dIx (rVar 6) (rC (.p (.int 2)))) rNil))))) rNil)))
noncomputable def b__law_rules_10  : RS :=
  (rSeq s__law_rules_7
  (rSeq s__law_rules_8
  s__law_rules_9))
noncomputable def s__law_rules_11  : RS :=
  (rSet 4 (rLst rNil))
noncomputable def s__law_rules_12  : RS :=
  (rForR rng1 (rCons (rVar 2) rNil) (gNm 5)
  b__law_rules_10)
noncomputable def s__law_rules_13  : RS :=
  (rRet (rCB cTuple (rCons (rVar 4) rNil)))
noncomputable def m__law_rules  : RS :=
  (rSeq s__law_rules_11
  (rSeq s__law_rules_12
  s__law_rules_13))

noncomputable def F__law_rules : List D → Store → R D := selfF 12 m__law_rules
theorem r__law_rules : Ref 4 12 F__law_rules m__law_rules := ref_self 4 12 m__law_rules
/-- three rows of points -/
structure PtsAt (M : Store) (lp : Nat) : Prop where
  is_ : ∃ ys : List D, M[lp]? = some (.lst ys) ∧ ∀ i, i < 3 → ∃ l ps, ys[i]? = some (.ref l) ∧ M[l]? = some (.lst (numL ps)) ∧ Pts ps ∧ 0 < ps.length
theorem PtsAt.pfx {M M' : Store} {lp : Nat} (h : PtsAt M lp) (p : M <+: M') : PtsAt M' lp := by
  obtain ⟨ys, h1, h2⟩ := h.is_
  exact ⟨ys, pfx_get p h1, fun i hi => by
    obtain ⟨l, ps, a, b, c, d⟩ := h2 i hi
    exact ⟨l, ps, a, pfx_get p b, c, d⟩⟩
def spL (ss : List (Nat × Nat)) : List D := ss.map fun s => .p (spP s)
theorem rules_spans (M : Store) (ln lp n : Nat) (xs : List Int) (h0 : M[ln]? = some (.lst (numL xs))) (hx : Nums xs n) (hn : 0 < n) (hp : PtsAt M lp) (at_ k : Nat) (hk : k ≤ 1000) (x2 x4 x7 x8 x9 x10 x11 : Option D) :
    ∃ ss y7 y8 y9 y10 y11, ss.length = 3 ∧ (∀ s ∈ ss, SpOk s) ∧ s__law_rules_8 [some (.ref ln), some (.p (.int at_)), x2, some (.ref lp), x4, some (.p (.int k)), some (.ref M.length), x7, x8, x9, x10, x11] (M ++ [.lst []]) = .nx [some (.ref ln), some (.p (.int at_)), x2, some (.ref lp), x4, some (.p (.int k)), some (.ref M.length), y7, y8, y9, y10, y11] (M ++ [.lst (spL ss)]) := by
  have er : rng1 [.p (.int 3)] = some (0, 3) := rng1_len 3 (by omega)
  obtain ⟨ρ', M2, k1, ss, y7, y8, y9, y10, y11, a1, a2, rfl, rfl⟩ := forL_inv (k := none) (g := gNm 7) (body := b__law_rules_6) (intsD 0 3) (fun i ρ M' => ∃ ss y7 y8 y9 y10 y11, ss.length = i ∧ (∀ s ∈ ss, SpOk s) ∧ M' = M ++ [.lst (spL ss)] ∧ ρ = [some (.ref ln), some (.p (.int at_)), x2, some (.ref lp), x4, some (.p (.int k)), some (.ref M.length), y7, y8, y9, y10, y11]) (fun _ _ _ _ => True.intro) (by
    rintro i x ρ M3 hx2 ⟨ss, y7, y8, y9, y10, y11, a1, a2, rfl, rfl⟩
    have hi : i < 3 := by
      have := (List.getElem?_eq_some_iff.mp hx2).1
      rw [intsD_len] at this
      exact this
    rw [intsD_get _ _ i hi] at hx2
    cases hx2
    rw [Int.zero_add]
    have hM := get_app h0 [O.lst (spL ss)]
    obtain ⟨ys, g1, g2⟩ := (hp.pfx (List.prefix_append M [.lst (spL ss)])).is_
    obtain ⟨lq, ps, b1, b2, b3, b4⟩ := g2 i hi
    have m1 := fun S => v_mul 10 (k : Int) S (mul_small (by omega) (by omega))
    have m2 := fun S => v_mul 3 (i : Int) S (mul_small (by omega) (by omega))
    obtain ⟨here, hh⟩ : ∃ here : Nat, here = at_ + 10 * k + 3 * i := ⟨_, rfl⟩
    have eh : (at_ : Int) + 10 * (k : Int) + 3 * (i : Int) = (here : Nat) := by omega
    obtain ⟨v1, w1, p1⟩ := x_pick _ ln n xs hM hx hn here 8 (by omega)
    obtain ⟨v2, w2, p2⟩ := x_pick _ ln n xs hM hx hn (here + 1) 1000 (by omega)
    obtain ⟨v3, w3, p3⟩ := x_pick _ ln n xs hM hx hn (here + 2) 1000 (by omega)
    have p2' : F__law_pick [.ref ln, .p (.int ((here : Int) + 1)), .p (.int 1000)] (M ++ [.lst (spL ss)]) = .ok (.p (.int v2)) (M ++ [.lst (spL ss)]) := p2
    have p3' : F__law_pick [.ref ln, .p (.int ((here : Int) + 2)), .p (.int 1000)] (M ++ [.lst (spL ss)]) = .ok (.p (.int v3)) (M ++ [.lst (spL ss)]) := p3
    have p1' : F__law_pick [.ref ln, .p (.int here), .p (.int 8)] (M ++ [.lst (spL ss)]) = .ok (.p (.int v1)) (M ++ [.lst (spL ss)]) := p1
    have ixp := v_ix_l lp _ i _ _ g1 b1
    obtain ⟨sp, hs, bt⟩ := x_law_between _ lq ps b2 b3 b4 v1 v2 v3
    have isl := isLst_ref M.length _ _ (get_new M (O.lst (spL ss)))
    have ap := v_append M.length _ (.p (spP sp)) _ (get_new M (O.lst (spL ss))) (lt_line (by simp [spL]; omega))
    rw [set_new, show spL ss ++ [.p (spP sp)] = spL (ss ++ [sp]) by simp [spL]] at ap
    refine ⟨_, _, [some (.ref ln), some (.p (.int at_)), x2, some (.ref lp), x4, some (.p (.int k)), some (.ref M.length), some (.p (.int i)), some (.p (.int here)), some (.p (.int v1)), some (.p (.int v2)), some (.p (.int v3))], _, rfl, .inl ?_, ss ++ [sp], _, _, _, _, _, by simp [a1], fun s hs2 => ?_, rfl, rfl⟩
    · simp [b__law_rules_6, s__law_rules_1, s__law_rules_2, s__law_rules_3, s__law_rules_4, s__law_rules_5, m1, m2, eh, p1', p2', p3', ixp, bt, isl, ap]
    · rcases List.mem_append.mp hs2 with hs2 | hs2
      · exact a2 s hs2
      · rw [List.mem_singleton.mp hs2]; exact hs) (ρ := [some (.ref ln), some (.p (.int at_)), x2, some (.ref lp), x4, some (.p (.int k)), some (.ref M.length), x7, x8, x9, x10, x11]) (M := M ++ [.lst []]) ⟨[], x7, x8, x9, x10, x11, rfl, fun s hs => by simp at hs, rfl, rfl⟩
  rw [intsD_len] at a1
  exact ⟨ss, y7, y8, y9, y10, y11, a1, a2, by simp [s__law_rules_8, er, k1]⟩
def ruL (rs : List Rl) : List D := rs.map fun r => .p r.P
theorem ruL_eq (rs : List Rl) : ruL rs = (rs.map Rl.P).map D.p := by simp [ruL, Function.comp_def]
theorem bit_pick (v : Nat) : ∃ b : Nat, b ≤ 1 ∧ (if (v : Int) < 3 then (1 : Int) else 0) = (b : Int) := by
  by_cases c : (v : Int) < 3
  · exact ⟨1, by omega, by rw [if_pos c]; rfl⟩
  · exact ⟨0, by omega, by rw [if_neg c]; rfl⟩
theorem rules_turn (M0 M : Store) (ln lp lm n : Nat) (xs : List Int) (h0 : M0[ln]? = some (.lst (numL xs))) (hx : Nums xs n) (hn : 0 < n) (hp : PtsAt M0 lp) (hl : M0.length ≤ lm) (q : M0 <+: M) (rs : List Rl) (hr : rs.length ≤ 1000) (h : M[lm]? = some (.lst (ruL rs))) (at_ k : Nat) (hk : k ≤ 1000) (x2 x6 x7 x8 x9 x10 x11 : Option D) :
    ∃ M' r y6 y7 y8 y9 y10 y11, M0 <+: M' ∧ r.Ok ∧ M'[lm]? = some (.lst (ruL (rs ++ [r]))) ∧
      b__law_rules_10 [some (.ref ln), some (.p (.int at_)), x2, some (.ref lp), some (.ref lm), some (.p (.int k)), x6, x7, x8, x9, x10, x11] M = .nx [some (.ref ln), some (.p (.int at_)), x2, some (.ref lp), some (.ref lm), some (.p (.int k)), y6, y7, y8, y9, y10, y11] M' := by
  obtain ⟨ss, y7, y8, y9, y10, y11, a1, a2, e8⟩ := rules_spans M ln lp n xs (pfx_get q h0) hx hn (hp.pfx q) at_ k hk x2 (some (.ref lm)) x7 x8 x9 x10 x11
  obtain ⟨S, hS⟩ : ∃ S : Store, S = M ++ [.lst (spL ss)] := ⟨_, rfl⟩
  have qS : M <+: S := by rw [hS]; exact List.prefix_append _ _
  have gS : S[M.length]? = some (.lst (spL ss)) := by rw [hS]; exact get_new _ _
  rw [← hS] at e8
  match ss, a1, a2 with
  | [s0, s1, s2], _, a2 =>
    have i0 := v_ix_l M.length _ 0 _ S gS rfl
    have i1 := v_ix_l M.length _ 1 _ S gS rfl
    have i2 := v_ix_l M.length _ 2 _ S gS rfl
    have i0' : dIx (.ref M.length) (.p (.int 0)) S = some (.p (spP s0), S) := i0
    have i1' : dIx (.ref M.length) (.p (.int 1)) S = some (.p (spP s1), S) := i1
    have i2' : dIx (.ref M.length) (.p (.int 2)) S = some (.p (spP s2), S) := i2
    obtain ⟨v, w, p1⟩ := x_pick S ln n xs (pfx_get (q.trans qS) h0) hx hn (at_ + 10 * k + 9) 5 (by omega)
    have ep : ((at_ + 10 * k + 9 : Nat) : Int) = (at_ : Int) + 10 * (k : Int) + 9 := by omega
    rw [ep] at p1
    have p1' : F__law_pick [.ref ln, .p (.int ((at_ : Int) + 10 * (k : Int) + 9)), .p (.int 5)] S = .ok (.p (.int v)) S := p1
    obtain ⟨b, hb, eb⟩ := bit_pick v
    have m1 := v_mul 10 (k : Int) S (mul_small (by omega) (by omega))
    have gl := pfx_get qS h
    have isl := isLst_ref lm _ S gl
    have ap := v_append lm _ (.p (Rl.P ⟨b, s0, s1, s2⟩)) S gl (lt_line (by simp [ruL]; omega))
    rw [show ruL rs ++ [.p (Rl.P ⟨b, s0, s1, s2⟩)] = ruL (rs ++ [⟨b, s0, s1, s2⟩]) by simp [ruL]] at ap
    unfold Rl.P at ap
    refine ⟨_, ⟨b, s0, s1, s2⟩, some (.ref M.length), y7, y8, y9, y10, y11, pfx_set (q.trans qS) hl (.lst (ruL (rs ++ [⟨b, s0, s1, s2⟩]))), ⟨hb, a2 s0 (by simp), a2 s1 (by simp), a2 s2 (by simp)⟩, List.getElem?_set_self (get_lt gl), ?_⟩
    have z : cInt [.p (.bl (decide ((v : Int) < 3)))] S = some (.p (.int b), S) := by
      rw [v_int_b, ← eb]
      by_cases c : (v : Int) < 3 <;> simp [c]
    simp [b__law_rules_10, s__law_rules_7, e8, s__law_rules_9, p1', m1, -v_int_b, z, i0', i1', i2', isl, ap]
theorem x_law_rules (M : Store) (ln lp n : Nat) (xs : List Int) (h0 : M[ln]? = some (.lst (numL xs))) (hx : Nums xs n) (hn : 0 < n) (hp : PtsAt M lp) (at_ count : Nat) (hc : count ≤ 900) :
    ∃ M' rs, M <+: M' ∧ rs.length = count ∧ (∀ r ∈ rs, r.Ok) ∧ F__law_rules [.ref ln, .p (.int at_), .p (.int count), .ref lp] M = .ok (.p (wallP rs)) M' := by
  have er := rng1_len count (by omega)
  obtain ⟨ρ', M2, k1, rs, y5, y6, y7, y8, y9, y10, y11, a1, a2, a3, a4, rfl⟩ := forL_inv (k := none) (g := gNm 5) (body := b__law_rules_10) (intsD 0 count) (fun i ρ M' => ∃ rs y5 y6 y7 y8 y9 y10 y11, M <+: M' ∧ rs.length = i ∧ (∀ r ∈ rs, r.Ok) ∧ M'[M.length]? = some (.lst (ruL rs)) ∧ ρ = [some (.ref ln), some (.p (.int at_)), some (.p (.int count)), some (.ref lp), some (.ref M.length), y5, y6, y7, y8, y9, y10, y11]) (fun _ _ _ _ => True.intro) (by
    rintro i x ρ M3 hx2 ⟨rs, y5, y6, y7, y8, y9, y10, y11, a1, a2, a3, a4, rfl⟩
    have hi : i < count := by
      have := (List.getElem?_eq_some_iff.mp hx2).1
      rw [intsD_len] at this
      exact this
    rw [intsD_get _ _ i hi] at hx2
    cases hx2
    rw [Int.zero_add]
    obtain ⟨M4, r, z6, z7, z8, z9, z10, z11, b1, b2, b3, b4⟩ := rules_turn M M3 ln lp M.length n xs h0 hx hn hp (Nat.le_refl _) a1 rs (by omega) a4 at_ i (by omega) (some (.p (.int count))) y6 y7 y8 y9 y10 y11
    exact ⟨_, _, _, M4, rfl, .inl b4, rs ++ [r], _, z6, z7, z8, z9, z10, z11, b1, by simp [a2], fun t ht => (List.mem_append.mp ht).elim (a3 t) fun ht => by rw [List.mem_singleton.mp ht]; exact b2, b3, rfl⟩) (ρ := [some (.ref ln), some (.p (.int at_)), some (.p (.int count)), some (.ref lp), some (.ref M.length), none, none, none, none, none, none, none]) (M := M ++ [.lst []]) ⟨[], none, none, none, none, none, none, none, List.prefix_append _ _, rfl, fun r hr => by simp at hr, by simp [ruL], rfl⟩
  rw [intsD_len] at a2
  have tt : cTuple [.ref M.length] M2 = some (.p (wallP rs), M2) := by
    rw [ruL_eq] at a4
    simp only [cTuple, rowD, a4, mkTup, allP_map, Option.map_some]
    rfl
  refine ⟨M2, rs, a1, a2, a3, selfF_ok ?_ (pfx_len a1)⟩
  simp [m__law_rules, s__law_rules_11, s__law_rules_12, s__law_rules_13, er, k1, tt]
-- slots: 0:number
noncomputable def m__law_few  : RS :=
  (rRet (rBin dIx (rLst (rCons (rC (.p (.int 0))) (rCons (rC (.p (.int 1))) (rCons (rC (.p (.int 2))) (rCons (rC (.p (.int 3))) (rCons (rC (.p (.int 3))) (rCons (rC (.p (.int 4))) (rCons (rC (.p (.int 4))) (rCons (rC (.p (.int 5))) (rCons (rC (.p (.int 5))) (rCons (rC (.p (.int 6))) rNil))))))))))) (rBin dMod (rCB cInt (rCons (rVar 0) rNil)) (rC (.p (.int 10))))))

noncomputable def F__law_few : List D → Store → R D := selfF 1 m__law_few
theorem r__law_few : Ref 1 1 F__law_few m__law_few := ref_self 1 1 m__law_few
theorem x_law_few (i : Int) (M : Store) : ∃ v : Nat, v ≤ 6 ∧ ∃ M', M <+: M' ∧ F__law_few [.p (.int i)] M = .ok (.p (.int v)) M' := by
  have v1 := fun S => v_mod i 10 S (by decide)
  obtain ⟨j, hj⟩ : ∃ j : Nat, i % 10 = j := ⟨(i % 10).toNat, by omega⟩
  have hj2 : j < 10 := by omega
  obtain ⟨L, hL⟩ : ∃ L : List Nat, L = [0, 1, 2, 3, 3, 4, 4, 5, 5, 6] := ⟨_, rfl⟩
  have hl : j < L.length := by rw [hL]; exact hj2
  have hm : ∀ x ∈ L, x ≤ 6 := by rw [hL]; decide
  have ix := v_ix_l M.length (L.map fun n => .p (.int (n : Nat))) j (.p (.int (L[j] : Nat))) _ (get_new M (O.lst (L.map fun n => .p (.int (n : Nat))))) (by simp [List.getElem?_eq_getElem hl])
  have eL : (L.map fun n => D.p (.int (n : Nat))) = [.p (.int 0), .p (.int 1), .p (.int 2), .p (.int 3), .p (.int 3), .p (.int 4), .p (.int 4), .p (.int 5), .p (.int 5), .p (.int 6)] := by rw [hL]; rfl
  rw [eL] at ix
  refine ⟨L[j], hm _ (List.getElem_mem hl), _, List.prefix_append _ [.lst [.p (.int 0), .p (.int 1), .p (.int 2), .p (.int 3), .p (.int 3), .p (.int 4), .p (.int 4), .p (.int 5), .p (.int 5), .p (.int 6)]], selfF_ok ?_ (by simp)⟩
  simp [m__law_few, v1, hj, ix]

def mkS (b place : Nat) (s : Nat × Nat) : Rl := match place with
  | 0 => ⟨b, s, full, full⟩
  | 1 => ⟨b, full, s, full⟩
  | _ => ⟨b, full, full, s⟩
theorem mkS_ok {b place : Nat} {s : Nat × Nat} (hb : b ≤ 1) (hs : SpOk s) : (mkS b place s).Ok := by
  have hf : SpOk full := ⟨by decide, by decide⟩
  match place with
  | 0 => exact ⟨hb, hs, hf, hf⟩
  | 1 => exact ⟨hb, hf, hs, hf⟩
  | n + 2 => exact ⟨hb, hf, hf, hs⟩
theorem mkS_full {b place q : Nat} {s : Nat × Nat} (hp : place < 3) (hq : q < 3) (h : q ≠ place) : (mkS b place s).sp q = full := by
  have h1 : place = 0 ∨ place = 1 ∨ place = 2 := by omega
  have h2 : q = 0 ∨ q = 1 ∨ q = 2 := by omega
  rcases h1 with rfl | rfl | rfl <;> rcases h2 with rfl | rfl | rfl <;> first | rfl | exact absurd rfl h

-- slots: 0:numbers 1:count 2:place 3:most 4:made 5:step 6:k 7:ends 8:part 9:spans 10:n
noncomputable def s__law_stripes_1  : RS :=
  (rSet 10 (rCallN 3 F__law_pick (rCons (rVar 0) (rCons (rBin dAdd (rBin dMul (rC (.p (.int 3))) (rVar 6)) (rVar 8)) (rCons (rVar 3) rNil)))))
noncomputable def s__law_stripes_2  : RS :=
  (rExpr (rLM mAppend (rVar 7) (rCons (rBin dIx (rLst (rCons (rBin dMul (rVar 10) (rVar 5)) (rCons (rC (.p (.int 99999))) rNil))) (rCB cInt (rCons (rBin dEq (rVar 10) (rBin dSub (rVar 3) (rC (.p (.int 1))))) rNil))) rNil)))
noncomputable def b__law_stripes_3  : RS :=
  (rSeq s__law_stripes_1
  s__law_stripes_2)
noncomputable def s__law_stripes_4  : RS :=
  (rSet 7 (rLst rNil))
noncomputable def s__law_stripes_5  : RS :=
  (rForR rng1 (rCons (rC (.p (.int 2))) rNil) (gNm 8)
  b__law_stripes_3)
noncomputable def s__law_stripes_6  : RS :=
  (rSet 9 (rLst (rCons (rTup (rCons (rC (.p (.int 0))) (rCons (rC (.p (.int 99999))) rNil))) (rCons (rTup (rCons (rC (.p (.int 0))) (rCons (rC (.p (.int 99999))) rNil))) (rCons (rTup (rCons (rC (.p (.int 0))) (rCons (rC (.p (.int 99999))) rNil))) rNil)))))
noncomputable def s__law_stripes_7  : RS :=
  (rAsg (rTup (rCons (rCB cMinL (rCons (rVar 7) rNil)) (rCons (rCB cMaxL (rCons (rVar 7) rNil)) rNil))) (gSu (rVar 9) (rVar 2) setD))
noncomputable def s__law_stripes_8  : RS :=
  (rExpr (rLM mAppend (rVar 4) (rCons (rTup (rCons (rCB cInt (rCons (rBin dLt (rCallN 3 F__law_pick (rCons (rVar 0) (rCons (rBin dAdd (rBin dMul (rC (.p (.int 3))) (rVar 6)) (rC (.p (.int 2)))) (rCons (rC (.p (.int 5))) rNil)))) (rC (.p (.int 3)))) rNil)) (rCons (rBin dIx (rVar 9) (rC (.p (.int 0)))) (rCons (rBin dIx (rVar 9) (rC (.p (.int 1)))) (rCons (rBin dIx (rVar 9) (rC (.p (.int 2)))) rNil))))) rNil)))
noncomputable def b__law_stripes_9  : RS :=
  (rSeq s__law_stripes_4
  (rSeq s__law_stripes_5
  (rSeq s__law_stripes_6
  (rSeq s__law_stripes_7
  s__law_stripes_8))))
noncomputable def s__law_stripes_10  : RS :=
  (rSet 4 (rLst rNil))
noncomputable def s__law_stripes_11  : RS :=
  (rSet 5 (rBin dDiv (rC (.p (.int 99999))) (rBin dSub (rVar 3) (rC (.p (.int 1))))))
noncomputable def s__law_stripes_12  : RS :=
  (rForR rng1 (rCons (rVar 1) rNil) (gNm 6)
  b__law_stripes_9)
noncomputable def s__law_stripes_13  : RS :=
  (rRet (rCB cTuple (rCons (rVar 4) rNil)))
noncomputable def m__law_stripes  : RS :=
  (rSeq s__law_stripes_10
  (rSeq s__law_stripes_11
  (rSeq s__law_stripes_12
  s__law_stripes_13)))

noncomputable def F__law_stripes : List D → Store → R D := selfF 11 m__law_stripes
theorem r__law_stripes : Ref 4 11 F__law_stripes m__law_stripes := ref_self 4 11 m__law_stripes
theorem ends_turn (M0 M : Store) (ln le n : Nat) (xs : List Int) (h0 : M0[ln]? = some (.lst (numL xs))) (hx : Nums xs n) (hn : 0 < n) (hl : M0.length ≤ le) (q : M0 <+: M) (es : List Int) (he : es.length ≤ 100) (h : M[le]? = some (.lst (numL es))) (most k part : Nat) (hm : 2 ≤ most) (hm2 : most ≤ 1000) (hk : k ≤ 1000) (x1 x2 x4 x9 x10 : Option D) :
    ∃ M' e y10, M0 <+: M' ∧ 0 ≤ e ∧ e ≤ 99999 ∧ M'[le]? = some (.lst (numL (es ++ [e]))) ∧
      b__law_stripes_3 [some (.ref ln), x1, x2, some (.p (.int most)), x4, some (.p (.int ((99999 / (most - 1) : Nat) : Int))), some (.p (.int k)), some (.ref le), some (.p (.int part)), x9, x10] M = .nx [some (.ref ln), x1, x2, some (.p (.int most)), x4, some (.p (.int ((99999 / (most - 1) : Nat) : Int))), some (.p (.int k)), some (.ref le), some (.p (.int part)), x9, y10] M' := by
  obtain ⟨v, hv, p1⟩ := x_pick M ln n xs (pfx_get q h0) hx hn (3 * k + part) most (by omega)
  have ep : ((3 * k + part : Nat) : Int) = 3 * (k : Int) + (part : Int) := by omega
  rw [ep] at p1
  have m1 := v_mul 3 (k : Int) M (mul_small (by omega) (by omega))
  obtain ⟨st, hst⟩ : ∃ st : Nat, st = 99999 / (most - 1) := ⟨_, rfl⟩
  have hst1 : v * st ≤ 99999 := by
    have h1 : v * st ≤ (most - 1) * st := Nat.mul_le_mul_right _ (by omega)
    have h2 : (most - 1) * st ≤ 99999 := by rw [hst]; exact Nat.mul_div_le _ _
    omega
  have hst2 : st ≤ 99999 := by rw [hst]; exact Nat.div_le_self _ _
  rw [← hst]
  have m2 := v_mul (v : Int) (st : Int) M (mul_small (by omega) (by omega))
  obtain ⟨S, hS⟩ : ∃ S : Store, S = M ++ [O.lst [.p (.int ((v : Int) * (st : Int))), .p (.int 99999)]] := ⟨_, rfl⟩
  have qS : M <+: S := by rw [hS]; exact List.prefix_append _ _
  have gl := pfx_get qS h
  have isl := isLst_ref le _ S gl
  have islM := isLst_ref le _ M h
  have gS : S[M.length]? = some (.lst [.p (.int ((v : Int) * (st : Int))), .p (.int 99999)]) := by rw [hS]; exact get_new _ _
  have fin : ∀ (e : Int), dIx (.ref M.length) (.p (.int (if (v : Int) = (most : Int) - 1 then 1 else 0))) S = some (.p (.int e), S) → 0 ≤ e → e ≤ 99999 →
      ∃ M' e y10, M0 <+: M' ∧ 0 ≤ e ∧ e ≤ 99999 ∧ M'[le]? = some (.lst (numL (es ++ [e]))) ∧
      b__law_stripes_3 [some (.ref ln), x1, x2, some (.p (.int most)), x4, some (.p (.int (st : Int))), some (.p (.int k)), some (.ref le), some (.p (.int part)), x9, x10] M = .nx [some (.ref ln), x1, x2, some (.p (.int most)), x4, some (.p (.int (st : Int))), some (.p (.int k)), some (.ref le), some (.p (.int part)), x9, y10] M' := fun e hix h1 h2 => by
    have ap := v_append le _ (.p (.int e)) S gl (lt_line (by simp [numL]; omega))
    rw [show numL es ++ [.p (.int e)] = numL (es ++ [e]) by simp [numL]] at ap
    refine ⟨_, e, some (.p (.int v)), pfx_set (q.trans qS) hl (.lst (numL (es ++ [e]))), h1, h2, List.getElem?_set_self (get_lt gl), ?_⟩
    have hix2 : dIx (.ref M.length) (.p (.int (if decide ((v : Int) = (most : Int) - 1) = true then 1 else 0))) S = some (.p (.int e), S) := by
      by_cases c : (v : Int) = (most : Int) - 1 <;> simp [c] at hix ⊢ <;> exact hix
    simp only [b__law_stripes_3, s__law_stripes_1, s__law_stripes_2]
    simp [m1, p1, islM, m2, ← hS, -decide_eq_true_eq, hix2, ap]
  by_cases c : (v : Int) = (most : Int) - 1
  · exact fin 99999 (by rw [if_pos c]; exact v_ix_l M.length _ 1 _ S gS rfl) (by decide) (by decide)
  · refine fin ((v : Int) * (st : Int)) (by rw [if_neg c]; exact v_ix_l M.length _ 0 _ S gS rfl) (Int.mul_nonneg (by omega) (by omega)) ?_
    have : ((v * st : Nat) : Int) = (v : Int) * (st : Int) := by simp
    omega
theorem stripes_turn (M0 M : Store) (ln lm n : Nat) (xs : List Int) (h0 : M0[ln]? = some (.lst (numL xs))) (hx : Nums xs n) (hn : 0 < n) (hl : M0.length ≤ lm) (q : M0 <+: M) (rs : List Rl) (hr : rs.length ≤ 1000) (h : M[lm]? = some (.lst (ruL rs))) (place most k : Nat) (hp : place < 3) (hm : 2 ≤ most) (hm2 : most ≤ 1000) (hk : k ≤ 1000) (x1 x7 x8 x9 x10 : Option D) :
    ∃ M' b s y7 y8 y9 y10, M0 <+: M' ∧ b ≤ 1 ∧ SpOk s ∧ M'[lm]? = some (.lst (ruL (rs ++ [mkS b place s]))) ∧
      b__law_stripes_9 [some (.ref ln), x1, some (.p (.int place)), some (.p (.int most)), some (.ref lm), some (.p (.int ((99999 / (most - 1) : Nat) : Int))), some (.p (.int k)), x7, x8, x9, x10] M = .nx [some (.ref ln), x1, some (.p (.int place)), some (.p (.int most)), some (.ref lm), some (.p (.int ((99999 / (most - 1) : Nat) : Int))), some (.p (.int k)), y7, y8, y9, y10] M' := by
  have er : rng1 [.p (.int 2)] = some (0, 2) := rng1_len 2 (by omega)
  obtain ⟨ρ', M2, k1, es, y8, y10, a1, a2, a3, a4, rfl⟩ := forL_inv (k := none) (g := gNm 8) (body := b__law_stripes_3) (intsD 0 2) (fun i ρ M' => ∃ es y8 y10, M <+: M' ∧ es.length = i ∧ (∀ e ∈ es, 0 ≤ e ∧ e ≤ 99999) ∧ M'[M.length]? = some (.lst (numL es)) ∧ ρ = [some (.ref ln), x1, some (.p (.int place)), some (.p (.int most)), some (.ref lm), some (.p (.int ((99999 / (most - 1) : Nat) : Int))), some (.p (.int k)), some (.ref M.length), y8, x9, y10]) (fun _ _ _ _ => True.intro) (by
    rintro i x ρ M3 hx2 ⟨es, y8, y10, a1, a2, a3, a4, rfl⟩
    have hi : i < 2 := by
      have := (List.getElem?_eq_some_iff.mp hx2).1
      rw [intsD_len] at this
      exact this
    rw [intsD_get _ _ i hi] at hx2
    cases hx2
    rw [Int.zero_add]
    obtain ⟨M4, e, z10, b1, b2, b3, b4, b5⟩ := ends_turn M M3 ln M.length n xs (pfx_get q h0) hx hn (Nat.le_refl _) a1 es (by omega) a4 most k i hm hm2 hk x1 (some (.p (.int place))) (some (.ref lm)) x9 y10
    exact ⟨_, _, _, M4, rfl, .inl b5, es ++ [e], _, z10, b1, by simp [a2], fun t ht => (List.mem_append.mp ht).elim (a3 t) fun ht => by rw [List.mem_singleton.mp ht]; exact ⟨b2, b3⟩, b4, rfl⟩) (ρ := [some (.ref ln), x1, some (.p (.int place)), some (.p (.int most)), some (.ref lm), some (.p (.int ((99999 / (most - 1) : Nat) : Int))), some (.p (.int k)), some (.ref M.length), x8, x9, x10]) (M := M ++ [.lst []]) ⟨[], x8, x10, List.prefix_append _ _, rfl, fun e he => by simp at he, by simp [numL], rfl⟩
  rw [intsD_len] at a2
  have hmn := minI_mem (ns := es) (by omega)
  have hmx := maxI_mem (ns := es) (by omega)
  have c1 := a3 _ hmn.1
  have c2 := a3 _ hmx.1
  have c3 := hmn.2 _ hmx.1
  obtain ⟨s, hs⟩ : ∃ s : Nat × Nat, s = ((minI es).toNat, (maxI es).toNat) := ⟨_, rfl⟩
  have hsp : SpOk s := by rw [hs]; unfold SpOk; constructor <;> (dsimp only; omega)
  have e1 : minI es = s.1 := by rw [hs]; dsimp only; omega
  have e2 : maxI es = s.2 := by rw [hs]; dsimp only; omega
  have g1 : cMinL [.ref M.length] M2 = some (.p (.int s.1), M2) := by
    have : intsOf (numL es) = some es := intsOf_map es
    simp [cMinL, a4, this, e1, a2]
  obtain ⟨fl, hfl⟩ : ∃ fl : List D, fl = [.p (spP full), .p (spP full), .p (spP full)] := ⟨_, rfl⟩
  obtain ⟨S, hS⟩ : ∃ S : Store, S = M2 ++ [O.lst fl] := ⟨_, rfl⟩
  have qS : M2 <+: S := by rw [hS]; exact List.prefix_append _ _
  have g1' : cMinL [.ref M.length] S = some (.p (.int s.1), S) := by
    have : intsOf (numL es) = some es := intsOf_map es
    simp [cMinL, pfx_get qS a4, this, e1, a2]
  have g2' : cMaxL [.ref M.length] S = some (.p (.int s.2), S) := by
    have : intsOf (numL es) = some es := intsOf_map es
    simp [cMaxL, pfx_get qS a4, this, e2, a2]
  have gS : S[M2.length]? = some (.lst fl) := by rw [hS]; exact get_new _ _
  have st := v_set M2.length fl place (.p (spP s)) S gS (by rw [hfl]; exact hp)
  have hset : S.set M2.length (.lst (fl.set place (.p (spP s)))) = M2 ++ [O.lst (fl.set place (.p (spP s)))] := by rw [hS, set_new]
  rw [hset] at st
  obtain ⟨Z, hZ⟩ : ∃ Z : Store, Z = M2 ++ [O.lst (fl.set place (.p (spP s)))] := ⟨_, rfl⟩
  rw [← hZ] at st
  have qZ : M2 <+: Z := by rw [hZ]; exact List.prefix_append _ _
  have gZ : Z[M2.length]? = some (.lst (fl.set place (.p (spP s)))) := by rw [hZ]; exact get_new _ _
  obtain ⟨v, w, p1⟩ := x_pick Z ln n xs (pfx_get ((q.trans a1).trans qZ) h0) hx hn (3 * k + 2) 5 (by omega)
  rw [show ((3 * k + 2 : Nat) : Int) = 3 * (k : Int) + 2 by omega] at p1
  have p1' : F__law_pick [.ref ln, .p (.int (3 * (k : Int) + 2)), .p (.int 5)] Z = .ok (.p (.int v)) Z := p1
  obtain ⟨b, hb, eb⟩ := bit_pick v
  have m1 := v_mul 3 (k : Int) Z (mul_small (by omega) (by omega))
  have z : cInt [.p (.bl (decide ((v : Int) < 3)))] Z = some (.p (.int b), Z) := by
    rw [v_int_b, ← eb]
    by_cases c : (v : Int) < 3 <;> simp [c]
  have hrow : fl.set place (.p (spP s)) = [.p (spP ((mkS b place s).s0)), .p (spP ((mkS b place s).s1)), .p (spP ((mkS b place s).s2))] := by
    rw [hfl]
    have h1 : place = 0 ∨ place = 1 ∨ place = 2 := by omega
    rcases h1 with rfl | rfl | rfl <;> rfl
  have i0 : dIx (.ref M2.length) (.p (.int 0)) Z = some (.p (spP ((mkS b place s).s0)), Z) := v_ix_l M2.length _ 0 _ Z gZ (by rw [hrow]; rfl)
  have i1 : dIx (.ref M2.length) (.p (.int 1)) Z = some (.p (spP ((mkS b place s).s1)), Z) := v_ix_l M2.length _ 1 _ Z gZ (by rw [hrow]; rfl)
  have i2 : dIx (.ref M2.length) (.p (.int 2)) Z = some (.p (spP ((mkS b place s).s2)), Z) := v_ix_l M2.length _ 2 _ Z gZ (by rw [hrow]; rfl)
  have hbm : (mkS b place s).b = b := by
    have h1 : place = 0 ∨ place = 1 ∨ place = 2 := by omega
    rcases h1 with rfl | rfl | rfl <;> rfl
  have gl := pfx_get (a1.trans qZ) h
  have isl := isLst_ref lm _ Z gl
  have ap := v_append lm _ (.p (Rl.P (mkS b place s))) Z gl (lt_line (by simp [ruL]; omega))
  rw [show ruL rs ++ [.p (Rl.P (mkS b place s))] = ruL (rs ++ [mkS b place s]) by simp [ruL]] at ap
  have er2 : Rl.P (mkS b place s) = .tup [.int b, spP (mkS b place s).s0, spP (mkS b place s).s1, spP (mkS b place s).s2] := by unfold Rl.P; rw [hbm]
  rw [er2] at ap
  have t5 : s__law_stripes_5 [some (.ref ln), x1, some (.p (.int place)), some (.p (.int most)), some (.ref lm), some (.p (.int ((99999 / (most - 1) : Nat) : Int))), some (.p (.int k)), some (.ref M.length), x8, x9, x10] (M ++ [.lst []]) = .nx [some (.ref ln), x1, some (.p (.int place)), some (.p (.int most)), some (.ref lm), some (.p (.int ((99999 / (most - 1) : Nat) : Int))), some (.p (.int k)), some (.ref M.length), y8, x9, y10] M2 := by
    simp only [s__law_stripes_5, e_forR, e_cons, e_C, e_nil, R.bind_ok, R.out_ok, er, oK_some]
    exact k1
  have t6 : s__law_stripes_6 [some (.ref ln), x1, some (.p (.int place)), some (.p (.int most)), some (.ref lm), some (.p (.int ((99999 / (most - 1) : Nat) : Int))), some (.p (.int k)), some (.ref M.length), y8, x9, y10] M2 = .nx [some (.ref ln), x1, some (.p (.int place)), some (.p (.int most)), some (.ref lm), some (.p (.int ((99999 / (most - 1) : Nat) : Int))), some (.p (.int k)), some (.ref M.length), y8, some (.ref M2.length), y10] S := by
    rw [hS, hfl]
    simp [s__law_stripes_6, spP, full]
  have t7 : s__law_stripes_7 [some (.ref ln), x1, some (.p (.int place)), some (.p (.int most)), some (.ref lm), some (.p (.int ((99999 / (most - 1) : Nat) : Int))), some (.p (.int k)), some (.ref M.length), y8, some (.ref M2.length), y10] S = .nx [some (.ref ln), x1, some (.p (.int place)), some (.p (.int most)), some (.ref lm), some (.p (.int ((99999 / (most - 1) : Nat) : Int))), some (.p (.int k)), some (.ref M.length), y8, some (.ref M2.length), y10] Z := by
    unfold spP at st
    simp [s__law_stripes_7, g1', g2', st]
  refine ⟨_, b, s, some (.ref M.length), y8, some (.ref M2.length), y10, pfx_set ((q.trans a1).trans qZ) hl (.lst (ruL (rs ++ [mkS b place s]))), hb, hsp, List.getElem?_set_self (get_lt gl), ?_⟩
  unfold b__law_stripes_9
  rw [e_seq]
  have t4 : s__law_stripes_4 [some (.ref ln), x1, some (.p (.int place)), some (.p (.int most)), some (.ref lm), some (.p (.int ((99999 / (most - 1) : Nat) : Int))), some (.p (.int k)), x7, x8, x9, x10] M = .nx [some (.ref ln), x1, some (.p (.int place)), some (.p (.int most)), some (.ref lm), some (.p (.int ((99999 / (most - 1) : Nat) : Int))), some (.p (.int k)), some (.ref M.length), x8, x9, x10] (M ++ [.lst []]) := by simp [s__law_stripes_4]
  rw [t4, Out.bind_nx, e_seq, t5, Out.bind_nx, e_seq, t6, Out.bind_nx, e_seq, t7, Out.bind_nx]
  simp [s__law_stripes_8, isl, m1, p1', -v_int_b, z, i0, i1, i2, ap]
theorem x_law_stripes (M : Store) (ln n : Nat) (xs : List Int) (h0 : M[ln]? = some (.lst (numL xs))) (hx : Nums xs n) (hn : 0 < n) (count place most : Nat) (hc : count ≤ 900) (hp : place < 3) (hm : 2 ≤ most) (hm2 : most ≤ 1000) :
    ∃ M' rs, M <+: M' ∧ rs.length = count ∧ (∀ r ∈ rs, r.Ok ∧ ∀ q, q < 3 → q ≠ place → r.sp q = full) ∧ F__law_stripes [.ref ln, .p (.int count), .p (.int place), .p (.int most)] M = .ok (.p (wallP rs)) M' := by
  have er := rng1_len count (by omega)
  obtain ⟨ρ', M2, k1, rs, y6, y7, y8, y9, y10, a1, a2, a3, a4, rfl⟩ := forL_inv (k := none) (g := gNm 6) (body := b__law_stripes_9) (intsD 0 count) (fun i ρ M' => ∃ rs y6 y7 y8 y9 y10, M <+: M' ∧ rs.length = i ∧ (∀ r ∈ rs, r.Ok ∧ ∀ q, q < 3 → q ≠ place → r.sp q = full) ∧ M'[M.length]? = some (.lst (ruL rs)) ∧ ρ = [some (.ref ln), some (.p (.int count)), some (.p (.int place)), some (.p (.int most)), some (.ref M.length), some (.p (.int ((99999 / (most - 1) : Nat) : Int))), y6, y7, y8, y9, y10]) (fun _ _ _ _ => True.intro) (by
    rintro i x ρ M3 hx2 ⟨rs, y6, y7, y8, y9, y10, a1, a2, a3, a4, rfl⟩
    have hi : i < count := by
      have := (List.getElem?_eq_some_iff.mp hx2).1
      rw [intsD_len] at this
      exact this
    rw [intsD_get _ _ i hi] at hx2
    cases hx2
    rw [Int.zero_add]
    obtain ⟨M4, b, s, z7, z8, z9, z10, b1, b2, b3, b4, b5⟩ := stripes_turn M M3 ln M.length n xs h0 hx hn (Nat.le_refl _) a1 rs (by omega) a4 place most i hp hm hm2 (by omega) (some (.p (.int count))) y7 y8 y9 y10
    exact ⟨_, _, _, M4, rfl, .inl b5, rs ++ [mkS b place s], _, z7, z8, z9, z10, b1, by simp [a2], fun t ht => (List.mem_append.mp ht).elim (a3 t) fun ht => by rw [List.mem_singleton.mp ht]; exact ⟨mkS_ok b2 b3, fun q hq hne => mkS_full hp hq hne⟩, b4, rfl⟩) (ρ := [some (.ref ln), some (.p (.int count)), some (.p (.int place)), some (.p (.int most)), some (.ref M.length), some (.p (.int ((99999 / (most - 1) : Nat) : Int))), none, none, none, none, none]) (M := M ++ [.lst []]) ⟨[], none, none, none, none, none, List.prefix_append _ _, rfl, fun r hr => by simp at hr, by simp [ruL], rfl⟩
  rw [intsD_len] at a2
  have tt : cTuple [.ref M.length] M2 = some (.p (wallP rs), M2) := by
    rw [ruL_eq] at a4
    simp only [cTuple, rowD, a4, mkTup, allP_map, Option.map_some]
    rfl
  have dv : ∀ S, dDiv (.p (.int 99999)) (.p (.int ((most : Int) - 1))) S = some (.p (.int ((99999 / (most - 1) : Nat) : Int)), S) := fun S => by
    have e : (most : Int) - 1 = ((most - 1 : Nat) : Int) := by omega
    rw [e, v_div _ _ _ (div_small (by omega) (by omega))]
    simp
  refine ⟨M2, rs, a1, a2, a3, selfF_ok ?_ (pfx_len a1)⟩
  have t11 : s__law_stripes_11 [some (.ref ln), some (.p (.int count)), some (.p (.int place)), some (.p (.int most)), some (.ref M.length), none, none, none, none, none, none] (M ++ [.lst []]) = .nx [some (.ref ln), some (.p (.int count)), some (.p (.int place)), some (.p (.int most)), some (.ref M.length), some (.p (.int ((99999 / (most - 1) : Nat) : Int))), none, none, none, none, none] (M ++ [.lst []]) := by
    simp only [s__law_stripes_11, e_set, e_bin, e_C, e_var, R.bind_ok, List.getElem?_cons_succ, List.getElem?_cons_zero, v_sub, ofO]
    simp [dv, ofO]
  have t12 : s__law_stripes_12 [some (.ref ln), some (.p (.int count)), some (.p (.int place)), some (.p (.int most)), some (.ref M.length), some (.p (.int ((99999 / (most - 1) : Nat) : Int))), none, none, none, none, none] (M ++ [.lst []]) = .nx [some (.ref ln), some (.p (.int count)), some (.p (.int place)), some (.p (.int most)), some (.ref M.length), some (.p (.int ((99999 / (most - 1) : Nat) : Int))), y6, y7, y8, y9, y10] M2 := by
    have g : rCons (rVar 1) rNil [some (.ref ln), some (.p (.int count)), some (.p (.int place)), some (.p (.int most)), some (.ref M.length), some (.p (.int ((99999 / (most - 1) : Nat) : Int))), none, none, none, none, none] (M ++ [.lst []]) = .ok [.p (.int count)] (M ++ [.lst []]) := by simp
    simp only [s__law_stripes_12, e_forR, g, R.out_ok, er, oK_some]
    exact k1
  have es : startD 11 [.ref ln, .p (.int count), .p (.int place), .p (.int most)] = [some (.ref ln), some (.p (.int count)), some (.p (.int place)), some (.p (.int most)), none, none, none, none, none, none, none] := rfl
  have t10 : s__law_stripes_10 [some (.ref ln), some (.p (.int count)), some (.p (.int place)), some (.p (.int most)), none, none, none, none, none, none, none] M = .nx [some (.ref ln), some (.p (.int count)), some (.p (.int place)), some (.p (.int most)), some (.ref M.length), none, none, none, none, none, none] (M ++ [.lst []]) := by simp [s__law_stripes_10]
  unfold m__law_stripes
  rw [es, e_seq, t10, Out.bind_nx, e_seq, t11, Out.bind_nx, e_seq, t12, Out.bind_nx]
  simp [s__law_stripes_13, tt]


/-! ### the law's own cuts, first rules, triples -/
-- slots: 0:rules 1:place 2:found 3:rule 4:n
noncomputable def s__law_cuts_1  : RS :=
  (rExpr (rLM mAppend (rVar 2) (rCons (rVar 4) rNil)))
noncomputable def s__law_cuts_2  : RS :=
  (rIfS (rtAnd (rTst asBool (rBin dLe (rVar 4) (rC (.p (.int 99999))))) (rTst asBool (rBin dNotInX (rVar 4) (rVar 2))))
  s__law_cuts_1
  rSkip)
noncomputable def s__law_cuts_3  : RS :=
  (rFor (rTup (rCons (rBin dIx (rBin dIx (rVar 3) (rBin dAdd (rC (.p (.int 1))) (rVar 1))) (rC (.p (.int 0)))) (rCons (rBin dAdd (rBin dIx (rBin dIx (rVar 3) (rBin dAdd (rC (.p (.int 1))) (rVar 1))) (rC (.p (.int 1)))) (rC (.p (.int 1)))) rNil))) (gNm 4)
  s__law_cuts_2)
noncomputable def s__law_cuts_4  : RS :=
  (rSet 2 (rLst (rCons (rC (.p (.int 0))) rNil)))
noncomputable def s__law_cuts_5  : RS :=
  (rFor (rVar 0) (gNm 3)
  s__law_cuts_3)
noncomputable def s__law_cuts_6  : RS :=
  (rRet (rCB cSorted (rCons (rVar 2) rNil)))
noncomputable def m__law_cuts  : RS :=
  (rSeq s__law_cuts_4
  (rSeq s__law_cuts_5
  s__law_cuts_6))

noncomputable def F__law_cuts : List D → Store → R D := selfF 5 m__law_cuts
theorem r__law_cuts : Ref 2 5 F__law_cuts m__law_cuts := ref_self 2 5 m__law_cuts
def cutIn (ks : List Int) (n : Int) : List Int := if n ≤ 99999 then insI ks n else ks
theorem cut_one (M : Store) (ks : List Int) (hk : ks.length ≤ 900000) (n : Int) (x0 x1 x3 : Option D) :
    s__law_cuts_2 [x0, x1, some (.ref M.length), x3, some (.p (.int n))] (M ++ [.lst (numL ks)]) = .nx [x0, x1, some (.ref M.length), x3, some (.p (.int n))] (M ++ [.lst (numL (cutIn ks n))]) := by
  have nn := v_notIn_ints n M.length ks _ (get_new M (O.lst (numL ks)))
  have isl := isLst_ref M.length _ _ (get_new M (O.lst (numL ks)))
  have ap := v_append M.length _ (.p (.int n)) _ (get_new M (O.lst (numL ks))) (lt_line (by simp [numL]; omega))
  rw [set_new, show numL ks ++ [.p (.int n)] = numL (ks ++ [n]) by simp [numL]] at ap
  unfold cutIn insI
  by_cases c : n ≤ 99999
  · by_cases c2 : n ∈ ks
    · simp [s__law_cuts_2, c, nn, c2]
    · simp [s__law_cuts_2, s__law_cuts_1, c, nn, c2, isl, ap]
  · simp [s__law_cuts_2, c]
theorem cutIn_step (p : Nat) (ks : List Int) (r : Rl) (h : r.Ok) : cutIn (cutIn ks (r.sp p).1) ((r.sp p).2 + 1) = cutStep p ks r := by
  have hs := h.sp p
  unfold SpOk at hs
  unfold cutIn cutStep
  rw [if_pos (by omega : ((r.sp p).1 : Int) ≤ 99999)]
  by_cases c : (r.sp p).2 < 99999
  · rw [if_pos c, if_pos (by omega)]
  · rw [if_neg c, if_neg (by omega)]
theorem cut_rule (M : Store) (ks : List Int) (hk : ks.length ≤ 800000) (r : Rl) (h : r.Ok) (p : Nat) (hp : p < 3) (x0 x4 : Option D) :
    ∃ y4, s__law_cuts_3 [x0, some (.p (.int p)), some (.ref M.length), some (.p r.P), x4] (M ++ [.lst (numL ks)]) = .nx [x0, some (.p (.int p)), some (.ref M.length), some (.p r.P), y4] (M ++ [.lst (numL (cutStep p ks r))]) := by
  have e1 := fun S => ix_rule r p hp S
  have c1 := cut_one M ks (by omega) (r.sp p).1 x0 (some (.p (.int p))) (some (.p r.P))
  have hl : (cutIn ks (r.sp p).1).length ≤ ks.length + 1 := by
    unfold cutIn
    split
    · exact len_insI _ _
    · omega
  have c2 := cut_one M (cutIn ks (r.sp p).1) (by omega) ((r.sp p).2 + 1) x0 (some (.p (.int p))) (some (.p r.P))
  rw [cutIn_step p ks r h] at c2
  refine ⟨some (.p (.int ((r.sp p).2 + 1))), ?_⟩
  have i0 : ∀ S, dIx (.p (spP (r.sp p))) (.p (.int 0)) S = some (.p (.int (r.sp p).1), S) := fun S => rfl
  have i1 : ∀ S, dIx (.p (spP (r.sp p))) (.p (.int 1)) S = some (.p (.int (r.sp p).2), S) := fun S => rfl
  simp [s__law_cuts_3, e1, i0, i1, forL, chk, c1, c2]
theorem x_law_cuts (M : Store) (rs : List Rl) (h : ∀ r ∈ rs, r.Ok) (hl : rs.length ≤ 300000) (p : Nat) (hp : p < 3) :
    ∃ M' l, M <+: M' ∧ M.length ≤ l ∧ F__law_cuts [.p (wallP rs), .p (.int p)] M = .ok (.ref l) M' ∧ M'[l]? = some (.lst (numL (cutsI p rs))) := by
  obtain ⟨ρ', M2, k1, y3, y4, rfl, rfl⟩ := forL_inv (k := none) (g := gNm 3) (body := s__law_cuts_3) ((rs.map Rl.P).map D.p) (fun i ρ M' => ∃ y3 y4, M' = M ++ [.lst (numL ((rs.take i).foldl (cutStep p) [0]))] ∧ ρ = [some (.p (wallP rs)), some (.p (.int p)), some (.ref M.length), y3, y4]) (fun _ _ _ _ => True.intro) (by
    rintro i x ρ M3 hx ⟨y3, y4, rfl, rfl⟩
    obtain ⟨hi, e⟩ := List.getElem?_eq_some_iff.mp hx
    simp only [List.length_map] at hi
    simp only [List.getElem_map] at e
    subst e
    have hl2 := cutFold_le p (rs.take i) [0]
    rw [List.length_take, List.length_singleton] at hl2
    obtain ⟨z4, e⟩ := cut_rule M ((rs.take i).foldl (cutStep p) [0]) (by omega) rs[i] (h _ (List.getElem_mem hi)) p hp (some (.p (wallP rs))) y4
    exact ⟨_, _, _, _, rfl, .inl e, _, z4, by rw [foldl_take_succ _ _ _ (List.getElem?_eq_getElem hi)], rfl⟩) (ρ := [some (.p (wallP rs)), some (.p (.int p)), some (.ref M.length), none, none]) (M := M ++ [.lst (numL [0])]) ⟨none, none, rfl, rfl⟩
  rw [show ((rs.map Rl.P).map D.p).length = rs.length by simp, List.take_length] at k1
  have so := v_sorted_l (get_new M (O.lst (numL (rs.foldl (cutStep p) [0]))))
  have pf : M <+: M ++ [.lst (numL (rs.foldl (cutStep p) [0]))] ++ [.lst (numL (cutsI p rs))] := (List.prefix_append _ _).trans (List.prefix_append _ _)
  refine ⟨_, (M ++ [O.lst (numL (rs.foldl (cutStep p) [0]))]).length, pf, by simp, selfF_ok ?_ (pfx_len pf), get_new _ _⟩
  rw [show numL [0] = [D.p (.int 0)] from rfl] at k1
  have so' : cSorted [.ref M.length] (M ++ [.lst (numL (rs.foldl (cutStep p) [0]))]) = some (.ref (M.length + 1), M ++ [.lst (numL (rs.foldl (cutStep p) [0])), .lst (numL (cutsI p rs))]) := by
    rw [so]
    simp [cutsI, cutKeys, numL]
  unfold wallP at k1 ⊢
  simp [m__law_cuts, s__law_cuts_4, s__law_cuts_5, s__law_cuts_6, -List.map_map, k1, so']
-- slots: 0:rules 1:triple 2:k 3:spans
noncomputable def s__law_first_1  : RS :=
  (rRet (rVar 2))
noncomputable def s__law_first_2  : RS :=
  (rIfS (rTst asBool (rChain dLe dLe (rBin dIx (rBin dIx (rVar 3) (rC (.p (.int 3)))) (rC (.p (.int 0)))) (rBin dIx (rVar 1) (rC (.p (.int 2)))) (rBin dIx (rBin dIx (rVar 3) (rC (.p (.int 3)))) (rC (.p (.int 1))))))
  s__law_first_1
  rSkip)
noncomputable def s__law_first_3  : RS :=
  (rSet 3 (rBin dIx (rVar 0) (rVar 2)))
noncomputable def s__law_first_4  : RS :=
  (rIfS (rtAnd (rTst asBool (rChain dLe dLe (rBin dIx (rBin dIx (rVar 3) (rC (.p (.int 1)))) (rC (.p (.int 0)))) (rBin dIx (rVar 1) (rC (.p (.int 0)))) (rBin dIx (rBin dIx (rVar 3) (rC (.p (.int 1)))) (rC (.p (.int 1)))))) (rTst asBool (rChain dLe dLe (rBin dIx (rBin dIx (rVar 3) (rC (.p (.int 2)))) (rC (.p (.int 0)))) (rBin dIx (rVar 1) (rC (.p (.int 1)))) (rBin dIx (rBin dIx (rVar 3) (rC (.p (.int 2)))) (rC (.p (.int 1)))))))
  s__law_first_2
  rSkip)
noncomputable def b__law_first_5  : RS :=
  (rSeq s__law_first_3
  s__law_first_4)
noncomputable def s__law_first_6  : RS :=
  (rForR rng1 (rCons (rCB cLen (rCons (rVar 0) rNil)) rNil) (gNm 2)
  b__law_first_5)
noncomputable def s__law_first_7  : RS :=
  (rRet (rUn dNeg (rC (.p (.int 1)))))
noncomputable def m__law_first  : RS :=
  (rSeq s__law_first_6
  s__law_first_7)

noncomputable def F__law_first : List D → Store → R D := selfF 4 m__law_first
theorem r__law_first : Ref 2 4 F__law_first m__law_first := ref_self 2 4 m__law_first
theorem chain_le {fa fb fc : RE} {ρ : Fl.Env} {M : Store} {a b c : Int} (h1 : fa ρ M = .ok (.p (.int a)) M) (h2 : fb ρ M = .ok (.p (.int b)) M) (h3 : fc ρ M = .ok (.p (.int c)) M) : rChain dLe dLe fa fb fc ρ M = .ok (.p (.bl (decide (a ≤ b) && decide (b ≤ c)))) M := by
  by_cases q : a ≤ b <;> simp [h1, h2, h3, q]
def fstI (rs : List Rl) (t : Tr) : Int := match fstR rs t with
  | some k => (k : Int)
  | none => -1
theorem ix_wall (rs : List Rl) (k : Nat) (hk : k < rs.length) (M : Store) : dIx (.p (wallP rs)) (.p (.int k)) M = some (.p rs[k].P, M) := by
  have e : ((rs.map Rl.P).map D.p)[k]? = some (.p rs[k].P) := by simp [List.getElem?_eq_getElem hk]
  unfold wallP
  rw [v_ix_t, atI_nat e]
  rfl
theorem x_law_first (rs : List Rl) (hl : rs.length ≤ 100000) (t : Tr) (M : Store) : F__law_first [.p (wallP rs), .p t.P] M = .ok (.p (.int (fstI rs t))) M := by
  have er := rng1_len rs.length (by omega)
  have e0 : cLen [.p (wallP rs)] M = some (.p (.int (rs.length : Nat)), M) := by unfold wallP; simp
  have key := forL_first (k := none) (g := gNm 2) (body := b__law_first_5) (fun k : Nat => D.p (.int (0 + (k : Int)))) (hasK rs t) (fun k => .p (.int k)) (fun ρ => ∃ z2 z3, ρ = [some (.p (wallP rs)), some (.p t.P), z2, z3]) M True.intro (List.range rs.length) (by
    rintro k hk ρ ⟨z2, z3, rfl⟩
    rw [List.mem_range] at hk
    obtain ⟨r, hr⟩ : ∃ r, r = rs[k] := ⟨_, rfl⟩
    have ixw := ix_wall rs k hk M
    rw [← hr] at ixw
    have hh : hasK rs t k = r.has t := by unfold hasK; rw [List.getElem?_eq_getElem hk, ← hr]
    refine ⟨[some (.p (wallP rs)), some (.p t.P), some (.p (.int k)), z3], by simp, ?_⟩
    have j1 : ∀ S, dIx (.p r.P) (.p (.int 1)) S = some (.p (spP r.s0), S) := fun S => rfl
    have j2 : ∀ S, dIx (.p r.P) (.p (.int 2)) S = some (.p (spP r.s1), S) := fun S => rfl
    have j3 : ∀ S, dIx (.p r.P) (.p (.int 3)) S = some (.p (spP r.s2), S) := fun S => rfl
    have i0 : ∀ s S, dIx (.p (spP s)) (.p (.int 0)) S = some (.p (.int s.1), S) := fun s S => rfl
    have i1 : ∀ s S, dIx (.p (spP s)) (.p (.int 1)) S = some (.p (.int s.2), S) := fun s S => rfl
    have t0 : ∀ S, dIx (.p t.P) (.p (.int 0)) S = some (.p (.int t.x), S) := fun S => rfl
    have t1 : ∀ S, dIx (.p t.P) (.p (.int 1)) S = some (.p (.int t.y), S) := fun S => rfl
    have t2 : ∀ S, dIx (.p t.P) (.p (.int 2)) S = some (.p (.int t.z), S) := fun S => rfl
    have k3 : s__law_first_3 [some (.p (wallP rs)), some (.p t.P), some (.p (.int k)), z3] M = .nx [some (.p (wallP rs)), some (.p t.P), some (.p (.int k)), some (.p r.P)] M := by simp [s__law_first_3, ixw]
    have q1 : rChain dLe dLe (rBin dIx (rBin dIx (rVar 3) (rC (.p (.int 1)))) (rC (.p (.int 0)))) (rBin dIx (rVar 1) (rC (.p (.int 0)))) (rBin dIx (rBin dIx (rVar 3) (rC (.p (.int 1)))) (rC (.p (.int 1)))) [some (.p (wallP rs)), some (.p t.P), some (.p (.int k)), some (.p r.P)] M = .ok (.p (.bl (r.hasAt 0 t.x))) M :=
      chain_le (by simp [j1, i0, Rl.sp]) (by simp [t0]) (by simp [j1, i1, Rl.sp])
    have q2 : rChain dLe dLe (rBin dIx (rBin dIx (rVar 3) (rC (.p (.int 2)))) (rC (.p (.int 0)))) (rBin dIx (rVar 1) (rC (.p (.int 1)))) (rBin dIx (rBin dIx (rVar 3) (rC (.p (.int 2)))) (rC (.p (.int 1)))) [some (.p (wallP rs)), some (.p t.P), some (.p (.int k)), some (.p r.P)] M = .ok (.p (.bl (r.hasAt 1 t.y))) M :=
      chain_le (by simp [j2, i0, Rl.sp]) (by simp [t1]) (by simp [j2, i1, Rl.sp])
    have q3 : rChain dLe dLe (rBin dIx (rBin dIx (rVar 3) (rC (.p (.int 3)))) (rC (.p (.int 0)))) (rBin dIx (rVar 1) (rC (.p (.int 2)))) (rBin dIx (rBin dIx (rVar 3) (rC (.p (.int 3)))) (rC (.p (.int 1)))) [some (.p (wallP rs)), some (.p t.P), some (.p (.int k)), some (.p r.P)] M = .ok (.p (.bl (r.hasAt 2 t.z))) M :=
      chain_le (by simp [j3, i0, Rl.sp]) (by simp [t2]) (by simp [j3, i1, Rl.sp])
    rw [hh]
    unfold Rl.has
    cases a : r.hasAt 0 t.x <;> cases b : r.hasAt 1 t.y <;> cases c : r.hasAt 2 t.z <;> rw [a] at q1 <;> rw [b] at q2 <;> rw [c] at q3 <;>
      first
      | exact ⟨fun z => absurd z (by decide), fun _ => by simp [b__law_first_5, k3, s__law_first_4, s__law_first_2, s__law_first_1, -e_chain, q1, q2, q3]⟩
      | exact ⟨fun _ => ⟨[some (.p (wallP rs)), some (.p t.P), some (.p (.int k)), some (.p r.P)], .inl (by simp [b__law_first_5, k3, s__law_first_4, s__law_first_2, -e_chain, q1, q2, q3]), _, _, rfl⟩, fun z => absurd z (by decide)⟩) [some (.p (wallP rs)), some (.p t.P), none, none] ⟨none, none, rfl⟩
  have eL : intsD 0 rs.length = (List.range rs.length).map fun k : Nat => D.p (.int (0 + (k : Int))) := rfl
  refine selfF_ok ?_ (Nat.le_refl _)
  have ef : fstR rs t = (List.range rs.length).find? (hasK rs t) := rfl
  unfold fstI
  rw [ef]
  cases q : (List.range rs.length).find? (hasK rs t) with
  | none =>
    obtain ⟨ρ', ⟨z2, z3, rfl⟩, k1⟩ := key.1 q
    rw [← eL] at k1
    simp [m__law_first, s__law_first_6, s__law_first_7, e0, er, k1]
  | some k =>
    have k1 := key.2 k q
    rw [← eL] at k1
    simp [m__law_first, s__law_first_6, e0, er, k1]

-- slots: 0:rules 1:made 2:thirds 3:seconds 4:a 5:b 6:c
noncomputable def s__law_triples_1  : RS :=
  (rExpr (rLM mAppend (rVar 1) (rCons (rTup (rCons (rVar 4) (rCons (rVar 5) (rCons (rVar 6) rNil)))) rNil)))
noncomputable def s__law_triples_2  : RS :=
  (rFor (rVar 2) (gNm 6)
  s__law_triples_1)
noncomputable def s__law_triples_3  : RS :=
  (rFor (rVar 3) (gNm 5)
  s__law_triples_2)
noncomputable def s__law_triples_4  : RS :=
  (rSet 1 (rLst rNil))
noncomputable def s__law_triples_5  : RS :=
  (rSet 2 (rCallN 2 F__law_cuts (rCons (rVar 0) (rCons (rC (.p (.int 2))) rNil))))
noncomputable def s__law_triples_6  : RS :=
  (rSet 3 (rCallN 2 F__law_cuts (rCons (rVar 0) (rCons (rC (.p (.int 1))) rNil))))
noncomputable def s__law_triples_7  : RS :=
  (rFor (rCallN 2 F__law_cuts (rCons (rVar 0) (rCons (rC (.p (.int 0))) rNil))) (gNm 4)
  s__law_triples_3)
noncomputable def s__law_triples_8  : RS :=
  (rRet (rVar 1))
noncomputable def m__law_triples  : RS :=
  (rSeq s__law_triples_4
  (rSeq s__law_triples_5
  (rSeq s__law_triples_6
  (rSeq s__law_triples_7
  s__law_triples_8))))

noncomputable def F__law_triples : List D → Store → R D := selfF 7 m__law_triples
theorem r__law_triples : Ref 1 7 F__law_triples m__law_triples := ref_self 1 7 m__law_triples
theorem take_s {α : Type} {xs : List α} {n : Nat} (h : n < xs.length) : xs.take (n + 1) = xs.take n ++ [xs[n]] := by
  rw [List.take_succ, List.getElem?_eq_getElem h]
  rfl
def trL (ts : List Tr) : List D := ts.map fun t => .p t.P
theorem trips_inner (M : Store) (lm l2 : Nat) (hne : lm ≠ l2) (hlm : lm < M.length) (c2 : List Int) (h2 : M[l2]? = some (.lst (numL c2))) (x y : Int) (acc : List Tr) (hl : acc.length + c2.length ≤ 900000) (x0 x3 x6 : Option D) :
    ∃ y6, s__law_triples_2 [x0, some (.ref lm), some (.ref l2), x3, some (.p (.int x)), some (.p (.int y)), x6] (M.set lm (.lst (trL acc))) = .nx [x0, some (.ref lm), some (.ref l2), x3, some (.p (.int x)), some (.p (.int y)), y6] (M.set lm (.lst (trL (acc ++ c2.map fun z => ⟨x, y, z⟩)))) := by
  have g2 : ∀ o, (M.set lm o)[l2]? = some (.lst (numL c2)) := fun o => get_set_ne h2 hne
  have gm : ∀ o, (M.set lm o)[lm]? = some o := fun o => List.getElem?_set_self hlm
  have wk := walk_ref l2 _ _ (g2 (.lst (trL acc)))
  obtain ⟨ρ', M2, k1, y6, rfl, rfl⟩ := forL_inv (k := some (l2, .lst (numL c2))) (g := gNm 6) (body := s__law_triples_1) (numL c2) (fun n ρ M' => ∃ y6, M' = M.set lm (.lst (trL (acc ++ (c2.take n).map fun z => ⟨x, y, z⟩))) ∧ ρ = [x0, some (.ref lm), some (.ref l2), x3, some (.p (.int x)), some (.p (.int y)), y6]) (by
      rintro n ρ M' ⟨y6, rfl, rfl⟩
      exact g2 _) (by
    rintro n d ρ M3 hx ⟨y6, rfl, rfl⟩
    obtain ⟨hn, e⟩ := List.getElem?_eq_some_iff.mp hx
    simp only [numL, List.length_map] at hn
    simp only [numL, List.getElem_map] at e
    subst e
    obtain ⟨A, hA⟩ : ∃ A, A = trL (acc ++ (c2.take n).map fun z => (⟨x, y, z⟩ : Tr)) := ⟨_, rfl⟩
    obtain ⟨B, hB⟩ : ∃ B, B = trL (acc ++ (c2.take (n + 1)).map fun z => (⟨x, y, z⟩ : Tr)) := ⟨_, rfl⟩
    have hAB : B = A ++ [.p (Tr.P ⟨x, y, c2[n]⟩)] := by
      rw [hA, hB, take_s hn]
      simp only [trL, List.map_append, List.map_cons, List.map_nil, List.append_assoc]
    have hAl : A.length ≤ 900000 := by
      rw [hA]
      simp only [trL, List.length_map, List.length_append, List.length_take]
      omega
    have isl := isLst_ref lm _ _ (gm (.lst A))
    have ap := v_append lm A (.p (Tr.P ⟨x, y, c2[n]⟩)) _ (gm (.lst A)) (lt_line (by omega))
    rw [List.set_set, ← hAB] at ap
    unfold Tr.P at ap
    rw [← hA]
    exact ⟨_, _, [x0, some (.ref lm), some (.ref l2), x3, some (.p (.int x)), some (.p (.int y)), some (.p (.int c2[n]))], M.set lm (.lst B), rfl, .inl (by simp [s__law_triples_1, isl, ap]), _, by rw [hB], rfl⟩) (ρ := [x0, some (.ref lm), some (.ref l2), x3, some (.p (.int x)), some (.p (.int y)), x6]) (M := M.set lm (.lst (trL acc))) ⟨x6, by simp, rfl⟩
  rw [show (numL c2).length = c2.length by simp [numL], List.take_length] at k1
  exact ⟨y6, by simp [s__law_triples_2, wk, k1]⟩
theorem trips_mid (M : Store) (lm l1 l2 : Nat) (hn1 : lm ≠ l1) (hne : lm ≠ l2) (hlm : lm < M.length) (c1 c2 : List Int) (h1 : M[l1]? = some (.lst (numL c1))) (h2 : M[l2]? = some (.lst (numL c2))) (x : Int) (acc : List Tr) (hl : acc.length + c1.length * c2.length ≤ 900000) (x0 x5 x6 : Option D) :
    ∃ y5 y6, s__law_triples_3 [x0, some (.ref lm), some (.ref l2), some (.ref l1), some (.p (.int x)), x5, x6] (M.set lm (.lst (trL acc))) = .nx [x0, some (.ref lm), some (.ref l2), some (.ref l1), some (.p (.int x)), y5, y6] (M.set lm (.lst (trL (acc ++ c1.flatMap fun y => c2.map fun z => ⟨x, y, z⟩)))) := by
  have g1 : ∀ o, (M.set lm o)[l1]? = some (.lst (numL c1)) := fun o => get_set_ne h1 hn1
  have wk := walk_ref l1 _ _ (g1 (.lst (trL acc)))
  obtain ⟨ρ', M2, k1, y5, y6, rfl, rfl⟩ := forL_inv (k := some (l1, .lst (numL c1))) (g := gNm 5) (body := s__law_triples_2) (numL c1) (fun n ρ M' => ∃ y5 y6, M' = M.set lm (.lst (trL (acc ++ (c1.take n).flatMap fun y => c2.map fun z => ⟨x, y, z⟩))) ∧ ρ = [x0, some (.ref lm), some (.ref l2), some (.ref l1), some (.p (.int x)), y5, y6]) (by
      rintro n ρ M' ⟨y5, y6, rfl, rfl⟩
      exact g1 _) (by
    rintro n d ρ M3 hx ⟨y5, y6, rfl, rfl⟩
    obtain ⟨hn, e⟩ := List.getElem?_eq_some_iff.mp hx
    simp only [numL, List.length_map] at hn
    simp only [numL, List.getElem_map] at e
    subst e
    have hm : (n + 1) * c2.length ≤ c1.length * c2.length := Nat.mul_le_mul_right _ hn
    rw [Nat.succ_mul] at hm
    have hlen : ((c1.take n).flatMap fun y => c2.map fun z => (⟨x, y, z⟩ : Tr)).length = n * c2.length := by
      rw [List.length_flatMap]
      simp only [List.length_map]
      rw [List.map_const', List.sum_replicate_nat, List.length_take, Nat.min_eq_left (by omega)]
    obtain ⟨z6, e⟩ := trips_inner M lm l2 hne hlm c2 h2 x c1[n] (acc ++ (c1.take n).flatMap fun y => c2.map fun z => ⟨x, y, z⟩) (by rw [List.length_append, hlen]; omega) x0 (some (.ref l1)) y6
    refine ⟨_, _, _, _, rfl, .inl e, _, z6, ?_, rfl⟩
    rw [take_s hn, List.flatMap_append, List.append_assoc, List.flatMap_cons, List.flatMap_nil, List.append_nil]) (ρ := [x0, some (.ref lm), some (.ref l2), some (.ref l1), some (.p (.int x)), x5, x6]) (M := M.set lm (.lst (trL acc))) ⟨x5, x6, by simp, rfl⟩
  rw [show (numL c1).length = c1.length by simp [numL], List.take_length] at k1
  exact ⟨y5, y6, by simp [s__law_triples_3, wk, k1]⟩
def boxF (rs : List Rl) : Prop := (cutsI 0 rs).length * (cutsI 1 rs).length * (cutsI 2 rs).length ≤ 60000
theorem x_law_triples (M : Store) (rs : List Rl) (h : ∀ r ∈ rs, r.Ok) (hl : rs.length ≤ 300000) (hb : boxF rs) :
    ∃ M' l, M <+: M' ∧ F__law_triples [.p (wallP rs)] M = .ok (.ref l) M' ∧ M'[l]? = some (.lst (trL (trips (cutsI 0 rs) (cutsI 1 rs) (cutsI 2 rs)))) := by
  obtain ⟨M1, l2, p1, n1, e1, g1⟩ := x_law_cuts (M ++ [.lst []]) rs h hl 2 (by omega)
  obtain ⟨M2, l1, p2, n2, e2, g2⟩ := x_law_cuts M1 rs h hl 1 (by omega)
  obtain ⟨M3, l0, p3, n3, e3, g3⟩ := x_law_cuts M2 rs h hl 0 (by omega)
  have q1 := pfx_len p1
  have q2 := pfx_len p2
  have q3 := pfx_len p3
  rw [List.length_append, List.length_singleton] at q1 n1
  have gm : M3[M.length]? = some (.lst (trL [])) := pfx_get ((p1.trans p2).trans p3) (get_new M (O.lst []))
  have hset : M3.set M.length (.lst (trL [])) = M3 := by
    have := List.getElem?_eq_some_iff.mp gm
    obtain ⟨a, b⟩ := this
    rw [← b]
    exact List.set_getElem_self a
  have G2 := pfx_get (p2.trans p3) g1
  have G1 := pfx_get p3 g2
  have wk := walk_ref l0 _ _ g3
  have hne0 : M.length ≠ l0 := by omega
  obtain ⟨C0, hC0⟩ : ∃ C, C = cutsI 0 rs := ⟨_, rfl⟩
  obtain ⟨C1, hC1⟩ : ∃ C, C = cutsI 1 rs := ⟨_, rfl⟩
  obtain ⟨C2, hC2⟩ : ∃ C, C = cutsI 2 rs := ⟨_, rfl⟩
  unfold boxF at hb
  rw [← hC0] at g3 wk hb ⊢
  rw [← hC1] at G1 hb ⊢
  rw [← hC2] at G2 hb ⊢
  rw [Nat.mul_assoc] at hb
  obtain ⟨ρ', M4, k1, y4, y5, y6, rfl, rfl⟩ := forL_inv (k := some (l0, .lst (numL C0))) (g := gNm 4) (body := s__law_triples_3) (numL C0) (fun n ρ M' => ∃ y4 y5 y6, M' = M3.set M.length (.lst (trL ((C0.take n).flatMap fun x => C1.flatMap fun y => C2.map fun z => ⟨x, y, z⟩))) ∧ ρ = [some (.p (wallP rs)), some (.ref M.length), some (.ref l2), some (.ref l1), y4, y5, y6]) (by
      rintro n ρ M' ⟨y4, y5, y6, rfl, rfl⟩
      exact get_set_ne g3 hne0) (by
    rintro n d ρ M5 hx ⟨y4, y5, y6, rfl, rfl⟩
    obtain ⟨hn, e⟩ := List.getElem?_eq_some_iff.mp hx
    simp only [numL, List.length_map] at hn
    simp only [numL, List.getElem_map] at e
    subst e
    have hm : (n + 1) * (C1.length * C2.length) ≤ C0.length * (C1.length * C2.length) := Nat.mul_le_mul_right _ hn
    rw [Nat.succ_mul] at hm
    have hl1 : ∀ x, (C1.flatMap fun y => C2.map fun z => (⟨x, y, z⟩ : Tr)).length = C1.length * C2.length := fun x => by
      rw [List.length_flatMap]
      simp only [List.length_map]
      rw [List.map_const', List.sum_replicate_nat]
    have hlen : ((C0.take n).flatMap fun x => C1.flatMap fun y => C2.map fun z => (⟨x, y, z⟩ : Tr)).length = n * (C1.length * C2.length) := by
      rw [List.length_flatMap]
      simp only [hl1]
      rw [List.map_const', List.sum_replicate_nat, List.length_take, Nat.min_eq_left (by omega)]
    obtain ⟨z5, z6, e⟩ := trips_mid M3 M.length l1 l2 (by omega) (by omega) (by omega) C1 C2 G1 G2 C0[n] ((C0.take n).flatMap fun x => C1.flatMap fun y => C2.map fun z => ⟨x, y, z⟩) (by rw [hlen]; omega) (some (.p (wallP rs))) y5 y6
    refine ⟨_, _, _, _, rfl, .inl e, _, z5, z6, ?_, rfl⟩
    rw [take_s hn, List.flatMap_append, List.flatMap_cons, List.flatMap_nil, List.append_nil]) (ρ := [some (.p (wallP rs)), some (.ref M.length), some (.ref l2), some (.ref l1), none, none, none]) (M := M3) ⟨none, none, none, by simp; exact hset.symm, rfl⟩
  rw [show (numL C0).length = C0.length by simp [numL], List.take_length] at k1
  have pf : M <+: M3.set M.length (.lst (trL (trips C0 C1 C2))) := pfx_set ((((List.prefix_append M [.lst []]).trans p1).trans p2).trans p3) (Nat.le_refl _) _
  refine ⟨_, M.length, pf, selfF_ok ?_ (pfx_len pf), List.getElem?_set_self (by omega)⟩
  have e1' : F__law_cuts [.p (wallP rs), .p (.int 2)] (M ++ [.lst []]) = .ok (.ref l2) M1 := e1
  have e2' : F__law_cuts [.p (wallP rs), .p (.int 1)] M1 = .ok (.ref l1) M2 := e2
  have e3' : F__law_cuts [.p (wallP rs), .p (.int 0)] M2 = .ok (.ref l0) M3 := e3
  simp [m__law_triples, s__law_triples_4, s__law_triples_5, s__law_triples_6, s__law_triples_7, s__law_triples_8, e1', e2', e3', wk, k1, trips]

-- slots: 0:mask
noncomputable def m_lowest  : RS :=
  (rRet (rBin dSub (rUn dBits (rBin dBAnd (rVar 0) (rUn dNeg (rVar 0)))) (rC (.p (.int 1)))))

noncomputable def F_lowest : List D → Store → R D := selfF 1 m_lowest
theorem r_lowest : Ref 1 1 F_lowest m_lowest := ref_self 1 1 m_lowest
theorem bits_pow (k : Nat) : Builtin.Int.intBits ((2 ^ k : Nat) : Int) = k + 1 := by
  have h : (2 ^ k : Nat) ≠ 0 := Nat.pos_iff_ne_zero.mp (Nat.two_pow_pos k)
  have hz : (((2 ^ k : Nat) : Int) == 0) = false := by
    rw [beq_eq_false_iff_ne]
    omega
  unfold Builtin.Int.intBits
  rw [hz, if_neg Bool.false_ne_true]
  rw [show ((2 ^ k : Nat) : Int).natAbs = 2 ^ k from rfl, Nat.log2_two_pow]
theorem x_lowest (rs : List Rl) (t : Tr) (M : Store) : F_lowest [.p (.int (maskOf (hasK rs t) rs.length : Nat))] M = .ok (.p (.int (fstI rs t))) M := by
  refine selfF_ok ?_ (Nat.le_refl _)
  unfold fstI
  have e0 : fstR rs t = firstF (hasK rs t) rs.length := rfl
  rw [e0]
  obtain ⟨m, hm⟩ : ∃ m : Int, m = (maskOf (hasK rs t) rs.length : Nat) := ⟨_, rfl⟩
  cases q : firstF (hasK rs t) rs.length with
  | none =>
    have e := low_none q
    rw [← hm]
    rw [e] at hm
    rw [hm]
    have : Builtin.Int.intBits (Builtin.bitAnd 0 0) = 0 := by decide +kernel
    simp [m_lowest, this]
  | some k =>
    have e := low_bit q
    rw [← hm] at e ⊢
    simp only [m_lowest, e_ret, e_bin, e_un]
    simp [e]
    rw [show ((2 : Int) ^ k) = ((2 ^ k : Nat) : Int) by simp, bits_pow]
    simp

-- slots: 0:rules
noncomputable def s_check_few_1  : RS :=
  (rRaiseF "TooMany" "rules")
noncomputable def s_check_few_2  : RS :=
  (rIfS (rTst asBool (rBin dGt (rCB cLen (rCons (rVar 0) rNil)) (rC (.p c_MOST_LOOKED_AT))))
  s_check_few_1
  rSkip)
noncomputable def m_check_few  : RS :=
  s_check_few_2

noncomputable def F_check_few : List D → Store → R D := selfF 1 m_check_few
theorem r_check_few : Ref 1 1 F_check_few m_check_few := ref_self 1 1 m_check_few
theorem x_few (rs : List Rl) (h : rs.length ≤ 40) (M : Store) : F_check_few [.p (wallP rs)] M = .ok (.p .non) M := by
  have e0 : cLen [.p (wallP rs)] M = some (.p (.int (rs.length : Nat)), M) := by unfold wallP; simp
  have c : ¬ ((40 : Int) < (rs.length : Nat)) := by omega
  exact selfF_ok (by simp [m_check_few, s_check_few_2, e0, c_MOST_LOOKED_AT, c]) (Nat.le_refl _)
theorem x_many (rs : List Rl) (h : 40 < rs.length) (M : Store) : F_check_few [.p (wallP rs)] M = .ex "TooMany" (some [("what", .p (.str "rules"))]) M := by
  have e0 : cLen [.p (wallP rs)] M = some (.p (.int (rs.length : Nat)), M) := by unfold wallP; simp
  have c : ((40 : Int) < (rs.length : Nat)) := by omega
  exact selfF_ex (by simp [m_check_few, s_check_few_2, s_check_few_1, e0, c_MOST_LOOKED_AT, c]) (Nat.le_refl _)

-- slots: 0:rules
noncomputable def s_looked_at_1  : RS :=
  (rExpr (rCallN 1 F_check_rules (rCons (rVar 0) rNil)))
noncomputable def s_looked_at_2  : RS :=
  (rExpr (rCallN 1 F_check_few (rCons (rVar 0) rNil)))
noncomputable def s_looked_at_3  : RS :=
  (rRet (rMake "Grid" 3 F_Grid___init__ (rCons (rVar 0) (rCons (rCallN 1 F_cuts_of (rCons (rTup (rCons (rVar 0) rNil)) rNil)) rNil))))
noncomputable def m_looked_at  : RS :=
  (rSeq s_looked_at_1
  (rSeq s_looked_at_2
  s_looked_at_3))

noncomputable def F_looked_at : List D → Store → R D := selfF 1 m_looked_at
theorem r_looked_at : Ref 1 1 F_looked_at m_looked_at := ref_self 1 1 m_looked_at
theorem x_looked_at (rs : List Rl) (h : ∀ r ∈ rs, r.Ok) (hr : rs.length ≤ 40) (hb : boxF rs) (M : Store) :
    ∃ M' g, M <+: M' ∧ F_looked_at [.p (wallP rs)] M = .ok (.ref g) M' ∧ IsGrid M' g rs (cutsI 0 rs) (cutsI 1 rs) (cutsI 2 rs) := by
  have ck := x_check_rules h (by omega) M
  have fw := x_few rs hr M
  have ef : [rs].flatten = rs := by simp
  have hB : boxB [rs] := ⟨by rw [ef]; exact hb, by rw [ef]; omega⟩
  obtain ⟨M1, p1, e1⟩ := x_cuts_of [rs] hB M
  obtain ⟨M2, p2, e2, G⟩ := x_make_grid [rs] hB (by rw [ef]; exact h) rs (by rw [ef]; exact fun r z => z) (by omega) M1
  rw [ef] at G
  have e1' : F_cuts_of [.p (.tup [wallP rs])] M = .ok (.p (cuts3 [rs])) M1 := e1
  have pf := p1.trans p2
  exact ⟨M2, M1.length, pf, selfF_ok (by simp [m_looked_at, s_looked_at_1, s_looked_at_2, s_looked_at_3, ck, fw, mkTup, allP, e1', e2]) (pfx_len pf), G⟩
theorem x_looked_many (rs : List Rl) (h : ∀ r ∈ rs, r.Ok) (h4 : rs.length ≤ 400) (hr : 40 < rs.length) (M : Store) : F_looked_at [.p (wallP rs)] M = .ex "TooMany" (some [("what", .p (.str "rules"))]) M := by
  have ck := x_check_rules h h4 M
  have fw := x_many rs hr M
  exact selfF_ex (by simp [m_looked_at, s_looked_at_1, s_looked_at_2, ck, fw]) (Nat.le_refl _)

theorem cut_take {α : Type} (xs : List α) (k : Nat) (h : k ≤ xs.length) : cutL xs none (some (k : Int)) = xs.take k := by
  unfold cutL
  rw [HT.sIx_none, HT.sIx_nat, Nat.min_eq_left h]
  simp
theorem cut_drop {α : Type} (xs : List α) (k : Nat) (h : k ≤ xs.length) : cutL xs (some (k : Int)) none = xs.drop k := by
  unfold cutL
  rw [HT.sIx_none, HT.sIx_nat, Nat.min_eq_left h, List.take_of_length_le (by simp)]

/-! ### the same -/
def fitQ : Nat → P → Prop
  | 0, _ => False
  | n + 1, .tup xs => xs.length ≤ 1000000 ∧ ∀ y ∈ xs, fitQ n y
  | _ + 1, _ => True
open Classical in
noncomputable def Fp_like : Nat → List D → Store → R D
  | 0 => fun _ _ => .no
  | n + 1 => fun ds M => match ds with
    | [.p x, .p y] => if x = y ∧ fitQ (n + 1) x then .ok (.p (.bl true)) M else .no
    | _ => .no
open Classical in
theorem fp_succ (n : Nat) (ds : List D) (M : Store) : Fp_like (n + 1) ds M = (match ds with
    | [.p x, .p y] => if x = y ∧ fitQ (n + 1) x then .ok (.p (.bl true)) M else .no
    | _ => .no) := rfl
-- slots: 0:told 1:due 2:k
noncomputable def m__law_like (n : Nat) : RS :=
  (rSeq (rIfS (rTst truthD (rIsa "tuple" (rVar 1)))
  (rSeq (rIfS (rtOr (rtNot (rTst truthD (rIsa "tuple" (rVar 0)))) (rTst asBool (rBin dNe (rCB cLen (rCons (rVar 0) rNil)) (rCB cLen (rCons (rVar 1) rNil)))))
  (rRet (rC (.p (.bl false))))
  rSkip)
  (rSeq (rForR rng1 (rCons (rCB cLen (rCons (rVar 1) rNil)) rNil) (gNm 2)
  (rIfS (rtNot (rTst truthD (rCallN 2 (Fp_like n) (rCons (rBin dIx (rVar 0) (rVar 2)) (rCons (rBin dIx (rVar 1) (rVar 2)) rNil)))))
  (rRet (rC (.p (.bl false))))
  rSkip))
  (rRet (rC (.p (.bl true))))))
  rSkip)
  (rSeq (rIfS (rTst asBool (rBin dIsN (rVar 1) (rC (.p .non))))
  (rRet (rBin dIsN (rVar 0) (rC (.p .non))))
  rSkip)
  (rSeq (rIfS (rTst truthD (rIsa "bool" (rVar 1)))
  (rRet (rAnd (rIsa "bool" (rVar 0)) (rBin dEq (rVar 0) (rVar 1))))
  rSkip)
  (rSeq (rIfS (rTst truthD (rIsa "int" (rVar 1)))
  (rRet (rAnd (rIsa "int" (rVar 0)) (rAnd (rNot (rTst truthD (rIsa "bool" (rVar 0)))) (rBin dEq (rVar 0) (rVar 1)))))
  rSkip)
  (rRet (rAnd (rIsa "str" (rVar 0)) (rBin dEq (rVar 0) (rVar 1))))))))

open Classical in
theorem r__law_like (n : Nat) : Ref 2 3 (Fp_like (n + 1)) (m__law_like n) := by
  intro ds M hl
  rw [fp_succ]
  clear hl
  split
  · rename_i x y
    by_cases h : x = y ∧ fitQ (n + 1) x
    · rw [if_pos h]
      obtain ⟨rfl, hf⟩ := h
      have key : bodyR (m__law_like n (startD 3 [.p x, .p x]) M) = .ok (.p (.bl true)) M := by
        cases x with
        | non => simp [m__law_like, isaT]
        | bl k => cases k <;> simp [m__law_like, isaT, dEq, dOk, P.depth, P.eqv]
        | str k => simp [m__law_like, isaT]
        | int k => simp [m__law_like, isaT]
        | tup xs =>
          obtain ⟨h1, h2⟩ := hf
          have er := rng1_len xs.length h1
          obtain ⟨z, e⟩ := forL_ok (g := gNm 2) (body := (rIfS (rtNot (rTst truthD (rCallN 2 (Fp_like n) (rCons (rBin dIx (rVar 0) (rVar 2)) (rCons (rBin dIx (rVar 1) (rVar 2)) rNil))))) (rRet (rC (.p (.bl false)))) rSkip)) (fun z => [some (.p (.tup xs)), some (.p (.tup xs)), z]) M (intsD 0 xs.length) (by
            intro d hd z
            obtain ⟨j, hj, rfl⟩ := List.mem_map.mp hd
            have hj := List.mem_range.mp hj
            have i0 : dIx (.p (.tup xs)) (.p (.int ((0 : Int) + (j : Int)))) M = some (.p xs[j], M) := by
              rw [Int.zero_add, v_ix_t, atI_nat (by rw [List.getElem?_map, List.getElem?_eq_getElem hj]; rfl)]
              rfl
            have hq := h2 xs[j] (List.getElem_mem hj)
            have c : Fp_like n [.p xs[j], .p xs[j]] M = .ok (.p (.bl true)) M := by
              cases n with
              | zero => exact hq.elim
              | succ n => exact if_pos ⟨rfl, hq⟩
            exact ⟨_, some (.p (.int ((0 : Int) + (j : Int)))), rfl, by simp [i0, c, -v_ix_t, -Int.zero_add]⟩) none
          simp [m__law_like, isaT, er, e]
      refine ⟨Nat.le_refl _, ?_⟩
      rw [key]
      simp
    · rw [if_neg h]
      simp
  · simp
theorem like_ok (x : P) (h : fitQ 9 x) (M : Store) : Fp_like 9 [.p x, .p x] M = .ok (.p (.bl true)) M := if_pos ⟨rfl, h⟩

noncomputable def m__law_likeH : RS :=
  (rSeq (rIfS (rTst truthD (rIsa "tuple" (rVar 1)))
  (rSeq (rIfS (rtOr (rtNot (rTst truthD (rIsa "tuple" (rVar 0)))) (rTst asBool (rBin dNe (rCB cLen (rCons (rVar 0) rNil)) (rCB cLen (rCons (rVar 1) rNil)))))
  (rRet (rC (.p (.bl false))))
  rSkip)
  (rSeq rDead
  (rRet (rC (.p (.bl true))))))
  rSkip)
  (rSeq (rIfS (rTst asBool (rBin dIsN (rVar 1) (rC (.p .non))))
  (rRet (rBin dIsN (rVar 0) (rC (.p .non))))
  rSkip)
  (rSeq (rIfS (rTst truthD (rIsa "bool" (rVar 1)))
  (rRet (rAnd (rIsa "bool" (rVar 0)) (rBin dEq (rVar 0) (rVar 1))))
  rSkip)
  (rSeq (rIfS (rTst truthD (rIsa "int" (rVar 1)))
  (rRet (rAnd (rIsa "int" (rVar 0)) (rAnd (rNot (rTst truthD (rIsa "bool" (rVar 0)))) (rBin dEq (rVar 0) (rVar 1)))))
  rSkip)
  (rRet (rAnd (rIsa "str" (rVar 0)) (rBin dEq (rVar 0) (rVar 1))))))))
noncomputable def F__law_likeH : List D → Store → R D := selfF 3 m__law_likeH
theorem r__law_likeH : Ref 2 3 F__law_likeH m__law_likeH := ref_self 2 3 m__law_likeH

theorem x_likeH (a b : Str) (M : Store) : F__law_likeH [.p (.str a), .p (.str b)] M = .ok (.p (.bl (decide (a = b)))) M := by
  refine selfF_ok ?_ (Nat.le_refl _)
  simp [m__law_likeH, isaT]

-- slots: 0:call 1:words 2:named 3:e 4:k
noncomputable def su__law_told (av : Nat) (cv : Str) : RS :=
  (rSeq (rSet 1 (rLst (rCons (rC (.p (.str "BadRules"))) (rCons (rC (.p (.str "BadRule"))) (rCons (rC (.p (.str "TooMany"))) rNil)))))
  (rSeq (rSet 2 (rLst (rCons (rCB (cExIs av "BadRules" (cv == "BadRules")) (rCons (rVar 3) (rCons (rC (.gl "BadRules")) rNil))) (rCons (rCB (cExIs av "BadRule" (cv == "BadRule")) (rCons (rVar 3) (rCons (rC (.gl "BadRule")) rNil))) (rCons (rCB (cExIs av "TooMany" (cv == "TooMany")) (rCons (rVar 3) (rCons (rC (.gl "TooMany")) rNil))) rNil)))))
  (rRet (rTup (rCons (rC (.p (.str "error"))) (rCons (rLC (wRng rng1 (rCons (rCB cLen (rCons (rVar 1) rNil)) rNil)) (gNm 4) (rTst truthD (rBin dIx (rVar 2) (rVar 4))) (rBin dIx (rVar 1) (rVar 4)) [4]) rNil))))))
noncomputable def bo__law_told (il : LamI) (B : Store → R D) : RS :=
  (rRet (rTup (rCons (rC (.p (.str "told"))) (rCons (rLam 0 il B) rNil))))
noncomputable def m__law_told (il : LamI) (B : Store → R D) : RS :=
  (rTryAs [("BadRules", true)] 3 (bo__law_told il B) su__law_told)

/-! ### told, or the error's name -/
def wordsL : List D := [.p (.str "BadRules"), .p (.str "BadRule"), .p (.str "TooMany")]
def namedL_BadRules : List D := [.p (.bl true), .p (.bl false), .p (.bl false)]
def namedL (c : Str) : List D := if c = "BadRules" then namedL_BadRules else []
def raisedL : List Str := ["BadRules"]
noncomputable def F__law_told : (Store → R D) → List D → Store → R D := fun B ds M => match ds with
  | [] => (match B M with
    | .ok d M' => if M.length ≤ M'.length then .ok (mkTup [.p (.str "told"), d]) M' else .no
    | .ex c none M' => if c ∈ raisedL ∧ M.length ≤ M'.length then .ok (.tup [.p (.str "error"), .ref (M'.length + 2)]) (M' ++ [.lst wordsL, .lst (namedL c), .lst [.p (.str c)]]) else .no
    | _ => .no)
  | _ => .no
theorem e_lam (il : LamI) (B : Store → R D) (ρ : Env) (M : Store) : rLam 0 il B (some (.lam il) :: ρ) M = noFs (B M) := by
  simp [rLam]
theorem named_BadRules : namedL "BadRules" = namedL_BadRules := by
  unfold namedL
  rw [if_pos rfl]
theorem su_told_BadRules (av : Nat) (x0 x1 x2 x4 : Option D) (M : Store) : su__law_told av "BadRules" [x0, x1, x2, some (.exv av), x4] M = .rt (.tup [.p (.str "error"), .ref (M.length + 2)]) (M ++ [.lst wordsL, .lst namedL_BadRules, .lst [.p (.str "BadRules")]]) := by
  have hb1 : (("BadRules" : Str) == ("BadRule" : Str)) = false := by decide +kernel
  have hb2 : (("BadRules" : Str) == ("TooMany" : Str)) = false := by decide +kernel
  obtain ⟨S, hS⟩ : ∃ S : Store, S = M ++ [.lst wordsL, .lst namedL_BadRules] := ⟨_, rfl⟩
  have lS : S.length = M.length + 2 := by rw [hS]; simp
  have g1 : S[M.length]? = some (.lst wordsL) := by rw [hS]; simp
  have g2 : S[M.length + 1]? = some (.lst namedL_BadRules) := by rw [hS]; simp
  have e1 := v_len_l _ _ S g1
  have key := lc_new (k := none) (g := gNm 4) (tt := rTst truthD (rBin dIx (rVar 2) (rVar 4))) (te := rBin dIx (rVar 1) (rVar 4)) (ρ := wipeE [x0, some (.ref M.length), some (.ref (M.length + 1)), some (.exv av), x4] [4])
    (fun d => match d with | .p (.int 0) => true | _ => false) (fun _ => .p (.str "BadRules")) S (fun _ => trivial) (intsD 0 3) (by simp [intsD]) (by
      intro x hx ys
      have w1 : ∀ (i : Nat) (d : D), wordsL[i]? = some d → dIx (.ref M.length) (.p (.int i)) (S ++ [.lst ys]) = some (d, S ++ [.lst ys]) := fun i d h => v_ix_l _ _ i d _ (get_app g1 _) h
      have w2 : ∀ (i : Nat) (d : D), namedL_BadRules[i]? = some d → dIx (.ref (M.length + 1)) (.p (.int i)) (S ++ [.lst ys]) = some (d, S ++ [.lst ys]) := fun i d h => v_ix_l _ _ i d _ (get_app g2 _) h
      have a1 : dIx (.ref M.length) (.p (.int 0)) (S ++ [.lst ys]) = some (.p (.str "BadRules"), S ++ [.lst ys]) := w1 0 _ rfl
      have b0 : dIx (.ref (M.length + 1)) (.p (.int 0)) (S ++ [.lst ys]) = some (.p (.bl true), S ++ [.lst ys]) := w2 0 _ rfl
      have b1 : dIx (.ref (M.length + 1)) (.p (.int 1)) (S ++ [.lst ys]) = some (.p (.bl false), S ++ [.lst ys]) := w2 1 _ rfl
      have b2 : dIx (.ref (M.length + 1)) (.p (.int 2)) (S ++ [.lst ys]) = some (.p (.bl false), S ++ [.lst ys]) := w2 2 _ rfl
      have hx2 : x = .p (.int 0) ∨ x = .p (.int 1) ∨ x = .p (.int 2) := by simpa [intsD, List.range_succ] using hx
      rcases hx2 with rfl | rfl | rfl
      · exact ⟨_, rfl, by simp [wipeE, b0], fun _ => by simp [wipeE, a1]⟩
      · exact ⟨_, rfl, by simp [wipeE, b1], fun z => nomatch z⟩
      · exact ⟨_, rfl, by simp [wipeE, b2], fun z => nomatch z⟩)
  rw [show ((intsD 0 3).filter (fun d => match d with | .p (.int 0) => true | _ => false)).map (fun _ => (D.p (.str "BadRules"))) = [.p (.str "BadRules")] from by simp [intsD, List.range_succ]] at key
  have er : rng1 [.p (.int (3 : Nat))] = some (0, 3) := rng1_len 3 (by omega)
  simp only [wordsL, List.length_cons, List.length_nil] at e1
  rw [lS] at key
  simp [wordsL, namedL_BadRules] at hS
  have e1' : cLen [.ref M.length] S = some (.p (.int 3), S) := by rw [e1]; rfl
  have er' : rng1 [.p (.int 3)] = some (0, 3) := er
  simp [su__law_told, hb1, hb2, ← hS, e1', er', ofW, lS, key, mkTup, allP]
  rw [hS]
  simp [wordsL, namedL_BadRules]
theorem hex__law_told (il : LamI) (B : Store → R D) : ∀ (ρ : Fl.Env) (M : Store) c fs ρ1 M1, bo__law_told il B ρ M = .ex c fs ρ1 M1 → fs = none := by
  intro ρ M c fs ρ1 M1 h
  have hr : (rCons (rC (.p (.str "told"))) (rCons (rLam 0 il B) rNil)) ρ M = .no ∨ (∃ xs M', (rCons (rC (.p (.str "told"))) (rCons (rLam 0 il B) rNil)) ρ M = .ok xs M') ∨ ∃ c M', (rCons (rC (.p (.str "told"))) (rCons (rLam 0 il B) rNil)) ρ M = .ex c none M' := by
    have hl : rLam 0 il B ρ M = .no ∨ (∃ d M', rLam 0 il B ρ M = .ok d M') ∨ ∃ c M', rLam 0 il B ρ M = .ex c none M' := by
      unfold rLam
      split
      · split
        · cases B M with
          | no => exact .inl rfl
          | ok d M' => exact .inr (.inl ⟨_, _, rfl⟩)
          | ex c fs M' =>
            cases fs with
            | none => exact .inr (.inr ⟨_, _, rfl⟩)
            | some gs => exact .inl rfl
        · exact .inl rfl
      · exact .inl rfl
    rcases hl with e | ⟨d, M', e⟩ | ⟨c, M', e⟩
    · exact .inl (by simp [e])
    · exact .inr (.inl ⟨_, _, by simp [e]; exact ⟨rfl, rfl⟩⟩)
    · exact .inr (.inr ⟨_, _, by simp [e]; exact ⟨rfl, rfl⟩⟩)
  simp only [bo__law_told, e_ret, e_tup] at h
  rcases hr with e | ⟨xs, M', e⟩ | ⟨c', M', e⟩
  · rw [e] at h; cases h
  · rw [e] at h
    simp only [R.bind_ok] at h
    split at h <;> cases h
  · rw [e] at h
    cases h
    rfl
theorem hind__law_told : ∀ (a : Nat) (c : Str) (ρ : Fl.Env) (M : Store), (∃ b, (c, b) ∈ ([("BadRules", true)] : List (Str × Bool))) → ρ.length = 5 → setI 3 (su__law_told a c (ρ.set 3 (some (.exv a))) M) = setI 3 (su__law_told 0 c (ρ.set 3 (some (.exv 0))) M) := by
  intro a c ρ M hc hl
  obtain ⟨b, hb⟩ := hc
  simp only [List.mem_cons, List.not_mem_nil, or_false, Prod.mk.injEq] at hb
  match ρ, hl with
  | [x0, x1, x2, x3, x4], _ =>
    simp only [List.set]
    rcases hb with ⟨rfl, _⟩
    rw [su_told_BadRules a x0 x1 x2 x4 M, su_told_BadRules 0 x0 x1 x2 x4 M]
theorem r__law_told : ∀ il B ds M, ds.length + 1 = 1 → Grows M (F__law_told B ds M) ∧ Tells (F__law_told B ds M) (bodyR (m__law_told il B (startD 5 (.lam il :: ds)) M)) := by
  intro il B ds M h
  cases ds with
  | cons d ds => exact ⟨trivial, trivial⟩
  | nil =>
    have eB := e_lam il B [none, none, none, none] M
    cases q : B M with
    | no => simp [F__law_told, q, Grows, Tells]
    | ok d M' =>
      by_cases hl : M.length ≤ M'.length
      · rw [q] at eB
        simp [F__law_told, q, hl, Grows, Tells, m__law_told, rTryAs, bo__law_told, startD, eB, noFs]
      · simp [F__law_told, q, hl, Grows, Tells]
    | ex c fs M' =>
      cases fs with
      | some gs => simp [F__law_told, q, Grows, Tells]
      | none =>
        by_cases hc : c ∈ raisedL ∧ M.length ≤ M'.length
        · obtain ⟨hm, hl⟩ := hc
          rw [q] at eB
          have e0 : F__law_told B [] M = .ok (.tup [.p (.str "error"), .ref (M'.length + 2)]) (M' ++ [.lst wordsL, .lst (namedL c), .lst [.p (.str c)]]) := by
            simp only [F__law_told, q]
            rw [if_pos ⟨hm, hl⟩]
          rw [e0]
          have hm2 := hm
          simp only [raisedL, List.mem_cons, List.not_mem_nil, or_false] at hm2
          rcases hm2 with rfl
          · have e1 := su_told_BadRules 0 (some (.lam il)) none none none M'
            rw [named_BadRules]
            have hl2 : M.length ≤ M'.length + 3 := Nat.le_trans hl (Nat.le_add_right _ _)
            refine ⟨by simpa [Grows] using hl2, ?_⟩
            simp [Tells, m__law_told, rTryAs, bo__law_told, startD, eB, noFs, e1, setI, List.lookup]
        · have e0 : F__law_told B [] M = .no := by
            simp only [F__law_told, q]
            rw [if_neg hc]
          rw [e0]
          exact ⟨trivial, trivial⟩
/-- what is told of a call that raises -/
theorem told_ex {B : Store → R D} {M M1 : Store} {c : Str} (h : B M = .ex c none M1) (hc : c ∈ raisedL) (hp : M <+: M1) : ∃ l M', F__law_told B [] M = .ok (.tup [.p (.str "error"), .ref l]) M' ∧ M <+: M' ∧ M'[l]? = some (.lst [.p (.str c)]) := by
  have hl := pfx_len hp
  refine ⟨M1.length + 2, M1 ++ [.lst wordsL, .lst (namedL c), .lst [.p (.str c)]], ?_, hp.trans (List.prefix_append _ _), by simp⟩
  simp only [F__law_told, h]
  rw [if_pos ⟨hc, hl⟩]
theorem raised_BadRules : ("BadRules" : Str) ∈ raisedL := by simp [raisedL]
theorem err_eq_BadRules (l k : Nat) (M : Store) (h1 : M[l]? = some (.lst [.p (.str "BadRules")])) (h2 : M[k]? = some (.lst [.p (.str "BadRules")])) : eqvD (.tup [.p (.str "error"), .ref l]) (.tup [.p (.str "error"), .ref k]) M = some true := by
  have a : ∀ j, M[j]? = some (.lst [.p (.str "BadRules")]) → datN M 8 (.tup [.p (.str "error"), .ref j]) = some (.tuple [.str "error", .list [.str "BadRules"]]) := fun j hj => by
    simp [datN, allD, hj, pyP]
  unfold eqvD
  rw [a l h1, a k h2]
  decide +kernel
theorem err_ne_BadRules (l k : Nat) (M : Store) (h1 : M[l]? = some (.lst [.p (.str "BadRules")])) (h2 : M[k]? = some (.lst [.p (.str "BadRules")])) : dNeX (.tup [.p (.str "error"), .ref l]) (.tup [.p (.str "error"), .ref k]) M = some (.p (.bl false), M) := by
  unfold dNeX
  rw [err_eq_BadRules l k M h1 h2]
  rfl
theorem err_eqX_BadRules (l k : Nat) (M : Store) (h1 : M[l]? = some (.lst [.p (.str "BadRules")])) (h2 : M[k]? = some (.lst [.p (.str "BadRules")])) : dEqX (.tup [.p (.str "error"), .ref l]) (.tup [.p (.str "error"), .ref k]) M = some (.p (.bl true), M) := by
  unfold dEqX
  rw [err_eq_BadRules l k M h1 h2]
  rfl

-- slots: 0:mask
noncomputable def m_without_lowest  : RS :=
  (rRet (rBin dBAnd (rVar 0) (rBin dSub (rVar 0) (rC (.p (.int 1))))))

noncomputable def F_without_lowest : List D → Store → R D := selfF 1 m_without_lowest
theorem r_without_lowest : Ref 1 1 F_without_lowest m_without_lowest := ref_self 1 1 m_without_lowest
theorem x_without {f : Nat → Bool} {n k : Nat} (h : firstF f n = some k) (M : Store) : F_without_lowest [.p (.int (maskOf f n : Nat))] M = .ok (.p (.int (maskOf (nextF f k) n : Nat))) M := by
  have e := mask_below h
  obtain ⟨m, hm⟩ : ∃ m : Int, m = (maskOf f n : Nat) := ⟨_, rfl⟩
  rw [← hm] at e ⊢
  refine selfF_ok ?_ (Nat.le_refl _)
  simp [m_without_lowest, e]
-- slots: 0:self 1:some 2:first 3:found 4:ahead 5:second 6:third
noncomputable def s_Grid_distinct_1  : RS :=
  (rDPut (rVar 1) (rBin dBAnd (rVar 2) (rVar 5)) (rC (.p (.bl true))))
noncomputable def s_Grid_distinct_2  : RS :=
  (rFor (rBin dIx (rUn (dFld "Grid" "masks") (rVar 0)) (rC (.p (.int 1)))) (gNm 5)
  s_Grid_distinct_1)
noncomputable def s_Grid_distinct_3  : RS :=
  (rDPut (rVar 3) (rBin dBAnd (rVar 4) (rVar 6)) (rC (.p (.bl true))))
noncomputable def s_Grid_distinct_4  : RS :=
  (rFor (rBin dIx (rUn (dFld "Grid" "masks") (rVar 0)) (rC (.p (.int 2)))) (gNm 6)
  s_Grid_distinct_3)
noncomputable def s_Grid_distinct_5  : RS :=
  (rSet 1 rDict0)
noncomputable def s_Grid_distinct_6  : RS :=
  (rFor (rBin dIx (rUn (dFld "Grid" "masks") (rVar 0)) (rC (.p (.int 0)))) (gNm 2)
  s_Grid_distinct_2)
noncomputable def s_Grid_distinct_7  : RS :=
  (rSet 3 rDict0)
noncomputable def s_Grid_distinct_8  : RS :=
  (rForD (rVar 1) (gNm 4)
  s_Grid_distinct_4)
noncomputable def s_Grid_distinct_9  : RS :=
  (rRet (rCB cSorted (rCons (rVar 3) rNil)))
noncomputable def m_Grid_distinct  : RS :=
  (rSeq s_Grid_distinct_5
  (rSeq s_Grid_distinct_6
  (rSeq s_Grid_distinct_7
  (rSeq s_Grid_distinct_8
  s_Grid_distinct_9))))

noncomputable def F_Grid_distinct : List D → Store → R D := selfF 7 m_Grid_distinct
theorem r_Grid_distinct : Ref 1 7 F_Grid_distinct m_Grid_distinct := ref_self 1 7 m_Grid_distinct
theorem x_distinct {M : Store} {g : Nat} {rs : List Rl} {c0 c1 c2 : List Int} (G : IsGrid M g rs c0 c1 c2) (hb : c0.length * c1.length * c2.length ≤ 60000) (h2 : 0 < c2.length) :
    ∃ M' l os, M <+: M' ∧ F_Grid_distinct [.ref g] M = .ok (.ref l) M' ∧ M'[l]? = some (.lst (numL os)) ∧ os.length ≤ 60000 ∧ ∀ x : Int, x ∈ os ↔ ∃ q : Nat × Nat × Nat, (q.1 < c0.length ∧ q.2.1 < c1.length ∧ q.2.2 < c2.length) ∧ x = (maskOf (hasK rs (cornT c0 c1 c2 q)) rs.length : Nat) := by
  obtain ⟨lm, a0, a1, a2, g1, g2, g3, g4, g5⟩ := G.is_
  obtain ⟨A, hA⟩ : ∃ A : Nat → Int, A = fun i => ((maskOf (hasA rs 0 (c0.getD i 0)) rs.length : Nat) : Int) := ⟨_, rfl⟩
  obtain ⟨B, hB⟩ : ∃ A : Nat → Int, A = fun i => ((maskOf (hasA rs 1 (c1.getD i 0)) rs.length : Nat) : Int) := ⟨_, rfl⟩
  obtain ⟨C, hC⟩ : ∃ A : Nat → Int, A = fun i => ((maskOf (hasA rs 2 (c2.getD i 0)) rs.length : Nat) : Int) := ⟨_, rfl⟩
  have len : ∀ p cs, (maskL rs p cs rs.length).length = cs.length := fun p cs => by simp [maskL]
  have gA : ∀ i, i < c0.length → (maskL rs 0 c0 rs.length)[i]? = some (.p (.int (A i))) := fun i hi => by rw [maskL_get hi, hA]
  have gB : ∀ i, i < c1.length → (maskL rs 1 c1 rs.length)[i]? = some (.p (.int (B i))) := fun i hi => by rw [maskL_get hi, hB]
  have gC : ∀ i, i < c2.length → (maskL rs 2 c2 rs.length)[i]? = some (.p (.int (C i))) := fun i hi => by rw [maskL_get hi, hC]
  have fm : ∀ S, M <+: S → dFld "Grid" "masks" (.ref g) S = some (.ref lm, S) := fun S p => v_fld (f := "masks") (pfx_get p g1) (look_m _ _ _ _)
  have m0 : ∀ S, M <+: S → dIx (.ref lm) (.p (.int 0)) S = some (.ref a0, S) := fun S p => v_ix_l lm _ 0 _ S (pfx_get p g2) rfl
  have m1 : ∀ S, M <+: S → dIx (.ref lm) (.p (.int 1)) S = some (.ref a1, S) := fun S p => v_ix_l lm _ 1 _ S (pfx_get p g2) rfl
  have m2 : ∀ S, M <+: S → dIx (.ref lm) (.p (.int 2)) S = some (.ref a2, S) := fun S p => v_ix_l lm _ 2 _ S (pfx_get p g2) rfl
  have hab : c0.length * c1.length ≤ 60000 := Nat.le_trans (Nat.le_mul_of_pos_right _ h2) hb
  -- the pairs of the first two
  have in1 : ∀ (i : Nat) (hi : i < c0.length) (ks : List Int) (x5 : Option D), ks.Nodup → ks.length ≤ i * c1.length →
      ∃ ks' y5, s_Grid_distinct_2 [some (.ref g), some (.ref M.length), some (.p (.int (A i))), none, none, x5, none] (M ++ [.dk (setK ks)]) = .nx [some (.ref g), some (.ref M.length), some (.p (.int (A i))), none, none, y5, none] (M ++ [.dk (setK ks')]) ∧
        ks'.Nodup ∧ ks'.length ≤ ks.length + c1.length ∧ ∀ x, x ∈ ks' ↔ x ∈ ks ∨ ∃ j, j < c1.length ∧ x = Builtin.bitAnd (A i) (B j) := by
    intro i hi ks x5 hn hl
    have hm : (i + 1) * c1.length ≤ c0.length * c1.length := Nat.mul_le_mul_right _ hi
    rw [Nat.succ_mul] at hm
    have pS : M <+: M ++ [O.dk (setK ks)] := List.prefix_append _ _
    have wk := walk_ref a1 _ _ (pfx_get pS g4)
    obtain ⟨ρ', ks', k1, ⟨y5, rfl⟩, k3, k4, k5⟩ := set_loop (k := some (a1, .lst (maskL rs 1 c1 rs.length))) (g := gNm 5) (body := s_Grid_distinct_1) (maskL rs 1 c1 rs.length) M (fun j x => x = Builtin.bitAnd (A i) (B j)) 1 (i * c1.length) (fun ρ => ∃ y5, ρ = [some (.ref g), some (.ref M.length), some (.p (.int (A i))), none, none, y5, none]) (fun o => get_app g4 _) (by
      rintro n d ks ρ hx q1 q2 ⟨y5, rfl⟩
      have hn2 : n < c1.length := by
        have := (List.getElem?_eq_some_iff.mp hx).1
        rw [len] at this
        exact this
      rw [gB n hn2] at hx
      cases hx
      have pu := put_last M ks (Builtin.bitAnd (A i) (B n)) (by omega)
      refine ⟨_, [some (.ref g), some (.ref M.length), some (.p (.int (A i))), none, none, some (.p (.int (B n))), none], insI ks (Builtin.bitAnd (A i) (B n)), rfl, by simp [s_Grid_distinct_1, pu], ⟨_, rfl⟩, nodup_insI q1 _, len_insI _ _, fun x => mem_insI _ _ _⟩) ks [some (.ref g), some (.ref M.length), some (.p (.int (A i))), none, none, x5, none] hn hl ⟨x5, rfl⟩
    rw [len, Nat.mul_one] at k4
    rw [len] at k5
    refine ⟨ks', y5, ?_, k3, k4, k5⟩
    simp [s_Grid_distinct_2, fm _ pS, m1 _ pS, wk, k1]
  have p1 : M <+: M ++ [O.dk (setK [])] := List.prefix_append _ _
  have wk0 := walk_ref a0 _ _ (pfx_get p1 g3)
  obtain ⟨ρ', ks, k1, ⟨y2, y5, rfl⟩, k3, k4, k5⟩ := set_loop (k := some (a0, .lst (maskL rs 0 c0 rs.length))) (g := gNm 2) (body := s_Grid_distinct_2) (maskL rs 0 c0 rs.length) M (fun i x => ∃ j, j < c1.length ∧ x = Builtin.bitAnd (A i) (B j)) c1.length 0 (fun ρ => ∃ y2 y5, ρ = [some (.ref g), some (.ref M.length), y2, none, none, y5, none]) (fun o => get_app g3 _) (by
    rintro n d ks ρ hx q1 q2 ⟨y2, y5, rfl⟩
    have hn2 : n < c0.length := by
      have := (List.getElem?_eq_some_iff.mp hx).1
      rw [len] at this
      exact this
    rw [gA n hn2] at hx
    cases hx
    obtain ⟨ks', z5, e1, e2, e3, e4⟩ := in1 n hn2 ks y5 q1 (by omega)
    exact ⟨_, _, ks', rfl, e1, ⟨_, _, rfl⟩, e2, e3, e4⟩) [] [some (.ref g), some (.ref M.length), none, none, none, none, none] List.nodup_nil (Nat.le_refl _) ⟨none, none, rfl⟩
  rw [len] at k4 k5
  simp only [List.length_nil, Nat.zero_add] at k4
  -- with the third
  obtain ⟨Mr, hMr⟩ : ∃ S : Store, S = M ++ [O.rod (setK ks)] := ⟨_, rfl⟩
  have pr : M <+: Mr := by rw [hMr]; exact List.prefix_append _ _
  have gr : Mr[M.length]? = some (.rod (setK ks)) := by rw [hMr]; exact get_new _ _
  have lr : Mr.length = M.length + 1 := by rw [hMr]; simp
  have in2 : ∀ (i : Nat) (hi : i < ks.length) (fs : List Int) (x6 : Option D), fs.Nodup → fs.length ≤ i * c2.length →
      ∃ fs' y6, s_Grid_distinct_4 [some (.ref g), some (.ref M.length), y2, some (.ref Mr.length), some (.p (.int (ks.getD i 0))), y5, x6] (Mr ++ [.dk (setK fs)]) = .nx [some (.ref g), some (.ref M.length), y2, some (.ref Mr.length), some (.p (.int (ks.getD i 0))), y5, y6] (Mr ++ [.dk (setK fs')]) ∧
        fs'.Nodup ∧ fs'.length ≤ fs.length + c2.length ∧ ∀ x, x ∈ fs' ↔ x ∈ fs ∨ ∃ j, j < c2.length ∧ x = Builtin.bitAnd (ks.getD i 0) (C j) := by
    intro i hi fs x6 hn hl
    obtain ⟨z, hz⟩ : ∃ z, z = ks.getD i 0 := ⟨_, rfl⟩
    rw [← hz]
    have hm : (i + 1) * c2.length ≤ (c0.length * c1.length) * c2.length := Nat.mul_le_mul_right _ (by omega)
    rw [Nat.succ_mul] at hm
    have pS : M <+: Mr ++ [O.dk (setK fs)] := pr.trans (List.prefix_append _ _)
    have wk := walk_ref a2 _ _ (pfx_get pS g5)
    obtain ⟨ρ', fs', k1, ⟨y6, rfl⟩, k3, k4, k5⟩ := set_loop (k := some (a2, .lst (maskL rs 2 c2 rs.length))) (g := gNm 6) (body := s_Grid_distinct_3) (maskL rs 2 c2 rs.length) Mr (fun j x => x = Builtin.bitAnd z (C j)) 1 (i * c2.length) (fun ρ => ∃ y6, ρ = [some (.ref g), some (.ref M.length), y2, some (.ref Mr.length), some (.p (.int z)), y5, y6]) (fun o => get_app (pfx_get pr g5) _) (by
      rintro n d fs ρ hx q1 q2 ⟨y6, rfl⟩
      have hn2 : n < c2.length := by
        have := (List.getElem?_eq_some_iff.mp hx).1
        rw [len] at this
        exact this
      rw [gC n hn2] at hx
      cases hx
      have pu := put_last Mr fs (Builtin.bitAnd z (C n)) (by omega)
      refine ⟨_, [some (.ref g), some (.ref M.length), y2, some (.ref Mr.length), some (.p (.int z)), y5, some (.p (.int (C n)))], insI fs (Builtin.bitAnd z (C n)), rfl, by simp [s_Grid_distinct_3, pu], ⟨_, rfl⟩, nodup_insI q1 _, len_insI _ _, fun x => mem_insI _ _ _⟩) fs [some (.ref g), some (.ref M.length), y2, some (.ref Mr.length), some (.p (.int z)), y5, x6] hn hl ⟨x6, rfl⟩
    rw [len, Nat.mul_one] at k4
    rw [len] at k5
    refine ⟨fs', y6, ?_, k3, k4, k5⟩
    simp [s_Grid_distinct_4, fm _ pS, m2 _ pS, wk, k1]
  obtain ⟨ρ', fs, f1, ⟨y4, y6, rfl⟩, f3, f4, f5⟩ := set_loop (k := some (M.length, .rod (setK ks))) (g := gNm 4) (body := s_Grid_distinct_4) (ks.map fun i => .p (.int i)) Mr (fun i x => ∃ j, j < c2.length ∧ x = Builtin.bitAnd (ks.getD i 0) (C j)) c2.length 0 (fun ρ => ∃ y4 y6, ρ = [some (.ref g), some (.ref M.length), y2, some (.ref Mr.length), y4, y5, y6]) (fun o => get_app gr _) (by
    rintro n d fs ρ hx q1 q2 ⟨y4, y6, rfl⟩
    have hn2 : n < ks.length := by
      have := (List.getElem?_eq_some_iff.mp hx).1
      simpa using this
    have hd : d = .p (.int (ks.getD n 0)) := by
      rw [List.getElem?_map, List.getElem?_eq_getElem hn2] at hx
      rw [← Option.some.inj hx]
      simp [List.getD_eq_getElem?_getD, List.getElem?_eq_getElem hn2]
    subst hd
    obtain ⟨fs', z6, e1, e2, e3, e4⟩ := in2 n hn2 fs y6 q1 (by omega)
    exact ⟨_, _, fs', rfl, e1, ⟨_, _, rfl⟩, e2, e3, e4⟩) [] [some (.ref g), some (.ref M.length), y2, some (.ref Mr.length), none, y5, none] List.nodup_nil (Nat.le_refl _) ⟨none, none, rfl⟩
  rw [List.length_map] at f4 f5
  simp only [List.length_nil, Nat.zero_add] at f4
  have f6 : fs.length ≤ 60000 := Nat.le_trans f4 (Nat.le_trans (Nat.mul_le_mul_right _ k4) hb)
  -- the end
  obtain ⟨Z, hZ⟩ : ∃ Z : Store, Z = M ++ [O.dk (setK ks)] ++ [O.dk (setK fs)] := ⟨_, rfl⟩
  have pZ : M <+: Z := by rw [hZ, List.append_assoc]; exact List.prefix_append _ _
  have gZ : Z[Mr.length]? = some (.dk (setK fs)) := by rw [hZ, lr]; simp
  have so := v_sorted_d gZ
  have pf : M <+: Z ++ [O.lst ((srtI fs).map fun i => .p (.int i))] := pfx_app pZ _
  have e8 : s_Grid_distinct_8 [some (.ref g), some (.ref M.length), y2, some (.ref Mr.length), none, y5, none] (M ++ [O.dk (setK ks)] ++ [O.dk (setK [])]) = .nx [some (.ref g), some (.ref M.length), y2, some (.ref Mr.length), y4, y5, y6] Z := by
    have gk : (M ++ [O.dk (setK ks)] ++ [O.dk (setK [])])[M.length]? = some (.dk (setK ks)) := by simp
    have sk : (M ++ [O.dk (setK ks)] ++ [O.dk (setK [])]).set M.length (.rod (setK ks)) = Mr ++ [O.dk (setK [])] := by rw [hMr]; simp
    have gk2 : (Mr ++ [O.dk (setK [])])[M.length]? = some (.rod (setK ks)) := get_app gr _
    have km : (setK ks).map (fun q => keyOf q.1) = ks.map fun i => D.p (.int i) := by
      unfold setK
      rw [List.map_map]
      rfl
    have fw : rForW (wKeys (rVar 1)) (gNm 4) s_Grid_distinct_4 [some (.ref g), some (.ref M.length), y2, some (.ref Mr.length), none, y5, none] (Mr ++ [O.dk (setK [])]) = .nx [some (.ref g), some (.ref M.length), y2, some (.ref Mr.length), y4, y5, y6] (Mr ++ [O.dk (setK fs)]) := by
      simp [wKeys, keysW, gk2, km, f1]
    have ul : (Mr ++ [O.dk (setK fs)])[M.length]? = some (.rod (setK ks)) := get_app gr _
    have us : (Mr ++ [O.dk (setK fs)]).set M.length (.dk (setK ks)) = Z := by rw [hMr, hZ]; simp
    unfold s_Grid_distinct_8 rForD
    simp only [e_var, List.getElem?_cons_succ, List.getElem?_cons_zero]
    simp only [if_true, gk]
    rw [sk, fw]
    simp only [unlO, unlS, ul, us]
  refine ⟨_, Z.length, srtI fs, pf, selfF_ok ?_ (pfx_len pf), get_new _ _, by rw [(srtI_perm fs).length_eq]; exact f6, fun x => ?_⟩
  · have sd : startD 7 [.ref g] = [some (.ref g), none, none, none, none, none, none] := rfl
    have s6 : s_Grid_distinct_6 [some (.ref g), some (.ref M.length), none, none, none, none, none] (M ++ [O.dk (setK [])]) = .nx [some (.ref g), some (.ref M.length), y2, none, none, y5, none] (M ++ [O.dk (setK ks)]) := by
      simp [s_Grid_distinct_6, fm _ p1, m0 _ p1, wk0, k1]
    have s5 : s_Grid_distinct_5 [some (.ref g), none, none, none, none, none, none] M = .nx [some (.ref g), some (.ref M.length), none, none, none, none, none] (M ++ [O.dk (setK [])]) := rfl
    have s7 : s_Grid_distinct_7 [some (.ref g), some (.ref M.length), y2, none, none, y5, none] (M ++ [O.dk (setK ks)]) = .nx [some (.ref g), some (.ref M.length), y2, some (.ref Mr.length), none, y5, none] (M ++ [O.dk (setK ks)] ++ [O.dk (setK [])]) := by
      rw [lr]
      simp [s_Grid_distinct_7, setK]
    unfold m_Grid_distinct
    rw [sd, e_seq, s5, Out.bind_nx, e_seq, s6, Out.bind_nx, e_seq, s7, Out.bind_nx, e_seq, e8, Out.bind_nx]
    simp [s_Grid_distinct_9, so]
  · have key : ∀ i j k, Builtin.bitAnd (Builtin.bitAnd (A i) (B j)) (C k) = (maskOf (hasK rs (cornT c0 c1 c2 (i, j, k))) rs.length : Nat) := fun i j k => by
      rw [hA, hB, hC]
      dsimp only
      rw [band_nn, band_nn, maskOf_and, maskOf_and]
      congr 1
      exact maskOf_congr fun n _ => hasK_eq rs (cornT c0 c1 c2 (i, j, k)) n
    rw [(srtI_perm fs).mem_iff, f5]
    constructor
    · rintro (z | ⟨n, hn, k, hk, rfl⟩)
      · cases z
      · have hm : ks.getD n 0 ∈ ks := Fl.getD_mem hn
        rcases (k5 _).mp hm with z | ⟨i, hi, j, hj, e⟩
        · cases z
        · exact ⟨(i, j, k), ⟨hi, hj, hk⟩, by rw [e, key]⟩
    · rintro ⟨⟨i, j, k⟩, ⟨hi, hj, hk⟩, rfl⟩
      have hm : Builtin.bitAnd (A i) (B j) ∈ ks := (k5 _).mpr (.inr ⟨i, hi, j, hj, rfl⟩)
      obtain ⟨n, hn, e⟩ := Fl.mem_getD hm
      exact .inr ⟨n, hn, k, hk, by rw [e, key]⟩

/-! ### numbers of rules, kept by a test -/
def numsP (p : Nat → Bool) (n : Nat) : P := .tup (((List.range n).filter p).map fun k => .int (k : Nat))
def numsL (p : Nat → Bool) (n : Nat) : List D := ((List.range n).filter p).map fun k => .p (.int (k : Nat))
theorem lc_nums {g : RG} {tt : RT} {te : RE} {ρ : Fl.Env} (p : Nat → Bool) (n : Nat) (M : Store) (hl : n ≤ 100000)
    (h : ∀ k : Nat, k < n → ∀ ys, ∃ ρ1, g (.p (.int (k : Nat))) ρ (M ++ [.lst ys]) = some (ρ1, M ++ [.lst ys]) ∧ tt ρ1 (M ++ [.lst ys]) = .ok (p k) (M ++ [.lst ys]) ∧ (p k = true → te ρ1 (M ++ [.lst ys]) = .ok (.p (.int (k : Nat))) (M ++ [.lst ys]))) :
    lcL M.length none g tt te ρ (intsD 0 n) (M ++ [.lst []]) = .ok (.ref M.length) (M ++ [.lst (numsL p n)]) := by
  have key := lc_new (k := none) (g := g) (tt := tt) (te := te) (ρ := ρ) (fun d => match d with | .p (.int (i : Int)) => p (Int.toNat i) | _ => false) (fun d => d) M (fun _ => trivial) (intsD 0 n) (by rw [intsD_len]; omega) (by
    intro x hx ys
    obtain ⟨i, hi, rfl⟩ := List.mem_map.mp hx
    rw [List.mem_range] at hi
    obtain ⟨ρ1, a, b, c⟩ := h i hi ys
    rw [Int.zero_add]
    exact ⟨ρ1, a, by simpa using b, fun z => c (by simpa using z)⟩)
  rw [key]
  have e : (intsD 0 n).filter (fun d => match d with | .p (.int (i : Int)) => p (Int.toNat i) | _ => false) = numsL p n := by
    unfold intsD numsL
    rw [List.filter_map]
    have e1 : ((fun d => match d with | D.p (.int (i : Int)) => p (Int.toNat i) | _ => false) ∘ fun k : Nat => D.p (.int (0 + (k : Int)))) = p := by
      funext k
      simp
    rw [e1]
    simp
  rw [e, List.map_id']
theorem tup_nums {M : Store} {l : Nat} {p : Nat → Bool} {n : Nat} (h : M[l]? = some (.lst (numsL p n))) : cTuple [.ref l] M = some (.p (numsP p n), M) := by
  have e : numsL p n = (((List.range n).filter p).map fun k => P.int (k : Nat)).map D.p := by
    unfold numsL
    rw [List.map_map]
    rfl
  rw [e] at h
  simp only [cTuple, rowD, h, mkTup, allP_map, Option.map_some]
  rfl
theorem fit_nums (p : Nat → Bool) (n : Nat) (h : n ≤ 100000) : fitQ 9 (numsP p n) := by
  refine ⟨?_, fun y hy => ?_⟩
  · rw [List.length_map]
    have := List.length_filter_le p (List.range n)
    rw [List.length_range] at this
    omega
  · obtain ⟨i, _, rfl⟩ := List.mem_map.mp hy
    trivial
def showB (rs : List Rl) (k : Nat) : Bool := (allT rs).any fun t => fstR rs t == some k
def needB (rs : List Rl) (k : Nat) : Bool := (allT rs).any fun t => fstR rs t == some k && diffB rs t k
theorem show_iff {rs : List Rl} {k : Nat} : showB rs k = true ↔ ∃ t ∈ allT rs, fstR rs t = some k := by
  unfold showB
  simp
theorem need_iff {rs : List Rl} {k : Nat} : needB rs k = true ↔ ∃ t ∈ allT rs, fstR rs t = some k ∧ diffB rs t k = true := by
  unfold needB
  simp
-- slots: 0:masks 1:found 2:mask
noncomputable def s_first_ones_1  : RS :=
  (rDPut (rVar 1) (rCallN 1 F_lowest (rCons (rVar 2) rNil)) (rC (.p (.bl true))))
noncomputable def s_first_ones_2  : RS :=
  (rIfS (rTst truthD (rVar 2))
  s_first_ones_1
  rSkip)
noncomputable def s_first_ones_3  : RS :=
  (rSet 1 rDict0)
noncomputable def s_first_ones_4  : RS :=
  (rFor (rVar 0) (gNm 2)
  s_first_ones_2)
noncomputable def s_first_ones_5  : RS :=
  (rRet (rVar 1))
noncomputable def m_first_ones  : RS :=
  (rSeq s_first_ones_3
  (rSeq s_first_ones_4
  s_first_ones_5))

noncomputable def F_first_ones : List D → Store → R D := selfF 3 m_first_ones
theorem r_first_ones : Ref 1 3 F_first_ones m_first_ones := ref_self 1 3 m_first_ones
theorem mask_nz (rs : List Rl) (t : Tr) : maskOf (hasK rs t) rs.length ≠ 0 ↔ fstR rs t ≠ none := by
  constructor
  · intro h z
    exact h (low_none z)
  · intro h z
    cases q : fstR rs t with
    | none => exact h q
    | some k =>
      obtain ⟨h1, h2, _⟩ := firstF_some.mp q
      have := testBit_maskOf (hasK rs t) k rs.length
      rw [z] at this
      simp [h1, h2] at this
/-- the list of all masks -/
def Masks (rs : List Rl) (os : List Int) : Prop := ∀ x : Int, x ∈ os ↔ ∃ t ∈ allT rs, x = (maskOf (hasK rs t) rs.length : Nat)
theorem x_first_ones (rs : List Rl) (M : Store) (l : Nat) (os : List Int) (h : M[l]? = some (.lst (numL os))) (hl : os.length ≤ 60000) (hm : Masks rs os) :
    ∃ ks : List Int, F_first_ones [.ref l] M = .ok (.ref M.length) (M ++ [.dk (setK ks)]) ∧ ∀ k : Nat, (k : Int) ∈ ks ↔ showB rs k = true := by
  have pS : ∀ o, M <+: M ++ [o] := fun o => List.prefix_append _ _
  have wk := walk_ref l _ _ (pfx_get (pS (O.dk (setK []))) h)
  obtain ⟨ρ', ks, k1, ⟨y2, rfl⟩, k3, k4, k5⟩ := set_loop (k := some (l, .lst (numL os))) (g := gNm 2) (body := s_first_ones_2) (numL os) M (fun n x => ∃ t ∈ allT rs, os[n]? = some ((maskOf (hasK rs t) rs.length : Nat) : Int) ∧ ∃ k, fstR rs t = some k ∧ x = (k : Nat)) 1 0 (fun ρ => ∃ y2, ρ = [some (.ref l), some (.ref M.length), y2]) (fun o => get_app h _) (by
    rintro n d ks ρ hx q1 q2 ⟨y2, rfl⟩
    have hn : n < os.length := by
      have := (List.getElem?_eq_some_iff.mp hx).1
      simpa [numL] using this
    obtain ⟨t, ht, e⟩ := (hm os[n]).mp (List.getElem_mem hn)
    have hd : d = .p (.int (maskOf (hasK rs t) rs.length : Nat)) := by
      unfold numL at hx
      rw [List.getElem?_map, List.getElem?_eq_getElem hn, e] at hx
      exact (Option.some.inj hx).symm
    subst hd
    have eo : os[n]? = some ((maskOf (hasK rs t) rs.length : Nat) : Int) := by rw [List.getElem?_eq_getElem hn, e]
    have lw := x_lowest rs t (M ++ [O.dk (setK ks)])
    have nz := mask_nz rs t
    -- another triple with this mask has the same first rule
    have same : ∀ t', os[n]? = some ((maskOf (hasK rs t') rs.length : Nat) : Int) → fstR rs t' = fstR rs t := fun t' z => by
      rw [eo] at z
      have z2 : maskOf (hasK rs t) rs.length = maskOf (hasK rs t') rs.length := Int.ofNat.inj (Option.some.inj z)
      exact mask_fst z2.symm
    unfold fstI at lw
    obtain ⟨m, hmq⟩ : ∃ m, m = maskOf (hasK rs t) rs.length := ⟨_, rfl⟩
    rw [← hmq] at lw nz eo ⊢
    cases q : fstR rs t with
    | none =>
      rw [q] at nz
      have m0 : m = 0 := Classical.byContradiction fun z => nz.mp z rfl
      refine ⟨_, [some (.ref l), some (.ref M.length), some (.p (.int m))], ks, rfl, by simp [s_first_ones_2, m0], ⟨_, rfl⟩, q1, by omega, fun x => ?_⟩
      constructor
      · exact .inl
      · rintro (z | ⟨t', _, z, k, z2, _⟩)
        · exact z
        · rw [same t' z, q] at z2
          cases z2
    | some k =>
      rw [q] at nz lw
      have m0 : m ≠ 0 := nz.mpr (by simp)
      have m0' : ¬ (m : Int) = 0 := by omega
      have pu := put_last M ks (k : Nat) (by omega)
      refine ⟨_, [some (.ref l), some (.ref M.length), some (.p (.int m))], insI ks (k : Nat), rfl, by simp [s_first_ones_2, s_first_ones_1, m0, m0', lw, pu], ⟨_, rfl⟩, nodup_insI q1 _, len_insI _ _, fun x => ?_⟩
      rw [mem_insI]
      constructor
      · rintro (z | z)
        · exact .inl z
        · exact .inr ⟨t, ht, by rw [hmq] at eo; exact eo, k, q, z⟩
      · rintro (z | ⟨t', _, z, k', z2, z3⟩)
        · exact .inl z
        · rw [same t' z, q] at z2
          cases z2
          exact .inr z3) [] [some (.ref l), some (.ref M.length), none] List.nodup_nil (Nat.le_refl _) ⟨none, rfl⟩
  refine ⟨ks, selfF_ok (M' := M ++ [O.dk (setK ks)]) ?_ (pfx_len (pS _)), fun k => ?_⟩
  · have e0 : (O.dk (setK [])) = O.dk [] := rfl
    rw [e0] at wk k1
    simp [m_first_ones, s_first_ones_3, s_first_ones_4, s_first_ones_5, wk, k1]
  · rw [k5, show_iff]
    constructor
    · rintro (z | ⟨n, hn, t, ht, _, k', z, e⟩)
      · cases z
      · have : k = k' := by omega
        subst this
        exact ⟨t, ht, z⟩
    · rintro ⟨t, ht, z⟩
      obtain ⟨n, hn, e⟩ := List.mem_iff_getElem.mp ((hm _).mpr ⟨t, ht, rfl⟩)
      exact .inr ⟨n, by simpa [numL] using hn, t, ht, by rw [List.getElem?_eq_getElem hn, e], k, z, rfl⟩
-- slots: 0:masks 1:count 2:shown 3:number
noncomputable def s_hidden_numbers_1  : RS :=
  (rSet 2 (rCallN 1 F_first_ones (rCons (rVar 0) rNil)))
noncomputable def s_hidden_numbers_2  : RS :=
  (rRet (rCB cTuple (rCons (rLC (wRng rng1 (rCons (rVar 1) rNil)) (gNm 3) (rTst asBool (rBin dNotInD (rVar 3) (rVar 2))) (rVar 3) [3]) rNil)))
noncomputable def m_hidden_numbers  : RS :=
  (rSeq s_hidden_numbers_1
  s_hidden_numbers_2)

noncomputable def F_hidden_numbers : List D → Store → R D := selfF 4 m_hidden_numbers
theorem r_hidden_numbers : Ref 2 4 F_hidden_numbers m_hidden_numbers := ref_self 2 4 m_hidden_numbers
theorem x_hidden_numbers (rs : List Rl) (M : Store) (l : Nat) (os : List Int) (h : M[l]? = some (.lst (numL os))) (hl : os.length ≤ 60000) (hm : Masks rs os) (hr : rs.length ≤ 1000) :
    ∃ M', M <+: M' ∧ F_hidden_numbers [.ref l, .p (.int (rs.length : Nat))] M = .ok (.p (numsP (fun k => !showB rs k) rs.length)) M' := by
  obtain ⟨ks, e1, hk⟩ := x_first_ones rs M l os h hl hm
  obtain ⟨M1, hM1⟩ : ∃ M1 : Store, M1 = M ++ [O.dk (setK ks)] := ⟨_, rfl⟩
  have p1 : M <+: M1 := by rw [hM1]; exact List.prefix_append _ _
  have g1 : M1[M.length]? = some (.dk (setK ks)) := by rw [hM1]; exact get_new _ _
  rw [← hM1] at e1
  have er := rng1_len rs.length (by omega)
  have key := lc_nums (g := gNm 3) (tt := rTst asBool (rBin dNotInD (rVar 3) (rVar 2))) (te := rVar 3) (ρ := wipeE [some (.ref l), some (.p (.int (rs.length : Nat))), some (.ref M.length), none] [3]) (fun k => !showB rs k) rs.length M1 (by omega) (by
    intro k hk2 ys
    have nd := v_dnotin (i := (k : Int)) (get_app g1 [O.lst ys])
    have e : (valD (setK ks) (.inl (k : Int))).isSome = showB rs k := by
      rw [val_setK]
      by_cases c : (k : Int) ∈ ks
      · rw [if_pos c, (hk k).mp c]
        rfl
      · rw [if_neg c]
        have : showB rs k = false := by
          rw [Bool.eq_false_iff]
          exact fun z => c ((hk k).mpr z)
        rw [this]
        rfl
    rw [e] at nd
    exact ⟨_, rfl, by simp [wipeE, nd, asBool], fun _ => by simp [wipeE]⟩)
  have tn := tup_nums (get_new M1 (O.lst (numsL (fun k => !showB rs k) rs.length)))
  have pf := pfx_app p1 [O.lst (numsL (fun k => !showB rs k) rs.length)]
  refine ⟨_, pf, selfF_ok ?_ (pfx_len pf)⟩
  simp [wipeE] at key
  simp [m_hidden_numbers, s_hidden_numbers_1, s_hidden_numbers_2, e1, er, wipeE, key, tn]
-- slots: 0:grid 1:mask
noncomputable def m_is_told_by_first  : RS :=
  (rRet (rAnd (rBin dNe (rVar 1) (rC (.p (.int 0)))) (rBin dNe (rMeth "Grid" "lets" 2 F_Grid_lets (rVar 0) (rCons (rVar 1) rNil)) (rMeth "Grid" "lets" 2 F_Grid_lets (rVar 0) (rCons (rCallN 1 F_without_lowest (rCons (rVar 1) rNil)) rNil)))))

noncomputable def F_is_told_by_first : List D → Store → R D := selfF 2 m_is_told_by_first
theorem r_is_told_by_first : Ref 2 2 F_is_told_by_first m_is_told_by_first := ref_self 2 2 m_is_told_by_first
theorem x_told_first {M : Store} {g : Nat} {rs : List Rl} {c0 c1 c2 : List Int} (G : IsGrid M g rs c0 c1 c2) (t : Tr) :
    F_is_told_by_first [.ref g, .p (.int (maskOf (hasK rs t) rs.length : Nat))] M = .ok (.p (.bl (match fstR rs t with | some k => diffB rs t k | none => false))) M := by
  obtain ⟨lm, a0, a1, a2, h1, h2, h3, h4, h5⟩ := G.is_
  have n1 := v_insC (m := "lets") h1 (look_no _ _ _ _ _ (by decide +kernel) (by decide +kernel) (by decide +kernel) (by decide +kernel))
  have nz := mask_nz rs t
  have l1 := x_lets G (hasK rs t)
  refine selfF_ok ?_ (Nat.le_refl _)
  cases q : fstR rs t with
  | none =>
    rw [q] at nz
    obtain ⟨m, hmq⟩ : ∃ m, m = maskOf (hasK rs t) rs.length := ⟨_, rfl⟩
    rw [← hmq] at nz ⊢
    have m0 : m = 0 := Classical.byContradiction fun z => nz.mp z rfl
    simp [m_is_told_by_first, m0, dNe, dOk, P.depth, truthD]
  | some k =>
    have hk : k < rs.length := (firstF_some.mp q).1
    have w := x_without (n := rs.length) q M
    have l2 := x_lets G (nextF (hasK rs t) k)
    have e1 : letsF (hasK rs t) (bitK rs) rs.length = bitK rs k := lets_first q
    rw [e1] at l1
    rw [q] at nz
    have e2 : diffB rs t k = (letsF (nextF (hasK rs t) k) (bitK rs) rs.length != bitK rs k) := rfl
    obtain ⟨b2, hb2⟩ : ∃ b, b = letsF (nextF (hasK rs t) k) (bitK rs) rs.length := ⟨_, rfl⟩
    obtain ⟨b1, hb1⟩ : ∃ b, b = bitK rs k := ⟨_, rfl⟩
    rw [← hb2] at l2 e2
    rw [← hb1] at l1 e2
    simp only [e2]
    obtain ⟨m, hmq⟩ : ∃ m, m = maskOf (hasK rs t) rs.length := ⟨_, rfl⟩
    obtain ⟨m', hmq'⟩ : ∃ m, m = maskOf (nextF (hasK rs t) k) rs.length := ⟨_, rfl⟩
    rw [← hmq] at nz l1 w ⊢
    rw [← hmq'] at l2 w
    have m0 : ¬ m = 0 := nz.mpr (by simp)
    have m0' : ¬ (m : Int) = 0 := by omega
    cases b1 <;> cases b2 <;> simp at l1 l2 <;> simp [m_is_told_by_first, m0, m0', dNe, dOk, P.depth, truthD, n1, l1, l2, w]
-- slots: 0:grid 1:masks 2:count 3:needed 4:mask 5:number
noncomputable def s_idle_numbers_1  : RS :=
  (rDPut (rVar 3) (rCallN 1 F_lowest (rCons (rVar 4) rNil)) (rC (.p (.bl true))))
noncomputable def s_idle_numbers_2  : RS :=
  (rIfS (rTst truthD (rCallN 2 F_is_told_by_first (rCons (rVar 0) (rCons (rVar 4) rNil))))
  s_idle_numbers_1
  rSkip)
noncomputable def s_idle_numbers_3  : RS :=
  (rSet 3 rDict0)
noncomputable def s_idle_numbers_4  : RS :=
  (rFor (rVar 1) (gNm 4)
  s_idle_numbers_2)
noncomputable def s_idle_numbers_5  : RS :=
  (rRet (rCB cTuple (rCons (rLC (wRng rng1 (rCons (rVar 2) rNil)) (gNm 5) (rTst asBool (rBin dNotInD (rVar 5) (rVar 3))) (rVar 5) [5]) rNil)))
noncomputable def m_idle_numbers  : RS :=
  (rSeq s_idle_numbers_3
  (rSeq s_idle_numbers_4
  s_idle_numbers_5))

noncomputable def F_idle_numbers : List D → Store → R D := selfF 6 m_idle_numbers
theorem r_idle_numbers : Ref 3 6 F_idle_numbers m_idle_numbers := ref_self 3 6 m_idle_numbers
theorem x_idle_numbers {M : Store} {g : Nat} {rs : List Rl} {c0 c1 c2 : List Int} (G : IsGrid M g rs c0 c1 c2) (l : Nat) (os : List Int) (h : M[l]? = some (.lst (numL os))) (hl : os.length ≤ 60000) (hm : Masks rs os) (hr : rs.length ≤ 1000) :
    ∃ M', M <+: M' ∧ F_idle_numbers [.ref g, .ref l, .p (.int (rs.length : Nat))] M = .ok (.p (numsP (fun k => !needB rs k) rs.length)) M' := by
  have pS : ∀ o, M <+: M ++ [o] := fun o => List.prefix_append _ _
  have wk := walk_ref l _ _ (pfx_get (pS (O.dk (setK []))) h)
  obtain ⟨ρ', ks, k1, ⟨y2, rfl⟩, k3, k4, k5⟩ := set_loop (k := some (l, .lst (numL os))) (g := gNm 4) (body := s_idle_numbers_2) (numL os) M (fun n x => ∃ t ∈ allT rs, os[n]? = some ((maskOf (hasK rs t) rs.length : Nat) : Int) ∧ ∃ k, fstR rs t = some k ∧ diffB rs t k = true ∧ x = (k : Nat)) 1 0 (fun ρ => ∃ y2, ρ = [some (.ref g), some (.ref l), some (.p (.int (rs.length : Nat))), some (.ref M.length), y2, none]) (fun o => get_app h _) (by
    rintro n d ks ρ hx q1 q2 ⟨y2, rfl⟩
    have hn : n < os.length := by
      have := (List.getElem?_eq_some_iff.mp hx).1
      simpa [numL] using this
    obtain ⟨t, ht, e⟩ := (hm os[n]).mp (List.getElem_mem hn)
    have hd : d = .p (.int (maskOf (hasK rs t) rs.length : Nat)) := by
      unfold numL at hx
      rw [List.getElem?_map, List.getElem?_eq_getElem hn, e] at hx
      exact (Option.some.inj hx).symm
    subst hd
    have eo : os[n]? = some ((maskOf (hasK rs t) rs.length : Nat) : Int) := by rw [List.getElem?_eq_getElem hn, e]
    have lw := x_lowest rs t (M ++ [O.dk (setK ks)])
    have tf := x_told_first (G.pfx (pS (O.dk (setK ks)))) t
    have eqm : ∀ t', os[n]? = some ((maskOf (hasK rs t') rs.length : Nat) : Int) → maskOf (hasK rs t') rs.length = maskOf (hasK rs t) rs.length := fun t' z => by
      rw [eo] at z
      exact (Int.ofNat.inj (Option.some.inj z)).symm
    unfold fstI at lw
    obtain ⟨m, hmq⟩ : ∃ m, m = maskOf (hasK rs t) rs.length := ⟨_, rfl⟩
    rw [← hmq] at lw tf ⊢
    by_cases c : ∃ k, fstR rs t = some k ∧ diffB rs t k = true
    · obtain ⟨k, q, c2⟩ := c
      rw [q] at lw tf
      simp only [c2] at tf
      have pu := put_last M ks (k : Nat) (by omega)
      refine ⟨_, [some (.ref g), some (.ref l), some (.p (.int (rs.length : Nat))), some (.ref M.length), some (.p (.int m)), none], insI ks (k : Nat), rfl, by simp [s_idle_numbers_2, s_idle_numbers_1, tf, lw, pu], ⟨_, rfl⟩, nodup_insI q1 _, len_insI _ _, fun x => ?_⟩
      rw [mem_insI]
      constructor
      · rintro (z | z)
        · exact .inl z
        · exact .inr ⟨t, ht, eo, k, q, c2, z⟩
      · rintro (z | ⟨t', _, z, k', z2, _, z3⟩)
        · exact .inl z
        · rw [mask_fst (eqm t' z), q] at z2
          cases z2
          exact .inr z3
    · have tf2 : F_is_told_by_first [.ref g, .p (.int m)] (M ++ [O.dk (setK ks)]) = .ok (.p (.bl false)) (M ++ [O.dk (setK ks)]) := by
        rw [tf]
        cases q : fstR rs t with
        | none => rfl
        | some k =>
          cases c2 : diffB rs t k with
          | false => simp [c2]
          | true => exact absurd ⟨k, q, c2⟩ c
      refine ⟨_, [some (.ref g), some (.ref l), some (.p (.int (rs.length : Nat))), some (.ref M.length), some (.p (.int m)), none], ks, rfl, by simp [s_idle_numbers_2, tf2], ⟨_, rfl⟩, q1, by omega, fun x => ?_⟩
      constructor
      · exact .inl
      · rintro (z | ⟨t', _, z, k', z2, z3, _⟩)
        · exact z
        · rw [mask_fst (eqm t' z)] at z2
          rw [mask_diff (eqm t' z)] at z3
          exact absurd ⟨k', z2, z3⟩ c) [] [some (.ref g), some (.ref l), some (.p (.int (rs.length : Nat))), some (.ref M.length), none, none] List.nodup_nil (Nat.le_refl _) ⟨none, rfl⟩
  have hk : ∀ k : Nat, (k : Int) ∈ ks ↔ needB rs k = true := fun k => by
    rw [k5, need_iff]
    constructor
    · rintro (z | ⟨n, hn, t, ht, _, k', z, z2, e⟩)
      · cases z
      · have : k = k' := by omega
        subst this
        exact ⟨t, ht, z, z2⟩
    · rintro ⟨t, ht, z, z2⟩
      obtain ⟨n, hn, e⟩ := List.mem_iff_getElem.mp ((hm _).mpr ⟨t, ht, rfl⟩)
      exact .inr ⟨n, by simpa [numL] using hn, t, ht, by rw [List.getElem?_eq_getElem hn, e], k, z, z2, rfl⟩
  obtain ⟨M1, hM1⟩ : ∃ M1 : Store, M1 = M ++ [O.dk (setK ks)] := ⟨_, rfl⟩
  have p1 : M <+: M1 := by rw [hM1]; exact List.prefix_append _ _
  have g1 : M1[M.length]? = some (.dk (setK ks)) := by rw [hM1]; exact get_new _ _
  have er := rng1_len rs.length (by omega)
  have key := lc_nums (g := gNm 5) (tt := rTst asBool (rBin dNotInD (rVar 5) (rVar 3))) (te := rVar 5) (ρ := wipeE [some (.ref g), some (.ref l), some (.p (.int (rs.length : Nat))), some (.ref M.length), y2, none] [5]) (fun k => !needB rs k) rs.length M1 (by omega) (by
    intro k hk2 ys
    have nd := v_dnotin (i := (k : Int)) (get_app g1 [O.lst ys])
    have e : (valD (setK ks) (.inl (k : Int))).isSome = needB rs k := by
      rw [val_setK]
      by_cases c : (k : Int) ∈ ks
      · rw [if_pos c, (hk k).mp c]
        rfl
      · rw [if_neg c]
        have : needB rs k = false := by
          rw [Bool.eq_false_iff]
          exact fun z => c ((hk k).mpr z)
        rw [this]
        rfl
    rw [e] at nd
    exact ⟨_, rfl, by simp [wipeE, nd, asBool], fun _ => by simp [wipeE]⟩)
  have tn := tup_nums (get_new M1 (O.lst (numsL (fun k => !needB rs k) rs.length)))
  have pf := pfx_app p1 [O.lst (numsL (fun k => !needB rs k) rs.length)]
  refine ⟨_, pf, selfF_ok ?_ (pfx_len pf)⟩
  have e0 : (O.dk (setK [])) = O.dk [] := rfl
  rw [e0] at wk k1
  rw [← hM1] at k1
  simp [wipeE] at key
  simp [m_idle_numbers, s_idle_numbers_3, s_idle_numbers_4, s_idle_numbers_5, wk, k1, er, wipeE, key, tn]
-- slots: 0:rules 1:grid
noncomputable def m_hidden  : RS :=
  (rSeq (rSet 1 (rCallN 1 F_looked_at (rCons (rVar 0) rNil)))
  (rRet (rCallN 2 F_hidden_numbers (rCons (rMeth "Grid" "distinct" 1 F_Grid_distinct (rVar 1) rNil) (rCons (rCB cLen (rCons (rVar 0) rNil)) rNil)))))

noncomputable def F_hidden : List D → Store → R D := selfF 2 m_hidden
theorem r_hidden : Ref 1 2 F_hidden m_hidden := ref_self 1 2 m_hidden
theorem masks_of {rs : List Rl} {os : List Int} (h : ∀ x : Int, x ∈ os ↔ ∃ q : Nat × Nat × Nat, (q.1 < (cutsI 0 rs).length ∧ q.2.1 < (cutsI 1 rs).length ∧ q.2.2 < (cutsI 2 rs).length) ∧ x = (maskOf (hasK rs (cornT (cutsI 0 rs) (cutsI 1 rs) (cutsI 2 rs) q)) rs.length : Nat)) : Masks rs os := fun x => by
  rw [h]
  constructor
  · rintro ⟨q, hq, rfl⟩
    exact ⟨_, mem_allT.mpr ⟨q, hq, rfl⟩, rfl⟩
  · rintro ⟨t, ht, rfl⟩
    obtain ⟨q, hq, rfl⟩ := mem_allT.mp ht
    exact ⟨q, hq, rfl⟩
theorem x_hidden (rs : List Rl) (h : ∀ r ∈ rs, r.Ok) (hr : rs.length ≤ 40) (hb : boxF rs) (M : Store) : ∃ M', M <+: M' ∧ F_hidden [.p (wallP rs)] M = .ok (.p (numsP (fun k => !showB rs k) rs.length)) M' := by
  obtain ⟨M1, g, p1, e1, G⟩ := x_looked_at rs h hr hb M
  obtain ⟨M2, l, os, p2, e2, g2, l2, hm⟩ := x_distinct G hb (cutsI_pos 2 rs)
  obtain ⟨M3, p3, e3⟩ := x_hidden_numbers rs M2 l os g2 l2 (masks_of hm) (by omega)
  obtain ⟨_, _, _, _, h11, _⟩ := G.is_
  have n1 := v_insC (m := "distinct") h11 (look_no _ _ _ _ _ (by decide +kernel) (by decide +kernel) (by decide +kernel) (by decide +kernel))
  have pf := (p1.trans p2).trans p3
  have jl : ∀ S, cLen [.p (wallP rs)] S = some (.p (.int (rs.length : Nat)), S) := fun S => by simp [wallP]
  exact ⟨M3, pf, selfF_ok (by simp [m_hidden, e1, n1, e2, jl, e3]) (pfx_len pf)⟩
theorem x_hidden_many (rs : List Rl) (h : ∀ r ∈ rs, r.Ok) (h4 : rs.length ≤ 400) (hr : 40 < rs.length) (M : Store) : F_hidden [.p (wallP rs)] M = .ex "TooMany" (some [("what", .p (.str "rules"))]) M :=
  selfF_ex (by simp [m_hidden, x_looked_many rs h h4 hr M]) (Nat.le_refl _)
theorem x_hidden_bad (d : D) (M : Store) (h : F_check_rules [d] M = .ex "BadRules" none M) : F_hidden [d] M = .ex "BadRules" none M := by
  have e : F_looked_at [d] M = .ex "BadRules" none M := selfF_ex (by simp [m_looked_at, s_looked_at_1, h]) (Nat.le_refl _)
  exact selfF_ex (by simp [m_hidden, e]) (Nat.le_refl _)
-- slots: 0:rules 1:grid
noncomputable def m_idle  : RS :=
  (rSeq (rSet 1 (rCallN 1 F_looked_at (rCons (rVar 0) rNil)))
  (rRet (rCallN 3 F_idle_numbers (rCons (rVar 1) (rCons (rMeth "Grid" "distinct" 1 F_Grid_distinct (rVar 1) rNil) (rCons (rCB cLen (rCons (rVar 0) rNil)) rNil))))))

noncomputable def F_idle : List D → Store → R D := selfF 2 m_idle
theorem r_idle : Ref 1 2 F_idle m_idle := ref_self 1 2 m_idle
theorem x_idle (rs : List Rl) (h : ∀ r ∈ rs, r.Ok) (hr : rs.length ≤ 40) (hb : boxF rs) (M : Store) : ∃ M', M <+: M' ∧ F_idle [.p (wallP rs)] M = .ok (.p (numsP (fun k => !needB rs k) rs.length)) M' := by
  obtain ⟨M1, g, p1, e1, G⟩ := x_looked_at rs h hr hb M
  obtain ⟨M2, l, os, p2, e2, g2, l2, hm⟩ := x_distinct G hb (cutsI_pos 2 rs)
  obtain ⟨M3, p3, e3⟩ := x_idle_numbers (G.pfx p2) l os g2 l2 (masks_of hm) (by omega)
  obtain ⟨_, _, _, _, h11, _⟩ := G.is_
  have n1 := v_insC (m := "distinct") h11 (look_no _ _ _ _ _ (by decide +kernel) (by decide +kernel) (by decide +kernel) (by decide +kernel))
  have pf := (p1.trans p2).trans p3
  have jl : ∀ S, cLen [.p (wallP rs)] S = some (.p (.int (rs.length : Nat)), S) := fun S => by simp [wallP]
  exact ⟨M3, pf, selfF_ok (by simp [m_idle, e1, n1, e2, jl, e3]) (pfx_len pf)⟩
theorem x_idle_many (rs : List Rl) (h : ∀ r ∈ rs, r.Ok) (h4 : rs.length ≤ 400) (hr : 40 < rs.length) (M : Store) : F_idle [.p (wallP rs)] M = .ex "TooMany" (some [("what", .p (.str "rules"))]) M :=
  selfF_ex (by simp [m_idle, x_looked_many rs h h4 hr M]) (Nat.le_refl _)
theorem x_idle_bad (d : D) (M : Store) (h : F_check_rules [d] M = .ex "BadRules" none M) : F_idle [d] M = .ex "BadRules" none M := by
  have e : F_looked_at [d] M = .ex "BadRules" none M := selfF_ex (by simp [m_looked_at, s_looked_at_1, h]) (Nat.le_refl _)
  exact selfF_ex (by simp [m_idle, e]) (Nat.le_refl _)

-- slots: 0:rules 1:triple 2:at 3:k
noncomputable def s__law_next_1  : RS :=
  (rRet (rC (.p (.int 0))))
noncomputable def s__law_next_2  : RS :=
  (rSet 3 (rCallN 2 F__law_first (rCons (rSl (rVar 0) (rPart (rBin dAdd (rVar 2) (rC (.p (.int 1))))) rNoPart) (rCons (rVar 1) rNil))))
noncomputable def s__law_next_3  : RS :=
  (rIfS (rTst asBool (rBin dLt (rVar 3) (rC (.p (.int 0)))))
  s__law_next_1
  rSkip)
noncomputable def s__law_next_4  : RS :=
  (rRet (rBin dIx (rBin dIx (rVar 0) (rBin dAdd (rBin dAdd (rVar 2) (rC (.p (.int 1)))) (rVar 3))) (rC (.p (.int 0)))))
noncomputable def m__law_next  : RS :=
  (rSeq s__law_next_2
  (rSeq s__law_next_3
  s__law_next_4))

noncomputable def F__law_next : List D → Store → R D := selfF 4 m__law_next
theorem r__law_next : Ref 3 4 F__law_next m__law_next := ref_self 3 4 m__law_next
theorem sl_dropN (rs : List Rl) (k : Nat) (h : k ≤ rs.length) (M : Store) : dSl (.p (wallP rs)) (some (k : Int)) none M = some (.p (wallP (rs.drop k)), M) := by
  show some (D.p (.tup (cutL (rs.map Rl.P) (some (k : Int)) none)), M) = _
  rw [cut_drop _ _ (by simpa using h), ← List.map_drop]
  rfl
theorem bit_val {rs : List Rl} (h : ∀ r ∈ rs, r.Ok) {k : Nat} (hk : k < rs.length) (M : Store) : dIx (.p rs[k].P) (.p (.int 0)) M = some (.p (.int (if bitK rs k then 1 else 0)), M) := by
  have hb := (h _ (List.getElem_mem hk)).b
  have e : (if bitK rs k then (1 : Int) else 0) = (rs[k].b : Int) := by
    unfold bitK
    rw [List.getElem?_eq_getElem hk]
    by_cases c : rs[k].b = 0
    · simp [c]
    · have : rs[k].b = 1 := by omega
      simp [this]
  rw [e]
  rfl
theorem x_law_next (rs : List Rl) (h : ∀ r ∈ rs, r.Ok) (hl : rs.length ≤ 1000) (t : Tr) (k : Nat) (hk : k < rs.length) (M : Store) :
    F__law_next [.p (wallP rs), .p t.P, .p (.int (k : Nat))] M = .ok (.p (.int (if letR (rs.drop (k + 1)) t then 1 else 0))) M := by
  have sl := sl_dropN rs (k + 1) (by omega) M
  have f := x_law_first (rs.drop (k + 1)) (by rw [List.length_drop]; omega) t M
  have sl' : dSl (.p (wallP rs)) (some ((k : Int) + 1)) none M = some (.p (wallP (rs.drop (k + 1))), M) := sl
  refine selfF_ok ?_ (Nat.le_refl _)
  unfold fstI at f
  unfold letR letsF
  rw [show fstR (rs.drop (k + 1)) t = firstF (hasK (rs.drop (k + 1)) t) (rs.drop (k + 1)).length from rfl] at f
  cases q : firstF (hasK (rs.drop (k + 1)) t) (rs.drop (k + 1)).length with
  | none =>
    rw [q] at f
    simp [m__law_next, s__law_next_2, s__law_next_3, s__law_next_1, sl', asPart, f]
  | some m =>
    rw [q] at f
    have hm := (firstF_some.mp q).1
    rw [List.length_drop] at hm
    have hlt : k + 1 + m < rs.length := by omega
    have i1 := ix_wall rs (k + 1 + m) hlt M
    rw [show ((k + 1 + m : Nat) : Int) = (k : Int) + 1 + (m : Int) by omega] at i1
    have i2 := bit_val h hlt M
    have e : bitK (rs.drop (k + 1)) m = bitK rs (k + 1 + m) := bitK_drop rs (k + 1) m
    rw [← e] at i2
    obtain ⟨r, hr⟩ : ∃ r, r = rs[k + 1 + m] := ⟨_, rfl⟩
    rw [← hr] at i1 i2
    have c : ¬ ((m : Int) < 0) := by omega
    simp [m__law_next, s__law_next_2, s__law_next_3, s__law_next_4, sl', asPart, f, i1, i2, c, -v_ix_t]
-- slots: 0:rules 1:first 2:needed 3:triple 4:gone 5:at 6:k
noncomputable def s__law_sorted_out_1  : RS :=
  (rExpr (rLM mAppend (rVar 1) (rCons (rVar 5) rNil)))
noncomputable def s__law_sorted_out_2  : RS :=
  (rExpr (rLM mAppend (rVar 2) (rCons (rVar 5) rNil)))
noncomputable def s__law_sorted_out_3  : RS :=
  (rSet 5 (rCallN 2 F__law_first (rCons (rVar 0) (rCons (rVar 3) rNil))))
noncomputable def s__law_sorted_out_4  : RS :=
  (rIfS (rtAnd (rTst asBool (rBin dGe (rVar 5) (rC (.p (.int 0))))) (rTst asBool (rBin dNotInX (rVar 5) (rVar 1))))
  s__law_sorted_out_1
  rSkip)
noncomputable def s__law_sorted_out_5  : RS :=
  (rIfS (rtAnd (rTst asBool (rBin dGe (rVar 5) (rC (.p (.int 0))))) (rtAnd (rTst asBool (rBin dNotInX (rVar 5) (rVar 2))) (rTst asBool (rBin dNe (rCallN 3 F__law_next (rCons (rVar 0) (rCons (rVar 3) (rCons (rVar 5) rNil)))) (rBin dIx (rBin dIx (rVar 0) (rVar 5)) (rC (.p (.int 0))))))))
  s__law_sorted_out_2
  rSkip)
noncomputable def b__law_sorted_out_6  : RS :=
  (rSeq s__law_sorted_out_3
  (rSeq s__law_sorted_out_4
  s__law_sorted_out_5))
noncomputable def s__law_sorted_out_7  : RS :=
  (rSet 1 (rLst rNil))
noncomputable def s__law_sorted_out_8  : RS :=
  (rSet 2 (rLst rNil))
noncomputable def s__law_sorted_out_9  : RS :=
  (rFor (rCallN 1 F__law_triples (rCons (rVar 0) rNil)) (gNm 3)
  b__law_sorted_out_6)
noncomputable def s__law_sorted_out_10  : RS :=
  (rSet 4 (rCB cTuple (rCons (rLC (wRng rng1 (rCons (rCB cLen (rCons (rVar 0) rNil)) rNil)) (gNm 6) (rTst asBool (rBin dNotInX (rVar 6) (rVar 1))) (rVar 6) [6]) rNil)))
noncomputable def s__law_sorted_out_11  : RS :=
  (rRet (rTup (rCons (rVar 4) (rCons (rCB cTuple (rCons (rLC (wRng rng1 (rCons (rCB cLen (rCons (rVar 0) rNil)) rNil)) (gNm 6) (rTst asBool (rBin dNotInX (rVar 6) (rVar 2))) (rVar 6) [6]) rNil)) rNil))))
noncomputable def m__law_sorted_out  : RS :=
  (rSeq s__law_sorted_out_7
  (rSeq s__law_sorted_out_8
  (rSeq s__law_sorted_out_9
  (rSeq s__law_sorted_out_10
  s__law_sorted_out_11))))

noncomputable def F__law_sorted_out : List D → Store → R D := selfF 7 m__law_sorted_out
theorem r__law_sorted_out : Ref 1 7 F__law_sorted_out m__law_sorted_out := ref_self 1 7 m__law_sorted_out
theorem diff_next (rs : List Rl) (t : Tr) (k : Nat) (hk : k < rs.length) : diffB rs t k = (letR (rs.drop (k + 1)) t != bitK rs k) := by
  unfold diffB
  rw [lets_next rs t k hk]
/-- one triple -/
theorem sorted_turn (rs : List Rl) (h : ∀ r ∈ rs, r.Ok) (hr : rs.length ≤ 1000) (t : Tr) (M0 M : Store) (q0 : M0 <+: M) (lf ln : Nat) (A B : List Int) (gf : M[lf]? = some (.lst (numL A))) (gn : M[ln]? = some (.lst (numL B))) (hf : M0.length ≤ lf) (hn : M0.length ≤ ln) (hne : lf ≠ ln) (la : A.length ≤ 100000) (lb : B.length ≤ 100000) (x4 x5 x6 : Option D) :
    ∃ M' A' B' y5, M0 <+: M' ∧ (∀ l, l ≠ lf → l ≠ ln → M'[l]? = M[l]?) ∧ M'[lf]? = some (.lst (numL A')) ∧ M'[ln]? = some (.lst (numL B')) ∧ A'.length ≤ A.length + 1 ∧ B'.length ≤ B.length + 1 ∧ (∀ x : Int, x ∈ A' ↔ x ∈ A ∨ ∃ k : Nat, fstR rs t = some k ∧ x = k) ∧ (∀ x : Int, x ∈ B' ↔ x ∈ B ∨ ∃ k : Nat, fstR rs t = some k ∧ diffB rs t k = true ∧ x = k) ∧
      b__law_sorted_out_6 [some (.p (wallP rs)), some (.ref lf), some (.ref ln), some (.p t.P), x4, x5, x6] M = .nx [some (.p (wallP rs)), some (.ref lf), some (.ref ln), some (.p t.P), x4, y5, x6] M' := by
  have f := x_law_first rs (by omega) t M
  unfold fstI at f
  cases q : fstR rs t with
  | none =>
    rw [q] at f
    refine ⟨M, A, B, some (.p (.int (-1))), q0, fun l _ _ => rfl, gf, gn, by omega, by omega, fun x => by simp, fun x => by simp, ?_⟩
    simp [b__law_sorted_out_6, s__law_sorted_out_3, s__law_sorted_out_4, s__law_sorted_out_5, f]
  | some k =>
    rw [q] at f
    have hk : k < rs.length := (firstF_some.mp q).1
    have c0 : (0 : Int) ≤ (k : Int) := by omega
    have nA := v_notIn_ints (k : Int) lf A M gf
    -- the first list
    obtain ⟨M1, A', r1, r2, r3, r4, r5, r6⟩ : ∃ M1 A', M0 <+: M1 ∧ (∀ l, l ≠ lf → M1[l]? = M[l]?) ∧ M1[lf]? = some (.lst (numL A')) ∧ A'.length ≤ A.length + 1 ∧ (∀ x : Int, x ∈ A' ↔ x ∈ A ∨ x = k) ∧
        s__law_sorted_out_4 [some (.p (wallP rs)), some (.ref lf), some (.ref ln), some (.p t.P), x4, some (.p (.int (k : Nat))), x6] M = .nx [some (.p (wallP rs)), some (.ref lf), some (.ref ln), some (.p t.P), x4, some (.p (.int (k : Nat))), x6] M1 := by
      by_cases c : (k : Int) ∈ A
      · refine ⟨M, A, q0, fun l _ => rfl, gf, by omega, fun x => ⟨.inl, fun z => z.elim id fun e => by rw [e]; exact c⟩, ?_⟩
        simp [s__law_sorted_out_4, nA, c]
      · have isl := isLst_ref lf _ M gf
        have ap := v_append lf _ (.p (.int (k : Nat))) M gf (lt_line (by simp [numL]; omega))
        rw [show numL A ++ [.p (.int (k : Nat))] = numL (A ++ [(k : Int)]) by simp [numL]] at ap
        refine ⟨M.set lf (.lst (numL (A ++ [(k : Int)]))), A ++ [(k : Int)], pfx_set q0 hf _, fun l hl => List.getElem?_set_ne (Ne.symm hl), List.getElem?_set_self (get_lt gf), by simp, fun x => by simp, ?_⟩
        simp [s__law_sorted_out_4, s__law_sorted_out_1, nA, c, isl, ap]
    have gn1 : M1[ln]? = some (.lst (numL B)) := by rw [r2 ln (Ne.symm hne)]; exact gn
    have nB := v_notIn_ints (k : Int) ln B M1 gn1
    have nx := x_law_next rs h hr t k hk M1
    have i1 := ix_wall rs k hk M1
    have i2 := bit_val h hk M1
    have dn := diff_next rs t k hk
    obtain ⟨r, hrr⟩ : ∃ r, r = rs[k] := ⟨_, rfl⟩
    rw [← hrr] at i1 i2
    obtain ⟨b1, hb1⟩ : ∃ b, b = letR (rs.drop (k + 1)) t := ⟨_, rfl⟩
    obtain ⟨b2, hb2⟩ : ∃ b, b = bitK rs k := ⟨_, rfl⟩
    rw [← hb1] at nx dn
    rw [← hb2] at i2 dn
    have ne : dNe (.p (.int (if b1 then 1 else 0))) (.p (.int (if b2 then 1 else 0))) M1 = some (.p (.bl (diffB rs t k)), M1) := by
      rw [dn]
      cases b1 <;> cases b2 <;> simp [dNe, dOk, P.depth]
    have s3 : s__law_sorted_out_3 [some (.p (wallP rs)), some (.ref lf), some (.ref ln), some (.p t.P), x4, x5, x6] M = .nx [some (.p (wallP rs)), some (.ref lf), some (.ref ln), some (.p t.P), x4, some (.p (.int (k : Nat))), x6] M := by simp [s__law_sorted_out_3, f]
    by_cases c : (k : Int) ∈ B ∨ diffB rs t k = false
    · refine ⟨M1, A', B, some (.p (.int (k : Nat))), r1, fun l hl _ => r2 l hl, r3, gn1, r4, by omega, fun x => by rw [r5]; simp, fun x => ⟨.inl, fun z => ?_⟩, ?_⟩
      · rcases z with z | ⟨k', z1, z2, z3⟩
        · exact z
        · cases z1
          rcases c with c | c
          · rw [z3]; exact c
          · rw [c] at z2; cases z2
      · unfold b__law_sorted_out_6
        rw [e_seq, s3, Out.bind_nx, e_seq, r6, Out.bind_nx]
        rcases c with c | c
        · simp [s__law_sorted_out_5, nB, c]
        · rw [c] at ne
          by_cases c2 : (k : Int) ∈ B
          · simp [s__law_sorted_out_5, nB, c2]
          · simp [s__law_sorted_out_5, nB, c2, nx, i1, i2, ne, -v_ix_t]
    · have c1 : ¬ (k : Int) ∈ B := fun z => c (.inl z)
      have c2 : diffB rs t k = true := by
        cases z : diffB rs t k with
        | true => rfl
        | false => exact absurd (.inr z) c
      rw [c2] at ne
      have isl := isLst_ref ln _ M1 gn1
      have ap := v_append ln _ (.p (.int (k : Nat))) M1 gn1 (lt_line (by simp [numL]; omega))
      rw [show numL B ++ [.p (.int (k : Nat))] = numL (B ++ [(k : Int)]) by simp [numL]] at ap
      refine ⟨M1.set ln (.lst (numL (B ++ [(k : Int)]))), A', B ++ [(k : Int)], some (.p (.int (k : Nat))), pfx_set r1 hn _, fun l h1 h2 => by rw [List.getElem?_set_ne (Ne.symm h2)]; exact r2 l h1, by rw [List.getElem?_set_ne (Ne.symm hne)]; exact r3, List.getElem?_set_self (get_lt gn1), r4, by simp, fun x => by rw [r5]; simp, fun x => ?_, ?_⟩
      · simp [c2]
      · unfold b__law_sorted_out_6
        rw [e_seq, s3, Out.bind_nx, e_seq, r6, Out.bind_nx]
        simp [s__law_sorted_out_5, s__law_sorted_out_2, nB, c1, nx, i1, i2, ne, isl, ap, -v_ix_t]
/-- the numbers that are not in a list -/
theorem lc_notin (p : Nat → Bool) (n : Nat) (M : Store) (hl : n ≤ 100000) (l : Nat) (A : List Int) (g : M[l]? = some (.lst (numL A))) (hA : ∀ k : Nat, (k : Int) ∈ A ↔ p k = true) (i j : Nat) (ρ : Fl.Env) (hj : j < ρ.length) (hij : i ≠ j) (hi : ρ[i]? = some (some (.ref l))) :
    lcL M.length none (gNm j) (rTst asBool (rBin dNotInX (rVar j) (rVar i))) (rVar j) ρ (intsD 0 n) (M ++ [.lst []]) = .ok (.ref M.length) (M ++ [.lst (numsL (fun k => !p k) n)]) := by
  refine lc_nums (fun k => !p k) n M hl fun k hk ys => ?_
  have nd := v_notIn_ints (k : Int) l A (M ++ [O.lst ys]) (get_app g _)
  have e : decide ((k : Int) ∈ A) = p k := by
    rw [Bool.eq_iff_iff, decide_eq_true_eq]
    exact hA k
  rw [e] at nd
  have gi : (ρ.set j (some (.p (.int (k : Nat)))))[i]? = some (some (.ref l)) := by rw [List.getElem?_set_ne (Ne.symm hij)]; exact hi
  have gj : (ρ.set j (some (.p (.int (k : Nat)))))[j]? = some (some (.p (.int (k : Nat)))) := List.getElem?_set_self hj
  refine ⟨_, rfl, ?_, fun _ => ?_⟩
  · simp only [rTst, e_bin, e_var, gi, gj, R.bind_ok, nd, ofO, asBool]
  · simp only [e_var, gj]
theorem x_sorted_out (rs : List Rl) (h : ∀ r ∈ rs, r.Ok) (hr : rs.length ≤ 1000) (hb : boxF rs) (M : Store) :
    ∃ M', M <+: M' ∧ F__law_sorted_out [.p (wallP rs)] M = .ok (.p (.tup [numsP (fun k => !showB rs k) rs.length, numsP (fun k => !needB rs k) rs.length])) M' := by
  obtain ⟨M2, hM2⟩ : ∃ M2 : Store, M2 = M ++ [O.lst []] ++ [O.lst []] := ⟨_, rfl⟩
  have p2 : M <+: M2 := by rw [hM2, List.append_assoc]; exact List.prefix_append _ _
  obtain ⟨M3, l, p3, e3, g3⟩ := x_law_triples M2 rs h (by omega) hb
  have lT : (allT rs).length ≤ 60000 := by
    unfold allT
    rw [← idx3_corn, List.length_map, idx3_len]
    exact hb
  have l2 : M2.length = M.length + 2 := by rw [hM2]; simp
  have gf : M3[M.length]? = some (.lst (numL [])) := pfx_get p3 (by rw [hM2]; simp [numL])
  have gn : M3[M.length + 1]? = some (.lst (numL [])) := pfx_get p3 (by rw [hM2]; simp [numL])
  have hlT : allT rs = trips (cutsI 0 rs) (cutsI 1 rs) (cutsI 2 rs) := rfl
  rw [← hlT] at g3
  have ne0 : allT rs ≠ [] := fun z => by
    have : cornT (cutsI 0 rs) (cutsI 1 rs) (cutsI 2 rs) (0, 0, 0) ∈ allT rs := mem_allT.mpr ⟨(0, 0, 0), ⟨cutsI_pos 0 rs, cutsI_pos 1 rs, cutsI_pos 2 rs⟩, rfl⟩
    rw [z] at this
    cases this
  have nl : ∀ x, M3[x]? = some (.lst (numL [])) → l ≠ x := fun x gx z => by
    rw [z, gx] at g3
    have g4 : numL [] = trL (allT rs) := O.lst.inj (Option.some.inj g3)
    exact ne0 (List.map_eq_nil_iff.mp g4.symm)
  have nl1 := nl _ gf
  have nl2 := nl _ gn
  have pM : M <+: M3 := p2.trans p3
  have wk := walk_ref l _ _ g3
  obtain ⟨ρ', M4, k1, A, B, y3, y5, q1, q2, q3, q4, q5, q6, q7, q8, rfl⟩ := forL_inv (k := some (l, .lst (trL (allT rs)))) (g := gNm 3) (body := b__law_sorted_out_6) (trL (allT rs)) (fun n ρ M' => ∃ A B y3 y5, M <+: M' ∧ M'[l]? = some (.lst (trL (allT rs))) ∧ M'[M.length]? = some (.lst (numL A)) ∧ M'[M.length + 1]? = some (.lst (numL B)) ∧ A.length ≤ n ∧ B.length ≤ n ∧
      (∀ x : Int, x ∈ A ↔ ∃ t ∈ (allT rs).take n, ∃ k : Nat, fstR rs t = some k ∧ x = k) ∧ (∀ x : Int, x ∈ B ↔ ∃ t ∈ (allT rs).take n, ∃ k : Nat, fstR rs t = some k ∧ diffB rs t k = true ∧ x = k) ∧
      ρ = [some (.p (wallP rs)), some (.ref M.length), some (.ref (M.length + 1)), y3, none, y5, none]) (by
    rintro n ρ M' ⟨A, B, y3, y5, _, g, _⟩
    exact g) (by
    rintro n d ρ M5 hx ⟨A, B, y3, y5, q1, q2, q3, q4, q5, q6, q7, q8, rfl⟩
    have hn : n < (allT rs).length := by
      have := (List.getElem?_eq_some_iff.mp hx).1
      simpa [trL] using this
    obtain ⟨t, ht⟩ : ∃ t, t = (allT rs)[n] := ⟨_, rfl⟩
    have hd : d = .p t.P := by
      unfold trL at hx
      rw [List.getElem?_map, List.getElem?_eq_getElem hn, ← ht] at hx
      exact (Option.some.inj hx).symm
    subst hd
    obtain ⟨M6, A', B', z5, r1, r2, r3, r4, r5, r6, r7, r8, r9⟩ := sorted_turn rs h hr t M M5 q1 M.length (M.length + 1) A B q3 q4 (Nat.le_refl _) (by omega) (by omega) (by omega) (by omega) none y5 none
    have tk : (allT rs).take (n + 1) = (allT rs).take n ++ [t] := by
      rw [List.take_succ, List.getElem?_eq_getElem hn, ← ht]
      rfl
    refine ⟨_, _, _, M6, rfl, .inl r9, A', B', _, z5, r1, by rw [r2 l nl1 nl2]; exact q2, r3, r4, by omega, by omega, fun x => ?_, fun x => ?_, rfl⟩
    · rw [r7, q7, tk]
      constructor
      · rintro (⟨t', a, b⟩ | b)
        · exact ⟨t', List.mem_append_left _ a, b⟩
        · exact ⟨t, List.mem_append_right _ (by simp), b⟩
      · rintro ⟨t', a, b⟩
        rcases List.mem_append.mp a with a | a
        · exact .inl ⟨t', a, b⟩
        · rw [List.mem_singleton.mp a] at b; exact .inr b
    · rw [r8, q8, tk]
      constructor
      · rintro (⟨t', a, b⟩ | b)
        · exact ⟨t', List.mem_append_left _ a, b⟩
        · exact ⟨t, List.mem_append_right _ (by simp), b⟩
      · rintro ⟨t', a, b⟩
        rcases List.mem_append.mp a with a | a
        · exact .inl ⟨t', a, b⟩
        · rw [List.mem_singleton.mp a] at b; exact .inr b) (ρ := [some (.p (wallP rs)), some (.ref M.length), some (.ref (M.length + 1)), none, none, none, none]) (M := M3) ⟨[], [], none, none, pM, g3, gf, gn, Nat.le_refl _, Nat.le_refl _, fun x => by simp, fun x => by simp, rfl⟩
  have lt : (trL (allT rs)).length = (allT rs).length := by simp [trL]
  rw [lt, List.take_length] at q7 q8
  have hA : ∀ k : Nat, (k : Int) ∈ A ↔ showB rs k = true := fun k => by
    rw [q7, show_iff]
    constructor
    · rintro ⟨t, a, k', b, c⟩
      have : k = k' := by omega
      subst this
      exact ⟨t, a, b⟩
    · rintro ⟨t, a, b⟩
      exact ⟨t, a, k, b, rfl⟩
  have hB : ∀ k : Nat, (k : Int) ∈ B ↔ needB rs k = true := fun k => by
    rw [q8, need_iff]
    constructor
    · rintro ⟨t, a, k', b, b2, c⟩
      have : k = k' := by omega
      subst this
      exact ⟨t, a, b, b2⟩
    · rintro ⟨t, a, b, b2⟩
      exact ⟨t, a, k, b, b2, rfl⟩
  have er := rng1_len rs.length (by omega)
  have jl : ∀ S, cLen [.p (wallP rs)] S = some (.p (.int (rs.length : Nat)), S) := fun S => by simp [wallP]
  have c1 := lc_notin (showB rs) rs.length M4 (by omega) M.length A q3 hA 1 6 (wipeE [some (.p (wallP rs)), some (.ref M.length), some (.ref (M.length + 1)), y3, none, y5, none] [6]) (by simp [wipeE]) (by omega) (by simp [wipeE])
  have t1 := tup_nums (get_new M4 (O.lst (numsL (fun k => !showB rs k) rs.length)))
  obtain ⟨M5, hM5⟩ : ∃ M5, M5 = M4 ++ [O.lst (numsL (fun k => !showB rs k) rs.length)] := ⟨_, rfl⟩
  rw [← hM5] at c1 t1
  have p5 : M4 <+: M5 := by rw [hM5]; exact List.prefix_append _ _
  obtain ⟨g4, hg4⟩ : ∃ g4, g4 = numsP (fun k => !showB rs k) rs.length := ⟨_, rfl⟩
  rw [← hg4] at t1 ⊢
  have c2 := lc_notin (needB rs) rs.length M5 (by omega) (M.length + 1) B (pfx_get p5 q4) hB 2 6 (wipeE [some (.p (wallP rs)), some (.ref M.length), some (.ref (M.length + 1)), y3, some (.p g4), y5, none] [6]) (by simp [wipeE]) (by omega) (by simp [wipeE])
  have t2 := tup_nums (get_new M5 (O.lst (numsL (fun k => !needB rs k) rs.length)))
  have pf : M <+: M5 ++ [O.lst (numsL (fun k => !needB rs k) rs.length)] := pfx_app (q1.trans p5) _
  refine ⟨_, pf, selfF_ok ?_ (pfx_len pf)⟩
  have sd : startD 7 [.p (wallP rs)] = [some (.p (wallP rs)), none, none, none, none, none, none] := rfl
  have s7 : s__law_sorted_out_7 [some (.p (wallP rs)), none, none, none, none, none, none] M = .nx [some (.p (wallP rs)), some (.ref M.length), none, none, none, none, none] (M ++ [O.lst []]) := by simp [s__law_sorted_out_7]
  have s8 : s__law_sorted_out_8 [some (.p (wallP rs)), some (.ref M.length), none, none, none, none, none] (M ++ [O.lst []]) = .nx [some (.p (wallP rs)), some (.ref M.length), some (.ref (M.length + 1)), none, none, none, none] M2 := by
    rw [hM2]
    simp [s__law_sorted_out_8]
  have s9 : s__law_sorted_out_9 [some (.p (wallP rs)), some (.ref M.length), some (.ref (M.length + 1)), none, none, none, none] M2 = .nx [some (.p (wallP rs)), some (.ref M.length), some (.ref (M.length + 1)), y3, none, y5, none] M4 := by
    simp [s__law_sorted_out_9, e3, wk, k1]
  simp [wipeE] at c1 c2
  have s10 : s__law_sorted_out_10 [some (.p (wallP rs)), some (.ref M.length), some (.ref (M.length + 1)), y3, none, y5, none] M4 = .nx [some (.p (wallP rs)), some (.ref M.length), some (.ref (M.length + 1)), y3, some (.p g4), y5, none] M5 := by
    simp [s__law_sorted_out_10, jl, er, wipeE, c1, t1]
  unfold m__law_sorted_out
  rw [sd, e_seq, s7, Out.bind_nx, e_seq, s8, Out.bind_nx, e_seq, s9, Out.bind_nx, e_seq, s10, Out.bind_nx]
  simp [s__law_sorted_out_11, jl, er, wipeE, c2, t2, mkTup, allP]
-- slots: 0:rules 1:due
noncomputable def s__law_holds_1  : RS :=
  (rSet 1 (rCallN 1 F__law_sorted_out (rCons (rVar 0) rNil)))
noncomputable def s__law_holds_2  : RS :=
  (rRet (rAnd (rCallN 2 (Fp_like 9) (rCons (rCallN 1 F_hidden (rCons (rVar 0) rNil)) (rCons (rBin dIx (rVar 1) (rC (.p (.int 0)))) rNil))) (rCallN 2 (Fp_like 9) (rCons (rCallN 1 F_idle (rCons (rVar 0) rNil)) (rCons (rBin dIx (rVar 1) (rC (.p (.int 1)))) rNil)))))
noncomputable def m__law_holds  : RS :=
  (rSeq s__law_holds_1
  s__law_holds_2)

noncomputable def F__law_holds : List D → Store → R D := selfF 2 m__law_holds
theorem r__law_holds : Ref 1 2 F__law_holds m__law_holds := ref_self 1 2 m__law_holds
theorem x_holds (rs : List Rl) (h : ∀ r ∈ rs, r.Ok) (hr : rs.length ≤ 40) (hb : boxF rs) (M : Store) : ∃ M', M <+: M' ∧ F__law_holds [.p (wallP rs)] M = .ok (.p (.bl true)) M' := by
  obtain ⟨M1, p1, e1⟩ := x_sorted_out rs h (by omega) hb M
  obtain ⟨M2, p2, e2⟩ := x_hidden rs h hr hb M1
  obtain ⟨M3, p3, e3⟩ := x_idle rs h hr hb M2
  obtain ⟨A, hA⟩ : ∃ A, A = numsP (fun k => !showB rs k) rs.length := ⟨_, rfl⟩
  obtain ⟨B, hB⟩ : ∃ A, A = numsP (fun k => !needB rs k) rs.length := ⟨_, rfl⟩
  have f1 := like_ok A (by rw [hA]; exact fit_nums _ _ (by omega)) M2
  have f2 := like_ok B (by rw [hB]; exact fit_nums _ _ (by omega)) M3
  rw [← hA, ← hB] at e1
  rw [← hA] at e2
  rw [← hB] at e3
  have i0 : ∀ S, dIx (.p (.tup [A, B])) (.p (.int 0)) S = some (.p A, S) := fun S => rfl
  have i1 : ∀ S, dIx (.p (.tup [A, B])) (.p (.int 1)) S = some (.p B, S) := fun S => rfl
  have pf := (p1.trans p2).trans p3
  exact ⟨M3, pf, selfF_ok (by simp [m__law_holds, s__law_holds_1, s__law_holds_2, e1, e2, e3, i0, i1, f1, f2, truthD, -v_ix_t]) (pfx_len pf)⟩

/-! ### the drawn points and rules of a law, whatever its slots are -/
theorem x_pts3 (ρ : Fl.Env) (M : Store) (i ln n : Nat) (xs : List Int) (hi : ρ[i]? = some (some (.ref ln))) (g1 : M[ln]? = some (.lst (numL xs))) (n1 : Nums xs n) (hn : 0 < n) :
    ∃ M' l, M <+: M' ∧ PtsAt M' l ∧ rLst (rCons (rCallN 3 F__law_points (rCons (rVar i) (rCons (rC (.p (.int 0))) (rCons (rC (.p (.int 3))) rNil)))) (rCons (rCallN 3 F__law_points (rCons (rVar i) (rCons (rC (.p (.int 6))) (rCons (rC (.p (.int 2))) rNil)))) (rCons (rCallN 3 F__law_points (rCons (rVar i) (rCons (rC (.p (.int 10))) (rCons (rC (.p (.int 2))) rNil)))) rNil))) ρ M = .ok (.ref l) M' := by
  obtain ⟨C1, l0, ps0, a1, a2, a3, a4, a5, _⟩ := x_law_points M ln n xs g1 n1 hn 0 3 (by omega) (by omega)
  obtain ⟨C2, l1, ps1, b1, b2, b3, b4, b5, _⟩ := x_law_points C1 ln n xs (pfx_get a1 g1) n1 hn 6 2 (by omega) (by omega)
  obtain ⟨C3, l2, ps2, c1, c2, c3, c4, c5, _⟩ := x_law_points C2 ln n xs (pfx_get (a1.trans b1) g1) n1 hn 10 2 (by omega) (by omega)
  obtain ⟨S2, hS2⟩ : ∃ S2 : Store, S2 = C3 ++ [O.lst [.ref l0, .ref l1, .ref l2]] := ⟨_, rfl⟩
  have pC : C3 <+: S2 := by rw [hS2]; exact List.prefix_append _ _
  have hP : PtsAt S2 C3.length := ⟨[.ref l0, .ref l1, .ref l2], by rw [hS2]; exact get_new _ _, fun i hi => by
    match i, hi with
    | 0, _ => exact ⟨l0, ps0, rfl, pfx_get ((b1.trans c1).trans pC) a3, a4, a5⟩
    | 1, _ => exact ⟨l1, ps1, rfl, pfx_get (c1.trans pC) b3, b4, b5⟩
    | 2, _ => exact ⟨l2, ps2, rfl, pfx_get pC c3, c4, c5⟩⟩
  refine ⟨S2, C3.length, ((a1.trans b1).trans c1).trans pC, hP, ?_⟩
  simp at a2 b2 c2
  rw [hS2]
  simp [hi, a2, b2, c2]
theorem x_rls (ns : List Int) (o : O) (ho : o = .ro (numL ns) ∨ o = .lst (numL ns)) (ρ : Fl.Env) (M : Store) (h0 : M[0]? = some o) (hρ : ρ[0]? = some (some (.ref 0))) (i j ln lp at_ : Nat) (xs : List Int) (hi : ρ[i]? = some (some (.ref ln))) (hj : ρ[j]? = some (some (.ref lp))) (g1 : M[ln]? = some (.lst (numL xs))) (n1 : Nums xs 32) (hP : PtsAt M lp) (ha : at_ ≤ 1000) :
    ∃ M' rs, M <+: M' ∧ rs.length ≤ 6 ∧ (∀ r ∈ rs, r.Ok) ∧ rCallN 4 F__law_rules (rCons (rCallN 3 F__law_numbers (rCons (rVar 0) (rCons (rC (.p (.int at_))) (rCons (rC (.p (.int 61))) rNil)))) (rCons (rC (.p (.int 0))) (rCons (rCallN 1 F__law_few (rCons (rBin dIx (rVar i) (rC (.p (.int 14)))) rNil)) (rCons (rVar j) rNil)))) ρ M = .ok (.p (wallP rs)) M' := by
  obtain ⟨ys, n2, p2⟩ := x_numbers ns o ho M h0 at_ 61 ha (by omega)
  obtain ⟨D1, hD1⟩ : ∃ D1 : Store, D1 = M ++ [O.lst (numL ys)] := ⟨_, rfl⟩
  have pD1 : M <+: D1 := by rw [hD1]; exact List.prefix_append _ _
  have gD1 : D1[M.length]? = some (.lst (numL ys)) := by rw [hD1]; exact get_new _ _
  rw [← hD1] at p2
  obtain ⟨v14, h14, _, _⟩ := n1.at (i := 14) (by omega)
  have i14 : dIx (.ref ln) (.p (.int 14)) D1 = some (.p (.int v14), D1) := v_ix_l ln _ 14 _ D1 (pfx_get pD1 g1) (by simp [numL, h14])
  obtain ⟨few, hfew, D2, pD2, eD2⟩ := x_law_few v14 D1
  obtain ⟨D3, us, pD3, hu1, hu2, eD3⟩ := x_law_rules D2 M.length lp 61 ys (pfx_get pD2 gD1) n2 (by omega) (hP.pfx (pD1.trans pD2)) 0 few (by omega)
  refine ⟨D3, us, (pD1.trans pD2).trans pD3, by omega, hu2, ?_⟩
  simp at p2 eD3
  simp [hρ, hi, hj, p2, i14, eD2, eD3]

-- slots: 0:rules 1:numbers 2:kind 3:full 4:at 5:rule
noncomputable def s__law_more_1  : RS :=
  (rRet (rVar 0))
noncomputable def s__law_more_2  : RS :=
  (rRet (rBin dAdd (rVar 0) (rTup (rCons (rBin dIx (rVar 0) (rVar 4)) rNil))))
noncomputable def s__law_more_3  : RS :=
  (rRet (rBin dAdd (rVar 0) (rTup (rCons (rTup (rCons (rC (.p (.int 0))) (rCons (rVar 3) (rCons (rVar 3) (rCons (rVar 3) rNil))))) rNil))))
noncomputable def s__law_more_4  : RS :=
  (rRet (rBin dAdd (rBin dAdd (rSl (rVar 0) rNoPart (rPart (rVar 4))) (rTup (rCons (rBin dIx (rVar 0) (rVar 4)) rNil))) (rSl (rVar 0) (rPart (rVar 4)) rNoPart)))
noncomputable def s__law_more_5  : RS :=
  (rSet 2 (rCallN 3 F__law_pick (rCons (rVar 1) (rCons (rC (.p (.int 0))) (rCons (rC (.p (.int 6))) rNil)))))
noncomputable def s__law_more_6  : RS :=
  (rSet 3 (rTup (rCons (rC (.p (.int 0))) (rCons (rC (.p (.int 99999))) rNil))))
noncomputable def s__law_more_7  : RS :=
  (rIfS (rtOr (rTst asBool (rBin dEq (rCB cLen (rCons (rVar 0) rNil)) (rC (.p (.int 0))))) (rTst asBool (rBin dGt (rVar 2) (rC (.p (.int 3))))))
  s__law_more_1
  rSkip)
noncomputable def s__law_more_8  : RS :=
  (rSet 4 (rCallN 3 F__law_pick (rCons (rVar 1) (rCons (rC (.p (.int 1))) (rCons (rCB cLen (rCons (rVar 0) rNil)) rNil)))))
noncomputable def s__law_more_9  : RS :=
  (rIfS (rTst asBool (rBin dEq (rVar 2) (rC (.p (.int 0)))))
  s__law_more_2
  rSkip)
noncomputable def s__law_more_10  : RS :=
  (rIfS (rTst asBool (rBin dEq (rVar 2) (rC (.p (.int 1)))))
  s__law_more_3
  rSkip)
noncomputable def s__law_more_11  : RS :=
  (rIfS (rTst asBool (rBin dEq (rVar 2) (rC (.p (.int 2)))))
  s__law_more_4
  rSkip)
noncomputable def s__law_more_12  : RS :=
  (rSet 5 (rBin dIx (rVar 0) (rVar 4)))
noncomputable def s__law_more_13  : RS :=
  (rRet (rBin dAdd (rVar 0) (rTup (rCons (rTup (rCons (rBin dSub (rC (.p (.int 1))) (rBin dIx (rVar 5) (rC (.p (.int 0))))) (rCons (rBin dIx (rVar 5) (rC (.p (.int 1)))) (rCons (rTup (rCons (rBin dIx (rBin dIx (rVar 5) (rC (.p (.int 2)))) (rC (.p (.int 0)))) (rCons (rBin dIx (rBin dIx (rVar 5) (rC (.p (.int 2)))) (rC (.p (.int 0)))) rNil))) (rCons (rBin dIx (rVar 5) (rC (.p (.int 3)))) rNil))))) rNil))))
noncomputable def m__law_more  : RS :=
  (rSeq s__law_more_5
  (rSeq s__law_more_6
  (rSeq s__law_more_7
  (rSeq s__law_more_8
  (rSeq s__law_more_9
  (rSeq s__law_more_10
  (rSeq s__law_more_11
  (rSeq s__law_more_12
  s__law_more_13))))))))

noncomputable def F__law_more : List D → Store → R D := selfF 6 m__law_more
theorem r__law_more : Ref 2 6 F__law_more m__law_more := ref_self 2 6 m__law_more
def fullR (b : Nat) : Rl := ⟨b, full, full, full⟩
theorem full_ok : SpOk full := ⟨by decide, by decide⟩
theorem fullR_ok {b : Nat} (hb : b ≤ 1) : (fullR b).Ok := ⟨hb, full_ok, full_ok, full_ok⟩
theorem add_wall1 (rs : List Rl) (r : Rl) (h : rs.length ≤ 100000) (M : Store) : dAdd (.p (wallP rs)) (.p (.tup [r.P])) M = some (.p (wallP (rs ++ [r])), M) := by
  unfold wallP dAdd
  simp only []
  rw [if_pos (le_line (by simp; omega)), List.map_append]
  rfl
theorem sl_take (rs : List Rl) (k : Nat) (h : k ≤ rs.length) (M : Store) : dSl (.p (wallP rs)) none (some (k : Int)) M = some (.p (wallP (rs.take k)), M) := by
  show some (D.p (.tup (cutL (rs.map Rl.P) none (some (k : Int)))), M) = _
  rw [cut_take _ _ (by simpa using h), ← List.map_take]
  rfl
theorem add_wall (rs ss : List Rl) (h : rs.length + ss.length ≤ 100000) (M : Store) : dAdd (.p (wallP rs)) (.p (wallP ss)) M = some (.p (wallP (rs ++ ss)), M) := by
  unfold wallP dAdd
  simp only []
  rw [if_pos (le_line (by simp; omega)), List.map_append]
theorem x_law_more (rs : List Rl) (h : ∀ r ∈ rs, r.Ok) (hl : rs.length ≤ 1000) (M : Store) (ln n : Nat) (xs : List Int) (g : M[ln]? = some (.lst (numL xs))) (hx : Nums xs n) (hn : 0 < n) :
    ∃ ws, ws.length ≤ rs.length + 1 ∧ (∀ r ∈ ws, r.Ok) ∧ F__law_more [.p (wallP rs), .ref ln] M = .ok (.p (wallP ws)) M := by
  obtain ⟨k, hk, e1⟩ := x_pick M ln n xs g hx hn 0 6 (by omega)
  have e1' : F__law_pick [.ref ln, .p (.int 0), .p (.int 6)] M = .ok (.p (.int k)) M := e1
  have jl : ∀ S, cLen [.p (wallP rs)] S = some (.p (.int (rs.length : Nat)), S) := fun S => by simp [wallP]
  have s5 : s__law_more_5 [some (.p (wallP rs)), some (.ref ln), none, none, none, none] M = .nx [some (.p (wallP rs)), some (.ref ln), some (.p (.int k)), none, none, none] M := by simp [s__law_more_5, e1']
  have s6 : s__law_more_6 [some (.p (wallP rs)), some (.ref ln), some (.p (.int k)), none, none, none] M = .nx [some (.p (wallP rs)), some (.ref ln), some (.p (.int k)), some (.p (spP full)), none, none] M := by
    simp [s__law_more_6, mkTup, allP]
    rfl
  have sd : startD 6 [.p (wallP rs), .ref ln] = [some (.p (wallP rs)), some (.ref ln), none, none, none, none] := rfl
  by_cases c : rs.length = 0 ∨ 3 < k
  · refine ⟨rs, by omega, h, selfF_ok ?_ (Nat.le_refl _)⟩
    unfold m__law_more
    rw [sd, e_seq, s5, Out.bind_nx, e_seq, s6, Out.bind_nx]
    rcases c with c | c
    · rw [c] at jl
      simp [s__law_more_7, s__law_more_1, jl]
    · have c2 : (3 : Int) < k := by omega
      by_cases c3 : rs.length = 0
      · rw [c3] at jl
        simp [s__law_more_7, s__law_more_1, jl]
      · simp [s__law_more_7, s__law_more_1, jl, c3, c, c2]
  · have c0 : ¬ rs.length = 0 := fun z => c (.inl z)
    have c3 : ¬ 3 < k := fun z => c (.inr z)
    have c3' : ¬ (3 : Int) < k := by omega
    obtain ⟨a, ha, e2⟩ := x_pick M ln n xs g hx hn 1 rs.length (by omega)
    have e2' : F__law_pick [.ref ln, .p (.int 1), .p (.int (rs.length : Nat))] M = .ok (.p (.int a)) M := e2
    have i1 := ix_wall rs a ha M
    obtain ⟨r, hr⟩ : ∃ r, r = rs[a] := ⟨_, rfl⟩
    have okr : r.Ok := by rw [hr]; exact h _ (List.getElem_mem ha)
    rw [← hr] at i1
    have s7 : s__law_more_7 [some (.p (wallP rs)), some (.ref ln), some (.p (.int k)), some (.p (spP full)), none, none] M = .nx [some (.p (wallP rs)), some (.ref ln), some (.p (.int k)), some (.p (spP full)), none, none] M := by
      simp [s__law_more_7, jl, c0, c3, c3']
    have s8 : s__law_more_8 [some (.p (wallP rs)), some (.ref ln), some (.p (.int k)), some (.p (spP full)), none, none] M = .nx [some (.p (wallP rs)), some (.ref ln), some (.p (.int k)), some (.p (spP full)), some (.p (.int a)), none] M := by
      simp [s__law_more_8, jl, e2']
    have hk4 : k = 0 ∨ k = 1 ∨ k = 2 ∨ k = 3 := by omega
    have ad1 := add_wall1 rs r (by omega) M
    rcases hk4 with rfl | rfl | rfl | rfl
    · refine ⟨rs ++ [r], by simp, fun q hq => (List.mem_append.mp hq).elim (h q) fun z => by rw [List.mem_singleton.mp z]; exact okr, selfF_ok ?_ (Nat.le_refl _)⟩
      unfold m__law_more
      rw [sd, e_seq, s5, Out.bind_nx, e_seq, s6, Out.bind_nx, e_seq, s7, Out.bind_nx, e_seq, s8, Out.bind_nx]
      simp [s__law_more_9, s__law_more_2, i1, mkTup, allP, ad1, -v_ix_t]
    · have ad2 := add_wall1 rs (fullR 0) (by omega) M
      have ad2' : dAdd (.p (wallP rs)) (.p (.tup [.tup [.int 0, spP full, spP full, spP full]])) M = some (.p (wallP (rs ++ [fullR 0])), M) := ad2
      refine ⟨rs ++ [fullR 0], by simp, fun q hq => (List.mem_append.mp hq).elim (h q) fun z => by rw [List.mem_singleton.mp z]; exact fullR_ok (by omega), selfF_ok ?_ (Nat.le_refl _)⟩
      unfold m__law_more
      rw [sd, e_seq, s5, Out.bind_nx, e_seq, s6, Out.bind_nx, e_seq, s7, Out.bind_nx, e_seq, s8, Out.bind_nx]
      simp [s__law_more_9, s__law_more_10, s__law_more_3, mkTup, allP, ad2']
    · have t1 := sl_take rs a (by omega) M
      have t2 := sl_dropN rs a (by omega) M
      have a1 := add_wall1 (rs.take a) r (by rw [List.length_take]; omega) M
      have a2 := add_wall (rs.take a ++ [r]) (rs.drop a) (by simp; omega) M
      refine ⟨rs.take a ++ [r] ++ rs.drop a, by simp; omega, fun q hq => ?_, selfF_ok ?_ (Nat.le_refl _)⟩
      · rcases List.mem_append.mp hq with hq | hq
        · rcases List.mem_append.mp hq with hq | hq
          · exact h q (List.mem_of_mem_take hq)
          · rw [List.mem_singleton.mp hq]; exact okr
        · exact h q (List.mem_of_mem_drop hq)
      · obtain ⟨W, hW⟩ : ∃ W, W = wallP (rs.take a ++ [r]) := ⟨_, rfl⟩
        rw [← hW] at a1 a2
        obtain ⟨V, hV⟩ : ∃ W, W = wallP (rs.take a ++ [r] ++ rs.drop a) := ⟨_, rfl⟩
        rw [← hV] at a2 ⊢
        unfold m__law_more
        rw [sd, e_seq, s5, Out.bind_nx, e_seq, s6, Out.bind_nx, e_seq, s7, Out.bind_nx, e_seq, s8, Out.bind_nx]
        simp [s__law_more_9, s__law_more_10, s__law_more_11, s__law_more_4, asPart, t1, t2, i1, mkTup, allP, a1, a2, -v_ix_t]
    · obtain ⟨q, hq⟩ : ∃ q : Rl, q = ⟨1 - r.b, r.s0, (r.s1.1, r.s1.1), r.s2⟩ := ⟨_, rfl⟩
      have hb := okr.b
      have okq : q.Ok := by
        have := okr.s1
        unfold SpOk at this
        rw [hq]
        exact ⟨by show 1 - r.b ≤ 1; omega, okr.s0, ⟨Nat.le_refl _, by dsimp only; omega⟩, okr.s2⟩
      have ad2 := add_wall1 rs q (by omega) M
      have eq : q.P = .tup [.int (1 - (r.b : Int)), spP r.s0, .tup [.int r.s1.1, .int r.s1.1], spP r.s2] := by
        rw [hq]
        show P.tup [.int ((1 - r.b : Nat) : Int), _, _, _] = _
        rw [show ((1 - r.b : Nat) : Int) = 1 - (r.b : Int) by omega]
        rfl
      rw [eq] at ad2
      have j0 : ∀ S, dIx (.p r.P) (.p (.int 0)) S = some (.p (.int r.b), S) := fun S => rfl
      have j1 : ∀ S, dIx (.p r.P) (.p (.int 1)) S = some (.p (spP r.s0), S) := fun S => rfl
      have j2 : ∀ S, dIx (.p r.P) (.p (.int 2)) S = some (.p (spP r.s1), S) := fun S => rfl
      have j3 : ∀ S, dIx (.p r.P) (.p (.int 3)) S = some (.p (spP r.s2), S) := fun S => rfl
      have j4 : ∀ S, dIx (.p (spP r.s1)) (.p (.int 0)) S = some (.p (.int r.s1.1), S) := fun S => rfl
      refine ⟨rs ++ [q], by simp, fun p hp => (List.mem_append.mp hp).elim (h p) fun z => by rw [List.mem_singleton.mp z]; exact okq, selfF_ok ?_ (Nat.le_refl _)⟩
      unfold m__law_more
      rw [sd, e_seq, s5, Out.bind_nx, e_seq, s6, Out.bind_nx, e_seq, s7, Out.bind_nx, e_seq, s8, Out.bind_nx]
      simp [s__law_more_9, s__law_more_10, s__law_more_11, s__law_more_12, s__law_more_13, i1, j0, j1, j2, j3, j4, mkTup, allP, ad2, -v_ix_t]

-- slots: 0:script 1:numbers 2:points 3:rules 4:place 5:stripes 6:count 7:kind 8:wrong 9:e
noncomputable def s_law_1  : RS :=
  (rRet (rC (.p (.bl false))))
noncomputable def s_law_2  : RS :=
  (rExpr (rCallN 1 F_hidden (rCons (rVar 5) rNil)))
noncomputable def s_law_3  : RS :=
  (rExpr (rCallN 1 F_idle (rCons (rVar 5) rNil)))
noncomputable def s_law_4  : RS :=
  (rIfS (rTst asBool (rBin dEqX (rVar 7) (rC (.p (.int 0)))))
  s_law_2
  s_law_3)
noncomputable def s_law_5  : RS :=
  (rRet (rC (.p (.bl false))))
noncomputable def b_law_6  : RS :=
  (rSeq s_law_4
  s_law_5)
noncomputable def su_law (av dv : Nat) (cv : Str) : RS :=
  (rIfS (rtNot (rTst truthD (rCallN 2 F__law_likeH (rCons (rUn (dExF "what" av dv) (rVar 9)) (rCons (rC (.p (.str "rules"))) rNil)))))
  (rRet (rC (.p (.bl false))))
  rSkip)
noncomputable def bo_law  : RS :=
  b_law_6
noncomputable def s_law_9  : RS :=
  (rTryAsF [("TooMany", true)] 9 (bo_law ) su_law)
noncomputable def s_law_10  : RS :=
  (rRet (rC (.p (.bl false))))
noncomputable def s_law_11  : RS :=
  (rSet 1 (rCallN 3 F__law_numbers (rCons (rVar 0) (rCons (rC (.p (.int 0))) (rCons (rC (.p (.int 32))) rNil)))))
noncomputable def s_law_12  : RS :=
  (rSet 2 (rLst (rCons (rCallN 3 F__law_points (rCons (rVar 1) (rCons (rC (.p (.int 0))) (rCons (rC (.p (.int 3))) rNil)))) (rCons (rCallN 3 F__law_points (rCons (rVar 1) (rCons (rC (.p (.int 6))) (rCons (rC (.p (.int 2))) rNil)))) (rCons (rCallN 3 F__law_points (rCons (rVar 1) (rCons (rC (.p (.int 10))) (rCons (rC (.p (.int 2))) rNil)))) rNil)))))
noncomputable def s_law_13  : RS :=
  (rSet 3 (rCallN 4 F__law_rules (rCons (rCallN 3 F__law_numbers (rCons (rVar 0) (rCons (rC (.p (.int 1))) (rCons (rC (.p (.int 61))) rNil)))) (rCons (rC (.p (.int 0))) (rCons (rCallN 1 F__law_few (rCons (rBin dIx (rVar 1) (rC (.p (.int 14)))) rNil)) (rCons (rVar 2) rNil))))))
noncomputable def s_law_14  : RS :=
  (rSet 4 (rCallN 3 F__law_pick (rCons (rVar 1) (rCons (rC (.p (.int 15))) (rCons (rC (.p (.int 3))) rNil)))))
noncomputable def s_law_15  : RS :=
  (rSet 5 (rCallN 4 F__law_stripes (rCons (rCallN 3 F__law_numbers (rCons (rVar 0) (rCons (rC (.p (.int 2))) (rCons (rC (.p (.int 125))) rNil)))) (rCons (rC (.p (.int 41))) (rCons (rVar 4) (rCons (rBin dAdd (rC (.p (.int 12))) (rCallN 3 F__law_pick (rCons (rVar 1) (rCons (rC (.p (.int 16))) (rCons (rC (.p (.int 80))) rNil))))) rNil))))))
noncomputable def s_law_16  : RS :=
  (rSet 6 (rBin dIx (rLst (rCons (rCallN 3 F__law_pick (rCons (rVar 1) (rCons (rC (.p (.int 17))) (rCons (rC (.p (.int 41))) rNil)))) (rCons (rC (.p (.int 40))) rNil))) (rCB cInt (rCons (rBin dEqX (rCallN 3 F__law_pick (rCons (rVar 1) (rCons (rC (.p (.int 18))) (rCons (rC (.p (.int 3))) rNil)))) (rC (.p (.int 0)))) rNil))))
noncomputable def s_law_17  : RS :=
  (rIfS (rtOr (rtNot (rTst truthD (rCallN 1 F__law_holds (rCons (rCallN 2 F__law_more (rCons (rVar 3) (rCons (rCallN 3 F__law_numbers (rCons (rVar 0) (rCons (rC (.p (.int 3))) (rCons (rC (.p (.int 4))) rNil)))) rNil))) rNil)))) (rtNot (rTst truthD (rCallN 1 F__law_holds (rCons (rSl (rVar 5) rNoPart (rPart (rVar 6))) rNil)))))
  s_law_1
  rSkip)
noncomputable def s_law_18  : RS :=
  (rForR rng1 (rCons (rC (.p (.int 2))) rNil) (gNm 7)
  s_law_9)
noncomputable def s_law_19  : RS :=
  (rSet 8 (rBin dAdd (rSl (rVar 5) rNoPart (rPart (rC (.p (.int 40))))) (rTup (rCons (rTup (rCons (rC (.p (.int 1))) (rCons (rTup (rCons (rC (.p (.int 0))) (rCons (rC (.p (.int 100000))) rNil))) (rCons (rTup (rCons (rC (.p (.int 0))) (rCons (rC (.p (.int 99999))) rNil))) (rCons (rTup (rCons (rC (.p (.int 0))) (rCons (rC (.p (.int 99999))) rNil))) rNil))))) rNil))))
noncomputable def s_law_20  : RS :=
  (rIfS (rTst asBool (rBin dNeX (rLamCall 1 "law" F__law_told (rCallN 1 F_hidden (rCons (rVar 8) rNil)) []) (rTup (rCons (rC (.p (.str "error"))) (rCons (rLst (rCons (rC (.p (.str "BadRules"))) rNil)) rNil)))))
  s_law_10
  rSkip)
noncomputable def s_law_21  : RS :=
  (rRet (rBin dEqX (rLamCall 1 "law" F__law_told (rCallN 1 F_idle (rCons (rVar 8) rNil)) []) (rTup (rCons (rC (.p (.str "error"))) (rCons (rLst (rCons (rC (.p (.str "BadRules"))) rNil)) rNil)))))
noncomputable def m_law  : RS :=
  (rSeq s_law_11
  (rSeq s_law_12
  (rSeq s_law_13
  (rSeq s_law_14
  (rSeq s_law_15
  (rSeq s_law_16
  (rSeq s_law_17
  (rSeq s_law_18
  (rSeq s_law_19
  (rSeq s_law_20
  s_law_21))))))))))

noncomputable def F_law : List D → Store → R D := selfF 10 m_law
theorem r_law : Ref 1 10 F_law m_law := ref_self 1 10 m_law
theorem hind_law : ∀ (a dd : Nat) (gs : List (Str × P)) (c : Str) (ρ : Fl.Env) (M : Store), (c, true) ∈ ([("TooMany", true)] : List (Str × Bool)) → ρ.length = 10 → setI 9 (su_law a dd c (ρ.set 9 (some (.exf a dd gs))) M) = setI 9 (su_law 0 0 c (ρ.set 9 (some (.exf 0 0 gs))) M) := by
  intro a dd gs c ρ M _ hl
  have g : ∀ x : Option D, (ρ.set 9 x)[9]? = some x := fun x => List.getElem?_set_self (by omega)
  unfold su_law
  simp only [e_ifS, rtNot, rTst, e_callN, e_cons, e_un, e_var, g, R.bind_ok, v_exf]
  cases gs.lookup ("what" : Str) with
  | none => simp [ofO, setI]
  | some x =>
    by_cases hx : flatP x = true
    · simp only [hx, if_true, ofO, R.bind_ok, e_C, e_nil]
      cases q : F__law_likeH [.p x, .p (.str "rules")] M with
      | no => simp [q, setI]
      | ex c fs M1 => simp [q, setI]
      | ok d M1 =>
        cases e : truthD d M1 with
        | none => simp [q, e, setI]
        | some k => cases k <;> simp [q, e, setI, List.set_set]
    · simp [hx, ofO, setI]

theorem eqX_int (i j : Int) (M : Store) : dEqX (.p (.int i)) (.p (.int j)) M = some (.p (.bl (decide (i = j))), M) := by
  rw [v_eqX_p _ _ _ (by simp [dOk, P.depth])]
  by_cases h : i = j
  · simp [P.eqv, h]
  · simp [P.eqv, h]
theorem boxF_of {rs : List Rl} {a b c : Nat} (h0 : nfull 0 rs ≤ a) (h1 : nfull 1 rs ≤ b) (h2 : nfull 2 rs ≤ c) (h : (1 + 2 * a) * (1 + 2 * b) * (1 + 2 * c) ≤ 60000) : boxF rs := by
  have l0 := cutsI_few 0 rs
  have l1 := cutsI_few 1 rs
  have l2 := cutsI_few 2 rs
  unfold boxF
  exact Nat.le_trans (Nat.mul_le_mul (Nat.mul_le_mul (by omega) (by omega)) (by omega)) h
theorem nfull_le (q : Nat) (xs : List Rl) : nfull q xs ≤ xs.length := List.length_filter_le _ _
theorem nfull_zero {q : Nat} {rs : List Rl} (h : ∀ r ∈ rs, r.sp q = full) : nfull q rs = 0 := by
  unfold nfull
  rw [List.length_eq_zero_iff, List.filter_eq_nil_iff]
  intro r hr
  simpa using h r hr
/-- few rules of any kind, many of one place -/
theorem boxF_few {rs : List Rl} (h : rs.length ≤ 19) : boxF rs := by
  have g := fun q => nfull_le q rs
  have := g 0; have := g 1; have := g 2
  exact boxF_of (a := 19) (b := 19) (c := 19) (by omega) (by omega) (by omega) (by decide)
theorem boxF_one {rs : List Rl} {place : Nat} (hp : place < 3) (h : rs.length ≤ 400) (hz : ∀ r ∈ rs, ∀ q, q < 3 → q ≠ place → r.sp q = full) : boxF rs := by
  have zz : ∀ q, q < 3 → q ≠ place → nfull q rs = 0 := fun q hq hne => nfull_zero fun r hr => hz r hr q hq hne
  have f := fun q => nfull_le q rs
  have f0 := f 0; have f1 := f 1; have f2 := f 2
  have hp3 : place = 0 ∨ place = 1 ∨ place = 2 := by omega
  rcases hp3 with e | e | e
  · have z1 := zz 1 (by omega) (by omega)
    have z2 := zz 2 (by omega) (by omega)
    exact boxF_of (a := 400) (b := 0) (c := 0) (by omega) (by omega) (by omega) (by decide)
  · have z1 := zz 0 (by omega) (by omega)
    have z2 := zz 2 (by omega) (by omega)
    exact boxF_of (a := 0) (b := 400) (c := 0) (by omega) (by omega) (by omega) (by decide)
  · have z1 := zz 0 (by omega) (by omega)
    have z2 := zz 1 (by omega) (by omega)
    exact boxF_of (a := 0) (b := 0) (c := 400) (by omega) (by omega) (by omega) (by decide)

theorem law_try1 (M : Store) (st : List Rl) (h : ∀ r ∈ st, r.Ok) (hl : st.length = 41) (k : Nat) (xscript xnumbers xpoints xrules xplace xcount xwrong xe : Option D) :
    s_law_9 [xscript, xnumbers, xpoints, xrules, xplace, some (.p (wallP st)), xcount, some (.p (.int k)), xwrong, xe] M = .nx [xscript, xnumbers, xpoints, xrules, xplace, some (.p (wallP st)), xcount, some (.p (.int k)), xwrong, none] M := by
  have e1 := x_hidden_many st h (by omega) (by omega) M
  have e2 := x_idle_many st h (by omega) (by omega) M
  have eq := eqX_int (k : Int) 0 M
  have lk := x_likeH ("rules" : Str) ("rules" : Str) M
  have bo : bo_law [xscript, xnumbers, xpoints, xrules, xplace, some (.p (wallP st)), xcount, some (.p (.int k)), xwrong, xe] M = .ex "TooMany" (some [("what", .p (.str "rules"))]) [xscript, xnumbers, xpoints, xrules, xplace, some (.p (wallP st)), xcount, some (.p (.int k)), xwrong, xe] M := by
    by_cases c : k = 0
    · subst c
      have eq' : dEqX (.p (.int 0)) (.p (.int 0)) M = some (.p (.bl true), M) := eq
      simp [bo_law, b_law_6, s_law_4, s_law_2, e1, eq']
    · have c2 : ¬ (k : Int) = 0 := by omega
      simp [bo_law, b_law_6, s_law_4, s_law_3, e2, eq, c, c2]
  have lu : ([("TooMany", true)] : List (Str × Bool)).lookup ("TooMany" : Str) = some true := rfl
  unfold s_law_9 rTryAsF
  rw [bo]
  simp only [lu, onFs_some]
  have uf : unFs [(("what" : Str), D.p (.str "rules"))] = [(("what" : Str), P.str "rules")] := rfl
  rw [uf]
  have lw : ([(("what" : Str), P.str "rules")] : List (Str × P)).lookup ("what" : Str) = some (.str "rules") := rfl
  have vx : dExF "what" 0 0 (.exf 0 0 [(("what" : Str), P.str "rules")]) M = some (.p (.str "rules"), M) := by
    rw [v_exf, lw]
    rfl
  simp [su_law, vx, lk, setI]
theorem law_told_bad {fb : RE} {ρ : Fl.Env} {M M1 : Store} (htab : M[1]? = some (.tab "law")) (h : fb ρ M = .ex "BadRules" none M1) (hp : M <+: M1) :
    ∃ M' l, rLamCall 1 "law" F__law_told fb [] ρ M = .ok (.tup [.p (.str "error"), .ref l]) M' ∧ M <+: M' ∧ M'[l]? = some (.lst [.p (.str "BadRules")]) := by
  obtain ⟨l, M2, q1, q2, q3⟩ := told_ex h raised_BadRules hp
  refine ⟨M2, l, ?_, q2, q3⟩
  unfold rLamCall
  rw [htab]
  simp only [if_true]
  exact q1
def badR : P := .tup [.int 1, .tup [.int 0, .int 100000], .tup [.int 0, .int 99999], .tup [.int 0, .int 99999]]
theorem badR_none (M : Store) : F_is_rule [.p badR] M = .ok (.p (.bl false)) M := by
  have e := x_is_rule 1 0 100000 0 99999 0 99999 M
  have z : ruleB 1 0 100000 0 99999 0 99999 = false := by decide
  rw [z] at e
  exact e
theorem law_ends (M : Store) (st : List Rl) (h : ∀ r ∈ st, r.Ok) (hl : st.length = 41) (htab : M[1]? = some (.tab "law")) (xscript xnumbers xpoints xrules xplace xcount xkind xwrong xe : Option D) :
    ∃ M', M <+: M' ∧ (rSeq s_law_18 (rSeq s_law_19 (rSeq s_law_20 s_law_21))) [xscript, xnumbers, xpoints, xrules, xplace, some (.p (wallP st)), xcount, xkind, xwrong, none] M = .rt (.p (.bl true)) M' := by
  have er : rng1 [.p (.int 2)] = some (0, 2) := rng1_len 2 (by omega)
  have t0 := law_try1 M st h hl 0 xscript xnumbers xpoints xrules xplace xcount xwrong none
  have t1 := law_try1 M st h hl 1 xscript xnumbers xpoints xrules xplace xcount xwrong none
  have s18 : s_law_18 [xscript, xnumbers, xpoints, xrules, xplace, some (.p (wallP st)), xcount, xkind, xwrong, none] M = .nx [xscript, xnumbers, xpoints, xrules, xplace, some (.p (wallP st)), xcount, some (.p (.int 1)), xwrong, none] M := by
    have ei : intsD 0 2 = [.p (.int (0 : Nat)), .p (.int (1 : Nat))] := rfl
    simp only [s_law_18, e_forR, e_cons, e_C, e_nil, R.bind_ok, R.out_ok, er, oK_some, ei, forL0_cons, forL0_nil, e_gNm, List.set_cons_succ, List.set_cons_zero]
    rw [t0, loopK_nx]
    simp only [List.set_cons_succ, List.set_cons_zero]
    rw [t1, loopK_nx]
    rfl
  have sl := sl_take st 40 (by omega) M
  have sl' : dSl (.p (wallP st)) none (some 40) M = some (.p (wallP (st.take 40)), M) := sl
  obtain ⟨W, hW⟩ : ∃ W : P, W = .tup ((st.take 40).map Rl.P ++ [badR]) := ⟨_, rfl⟩
  have ad : dAdd (.p (wallP (st.take 40))) (.p (.tup [.tup [.int 1, .tup [.int 0, .int 100000], .tup [.int 0, .int 99999], .tup [.int 0, .int 99999]]])) M = some (.p W, M) := by
    rw [hW]
    unfold wallP dAdd
    simp only []
    rw [if_pos (le_line (by simp; omega))]
    rfl
  have s19 : s_law_19 [xscript, xnumbers, xpoints, xrules, xplace, some (.p (wallP st)), xcount, some (.p (.int 1)), xwrong, none] M = .nx [xscript, xnumbers, xpoints, xrules, xplace, some (.p (wallP st)), xcount, some (.p (.int 1)), some (.p W), none] M := by
    simp [s_law_19, asPart, sl', mkTup, allP, ad]
  have bad : ∀ S, F_check_rules [.p W] S = .ex "BadRules" none S := fun S => by
    rw [hW]
    exact x_check_bad _ S (x_is_rules_bad (post := []) (fun r hr => h r (List.mem_of_mem_take hr)) badR badR_none (by simp; omega) S)
  have hB1 : (rCallN 1 F_hidden (rCons (rVar 8) rNil)) [xscript, xnumbers, xpoints, xrules, xplace, some (.p (wallP st)), xcount, some (.p (.int 1)), some (.p W), none] M = .ex "BadRules" none M := by
    simp [x_hidden_bad _ M (bad M)]
  obtain ⟨M1, l1, e1, p1, g1⟩ := law_told_bad htab hB1 (List.prefix_refl _)
  have ne := err_ne_BadRules l1 M1.length (M1 ++ [O.lst [.p (.str "BadRules")]]) (get_app g1 _) (get_new _ _)
  obtain ⟨M2, hM2⟩ : ∃ M2 : Store, M2 = M1 ++ [O.lst [.p (.str "BadRules")]] := ⟨_, rfl⟩
  have p2 : M <+: M2 := by rw [hM2]; exact pfx_app p1 _
  have s20 : s_law_20 [xscript, xnumbers, xpoints, xrules, xplace, some (.p (wallP st)), xcount, some (.p (.int 1)), some (.p W), none] M = .nx [xscript, xnumbers, xpoints, xrules, xplace, some (.p (wallP st)), xcount, some (.p (.int 1)), some (.p W), none] M2 := by
    rw [hM2]
    simp [s_law_20, e1, mkTup, allP, ne]
  have hB2 : (rCallN 1 F_idle (rCons (rVar 8) rNil)) [xscript, xnumbers, xpoints, xrules, xplace, some (.p (wallP st)), xcount, some (.p (.int 1)), some (.p W), none] M2 = .ex "BadRules" none M2 := by
    simp [x_idle_bad _ M2 (bad M2)]
  obtain ⟨M3, l3, e3, p3, g3⟩ := law_told_bad (pfx_get p2 htab) hB2 (List.prefix_refl _)
  have eq := err_eqX_BadRules l3 M3.length (M3 ++ [O.lst [.p (.str "BadRules")]]) (get_app g3 _) (get_new _ _)
  refine ⟨M3 ++ [O.lst [.p (.str "BadRules")]], pfx_app (p2.trans p3) _, ?_⟩
  rw [e_seq, s18, Out.bind_nx, e_seq, s19, Out.bind_nx, e_seq, s20, Out.bind_nx]
  simp [s_law_21, e3, mkTup, allP, eq]
theorem law_true (ns : List Int) (hl : ns.length ≤ 63) (o : O) (ho : o = .ro (ns.map fun i => .p (.int i)) ∨ o = .lst (ns.map fun i => .p (.int i))) : ∃ M, F_law [.ref 0] [o, .tab "law"] = .ok (.p (.bl true)) M := by
  obtain ⟨xs, n1, p1⟩ := x_numbers ns o ho [o, .tab "law"] rfl 0 32 (by omega) (by omega)
  obtain ⟨S1, hS1⟩ : ∃ S1 : Store, S1 = [o, .tab "law"] ++ [O.lst (numL xs)] := ⟨_, rfl⟩
  have q1 : [o, O.tab "law"] <+: S1 := by rw [hS1]; exact List.prefix_append _ _
  have g1 : S1[2]? = some (.lst (numL xs)) := by rw [hS1]; rfl
  have s11 : s_law_11 [some (.ref 0), none, none, none, none, none, none, none, none, none] [o, .tab "law"] = .nx [some (.ref 0), some (.ref 2), none, none, none, none, none, none, none, none] S1 := by
    simp at p1
    simp [s_law_11, p1, hS1]
  obtain ⟨S2, lp, q2, hP, e12⟩ := x_pts3 [some (.ref 0), some (.ref 2), none, none, none, none, none, none, none, none] S1 1 2 32 xs rfl g1 n1 (by omega)
  have s12 : s_law_12 [some (.ref 0), some (.ref 2), none, none, none, none, none, none, none, none] S1 = .nx [some (.ref 0), some (.ref 2), some (.ref lp), none, none, none, none, none, none, none] S2 := by
    simp only [s_law_12, e_set, e12, R.out_ok, List.set_cons_succ, List.set_cons_zero]
  have q12 := q1.trans q2
  have g2 := pfx_get q2 g1
  obtain ⟨S3, rs, q3, hr1, hr2, e13⟩ := x_rls ns o ho [some (.ref 0), some (.ref 2), some (.ref lp), none, none, none, none, none, none, none] S2 (pfx_get q12 rfl) rfl 1 2 2 lp 1 xs rfl rfl g2 n1 hP (by omega)
  have s13 : s_law_13 [some (.ref 0), some (.ref 2), some (.ref lp), none, none, none, none, none, none, none] S2 = .nx [some (.ref 0), some (.ref 2), some (.ref lp), some (.p (wallP rs)), none, none, none, none, none, none] S3 := by
    have e13' := e13
    simp only [show ((1 : Nat) : Int) = 1 from rfl] at e13'
    simp only [s_law_13, e_set, e13', R.out_ok, List.set_cons_succ, List.set_cons_zero]
  have q13 := q12.trans q3
  have g3 := pfx_get q3 g2
  obtain ⟨pl, hpl, k0⟩ := x_pick S3 2 32 xs g3 n1 (by omega) 15 3 (by omega)
  have k0' : F__law_pick [.ref 2, .p (.int 15), .p (.int 3)] S3 = .ok (.p (.int pl)) S3 := k0
  have s14 : s_law_14 [some (.ref 0), some (.ref 2), some (.ref lp), some (.p (wallP rs)), none, none, none, none, none, none] S3 = .nx [some (.ref 0), some (.ref 2), some (.ref lp), some (.p (wallP rs)), some (.p (.int pl)), none, none, none, none, none] S3 := by simp [s_law_14, k0']
  obtain ⟨zs, n3, p3⟩ := x_numbers ns o ho S3 (pfx_get q13 rfl) 2 125 (by omega) (by omega)
  obtain ⟨D1, hD1⟩ : ∃ D1 : Store, D1 = S3 ++ [O.lst (numL zs)] := ⟨_, rfl⟩
  have pD1 : S3 <+: D1 := by rw [hD1]; exact List.prefix_append _ _
  have gD1 : D1[S3.length]? = some (.lst (numL zs)) := by rw [hD1]; exact get_new _ _
  rw [← hD1] at p3
  obtain ⟨w, hw, k1⟩ := x_pick D1 2 32 xs (pfx_get pD1 g3) n1 (by omega) 16 80 (by omega)
  have k1' : F__law_pick [.ref 2, .p (.int 16), .p (.int 80)] D1 = .ok (.p (.int w)) D1 := k1
  obtain ⟨D2, st, pD2, ht1, ht2, eD2⟩ := x_law_stripes D1 S3.length 125 zs gD1 n3 (by omega) 41 pl (12 + w) (by omega) hpl (by omega) (by omega)
  have ht3 : ∀ r ∈ st, r.Ok := fun r hr => (ht2 r hr).1
  have s15 : s_law_15 [some (.ref 0), some (.ref 2), some (.ref lp), some (.p (wallP rs)), some (.p (.int pl)), none, none, none, none, none] S3 = .nx [some (.ref 0), some (.ref 2), some (.ref lp), some (.p (wallP rs)), some (.p (.int pl)), some (.p (wallP st)), none, none, none, none] D2 := by
    simp at p3
    have eD2' : F__law_stripes [.ref S3.length, .p (.int 41), .p (.int pl), .p (.int (12 + (w : Int)))] D1 = .ok (.p (wallP st)) D2 := eD2
    simp [s_law_15, p3, k1', eD2']
  have q15 := (q13.trans pD1).trans pD2
  have g5 := pfx_get (pD1.trans pD2) g3
  -- how many
  obtain ⟨D3, cnt, q16, hc, s16⟩ : ∃ D3 cnt, D2 <+: D3 ∧ cnt ≤ 40 ∧ s_law_16 [some (.ref 0), some (.ref 2), some (.ref lp), some (.p (wallP rs)), some (.p (.int pl)), some (.p (wallP st)), none, none, none, none] D2 = .nx [some (.ref 0), some (.ref 2), some (.ref lp), some (.p (wallP rs)), some (.p (.int pl)), some (.p (wallP st)), some (.p (.int (cnt : Nat))), none, none, none] D3 := by
    obtain ⟨u, hu, k4⟩ := x_pick D2 2 32 xs g5 n1 (by omega) 17 41 (by omega)
    have k4' : F__law_pick [.ref 2, .p (.int 17), .p (.int 41)] D2 = .ok (.p (.int u)) D2 := k4
    obtain ⟨F2, hF2⟩ : ∃ F2 : Store, F2 = D2 ++ [O.lst [.p (.int (u : Int)), .p (.int 40)]] := ⟨_, rfl⟩
    have pF2 : D2 <+: F2 := by rw [hF2]; exact List.prefix_append _ _
    have gF2 : F2[D2.length]? = some (.lst [.p (.int (u : Int)), .p (.int 40)]) := by rw [hF2]; exact get_new _ _
    obtain ⟨v, hv, k5⟩ := x_pick F2 2 32 xs (pfx_get pF2 g5) n1 (by omega) 18 3 (by omega)
    have k5' : F__law_pick [.ref 2, .p (.int 18), .p (.int 3)] F2 = .ok (.p (.int v)) F2 := k5
    have ev := eqX_int v 0 F2
    have j0 : dIx (.ref D2.length) (.p (.int 0)) F2 = some (.p (.int (u : Int)), F2) := v_ix_l D2.length _ 0 _ F2 gF2 rfl
    have j1 : dIx (.ref D2.length) (.p (.int 1)) F2 = some (.p (.int 40), F2) := v_ix_l D2.length _ 1 _ F2 gF2 rfl
    by_cases c : v = 0
    · subst c
      refine ⟨F2, 40, pF2, by omega, ?_⟩
      have k6 : F__law_pick [.ref 2, .p (.int 18), .p (.int 3)] F2 = .ok (.p (.int 0)) F2 := k5'
      have ev0 : dEqX (.p (.int 0)) (.p (.int 0)) F2 = some (.p (.bl true), F2) := ev
      rw [hF2] at k6 ev0 j1 ⊢
      simp [s_law_16, k4', k6, ev0, j1]
    · refine ⟨F2, u, pF2, by omega, ?_⟩
      have ev1 : dEqX (.p (.int v)) (.p (.int 0)) F2 = some (.p (.bl false), F2) := by
        rw [ev]
        simp [c]
      rw [hF2] at k5' ev1 j0 ⊢
      simp [s_law_16, k4', k5', ev1, j0]
  have q17 := q15.trans q16
  obtain ⟨ys, n4, p4⟩ := x_numbers ns o ho D3 (pfx_get q17 rfl) 3 4 (by omega) (by omega)
  obtain ⟨D4, hD4⟩ : ∃ D1 : Store, D1 = D3 ++ [O.lst (numL ys)] := ⟨_, rfl⟩
  have pD4 : D3 <+: D4 := by rw [hD4]; exact List.prefix_append _ _
  have gD4 : D4[D3.length]? = some (.lst (numL ys)) := by rw [hD4]; exact get_new _ _
  rw [← hD4] at p4
  obtain ⟨ws, hw1, hw2, ew⟩ := x_law_more rs hr2 (by omega) D4 D3.length 4 ys gD4 n4 (by omega)
  obtain ⟨E1, pE1, eE1⟩ := x_holds ws hw2 (by omega) (boxF_few (by omega)) D4
  have sl := sl_take st cnt (by omega) E1
  have ltk : (st.take cnt).length ≤ 40 := by rw [List.length_take]; omega
  obtain ⟨E2, pE2, eE2⟩ := x_holds (st.take cnt) (fun r hr => ht3 r (List.mem_of_mem_take hr)) ltk (boxF_one hpl (by omega) fun r hr => (ht2 r (List.mem_of_mem_take hr)).2) E1
  have s17 : s_law_17 [some (.ref 0), some (.ref 2), some (.ref lp), some (.p (wallP rs)), some (.p (.int pl)), some (.p (wallP st)), some (.p (.int (cnt : Nat))), none, none, none] D3 = .nx [some (.ref 0), some (.ref 2), some (.ref lp), some (.p (wallP rs)), some (.p (.int pl)), some (.p (wallP st)), some (.p (.int (cnt : Nat))), none, none, none] E2 := by
    simp at p4
    simp [s_law_17, p4, ew, eE1, asPart, sl, eE2]
  have qt : [o, O.tab "law"] <+: E2 := ((q17.trans pD4).trans pE1).trans pE2
  obtain ⟨G, pG, eG⟩ := law_ends E2 st ht3 ht1 (pfx_get qt rfl) (some (.ref 0)) (some (.ref 2)) (some (.ref lp)) (some (.p (wallP rs))) (some (.p (.int pl))) (some (.p (.int (cnt : Nat)))) none none none
  refine ⟨G, selfF_ok ?_ (pfx_len (qt.trans pG))⟩
  have sd : startD 10 [.ref 0] = [some (.ref 0), none, none, none, none, none, none, none, none, none] := rfl
  unfold m_law
  rw [sd, e_seq, s11, Out.bind_nx, e_seq, s12, Out.bind_nx, e_seq, s13, Out.bind_nx, e_seq, s14, Out.bind_nx, e_seq, s15, Out.bind_nx, e_seq, s16, Out.bind_nx, e_seq, s17, Out.bind_nx, eG]
  rfl

/-! ### the text -/
def top (i : Nat) : Stmt := PySem.Challenge.pw_holesmet_k73_hidden_and_idle_rules.main.body.getD i (.Pass ⟨0, 0, 0, 0⟩)
abbrev st_TooMany___init__ : Stmt := inClass (top 5) 0
theorem sc_TooMany___init__ : FnScope ["self", "what"] ["self", "what"] (defScope st_TooMany___init__) := ⟨rfl, rfl, rfl, by decide +kernel, rfl, by decide +kernel, by decide +kernel⟩
abbrev st_is_int : Stmt := top 7
theorem sc_is_int : FnScope ["value"] ["value"] (defScope st_is_int) := ⟨rfl, rfl, rfl, by decide +kernel, rfl, by decide +kernel, by decide +kernel⟩
abbrev st_is_between : Stmt := top 8
theorem sc_is_between : FnScope ["value", "least", "greatest"] ["value", "least", "greatest"] (defScope st_is_between) := ⟨rfl, rfl, rfl, by decide +kernel, rfl, by decide +kernel, by decide +kernel⟩
abbrev st_is_bit : Stmt := top 9
theorem sc_is_bit : FnScope ["value"] ["value"] (defScope st_is_bit) := ⟨rfl, rfl, rfl, by decide +kernel, rfl, by decide +kernel, by decide +kernel⟩
abbrev st_is_tuple_of : Stmt := top 10
theorem sc_is_tuple_of : FnScope ["value", "length"] ["value", "length"] (defScope st_is_tuple_of) := ⟨rfl, rfl, rfl, by decide +kernel, rfl, by decide +kernel, by decide +kernel⟩
abbrev st_is_told_number : Stmt := top 14
theorem sc_is_told_number : FnScope ["value"] ["value"] (defScope st_is_told_number) := ⟨rfl, rfl, rfl, by decide +kernel, rfl, by decide +kernel, by decide +kernel⟩
abbrev st_is_told_range : Stmt := top 15
theorem sc_is_told_range : FnScope ["value"] ["value"] (defScope st_is_told_range) := ⟨rfl, rfl, rfl, by decide +kernel, rfl, by decide +kernel, by decide +kernel⟩
abbrev st_is_told_rule : Stmt := top 16
theorem sc_is_told_rule : FnScope ["value"] ["value"] (defScope st_is_told_rule) := ⟨rfl, rfl, rfl, by decide +kernel, rfl, by decide +kernel, by decide +kernel⟩
abbrev st_is_range : Stmt := top 22
theorem sc_is_range : FnScope ["value"] ["value"] (defScope st_is_range) := ⟨rfl, rfl, rfl, by decide +kernel, rfl, by decide +kernel, by decide +kernel⟩
abbrev st_is_rule : Stmt := top 23
theorem sc_is_rule : FnScope ["value"] ["value"] (defScope st_is_rule) := ⟨rfl, rfl, rfl, by decide +kernel, rfl, by decide +kernel, by decide +kernel⟩
abbrev st_is_rules : Stmt := top 24
theorem sc_is_rules : FnScope ["value", "rule"] ["value"] (defScope st_is_rules) := ⟨rfl, rfl, rfl, by decide +kernel, rfl, by decide +kernel, by decide +kernel⟩
abbrev st_check_rules : Stmt := top 25
theorem sc_check_rules : FnScope ["value"] ["value"] (defScope st_check_rules) := ⟨rfl, rfl, rfl, by decide +kernel, rfl, by decide +kernel, by decide +kernel⟩
abbrev st_check_few : Stmt := top 26
theorem sc_check_few : FnScope ["rules"] ["rules"] (defScope st_check_few) := ⟨rfl, rfl, rfl, by decide +kernel, rfl, by decide +kernel, by decide +kernel⟩
abbrev st_check_boxes : Stmt := top 27
theorem sc_check_boxes : FnScope ["cuts", "first", "second", "third"] ["cuts"] (defScope st_check_boxes) := ⟨rfl, rfl, rfl, by decide +kernel, rfl, by decide +kernel, by decide +kernel⟩
abbrev st_cuts_at : Stmt := top 29
theorem sc_cuts_at : FnScope ["walls", "place", "found", "rules", "rule", "least", "greatest"] ["walls", "place"] (defScope st_cuts_at) := ⟨rfl, rfl, rfl, by decide +kernel, rfl, by decide +kernel, by decide +kernel⟩
abbrev st_cuts_of : Stmt := top 30
theorem sc_cuts_of : FnScope ["walls", "cuts", "place"] ["walls"] (defScope st_cuts_of) := ⟨rfl, rfl, rfl, by decide +kernel, rfl, by decide +kernel, by decide +kernel⟩
abbrev st_lowest : Stmt := top 31
theorem sc_lowest : FnScope ["mask"] ["mask"] (defScope st_lowest) := ⟨rfl, rfl, rfl, by decide +kernel, rfl, by decide +kernel, by decide +kernel⟩
abbrev st_without_lowest : Stmt := top 32
theorem sc_without_lowest : FnScope ["mask"] ["mask"] (defScope st_without_lowest) := ⟨rfl, rfl, rfl, by decide +kernel, rfl, by decide +kernel, by decide +kernel⟩
abbrev st_masks_at : Stmt := top 33
theorem sc_masks_at : FnScope ["rules", "cuts", "place", "masks", "numbers", "at", "cut", "number", "rule", "begin", "end", "least", "greatest"] ["rules", "cuts", "place"] (defScope st_masks_at) := ⟨rfl, rfl, rfl, by decide +kernel, rfl, by decide +kernel, by decide +kernel⟩
abbrev st_Grid___init__ : Stmt := inClass (top 34) 0
theorem sc_Grid___init__ : FnScope ["self", "rules", "cuts", "number", "rule", "place"] ["self", "rules", "cuts"] (defScope st_Grid___init__) := ⟨rfl, rfl, rfl, by decide +kernel, rfl, by decide +kernel, by decide +kernel⟩
abbrev st_Grid_lets : Stmt := inClass (top 34) 1
theorem sc_Grid_lets : FnScope ["self", "mask"] ["self", "mask"] (defScope st_Grid_lets) := ⟨rfl, rfl, rfl, by decide +kernel, rfl, by decide +kernel, by decide +kernel⟩
abbrev st_Grid_mask : Stmt := inClass (top 34) 2
theorem sc_Grid_mask : FnScope ["self", "box", "first", "second", "third"] ["self", "box"] (defScope st_Grid_mask) := ⟨rfl, rfl, rfl, by decide +kernel, rfl, by decide +kernel, by decide +kernel⟩
abbrev st_Grid_distinct : Stmt := inClass (top 34) 4
theorem sc_Grid_distinct : FnScope ["self", "some", "first", "found", "ahead", "second", "third"] ["self"] (defScope st_Grid_distinct) := ⟨rfl, rfl, rfl, by decide +kernel, rfl, by decide +kernel, by decide +kernel⟩
abbrev st_first_ones : Stmt := top 36
theorem sc_first_ones : FnScope ["masks", "found", "mask"] ["masks"] (defScope st_first_ones) := ⟨rfl, rfl, rfl, by decide +kernel, rfl, by decide +kernel, by decide +kernel⟩
abbrev st_hidden_numbers : Stmt := top 37
theorem sc_hidden_numbers : FnScope ["masks", "count", "shown", "number"] ["masks", "count"] (defScope st_hidden_numbers) := ⟨rfl, rfl, rfl, by decide +kernel, rfl, by decide +kernel, by decide +kernel⟩
abbrev st_is_told_by_first : Stmt := top 38
theorem sc_is_told_by_first : FnScope ["grid", "mask"] ["grid", "mask"] (defScope st_is_told_by_first) := ⟨rfl, rfl, rfl, by decide +kernel, rfl, by decide +kernel, by decide +kernel⟩
abbrev st_idle_numbers : Stmt := top 39
theorem sc_idle_numbers : FnScope ["grid", "masks", "count", "needed", "mask", "number"] ["grid", "masks", "count"] (defScope st_idle_numbers) := ⟨rfl, rfl, rfl, by decide +kernel, rfl, by decide +kernel, by decide +kernel⟩
abbrev st_looked_at : Stmt := top 41
theorem sc_looked_at : FnScope ["rules"] ["rules"] (defScope st_looked_at) := ⟨rfl, rfl, rfl, by decide +kernel, rfl, by decide +kernel, by decide +kernel⟩
abbrev st_hidden : Stmt := top 42
theorem sc_hidden : FnScope ["rules", "grid"] ["rules"] (defScope st_hidden) := ⟨rfl, rfl, rfl, by decide +kernel, rfl, by decide +kernel, by decide +kernel⟩
abbrev st_idle : Stmt := top 43
theorem sc_idle : FnScope ["rules", "grid"] ["rules"] (defScope st_idle) := ⟨rfl, rfl, rfl, by decide +kernel, rfl, by decide +kernel, by decide +kernel⟩
abbrev st__law_numbers : Stmt := top 45
theorem sc__law_numbers : FnScope ["script", "at", "count", "cell", "great", "base", "found", "k", "x"] ["script", "at", "count"] (defScope st__law_numbers) := ⟨rfl, rfl, rfl, by decide +kernel, rfl, by decide +kernel, by decide +kernel⟩
abbrev st__law_pick : Stmt := top 46
theorem sc__law_pick : FnScope ["numbers", "at", "count"] ["numbers", "at", "count"] (defScope st__law_pick) := ⟨rfl, rfl, rfl, by decide +kernel, rfl, by decide +kernel, by decide +kernel⟩
abbrev st__law_like : Stmt := top 47
theorem sc__law_like : FnScope ["told", "due", "k"] ["told", "due"] (defScope st__law_like) := ⟨rfl, rfl, rfl, by decide +kernel, rfl, by decide +kernel, by decide +kernel⟩
abbrev st__law_points : Stmt := top 48
theorem sc__law_points : FnScope ["numbers", "at", "count", "found", "k", "n", "kind"] ["numbers", "at", "count"] (defScope st__law_points) := ⟨rfl, rfl, rfl, by decide +kernel, rfl, by decide +kernel, by decide +kernel⟩
abbrev st__law_between : Stmt := top 49
theorem sc__law_between : FnScope ["points", "kind", "one", "other", "low", "high"] ["points", "kind", "one", "other"] (defScope st__law_between) := ⟨rfl, rfl, rfl, by decide +kernel, rfl, by decide +kernel, by decide +kernel⟩
abbrev st__law_rules : Stmt := top 50
theorem sc__law_rules : FnScope ["numbers", "at", "count", "points", "made", "k", "spans", "place", "here", "kind", "one", "other"] ["numbers", "at", "count", "points"] (defScope st__law_rules) := ⟨rfl, rfl, rfl, by decide +kernel, rfl, by decide +kernel, by decide +kernel⟩
abbrev st__law_few : Stmt := top 51
theorem sc__law_few : FnScope ["number"] ["number"] (defScope st__law_few) := ⟨rfl, rfl, rfl, by decide +kernel, rfl, by decide +kernel, by decide +kernel⟩
abbrev st__law_stripes : Stmt := top 52
theorem sc__law_stripes : FnScope ["numbers", "count", "place", "most", "made", "step", "k", "ends", "part", "spans", "n"] ["numbers", "count", "place", "most"] (defScope st__law_stripes) := ⟨rfl, rfl, rfl, by decide +kernel, rfl, by decide +kernel, by decide +kernel⟩
abbrev st__law_cuts : Stmt := top 53
theorem sc__law_cuts : FnScope ["rules", "place", "found", "rule", "n"] ["rules", "place"] (defScope st__law_cuts) := ⟨rfl, rfl, rfl, by decide +kernel, rfl, by decide +kernel, by decide +kernel⟩
abbrev st__law_first : Stmt := top 54
theorem sc__law_first : FnScope ["rules", "triple", "k", "spans"] ["rules", "triple"] (defScope st__law_first) := ⟨rfl, rfl, rfl, by decide +kernel, rfl, by decide +kernel, by decide +kernel⟩
abbrev st__law_triples : Stmt := top 55
theorem sc__law_triples : FnScope ["rules", "made", "thirds", "seconds", "a", "b", "c"] ["rules"] (defScope st__law_triples) := ⟨rfl, rfl, rfl, by decide +kernel, rfl, by decide +kernel, by decide +kernel⟩
abbrev st__law_told : Stmt := top 56
theorem sc__law_told : FnScope ["call", "words", "named", "e", "k"] ["call"] (defScope st__law_told) := ⟨rfl, rfl, rfl, by decide +kernel, rfl, by decide +kernel, by decide +kernel⟩
abbrev st__law_more : Stmt := top 57
theorem sc__law_more : FnScope ["rules", "numbers", "kind", "full", "at", "rule"] ["rules", "numbers"] (defScope st__law_more) := ⟨rfl, rfl, rfl, by decide +kernel, rfl, by decide +kernel, by decide +kernel⟩
abbrev st__law_next : Stmt := top 58
theorem sc__law_next : FnScope ["rules", "triple", "at", "k"] ["rules", "triple", "at"] (defScope st__law_next) := ⟨rfl, rfl, rfl, by decide +kernel, rfl, by decide +kernel, by decide +kernel⟩
abbrev st__law_sorted_out : Stmt := top 59
theorem sc__law_sorted_out : FnScope ["rules", "first", "needed", "triple", "gone", "at", "k"] ["rules"] (defScope st__law_sorted_out) := ⟨rfl, rfl, rfl, by decide +kernel, rfl, by decide +kernel, by decide +kernel⟩
abbrev st__law_holds : Stmt := top 60
theorem sc__law_holds : FnScope ["rules", "due"] ["rules"] (defScope st__law_holds) := ⟨rfl, rfl, rfl, by decide +kernel, rfl, by decide +kernel, by decide +kernel⟩
abbrev st_law : Stmt := top 61
theorem sc_law : FnScope ["script", "numbers", "points", "rules", "place", "stripes", "count", "kind", "wrong", "e"] ["script"] (defScope st_law) := ⟨rfl, rfl, rfl, by decide +kernel, rfl, by decide +kernel, by decide +kernel⟩
/-! ### what the top leaves -/
structure Tx (w : World) (K : PySem.W.Frag) (mg : Str → Option Value) : Prop where
  f_abs : mg "abs" = none
  f_bool : mg "bool" = none
  f_enumerate : mg "enumerate" = none
  f_int : mg "int" = none
  f_isinstance : mg "isinstance" = none
  f_len : mg "len" = none
  f_max : mg "max" = none
  f_min : mg "min" = none
  f_range : mg "range" = none
  f_sorted : mg "sorted" = none
  f_str : mg "str" = none
  f_tuple : mg "tuple" = none
  c_MOST_BOXES : Cst ⟨K, mg⟩ "MOST_BOXES" (.p c_MOST_BOXES)
  c_MOST_LOOKED_AT : Cst ⟨K, mg⟩ "MOST_LOOKED_AT" (.p c_MOST_LOOKED_AT)
  c_MOST_RULES : Cst ⟨K, mg⟩ "MOST_RULES" (.p c_MOST_RULES)
  c_PLACES : Cst ⟨K, mg⟩ "PLACES" (.p c_PLACES)
  c_RANGES_OF_A_RULE : Cst ⟨K, mg⟩ "RANGES_OF_A_RULE" (.p c_RANGES_OF_A_RULE)
  c_TOP : Cst ⟨K, mg⟩ "TOP" (.p c_TOP)
  a_Grid : ClsF ⟨K, mg⟩ "Grid" ["rules", "cuts", "masks", "letting"]
  x_BadRule : ExC ⟨K, mg⟩ "BadRule" (He.ga K "BadRule")
  x_BadRules : ExC ⟨K, mg⟩ "BadRules" (He.ga K "BadRules")
  x_DoorError : ExC ⟨K, mg⟩ "DoorError" (He.ga K "DoorError")
  g_BadRule : mg "BadRule" = some (.ref (He.ga K "BadRule"))
  g_BadRules : mg "BadRules" = some (.ref (He.ga K "BadRules"))
  g_DoorError : mg "DoorError" = some (.ref (He.ga K "DoorError"))
  g_TooMany : mg "TooMany" = some (.ref (He.ga K "TooMany"))
  xs_DoorError : ∀ q ∈ ([("BadRules", true)] : List (Str × Bool)), PySem.W.exmOne K (cval ⟨K, mg⟩ q.1) (.ref (He.ga K "DoorError")) = some q.2
  xs_TooMany : ∀ q ∈ ([("TooMany", true)] : List (Str × Bool)), PySem.W.exmOne K (cval ⟨K, mg⟩ q.1) (.ref (He.ga K "TooMany")) = some q.2
  k__law_told : ∀ c, (∃ b, (c, b) ∈ ([("BadRules", true)] : List (Str × Bool))) → ∃ D0, mg c = some (.ref D0) ∧ ExcC K D0 ∧ ∀ t ∈ (["BadRules", "BadRule", "TooMany"] : List Str), ∃ A0, mg t = some (.ref A0) ∧ PySem.W.kitOne K (.ref D0) (.ref A0) = some (c == t)
  k_law : ∀ c, (∃ b, (c, b) ∈ ([("TooMany", true)] : List (Str × Bool))) → ∃ D0, mg c = some (.ref D0) ∧ ExcC K D0 ∧ ∀ t ∈ ([] : List Str), ∃ A0, mg t = some (.ref A0) ∧ PySem.W.kitOne K (.ref D0) (.ref A0) = some (c == t)
section
variable {P : Program} {w : World} {K : PySem.W.Frag} {mg : Str → Option Value} {base : Heap}
set_option maxHeartbeats 4000000 in
theorem ok_TooMany___init__ {f : Addr} {fd : FuncData} (F : FunD K "__init__" "TooMany.__init__" (defArgs st_TooMany___init__) (defBody st_TooMany___init__) (defScope st_TooMany___init__) [] [] f fd) (hmB : mg "DoorError" = some (.ref (He.ga K "DoorError"))) (hI : InitC K (He.ga K "DoorError")) : FnOk P w K mg base (L2N.CX P w) 1 f fd ["self", "what"] (spI K) :=
  fn_I F sc_TooMany___init__ (by first | exact Or.inl (by rfl) | exact Or.inr (Or.inl (by rfl))) (by first | exact Or.inl (by rfl) | exact Or.inr (Or.inl (by rfl))) (by rfl) hmB hI (by decide) (fun _ => by rfl)
set_option maxHeartbeats 4000000 in
theorem ok_is_int  {f : Addr} {fd : FuncData} (T : Tx w K mg) (F : FunD K "is_int" "is_int" (defArgs st_is_int) (defBody st_is_int) (defScope st_is_int) [] [] f fd)       : FnOk P w K mg base (L2N.CX P w) (1) f fd ["value"] (spD ⟨K, mg⟩ F_is_int 1) :=
  fn_E (m := m_is_int ) F sc_is_int (fun cdv A outer s H E hr hp W tk =>
  (s_one (s_ret (i_and (i_isa (by simp) (by rfl) T.f_isinstance (by rfl) T.f_int bi_int (i_var 0)) (i_one (i_not (i_isa (by simp) (by rfl) T.f_isinstance (by rfl) T.f_bool bi_bool (i_var 0)))))))) (r_is_int)
set_option maxHeartbeats 4000000 in
theorem ok_is_between  {f : Addr} {fd : FuncData} (T : Tx w K mg) (F : FunD K "is_between" "is_between" (defArgs st_is_between) (defBody st_is_between) (defScope st_is_between) [] [] f fd) (D_is_int : Df P w K mg base "is_int" ["value"] F_is_int 1)      : FnOk P w K mg base (L2N.CX P w) (2) f fd ["value", "least", "greatest"] (spD ⟨K, mg⟩ F_is_between 3) :=
  fn_E (m := m_is_between ) F sc_is_between (fun cdv A outer s H E hr hp W tk =>
  (s_one (s_ret (i_and (i_call D_is_int (hr.mono (by first | decide | omega)) (by rfl) tk (i_cons (i_var 0) i_nil)) (i_one (i_chain o_le d_ord o_le d_ord (i_var 1) (i_var 0) (i_var 2))))))) (r_is_between)
set_option maxHeartbeats 4000000 in
theorem ok_is_bit  {f : Addr} {fd : FuncData} (T : Tx w K mg) (F : FunD K "is_bit" "is_bit" (defArgs st_is_bit) (defBody st_is_bit) (defScope st_is_bit) [] [] f fd) (D_is_between : Df P w K mg base "is_between" ["value", "least", "greatest"] F_is_between 2)      : FnOk P w K mg base (L2N.CX P w) (3) f fd ["value"] (spD ⟨K, mg⟩ F_is_bit 1) :=
  fn_E (m := m_is_bit ) F sc_is_bit (fun cdv A outer s H E hr hp W tk =>
  (s_one (s_ret (i_call D_is_between (hr.mono (by first | decide | omega)) (by rfl) tk (i_cons (i_var 0) (i_cons i_int (i_cons i_int i_nil))))))) (r_is_bit)
set_option maxHeartbeats 4000000 in
theorem ok_is_tuple_of  {f : Addr} {fd : FuncData} (T : Tx w K mg) (F : FunD K "is_tuple_of" "is_tuple_of" (defArgs st_is_tuple_of) (defBody st_is_tuple_of) (defScope st_is_tuple_of) [] [] f fd)       : FnOk P w K mg base (L2N.CX P w) (1) f fd ["value", "length"] (spD ⟨K, mg⟩ F_is_tuple_of 2) :=
  fn_E (m := m_is_tuple_of ) F sc_is_tuple_of (fun cdv A outer s H E hr hp W tk =>
  (s_one (s_ret (i_and (i_isa (by simp) (by rfl) T.f_isinstance (by rfl) T.f_tuple bi_tuple (i_var 0)) (i_one (i_cmp (o_eq (hu_r hr)) d_eq (i_callB call_len d_len (by rfl) T.f_len bi_len (i_cons (i_var 0) i_nil)) (i_var 1))))))) (r_is_tuple_of)
set_option maxHeartbeats 4000000 in
theorem ok_is_told_number  {f : Addr} {fd : FuncData} (T : Tx w K mg) (F : FunD K "is_told_number" "is_told_number" (defArgs st_is_told_number) (defBody st_is_told_number) (defScope st_is_told_number) [] [] f fd) (D_is_between : Df P w K mg base "is_between" ["value", "least", "greatest"] F_is_between 2)      : FnOk P w K mg base (L2N.CX P w) (3) f fd ["value"] (spD ⟨K, mg⟩ F_is_told_number 1) :=
  fn_E (m := m_is_told_number ) F sc_is_told_number (fun cdv A outer s H E hr hp W tk =>
  (s_one (s_ret (i_call D_is_between (hr.mono (by first | decide | omega)) (by rfl) tk (i_cons (i_var 0) (i_cons i_int (i_cons (i_glob (by rfl) (by exact T.c_TOP)) i_nil))))))) (r_is_told_number)
set_option maxHeartbeats 4000000 in
theorem ok_is_told_range  {f : Addr} {fd : FuncData} (T : Tx w K mg) (F : FunD K "is_told_range" "is_told_range" (defArgs st_is_told_range) (defBody st_is_told_range) (defScope st_is_told_range) [] [] f fd) (D_is_tuple_of : Df P w K mg base "is_tuple_of" ["value", "length"] F_is_tuple_of 1) (D_is_told_number : Df P w K mg base "is_told_number" ["value"] F_is_told_number 3)      : FnOk P w K mg base (L2N.CX P w) (4) f fd ["value"] (spD ⟨K, mg⟩ F_is_told_range 1) :=
  fn_E (m := m_is_told_range ) F sc_is_told_range (fun cdv A outer s H E hr hp W tk =>
  (s_one (s_ret (i_and (i_call D_is_tuple_of (hr.mono (by first | decide | omega)) (by rfl) tk (i_cons (i_var 0) (i_cons i_int i_nil))) (i_and (i_call D_is_told_number (hr.mono (by first | decide | omega)) (by rfl) tk (i_cons (i_ix ix_seq d_ix (i_var 0) i_int) i_nil)) (i_one (i_call D_is_told_number (hr.mono (by first | decide | omega)) (by rfl) tk (i_cons (i_ix ix_seq d_ix (i_var 0) i_int) i_nil)))))))) (r_is_told_range)
set_option maxHeartbeats 4000000 in
theorem ok_is_told_rule  {f : Addr} {fd : FuncData} (T : Tx w K mg) (F : FunD K "is_told_rule" "is_told_rule" (defArgs st_is_told_rule) (defBody st_is_told_rule) (defScope st_is_told_rule) [] [] f fd) (D_is_tuple_of : Df P w K mg base "is_tuple_of" ["value", "length"] F_is_tuple_of 1) (D_is_bit : Df P w K mg base "is_bit" ["value"] F_is_bit 3) (D_is_told_range : Df P w K mg base "is_told_range" ["value"] F_is_told_range 4)      : FnOk P w K mg base (L2N.CX P w) (5) f fd ["value"] (spD ⟨K, mg⟩ F_is_told_rule 1) :=
  fn_E (m := m_is_told_rule ) F sc_is_told_rule (fun cdv A outer s H E hr hp W tk =>
  (s_cons (s_if (i_tor (i_tnot (i_truth (i_call D_is_tuple_of (hr.mono (by first | decide | omega)) (by rfl) tk (i_cons (i_var 0) (i_cons (i_bin o_add d_add i_int (i_glob (by rfl) (by exact T.c_RANGES_OF_A_RULE))) i_nil))))) (i_or1 (i_tnot (i_truth (i_call D_is_bit (hr.mono (by first | decide | omega)) (by rfl) tk (i_cons (i_ix ix_seq d_ix (i_var 0) i_int) i_nil)))))).pt
  (s_one (s_ret i_bl))
  s_nil)
  (s_one (s_ret (i_and (i_call D_is_told_range (hr.mono (by first | decide | omega)) (by rfl) tk (i_cons (i_ix ix_seq d_ix (i_var 0) i_int) i_nil)) (i_and (i_call D_is_told_range (hr.mono (by first | decide | omega)) (by rfl) tk (i_cons (i_ix ix_seq d_ix (i_var 0) i_int) i_nil)) (i_one (i_call D_is_told_range (hr.mono (by first | decide | omega)) (by rfl) tk (i_cons (i_ix ix_seq d_ix (i_var 0) i_int) i_nil))))))))) (r_is_told_rule)
set_option maxHeartbeats 4000000 in
theorem ok_is_range  {f : Addr} {fd : FuncData} (T : Tx w K mg) (F : FunD K "is_range" "is_range" (defArgs st_is_range) (defBody st_is_range) (defScope st_is_range) [] [] f fd) (D_is_told_range : Df P w K mg base "is_told_range" ["value"] F_is_told_range 4)      : FnOk P w K mg base (L2N.CX P w) (5) f fd ["value"] (spD ⟨K, mg⟩ F_is_range 1) :=
  fn_E (m := m_is_range ) F sc_is_range (fun cdv A outer s H E hr hp W tk =>
  (s_one (s_ret (i_and (i_call D_is_told_range (hr.mono (by first | decide | omega)) (by rfl) tk (i_cons (i_var 0) i_nil)) (i_one (i_cmp o_le d_ord (i_ix ix_seq d_ix (i_var 0) i_int) (i_ix ix_seq d_ix (i_var 0) i_int))))))) (r_is_range)
set_option maxHeartbeats 4000000 in
theorem ok_is_rule  {f : Addr} {fd : FuncData} (T : Tx w K mg) (F : FunD K "is_rule" "is_rule" (defArgs st_is_rule) (defBody st_is_rule) (defScope st_is_rule) [] [] f fd) (D_is_told_rule : Df P w K mg base "is_told_rule" ["value"] F_is_told_rule 5) (D_is_range : Df P w K mg base "is_range" ["value"] F_is_range 5)      : FnOk P w K mg base (L2N.CX P w) (6) f fd ["value"] (spD ⟨K, mg⟩ F_is_rule 1) :=
  fn_E (m := m_is_rule ) F sc_is_rule (fun cdv A outer s H E hr hp W tk =>
  (s_cons (s_if (i_tnot (i_truth (i_call D_is_told_rule (hr.mono (by first | decide | omega)) (by rfl) tk (i_cons (i_var 0) i_nil))))
  (s_one (s_ret i_bl))
  s_nil)
  (s_one (s_ret (i_and (i_call D_is_range (hr.mono (by first | decide | omega)) (by rfl) tk (i_cons (i_ix ix_seq d_ix (i_var 0) i_int) i_nil)) (i_and (i_call D_is_range (hr.mono (by first | decide | omega)) (by rfl) tk (i_cons (i_ix ix_seq d_ix (i_var 0) i_int) i_nil)) (i_one (i_call D_is_range (hr.mono (by first | decide | omega)) (by rfl) tk (i_cons (i_ix ix_seq d_ix (i_var 0) i_int) i_nil))))))))) (r_is_rule)
set_option maxHeartbeats 4000000 in
theorem ok_is_rules  {f : Addr} {fd : FuncData} (T : Tx w K mg) (F : FunD K "is_rules" "is_rules" (defArgs st_is_rules) (defBody st_is_rules) (defScope st_is_rules) [] [] f fd) (D_is_rule : Df P w K mg base "is_rule" ["value"] F_is_rule 6)      : FnOk P w K mg base (L2N.CX P w) (7) f fd ["value"] (spD ⟨K, mg⟩ F_is_rules 1) :=
  fn_E (m := m_is_rules ) F sc_is_rules (fun cdv A outer s H E hr hp W tk =>
  (s_cons (s_if (i_tor (i_tnot (i_truth (i_isa (by simp) (by rfl) T.f_isinstance (by rfl) T.f_tuple bi_tuple (i_var 0)))) (i_or1 (i_tcmp o_gt d_ord (i_callB call_len d_len (by rfl) T.f_len bi_len (i_cons (i_var 0) i_nil)) (i_glob (by rfl) (by exact T.c_MOST_RULES))))).pt
  (s_one (s_ret i_bl))
  s_nil)
  (s_cons (s_for hp (by rfl) (i_var 0) (g_nm 1 sc_is_rules.nd)
  (s_one (s_if (i_tnot (i_truth (i_call D_is_rule (hr.mono (by first | decide | omega)) (by rfl) tk (i_cons (i_var 1) i_nil))))
  (s_one (s_ret i_bl))
  s_nil)))
  (s_one (s_ret i_bl))))) (r_is_rules)
set_option maxHeartbeats 4000000 in
theorem ok_check_rules  {f : Addr} {fd : FuncData} (T : Tx w K mg) (F : FunD K "check_rules" "check_rules" (defArgs st_check_rules) (defBody st_check_rules) (defScope st_check_rules) [] [] f fd) (D_is_rules : Df P w K mg base "is_rules" ["value"] F_is_rules 7)      : FnOk P w K mg base (L2N.CX P w) (8) f fd ["value"] (spD ⟨K, mg⟩ F_check_rules 1) :=
  fn_E (m := m_check_rules ) F sc_check_rules (fun cdv A outer s H E hr hp W tk =>
  (s_one (s_if (i_tnot (i_truth (i_call D_is_rules (hr.mono (by first | decide | omega)) (by rfl) tk (i_cons (i_var 0) i_nil))))
  (s_one (s_raise T.x_BadRules (by rfl) tk (by rfl)))
  s_nil))) (r_check_rules)
set_option maxHeartbeats 4000000 in
theorem ok_check_few  {f : Addr} {fd : FuncData} (T : Tx w K mg) (F : FunD K "check_few" "check_few" (defArgs st_check_few) (defBody st_check_few) (defScope st_check_few) [] [] f fd)    (X_TooMany : ExI P w K mg base "TooMany" 1)   : FnOk P w K mg base (L2N.CX P w) (3) f fd ["rules"] (spD ⟨K, mg⟩ F_check_few 1) :=
  fn_E (m := m_check_few ) F sc_check_few (fun cdv A outer s H E hr hp W tk =>
  (s_one (s_if (i_tcmp o_gt d_ord (i_callB call_len d_len (by rfl) T.f_len bi_len (i_cons (i_var 0) i_nil)) (i_glob (by rfl) (by exact T.c_MOST_LOOKED_AT)))
  (s_one (s_raiseF X_TooMany (hr.mono (by first | decide | omega)) (by rfl) tk (by rfl)))
  s_nil))) (r_check_few)
set_option maxHeartbeats 4000000 in
theorem ok_check_boxes  {f : Addr} {fd : FuncData} (T : Tx w K mg) (F : FunD K "check_boxes" "check_boxes" (defArgs st_check_boxes) (defBody st_check_boxes) (defScope st_check_boxes) [] [] f fd)    (X_TooMany : ExI P w K mg base "TooMany" 1)   : FnOk P w K mg base (L2N.CX P w) (3) f fd ["cuts"] (spD ⟨K, mg⟩ F_check_boxes 1) :=
  fn_E (m := m_check_boxes ) F sc_check_boxes (fun cdv A outer s H E hr hp W tk =>
  (s_cons (s_asg (i_var 0) (g_tup (by rfl) (g_cons (g_nm 1 sc_check_boxes.nd) (g_cons (g_nm 2 sc_check_boxes.nd) (g_cons (g_nm 3 sc_check_boxes.nd) g_nil)))))
  (s_one (s_if (i_tcmp o_gt d_ord (i_bin o_mul d_mul (i_bin o_mul d_mul (i_callB call_len d_len (by rfl) T.f_len bi_len (i_cons (i_var 1) i_nil)) (i_callB call_len d_len (by rfl) T.f_len bi_len (i_cons (i_var 2) i_nil))) (i_callB call_len d_len (by rfl) T.f_len bi_len (i_cons (i_var 3) i_nil))) (i_glob (by rfl) (by exact T.c_MOST_BOXES)))
  (s_one (s_raiseF X_TooMany (hr.mono (by first | decide | omega)) (by rfl) tk (by rfl)))
  s_nil)))) (r_check_boxes)
set_option maxHeartbeats 4000000 in
theorem ok_cuts_at  {f : Addr} {fd : FuncData} (T : Tx w K mg) (F : FunD K "cuts_at" "cuts_at" (defArgs st_cuts_at) (defBody st_cuts_at) (defScope st_cuts_at) [] [] f fd)       : FnOk P w K mg base (L2N.CX P w) (1) f fd ["walls", "place"] (spD ⟨K, mg⟩ F_cuts_at 2) :=
  fn_E (m := m_cuts_at ) F sc_cuts_at (fun cdv A outer s H E hr hp W tk =>
  (s_cons (s_set 2 (i_disp (p_cons i_int i_bl p_nil)) sc_cuts_at.nd)
  (s_cons (s_for hp (by rfl) (i_var 0) (g_nm 3 sc_cuts_at.nd)
  (s_one (s_for hp (by rfl) (i_var 3) (g_nm 4 sc_cuts_at.nd)
  (s_cons (s_asg (i_ix ix_seq d_ix (i_var 4) (i_bin o_add d_add i_int (i_var 1))) (g_tup (by rfl) (g_cons (g_nm 5 sc_cuts_at.nd) (g_cons (g_nm 6 sc_cuts_at.nd) g_nil))))
  (s_cons (s_dput (hu_1 hr) (i_var 2) (i_var 5) i_bl)
  (s_one (s_if (i_tcmp o_lt d_ord (i_var 6) (i_glob (by rfl) (by exact T.c_TOP)))
  (s_one (s_dput (hu_1 hr) (i_var 2) (i_bin o_add d_add (i_var 6) i_int) i_bl))
  s_nil)))))))
  (s_one (s_ret (i_callTy o_tuple d_tuple (by rfl) T.f_tuple bi_tuple (i_cons (i_callB (o_sorted (by rfl)) d_sorted (by rfl) T.f_sorted bi_sorted (i_cons (i_var 2) i_nil)) i_nil))))))) (r_cuts_at)
set_option maxHeartbeats 4000000 in
theorem ok_cuts_of  {f : Addr} {fd : FuncData} (T : Tx w K mg) (F : FunD K "cuts_of" "cuts_of" (defArgs st_cuts_of) (defBody st_cuts_of) (defScope st_cuts_of) [] [] f fd) (D_cuts_at : Df P w K mg base "cuts_at" ["walls", "place"] F_cuts_at 1) (D_check_boxes : Df P w K mg base "check_boxes" ["cuts"] F_check_boxes 3)      : FnOk P w K mg base (L2N.CX P w) (4) f fd ["walls"] (spD ⟨K, mg⟩ F_cuts_of 1) :=
  fn_E (m := m_cuts_of ) F sc_cuts_of (fun cdv A outer s H E hr hp W tk =>
  (s_cons (s_set 1 (i_callTy o_tuple d_tuple (by rfl) T.f_tuple bi_tuple (i_cons (i_lc (own := [("place", 2)]) (by rfl) sc_cuts_of.nd (wi_row (i_glob (by rfl) (by exact T.c_PLACES))) (blkOk_by (N := ["walls", "cuts", "place"]) (sc := defScope st_cuts_of) (by decide +kernel)) (own_nm (by decide)) (fun _ _ _ _ _ => pg_name (i := 2) sc_cuts_of.nd (by rfl) (by first | exact Or.inl (by rfl) | exact Or.inr (by rfl))) (by exact fun _ _ _ _ _ => pts_yes) (by exact fun _ _ _ _ _ => (i_callI (X := cxOf (L2N.CX P w) P w K mg base ["walls", "cuts", "place"] "cuts_of" (defScope st_cuts_of) f cdv A outer s H E) D_cuts_at (hr.mono (by first | decide | omega)) (by rfl) tk0 (i_cons (i_var 0) (i_cons (i_var 2) i_nil))))) i_nil)) sc_cuts_of.nd)
  (s_cons (s_expr (i_call D_check_boxes (hr.mono (by first | decide | omega)) (by rfl) tk (i_cons (i_var 1) i_nil)))
  (s_one (s_ret (i_var 1)))))) (r_cuts_of)
set_option maxHeartbeats 4000000 in
theorem ok_lowest  {f : Addr} {fd : FuncData} (T : Tx w K mg) (F : FunD K "lowest" "lowest" (defArgs st_lowest) (defBody st_lowest) (defScope st_lowest) [] [] f fd)       : FnOk P w K mg base (L2N.CX P w) (1) f fd ["mask"] (spD ⟨K, mg⟩ F_lowest 1) :=
  fn_E (m := m_lowest ) F sc_lowest (fun cdv A outer s H E hr hp W tk =>
  (s_one (s_ret (i_bin op_sub d_sub (i_bits (i_bin op_and d_band (i_var 0) (i_un un_neg d_neg (i_var 0)))) i_int)))) (r_lowest)
set_option maxHeartbeats 4000000 in
theorem ok_without_lowest  {f : Addr} {fd : FuncData} (T : Tx w K mg) (F : FunD K "without_lowest" "without_lowest" (defArgs st_without_lowest) (defBody st_without_lowest) (defScope st_without_lowest) [] [] f fd)       : FnOk P w K mg base (L2N.CX P w) (1) f fd ["mask"] (spD ⟨K, mg⟩ F_without_lowest 1) :=
  fn_E (m := m_without_lowest ) F sc_without_lowest (fun cdv A outer s H E hr hp W tk =>
  (s_one (s_ret (i_bin op_and d_band (i_var 0) (i_bin op_sub d_sub (i_var 0) i_int))))) (r_without_lowest)
set_option maxHeartbeats 4000000 in
theorem ok_masks_at  {f : Addr} {fd : FuncData} (T : Tx w K mg) (F : FunD K "masks_at" "masks_at" (defArgs st_masks_at) (defBody st_masks_at) (defScope st_masks_at) [] [] f fd)       : FnOk P w K mg base (L2N.CX P w) (1) f fd ["rules", "cuts", "place"] (spD ⟨K, mg⟩ F_masks_at 3) :=
  fn_E (m := m_masks_at ) F sc_masks_at (fun cdv A outer s H E hr hp W tk =>
  (s_cons (s_set 3 (i_bin o_mul d_mul (i_lst (i_cons i_int i_nil)) (i_callB call_len d_len (by rfl) T.f_len bi_len (i_cons (i_var 1) i_nil))) sc_masks_at.nd)
  (s_cons (s_set 4 i_dict0 sc_masks_at.nd)
  (s_cons (s_forW hp (by rfl) (wi_enumT (by rfl) T.f_enumerate (i_cons (i_var 1) i_nil)) (g_tup (by rfl) (g_cons (g_nm 5 sc_masks_at.nd) (g_cons (g_nm 6 sc_masks_at.nd) g_nil)))
  (s_one (s_dput (hu_1 hr) (i_var 4) (i_var 6) (i_var 5))))
  (s_cons (s_forW hp (by rfl) (wi_enumT (by rfl) T.f_enumerate (i_cons (i_var 0) i_nil)) (g_tup (by rfl) (g_cons (g_nm 7 sc_masks_at.nd) (g_cons (g_nm 8 sc_masks_at.nd) g_nil)))
  (s_cons (s_asg (i_ix ix_seq d_ix (i_var 8) (i_bin o_add d_add i_int (i_var 2))) (g_tup (by rfl) (g_cons (g_nm 11 sc_masks_at.nd) (g_cons (g_nm 12 sc_masks_at.nd) g_nil))))
  (s_cons (s_set 9 (i_dget (hu_1 hr) (i_var 4) (i_var 11)) sc_masks_at.nd)
  (s_cons (s_set 10 (i_ifx (i_tcmp o_lt d_ord (i_var 12) (i_glob (by rfl) (by exact T.c_TOP))) (i_dget (hu_1 hr) (i_var 4) (i_bin o_add d_add (i_var 12) i_int)) (i_callB call_len d_len (by rfl) T.f_len bi_len (i_cons (i_var 1) i_nil))) sc_masks_at.nd)
  (s_one (s_range2 hp (by rfl) (by rfl) T.f_range (i_cons (i_var 9) (i_cons (i_var 10) i_nil)) (g_nm 5 sc_masks_at.nd)
  (s_one (s_asg (i_bin op_or d_bor (i_ix ix_seq d_ix (i_var 3) (i_var 5)) (i_bin op_shl d_shl i_int (i_var 7))) (g_sub (W := W) (i_var 3) (i_var 5))))))))))
  (s_one (s_ret (i_var 3)))))))) (r_masks_at)
set_option maxHeartbeats 4000000 in
theorem ok_Grid___init__  {f : Addr} {fd : FuncData} (T : Tx w K mg) (F : FunD K "__init__" "Grid.__init__" (defArgs st_Grid___init__) (defBody st_Grid___init__) (defScope st_Grid___init__) [] [] f fd) (D_masks_at : Df P w K mg base "masks_at" ["rules", "cuts", "place"] F_masks_at 1)      : FnOk P w K mg base (L2N.CX P w) (2) f fd ["self", "rules", "cuts"] (spD ⟨K, mg⟩ F_Grid___init__ 3) :=
  fn_E (m := m_Grid___init__ ) F sc_Grid___init__ (fun cdv A outer s H E hr hp W tk =>
  (s_cons (s_fld T.a_Grid (by simp) (i_var 0) (i_var 1))
  (s_cons (s_fld T.a_Grid (by simp) (i_var 0) (i_var 2))
  (s_cons (s_fld T.a_Grid (by simp) (i_var 0) (i_lc (own := [("place", 5)]) (by rfl) sc_Grid___init__.nd (wi_row (i_glob (by rfl) (by exact T.c_PLACES))) (blkOk_by (N := ["self", "rules", "cuts", "number", "rule", "place"]) (sc := defScope st_Grid___init__) (by decide +kernel)) (own_nm (by decide)) (fun _ _ _ _ _ => pg_name (i := 5) sc_Grid___init__.nd (by rfl) (by first | exact Or.inl (by rfl) | exact Or.inr (by rfl))) (by exact fun _ _ _ _ _ => pts_yes) (by exact fun _ _ _ _ _ => (i_callI (X := cxOf (L2N.CX P w) P w K mg base ["self", "rules", "cuts", "number", "rule", "place"] "Grid.__init__" (defScope st_Grid___init__) f cdv A outer s H E) D_masks_at (hr.mono (by first | decide | omega)) (by rfl) tk0 (i_cons (i_var 1) (i_cons (i_ix ix_seq d_ix (i_var 2) (i_var 5)) (i_cons (i_var 5) i_nil)))))))
  (s_cons (s_fld T.a_Grid (by simp) (i_var 0) i_int)
  (s_one (s_forW hp (by rfl) (wi_enumT (by rfl) T.f_enumerate (i_cons (i_var 1) i_nil)) (g_tup (by rfl) (g_cons (g_nm 3 sc_Grid___init__.nd) (g_cons (g_nm 4 sc_Grid___init__.nd) g_nil)))
  (s_one (s_if (i_truth (i_ix ix_seq d_ix (i_var 4) i_int))
  (s_one (s_fld T.a_Grid (by simp) (i_var 0) (i_bin op_or d_bor (i_fld T.a_Grid (by simp) (i_var 0)) (i_bin op_shl d_shl i_int (i_var 3)))))
  s_nil))))))))) (r_Grid___init__)
set_option maxHeartbeats 4000000 in
theorem ok_Grid_lets  {f : Addr} {fd : FuncData} (T : Tx w K mg) (F : FunD K "lets" "Grid.lets" (defArgs st_Grid_lets) (defBody st_Grid_lets) (defScope st_Grid_lets) [] [] f fd)       : FnOk P w K mg base (L2N.CX P w) (1) f fd ["self", "mask"] (spD ⟨K, mg⟩ F_Grid_lets 2) :=
  fn_E (m := m_Grid_lets ) F sc_Grid_lets (fun cdv A outer s H E hr hp W tk =>
  (s_one (s_ret (i_ifx (i_truth (i_bin op_and d_band (i_bin op_and d_band (i_var 1) (i_un un_neg d_neg (i_var 1))) (i_fld T.a_Grid (by simp) (i_var 0)))) i_int i_int)))) (r_Grid_lets)
set_option maxHeartbeats 4000000 in
theorem ok_Grid_mask  {f : Addr} {fd : FuncData} (T : Tx w K mg) (F : FunD K "mask" "Grid.mask" (defArgs st_Grid_mask) (defBody st_Grid_mask) (defScope st_Grid_mask) [] [] f fd)       : FnOk P w K mg base (L2N.CX P w) (1) f fd ["self", "box"] (spD ⟨K, mg⟩ F_Grid_mask 2) :=
  fn_E (m := m_Grid_mask ) F sc_Grid_mask (fun cdv A outer s H E hr hp W tk =>
  (s_cons (s_asg (i_var 1) (g_tup (by rfl) (g_cons (g_nm 2 sc_Grid_mask.nd) (g_cons (g_nm 3 sc_Grid_mask.nd) (g_cons (g_nm 4 sc_Grid_mask.nd) g_nil)))))
  (s_one (s_ret (i_bin op_and d_band (i_bin op_and d_band (i_ix ix_seq d_ix (i_ix ix_seq d_ix (i_fld T.a_Grid (by simp) (i_var 0)) i_int) (i_var 2)) (i_ix ix_seq d_ix (i_ix ix_seq d_ix (i_fld T.a_Grid (by simp) (i_var 0)) i_int) (i_var 3))) (i_ix ix_seq d_ix (i_ix ix_seq d_ix (i_fld T.a_Grid (by simp) (i_var 0)) i_int) (i_var 4))))))) (r_Grid_mask)
set_option maxHeartbeats 4000000 in
theorem ok_Grid_distinct  {f : Addr} {fd : FuncData} (T : Tx w K mg) (F : FunD K "distinct" "Grid.distinct" (defArgs st_Grid_distinct) (defBody st_Grid_distinct) (defScope st_Grid_distinct) [] [] f fd)       : FnOk P w K mg base (L2N.CX P w) (1) f fd ["self"] (spD ⟨K, mg⟩ F_Grid_distinct 1) :=
  fn_E (m := m_Grid_distinct ) F sc_Grid_distinct (fun cdv A outer s H E hr hp W tk =>
  (s_cons (s_set 1 i_dict0 sc_Grid_distinct.nd)
  (s_cons (s_for hp (by rfl) (i_ix ix_seq d_ix (i_fld T.a_Grid (by simp) (i_var 0)) i_int) (g_nm 2 sc_Grid_distinct.nd)
  (s_one (s_for hp (by rfl) (i_ix ix_seq d_ix (i_fld T.a_Grid (by simp) (i_var 0)) i_int) (g_nm 5 sc_Grid_distinct.nd)
  (s_one (s_dput (hu_1 hr) (i_var 1) (i_bin op_and d_band (i_var 2) (i_var 5)) i_bl)))))
  (s_cons (s_set 3 i_dict0 sc_Grid_distinct.nd)
  (s_cons (s_forD hp (by rfl) (i_var 1) (g_nm 4 sc_Grid_distinct.nd)
  (s_one (s_for hp (by rfl) (i_ix ix_seq d_ix (i_fld T.a_Grid (by simp) (i_var 0)) i_int) (g_nm 6 sc_Grid_distinct.nd)
  (s_one (s_dput (hu_1 hr) (i_var 3) (i_bin op_and d_band (i_var 4) (i_var 6)) i_bl)))))
  (s_one (s_ret (i_callB (o_sorted (by rfl)) d_sorted (by rfl) T.f_sorted bi_sorted (i_cons (i_var 3) i_nil))))))))) (r_Grid_distinct)
set_option maxHeartbeats 4000000 in
theorem ok_first_ones  {f : Addr} {fd : FuncData} (T : Tx w K mg) (F : FunD K "first_ones" "first_ones" (defArgs st_first_ones) (defBody st_first_ones) (defScope st_first_ones) [] [] f fd) (D_lowest : Df P w K mg base "lowest" ["mask"] F_lowest 1)      : FnOk P w K mg base (L2N.CX P w) (2) f fd ["masks"] (spD ⟨K, mg⟩ F_first_ones 1) :=
  fn_E (m := m_first_ones ) F sc_first_ones (fun cdv A outer s H E hr hp W tk =>
  (s_cons (s_set 1 i_dict0 sc_first_ones.nd)
  (s_cons (s_for hp (by rfl) (i_var 0) (g_nm 2 sc_first_ones.nd)
  (s_one (s_if (i_truth (i_var 2))
  (s_one (s_dput (hu_1 hr) (i_var 1) (i_call D_lowest (hr.mono (by first | decide | omega)) (by rfl) tk (i_cons (i_var 2) i_nil)) i_bl))
  s_nil)))
  (s_one (s_ret (i_var 1)))))) (r_first_ones)
set_option maxHeartbeats 4000000 in
theorem ok_hidden_numbers  {f : Addr} {fd : FuncData} (T : Tx w K mg) (F : FunD K "hidden_numbers" "hidden_numbers" (defArgs st_hidden_numbers) (defBody st_hidden_numbers) (defScope st_hidden_numbers) [] [] f fd) (D_first_ones : Df P w K mg base "first_ones" ["masks"] F_first_ones 2)      : FnOk P w K mg base (L2N.CX P w) (3) f fd ["masks", "count"] (spD ⟨K, mg⟩ F_hidden_numbers 2) :=
  fn_E (m := m_hidden_numbers ) F sc_hidden_numbers (fun cdv A outer s H E hr hp W tk =>
  (s_cons (s_set 2 (i_call D_first_ones (hr.mono (by first | decide | omega)) (by rfl) tk (i_cons (i_var 0) i_nil)) sc_hidden_numbers.nd)
  (s_one (s_ret (i_callTy o_tuple d_tuple (by rfl) T.f_tuple bi_tuple (i_cons (i_lc (own := [("number", 3)]) (by rfl) sc_hidden_numbers.nd (wi_rng1 (by rfl) T.f_range (i_cons (i_var 1) i_nil)) (blkOk_by (N := ["masks", "count", "shown", "number"]) (sc := defScope st_hidden_numbers) (by decide +kernel)) (own_nm (by decide)) (fun _ _ _ _ _ => pg_name (i := 3) sc_hidden_numbers.nd (by rfl) (by first | exact Or.inl (by rfl) | exact Or.inr (by rfl))) (by exact fun _ _ _ _ _ => (pts_one (i_tdnotin (hu_1 hr) (i_var 3) (i_var 2)))) (by exact fun _ _ _ _ _ => (i_var 3))) i_nil)))))) (r_hidden_numbers)
set_option maxHeartbeats 4000000 in
theorem ok_is_told_by_first  {f : Addr} {fd : FuncData} (T : Tx w K mg) (F : FunD K "is_told_by_first" "is_told_by_first" (defArgs st_is_told_by_first) (defBody st_is_told_by_first) (defScope st_is_told_by_first) [] [] f fd) (D_without_lowest : Df P w K mg base "without_lowest" ["mask"] F_without_lowest 1) (M_Grid_lets : Dm P w K mg base "Grid" "lets" ["self", "mask"] F_Grid_lets 1)     : FnOk P w K mg base (L2N.CX P w) (2) f fd ["grid", "mask"] (spD ⟨K, mg⟩ F_is_told_by_first 2) :=
  fn_E (m := m_is_told_by_first ) F sc_is_told_by_first (fun cdv A outer s H E hr hp W tk =>
  (s_one (s_ret (i_and (i_cmp (o_ne (hu_r hr)) d_ne (i_var 1) i_int) (i_one (i_cmp (o_ne (hu_r hr)) d_ne (i_meth M_Grid_lets (hr.mono (by first | decide | omega)) tk (i_var 0) (i_cons (i_var 1) i_nil)) (i_meth M_Grid_lets (hr.mono (by first | decide | omega)) tk (i_var 0) (i_cons (i_call D_without_lowest (hr.mono (by first | decide | omega)) (by rfl) tk (i_cons (i_var 1) i_nil)) i_nil)))))))) (r_is_told_by_first)
set_option maxHeartbeats 4000000 in
theorem ok_idle_numbers  {f : Addr} {fd : FuncData} (T : Tx w K mg) (F : FunD K "idle_numbers" "idle_numbers" (defArgs st_idle_numbers) (defBody st_idle_numbers) (defScope st_idle_numbers) [] [] f fd) (D_is_told_by_first : Df P w K mg base "is_told_by_first" ["grid", "mask"] F_is_told_by_first 2) (D_lowest : Df P w K mg base "lowest" ["mask"] F_lowest 1)      : FnOk P w K mg base (L2N.CX P w) (3) f fd ["grid", "masks", "count"] (spD ⟨K, mg⟩ F_idle_numbers 3) :=
  fn_E (m := m_idle_numbers ) F sc_idle_numbers (fun cdv A outer s H E hr hp W tk =>
  (s_cons (s_set 3 i_dict0 sc_idle_numbers.nd)
  (s_cons (s_for hp (by rfl) (i_var 1) (g_nm 4 sc_idle_numbers.nd)
  (s_one (s_if (i_truth (i_call D_is_told_by_first (hr.mono (by first | decide | omega)) (by rfl) tk (i_cons (i_var 0) (i_cons (i_var 4) i_nil))))
  (s_one (s_dput (hu_1 hr) (i_var 3) (i_call D_lowest (hr.mono (by first | decide | omega)) (by rfl) tk (i_cons (i_var 4) i_nil)) i_bl))
  s_nil)))
  (s_one (s_ret (i_callTy o_tuple d_tuple (by rfl) T.f_tuple bi_tuple (i_cons (i_lc (own := [("number", 5)]) (by rfl) sc_idle_numbers.nd (wi_rng1 (by rfl) T.f_range (i_cons (i_var 2) i_nil)) (blkOk_by (N := ["grid", "masks", "count", "needed", "mask", "number"]) (sc := defScope st_idle_numbers) (by decide +kernel)) (own_nm (by decide)) (fun _ _ _ _ _ => pg_name (i := 5) sc_idle_numbers.nd (by rfl) (by first | exact Or.inl (by rfl) | exact Or.inr (by rfl))) (by exact fun _ _ _ _ _ => (pts_one (i_tdnotin (hu_1 hr) (i_var 5) (i_var 3)))) (by exact fun _ _ _ _ _ => (i_var 5))) i_nil))))))) (r_idle_numbers)
set_option maxHeartbeats 4000000 in
theorem ok_looked_at  {f : Addr} {fd : FuncData} (T : Tx w K mg) (F : FunD K "looked_at" "looked_at" (defArgs st_looked_at) (defBody st_looked_at) (defScope st_looked_at) [] [] f fd) (D_check_rules : Df P w K mg base "check_rules" ["value"] F_check_rules 8) (D_check_few : Df P w K mg base "check_few" ["rules"] F_check_few 3) (D_cuts_of : Df P w K mg base "cuts_of" ["walls"] F_cuts_of 4)  (I_Grid : Di P w K mg base "Grid" ["self", "rules", "cuts"] F_Grid___init__ 2)    : FnOk P w K mg base (L2N.CX P w) (9) f fd ["rules"] (spD ⟨K, mg⟩ F_looked_at 1) :=
  fn_E (m := m_looked_at ) F sc_looked_at (fun cdv A outer s H E hr hp W tk =>
  (s_cons (s_expr (i_call D_check_rules (hr.mono (by first | decide | omega)) (by rfl) tk (i_cons (i_var 0) i_nil)))
  (s_cons (s_expr (i_call D_check_few (hr.mono (by first | decide | omega)) (by rfl) tk (i_cons (i_var 0) i_nil)))
  (s_one (s_ret (i_make I_Grid (hr.mono (by first | decide | omega)) (by rfl) tk (i_cons (i_var 0) (i_cons (i_call D_cuts_of (hr.mono (by first | decide | omega)) (by rfl) tk (i_cons (i_tup (i_cons (i_var 0) i_nil)) i_nil)) i_nil)))))))) (r_looked_at)
set_option maxHeartbeats 4000000 in
theorem ok_hidden  {f : Addr} {fd : FuncData} (T : Tx w K mg) (F : FunD K "hidden" "hidden" (defArgs st_hidden) (defBody st_hidden) (defScope st_hidden) [] [] f fd) (D_looked_at : Df P w K mg base "looked_at" ["rules"] F_looked_at 9) (D_hidden_numbers : Df P w K mg base "hidden_numbers" ["masks", "count"] F_hidden_numbers 3) (M_Grid_distinct : Dm P w K mg base "Grid" "distinct" ["self"] F_Grid_distinct 1)     : FnOk P w K mg base (L2N.CX P w) (10) f fd ["rules"] (spD ⟨K, mg⟩ F_hidden 1) :=
  fn_E (m := m_hidden ) F sc_hidden (fun cdv A outer s H E hr hp W tk =>
  (s_cons (s_set 1 (i_call D_looked_at (hr.mono (by first | decide | omega)) (by rfl) tk (i_cons (i_var 0) i_nil)) sc_hidden.nd)
  (s_one (s_ret (i_call D_hidden_numbers (hr.mono (by first | decide | omega)) (by rfl) tk (i_cons (i_meth0 M_Grid_distinct (hr.mono (by first | decide | omega)) tk (i_var 1)) (i_cons (i_callB call_len d_len (by rfl) T.f_len bi_len (i_cons (i_var 0) i_nil)) i_nil))))))) (r_hidden)
set_option maxHeartbeats 4000000 in
theorem ok_idle  {f : Addr} {fd : FuncData} (T : Tx w K mg) (F : FunD K "idle" "idle" (defArgs st_idle) (defBody st_idle) (defScope st_idle) [] [] f fd) (D_looked_at : Df P w K mg base "looked_at" ["rules"] F_looked_at 9) (D_idle_numbers : Df P w K mg base "idle_numbers" ["grid", "masks", "count"] F_idle_numbers 3) (M_Grid_distinct : Dm P w K mg base "Grid" "distinct" ["self"] F_Grid_distinct 1)     : FnOk P w K mg base (L2N.CX P w) (10) f fd ["rules"] (spD ⟨K, mg⟩ F_idle 1) :=
  fn_E (m := m_idle ) F sc_idle (fun cdv A outer s H E hr hp W tk =>
  (s_cons (s_set 1 (i_call D_looked_at (hr.mono (by first | decide | omega)) (by rfl) tk (i_cons (i_var 0) i_nil)) sc_idle.nd)
  (s_one (s_ret (i_call D_idle_numbers (hr.mono (by first | decide | omega)) (by rfl) tk (i_cons (i_var 1) (i_cons (i_meth0 M_Grid_distinct (hr.mono (by first | decide | omega)) tk (i_var 1)) (i_cons (i_callB call_len d_len (by rfl) T.f_len bi_len (i_cons (i_var 0) i_nil)) i_nil)))))))) (r_idle)
set_option maxHeartbeats 4000000 in
theorem ok__law_numbers  {f : Addr} {fd : FuncData} (T : Tx w K mg) (F : FunD K "_law_numbers" "_law_numbers" (defArgs st__law_numbers) (defBody st__law_numbers) (defScope st__law_numbers) [] [] f fd)       : FnOk P w K mg base (L2N.CX P w) (1) f fd ["script", "at", "count"] (spD ⟨K, mg⟩ F__law_numbers 3) :=
  fn_E (m := m__law_numbers ) F sc__law_numbers (fun cdv A outer s H E hr hp W tk =>
  (s_cons (s_set 3 i_int sc__law_numbers.nd)
  (s_cons (s_if (i_tcmp o_lt d_ord (i_var 1) (i_callB call_len d_len (by rfl) T.f_len bi_len (i_cons (i_var 0) i_nil)))
  (s_one (s_set 3 (i_bin op_modN d_mod (i_callB call_abs d_abs (by rfl) T.f_abs bi_abs (i_cons (i_callTy call_int1 d_int (by rfl) T.f_int bi_int (i_cons (i_ix ix_seq d_ix (i_var 0) (i_var 1)) i_nil)) i_nil)) (i_bin op_powX d_powX (i_bin op_pow d_pow i_int i_int) i_int)) sc__law_numbers.nd))
  s_nil)
  (s_cons (s_set 4 (i_cmp o_ge d_ord (i_var 3) (i_bin op_pow d_pow i_int i_int)) sc__law_numbers.nd)
  (s_cons (s_set 5 (i_bin op_modN d_mod (i_var 3) i_int) sc__law_numbers.nd)
  (s_cons (s_set 6 (i_lst i_nil) sc__law_numbers.nd)
  (s_cons (s_range1 hp (by rfl) (by rfl) T.f_range (i_cons (i_var 2) i_nil) (g_nm 7 sc__law_numbers.nd)
  (s_one (s_if (i_tand (i_truth (i_var 4)) (i_and1 (i_tcmp o_gt d_ord (i_var 3) i_int))).pt
  (s_cons (s_expr (i_lm PySem.F.slot_list_append PySem.F.type_list_append mt_append d_append (i_var 6) (i_cons (i_bin op_modN d_mod (i_var 3) i_int) i_nil)))
  (s_one (s_set 3 (i_bin op_fdivW d_div (i_var 3) i_int) sc__law_numbers.nd)))
  (s_cons (s_set 8 (i_bin op_modN d_mod (i_bin o_add d_add (i_bin o_add d_add (i_bin o_mul d_mul (i_var 5) i_int) (i_bin o_mul d_mul (i_bin o_add d_add (i_var 7) i_int) i_int)) (i_bin o_mul d_mul (i_bin o_add d_add (i_var 1) i_int) i_int)) i_int) sc__law_numbers.nd)
  (s_cons (s_set 8 (i_bin op_modN d_mod (i_bin o_add d_add (i_bin o_add d_add (i_bin o_add d_add (i_bin o_mul d_mul (i_var 8) (i_var 8)) (i_bin o_mul d_mul i_int (i_var 8))) (i_bin o_mul d_mul (i_bin o_mul d_mul i_int (i_var 7)) (i_var 7))) i_int) i_int) sc__law_numbers.nd)
  (s_cons (s_set 8 (i_bin op_modN d_mod (i_bin o_add d_add (i_bin o_mul d_mul (i_var 8) i_int) (i_bin op_fdivW d_div (i_var 8) i_int)) i_int) sc__law_numbers.nd)
  (s_one (s_expr (i_lm PySem.F.slot_list_append PySem.F.type_list_append mt_append d_append (i_var 6) (i_cons (i_bin op_modN d_mod (i_bin op_fdivW d_div (i_var 8) i_int) i_int) i_nil))))))))))
  (s_one (s_ret (i_var 6)))))))))) (r__law_numbers)
set_option maxHeartbeats 4000000 in
theorem ok__law_pick  {f : Addr} {fd : FuncData} (T : Tx w K mg) (F : FunD K "_law_pick" "_law_pick" (defArgs st__law_pick) (defBody st__law_pick) (defScope st__law_pick) [] [] f fd)       : FnOk P w K mg base (L2N.CX P w) (1) f fd ["numbers", "at", "count"] (spD ⟨K, mg⟩ F__law_pick 3) :=
  fn_E (m := m__law_pick ) F sc__law_pick (fun cdv A outer s H E hr hp W tk =>
  (s_one (s_ret (i_bin op_modN d_mod (i_callTy call_int1 d_int (by rfl) T.f_int bi_int (i_cons (i_ix ix_seq d_ix (i_var 0) (i_bin op_modN d_mod (i_var 1) (i_callB call_len d_len (by rfl) T.f_len bi_len (i_cons (i_var 0) i_nil)))) i_nil)) (i_var 2))))) (r__law_pick)
set_option maxHeartbeats 4000000 in
theorem ok__law_like (n : Nat) {f : Addr} {fd : FuncData} (T : Tx w K mg) (F : FunD K "_law_like" "_law_like" (defArgs st__law_like) (defBody st__law_like) (defScope st__law_like) [] [] f fd) (D__law_like : Df P w K mg base "_law_like" ["told", "due"] (Fp_like n) n)      : FnOk P w K mg base (L2N.CX P w) (n + 1) f fd ["told", "due"] (spD ⟨K, mg⟩ (Fp_like (n + 1)) 2) :=
  fn_E (m := m__law_like n) F sc__law_like (fun cdv A outer s H E hr hp W tk =>
  (s_cons (s_if (i_truth (i_isa (by simp) (by rfl) T.f_isinstance (by rfl) T.f_tuple bi_tuple (i_var 1)))
  (s_cons (s_if (i_tor (i_tnot (i_truth (i_isa (by simp) (by rfl) T.f_isinstance (by rfl) T.f_tuple bi_tuple (i_var 0)))) (i_or1 (i_tcmp (o_ne (hu_r hr)) d_ne (i_callB call_len d_len (by rfl) T.f_len bi_len (i_cons (i_var 0) i_nil)) (i_callB call_len d_len (by rfl) T.f_len bi_len (i_cons (i_var 1) i_nil))))).pt
  (s_one (s_ret i_bl))
  s_nil)
  (s_cons (s_range1 hp (by rfl) (by rfl) T.f_range (i_cons (i_callB call_len d_len (by rfl) T.f_len bi_len (i_cons (i_var 1) i_nil)) i_nil) (g_nm 2 sc__law_like.nd)
  (s_one (s_if (i_tnot (i_truth (i_call D__law_like (hr.mono (by first | decide | omega)) (by rfl) tk (i_cons (i_ix ix_seq d_ix (i_var 0) (i_var 2)) (i_cons (i_ix ix_seq d_ix (i_var 1) (i_var 2)) i_nil)))))
  (s_one (s_ret i_bl))
  s_nil)))
  (s_one (s_ret i_bl))))
  s_nil)
  (s_cons (s_if (i_tcmp op_isN d_isN (i_var 1) i_non)
  (s_one (s_ret (i_cmp op_isN d_isN (i_var 0) i_non)))
  s_nil)
  (s_cons (s_if (i_truth (i_isa (by simp) (by rfl) T.f_isinstance (by rfl) T.f_bool bi_bool (i_var 1)))
  (s_one (s_ret (i_and (i_isa (by simp) (by rfl) T.f_isinstance (by rfl) T.f_bool bi_bool (i_var 0)) (i_one (i_cmp (o_eq (hu_r hr)) d_eq (i_var 0) (i_var 1))))))
  s_nil)
  (s_cons (s_if (i_truth (i_isa (by simp) (by rfl) T.f_isinstance (by rfl) T.f_int bi_int (i_var 1)))
  (s_one (s_ret (i_and (i_isa (by simp) (by rfl) T.f_isinstance (by rfl) T.f_int bi_int (i_var 0)) (i_and (i_not (i_isa (by simp) (by rfl) T.f_isinstance (by rfl) T.f_bool bi_bool (i_var 0))) (i_one (i_cmp (o_eq (hu_r hr)) d_eq (i_var 0) (i_var 1)))))))
  s_nil)
  (s_one (s_ret (i_and (i_isa (by simp) (by rfl) T.f_isinstance (by rfl) T.f_str bi_str (i_var 0)) (i_one (i_cmp (o_eq (hu_r hr)) d_eq (i_var 0) (i_var 1))))))))))) (r__law_like n)
set_option maxHeartbeats 4000000 in
theorem ok__law_likeH {f : Addr} {fd : FuncData} (T : Tx w K mg) (F : FunD K "_law_like" "_law_like" (defArgs st__law_like) (defBody st__law_like) (defScope st__law_like) [] [] f fd) : L2H.FnH P w K mg base (L2N.CX P w) 1 f fd ["told", "due"] (spD ⟨K, mg⟩ F__law_likeH 2) :=
  fn_EH (m := m__law_likeH) F sc__law_like (fun cdv A outer s H E p hr W =>
  (s_cons (s_if (i_truth (i_isa (by simp) (by rfl) T.f_isinstance (by rfl) T.f_tuple bi_tuple (i_var 1)))
  (s_cons (s_if (i_tor (i_tnot (i_truth (i_isa (by simp) (by rfl) T.f_isinstance (by rfl) T.f_tuple bi_tuple (i_var 0)))) (i_or1 (i_tcmp (o_ne (hu_H hr)) d_ne (i_callB call_len d_len (by rfl) T.f_len bi_len (i_cons (i_var 0) i_nil)) (i_callB call_len d_len (by rfl) T.f_len bi_len (i_cons (i_var 1) i_nil))))).pt
  (s_one (s_ret i_bl))
  s_nil)
  (s_cons s_dead
  (s_one (s_ret i_bl))))
  s_nil)
  (s_cons (s_if (i_tcmp op_isN d_isN (i_var 1) i_non)
  (s_one (s_ret (i_cmp op_isN d_isN (i_var 0) i_non)))
  s_nil)
  (s_cons (s_if (i_truth (i_isa (by simp) (by rfl) T.f_isinstance (by rfl) T.f_bool bi_bool (i_var 1)))
  (s_one (s_ret (i_and (i_isa (by simp) (by rfl) T.f_isinstance (by rfl) T.f_bool bi_bool (i_var 0)) (i_one (i_cmp (o_eq (hu_H hr)) d_eq (i_var 0) (i_var 1))))))
  s_nil)
  (s_cons (s_if (i_truth (i_isa (by simp) (by rfl) T.f_isinstance (by rfl) T.f_int bi_int (i_var 1)))
  (s_one (s_ret (i_and (i_isa (by simp) (by rfl) T.f_isinstance (by rfl) T.f_int bi_int (i_var 0)) (i_and (i_not (i_isa (by simp) (by rfl) T.f_isinstance (by rfl) T.f_bool bi_bool (i_var 0))) (i_one (i_cmp (o_eq (hu_H hr)) d_eq (i_var 0) (i_var 1)))))))
  s_nil)
  (s_one (s_ret (i_and (i_isa (by simp) (by rfl) T.f_isinstance (by rfl) T.f_str bi_str (i_var 0)) (i_one (i_cmp (o_eq (hu_H hr)) d_eq (i_var 0) (i_var 1))))))))))) r__law_likeH
theorem rec__law_like {f : Addr} {fd : FuncData} (T : Tx w K mg) (F : FunD K "_law_like" "_law_like" (defArgs st__law_like) (defBody st__law_like) (defScope st__law_like) [] [] f fd) (g : mg "_law_like" = some (.ref f)) (b : Binds K fd ["told", "due"] [])  : ∀ n : Nat, FnOk P w K mg base (L2N.CX P w) n f fd ["told", "due"] (spD ⟨K, mg⟩ (Fp_like n) 2)
  | 0 => fnok_no
  | n + 1 => ok__law_like n T F (df_mk F g b (rec__law_like T F g b  n))
set_option maxHeartbeats 4000000 in
theorem ok__law_points  {f : Addr} {fd : FuncData} (T : Tx w K mg) (F : FunD K "_law_points" "_law_points" (defArgs st__law_points) (defBody st__law_points) (defScope st__law_points) [] [] f fd) (D__law_pick : Df P w K mg base "_law_pick" ["numbers", "at", "count"] F__law_pick 1)      : FnOk P w K mg base (L2N.CX P w) (2) f fd ["numbers", "at", "count"] (spD ⟨K, mg⟩ F__law_points 3) :=
  fn_E (m := m__law_points ) F sc__law_points (fun cdv A outer s H E hr hp W tk =>
  (s_cons (s_set 3 (i_lst i_nil) sc__law_points.nd)
  (s_cons (s_range1 hp (by rfl) (by rfl) T.f_range (i_cons (i_var 2) i_nil) (g_nm 4 sc__law_points.nd)
  (s_cons (s_set 5 (i_bin op_modN d_mod (i_callTy call_int1 d_int (by rfl) T.f_int bi_int (i_cons (i_ix ix_seq d_ix (i_var 0) (i_bin op_modN d_mod (i_callTy call_int1 d_int (by rfl) T.f_int bi_int (i_cons (i_bin o_add d_add (i_bin o_add d_add (i_var 1) (i_bin o_mul d_mul i_int (i_var 4))) i_int) i_nil)) (i_callB call_len d_len (by rfl) T.f_len bi_len (i_cons (i_var 0) i_nil)))) i_nil)) i_int) sc__law_points.nd)
  (s_cons (s_set 6 (i_call D__law_pick (hr.mono (by first | decide | omega)) (by rfl) tk (i_cons (i_var 0) (i_cons (i_bin o_add d_add (i_var 1) (i_bin o_mul d_mul i_int (i_var 4))) (i_cons i_int i_nil)))) sc__law_points.nd)
  (s_cons (s_if (i_tcmp o_lt d_ord (i_var 6) i_int)
  (s_one (s_set 5 (i_ix ix_seq d_ix (i_lst (i_cons i_int (i_cons i_int (i_cons i_int (i_cons i_int i_nil))))) (i_var 6)) sc__law_points.nd))
  s_nil)
  (s_cons (s_if (i_tand (i_tcmp (o_eq (hu_r hr)) d_eq (i_var 6) i_int) (i_and1 (i_tcmp o_gt d_ord (i_callB call_len d_len (by rfl) T.f_len bi_len (i_cons (i_var 3) i_nil)) i_int))).pt
  (s_one (s_set 5 (i_callB (call_min2 (by rfl)) d_min2 (by rfl) T.f_min bi_min (i_cons i_int (i_cons (i_bin o_add d_add (i_ix ix_seq d_ix (i_var 3) (i_un un_neg d_neg i_int)) i_int) i_nil))) sc__law_points.nd))
  s_nil)
  (s_one (s_if (i_tcmp (o_notInX (hu_r hr)) d_notInX (i_var 5) (i_var 3))
  (s_one (s_expr (i_lm PySem.F.slot_list_append PySem.F.type_list_append mt_append d_append (i_var 3) (i_cons (i_var 5) i_nil))))
  s_nil)))))))
  (s_one (s_ret (i_callB (o_sorted (by rfl)) d_sorted (by rfl) T.f_sorted bi_sorted (i_cons (i_var 3) i_nil))))))) (r__law_points)
set_option maxHeartbeats 4000000 in
theorem ok__law_between  {f : Addr} {fd : FuncData} (T : Tx w K mg) (F : FunD K "_law_between" "_law_between" (defArgs st__law_between) (defBody st__law_between) (defScope st__law_between) [] [] f fd)       : FnOk P w K mg base (L2N.CX P w) (1) f fd ["points", "kind", "one", "other"] (spD ⟨K, mg⟩ F__law_between 4) :=
  fn_E (m := m__law_between ) F sc__law_between (fun cdv A outer s H E hr hp W tk =>
  (s_cons (s_set 4 (i_ix ix_seq d_ix (i_var 0) (i_bin op_modN d_mod (i_callTy call_int1 d_int (by rfl) T.f_int bi_int (i_cons (i_var 2) i_nil)) (i_callB call_len d_len (by rfl) T.f_len bi_len (i_cons (i_var 0) i_nil)))) sc__law_between.nd)
  (s_cons (s_set 5 (i_ix ix_seq d_ix (i_var 0) (i_bin op_modN d_mod (i_callTy call_int1 d_int (by rfl) T.f_int bi_int (i_cons (i_bin o_add d_add (i_bin o_add d_add (i_var 2) i_int) (i_bin op_modN d_mod (i_var 3) (i_callB (call_max2 (by rfl)) d_max2 (by rfl) T.f_max bi_max (i_cons i_int (i_cons (i_bin op_sub d_sub (i_callB call_len d_len (by rfl) T.f_len bi_len (i_cons (i_var 0) i_nil)) i_int) i_nil))))) i_nil)) (i_callB call_len d_len (by rfl) T.f_len bi_len (i_cons (i_var 0) i_nil)))) sc__law_between.nd)
  (s_cons (s_if (i_tcmp o_lt d_ord (i_var 1) i_int)
  (s_one (s_ret (i_tup (i_cons i_int (i_cons i_int i_nil)))))
  s_nil)
  (s_cons (s_if (i_tcmp (o_eq (hu_r hr)) d_eq (i_var 1) i_int)
  (s_one (s_ret (i_tup (i_cons (i_var 4) (i_cons (i_var 4) i_nil)))))
  s_nil)
  (s_cons (s_if (i_tcmp (o_eq (hu_r hr)) d_eq (i_var 1) i_int)
  (s_one (s_ret (i_tup (i_cons i_int (i_cons (i_var 5) i_nil)))))
  s_nil)
  (s_cons (s_if (i_tcmp (o_eq (hu_r hr)) d_eq (i_var 1) i_int)
  (s_one (s_ret (i_tup (i_cons (i_var 4) (i_cons i_int i_nil)))))
  s_nil)
  (s_one (s_ret (i_tup (i_cons (i_callB (call_min2 (by rfl)) d_min2 (by rfl) T.f_min bi_min (i_cons (i_var 4) (i_cons (i_var 5) i_nil))) (i_cons (i_callB (call_max2 (by rfl)) d_max2 (by rfl) T.f_max bi_max (i_cons (i_var 4) (i_cons (i_var 5) i_nil))) i_nil)))))))))))) (r__law_between)
set_option maxHeartbeats 4000000 in
theorem ok__law_rules  {f : Addr} {fd : FuncData} (T : Tx w K mg) (F : FunD K "_law_rules" "_law_rules" (defArgs st__law_rules) (defBody st__law_rules) (defScope st__law_rules) [] [] f fd) (D__law_pick : Df P w K mg base "_law_pick" ["numbers", "at", "count"] F__law_pick 1) (D__law_between : Df P w K mg base "_law_between" ["points", "kind", "one", "other"] F__law_between 1)      : FnOk P w K mg base (L2N.CX P w) (2) f fd ["numbers", "at", "count", "points"] (spD ⟨K, mg⟩ F__law_rules 4) :=
  fn_E (m := m__law_rules ) F sc__law_rules (fun cdv A outer s H E hr hp W tk =>
  (s_cons (s_set 4 (i_lst i_nil) sc__law_rules.nd)
  (s_cons (s_range1 hp (by rfl) (by rfl) T.f_range (i_cons (i_var 2) i_nil) (g_nm 5 sc__law_rules.nd)
  (s_cons (s_set 6 (i_lst i_nil) sc__law_rules.nd)
  (s_cons (s_range1 hp (by rfl) (by rfl) T.f_range (i_cons i_int i_nil) (g_nm 7 sc__law_rules.nd)
  (s_cons (s_set 8 (i_bin o_add d_add (i_bin o_add d_add (i_var 1) (i_bin o_mul d_mul i_int (i_var 5))) (i_bin o_mul d_mul i_int (i_var 7))) sc__law_rules.nd)
  (s_cons (s_set 9 (i_call D__law_pick (hr.mono (by first | decide | omega)) (by rfl) tk (i_cons (i_var 0) (i_cons (i_var 8) (i_cons i_int i_nil)))) sc__law_rules.nd)
  (s_cons (s_set 10 (i_call D__law_pick (hr.mono (by first | decide | omega)) (by rfl) tk (i_cons (i_var 0) (i_cons (i_bin o_add d_add (i_var 8) i_int) (i_cons i_int i_nil)))) sc__law_rules.nd)
  (s_cons (s_set 11 (i_call D__law_pick (hr.mono (by first | decide | omega)) (by rfl) tk (i_cons (i_var 0) (i_cons (i_bin o_add d_add (i_var 8) i_int) (i_cons i_int i_nil)))) sc__law_rules.nd)
  (s_one (s_expr (i_lm PySem.F.slot_list_append PySem.F.type_list_append mt_append d_append (i_var 6) (i_cons (i_call D__law_between (hr.mono (by first | decide | omega)) (by rfl) tk (i_cons (i_ix ix_seq d_ix (i_var 3) (i_var 7)) (i_cons (i_var 9) (i_cons (i_var 10) (i_cons (i_var 11) i_nil))))) i_nil)))))))))
  (s_one (s_expr (i_lm PySem.F.slot_list_append PySem.F.type_list_append mt_append d_append (i_var 4) (i_cons (i_tup (i_cons (i_callTy call_int1 d_int (by rfl) T.f_int bi_int (i_cons (i_cmp o_lt d_ord (i_call D__law_pick (hr.mono (by first | decide | omega)) (by rfl) tk (i_cons (i_var 0) (i_cons (i_bin o_add d_add (i_bin o_add d_add (i_var 1) (i_bin o_mul d_mul i_int (i_var 5))) i_int) (i_cons i_int i_nil)))) i_int) i_nil)) (i_cons (i_ix ix_seq d_ix (i_var 6) i_int) (i_cons (i_ix ix_seq d_ix (i_var 6) i_int) (i_cons (i_ix ix_seq d_ix (i_var 6) i_int) i_nil))))) i_nil)))))))
  (s_one (s_ret (i_callTy o_tuple d_tuple (by rfl) T.f_tuple bi_tuple (i_cons (i_var 4) i_nil))))))) (r__law_rules)
set_option maxHeartbeats 4000000 in
theorem ok__law_few  {f : Addr} {fd : FuncData} (T : Tx w K mg) (F : FunD K "_law_few" "_law_few" (defArgs st__law_few) (defBody st__law_few) (defScope st__law_few) [] [] f fd)       : FnOk P w K mg base (L2N.CX P w) (1) f fd ["number"] (spD ⟨K, mg⟩ F__law_few 1) :=
  fn_E (m := m__law_few ) F sc__law_few (fun cdv A outer s H E hr hp W tk =>
  (s_one (s_ret (i_ix ix_seq d_ix (i_lst (i_cons i_int (i_cons i_int (i_cons i_int (i_cons i_int (i_cons i_int (i_cons i_int (i_cons i_int (i_cons i_int (i_cons i_int (i_cons i_int i_nil))))))))))) (i_bin op_modN d_mod (i_callTy call_int1 d_int (by rfl) T.f_int bi_int (i_cons (i_var 0) i_nil)) i_int))))) (r__law_few)
set_option maxHeartbeats 4000000 in
theorem ok__law_stripes  {f : Addr} {fd : FuncData} (T : Tx w K mg) (F : FunD K "_law_stripes" "_law_stripes" (defArgs st__law_stripes) (defBody st__law_stripes) (defScope st__law_stripes) [] [] f fd) (D__law_pick : Df P w K mg base "_law_pick" ["numbers", "at", "count"] F__law_pick 1)      : FnOk P w K mg base (L2N.CX P w) (2) f fd ["numbers", "count", "place", "most"] (spD ⟨K, mg⟩ F__law_stripes 4) :=
  fn_E (m := m__law_stripes ) F sc__law_stripes (fun cdv A outer s H E hr hp W tk =>
  (s_cons (s_set 4 (i_lst i_nil) sc__law_stripes.nd)
  (s_cons (s_set 5 (i_bin op_fdivW d_div i_int (i_bin op_sub d_sub (i_var 3) i_int)) sc__law_stripes.nd)
  (s_cons (s_range1 hp (by rfl) (by rfl) T.f_range (i_cons (i_var 1) i_nil) (g_nm 6 sc__law_stripes.nd)
  (s_cons (s_set 7 (i_lst i_nil) sc__law_stripes.nd)
  (s_cons (s_range1 hp (by rfl) (by rfl) T.f_range (i_cons i_int i_nil) (g_nm 8 sc__law_stripes.nd)
  (s_cons (s_set 10 (i_call D__law_pick (hr.mono (by first | decide | omega)) (by rfl) tk (i_cons (i_var 0) (i_cons (i_bin o_add d_add (i_bin o_mul d_mul i_int (i_var 6)) (i_var 8)) (i_cons (i_var 3) i_nil)))) sc__law_stripes.nd)
  (s_one (s_expr (i_lm PySem.F.slot_list_append PySem.F.type_list_append mt_append d_append (i_var 7) (i_cons (i_ix ix_seq d_ix (i_lst (i_cons (i_bin o_mul d_mul (i_var 10) (i_var 5)) (i_cons i_int i_nil))) (i_callTy call_int1 d_int (by rfl) T.f_int bi_int (i_cons (i_cmp (o_eq (hu_r hr)) d_eq (i_var 10) (i_bin op_sub d_sub (i_var 3) i_int)) i_nil))) i_nil))))))
  (s_cons (s_set 9 (i_lst (i_cons (i_tup (i_cons i_int (i_cons i_int i_nil))) (i_cons (i_tup (i_cons i_int (i_cons i_int i_nil))) (i_cons (i_tup (i_cons i_int (i_cons i_int i_nil))) i_nil)))) sc__law_stripes.nd)
  (s_cons (s_asg (i_tup (i_cons (i_callB (cr_min (by rfl)) d_minL (by rfl) T.f_min bi_min (i_cons (i_var 7) i_nil)) (i_cons (i_callB (cr_max (by rfl)) d_maxL (by rfl) T.f_max bi_max (i_cons (i_var 7) i_nil)) i_nil))) (g_sub (W := W) (i_var 9) (i_var 2)))
  (s_one (s_expr (i_lm PySem.F.slot_list_append PySem.F.type_list_append mt_append d_append (i_var 4) (i_cons (i_tup (i_cons (i_callTy call_int1 d_int (by rfl) T.f_int bi_int (i_cons (i_cmp o_lt d_ord (i_call D__law_pick (hr.mono (by first | decide | omega)) (by rfl) tk (i_cons (i_var 0) (i_cons (i_bin o_add d_add (i_bin o_mul d_mul i_int (i_var 6)) i_int) (i_cons i_int i_nil)))) i_int) i_nil)) (i_cons (i_ix ix_seq d_ix (i_var 9) i_int) (i_cons (i_ix ix_seq d_ix (i_var 9) i_int) (i_cons (i_ix ix_seq d_ix (i_var 9) i_int) i_nil))))) i_nil)))))))))
  (s_one (s_ret (i_callTy o_tuple d_tuple (by rfl) T.f_tuple bi_tuple (i_cons (i_var 4) i_nil)))))))) (r__law_stripes)
set_option maxHeartbeats 4000000 in
theorem ok__law_cuts  {f : Addr} {fd : FuncData} (T : Tx w K mg) (F : FunD K "_law_cuts" "_law_cuts" (defArgs st__law_cuts) (defBody st__law_cuts) (defScope st__law_cuts) [] [] f fd)       : FnOk P w K mg base (L2N.CX P w) (1) f fd ["rules", "place"] (spD ⟨K, mg⟩ F__law_cuts 2) :=
  fn_E (m := m__law_cuts ) F sc__law_cuts (fun cdv A outer s H E hr hp W tk =>
  (s_cons (s_set 2 (i_lst (i_cons i_int i_nil)) sc__law_cuts.nd)
  (s_cons (s_for hp (by rfl) (i_var 0) (g_nm 3 sc__law_cuts.nd)
  (s_one (s_for hp (by rfl) (i_tup (i_cons (i_ix ix_seq d_ix (i_ix ix_seq d_ix (i_var 3) (i_bin o_add d_add i_int (i_var 1))) i_int) (i_cons (i_bin o_add d_add (i_ix ix_seq d_ix (i_ix ix_seq d_ix (i_var 3) (i_bin o_add d_add i_int (i_var 1))) i_int) i_int) i_nil))) (g_nm 4 sc__law_cuts.nd)
  (s_one (s_if (i_tand (i_tcmp o_le d_ord (i_var 4) i_int) (i_and1 (i_tcmp (o_notInX (hu_r hr)) d_notInX (i_var 4) (i_var 2)))).pt
  (s_one (s_expr (i_lm PySem.F.slot_list_append PySem.F.type_list_append mt_append d_append (i_var 2) (i_cons (i_var 4) i_nil))))
  s_nil)))))
  (s_one (s_ret (i_callB (o_sorted (by rfl)) d_sorted (by rfl) T.f_sorted bi_sorted (i_cons (i_var 2) i_nil))))))) (r__law_cuts)
set_option maxHeartbeats 4000000 in
theorem ok__law_first  {f : Addr} {fd : FuncData} (T : Tx w K mg) (F : FunD K "_law_first" "_law_first" (defArgs st__law_first) (defBody st__law_first) (defScope st__law_first) [] [] f fd)       : FnOk P w K mg base (L2N.CX P w) (1) f fd ["rules", "triple"] (spD ⟨K, mg⟩ F__law_first 2) :=
  fn_E (m := m__law_first ) F sc__law_first (fun cdv A outer s H E hr hp W tk =>
  (s_cons (s_range1 hp (by rfl) (by rfl) T.f_range (i_cons (i_callB call_len d_len (by rfl) T.f_len bi_len (i_cons (i_var 0) i_nil)) i_nil) (g_nm 2 sc__law_first.nd)
  (s_cons (s_set 3 (i_ix ix_seq d_ix (i_var 0) (i_var 2)) sc__law_first.nd)
  (s_one (s_if (i_tand (i_tchain o_le d_ord o_le d_ord (i_ix ix_seq d_ix (i_ix ix_seq d_ix (i_var 3) i_int) i_int) (i_ix ix_seq d_ix (i_var 1) i_int) (i_ix ix_seq d_ix (i_ix ix_seq d_ix (i_var 3) i_int) i_int)) (i_and1 (i_tchain o_le d_ord o_le d_ord (i_ix ix_seq d_ix (i_ix ix_seq d_ix (i_var 3) i_int) i_int) (i_ix ix_seq d_ix (i_var 1) i_int) (i_ix ix_seq d_ix (i_ix ix_seq d_ix (i_var 3) i_int) i_int)))).pt
  (s_one (s_if (i_tchain o_le d_ord o_le d_ord (i_ix ix_seq d_ix (i_ix ix_seq d_ix (i_var 3) i_int) i_int) (i_ix ix_seq d_ix (i_var 1) i_int) (i_ix ix_seq d_ix (i_ix ix_seq d_ix (i_var 3) i_int) i_int))
  (s_one (s_ret (i_var 2)))
  s_nil))
  s_nil))))
  (s_one (s_ret (i_un un_neg d_neg i_int))))) (r__law_first)
set_option maxHeartbeats 4000000 in
theorem ok__law_triples  {f : Addr} {fd : FuncData} (T : Tx w K mg) (F : FunD K "_law_triples" "_law_triples" (defArgs st__law_triples) (defBody st__law_triples) (defScope st__law_triples) [] [] f fd) (D__law_cuts : Df P w K mg base "_law_cuts" ["rules", "place"] F__law_cuts 1)      : FnOk P w K mg base (L2N.CX P w) (2) f fd ["rules"] (spD ⟨K, mg⟩ F__law_triples 1) :=
  fn_E (m := m__law_triples ) F sc__law_triples (fun cdv A outer s H E hr hp W tk =>
  (s_cons (s_set 1 (i_lst i_nil) sc__law_triples.nd)
  (s_cons (s_set 2 (i_call D__law_cuts (hr.mono (by first | decide | omega)) (by rfl) tk (i_cons (i_var 0) (i_cons i_int i_nil))) sc__law_triples.nd)
  (s_cons (s_set 3 (i_call D__law_cuts (hr.mono (by first | decide | omega)) (by rfl) tk (i_cons (i_var 0) (i_cons i_int i_nil))) sc__law_triples.nd)
  (s_cons (s_for hp (by rfl) (i_call D__law_cuts (hr.mono (by first | decide | omega)) (by rfl) tk (i_cons (i_var 0) (i_cons i_int i_nil))) (g_nm 4 sc__law_triples.nd)
  (s_one (s_for hp (by rfl) (i_var 3) (g_nm 5 sc__law_triples.nd)
  (s_one (s_for hp (by rfl) (i_var 2) (g_nm 6 sc__law_triples.nd)
  (s_one (s_expr (i_lm PySem.F.slot_list_append PySem.F.type_list_append mt_append d_append (i_var 1) (i_cons (i_tup (i_cons (i_var 4) (i_cons (i_var 5) (i_cons (i_var 6) i_nil)))) i_nil)))))))))
  (s_one (s_ret (i_var 1)))))))) (r__law_triples)
set_option maxHeartbeats 4000000 in
theorem ok__law_told {f : Addr} {fd : FuncData} (T : Tx w K mg) (F : FunD K "_law_told" "_law_told" (defArgs st__law_told) (defBody st__law_told) (defScope st__law_told) [] [] f fd)        : FnL P w K mg base 15 (16) f fd ["call"] F__law_told :=
  fn_LE (m := m__law_told) F sc__law_told (fun cdv A outer s H E il B hr LO lk hfr hp W tk =>
  (s_one (s_tryAs (exs := [("BadRules", true)]) (i := 3) (by rfl) (by rfl) sc__law_told.nd (by rfl) (by rfl) ⟨rfl, by decide, .inl T.g_DoorError⟩ tk T.xs_DoorError (fun W pn xe tk hp =>
  (s_one (s_ret (i_tup (i_cons i_str (i_cons (i_lamcall LO (hr.mono (by first | decide | omega)) tk (fun _ _ _ _ I => Un.on lk I.base hfr)) i_nil)))))) (fun av oe cv d pn hm hz hfd => by
  obtain ⟨D0, hc0, EC, hT⟩ := T.k__law_told cv hm
  exact (s_cons (s_set 1 (i_lst (i_cons i_str (i_cons i_str (i_cons i_str i_nil)))) sc__law_told.nd)
  (s_cons (s_set 2 (i_lst (i_cons (by obtain ⟨A0, hC, hk⟩ := hT "BadRules" (by simp); exact i_exis (i := 3) hz hc0 EC hC hk T.f_isinstance (by rfl) (by rfl) (by rfl) (.inl (by rfl))) (i_cons (by obtain ⟨A0, hC, hk⟩ := hT "BadRule" (by simp); exact i_exis (i := 3) hz hc0 EC hC hk T.f_isinstance (by rfl) (by rfl) (by rfl) (.inl (by rfl))) (i_cons (by obtain ⟨A0, hC, hk⟩ := hT "TooMany" (by simp); exact i_exis (i := 3) hz hc0 EC hC hk T.f_isinstance (by rfl) (by rfl) (by rfl) (.inl (by rfl))) i_nil)))) sc__law_told.nd)
  (s_one (s_ret (i_tup (i_cons i_str (i_cons (i_lcH (own := [("k", 4)]) (hot_suite hz hfd) sc__law_told.nd (wi_rng1H (by rfl) T.f_range (i_cons (i_callB call_len d_len (by rfl) T.f_len bi_len (i_cons (i_var 1) i_nil)) i_nil)) (blkOk_by (N := ["call", "words", "named", "e", "k"]) (sc := defScope st__law_told) (by decide +kernel)) (own_nm (by decide)) (fun _ _ _ _ _ => pg_name (i := 4) sc__law_told.nd (by rfl) (by first | exact Or.inl (by rfl) | exact Or.inr (by rfl))) (by exact fun _ _ _ _ _ => (pts_one (i_truth (i_ix ix_seq d_ix (i_var 2) (i_var 4))))) (by exact fun _ _ _ _ _ => (i_ix ix_seq d_ix (i_var 1) (i_var 4)))) i_nil)))))))) (hex__law_told il B) hind__law_told))) (r__law_told)
set_option maxHeartbeats 4000000 in
theorem ok__law_more  {f : Addr} {fd : FuncData} (T : Tx w K mg) (F : FunD K "_law_more" "_law_more" (defArgs st__law_more) (defBody st__law_more) (defScope st__law_more) [] [] f fd) (D__law_pick : Df P w K mg base "_law_pick" ["numbers", "at", "count"] F__law_pick 1)      : FnOk P w K mg base (L2N.CX P w) (2) f fd ["rules", "numbers"] (spD ⟨K, mg⟩ F__law_more 2) :=
  fn_E (m := m__law_more ) F sc__law_more (fun cdv A outer s H E hr hp W tk =>
  (s_cons (s_set 2 (i_call D__law_pick (hr.mono (by first | decide | omega)) (by rfl) tk (i_cons (i_var 1) (i_cons i_int (i_cons i_int i_nil)))) sc__law_more.nd)
  (s_cons (s_set 3 (i_tup (i_cons i_int (i_cons i_int i_nil))) sc__law_more.nd)
  (s_cons (s_if (i_tor (i_tcmp (o_eq (hu_r hr)) d_eq (i_callB call_len d_len (by rfl) T.f_len bi_len (i_cons (i_var 0) i_nil)) i_int) (i_or1 (i_tcmp o_gt d_ord (i_var 2) i_int))).pt
  (s_one (s_ret (i_var 0)))
  s_nil)
  (s_cons (s_set 4 (i_call D__law_pick (hr.mono (by first | decide | omega)) (by rfl) tk (i_cons (i_var 1) (i_cons i_int (i_cons (i_callB call_len d_len (by rfl) T.f_len bi_len (i_cons (i_var 0) i_nil)) i_nil)))) sc__law_more.nd)
  (s_cons (s_if (i_tcmp (o_eq (hu_r hr)) d_eq (i_var 2) i_int)
  (s_one (s_ret (i_bin o_add d_add (i_var 0) (i_tup (i_cons (i_ix ix_seq d_ix (i_var 0) (i_var 4)) i_nil)))))
  s_nil)
  (s_cons (s_if (i_tcmp (o_eq (hu_r hr)) d_eq (i_var 2) i_int)
  (s_one (s_ret (i_bin o_add d_add (i_var 0) (i_tup (i_cons (i_tup (i_cons i_int (i_cons (i_var 3) (i_cons (i_var 3) (i_cons (i_var 3) i_nil))))) i_nil)))))
  s_nil)
  (s_cons (s_if (i_tcmp (o_eq (hu_r hr)) d_eq (i_var 2) i_int)
  (s_one (s_ret (i_bin o_add d_add (i_bin o_add d_add (i_slice (i_var 0) i_nopart (i_part (i_var 4))) (i_tup (i_cons (i_ix ix_seq d_ix (i_var 0) (i_var 4)) i_nil))) (i_slice (i_var 0) (i_part (i_var 4)) i_nopart))))
  s_nil)
  (s_cons (s_set 5 (i_ix ix_seq d_ix (i_var 0) (i_var 4)) sc__law_more.nd)
  (s_one (s_ret (i_bin o_add d_add (i_var 0) (i_tup (i_cons (i_tup (i_cons (i_bin op_sub d_sub i_int (i_ix ix_seq d_ix (i_var 5) i_int)) (i_cons (i_ix ix_seq d_ix (i_var 5) i_int) (i_cons (i_tup (i_cons (i_ix ix_seq d_ix (i_ix ix_seq d_ix (i_var 5) i_int) i_int) (i_cons (i_ix ix_seq d_ix (i_ix ix_seq d_ix (i_var 5) i_int) i_int) i_nil))) (i_cons (i_ix ix_seq d_ix (i_var 5) i_int) i_nil))))) i_nil)))))))))))))) (r__law_more)
set_option maxHeartbeats 4000000 in
theorem ok__law_next  {f : Addr} {fd : FuncData} (T : Tx w K mg) (F : FunD K "_law_next" "_law_next" (defArgs st__law_next) (defBody st__law_next) (defScope st__law_next) [] [] f fd) (D__law_first : Df P w K mg base "_law_first" ["rules", "triple"] F__law_first 1)      : FnOk P w K mg base (L2N.CX P w) (2) f fd ["rules", "triple", "at"] (spD ⟨K, mg⟩ F__law_next 3) :=
  fn_E (m := m__law_next ) F sc__law_next (fun cdv A outer s H E hr hp W tk =>
  (s_cons (s_set 3 (i_call D__law_first (hr.mono (by first | decide | omega)) (by rfl) tk (i_cons (i_slice (i_var 0) (i_part (i_bin o_add d_add (i_var 2) i_int)) i_nopart) (i_cons (i_var 1) i_nil))) sc__law_next.nd)
  (s_cons (s_if (i_tcmp o_lt d_ord (i_var 3) i_int)
  (s_one (s_ret i_int))
  s_nil)
  (s_one (s_ret (i_ix ix_seq d_ix (i_ix ix_seq d_ix (i_var 0) (i_bin o_add d_add (i_bin o_add d_add (i_var 2) i_int) (i_var 3))) i_int)))))) (r__law_next)
set_option maxHeartbeats 4000000 in
theorem ok__law_sorted_out  {f : Addr} {fd : FuncData} (T : Tx w K mg) (F : FunD K "_law_sorted_out" "_law_sorted_out" (defArgs st__law_sorted_out) (defBody st__law_sorted_out) (defScope st__law_sorted_out) [] [] f fd) (D__law_triples : Df P w K mg base "_law_triples" ["rules"] F__law_triples 2) (D__law_first : Df P w K mg base "_law_first" ["rules", "triple"] F__law_first 1) (D__law_next : Df P w K mg base "_law_next" ["rules", "triple", "at"] F__law_next 2)      : FnOk P w K mg base (L2N.CX P w) (3) f fd ["rules"] (spD ⟨K, mg⟩ F__law_sorted_out 1) :=
  fn_E (m := m__law_sorted_out ) F sc__law_sorted_out (fun cdv A outer s H E hr hp W tk =>
  (s_cons (s_set 1 (i_lst i_nil) sc__law_sorted_out.nd)
  (s_cons (s_set 2 (i_lst i_nil) sc__law_sorted_out.nd)
  (s_cons (s_for hp (by rfl) (i_call D__law_triples (hr.mono (by first | decide | omega)) (by rfl) tk (i_cons (i_var 0) i_nil)) (g_nm 3 sc__law_sorted_out.nd)
  (s_cons (s_set 5 (i_call D__law_first (hr.mono (by first | decide | omega)) (by rfl) tk (i_cons (i_var 0) (i_cons (i_var 3) i_nil))) sc__law_sorted_out.nd)
  (s_cons (s_if (i_tand (i_tcmp o_ge d_ord (i_var 5) i_int) (i_and1 (i_tcmp (o_notInX (hu_r hr)) d_notInX (i_var 5) (i_var 1)))).pt
  (s_one (s_expr (i_lm PySem.F.slot_list_append PySem.F.type_list_append mt_append d_append (i_var 1) (i_cons (i_var 5) i_nil))))
  s_nil)
  (s_one (s_if (i_tand (i_tcmp o_ge d_ord (i_var 5) i_int) (i_tand (i_tcmp (o_notInX (hu_r hr)) d_notInX (i_var 5) (i_var 2)) (i_and1 (i_tcmp (o_ne (hu_r hr)) d_ne (i_call D__law_next (hr.mono (by first | decide | omega)) (by rfl) tk (i_cons (i_var 0) (i_cons (i_var 3) (i_cons (i_var 5) i_nil)))) (i_ix ix_seq d_ix (i_ix ix_seq d_ix (i_var 0) (i_var 5)) i_int))))).pt
  (s_one (s_expr (i_lm PySem.F.slot_list_append PySem.F.type_list_append mt_append d_append (i_var 2) (i_cons (i_var 5) i_nil))))
  s_nil)))))
  (s_cons (s_set 4 (i_callTy o_tuple d_tuple (by rfl) T.f_tuple bi_tuple (i_cons (i_lc (own := [("k", 6)]) (by rfl) sc__law_sorted_out.nd (wi_rng1 (by rfl) T.f_range (i_cons (i_callB call_len d_len (by rfl) T.f_len bi_len (i_cons (i_var 0) i_nil)) i_nil)) (blkOk_by (N := ["rules", "first", "needed", "triple", "gone", "at", "k"]) (sc := defScope st__law_sorted_out) (by decide +kernel)) (own_nm (by decide)) (fun _ _ _ _ _ => pg_name (i := 6) sc__law_sorted_out.nd (by rfl) (by first | exact Or.inl (by rfl) | exact Or.inr (by rfl))) (by exact fun _ _ _ _ _ => (pts_one (i_tcmp (o_notInX (hu_r hr)) d_notInX (i_var 6) (i_var 1)))) (by exact fun _ _ _ _ _ => (i_var 6))) i_nil)) sc__law_sorted_out.nd)
  (s_one (s_ret (i_tup (i_cons (i_var 4) (i_cons (i_callTy o_tuple d_tuple (by rfl) T.f_tuple bi_tuple (i_cons (i_lc (own := [("k", 6)]) (by rfl) sc__law_sorted_out.nd (wi_rng1 (by rfl) T.f_range (i_cons (i_callB call_len d_len (by rfl) T.f_len bi_len (i_cons (i_var 0) i_nil)) i_nil)) (blkOk_by (N := ["rules", "first", "needed", "triple", "gone", "at", "k"]) (sc := defScope st__law_sorted_out) (by decide +kernel)) (own_nm (by decide)) (fun _ _ _ _ _ => pg_name (i := 6) sc__law_sorted_out.nd (by rfl) (by first | exact Or.inl (by rfl) | exact Or.inr (by rfl))) (by exact fun _ _ _ _ _ => (pts_one (i_tcmp (o_notInX (hu_r hr)) d_notInX (i_var 6) (i_var 2)))) (by exact fun _ _ _ _ _ => (i_var 6))) i_nil)) i_nil)))))))))) (r__law_sorted_out)
set_option maxHeartbeats 4000000 in
theorem ok__law_holds  {f : Addr} {fd : FuncData} (T : Tx w K mg) (F : FunD K "_law_holds" "_law_holds" (defArgs st__law_holds) (defBody st__law_holds) (defScope st__law_holds) [] [] f fd) (D__law_sorted_out : Df P w K mg base "_law_sorted_out" ["rules"] F__law_sorted_out 3) (D__law_like : Df P w K mg base "_law_like" ["told", "due"] (Fp_like 9) 9) (D_hidden : Df P w K mg base "hidden" ["rules"] F_hidden 10) (D_idle : Df P w K mg base "idle" ["rules"] F_idle 10)      : FnOk P w K mg base (L2N.CX P w) (11) f fd ["rules"] (spD ⟨K, mg⟩ F__law_holds 1) :=
  fn_E (m := m__law_holds ) F sc__law_holds (fun cdv A outer s H E hr hp W tk =>
  (s_cons (s_set 1 (i_call D__law_sorted_out (hr.mono (by first | decide | omega)) (by rfl) tk (i_cons (i_var 0) i_nil)) sc__law_holds.nd)
  (s_one (s_ret (i_and (i_call D__law_like (hr.mono (by first | decide | omega)) (by rfl) tk (i_cons (i_call D_hidden (hr.mono (by first | decide | omega)) (by rfl) tk (i_cons (i_var 0) i_nil)) (i_cons (i_ix ix_seq d_ix (i_var 1) i_int) i_nil))) (i_one (i_call D__law_like (hr.mono (by first | decide | omega)) (by rfl) tk (i_cons (i_call D_idle (hr.mono (by first | decide | omega)) (by rfl) tk (i_cons (i_var 0) i_nil)) (i_cons (i_ix ix_seq d_ix (i_var 1) i_int) i_nil))))))))) (r__law_holds)
set_option maxHeartbeats 4000000 in
theorem ok_law {f : Addr} {fd : FuncData} (T : Tx w K mg) (TK : TabK K mg base "law") (KX : K.In base) (G : base.Ns mainGlobals mg) (hm : mg "law" = some (.ref f)) (F : FunD K "law" "law" (defArgs st_law) (defBody st_law) (defScope st_law) [] [] f fd) (D__law_numbers : Df P w K mg base "_law_numbers" ["script", "at", "count"] F__law_numbers 1) (D__law_points : Df P w K mg base "_law_points" ["numbers", "at", "count"] F__law_points 2) (D__law_rules : Df P w K mg base "_law_rules" ["numbers", "at", "count", "points"] F__law_rules 2) (D__law_few : Df P w K mg base "_law_few" ["number"] F__law_few 1) (D__law_pick : Df P w K mg base "_law_pick" ["numbers", "at", "count"] F__law_pick 1) (D__law_stripes : Df P w K mg base "_law_stripes" ["numbers", "count", "place", "most"] F__law_stripes 2) (D__law_holds : Df P w K mg base "_law_holds" ["rules"] F__law_holds 11) (D__law_more : Df P w K mg base "_law_more" ["rules", "numbers"] F__law_more 2) (D_hidden : Df P w K mg base "hidden" ["rules"] F_hidden 10) (D_idle : Df P w K mg base "idle" ["rules"] F_idle 10)   (X_TooMany : ExI P w K mg base "TooMany" 1) (H__law_like : DfH P w K mg base "_law_like" ["told", "due"] F__law_likeH 1)  (L__law_told : DfL P w K mg base "_law_told" ["call"] F__law_told 15 16) : FnOk P w K mg base (L2N.CX P w) (17) f fd ["script"] (spD ⟨K, mg⟩ F_law 1) :=
  fn_T (m := m_law) TK KX G hm F sc_law (fun cdv A outer s H E LT hr hp W tk =>
  (s_cons (s_set 1 (i_call D__law_numbers (hr.mono (by first | decide | omega)) (by rfl) tk (i_cons (i_var 0) (i_cons i_int (i_cons i_int i_nil)))) sc_law.nd)
  (s_cons (s_set 2 (i_lst (i_cons (i_call D__law_points (hr.mono (by first | decide | omega)) (by rfl) tk (i_cons (i_var 1) (i_cons i_int (i_cons i_int i_nil)))) (i_cons (i_call D__law_points (hr.mono (by first | decide | omega)) (by rfl) tk (i_cons (i_var 1) (i_cons i_int (i_cons i_int i_nil)))) (i_cons (i_call D__law_points (hr.mono (by first | decide | omega)) (by rfl) tk (i_cons (i_var 1) (i_cons i_int (i_cons i_int i_nil)))) i_nil)))) sc_law.nd)
  (s_cons (s_set 3 (i_call D__law_rules (hr.mono (by first | decide | omega)) (by rfl) tk (i_cons (i_call D__law_numbers (hr.mono (by first | decide | omega)) (by rfl) tk (i_cons (i_var 0) (i_cons i_int (i_cons i_int i_nil)))) (i_cons i_int (i_cons (i_call D__law_few (hr.mono (by first | decide | omega)) (by rfl) tk (i_cons (i_ix ix_seq d_ix (i_var 1) i_int) i_nil)) (i_cons (i_var 2) i_nil))))) sc_law.nd)
  (s_cons (s_set 4 (i_call D__law_pick (hr.mono (by first | decide | omega)) (by rfl) tk (i_cons (i_var 1) (i_cons i_int (i_cons i_int i_nil)))) sc_law.nd)
  (s_cons (s_set 5 (i_call D__law_stripes (hr.mono (by first | decide | omega)) (by rfl) tk (i_cons (i_call D__law_numbers (hr.mono (by first | decide | omega)) (by rfl) tk (i_cons (i_var 0) (i_cons i_int (i_cons i_int i_nil)))) (i_cons i_int (i_cons (i_var 4) (i_cons (i_bin o_add d_add i_int (i_call D__law_pick (hr.mono (by first | decide | omega)) (by rfl) tk (i_cons (i_var 1) (i_cons i_int (i_cons i_int i_nil))))) i_nil))))) sc_law.nd)
  (s_cons (s_set 6 (i_ix ix_seq d_ix (i_lst (i_cons (i_call D__law_pick (hr.mono (by first | decide | omega)) (by rfl) tk (i_cons (i_var 1) (i_cons i_int (i_cons i_int i_nil)))) (i_cons i_int i_nil))) (i_callTy call_int1 d_int (by rfl) T.f_int bi_int (i_cons (i_cmp (o_eqX (hu_r hr)) d_eqX (i_call D__law_pick (hr.mono (by first | decide | omega)) (by rfl) tk (i_cons (i_var 1) (i_cons i_int (i_cons i_int i_nil)))) i_int) i_nil))) sc_law.nd)
  (s_cons (s_if (i_tor (i_tnot (i_truth (i_call D__law_holds (hr.mono (by first | decide | omega)) (by rfl) tk (i_cons (i_call D__law_more (hr.mono (by first | decide | omega)) (by rfl) tk (i_cons (i_var 3) (i_cons (i_call D__law_numbers (hr.mono (by first | decide | omega)) (by rfl) tk (i_cons (i_var 0) (i_cons i_int (i_cons i_int i_nil)))) i_nil))) i_nil)))) (i_or1 (i_tnot (i_truth (i_call D__law_holds (hr.mono (by first | decide | omega)) (by rfl) tk (i_cons (i_slice (i_var 5) i_nopart (i_part (i_var 6))) i_nil)))))).pt
  (s_one (s_ret i_bl))
  s_nil)
  (s_cons (s_range1 hp (by rfl) (by rfl) T.f_range (i_cons i_int i_nil) (g_nm 7 sc_law.nd)
  (s_one (s_tryAsF (exs := [("TooMany", true)]) (i := 9) (by rfl) (by rfl) sc_law.nd (by rfl) (by rfl) ⟨rfl, by decide, .inl T.g_TooMany⟩ tk T.xs_TooMany (fun W pn xe tk hp =>
  (s_cons (s_if (i_tcmp (o_eqX (hu_r hr)) d_eqX (i_var 7) i_int)
  (s_one (s_expr (i_call D_hidden (hr.mono (by first | decide | omega)) (by rfl) tk (i_cons (i_var 5) i_nil))))
  (s_one (s_expr (i_call D_idle (hr.mono (by first | decide | omega)) (by rfl) tk (i_cons (i_var 5) i_nil)))))
  (s_one (s_ret i_bl)))) (fun av oe cv dv pn hm hz hfd => by
  have hcv : cv = "TooMany" := by simpa using hm
  subst hcv
  obtain ⟨CC, fI, fdI, hI1, hI2, hI3, hI4, hI5, hI6, hI7⟩ := X_TooMany.is_
  obtain ⟨D0, hc0, EC, hT⟩ := T.k_law "TooMany" ⟨true, hm⟩
  have hno : PySem.W.findIn K (.ref D0) "what" = some none := by
    cases hI1.symm.trans hc0
    exact hI5
  exact (s_one (s_if (i_tnot (i_truth (i_callH H__law_like (roomH hr (by first | decide | omega)) (hot_suite hz hfd) (by rfl) tk_none (i_cons (i_exfld (i := 9) hz hfd hc0 EC hno (by rfl) (.inl (by rfl))) (i_cons i_str i_nil)))))
  (s_one (s_ret i_bl))
  s_nil))) hind_law)))
  (s_cons (s_set 8 (i_bin o_add d_add (i_slice (i_var 5) i_nopart (i_part i_int)) (i_tup (i_cons (i_tup (i_cons i_int (i_cons (i_tup (i_cons i_int (i_cons i_int i_nil))) (i_cons (i_tup (i_cons i_int (i_cons i_int i_nil))) (i_cons (i_tup (i_cons i_int (i_cons i_int i_nil))) i_nil))))) i_nil))) sc_law.nd)
  (s_cons (s_if (i_tcmp (o_neX (hu_r hr)) d_neX (i_callLam0 (kl := 14) L__law_told (by rfl) (hr.mono (by first | decide | omega)) (by rfl) tk LT (LamX.lamS_by (sc := defScope st_law) (by decide +kernel)) (by rfl) (fun _ _ _ _ _ => (by rfl)) (fun A outer s H E f c hr W tk => (i_call D_hidden (hr.mono (by first | decide | omega)) (by rfl) tk (i_cons (i_var 8) i_nil)))) (i_tup (i_cons i_str (i_cons (i_lst (i_cons i_str i_nil)) i_nil))))
  (s_one (s_ret i_bl))
  s_nil)
  (s_one (s_ret (i_cmp (o_eqX (hu_r hr)) d_eqX (i_callLam0 (kl := 14) L__law_told (by rfl) (hr.mono (by first | decide | omega)) (by rfl) tk LT (LamX.lamS_by (sc := defScope st_law) (by decide +kernel)) (by rfl) (fun _ _ _ _ _ => (by rfl)) (fun A outer s H E f c hr W tk => (i_call D_idle (hr.mono (by first | decide | omega)) (by rfl) tk (i_cons (i_var 8) i_nil)))) (i_tup (i_cons i_str (i_cons (i_lst (i_cons i_str i_nil)) i_nil))))))))))))))))) (r_law)
end
/-! ### the head -/
def dd (x : Str) (i : Nat) : He.DefD := ⟨(x, none), x, x, defArgs (top i), defBody (top i), defScope (top i), [], []⟩
def dm (c m q : Str) (i j : Nat) : He.DefD := ⟨(c, some m), m, q, defArgs (inClass (top i) j), defBody (inClass (top i) j), defScope (inClass (top i) j), [], []⟩
def hfn : List He.DefD := [dm "TooMany" "__init__" "TooMany.__init__" 5 0, dd "is_int" 7, dd "is_between" 8, dd "is_bit" 9, dd "is_tuple_of" 10, dd "is_told_number" 14, dd "is_told_range" 15, dd "is_told_rule" 16, dd "is_range" 22, dd "is_rule" 23, dd "is_rules" 24, dd "check_rules" 25, dd "check_few" 26, dd "check_boxes" 27, dd "cuts_at" 29, dd "cuts_of" 30, dd "lowest" 31, dd "without_lowest" 32, dd "masks_at" 33, dm "Grid" "__init__" "Grid.__init__" 34 0, dm "Grid" "lets" "Grid.lets" 34 1, dm "Grid" "mask" "Grid.mask" 34 2, dm "Grid" "distinct" "Grid.distinct" 34 4, dd "first_ones" 36, dd "hidden_numbers" 37, dd "is_told_by_first" 38, dd "idle_numbers" 39, dd "looked_at" 41, dd "hidden" 42, dd "idle" 43, dd "_law_numbers" 45, dd "_law_pick" 46, dd "_law_like" 47, dd "_law_points" 48, dd "_law_between" 49, dd "_law_rules" 50, dd "_law_few" 51, dd "_law_stripes" 52, dd "_law_cuts" 53, dd "_law_first" 54, dd "_law_triples" 55, dd "_law_told" 56, dd "_law_more" 57, dd "_law_next" 58, dd "_law_sorted_out" 59, dd "_law_holds" 60, dd "law" 61]
def hfa : List He.Fa := [.glo "TooMany", .glo "is_int", .glo "is_between", .glo "is_bit", .glo "is_tuple_of", .glo "is_told_number", .glo "is_told_range", .glo "is_told_rule", .glo "is_range", .glo "is_rule", .glo "is_rules", .glo "check_rules", .glo "check_few", .glo "check_boxes", .glo "cuts_at", .glo "cuts_of", .glo "lowest", .glo "without_lowest", .glo "masks_at", .glo "Grid", .glo "Grid", .glo "Grid", .glo "Grid", .glo "first_ones", .glo "hidden_numbers", .glo "is_told_by_first", .glo "idle_numbers", .glo "looked_at", .glo "hidden", .glo "idle", .glo "_law_numbers", .glo "_law_pick", .glo "_law_like", .glo "_law_points", .glo "_law_between", .glo "_law_rules", .glo "_law_few", .glo "_law_stripes", .glo "_law_cuts", .glo "_law_first", .glo "_law_triples", .glo "_law_told", .glo "_law_more", .glo "_law_next", .glo "_law_sorted_out", .glo "_law_holds", .glo "law", .free "abs", .free "bool", .free "enumerate", .free "int", .free "isinstance", .free "len", .free "max", .free "min", .free "range", .free "sorted", .free "str", .free "tuple", .exc "BadRule", .exc "BadRules", .exc "DoorError", .glo "BadRule", .glo "BadRules", .glo "DoorError", .glo "TooMany", .exm "BadRules" "DoorError" true, .exm "TooMany" "TooMany" true, .glo "Grid", .cls "Grid", .noat "Grid" "rules", .noat "Grid" "cuts", .noat "Grid" "masks", .noat "Grid" "letting", .mkr "Grid", .meth "Grid" "lets", .meth "Grid" "mask", .meth "Grid" "distinct"]
def hcs : List (Str × CK) := [("MOST_BOXES", .p c_MOST_BOXES), ("MOST_LOOKED_AT", .p c_MOST_LOOKED_AT), ("MOST_RULES", .p c_MOST_RULES), ("PLACES", .p c_PLACES), ("RANGES_OF_A_RULE", .p c_RANGES_OF_A_RULE), ("TOP", .p c_TOP)]
def hts : List Tb := []
abbrev RR : PySem.W.OpenRow := PySem.W.OpenLaw.row PySem.Challenge.rw_holesmet_k73_hidden_and_idle_rules
def hchk (K : PySem.W.Frag) : Bool := lamB K "law" && askB K (([("BadRules", true)] : List (Str × Bool)).map (·.1)) ["BadRules", "BadRule", "TooMany"] && askB K (([("TooMany", true)] : List (Str × Bool)).map (·.1)) [] && exiB K "TooMany" "DoorError"
abbrev hk : PySem.W.Hook := hookZ 5 hfa hfn hcs hts hchk
def ob (s : PySem.W.SharedT) : AlZ := obsZG 5 hfa hfn hcs hts hchk (HandSHeadRun.getT s)
theorem ob_eq (s : PySem.W.SharedT) : ob s = hk.obs s.abs := obsZG_eq (HandSHeadRun.getT_eq s)
def loose : List Str := (["DoorError", "BadRules", "BadRule", "TooMany", "Grid", "TOP", "RANGES_OF_A_RULE", "MOST_RULES", "MOST_LOOKED_AT", "MOST_BOXES", "PLACES", "_wall", "is_int", "is_between", "is_bit", "is_tuple_of", "is_told_number", "is_told_range", "is_told_rule", "is_range", "is_rule", "is_rules", "check_rules", "check_few", "check_boxes", "cuts_at", "cuts_of", "lowest", "without_lowest", "masks_at"] : List Str) ++ (["first_ones", "hidden_numbers", "is_told_by_first", "idle_numbers", "looked_at", "hidden", "idle", "_law_numbers", "_law_pick", "_law_like", "_law_points", "_law_between", "_law_rules", "_law_few", "_law_stripes", "_law_cuts", "_law_first", "_law_triples", "_law_told", "_law_more", "_law_next", "_law_sorted_out", "_law_holds"] : List Str)
set_option maxHeartbeats 0 in
theorem run (w : World) : HandSHeadRun.RunEq RR (PySem.W.view RR.prog [61]) hk ob 4000 loose w := by
  intro os
  kernel_rfl
set_option maxHeartbeats 0 in
theorem facts {P : Program} {w : World} {K : PySem.W.Frag} {h : Heap} {mg : Str → Option Value} {f : Addr} (X : K.In h) (G : h.Ns mainGlobals mg) (hfa1 : mg ("law" : Str) = some (.ref f)) (c0 : SaysZ hfa hfn hcs hts hchk w K) :
    ∃ (fd : FuncData) (c P0 : Addr), PySem.W.tabIn K "law" = some (c, P0) ∧ K.lookup P0 = none ∧ (∀ (s : Shared) (v : Value), BindsTo s fd ⟨[v], []⟩ [("script", v)]) ∧ ∀ base : Heap, K.In base → base.Ns mainGlobals mg → LamX.TabB base mg c P0 → FnOk P w K mg base (L2N.CX P w) (17) f fd ["script"] (spD ⟨K, mg⟩ F_law 1) := by
  have c := c0.y
  have ck := c0.k
  unfold hchk at ck
  simp only [Bool.and_eq_true] at ck
  obtain ⟨⟨⟨ck0, ck1⟩, ck2⟩, ck3⟩ := ck
  obtain ⟨tc, tP, ht1, ht2⟩ := lamB_ok ck0
  have T : Tx w K mg := ⟨(He.free_ok X G (c.d.fact 47 (f := .free "abs") rfl)),
    (He.free_ok X G (c.d.fact 48 (f := .free "bool") rfl)),
    (He.free_ok X G (c.d.fact 49 (f := .free "enumerate") rfl)),
    (He.free_ok X G (c.d.fact 50 (f := .free "int") rfl)),
    (He.free_ok X G (c.d.fact 51 (f := .free "isinstance") rfl)),
    (He.free_ok X G (c.d.fact 52 (f := .free "len") rfl)),
    (He.free_ok X G (c.d.fact 53 (f := .free "max") rfl)),
    (He.free_ok X G (c.d.fact 54 (f := .free "min") rfl)),
    (He.free_ok X G (c.d.fact 55 (f := .free "range") rfl)),
    (He.free_ok X G (c.d.fact 56 (f := .free "sorted") rfl)),
    (He.free_ok X G (c.d.fact 57 (f := .free "str") rfl)),
    (He.free_ok X G (c.d.fact 58 (f := .free "tuple") rfl)),
    (cB_ok X G (c.c ("MOST_BOXES", .p c_MOST_BOXES) (by simp [hcs]))),
    (cB_ok X G (c.c ("MOST_LOOKED_AT", .p c_MOST_LOOKED_AT) (by simp [hcs]))),
    (cB_ok X G (c.c ("MOST_RULES", .p c_MOST_RULES) (by simp [hcs]))),
    (cB_ok X G (c.c ("PLACES", .p c_PLACES) (by simp [hcs]))),
    (cB_ok X G (c.c ("RANGES_OF_A_RULE", .p c_RANGES_OF_A_RULE) (by simp [hcs]))),
    (cB_ok X G (c.c ("TOP", .p c_TOP) (by simp [hcs]))),
    (⟨He.ga K "Grid", He.glo_ok X G (c.d.fact 68 (f := .glo "Grid") rfl), He.cls_ok (c.d.fact 69 (f := .cls "Grid") rfl), fun q hq => by
    simp only [List.mem_cons, List.not_mem_nil, or_false] at hq
    rcases hq with rfl | rfl | rfl | rfl
    · exact He.noat_ok (c.d.fact 70 (f := .noat "Grid" "rules") rfl)
    · exact He.noat_ok (c.d.fact 71 (f := .noat "Grid" "cuts") rfl)
    · exact He.noat_ok (c.d.fact 72 (f := .noat "Grid" "masks") rfl)
    · exact He.noat_ok (c.d.fact 73 (f := .noat "Grid" "letting") rfl)
    ⟩),
    (exc_C X G (c.d.fact 59 (f := .exc "BadRule") rfl) (c.d.fact 62 (f := .glo "BadRule") rfl)),
    (exc_C X G (c.d.fact 60 (f := .exc "BadRules") rfl) (c.d.fact 63 (f := .glo "BadRules") rfl)),
    (exc_C X G (c.d.fact 61 (f := .exc "DoorError") rfl) (c.d.fact 64 (f := .glo "DoorError") rfl)),
    (He.glo_ok X G (c.d.fact 62 (f := .glo "BadRule") rfl)),
    (He.glo_ok X G (c.d.fact 63 (f := .glo "BadRules") rfl)),
    (He.glo_ok X G (c.d.fact 64 (f := .glo "DoorError") rfl)),
    (He.glo_ok X G (c.d.fact 65 (f := .glo "TooMany") rfl)),
    (by
    intro q hq
    simp only [List.mem_cons, List.not_mem_nil, or_false] at hq
    rcases hq with rfl
    · exact exm_C X G (c.d.fact 66 (f := .exm "BadRules" "DoorError" true) rfl) (c.d.fact 63 (f := .glo "BadRules") rfl)
    ),
    (by
    intro q hq
    simp only [List.mem_cons, List.not_mem_nil, or_false] at hq
    rcases hq with rfl
    · exact exm_C X G (c.d.fact 67 (f := .exm "TooMany" "TooMany" true) rfl) (c.d.fact 65 (f := .glo "TooMany") rfl)
    ),
    (fun x hx => (ask_ok X G ck1 (fun x hx => by
    simp only [List.map_cons, List.map_nil, List.mem_cons, List.not_mem_nil, or_false] at hx
    rcases hx with rfl
    · exact c.d.fact 63 (f := .glo "BadRules") rfl
    ) (fun x hx => by
    simp only [List.mem_cons, List.not_mem_nil, or_false] at hx
    rcases hx with rfl | rfl | rfl
    · exact c.d.fact 63 (f := .glo "BadRules") rfl
    · exact c.d.fact 62 (f := .glo "BadRule") rfl
    · exact c.d.fact 65 (f := .glo "TooMany") rfl
    )).ok x (by obtain ⟨b, hb⟩ := hx; exact List.mem_map.mpr ⟨(x, b), hb, rfl⟩)),
    (fun x hx => (ask_ok X G ck2 (fun x hx => by
    simp only [List.map_cons, List.map_nil, List.mem_cons, List.not_mem_nil, or_false] at hx
    rcases hx with rfl
    · exact c.d.fact 65 (f := .glo "TooMany") rfl
    ) (fun x hx => nomatch hx)).ok x (by obtain ⟨b, hb⟩ := hx; exact List.mem_map.mpr ⟨(x, b), hb, rfl⟩))⟩
  obtain ⟨fd0, F0⟩ := c.d.def_ 0 (d := dm "TooMany" "__init__" "TooMany.__init__" 5 0) rfl
  obtain ⟨fd1, F1⟩ := c.d.def_ 1 (d := dd "is_int" 7) rfl
  obtain ⟨fd2, F2⟩ := c.d.def_ 2 (d := dd "is_between" 8) rfl
  obtain ⟨fd3, F3⟩ := c.d.def_ 3 (d := dd "is_bit" 9) rfl
  obtain ⟨fd4, F4⟩ := c.d.def_ 4 (d := dd "is_tuple_of" 10) rfl
  obtain ⟨fd5, F5⟩ := c.d.def_ 5 (d := dd "is_told_number" 14) rfl
  obtain ⟨fd6, F6⟩ := c.d.def_ 6 (d := dd "is_told_range" 15) rfl
  obtain ⟨fd7, F7⟩ := c.d.def_ 7 (d := dd "is_told_rule" 16) rfl
  obtain ⟨fd8, F8⟩ := c.d.def_ 8 (d := dd "is_range" 22) rfl
  obtain ⟨fd9, F9⟩ := c.d.def_ 9 (d := dd "is_rule" 23) rfl
  obtain ⟨fd10, F10⟩ := c.d.def_ 10 (d := dd "is_rules" 24) rfl
  obtain ⟨fd11, F11⟩ := c.d.def_ 11 (d := dd "check_rules" 25) rfl
  obtain ⟨fd12, F12⟩ := c.d.def_ 12 (d := dd "check_few" 26) rfl
  obtain ⟨fd13, F13⟩ := c.d.def_ 13 (d := dd "check_boxes" 27) rfl
  obtain ⟨fd14, F14⟩ := c.d.def_ 14 (d := dd "cuts_at" 29) rfl
  obtain ⟨fd15, F15⟩ := c.d.def_ 15 (d := dd "cuts_of" 30) rfl
  obtain ⟨fd16, F16⟩ := c.d.def_ 16 (d := dd "lowest" 31) rfl
  obtain ⟨fd17, F17⟩ := c.d.def_ 17 (d := dd "without_lowest" 32) rfl
  obtain ⟨fd18, F18⟩ := c.d.def_ 18 (d := dd "masks_at" 33) rfl
  obtain ⟨fd19, F19⟩ := c.d.def_ 19 (d := dm "Grid" "__init__" "Grid.__init__" 34 0) rfl
  obtain ⟨fd20, F20⟩ := c.d.def_ 20 (d := dm "Grid" "lets" "Grid.lets" 34 1) rfl
  obtain ⟨fd21, F21⟩ := c.d.def_ 21 (d := dm "Grid" "mask" "Grid.mask" 34 2) rfl
  obtain ⟨fd22, F22⟩ := c.d.def_ 22 (d := dm "Grid" "distinct" "Grid.distinct" 34 4) rfl
  obtain ⟨fd23, F23⟩ := c.d.def_ 23 (d := dd "first_ones" 36) rfl
  obtain ⟨fd24, F24⟩ := c.d.def_ 24 (d := dd "hidden_numbers" 37) rfl
  obtain ⟨fd25, F25⟩ := c.d.def_ 25 (d := dd "is_told_by_first" 38) rfl
  obtain ⟨fd26, F26⟩ := c.d.def_ 26 (d := dd "idle_numbers" 39) rfl
  obtain ⟨fd27, F27⟩ := c.d.def_ 27 (d := dd "looked_at" 41) rfl
  obtain ⟨fd28, F28⟩ := c.d.def_ 28 (d := dd "hidden" 42) rfl
  obtain ⟨fd29, F29⟩ := c.d.def_ 29 (d := dd "idle" 43) rfl
  obtain ⟨fd30, F30⟩ := c.d.def_ 30 (d := dd "_law_numbers" 45) rfl
  obtain ⟨fd31, F31⟩ := c.d.def_ 31 (d := dd "_law_pick" 46) rfl
  obtain ⟨fd32, F32⟩ := c.d.def_ 32 (d := dd "_law_like" 47) rfl
  obtain ⟨fd33, F33⟩ := c.d.def_ 33 (d := dd "_law_points" 48) rfl
  obtain ⟨fd34, F34⟩ := c.d.def_ 34 (d := dd "_law_between" 49) rfl
  obtain ⟨fd35, F35⟩ := c.d.def_ 35 (d := dd "_law_rules" 50) rfl
  obtain ⟨fd36, F36⟩ := c.d.def_ 36 (d := dd "_law_few" 51) rfl
  obtain ⟨fd37, F37⟩ := c.d.def_ 37 (d := dd "_law_stripes" 52) rfl
  obtain ⟨fd38, F38⟩ := c.d.def_ 38 (d := dd "_law_cuts" 53) rfl
  obtain ⟨fd39, F39⟩ := c.d.def_ 39 (d := dd "_law_first" 54) rfl
  obtain ⟨fd40, F40⟩ := c.d.def_ 40 (d := dd "_law_triples" 55) rfl
  obtain ⟨fd41, F41⟩ := c.d.def_ 41 (d := dd "_law_told" 56) rfl
  obtain ⟨fd42, F42⟩ := c.d.def_ 42 (d := dd "_law_more" 57) rfl
  obtain ⟨fd43, F43⟩ := c.d.def_ 43 (d := dd "_law_next" 58) rfl
  obtain ⟨fd44, F44⟩ := c.d.def_ 44 (d := dd "_law_sorted_out" 59) rfl
  obtain ⟨fd45, F45⟩ := c.d.def_ 45 (d := dd "_law_holds" 60) rfl
  obtain ⟨fd46, F46⟩ := c.d.def_ 46 (d := dd "law" 61) rfl
  have e := hfa1.symm.trans (He.glo_ok X G (c.d.fact 46 (f := .glo "law") rfl))
  cases e
  have b := FunD.bindsA (ps := ["script"]) F46 fun _ _ _ _ _ _ us hl => match us, hl with | [_], _ => rfl
  refine ⟨fd46, tc, tP, ht1, ht2, fun s v => b s [v] rfl, fun base hb1 hb2 hTB => ?_⟩
  have X_TooMany : ExI P w K mg base "TooMany" 1 := ⟨He.ga K "TooMany", _, fd0, He.glo_ok X G (c.d.fact 65 (f := .glo "TooMany") rfl), (exiB_ok ck3).oe, (exiB_ok ck3).i1, (exiB_ok ck3).i2, (exiB_ok ck3).i3, F0.bindsN fun _ _ _ _ _ _ us hl => match us, hl with | [_, _], _ => rfl, ok_TooMany___init__ F0 (He.glo_ok X G (c.d.fact 64 (f := .glo "DoorError") rfl)) (exiB_ok ck3).ic⟩
  have O_is_int : FnOk P w K mg base (L2N.CX P w) (1) _ fd1 ["value"] (spD ⟨K, mg⟩ F_is_int 1) := ok_is_int T F1       
  have D_is_int : Df P w K mg base "is_int" ["value"] F_is_int 1 := df_mk F1 (He.glo_ok X G (c.d.fact 1 (f := .glo "is_int") rfl)) (F1.bindsN fun _ _ _ _ _ _ us hl => match us, hl with | [_], _ => rfl) O_is_int
  have O_is_between : FnOk P w K mg base (L2N.CX P w) (2) _ fd2 ["value", "least", "greatest"] (spD ⟨K, mg⟩ F_is_between 3) := ok_is_between T F2 D_is_int      
  have D_is_between : Df P w K mg base "is_between" ["value", "least", "greatest"] F_is_between 2 := df_mk F2 (He.glo_ok X G (c.d.fact 2 (f := .glo "is_between") rfl)) (F2.bindsN fun _ _ _ _ _ _ us hl => match us, hl with | [_, _, _], _ => rfl) O_is_between
  have O_is_bit : FnOk P w K mg base (L2N.CX P w) (3) _ fd3 ["value"] (spD ⟨K, mg⟩ F_is_bit 1) := ok_is_bit T F3 D_is_between      
  have D_is_bit : Df P w K mg base "is_bit" ["value"] F_is_bit 3 := df_mk F3 (He.glo_ok X G (c.d.fact 3 (f := .glo "is_bit") rfl)) (F3.bindsN fun _ _ _ _ _ _ us hl => match us, hl with | [_], _ => rfl) O_is_bit
  have O_is_tuple_of : FnOk P w K mg base (L2N.CX P w) (1) _ fd4 ["value", "length"] (spD ⟨K, mg⟩ F_is_tuple_of 2) := ok_is_tuple_of T F4       
  have D_is_tuple_of : Df P w K mg base "is_tuple_of" ["value", "length"] F_is_tuple_of 1 := df_mk F4 (He.glo_ok X G (c.d.fact 4 (f := .glo "is_tuple_of") rfl)) (F4.bindsN fun _ _ _ _ _ _ us hl => match us, hl with | [_, _], _ => rfl) O_is_tuple_of
  have O_is_told_number : FnOk P w K mg base (L2N.CX P w) (3) _ fd5 ["value"] (spD ⟨K, mg⟩ F_is_told_number 1) := ok_is_told_number T F5 D_is_between      
  have D_is_told_number : Df P w K mg base "is_told_number" ["value"] F_is_told_number 3 := df_mk F5 (He.glo_ok X G (c.d.fact 5 (f := .glo "is_told_number") rfl)) (F5.bindsN fun _ _ _ _ _ _ us hl => match us, hl with | [_], _ => rfl) O_is_told_number
  have O_is_told_range : FnOk P w K mg base (L2N.CX P w) (4) _ fd6 ["value"] (spD ⟨K, mg⟩ F_is_told_range 1) := ok_is_told_range T F6 D_is_tuple_of D_is_told_number      
  have D_is_told_range : Df P w K mg base "is_told_range" ["value"] F_is_told_range 4 := df_mk F6 (He.glo_ok X G (c.d.fact 6 (f := .glo "is_told_range") rfl)) (F6.bindsN fun _ _ _ _ _ _ us hl => match us, hl with | [_], _ => rfl) O_is_told_range
  have O_is_told_rule : FnOk P w K mg base (L2N.CX P w) (5) _ fd7 ["value"] (spD ⟨K, mg⟩ F_is_told_rule 1) := ok_is_told_rule T F7 D_is_tuple_of D_is_bit D_is_told_range      
  have D_is_told_rule : Df P w K mg base "is_told_rule" ["value"] F_is_told_rule 5 := df_mk F7 (He.glo_ok X G (c.d.fact 7 (f := .glo "is_told_rule") rfl)) (F7.bindsN fun _ _ _ _ _ _ us hl => match us, hl with | [_], _ => rfl) O_is_told_rule
  have O_is_range : FnOk P w K mg base (L2N.CX P w) (5) _ fd8 ["value"] (spD ⟨K, mg⟩ F_is_range 1) := ok_is_range T F8 D_is_told_range      
  have D_is_range : Df P w K mg base "is_range" ["value"] F_is_range 5 := df_mk F8 (He.glo_ok X G (c.d.fact 8 (f := .glo "is_range") rfl)) (F8.bindsN fun _ _ _ _ _ _ us hl => match us, hl with | [_], _ => rfl) O_is_range
  have O_is_rule : FnOk P w K mg base (L2N.CX P w) (6) _ fd9 ["value"] (spD ⟨K, mg⟩ F_is_rule 1) := ok_is_rule T F9 D_is_told_rule D_is_range      
  have D_is_rule : Df P w K mg base "is_rule" ["value"] F_is_rule 6 := df_mk F9 (He.glo_ok X G (c.d.fact 9 (f := .glo "is_rule") rfl)) (F9.bindsN fun _ _ _ _ _ _ us hl => match us, hl with | [_], _ => rfl) O_is_rule
  have O_is_rules : FnOk P w K mg base (L2N.CX P w) (7) _ fd10 ["value"] (spD ⟨K, mg⟩ F_is_rules 1) := ok_is_rules T F10 D_is_rule      
  have D_is_rules : Df P w K mg base "is_rules" ["value"] F_is_rules 7 := df_mk F10 (He.glo_ok X G (c.d.fact 10 (f := .glo "is_rules") rfl)) (F10.bindsN fun _ _ _ _ _ _ us hl => match us, hl with | [_], _ => rfl) O_is_rules
  have O_check_rules : FnOk P w K mg base (L2N.CX P w) (8) _ fd11 ["value"] (spD ⟨K, mg⟩ F_check_rules 1) := ok_check_rules T F11 D_is_rules      
  have D_check_rules : Df P w K mg base "check_rules" ["value"] F_check_rules 8 := df_mk F11 (He.glo_ok X G (c.d.fact 11 (f := .glo "check_rules") rfl)) (F11.bindsN fun _ _ _ _ _ _ us hl => match us, hl with | [_], _ => rfl) O_check_rules
  have O_check_few : FnOk P w K mg base (L2N.CX P w) (3) _ fd12 ["rules"] (spD ⟨K, mg⟩ F_check_few 1) := ok_check_few T F12    X_TooMany   
  have D_check_few : Df P w K mg base "check_few" ["rules"] F_check_few 3 := df_mk F12 (He.glo_ok X G (c.d.fact 12 (f := .glo "check_few") rfl)) (F12.bindsN fun _ _ _ _ _ _ us hl => match us, hl with | [_], _ => rfl) O_check_few
  have O_check_boxes : FnOk P w K mg base (L2N.CX P w) (3) _ fd13 ["cuts"] (spD ⟨K, mg⟩ F_check_boxes 1) := ok_check_boxes T F13    X_TooMany   
  have D_check_boxes : Df P w K mg base "check_boxes" ["cuts"] F_check_boxes 3 := df_mk F13 (He.glo_ok X G (c.d.fact 13 (f := .glo "check_boxes") rfl)) (F13.bindsN fun _ _ _ _ _ _ us hl => match us, hl with | [_], _ => rfl) O_check_boxes
  have O_cuts_at : FnOk P w K mg base (L2N.CX P w) (1) _ fd14 ["walls", "place"] (spD ⟨K, mg⟩ F_cuts_at 2) := ok_cuts_at T F14       
  have D_cuts_at : Df P w K mg base "cuts_at" ["walls", "place"] F_cuts_at 1 := df_mk F14 (He.glo_ok X G (c.d.fact 14 (f := .glo "cuts_at") rfl)) (F14.bindsN fun _ _ _ _ _ _ us hl => match us, hl with | [_, _], _ => rfl) O_cuts_at
  have O_cuts_of : FnOk P w K mg base (L2N.CX P w) (4) _ fd15 ["walls"] (spD ⟨K, mg⟩ F_cuts_of 1) := ok_cuts_of T F15 D_cuts_at D_check_boxes      
  have D_cuts_of : Df P w K mg base "cuts_of" ["walls"] F_cuts_of 4 := df_mk F15 (He.glo_ok X G (c.d.fact 15 (f := .glo "cuts_of") rfl)) (F15.bindsN fun _ _ _ _ _ _ us hl => match us, hl with | [_], _ => rfl) O_cuts_of
  have O_lowest : FnOk P w K mg base (L2N.CX P w) (1) _ fd16 ["mask"] (spD ⟨K, mg⟩ F_lowest 1) := ok_lowest T F16       
  have D_lowest : Df P w K mg base "lowest" ["mask"] F_lowest 1 := df_mk F16 (He.glo_ok X G (c.d.fact 16 (f := .glo "lowest") rfl)) (F16.bindsN fun _ _ _ _ _ _ us hl => match us, hl with | [_], _ => rfl) O_lowest
  have O_without_lowest : FnOk P w K mg base (L2N.CX P w) (1) _ fd17 ["mask"] (spD ⟨K, mg⟩ F_without_lowest 1) := ok_without_lowest T F17       
  have D_without_lowest : Df P w K mg base "without_lowest" ["mask"] F_without_lowest 1 := df_mk F17 (He.glo_ok X G (c.d.fact 17 (f := .glo "without_lowest") rfl)) (F17.bindsN fun _ _ _ _ _ _ us hl => match us, hl with | [_], _ => rfl) O_without_lowest
  have O_masks_at : FnOk P w K mg base (L2N.CX P w) (1) _ fd18 ["rules", "cuts", "place"] (spD ⟨K, mg⟩ F_masks_at 3) := ok_masks_at T F18       
  have D_masks_at : Df P w K mg base "masks_at" ["rules", "cuts", "place"] F_masks_at 1 := df_mk F18 (He.glo_ok X G (c.d.fact 18 (f := .glo "masks_at") rfl)) (F18.bindsN fun _ _ _ _ _ _ us hl => match us, hl with | [_, _, _], _ => rfl) O_masks_at
  have I_Grid : Di P w K mg base "Grid" ["self", "rules", "cuts"] F_Grid___init__ 2 := ⟨He.ga K "Grid", _, fd19, He.glo_ok X G (c.d.fact 68 (f := .glo "Grid") rfl), He.mkr_ok (c.d.fact 74 (f := .mkr "Grid") rfl), F19.bindsN fun _ _ _ _ _ _ us hl => match us, hl with | [_, _, _], _ => rfl, ok_Grid___init__ T F19 D_masks_at      ⟩
  have M_Grid_lets : Dm P w K mg base "Grid" "lets" ["self", "mask"] F_Grid_lets 1 := ⟨He.ga K "Grid", _, fd20, He.glo_ok X G (c.d.fact 68 (f := .glo "Grid") rfl), He.cls_ok (c.d.fact 69 (f := .cls "Grid") rfl), He.meth_ok (c.d.fact 75 (f := .meth "Grid" "lets") rfl), F20.bindsN fun _ _ _ _ _ _ us hl => match us, hl with | [_, _], _ => rfl, ok_Grid_lets T F20       ⟩
  have M_Grid_mask : Dm P w K mg base "Grid" "mask" ["self", "box"] F_Grid_mask 1 := ⟨He.ga K "Grid", _, fd21, He.glo_ok X G (c.d.fact 68 (f := .glo "Grid") rfl), He.cls_ok (c.d.fact 69 (f := .cls "Grid") rfl), He.meth_ok (c.d.fact 76 (f := .meth "Grid" "mask") rfl), F21.bindsN fun _ _ _ _ _ _ us hl => match us, hl with | [_, _], _ => rfl, ok_Grid_mask T F21       ⟩
  have M_Grid_distinct : Dm P w K mg base "Grid" "distinct" ["self"] F_Grid_distinct 1 := ⟨He.ga K "Grid", _, fd22, He.glo_ok X G (c.d.fact 68 (f := .glo "Grid") rfl), He.cls_ok (c.d.fact 69 (f := .cls "Grid") rfl), He.meth_ok (c.d.fact 77 (f := .meth "Grid" "distinct") rfl), F22.bindsN fun _ _ _ _ _ _ us hl => match us, hl with | [_], _ => rfl, ok_Grid_distinct T F22       ⟩
  have O_first_ones : FnOk P w K mg base (L2N.CX P w) (2) _ fd23 ["masks"] (spD ⟨K, mg⟩ F_first_ones 1) := ok_first_ones T F23 D_lowest      
  have D_first_ones : Df P w K mg base "first_ones" ["masks"] F_first_ones 2 := df_mk F23 (He.glo_ok X G (c.d.fact 23 (f := .glo "first_ones") rfl)) (F23.bindsN fun _ _ _ _ _ _ us hl => match us, hl with | [_], _ => rfl) O_first_ones
  have O_hidden_numbers : FnOk P w K mg base (L2N.CX P w) (3) _ fd24 ["masks", "count"] (spD ⟨K, mg⟩ F_hidden_numbers 2) := ok_hidden_numbers T F24 D_first_ones      
  have D_hidden_numbers : Df P w K mg base "hidden_numbers" ["masks", "count"] F_hidden_numbers 3 := df_mk F24 (He.glo_ok X G (c.d.fact 24 (f := .glo "hidden_numbers") rfl)) (F24.bindsN fun _ _ _ _ _ _ us hl => match us, hl with | [_, _], _ => rfl) O_hidden_numbers
  have O_is_told_by_first : FnOk P w K mg base (L2N.CX P w) (2) _ fd25 ["grid", "mask"] (spD ⟨K, mg⟩ F_is_told_by_first 2) := ok_is_told_by_first T F25 D_without_lowest M_Grid_lets     
  have D_is_told_by_first : Df P w K mg base "is_told_by_first" ["grid", "mask"] F_is_told_by_first 2 := df_mk F25 (He.glo_ok X G (c.d.fact 25 (f := .glo "is_told_by_first") rfl)) (F25.bindsN fun _ _ _ _ _ _ us hl => match us, hl with | [_, _], _ => rfl) O_is_told_by_first
  have O_idle_numbers : FnOk P w K mg base (L2N.CX P w) (3) _ fd26 ["grid", "masks", "count"] (spD ⟨K, mg⟩ F_idle_numbers 3) := ok_idle_numbers T F26 D_is_told_by_first D_lowest      
  have D_idle_numbers : Df P w K mg base "idle_numbers" ["grid", "masks", "count"] F_idle_numbers 3 := df_mk F26 (He.glo_ok X G (c.d.fact 26 (f := .glo "idle_numbers") rfl)) (F26.bindsN fun _ _ _ _ _ _ us hl => match us, hl with | [_, _, _], _ => rfl) O_idle_numbers
  have O_looked_at : FnOk P w K mg base (L2N.CX P w) (9) _ fd27 ["rules"] (spD ⟨K, mg⟩ F_looked_at 1) := ok_looked_at T F27 D_check_rules D_check_few D_cuts_of  I_Grid    
  have D_looked_at : Df P w K mg base "looked_at" ["rules"] F_looked_at 9 := df_mk F27 (He.glo_ok X G (c.d.fact 27 (f := .glo "looked_at") rfl)) (F27.bindsN fun _ _ _ _ _ _ us hl => match us, hl with | [_], _ => rfl) O_looked_at
  have O_hidden : FnOk P w K mg base (L2N.CX P w) (10) _ fd28 ["rules"] (spD ⟨K, mg⟩ F_hidden 1) := ok_hidden T F28 D_looked_at D_hidden_numbers M_Grid_distinct     
  have D_hidden : Df P w K mg base "hidden" ["rules"] F_hidden 10 := df_mk F28 (He.glo_ok X G (c.d.fact 28 (f := .glo "hidden") rfl)) (F28.bindsN fun _ _ _ _ _ _ us hl => match us, hl with | [_], _ => rfl) O_hidden
  have O_idle : FnOk P w K mg base (L2N.CX P w) (10) _ fd29 ["rules"] (spD ⟨K, mg⟩ F_idle 1) := ok_idle T F29 D_looked_at D_idle_numbers M_Grid_distinct     
  have D_idle : Df P w K mg base "idle" ["rules"] F_idle 10 := df_mk F29 (He.glo_ok X G (c.d.fact 29 (f := .glo "idle") rfl)) (F29.bindsN fun _ _ _ _ _ _ us hl => match us, hl with | [_], _ => rfl) O_idle
  have O__law_numbers : FnOk P w K mg base (L2N.CX P w) (1) _ fd30 ["script", "at", "count"] (spD ⟨K, mg⟩ F__law_numbers 3) := ok__law_numbers T F30       
  have D__law_numbers : Df P w K mg base "_law_numbers" ["script", "at", "count"] F__law_numbers 1 := df_mk F30 (He.glo_ok X G (c.d.fact 30 (f := .glo "_law_numbers") rfl)) (F30.bindsN fun _ _ _ _ _ _ us hl => match us, hl with | [_, _, _], _ => rfl) O__law_numbers
  have O__law_pick : FnOk P w K mg base (L2N.CX P w) (1) _ fd31 ["numbers", "at", "count"] (spD ⟨K, mg⟩ F__law_pick 3) := ok__law_pick T F31       
  have D__law_pick : Df P w K mg base "_law_pick" ["numbers", "at", "count"] F__law_pick 1 := df_mk F31 (He.glo_ok X G (c.d.fact 31 (f := .glo "_law_pick") rfl)) (F31.bindsN fun _ _ _ _ _ _ us hl => match us, hl with | [_, _, _], _ => rfl) O__law_pick
  have D__law_like : Df P w K mg base "_law_like" ["told", "due"] (Fp_like 9) 9 := df_mk F32 (He.glo_ok X G (c.d.fact 32 (f := .glo "_law_like") rfl)) (F32.bindsN fun _ _ _ _ _ _ us hl => match us, hl with | [_, _], _ => rfl) (rec__law_like T F32 (He.glo_ok X G (c.d.fact 32 (f := .glo "_law_like") rfl)) (F32.bindsN fun _ _ _ _ _ _ us hl => match us, hl with | [_, _], _ => rfl)  9)
  have H__law_like : DfH P w K mg base "_law_like" ["told", "due"] F__law_likeH 1 := ⟨_, fd32, He.glo_ok X G (c.d.fact 32 (f := .glo "_law_like") rfl), F32.kp, F32.bindsN fun _ _ _ _ _ _ us hl => match us, hl with | [_, _], _ => rfl, ok__law_likeH T F32⟩
  have O__law_points : FnOk P w K mg base (L2N.CX P w) (2) _ fd33 ["numbers", "at", "count"] (spD ⟨K, mg⟩ F__law_points 3) := ok__law_points T F33 D__law_pick      
  have D__law_points : Df P w K mg base "_law_points" ["numbers", "at", "count"] F__law_points 2 := df_mk F33 (He.glo_ok X G (c.d.fact 33 (f := .glo "_law_points") rfl)) (F33.bindsN fun _ _ _ _ _ _ us hl => match us, hl with | [_, _, _], _ => rfl) O__law_points
  have O__law_between : FnOk P w K mg base (L2N.CX P w) (1) _ fd34 ["points", "kind", "one", "other"] (spD ⟨K, mg⟩ F__law_between 4) := ok__law_between T F34       
  have D__law_between : Df P w K mg base "_law_between" ["points", "kind", "one", "other"] F__law_between 1 := df_mk F34 (He.glo_ok X G (c.d.fact 34 (f := .glo "_law_between") rfl)) (F34.bindsN fun _ _ _ _ _ _ us hl => match us, hl with | [_, _, _, _], _ => rfl) O__law_between
  have O__law_rules : FnOk P w K mg base (L2N.CX P w) (2) _ fd35 ["numbers", "at", "count", "points"] (spD ⟨K, mg⟩ F__law_rules 4) := ok__law_rules T F35 D__law_pick D__law_between      
  have D__law_rules : Df P w K mg base "_law_rules" ["numbers", "at", "count", "points"] F__law_rules 2 := df_mk F35 (He.glo_ok X G (c.d.fact 35 (f := .glo "_law_rules") rfl)) (F35.bindsN fun _ _ _ _ _ _ us hl => match us, hl with | [_, _, _, _], _ => rfl) O__law_rules
  have O__law_few : FnOk P w K mg base (L2N.CX P w) (1) _ fd36 ["number"] (spD ⟨K, mg⟩ F__law_few 1) := ok__law_few T F36       
  have D__law_few : Df P w K mg base "_law_few" ["number"] F__law_few 1 := df_mk F36 (He.glo_ok X G (c.d.fact 36 (f := .glo "_law_few") rfl)) (F36.bindsN fun _ _ _ _ _ _ us hl => match us, hl with | [_], _ => rfl) O__law_few
  have O__law_stripes : FnOk P w K mg base (L2N.CX P w) (2) _ fd37 ["numbers", "count", "place", "most"] (spD ⟨K, mg⟩ F__law_stripes 4) := ok__law_stripes T F37 D__law_pick      
  have D__law_stripes : Df P w K mg base "_law_stripes" ["numbers", "count", "place", "most"] F__law_stripes 2 := df_mk F37 (He.glo_ok X G (c.d.fact 37 (f := .glo "_law_stripes") rfl)) (F37.bindsN fun _ _ _ _ _ _ us hl => match us, hl with | [_, _, _, _], _ => rfl) O__law_stripes
  have O__law_cuts : FnOk P w K mg base (L2N.CX P w) (1) _ fd38 ["rules", "place"] (spD ⟨K, mg⟩ F__law_cuts 2) := ok__law_cuts T F38       
  have D__law_cuts : Df P w K mg base "_law_cuts" ["rules", "place"] F__law_cuts 1 := df_mk F38 (He.glo_ok X G (c.d.fact 38 (f := .glo "_law_cuts") rfl)) (F38.bindsN fun _ _ _ _ _ _ us hl => match us, hl with | [_, _], _ => rfl) O__law_cuts
  have O__law_first : FnOk P w K mg base (L2N.CX P w) (1) _ fd39 ["rules", "triple"] (spD ⟨K, mg⟩ F__law_first 2) := ok__law_first T F39       
  have D__law_first : Df P w K mg base "_law_first" ["rules", "triple"] F__law_first 1 := df_mk F39 (He.glo_ok X G (c.d.fact 39 (f := .glo "_law_first") rfl)) (F39.bindsN fun _ _ _ _ _ _ us hl => match us, hl with | [_, _], _ => rfl) O__law_first
  have O__law_triples : FnOk P w K mg base (L2N.CX P w) (2) _ fd40 ["rules"] (spD ⟨K, mg⟩ F__law_triples 1) := ok__law_triples T F40 D__law_cuts      
  have D__law_triples : Df P w K mg base "_law_triples" ["rules"] F__law_triples 2 := df_mk F40 (He.glo_ok X G (c.d.fact 40 (f := .glo "_law_triples") rfl)) (F40.bindsN fun _ _ _ _ _ _ us hl => match us, hl with | [_], _ => rfl) O__law_triples
  have L__law_told : DfL P w K mg base "_law_told" ["call"] F__law_told 15 16 := ⟨_, fd41, He.glo_ok X G (c.d.fact 41 (f := .glo "_law_told") rfl), F41.kp, F41.bindsN fun _ _ _ _ _ _ us hl => match us, hl with | [_], _ => rfl, ok__law_told T F41       ⟩
  have O__law_more : FnOk P w K mg base (L2N.CX P w) (2) _ fd42 ["rules", "numbers"] (spD ⟨K, mg⟩ F__law_more 2) := ok__law_more T F42 D__law_pick      
  have D__law_more : Df P w K mg base "_law_more" ["rules", "numbers"] F__law_more 2 := df_mk F42 (He.glo_ok X G (c.d.fact 42 (f := .glo "_law_more") rfl)) (F42.bindsN fun _ _ _ _ _ _ us hl => match us, hl with | [_, _], _ => rfl) O__law_more
  have O__law_next : FnOk P w K mg base (L2N.CX P w) (2) _ fd43 ["rules", "triple", "at"] (spD ⟨K, mg⟩ F__law_next 3) := ok__law_next T F43 D__law_first      
  have D__law_next : Df P w K mg base "_law_next" ["rules", "triple", "at"] F__law_next 2 := df_mk F43 (He.glo_ok X G (c.d.fact 43 (f := .glo "_law_next") rfl)) (F43.bindsN fun _ _ _ _ _ _ us hl => match us, hl with | [_, _, _], _ => rfl) O__law_next
  have O__law_sorted_out : FnOk P w K mg base (L2N.CX P w) (3) _ fd44 ["rules"] (spD ⟨K, mg⟩ F__law_sorted_out 1) := ok__law_sorted_out T F44 D__law_triples D__law_first D__law_next      
  have D__law_sorted_out : Df P w K mg base "_law_sorted_out" ["rules"] F__law_sorted_out 3 := df_mk F44 (He.glo_ok X G (c.d.fact 44 (f := .glo "_law_sorted_out") rfl)) (F44.bindsN fun _ _ _ _ _ _ us hl => match us, hl with | [_], _ => rfl) O__law_sorted_out
  have O__law_holds : FnOk P w K mg base (L2N.CX P w) (11) _ fd45 ["rules"] (spD ⟨K, mg⟩ F__law_holds 1) := ok__law_holds T F45 D__law_sorted_out D__law_like D_hidden D_idle      
  have D__law_holds : Df P w K mg base "_law_holds" ["rules"] F__law_holds 11 := df_mk F45 (He.glo_ok X G (c.d.fact 45 (f := .glo "_law_holds") rfl)) (F45.bindsN fun _ _ _ _ _ _ us hl => match us, hl with | [_], _ => rfl) O__law_holds
  exact ok_law T ⟨tc, tP, ht1, hTB⟩ hb1 hb2 (He.glo_ok X G (c.d.fact 46 (f := .glo "law") rfl)) F46 D__law_numbers D__law_points D__law_rules D__law_few D__law_pick D__law_stripes D__law_holds D__law_more D_hidden D_idle   X_TooMany H__law_like  L__law_told

end Law
open PySem PySem.W PySem.Calls PyProof.Rows
set_option maxRecDepth 100000 in
set_option maxHeartbeats 0 in
theorem PySem.Challenge.cw_holesmet_k73_hidden_and_idle_rules_holds : PySem.Challenge.rw_holesmet_k73_hidden_and_idle_rules.Holds := by
  w_on; o_law
  refine HandSHeadRun.head_any (r := OpenLaw.row PySem.Challenge.rw_holesmet_k73_hidden_and_idle_rules) (q := view (OpenLaw.row PySem.Challenge.rw_holesmet_k73_hidden_and_idle_rules).prog [61]) (H := Law.hk) (ob := Law.ob) (M := 4000) (loose := Law.loose) (d := HandSHeadRun.topDef (OpenLaw.row PySem.Challenge.rw_holesmet_k73_hidden_and_idle_rules).prog 61) (kwd := []) Law.ob_eq
    (by kernel_rfl) (fun s => by kernel_rfl) Law.run (by kernel_rfl) (by kernel_rfl) (by kernel_rfl) (by rfl) (by first | assumption | decide +kernel) (by decide +kernel) ⟨rfl, rfl, rfl, rfl, rfl, by decide +kernel⟩ ?hw ?hc
  case hw => w_witness2
  case hc =>
    refine Fl.walk_ofXT (l := PySem.Challenge.rw_holesmet_k73_hidden_and_idle_rules) (n := 63) (k := 17) (x := "script") (y := "law") (dd := HandSHeadRun.topDef (OpenLaw.row PySem.Challenge.rw_holesmet_k73_hidden_and_idle_rules).prog 61) (CX := fun w => L2N.CX (PySem.Challenge.rw_holesmet_k73_hidden_and_idle_rules).prog w) rfl (by decide) (by kernel_rfl) ⟨rfl, by decide, by decide⟩ (by kernel_rfl) ?F ?G
    case G =>
      rintro w H s e s' ⟨_, _, _, _, _, _, _, _, _, _, _, _, z⟩
      exact z
    case F =>
      intro w mg fa h Y G hmg0
      obtain ⟨K, KX, c⟩ := Y
      have hmg : mg ("law" : PySem.Str) = some (.ref fa) := by
        have e : (HandSHeadRun.topDef (OpenLaw.row PySem.Challenge.rw_holesmet_k73_hidden_and_idle_rules).prog 61).name = ("law" : PySem.Str) := by kernel_rfl
        rw [← e]
        exact hmg0
      obtain ⟨fd, tc, tP, h1, h2, hb, hF⟩ := Law.facts (P := (PySem.Challenge.rw_holesmet_k73_hidden_and_idle_rules).prog) (w := w) KX G hmg c
      exact ⟨K, fd, _, tc, tP, KX, h1, h2, hb, fun H a ns hl hO hS => Fl.law_specT h1 Law.law_true H a ns hl hO hS, hF⟩
#print axioms PySem.Challenge.cw_holesmet_k73_hidden_and_idle_rules_holds

