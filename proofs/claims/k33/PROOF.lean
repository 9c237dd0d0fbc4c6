import PyProof.Rows.All
import Wide.All
import OpenK.AllK
import Wide.FinOn
import PySem.Challenge.RW_pathfolios_k33_plans_judged
import HandS.Base
import HandS.Call
import HandS.List
import HandS.Comp
import HandS.Exc
import HandS.Lambda
import HandS.Conv
import HandS.TupAny
import HandS.TupMul
import HandS.Flow
import HandS.Ends
import HandS.WordsExc
import HandS.Iter
import HandS.NoneIn
import HandS.Text
import HandS.IsInst
import KE.DataCmp
import PyProof.ReprRoads
import HandS.Defaults
import HandS.Zip
import KE.KDictZip
import KE.KItemsList
import PyProof.ListNew
import KE.GoesEnumKw
import HandS.ListItems
import KE.SortKeyHeap
import HandS.SortKw
import HandS.EndTab
import HandS.HeadHook4
import HandS.Head2
import HandS.Dict
import HandS.DictComp
import PyProof.WalksMore
import PyProof.CollectIter
import HandS.ExcValue
import HandS.ExcOwn
import KE.GoesEnum
import HandS.Set
import HandS.Strs
import HandS.TupSets
import HandS.Style
import KE.SortCalls
import HandS.DictTup
import HandS.WrittenGet
import HandS.HeadHook3
import PyProof.Rows.ListMulArg
import HandS.Sort
import HandS.More
import HandS.ExcInit
import HandS.ClsMeth
import HandS.TryMany
import HandS.ExcField
import KE.KExcIs
import KE.KIsAll
import KE.DataFind
import HandS.ExcIs
import KE.KTryMore
import KE.DataEq
section
set_option Elab.async false
set_option linter.all false
set_option maxRecDepth 100000
/-! Ev1: values and objects of the evaluator, how they stand in the abstract heap. -/
namespace EV
open PySem PySem.Spec PyProof.Rows L2

/-- a Python value; tuples, and lists that never change, are written out (sls: a list of the module's or the script); obj n: the n-th changing object -/
inductive PV where
  | non
  | bl (b : Bool)
  | int (i : Int)
  | str (x : Str)
  | tup (xs : List PV)
  | lst (xs : List PV)
  | sls (xs : List PV)
  | obj (n : Nat)

/-- a changing object -/
inductive GO where
  | lst (xs : List PV)
  | dic (kvs : List (Key × PV))
  | ins (c : Nat) (fs : List (Str × PV))
abbrev GH := List GO

/-- an end: a value, an exception of the class number c with its fields, or no word -/
inductive Res (α : Type) where
  | ok (a : α) (G : GH)
  | exc (c : Nat) (fs : List (Str × PV)) (G : GH)
  | bad
def Res.bind {α β : Type} (r : Res α) (f : α → GH → Res β) : Res β :=
  match r with
  | .ok a G => f a G
  | .exc c fs G => .exc c fs G
  | .bad => .bad
@[simp] theorem Res.bind_ok {α β : Type} (a : α) (G : GH) (f : α → GH → Res β) : (Res.ok a G).bind f = f a G := rfl
@[simp] theorem Res.bind_bad {α β : Type} (f : α → GH → Res β) : (Res.bad : Res α).bind f = .bad := rfl
@[simp] theorem Res.bind_exc {α β : Type} (c : Nat) (fs : List (Str × PV)) (G : GH) (f : α → GH → Res β) : (Res.exc c fs G : Res α).bind f = .exc c fs G := rfl

/-- what is fixed: the written part, where the classes stand -/
structure Fx where
  K : PySem.W.Frag
  ca : Nat → Addr
  T : List (Addr × Str)

/-- where our objects stand, and what is being made (nobody holds it yet) -/
structure Mu where
  ob : List Addr
  rs : List Addr
def Mu.free (μ : Mu) (a : Addr) : Prop := a ∉ μ.ob ∧ a ∉ μ.rs
section
variable (F : Fx) (μ : Mu) (H : Hp)
def KLst (K : PySem.W.Frag) (a : Addr) (xs : List V) : Prop :=
  ∃ (o : Obj) (its : Array Value) (n : Nat), K.lookup a = some o ∧ o.cls = .type "list" ∧ o.dict = none ∧ o.data = .seq its n ∧ its.size ≤ sizeLine ∧ Vals xs its.toList
def KTup (K : PySem.W.Frag) (a : Addr) (xs : List V) : Prop :=
  ∃ (o : Obj) (its : Array Value) (n : Nat), K.lookup a = some o ∧ o.cls = .type "tuple" ∧ o.dict = none ∧ o.data = .seq its n ∧ its.size ≤ sizeLine ∧ Vals xs its.toList
/-- a tuple, its very object known, which bears no dict -/
def Fz (H : Hp) (a : Addr) (xs : List V) : Prop := ∃ o : Obj, H a = some (.frz o (.tup xs)) ∧ o.dict = none
def StL (a : Addr) (xs : List V) : Prop := (μ.free a ∧ Rd H a (.lst xs)) ∨ KLst F.K a xs
def StX (a : Addr) (xs : List V) : Prop := μ.free a ∧ H a = some (.lst xs)
def StT (a : Addr) (xs : List V) : Prop := (μ.free a ∧ Fz H a xs) ∨ KTup F.K a xs
mutual
def Rep : PV → V → Prop
  | .non, v => v = .non
  | .bl b, v => v = .bl b
  | .int i, v => v = .int i
  | .str x, v => v = .str x
  | .tup ps, v => ∃ a vs, v = .ref a ∧ vs.length ≤ sizeLine ∧ StT F μ H a vs ∧ Reps ps vs
  | .lst ps, v => ∃ a vs, v = .ref a ∧ vs.length ≤ sizeLine ∧ StX μ H a vs ∧ Reps ps vs
  | .sls ps, v => ∃ a vs, v = .ref a ∧ vs.length ≤ sizeLine ∧ StL F μ H a vs ∧ Reps ps vs
  | .obj n, v => ∃ a, v = .ref a ∧ μ.ob[n]? = some a
def Reps : List PV → List V → Prop
  | [], vs => vs = []
  | p :: ps, vs => ∃ v r, vs = v :: r ∧ Rep p v ∧ Reps ps r
end
def RepK : List (Key × PV) → List (Key × V) → Prop := Paired fun p q => p.1 = q.1 ∧ Rep F μ H p.2 q.2
def RepF : List (Str × PV) → List (Str × V) → Prop := Paired fun p q => p.1 = q.1 ∧ Rep F μ H p.2 q.2
def RepO (a : Addr) : GO → Prop
  | .lst ps => ∃ vs, H a = some (.lst vs) ∧ vs.length ≤ sizeLine ∧ Reps F μ H ps vs
  | .dic kps => ∃ kvs, H a = some (.dK kvs) ∧ kvs.length ≤ sizeLine ∧ RepK F μ H kps kvs
  | .ins c fs => ∃ dx fvs, H a = some (.ins (F.ca c) dx fvs) ∧ H dx = some (.own a) ∧ μ.free dx ∧ RepF F μ H fs fvs
structure HRep (G : GH) : Prop where
  len : μ.ob.length = G.length
  nd : μ.ob.Nodup
  obj : ∀ (i : Nat) (a : Addr) (o : GO), μ.ob[i]? = some a → G[i]? = some o → RepO F μ H a o
  res : ∀ a ∈ μ.rs, a ∉ μ.ob ∧ ∃ xs, H a = some (.lst xs)
  tab : LamX.Tabs F.T H
end
/-- no table of code objects -/
def NoTbl (o : HO) : Prop := ∀ ps, o ≠ .tbl ps

/-- the heap has grown: what stands and isn't an object of ours is kept, new objects of ours are new -/
structure Ext (μ μ' : Mu) (H H' : Hp) : Prop where
  pre : ∃ r, μ'.ob = μ.ob ++ r
  rs : μ'.rs = μ.rs
  new : ∀ a ∈ μ'.ob, a ∉ μ.ob → ∀ o, H a = some o → NoTbl o → False
  keep : ∀ a o, H a = some o → NoTbl o → a ∉ μ.ob → H' a = some o
theorem Ext.refl (μ : Mu) (H : Hp) : Ext μ μ H H := ⟨⟨[], by simp⟩, rfl, fun a h n => absurd h n, fun _ _ h _ _ => h⟩
theorem Ext.sub {μ μ' : Mu} {H H' : Hp} (e : Ext μ μ' H H') : ∀ a ∈ μ.ob, a ∈ μ'.ob := fun a h => by
  obtain ⟨r, q⟩ := e.pre
  rw [q]
  exact List.mem_append_left _ h
theorem Ext.trans {μ μ1 μ2 : Mu} {H H1 H2 : Hp} (e : Ext μ μ1 H H1) (f : Ext μ1 μ2 H1 H2) : Ext μ μ2 H H2 where
  pre := by
    obtain ⟨r, h1⟩ := e.pre
    obtain ⟨q, h2⟩ := f.pre
    exact ⟨r ++ q, by rw [h2, h1]; simp⟩
  rs := f.rs.trans e.rs
  new := fun a h n o q nt => by
    by_cases h1 : a ∈ μ1.ob
    · exact e.new a h1 n o q nt
    · exact f.new a h h1 o (e.keep a o q nt n) nt
  keep := fun a o h nt n => by
    have h1 : a ∉ μ1.ob := fun m => e.new a m n o h nt
    exact f.keep a o (e.keep a o h nt n) nt h1
theorem Ext.get {μ μ' : Mu} {H H' : Hp} (e : Ext μ μ' H H') {i : Nat} {a : Addr} (h : μ.ob[i]? = some a) : μ'.ob[i]? = some a := by
  obtain ⟨r, q⟩ := e.pre
  rw [q]
  exact List.getElem?_append_left (List.getElem?_eq_some_iff.mp h).1 ▸ h
theorem Ext.outO {μ μ' : Mu} {H H' : Hp} (e : Ext μ μ' H H') {a : Addr} {o : HO} (nt : NoTbl o) (h : H a = some o) (n : a ∉ μ.ob) : a ∉ μ'.ob := fun m => e.new a m n o h nt
theorem Ext.out {μ μ' : Mu} {H H' : Hp} (e : Ext μ μ' H H') {a : Addr} {o : HO} (nt : NoTbl o) (h : H a = some o) (n : μ.free a) : μ'.free a := ⟨e.outO nt h n.1, by rw [e.rs]; exact n.2⟩
theorem Ext.rd {μ μ' : Mu} {H H' : Hp} (e : Ext μ μ' H H') {a : Addr} {o : HO} (nt : NoTbl o) (h : Rd H a o) (n : μ.free a) : μ'.free a ∧ Rd H' a o := by
  rcases h with h | ⟨ob, h⟩
  · exact ⟨e.out nt h n, .inl (e.keep _ _ h nt n.1)⟩
  · exact ⟨e.out (fun _ z => by cases z) h n, .inr ⟨ob, e.keep _ _ h (fun _ z => by cases z) n.1⟩⟩

section
variable {F : Fx} {μ μ' : Mu} {H H' : Hp}
theorem StL.mono (e : Ext μ μ' H H') {a : Addr} {xs : List V} (h : StL F μ H a xs) : StL F μ' H' a xs := by
  rcases h with ⟨n, r⟩ | h
  · exact .inl (e.rd (fun _ z => by cases z) r n)
  · exact .inr h
theorem StT.mono (e : Ext μ μ' H H') {a : Addr} {xs : List V} (h : StT F μ H a xs) : StT F μ' H' a xs := by
  rcases h with ⟨n, o, r, d⟩ | h
  · exact .inl ⟨e.out (fun _ z => by cases z) r n, o, e.keep _ _ r (fun _ z => by cases z) n.1, d⟩
  · exact .inr h
theorem StX.mono (e : Ext μ μ' H H') {a : Addr} {xs : List V} (h : StX μ H a xs) : StX μ' H' a xs := ⟨e.out (fun _ z => by cases z) h.2 h.1, e.keep _ _ h.2 (fun _ z => by cases z) h.1.1⟩
theorem StX.st {a : Addr} {xs : List V} (h : StX μ H a xs) : StL F μ H a xs := .inl ⟨h.1, .inl h.2⟩
theorem StL.sq {a : Addr} {xs : List V} (h : StL F μ H a xs) : SqL F.K H a xs := h.elim (fun q => .inl q.2) .inr
theorem StT.sq {a : Addr} {xs : List V} (h : StT F μ H a xs) : SqT F.K H a xs := h.elim (fun ⟨_, o, q, _⟩ => .inl (.inr ⟨o, q⟩)) fun ⟨o, its, n, h1, h2, _, h3⟩ => .inr ⟨o, its, n, h1, h2, h3⟩
mutual
theorem Rep.mono (e : Ext μ μ' H H') : ∀ {p : PV} {v : V}, Rep F μ H p v → Rep F μ' H' p v
  | .non, _, h => by simpa only [Rep] using h
  | .bl b, _, h => by simpa only [Rep] using h
  | .int i, _, h => by simpa only [Rep] using h
  | .str x, _, h => by simpa only [Rep] using h
  | .tup ps, v, h => by
    simp only [Rep] at h ⊢
    obtain ⟨a, vs, e1, z, s, r⟩ := h
    exact ⟨a, vs, e1, z, s.mono e, Reps.mono e r⟩
  | .lst ps, v, h => by
    simp only [Rep] at h ⊢
    obtain ⟨a, vs, e1, z, s, r⟩ := h
    exact ⟨a, vs, e1, z, s.mono e, Reps.mono e r⟩
  | .sls ps, v, h => by
    simp only [Rep] at h ⊢
    obtain ⟨a, vs, e1, z, s, r⟩ := h
    exact ⟨a, vs, e1, z, s.mono e, Reps.mono e r⟩
  | .obj n, v, h => by
    simp only [Rep] at h ⊢
    obtain ⟨a, e1, g⟩ := h
    exact ⟨a, e1, e.get g⟩
theorem Reps.mono (e : Ext μ μ' H H') : ∀ {ps : List PV} {vs : List V}, Reps F μ H ps vs → Reps F μ' H' ps vs
  | [], _, h => by simpa only [Reps] using h
  | p :: ps, vs, h => by
    simp only [Reps] at h ⊢
    obtain ⟨v, r, e1, h1, h2⟩ := h
    exact ⟨v, r, e1, Rep.mono e h1, Reps.mono e h2⟩
end
theorem Reps.nil : Reps F μ H [] [] := by simp only [Reps]
theorem Reps.cons {p : PV} {v : V} {ps : List PV} {vs : List V} (h : Rep F μ H p v) (t : Reps F μ H ps vs) : Reps F μ H (p :: ps) (v :: vs) := by
  simp only [Reps]
  exact ⟨v, vs, rfl, h, t⟩
theorem Reps.nil_inv {vs : List V} (h : Reps F μ H [] vs) : vs = [] := by simpa only [Reps] using h
theorem Reps.cons_inv {p : PV} {ps : List PV} {vs : List V} (h : Reps F μ H (p :: ps) vs) : ∃ v r, vs = v :: r ∧ Rep F μ H p v ∧ Reps F μ H ps r := by simpa only [Reps] using h
theorem Reps.length : ∀ {ps : List PV} {vs : List V}, Reps F μ H ps vs → ps.length = vs.length
  | [], _, h => by rw [h.nil_inv]; rfl
  | p :: ps, _, h => by
    obtain ⟨v, r, rfl, _, t⟩ := h.cons_inv
    simp [Reps.length t]
theorem Reps.get : ∀ {ps : List PV} {vs : List V} {i : Nat} {p : PV}, Reps F μ H ps vs → ps[i]? = some p → ∃ v, vs[i]? = some v ∧ Rep F μ H p v
  | [], _, i, _, _, e => by simp at e
  | q :: ps, _, 0, p, h, e => by
    obtain ⟨v, r, rfl, h1, _⟩ := h.cons_inv
    simp at e; subst e
    exact ⟨v, rfl, h1⟩
  | q :: ps, _, i + 1, p, h, e => by
    obtain ⟨v, r, rfl, _, t⟩ := h.cons_inv
    obtain ⟨u, h2, h3⟩ := Reps.get t (by simpa using e)
    exact ⟨u, by simpa using h2, h3⟩
theorem Reps.append : ∀ {ps qs : List PV} {vs ws : List V}, Reps F μ H ps vs → Reps F μ H qs ws → Reps F μ H (ps ++ qs) (vs ++ ws)
  | [], _, _, _, h, k => by rw [h.nil_inv]; simpa using k
  | p :: ps, _, _, _, h, k => by
    obtain ⟨v, r, rfl, h1, t⟩ := h.cons_inv
    exact .cons h1 (Reps.append t k)
theorem Reps.one {p : PV} {v : V} (h : Rep F μ H p v) : Reps F μ H [p] [v] := .cons h .nil
theorem Reps.one_inv {p : PV} {vs : List V} (h : Reps F μ H [p] vs) : ∃ v, vs = [v] ∧ Rep F μ H p v := by
  obtain ⟨v, r, rfl, h1, t⟩ := h.cons_inv
  rw [t.nil_inv]
  exact ⟨v, rfl, h1⟩
theorem Reps.two_inv {p q : PV} {vs : List V} (h : Reps F μ H [p, q] vs) : ∃ v w, vs = [v, w] ∧ Rep F μ H p v ∧ Rep F μ H q w := by
  obtain ⟨v, r, rfl, h1, t⟩ := h.cons_inv
  obtain ⟨w, rfl, h2⟩ := t.one_inv
  exact ⟨v, w, rfl, h1, h2⟩
theorem Reps.take : ∀ {ps : List PV} {vs : List V} (n : Nat), Reps F μ H ps vs → Reps F μ H (ps.take n) (vs.take n)
  | _, _, 0, _ => .nil
  | [], _, n + 1, h => by rw [h.nil_inv]; exact .nil
  | p :: ps, _, n + 1, h => by
    obtain ⟨v, r, rfl, h1, t⟩ := h.cons_inv
    exact .cons h1 (Reps.take n t)
theorem Reps.drop : ∀ {ps : List PV} {vs : List V} (n : Nat), Reps F μ H ps vs → Reps F μ H (ps.drop n) (vs.drop n)
  | _, _, 0, h => h
  | [], _, n + 1, h => by rw [h.nil_inv]; exact .nil
  | p :: ps, _, n + 1, h => by
    obtain ⟨v, r, rfl, h1, t⟩ := h.cons_inv
    exact Reps.drop n t
theorem Reps.set {p : PV} {v : V} (hp : Rep F μ H p v) : ∀ {ps : List PV} {vs : List V} (n : Nat), Reps F μ H ps vs → Reps F μ H (ps.set n p) (vs.set n v)
  | [], _, n, h => by rw [h.nil_inv]; exact .nil
  | q :: ps, _, 0, h => by
    obtain ⟨u, r, rfl, h1, t⟩ := h.cons_inv
    exact .cons hp t
  | q :: ps, _, n + 1, h => by
    obtain ⟨u, r, rfl, h1, t⟩ := h.cons_inv
    exact .cons h1 (Reps.set hp n t)
theorem RepK.mono (e : Ext μ μ' H H') {ps : List (Key × PV)} {vs : List (Key × V)} (h : RepK F μ H ps vs) : RepK F μ' H' ps vs := Paired.mapP h fun _ _ q => ⟨q.1, q.2.mono e⟩
theorem RepF.mono (e : Ext μ μ' H H') {ps : List (Str × PV)} {vs : List (Str × V)} (h : RepF F μ H ps vs) : RepF F μ' H' ps vs := Paired.mapP h fun _ _ q => ⟨q.1, q.2.mono e⟩

theorem HRep.there (h : HRep F μ H G) {a : Addr} (m : a ∈ μ.ob) : ∃ o, H a = some o := by
  obtain ⟨i, hi⟩ := List.mem_iff_getElem?.mp m
  have hl : i < G.length := by rw [← h.len]; exact (List.getElem?_eq_some_iff.mp hi).1
  have q := h.obj i a _ hi (List.getElem?_eq_getElem hl)
  cases e : G[i] with
  | lst ps => rw [e] at q; obtain ⟨vs, q, _⟩ := q; exact ⟨_, q⟩
  | dic ps => rw [e] at q; obtain ⟨vs, q, _⟩ := q; exact ⟨_, q⟩
  | ins c fs => rw [e] at q; obtain ⟨dx, vs, q, _⟩ := q; exact ⟨_, q⟩
theorem HRep.freshO (h : HRep F μ H G) {p : Addr} (n : H p = none) : p ∉ μ.ob := fun m => by
  obtain ⟨o, e⟩ := h.there m
  rw [n] at e; cases e
theorem HRep.fresh (h : HRep F μ H G) {p : Addr} (n : H p = none) : μ.free p := ⟨h.freshO n, fun m => by
  obtain ⟨_, o, e⟩ := h.res p m
  rw [n] at e; cases e⟩
/-- a new thing that is none of our objects -/
theorem Ext.upd_new (h : HRep F μ H G) {p : Addr} {o : HO} (n : H p = none) : Ext μ μ H (upd H p o) :=
  ⟨⟨[], by simp⟩, rfl, fun a m k => absurd m k, fun a u e _ _ => by rw [upd_ne (ne_of_none e n)]; exact e⟩
/-- all that stands is kept: our objects too -/
theorem Ext.same (s : ∀ a o, H a = some o → H' a = some o) : Ext μ μ H H' := ⟨⟨[], by simp⟩, rfl, fun a m k => absurd m k, fun a o e _ _ => s a o e⟩
theorem RepO.keep (e : Ext μ μ' H H') {a : Addr} {o : GO} (h : RepO F μ H a o) (ha : ∀ u, H a = some u → H' a = some u) : RepO F μ' H' a o := by
  cases o with
  | lst ps =>
    obtain ⟨vs, q, z, r⟩ := h
    exact ⟨vs, ha _ q, z, r.mono e⟩
  | dic ps =>
    obtain ⟨vs, q, z, r⟩ := h
    exact ⟨vs, ha _ q, z, r.mono e⟩
  | ins c fs =>
    obtain ⟨dx, vs, q, d, n, r⟩ := h
    exact ⟨dx, vs, ha _ q, e.keep _ _ d (fun _ z => by cases z) n.1, e.out (fun _ z => by cases z) d n, r.mono e⟩
theorem HRep.same (h : HRep F μ H G) (s : ∀ a o, H a = some o → H' a = some o) : HRep F μ H' G :=
  ⟨h.len, h.nd, fun i a o h1 h2 => (h.obj i a o h1 h2).keep (Ext.same s) (fun u q => s a u q), fun a m => let ⟨h1, o, h2⟩ := h.res a m; ⟨h1, o, s a _ h2⟩, h.tab.ext s⟩
theorem HRep.upd_new (h : HRep F μ H G) {p : Addr} {o : HO} (n : H p = none) : HRep F μ (upd H p o) G :=
  h.same fun a u e => by rw [upd_ne (ne_of_none e n)]; exact e
/-- a new object of ours -/
abbrev Mu.push (μ : Mu) (p : Addr) : Mu := ⟨μ.ob ++ [p], μ.rs⟩
theorem Ext.push (h : HRep F μ H G) {p : Addr} {o : HO} (n : H p = none) : Ext μ (μ.push p) H (upd H p o) :=
  ⟨⟨[p], rfl⟩, rfl, fun a m k => by
    rcases List.mem_append.mp m with q | q
    · exact absurd q k
    · exact fun o z _ => (by rw [List.mem_singleton.mp q, n] at z; cases z), fun a u e _ _ => by rw [upd_ne (ne_of_none e n)]; exact e⟩
theorem HRep.push (h : HRep F μ H G) {p : Addr} {o : HO} {g : GO} (n : H p = none) (r : RepO F (μ.push p) (upd H p o) p g) : HRep F (μ.push p) (upd H p o) (G ++ [g]) where
  len := by simp [Mu.push, h.len]
  nd := List.nodup_append.mpr ⟨h.nd, by simp, fun a ha b hb => by
    rw [List.mem_singleton.mp hb]
    intro e
    subst e
    exact h.freshO n ha⟩
  obj := fun i a u h1 h2 => by
    have h1 : (μ.ob ++ [p])[i]? = some a := h1
    by_cases hi : i < μ.ob.length
    · rw [List.getElem?_append_left hi] at h1
      rw [List.getElem?_append_left (by rw [← h.len]; exact hi)] at h2
      refine (h.obj i a u h1 h2).keep (Ext.push h n) fun v q => ?_
      rw [upd_ne (ne_of_none q n)]; exact q
    · have hi' : i = μ.ob.length := by
        have := (List.getElem?_eq_some_iff.mp h1).1
        simp at this; omega
      subst hi'
      rw [List.getElem?_append_right (Nat.le_refl _)] at h1
      rw [h.len, List.getElem?_append_right (Nat.le_refl _)] at h2
      simp at h1 h2
      subst h1 h2
      exact r
  res := fun a m => by
    obtain ⟨h1, u, h2⟩ := h.res a m
    refine ⟨fun k => ?_, u, by rw [upd_ne (ne_of_none h2 n)]; exact h2⟩
    rcases List.mem_append.mp k with q | q
    · exact h1 q
    · rw [List.mem_singleton.mp q, n] at h2; cases h2
  tab := h.tab.ext fun b o e => by rw [upd_ne (ne_of_none e n)]; exact e
theorem nodup_at {μ : List Addr} (nd : μ.Nodup) {i j : Nat} {a : Addr} (h1 : μ[i]? = some a) (h2 : μ[j]? = some a) : i = j := by
  obtain ⟨l1, e1⟩ := List.getElem?_eq_some_iff.mp h1
  obtain ⟨l2, e2⟩ := List.getElem?_eq_some_iff.mp h2
  exact (List.getElem_inj nd).mp (e1.trans e2.symm)
/-- an object of ours is changed -/
theorem Ext.write {p : Addr} {o : HO} (m : p ∈ μ.ob) : Ext μ μ H (upd H p o) :=
  ⟨⟨[], by simp⟩, rfl, fun a k n => absurd k n, fun a u e _ n => by
    rw [upd_ne (fun z => by subst z; exact n m)]; exact e⟩
/-- what a changing object of ours may be -/
def IsO : HO → Prop
  | .lst _ => True
  | .dK _ => True
  | .ins _ _ _ => True
  | _ => False
/-- the tables stand where another thing is changed -/
theorem tabs_upd {T : List (Addr × Str)} {p : Addr} {u o : HO} (hp : H p = some u) (hu : IsO u) (t : LamX.Tabs T H) : LamX.Tabs T (upd H p o) := fun q hq => by
  obtain ⟨ps, h1, h2, h3⟩ := t q hq
  have n1 : q.1 ≠ p := fun z => by
    rw [z, hp] at h1
    cases h1
    exact hu
  refine ⟨ps, by rw [upd_ne n1]; exact h1, h2, fun pos cv hc => ?_⟩
  obtain ⟨c, e1, e2⟩ := h3 pos cv hc
  have n2 : c ≠ p := fun z => by
    rw [z, hp] at e2
    have e3 := Option.some.inj e2
    rw [e3] at hu
    exact hu
  exact ⟨c, e1, by rw [upd_ne n2]; exact e2⟩
theorem HRep.isO (h : HRep F μ H G) {a : Addr} (m : a ∈ μ.ob) : ∃ o, H a = some o ∧ IsO o := by
  obtain ⟨i, hi⟩ := List.mem_iff_getElem?.mp m
  have hl : i < G.length := by rw [← h.len]; exact (List.getElem?_eq_some_iff.mp hi).1
  have q := h.obj i a _ hi (List.getElem?_eq_getElem hl)
  cases e : G[i] with
  | lst ps => rw [e] at q; obtain ⟨vs, q, _⟩ := q; exact ⟨_, q, trivial⟩
  | dic ps => rw [e] at q; obtain ⟨vs, q, _⟩ := q; exact ⟨_, q, trivial⟩
  | ins c fs => rw [e] at q; obtain ⟨dx, vs, q, _⟩ := q; exact ⟨_, q, trivial⟩
theorem HRep.write (h : HRep F μ H G) {n : Nat} {p : Addr} {o : HO} {g : GO} (hp : μ.ob[n]? = some p) (r : RepO F μ (upd H p o) p g) : HRep F μ (upd H p o) (G.set n g) where
  len := by simp [h.len]
  nd := h.nd
  obj := fun i a u h1 h2 => by
    have hm : p ∈ μ.ob := List.mem_of_getElem? hp
    by_cases hi : i = n
    · subst hi
      rw [hp] at h1; cases h1
      have hl : i < G.length := by rw [← h.len]; exact (List.getElem?_eq_some_iff.mp hp).1
      rw [List.getElem?_set_self hl] at h2
      cases h2
      exact r
    · rw [List.getElem?_set_ne (Ne.symm hi)] at h2
      refine (h.obj i a u h1 h2).keep (Ext.write hm) fun v q => ?_
      rw [upd_ne (fun z => by subst z; exact hi (nodup_at h.nd h1 hp))]; exact q
  res := fun a m => by
    obtain ⟨h1, u, h2⟩ := h.res a m
    exact ⟨h1, u, by rw [upd_ne (fun z => by subst z; exact h1 (List.mem_of_getElem? hp))]; exact h2⟩
  tab := by
    obtain ⟨u, h1, h2⟩ := h.isO (List.mem_of_getElem? hp)
    exact tabs_upd h1 h2 h.tab

/-! ### what is being made -/
abbrev Mu.mk1 (μ : Mu) (D : Addr) : Mu := ⟨μ.ob, D :: μ.rs⟩
theorem StL.other {D : Addr} {o : HO} {a : Addr} {xs : List V} (h : StL F (μ.mk1 D) H a xs) : StL F (μ.mk1 D) (upd H D o) a xs := by
  rcases h with ⟨n, r⟩ | h
  · have hne : a ≠ D := fun z => n.2 (by rw [z]; exact List.mem_cons_self)
    refine .inl ⟨n, ?_⟩
    rcases r with r | ⟨ob, r⟩
    · exact .inl (by rw [upd_ne hne]; exact r)
    · exact .inr ⟨ob, by rw [upd_ne hne]; exact r⟩
  · exact .inr h
theorem StT.other {D : Addr} {o : HO} {a : Addr} {xs : List V} (h : StT F (μ.mk1 D) H a xs) : StT F (μ.mk1 D) (upd H D o) a xs := by
  rcases h with ⟨n, ob, r, d⟩ | h
  · have hne : a ≠ D := fun z => n.2 (by rw [z]; exact List.mem_cons_self)
    exact .inl ⟨n, ob, by rw [upd_ne hne]; exact r, d⟩
  · exact .inr h
/-- a predicate on what stands that all of a value's parts bear -/
structure Chg (F : Fx) (μ μ' : Mu) (H H' : Hp) : Prop where
  l : ∀ a xs, StL F μ H a xs → StL F μ' H' a xs
  x : ∀ a xs, StX μ H a xs → StX μ' H' a xs
  t : ∀ a xs, StT F μ H a xs → StT F μ' H' a xs
  ob : ∀ (n : Nat) a, μ.ob[n]? = some a → μ'.ob[n]? = some a
mutual
theorem Rep.chg (c : Chg F μ μ' H H') : ∀ {p : PV} {v : V}, Rep F μ H p v → Rep F μ' H' p v
  | .non, _, h => by simpa only [Rep] using h
  | .bl b, _, h => by simpa only [Rep] using h
  | .int i, _, h => by simpa only [Rep] using h
  | .str x, _, h => by simpa only [Rep] using h
  | .tup ps, v, h => by
    simp only [Rep] at h ⊢
    obtain ⟨a, vs, e1, z, s, r⟩ := h
    exact ⟨a, vs, e1, z, c.t _ _ s, Reps.chg c r⟩
  | .lst ps, v, h => by
    simp only [Rep] at h ⊢
    obtain ⟨a, vs, e1, z, s, r⟩ := h
    exact ⟨a, vs, e1, z, c.x _ _ s, Reps.chg c r⟩
  | .sls ps, v, h => by
    simp only [Rep] at h ⊢
    obtain ⟨a, vs, e1, z, s, r⟩ := h
    exact ⟨a, vs, e1, z, c.l _ _ s, Reps.chg c r⟩
  | .obj n, v, h => by
    simp only [Rep] at h ⊢
    obtain ⟨a, e1, g⟩ := h
    exact ⟨a, e1, c.ob _ _ g⟩
theorem Reps.chg (c : Chg F μ μ' H H') : ∀ {ps : List PV} {vs : List V}, Reps F μ H ps vs → Reps F μ' H' ps vs
  | [], _, h => by simpa only [Reps] using h
  | p :: ps, vs, h => by
    simp only [Reps] at h ⊢
    obtain ⟨v, r, e1, h1, h2⟩ := h
    exact ⟨v, r, e1, Rep.chg c h1, Reps.chg c h2⟩
end
theorem Chg.trans {μ1 : Mu} {H1 : Hp} (c : Chg F μ μ1 H H1) (d : Chg F μ1 μ' H1 H') : Chg F μ μ' H H' := ⟨fun a xs h => d.l a xs (c.l a xs h), fun a xs h => d.x a xs (c.x a xs h), fun a xs h => d.t a xs (c.t a xs h), fun n a h => d.ob n a (c.ob n a h)⟩
theorem Ext.chg (e : Ext μ μ' H H') : Chg F μ μ' H H' := ⟨fun _ _ h => h.mono e, fun _ _ h => h.mono e, fun _ _ h => h.mono e, fun _ _ h => e.get h⟩
theorem Chg.refl : Chg F μ μ H H := ⟨fun _ _ h => h, fun _ _ h => h, fun _ _ h => h, fun _ _ h => h⟩
/-- one turn while D is being made -/
theorem Ext.step1 {l l3 rs : List Addr} {H1 H2 H3 : Hp} {D : Addr} {o : HO} (hD : H1 D = none) (e2 : Ext μ ⟨l, rs⟩ H1 H2) (e : Ext ((⟨l, rs⟩ : Mu).mk1 D) ((⟨l3, rs⟩ : Mu).mk1 D) H2 H3) : Ext μ ⟨l3, rs⟩ H1 (upd H3 D o) where
  pre := by
    obtain ⟨r, h1⟩ := e2.pre
    obtain ⟨q, h2⟩ := e.pre
    have h1 : l = μ.ob ++ r := h1
    have h2 : l3 = l ++ q := h2
    exact ⟨r ++ q, by show l3 = _; rw [h2, h1]; simp⟩
  rs := e2.rs
  new := fun a m n => by
    by_cases h : a ∈ l
    · exact e2.new a h n
    · exact fun o q nt => e.new a m h o (e2.keep a o q nt n) nt
  keep := fun a u h nt n => by
    have h2 := e2.keep a u h nt n
    have hl : a ∉ l := e2.outO nt h n
    rw [upd_ne (ne_of_none h hD)]
    exact e.keep a u h2 nt hl
theorem StX.other {D : Addr} {o : HO} {a : Addr} {xs : List V} (h : StX (μ.mk1 D) H a xs) : StX (μ.mk1 D) (upd H D o) a xs := ⟨h.1, by rw [upd_ne (fun z => h.1.2 (by rw [z]; exact List.mem_cons_self))]; exact h.2⟩
theorem Chg.other {D : Addr} {o : HO} : Chg F (μ.mk1 D) (μ.mk1 D) H (upd H D o) := ⟨fun _ _ h => h.other, fun _ _ h => h.other, fun _ _ h => h.other, fun _ _ h => h⟩
/-- D, new, is reserved -/
theorem Chg.start {D : Addr} {o : HO} (n : H D = none) : Chg F μ (μ.mk1 D) H (upd H D o) := by
  have aux : ∀ {a : Addr} {u : HO}, Rd H a u → μ.free a → (μ.mk1 D).free a ∧ Rd (upd H D o) a u := fun {a u} r f => by
    have hne : a ≠ D := fun z => by
      subst z
      rcases r with r | ⟨ob, r⟩ <;> (rw [n] at r; cases r)
    refine ⟨⟨f.1, fun m => (List.mem_cons.mp m).elim hne f.2⟩, ?_⟩
    rcases r with r | ⟨ob, r⟩
    · exact .inl (by rw [upd_ne hne]; exact r)
    · exact .inr ⟨ob, by rw [upd_ne hne]; exact r⟩
  refine ⟨fun a xs h => h.imp (fun q => aux q.2 q.1) id, fun a xs h => ?_, fun a xs h => h.imp (fun ⟨q, ob, r, d⟩ => ⟨(aux (.inl r) q).1, ob, by rw [upd_ne (ne_of_none r n)]; exact r, d⟩) id, fun _ _ h => h⟩
  have hne := ne_of_none h.2 n
  exact ⟨⟨h.1.1, fun m => (List.mem_cons.mp m).elim hne h.1.2⟩, by rw [upd_ne hne]; exact h.2⟩
/-- D is handed out: as a value, or as an object of ours -/
theorem Chg.stop {D : Addr} : Chg F (μ.mk1 D) μ H H :=
  ⟨fun a xs h => h.imp (fun q => ⟨⟨q.1.1, fun m => q.1.2 (List.mem_cons_of_mem _ m)⟩, q.2⟩) id, fun a xs h => ⟨⟨h.1.1, fun m => h.1.2 (List.mem_cons_of_mem _ m)⟩, h.2⟩, fun a xs h => h.imp (fun q => ⟨⟨q.1.1, fun m => q.1.2 (List.mem_cons_of_mem _ m)⟩, q.2⟩) id, fun _ _ h => h⟩
theorem Chg.stopO {D : Addr} : Chg F (μ.mk1 D) (μ.push D) H H := by
  have aux : ∀ {a : Addr}, (μ.mk1 D).free a → (μ.push D).free a := fun {a} f =>
    ⟨fun m => (List.mem_append.mp m).elim f.1 fun q => f.2 (by rw [List.mem_singleton.mp q]; exact List.mem_cons_self), fun m => f.2 (List.mem_cons_of_mem _ m)⟩
  exact ⟨fun a xs h => h.imp (fun q => ⟨aux q.1, q.2⟩) id, fun a xs h => ⟨aux h.1, h.2⟩, fun a xs h => h.imp (fun q => ⟨aux q.1, q.2⟩) id, fun n a h => by
    have hl := (List.getElem?_eq_some_iff.mp h).1
    exact (List.getElem?_append_left hl).trans h⟩
theorem RepO.chg (c : Chg F μ μ' H H') {a : Addr} {o : GO} (h : RepO F μ H a o) (ha : ∀ u, H a = some u → H' a = some u) (hd : ∀ d, H d = some (.own a) → μ.free d → H' d = some (.own a) ∧ μ'.free d) : RepO F μ' H' a o := by
  cases o with
  | lst ps =>
    obtain ⟨vs, q, z, r⟩ := h
    exact ⟨vs, ha _ q, z, r.chg c⟩
  | dic ps =>
    obtain ⟨vs, q, z, r⟩ := h
    exact ⟨vs, ha _ q, z, Paired.mapP r fun _ _ x => ⟨x.1, x.2.chg c⟩⟩
  | ins k fs =>
    obtain ⟨dx, vs, q, d, n, r⟩ := h
    obtain ⟨d', n'⟩ := hd dx d n
    exact ⟨dx, vs, ha _ q, d', n', Paired.mapP r fun _ _ x => ⟨x.1, x.2.chg c⟩⟩
theorem HRep.start (h : HRep F μ H G) {D : Addr} {xs : List V} (n : H D = none) : HRep F (μ.mk1 D) (upd H D (.lst xs)) G where
  len := h.len
  nd := h.nd
  obj := fun i a u h1 h2 => (h.obj i a u h1 h2).chg (Chg.start n) (fun v q => by rw [upd_ne (ne_of_none q n)]; exact q) fun d q f =>
    ⟨by rw [upd_ne (ne_of_none q n)]; exact q, f.1, fun m => (List.mem_cons.mp m).elim (ne_of_none q n) f.2⟩
  res := fun a m => by
    rcases List.mem_cons.mp m with q | q
    · subst q; exact ⟨h.freshO n, xs, upd_same⟩
    · obtain ⟨h1, u, h2⟩ := h.res a q
      exact ⟨h1, u, by rw [upd_ne (ne_of_none h2 n)]; exact h2⟩
  tab := h.tab.ext fun b o e => by rw [upd_ne (ne_of_none e n)]; exact e
theorem HRep.other (h : HRep F (μ.mk1 D) H G) {xs : List V} : HRep F (μ.mk1 D) (upd H D (.lst xs)) G where
  len := h.len
  nd := h.nd
  obj := fun i a u h1 h2 => (h.obj i a u h1 h2).chg Chg.other (fun v q => by
      have hne : a ≠ D := fun z => (h.res D List.mem_cons_self).1 (by rw [← z]; exact List.mem_of_getElem? h1)
      rw [upd_ne hne]; exact q) fun d q f => ⟨by rw [upd_ne (fun z => f.2 (by rw [z]; exact List.mem_cons_self))]; exact q, f⟩
  res := fun a m => by
    obtain ⟨h1, u, h2⟩ := h.res a m
    refine ⟨h1, ?_⟩
    by_cases z : a = D
    · exact ⟨xs, by rw [z]; exact upd_same⟩
    · exact ⟨u, by rw [upd_ne z]; exact h2⟩
  tab := by
    obtain ⟨_, ys, h2⟩ := h.res D List.mem_cons_self
    exact tabs_upd h2 trivial h.tab
theorem HRep.stop (h : HRep F (μ.mk1 D) H G) : HRep F μ H G where
  len := h.len
  nd := h.nd
  obj := fun i a u h1 h2 => (h.obj i a u h1 h2).chg Chg.stop (fun v q => q) fun d q f => ⟨q, f.1, fun m => f.2 (List.mem_cons_of_mem _ m)⟩
  res := fun a m => h.res a (List.mem_cons_of_mem _ m)
  tab := h.tab
theorem HRep.stopO (h : HRep F (μ.mk1 D) H G) (nr : D ∉ μ.rs) {g : GO} (r : RepO F (μ.push D) H D g) : HRep F (μ.push D) H (G ++ [g]) where
  len := by simp [Mu.push, h.len]
  nd := List.nodup_append.mpr ⟨h.nd, by simp, fun a ha b hb => by
    rw [List.mem_singleton.mp hb]
    intro e
    subst e
    exact (h.res a List.mem_cons_self).1 ha⟩
  obj := fun i a u h1 h2 => by
    have h1 : (μ.ob ++ [D])[i]? = some a := h1
    have hlen : μ.ob.length = G.length := h.len
    by_cases hi : i < μ.ob.length
    · rw [List.getElem?_append_left hi] at h1
      rw [List.getElem?_append_left (by rw [← hlen]; exact hi)] at h2
      refine (h.obj i a u h1 h2).chg Chg.stopO (fun v q => q) fun d q f => ⟨q, fun m => ?_, fun m => f.2 (List.mem_cons_of_mem _ m)⟩
      rcases List.mem_append.mp m with z | z
      · exact f.1 z
      · exact f.2 (by rw [List.mem_singleton.mp z]; exact List.mem_cons_self)
    · have hi' : i = μ.ob.length := by
        have := (List.getElem?_eq_some_iff.mp h1).1
        simp at this; omega
      subst hi'
      rw [List.getElem?_append_right (Nat.le_refl _)] at h1
      rw [hlen, List.getElem?_append_right (Nat.le_refl _)] at h2
      simp at h1 h2
      subst h1 h2
      exact r
  res := fun a m => by
    obtain ⟨h1, h2⟩ := h.res a (List.mem_cons_of_mem _ m)
    refine ⟨fun k => ?_, h2⟩
    rcases List.mem_append.mp k with q | q
    · exact h1 q
    · rw [List.mem_singleton.mp q] at m; exact nr m
  tab := h.tab
/-- from the start, D being made, to its end -/
theorem Ext.drop1 {μ2 : Mu} {D : Addr} (e : Ext (μ.mk1 D) μ2 H H') : ∃ ob, μ2 = (⟨ob, μ.rs⟩ : Mu).mk1 D := by
  obtain ⟨ob, rs⟩ := μ2
  exact ⟨ob, by rw [show rs = D :: μ.rs from e.rs]⟩
end
end EV
end
section
set_option Elab.async false
set_option linter.all false
set_option maxRecDepth 100000
/-! Ev2: readings that run the evaluator; how they are put together. -/
namespace EV
open PySem PySem.Spec PyProof.Rows L2
abbrev Env := List (Option PV)
/-- the slots hold what the evaluator's slots hold -/
structure SRel (F : Fx) (μ : Mu) (H : Hp) (ρ : Env) (σ : L2.St) : Prop where
  len : ρ.length = σ.length
  at' : ∀ (i : Nat) (p : PV), ρ[i]? = some (some p) → ∃ v, σ[i]? = some (some v) ∧ Rep F μ H p v
theorem SRel.mono {F : Fx} {μ μ' : Mu} {H H' : Hp} {ρ : Env} {σ : L2.St} (e : Ext μ μ' H H') (s : SRel F μ H ρ σ) : SRel F μ' H' ρ σ :=
  ⟨s.len, fun i p h => let ⟨v, h1, h2⟩ := s.at' i p h; ⟨v, h1, h2.mono e⟩⟩
theorem SRel.set {F : Fx} {μ : Mu} {H : Hp} {ρ : Env} {σ : L2.St} (s : SRel F μ H ρ σ) {p : PV} {v : V} (r : Rep F μ H p v) (i : Nat) : SRel F μ H (ρ.set i (some p)) (σ.set i (some v)) := by
  refine ⟨by simp [s.len], fun j q h => ?_⟩
  by_cases hj : i = j
  · subst hj
    have hl : i < ρ.length := by
      have := (List.getElem?_eq_some_iff.mp h).1
      simpa using this
    rw [List.getElem?_set_self hl] at h
    cases h
    exact ⟨v, by rw [List.getElem?_set_self (by rw [← s.len]; exact hl)], r⟩
  · rw [List.getElem?_set_ne hj] at h
    obtain ⟨u, h1, h2⟩ := s.at' j q h
    exact ⟨u, by rw [List.getElem?_set_ne hj]; exact h1, h2⟩

abbrev RelA (α β : Type) := Mu → Hp → α → β → Prop
/-- what is wanted behind an end of the evaluator -/
def Post {α β : Type} (F : Fx) (R : RelA α β) (Ex : XK) (μ : Mu) (H : Hp) (r : Res α) (Q : β → Hp → Prop) : Prop :=
  match r with
  | .ok a G => ∀ μ' b H', Ext μ μ' H H' → R μ' H' a b → HRep F μ' H' G → Q b H'
  | .exc c fs G => ∀ μ' d H' fvs, Ext μ μ' H H' → HRep F μ' H' G → H' d = some (.xd fvs) → μ'.free d → RepF F μ' H' fs fvs → Ex (.ref (F.ca c)) (some d) H'
  | .bad => False
section
variable {α β γ δ : Type} {F : Fx} {R : RelA α β} {R2 : RelA γ δ} {Ex : XK} {μ μ' : Mu} {H H' : Hp} {G : GH}
theorem Post.mono {r : Res α} {Q Q' : β → Hp → Prop} (h : Post F R Ex μ H r Q) (q : ∀ b H, Q b H → Q' b H) : Post F R Ex μ H r Q' := by
  cases r with
  | ok a G => exact fun μ' b H' e x y => q _ _ (h μ' b H' e x y)
  | exc c fs G => exact h
  | bad => exact h
theorem Post.shift {r : Res α} {Q : β → Hp → Prop} (e : Ext μ μ' H H') (h : Post F R Ex μ H r Q) : Post F R Ex μ' H' r Q := by
  cases r with
  | ok a G => exact fun μ2 b H2 f x y => h μ2 b H2 (e.trans f) x y
  | exc c fs G => exact fun μ2 d H2 fvs f x y n z => h μ2 d H2 fvs (e.trans f) x y n z
  | bad => exact h
theorem Post.bind {r : Res α} {f : α → GH → Res γ} {Q : δ → Hp → Prop} (h : Post F R2 Ex μ H (r.bind f) Q) :
    Post F R Ex μ H r (fun b H1 => ∃ μ1 a G1, r = .ok a G1 ∧ Ext μ μ1 H H1 ∧ R μ1 H1 a b ∧ HRep F μ1 H1 G1 ∧ Post F R2 Ex μ1 H1 (f a G1) Q) := by
  cases r with
  | ok a G => exact fun μ1 b H1 e x y => ⟨μ1, a, G, rfl, e, x, y, Post.shift e h⟩
  | exc c fs G => exact h
  | bad => exact h
theorem Post.ok {a : α} {b : β} {Q : β → Hp → Prop} (h : Post F R Ex μ H (.ok a G) Q) (e : Ext μ μ' H H') (r : R μ' H' a b) (g : HRep F μ' H' G) : Q b H' := h μ' b H' e r g
theorem Post.here {a : α} {b : β} {Q : β → Hp → Prop} (h : Post F R Ex μ H (.ok a G) Q) (r : R μ H a b) (g : HRep F μ H G) : Q b H := h μ b H (Ext.refl _ _) r g
end
def RV (F : Fx) : RelA PV V := fun μ H p v => Rep F μ H p v
def RVs (F : Fx) : RelA (List PV) (List V) := fun μ H ps vs => Reps F μ H ps vs
def RB : RelA Bool Bool := fun _ _ a b => a = b
/-- the readings -/
def TEv (F : Fx) (Ex : XK) (m : Env → GH → Res PV) : TE := fun σ H Q => ∃ μ ρ G, SRel F μ H ρ σ ∧ HRep F μ H G ∧ Post F (RV F) Ex μ H (m ρ G) Q
def TTv (F : Fx) (Ex : XK) (m : Env → GH → Res Bool) : TT := fun σ H Q => ∃ μ ρ G, SRel F μ H ρ σ ∧ HRep F μ H G ∧ Post F RB Ex μ H (m ρ G) Q
def TAv (F : Fx) (Ex : XK) (m : Env → GH → Res (List PV)) : TA := fun σ H Q => ∃ μ ρ G, SRel F μ H ρ σ ∧ HRep F μ H G ∧ Post F (RVs F) Ex μ H (m ρ G) Q
/-- a value's, by values -/
def RdV (F : Fx) (Ex : XK) (m : List PV → GH → Res PV) : List V → Hp → VK → Prop := fun vs H Q => ∃ μ ps G, Reps F μ H ps vs ∧ HRep F μ H G ∧ Post F (RV F) Ex μ H (m ps G) Q
theorem _root_.L2.PE.weak {X : Cx} {e : Expr} {t t' : TE} (h : PE X e t) (w : ∀ σ H Q, t' σ H Q → t σ H Q) : PE X e t' := ⟨fun pins s σ H Q I q => h.run pins s σ H Q I (w σ H Q q)⟩
theorem _root_.L2.PT.weak {X : Cx} {e : Expr} {t t' : TT} (h : PT X e t) (w : ∀ σ H Q, t' σ H Q → t σ H Q) : PT X e t' := ⟨fun pins s σ H Q I q => h.run pins s σ H Q I (w σ H Q q)⟩
theorem _root_.L2.PW.weak {X : Cx} {e : Expr} {t t' : TT} (h : PW X e t) (w : ∀ σ H Q, t' σ H Q → t σ H Q) : PW X e t' := ⟨fun wh pins s σ H Q I q => h.run wh pins s σ H Q I (w σ H Q q)⟩
theorem _root_.L2.PA.weak {X : Cx} {e : List Expr} {t t' : TA} (h : PA X e t) (w : ∀ σ H Q, t' σ H Q → t σ H Q) : PA X e t' := ⟨fun pos pins s σ H Q I q => h.run pos pins s σ H Q I (w σ H Q q)⟩
theorem _root_.L2.PS.weak {X : Cx} {e : Stmt} {t t' : TS} (h : PS X e t) (w : ∀ D σ H, t' D σ H → t D σ H) : PS X e t' := ⟨fun pins s σ H D I q => h.run pins s σ H D I (w D σ H q)⟩
theorem _root_.L2.PSs.weak {X : Cx} {e : List Stmt} {t t' : TS} (h : PSs X e t) (w : ∀ D σ H, t' D σ H → t D σ H) : PSs X e t' := ⟨fun pins s σ H D I q => h.run pins s σ H D I (w D σ H q)⟩

section
variable {X : Cx} {F : Fx} {Ex : XK}

/-- running m, then going on -/
theorem TEv.run {σ : L2.St} {H : Hp} {μ : Mu} {ρ : Env} {G : GH} {m : Env → GH → Res PV} {γ δ : Type} {R2 : RelA γ δ} {f : PV → GH → Res γ} {Q2 : δ → Hp → Prop} {Q : VK}
    (s : SRel F μ H ρ σ) (g : HRep F μ H G) (h : Post F R2 Ex μ H ((m ρ G).bind f) Q2)
    (k : ∀ μ1 a G1 v H1, Ext μ μ1 H H1 → Rep F μ1 H1 a v → HRep F μ1 H1 G1 → SRel F μ1 H1 ρ σ → Post F R2 Ex μ1 H1 (f a G1) Q2 → Q v H1) : TEv F Ex m σ H Q :=
  ⟨μ, ρ, G, s, g, (Post.bind (R := RV F) h).mono fun v H1 ⟨μ1, a, G1, _, e, r, g1, p⟩ => k μ1 a G1 v H1 e r g1 (s.mono e) p⟩
theorem TEv.runE {σ : L2.St} {H : Hp} {μ : Mu} {ρ : Env} {G : GH} {m : Env → GH → Res PV} {γ δ : Type} {R2 : RelA γ δ} {f : PV → GH → Res γ} {Q2 : δ → Hp → Prop} {Q : VK}
    (s : SRel F μ H ρ σ) (g : HRep F μ H G) (h : Post F R2 Ex μ H ((m ρ G).bind f) Q2)
    (k : ∀ μ1 a G1 v H1, m ρ G = .ok a G1 → Ext μ μ1 H H1 → Rep F μ1 H1 a v → HRep F μ1 H1 G1 → SRel F μ1 H1 ρ σ → Post F R2 Ex μ1 H1 (f a G1) Q2 → Q v H1) : TEv F Ex m σ H Q :=
  ⟨μ, ρ, G, s, g, (Post.bind (R := RV F) h).mono fun v H1 ⟨μ1, a, G1, em, e, r, g1, p⟩ => k μ1 a G1 v H1 em e r g1 (s.mono e) p⟩
theorem TAv.run {σ : L2.St} {H : Hp} {μ : Mu} {ρ : Env} {G : GH} {m : Env → GH → Res (List PV)} {γ δ : Type} {R2 : RelA γ δ} {f : List PV → GH → Res γ} {Q2 : δ → Hp → Prop} {Q : List V → Hp → Prop}
    (s : SRel F μ H ρ σ) (g : HRep F μ H G) (h : Post F R2 Ex μ H ((m ρ G).bind f) Q2)
    (k : ∀ μ1 a G1 v H1, Ext μ μ1 H H1 → Reps F μ1 H1 a v → HRep F μ1 H1 G1 → SRel F μ1 H1 ρ σ → Post F R2 Ex μ1 H1 (f a G1) Q2 → Q v H1) : TAv F Ex m σ H Q :=
  ⟨μ, ρ, G, s, g, (Post.bind (R := RVs F) h).mono fun v H1 ⟨μ1, a, G1, _, e, r, g1, p⟩ => k μ1 a G1 v H1 e r g1 (s.mono e) p⟩
theorem TTv.run {σ : L2.St} {H : Hp} {μ : Mu} {ρ : Env} {G : GH} {m : Env → GH → Res Bool} {γ δ : Type} {R2 : RelA γ δ} {f : Bool → GH → Res γ} {Q2 : δ → Hp → Prop} {Q : Bool → Hp → Prop}
    (s : SRel F μ H ρ σ) (g : HRep F μ H G) (h : Post F R2 Ex μ H ((m ρ G).bind f) Q2)
    (k : ∀ μ1 b G1 H1, Ext μ μ1 H H1 → HRep F μ1 H1 G1 → SRel F μ1 H1 ρ σ → Post F R2 Ex μ1 H1 (f b G1) Q2 → Q b H1) : TTv F Ex m σ H Q :=
  ⟨μ, ρ, G, s, g, (Post.bind (R := RB) h).mono fun v H1 ⟨μ1, a, G1, _, e, r, g1, p⟩ => by
    cases (show a = v from r)
    exact k μ1 _ G1 H1 e g1 (s.mono e) p⟩

/-! ### names and constants -/
def mVar (i : Nat) : Env → GH → Res PV := fun ρ G => match ρ[i]? with
  | some (some v) => .ok v G
  | _ => .bad
theorem ev_var {i : Nat} {x : Str} {pos : Pos} (hN : X.N[i]? = some x) (hv : Vis X.env.scope x) (hd : (x == ("__debug__" : Str)) = false) (hcd : (x == ("__classdict__" : Str)) = false) :
    PE X (.Name x pos) (TEv F Ex (mVar i)) := (pe_var hN hv hd hcd).weak fun σ H Q ⟨μ, ρ, G, s, g, p⟩ => by
  unfold mVar at p
  cases e : ρ[i]? with
  | none => rw [e] at p; exact p.elim
  | some o =>
    cases o with
    | none => rw [e] at p; exact p.elim
    | some a =>
      rw [e] at p
      obtain ⟨v, h1, h2⟩ := s.at' i a e
      exact ⟨v, h1, p.here h2 g⟩
def mCst (v : PV) : Env → GH → Res PV := fun _ G => .ok v G
theorem ev_cst {e : Expr} {p : PV} {v : V} (h : PE X e (tC v)) (r : ∀ μ H, Rep F μ H p v) : PE X e (TEv F Ex (mCst p)) :=
  h.weak fun σ H Q ⟨μ, ρ, G, s, g, q⟩ => q.here (r μ H) g
theorem ev_int {i j pos} : PE X (.Constant (.int i) j pos) (TEv F Ex (mCst (.int i))) := ev_cst pe_int fun _ _ => by simp only [Rep]
theorem ev_bl {i j pos} : PE X (.Constant (.bool i) j pos) (TEv F Ex (mCst (.bl i))) := ev_cst pe_bl fun _ _ => by simp only [Rep]
theorem ev_non {j pos} : PE X (.Constant .none j pos) (TEv F Ex (mCst .non)) := ev_cst pe_non fun _ _ => by simp only [Rep]
theorem ev_str {x j pos} : PE X (.Constant (.str x) j pos) (TEv F Ex (mCst (.str x))) := ev_cst pe_str fun _ _ => by simp only [Rep]

/-! ### operators -/
def m2 (ma mb : Env → GH → Res PV) (f : List PV → GH → Res PV) : Env → GH → Res PV := fun ρ G => (ma ρ G).bind fun x G1 => (mb ρ G1).bind fun y G2 => f [x, y] G2
def m1 (ma : Env → GH → Res PV) (f : List PV → GH → Res PV) : Env → GH → Res PV := fun ρ G => (ma ρ G).bind fun x G1 => f [x] G1
abbrev OpV (F : Fx) (Ex : XK) (m : List PV → GH → Res PV) : R2 := fun x y H Q => RdV F Ex m [x, y] H Q
theorem read2 {ta tb : TE} {ma mb : Env → GH → Res PV} {f : List PV → GH → Res PV} {σ : L2.St} {H : Hp} {Q : VK} (h : TEv F Ex (m2 ma mb f) σ H Q) : tOp (OpV F Ex f) (TEv F Ex ma) (TEv F Ex mb) σ H Q := by
  obtain ⟨μ, ρ, G, s, g, p⟩ := h
  refine TEv.run s g p fun μ1 a G1 v H1 e1 r1 g1 s1 p1 => ?_
  refine TEv.run s1 g1 p1 fun μ2 b G2 w H2 e2 r2 g2 s2 p2 => ?_
  exact ⟨μ2, [a, b], G2, .cons (r1.mono e2) (.one r2), g2, p2⟩
theorem ev_bin {op : Operator} {a b : Expr} {pos : Pos} {ma mb : Env → GH → Res PV} {f : List PV → GH → Res PV} (ho : OpR X (binaryOp op) (OpV F Ex f)) (ha : PE X a (TEv F Ex ma)) (hb : PE X b (TEv F Ex mb)) :
    PE X (.BinOp a op b pos) (TEv F Ex (m2 ma mb f)) := (pe_op ho ha hb).weak fun σ H Q h => read2 (ta := TEv F Ex ma) (tb := TEv F Ex mb) h
theorem ev_un {op : UnaryOp} {a : Expr} {pos : Pos} {ma : Env → GH → Res PV} {f : List PV → GH → Res PV} (ho : UnR X (unaryOp op) (fun x H Q => RdV F Ex f [x] H Q)) (ha : PE X a (TEv F Ex ma)) :
    PE X (.UnaryOp op a pos) (TEv F Ex (m1 ma f)) := (pe_un ho ha).weak fun σ H Q ⟨μ, ρ, G, s, g, p⟩ =>
  TEv.run s g p fun μ1 a G1 v H1 e1 r1 g1 s1 p1 => ⟨μ1, [a], G1, .one r1, g1, p1⟩
theorem ev_cmp {op : CmpOp} {a b : Expr} {pos : Pos} {ma mb : Env → GH → Res PV} {f : List PV → GH → Res PV} (ho : OpR X (compareOp op) (OpV F Ex f)) (ha : PE X a (TEv F Ex ma)) (hb : PE X b (TEv F Ex mb)) (hm : behindInMarks op b = false) :
    PE X (.Compare a [op] [b] pos) (TEv F Ex (m2 ma mb f)) := (pe_cmpR ho ha hb hm).weak fun σ H Q h => read2 (ta := TEv F Ex ma) (tb := TEv F Ex mb) h
theorem ev_ix {a b : Expr} {pos : Pos} {ma mb : Env → GH → Res PV} {f : List PV → GH → Res PV} (ho : IxR X (OpV F Ex f)) (ha : PE X a (TEv F Ex ma)) (hb : PE X b (TEv F Ex mb)) (hs : PlainIx b) :
    PE X (.Subscript a b pos) (TEv F Ex (m2 ma mb f)) := (pe_ix ho ha hb hs).weak fun σ H Q h => read2 (ta := TEv F Ex ma) (tb := TEv F Ex mb) h
/-- the end of a comparison, as a test -/
def asB (p : PV) (G : GH) : Res Bool := match p with
  | .bl b => .ok b G
  | _ => .bad
def mB (m : Env → GH → Res PV) : Env → GH → Res Bool := fun ρ G => (m ρ G).bind asB
theorem asB_use {μ : Mu} {H : Hp} {p : PV} {v : V} {G : GH} {Q : Bool → Hp → Prop} (r : Rep F μ H p v) (g : HRep F μ H G) (h : Post F RB Ex μ H (asB p G) Q) : ∃ k, v = .bl k ∧ Q k H := by
  cases p with
  | bl b => exact ⟨b, by simpa only [Rep] using r, h.here rfl g⟩
  | _ => exact (show False from h).elim
theorem ev_cmpT {op : CmpOp} {a b : Expr} {pos : Pos} {ma mb : Env → GH → Res PV} {f : List PV → GH → Res PV} (ho : OpR X (compareOp op) (OpV F Ex f)) (ha : PE X a (TEv F Ex ma)) (hb : PE X b (TEv F Ex mb)) (hm : behindInMarks op b = false) :
    PT X (.Compare a [op] [b] pos) (TTv F Ex (mB (m2 ma mb f))) := (pt_cmpR ho ha hb hm).weak fun σ H Q ⟨μ, ρ, G, s, g, p⟩ => by
  refine read2 (ta := TEv F Ex ma) (tb := TEv F Ex mb) ⟨μ, ρ, G, s, g, (Post.bind (R := RV F) p).mono fun v H1 ⟨μ1, a, G1, _, e, r, g1, q⟩ => asB_use r g1 q⟩
/-- two comparisons in a chain -/
def m3c (ma mb mc : Env → GH → Res PV) (f f' : List PV → GH → Res PV) : Env → GH → Res PV := fun ρ G => (ma ρ G).bind fun x G1 => (mb ρ G1).bind fun y G2 => (f [x, y] G2).bind fun z G3 => (asB z G3).bind fun k G4 =>
  if k = true then (mc ρ G4).bind fun c G5 => f' [y, c] G5 else .ok (.bl false) G4
/-! ### truth -/
def truth (p : PV) (G : GH) : Res Bool := match p with
  | .non => .ok false G
  | .bl b => .ok b G
  | .int i => .ok (i != 0) G
  | .str x => if x.length ≤ sizeLine then .ok ((x.length : Int) != 0) G else .bad
  | .tup ps => .ok (!ps.isEmpty) G
  | .lst ps => .ok (!ps.isEmpty) G
  | .sls ps => .ok (!ps.isEmpty) G
  | .obj n => match G[n]? with
    | some (.lst ps) => .ok (!ps.isEmpty) G
    | some (.dic ps) => .ok (!ps.isEmpty) G
    | _ => .bad
def mT (m : Env → GH → Res PV) : Env → GH → Res Bool := fun ρ G => (m ρ G).bind truth
theorem Reps.isEmpty {μ : Mu} {H : Hp} {ps : List PV} {vs : List V} (h : Reps F μ H ps vs) : ps.isEmpty = vs.isEmpty := by
  have := h.length
  cases ps <;> cases vs <;> simp_all
theorem truth_use {K : PySem.W.Frag} (hK : F.K = K) {μ : Mu} {H : Hp} {p : PV} {v : V} {G : GH} {Q : Bool → Hp → Prop} (r : Rep F μ H p v) (g : HRep F μ H G) (h : Post F RB Ex μ H (truth p G) Q) : ∃ k, TruV K v H k ∧ Q k H := by
  subst hK
  cases p with
  | non => simp only [Rep] at r; subst r; exact ⟨false, rfl, h.here rfl g⟩
  | bl b => simp only [Rep] at r; subst r; exact ⟨b, rfl, h.here rfl g⟩
  | int i => simp only [Rep] at r; subst r; exact ⟨_, rfl, h.here rfl g⟩
  | str x =>
    simp only [Rep] at r; subst r
    unfold truth at h
    by_cases hx : x.length ≤ sizeLine
    · simp only [hx, if_true] at h
      exact ⟨_, ⟨hx, rfl⟩, h.here rfl g⟩
    · simp only [hx, if_false] at h
      exact (show False from h).elim
  | tup ps =>
    simp only [Rep] at r
    obtain ⟨a, vs, rfl, z, st, rr⟩ := r
    exact ⟨_, .inr (.inl ⟨vs, st.sq, rfl⟩), h.here (congrArg (! ·) rr.isEmpty) g⟩
  | lst ps =>
    simp only [Rep] at r
    obtain ⟨a, vs, rfl, z, st, rr⟩ := r
    exact ⟨_, .inl ⟨vs, SqL.of st.2, rfl⟩, h.here (congrArg (! ·) rr.isEmpty) g⟩
  | sls ps =>
    simp only [Rep] at r
    obtain ⟨a, vs, rfl, z, st, rr⟩ := r
    exact ⟨_, .inl ⟨vs, st.sq, rfl⟩, h.here (congrArg (! ·) rr.isEmpty) g⟩
  | obj n =>
    simp only [Rep] at r
    obtain ⟨a, rfl, ha⟩ := r
    unfold truth at h
    cases e : G[n]? with
    | none => simp only [e] at h; exact (show False from h).elim
    | some o =>
      have q := g.obj n a o ha e
      cases o with
      | lst ps =>
        simp only [e] at h
        obtain ⟨vs, q, z, rr⟩ := q
        exact ⟨_, .inl ⟨vs, SqL.of q, rfl⟩, h.here (congrArg (! ·) rr.isEmpty) g⟩
      | dic ps =>
        simp only [e] at h
        obtain ⟨vs, q, z, rr⟩ := q
        have : ps.isEmpty = vs.isEmpty := by
          have := Paired.length rr
          cases ps <;> cases vs <;> simp_all
        exact ⟨_, .inr (.inr ⟨vs, q, rfl⟩), h.here (congrArg (! ·) this) g⟩
      | ins c fs => simp only [e] at h; exact (show False from h).elim
end
end EV
end
section
set_option Elab.async false
set_option linter.all false
set_option maxRecDepth 100000
set_option maxHeartbeats 1000000
/-! EvT: new tuples, their very objects known (no dict of their own). -/
namespace EV
open PySem PySem.Spec PyProof.Rows L2
/-- wherever a new tuple of these items lies -/
def NewT (H : Hp) (ys : List V) (Q : VK) : Prop := ∀ (p : Addr) (o : Obj), H p = none → o.dict = none → Q (.ref p) (upd H p (.frz o (.tup ys)))
section
variable {X : Cx} {pins : List (Addr × Obj)} {σ : L2.St} {H : Hp} {s : Shared}
theorem fz_laid {h' : Heap} {t' : Nat} {p : Addr} {ys : List V} {its : List Value} (I : Inv X pins σ H s) (k : ∀ b u, s.heap.get? b = some u → h'.get? b = some u) (hp : s.heap.objs.size ≤ p) (e : h'.get? p = some { cls := .type "tuple", data := .seq its.toArray }) (r : Vals ys its) (z : ys.length ≤ sizeLine) :
    Inv X pins σ (upd H p (.frz { cls := .type "tuple", data := .seq its.toArray } (.tup ys))) { s with heap := h', toks := t' } :=
  I.laid (t' := t') k hp ⟨e, z, its, r, ⟨_, e, rfl, _, rfl⟩⟩
theorem fz_new {Q : VK} {t' : Nat} {ys : List V} {its : List Value} (I : Inv X pins σ H s) (r : Vals ys its) (z : ys.length ≤ sizeLine) (q : NewT H ys Q) : EP X pins σ Q (.ref s.heap.objs.size) { s with heap := s.heap.push { cls := .type "tuple", data := .seq its.toArray }, toks := t' } :=
  ⟨.ref s.heap.objs.size, _, fz_laid I (fun b u e => Heap.get?_push_of_some _ e) (Nat.le_refl _) (Heap.get?_push_size _ rfl) r z, rfl, q _ _ (I.hok.fresh (Nat.le_refl _)) rfl⟩
end
section
variable {X : Cx} {es : List Expr} {t : TA} {pos : Pos}
theorem pe_tupF {x1 : Nat} (h : PA X es t) : PE X (.Tuple es x1 pos) (fun σ H Q => t σ H fun xs H1 => xs.length ≤ sizeLine ∧ NewT H1 xs Q) := by
  refine ⟨fun pins s σ H Q I hq => ?_⟩
  exact wpAny_Tuple_spliced (thn (h.run pos pins s σ H _ I hq) fun us s1 ⟨xs, H1, I1, r, z, q⟩ => ⟨by rw [← r.length]; exact z, fz_new (t' := s1.toks) I1 r z q⟩)
/-- tuple(xs), of a list or of a tuple -/
theorem call_tupleF : CallR X (.type "tuple") (fun xs H Q => ∃ a ys, xs = [.ref a] ∧ ((SqL X.K H a ys ∧ NewT H ys Q) ∨ (SqT X.K H a ys ∧ Q (.ref a) H))) := by
  intro pins s σ H xs us Q I r h
  obtain ⟨a, ys, rfl, h⟩ := h
  obtain ⟨u, rfl, ru⟩ := vals1 r
  cases ru
  rcases h with ⟨hs, q⟩ | ⟨hs, q⟩
  · obtain ⟨its, rv, pl, hz⟩ := I.list hs
    refine call_tuple_list pl.isList (fun h' hk => ?_) (by rw [List.size_toArray, ← rv.length]; exact hz)
    exact fz_new (t' := s.toks) (I.kept (t' := s.toks) hk) rv hz q
  · exact call_tupleT pins s σ H _ _ Q I r ⟨a, ys, rfl, hs, q⟩
theorem op_catF : OpR X (binaryOp .Add) (fun x y H Q => ∃ a b xs ys, x = .ref a ∧ y = .ref b ∧ SqT X.K H a xs ∧ SqT X.K H b ys ∧ xs.length + ys.length ≤ sizeLine ∧ (xs = [] → Q (.ref b) H) ∧ (xs ≠ [] → ys = [] → Q (.ref a) H) ∧ (xs ≠ [] → ys ≠ [] → NewT H (xs ++ ys) Q)) := by
  intro pins s σ H x y v u Q I rx ry h
  obtain ⟨a, b, xs, ys, rfl, rfl, ha, hb, hz, q0, q1, q2⟩ := h
  cases rx
  cases ry
  obtain ⟨its, r1, p1, _⟩ := I.tuple ha
  obtain ⟨its2, r2, p2, _⟩ := I.tuple hb
  by_cases hx : xs = []
  · subst hx
    cases r1
    exact cat_tup0 p1 p2 ⟨.ref b, H, I, rfl, q0 rfl⟩
  · refine HT.cat_tup p1 p2 (fun z => hx (r1.nil_iff.mp z)) (fun z => ⟨.ref a, H, I, rfl, q1 hx (r2.nil_iff.mp z)⟩) (fun z => ?_) (by rw [← r1.length, ← r2.length]; exact hz)
    exact fz_new (t' := s.toks) I (r1.append r2) (by rw [List.length_append]; exact hz) (q2 hx fun w => z (r2.nil_iff.mpr w))
theorem sl_tupF : SlR X (fun x lo hi H Q => ∃ a xs, x = .ref a ∧ SqT X.K H a xs ∧ (HT.sIx xs.length 0 lo = 0 ∧ HT.sIx xs.length xs.length hi = xs.length → Q (.ref a) H) ∧ (¬ (HT.sIx xs.length 0 lo = 0 ∧ HT.sIx xs.length xs.length hi = xs.length) → NewT H (cutV xs lo hi) Q)) := by
  intro pins s σ H x v vl vu lo hi sl Q I rx hs pl pu h
  obtain ⟨a, xs, rfl, hx, q1, q2⟩ := h
  by_cases hw : HT.sIx xs.length 0 lo = 0 ∧ HT.sIx xs.length xs.length hi = xs.length
  · exact sl_tupA pins s σ H _ v vl vu lo hi sl Q I rx hs pl pu ⟨a, xs, rfl, hx, q1, fun z => absurd hw z⟩
  · cases rx
    obtain ⟨its, r, ht, hz⟩ := I.tuple hx
    have hlen : its.toArray.size = xs.length := by rw [List.size_toArray]; exact r.length.symm
    refine ⟨"tuple", _, PyProof.Rows.slot_tuple_getitem.lookup, ht.typeIs, ?_⟩
    refine HT.getItem_tuple_cut ht hs pl pu (by rw [hlen]; exact hw) ?_ (by rw [hlen]; exact hz)
    rw [hlen]
    exact fz_new (t' := s.toks) I ((r.drop _).take _) (Nat.le_trans (cutV_length xs lo hi) hz) (q2 hw)
/-- xs * k, more than once -/
theorem op_repF : OpR X (binaryOp .Mult) (fun x y H Q => ∃ l k xs, x = .ref l ∧ y = .int k ∧ SqT X.K H l xs ∧ xs ≠ [] ∧ 2 ≤ k ∧ k ≤ 1000 ∧ xs.length ≤ 1000 ∧ NewT H (List.replicate k.toNat xs).flatten Q) := by
  intro pins s σ H x y v u Q I rx ry ⟨l, k, xs, ex, ey, hT, hne, h1, h2, hz, q⟩
  subst ex ey
  cases rx
  obtain ⟨t, rfl⟩ := ry
  obtain ⟨its, r, hp, _⟩ := I.tuple hT
  obtain ⟨⟨cls, dd, data, sl⟩, ho, hc, n, hd⟩ := hp
  dsimp only at hc hd
  subst hc hd
  have hle : xs.length = its.length := r.length
  have hn : its.isEmpty = false := by
    cases its with
    | nil => exact absurd (List.eq_nil_of_length_eq_zero hle) hne
    | cons a b => rfl
  have hm : k.toNat * its.length ≤ 1000 * 1000 := Nat.mul_le_mul (by omega) (by omega)
  have fl : (List.replicate k.toNat its).flatten.length ≤ sizeLine := by
    rw [PyProof.Rows.lm_len_rep_flat, sizeLine_eq]
    omega
  have e1 : (decide (k < -(2 ^ 63)) || decide (k ≥ 2 ^ 63)) = false := by simp; omega
  have e2 : (its.toArray.isEmpty || k == 1) = false := by simp [hn]; omega
  have e3 : (decide (k ≤ 0) || its.toArray.isEmpty) = false := by simp [hn]; omega
  have z : ((its.toArray.size : Nat) : Int) * k ≤ 1000 * 1000 := by
    have a1 : ((its.length : Nat) : Int) * k ≤ 1000 * k := Int.mul_le_mul_of_nonneg_right (by omega) (by omega)
    rw [List.size_toArray]
    omega
  have e4 : Builtin.Tuple.tupleTooMany (((its.toArray.size : Nat) : Int) * k) = false := by
    unfold Builtin.Tuple.tupleTooMany
    rw [sizeLine_eq]
    simp only [decide_eq_false_iff_not]
    omega
  refine wpAny_binaryOp_repeat_ref (T := "tuple") (U := "int") (by decide) ⟨_, ho, rfl⟩ (fun s' => typeIs_int s' k t) noFill_tuple_mul F.fills_int_mul F.slot_int_rmul repeat_tuple F.slot_int_index.lookup ?_
  refine call_meets F.slot_int_rmul (typeIs_int s k t) F.entry_int_rmul (F.args_int_rmul_2 _ _) (int_rmul_tuple k t l its.toArray n dd sl) ⟨ho, rfl, ⟨_, ho, rfl⟩, ?_⟩
  refine call_meets F.slot_tuple_mul ⟨_, ho, rfl⟩ F.entry_tuple_mul (F.args_tuple_mul_2 _ _) (tuple_mulW l its.toArray n dd sl k t e1 e2 e3 (by omega) e4 (by rw [size_rep, List.size_toArray]; exact fl)) ⟨ho, ?_⟩
  rw [size_rep]
  have z2 : (List.replicate k.toNat xs).flatten.length ≤ sizeLine := by
    rw [PyProof.Rows.lm_len_rep_flat, hle, sizeLine_eq]
    omega
  exact fz_new (t' := s.toks) I (r.rep k.toNat) z2 q
theorem tuple_mul0 (l : Addr) (n : Nat) (dd : Option Addr) (sl : Array (Option Value)) (x : Int) (u : Tok) (c0 : (decide (x < -(2 ^ 63)) || decide (x ≥ 2 ^ 63)) = false) :
    Meets (Builtin.«tuple.__mul__» ⟨[.ref l, .int x u], []⟩) (fun _ R s => s.heap.get? l = some { cls := .type "tuple", dict := dd, data := .seq #[] n, slots := sl } ∧
      R (.ok (.ret (Value.ref l))) s) :=
  .of_wp fun prog w A R s h => by
    obtain ⟨hp, g, d, tk, os⟩ := s
    obtain ⟨hl, h⟩ := h
    have f1 := AutoSeq1.idx_int
    wp_walk using wpAny_loadPart' hl
    refine wpAny_ite_false (decide_eq_false (by rw [c0]; exact Bool.false_ne_true)) ?_
    wp_walk using wpAny_loadPart' hl
    exact ⟨_, rfl, h⟩
/-- () * k -/
theorem op_rep0 : OpR X (binaryOp .Mult) (fun x y H Q => ∃ l k, x = .ref l ∧ y = .int k ∧ SqT X.K H l [] ∧ 2 ≤ k ∧ k ≤ 1000 ∧ Q (.ref l) H) := by
  intro pins s σ H x y v u Q I rx ry ⟨l, k, ex, ey, hT, h1, h2, q⟩
  subst ex ey
  cases rx
  obtain ⟨t, rfl⟩ := ry
  obtain ⟨its, r, hp, _⟩ := I.tuple hT
  obtain ⟨⟨cls, dd, data, sl⟩, ho, hc, n, hd⟩ := hp
  dsimp only at hc hd
  subst hc hd
  cases r
  have e1 : (decide (k < -(2 ^ 63)) || decide (k ≥ 2 ^ 63)) = false := by simp; omega
  refine wpAny_binaryOp_repeat_ref (T := "tuple") (U := "int") (by decide) ⟨_, ho, rfl⟩ (fun s' => typeIs_int s' k t) noFill_tuple_mul F.fills_int_mul F.slot_int_rmul repeat_tuple F.slot_int_index.lookup ?_
  refine call_meets F.slot_int_rmul (typeIs_int s k t) F.entry_int_rmul (F.args_int_rmul_2 _ _) (int_rmul_tuple k t l _ n dd sl) ⟨ho, rfl, ⟨_, ho, rfl⟩, ?_⟩
  refine call_meets F.slot_tuple_mul ⟨_, ho, rfl⟩ F.entry_tuple_mul (F.args_tuple_mul_2 _ _) (tuple_mul0 l n dd sl k t e1) ⟨ho, ?_⟩
  exact ⟨.ref l, H, I, rfl, q⟩
end
end EV
end
section
set_option Elab.async false
set_option linter.all false
set_option maxRecDepth 100000
/-! Ev3: and, or, not, tests, conditional expressions, argument lists, displays, slices, chains. -/
namespace EV
open PySem PySem.Spec PyProof.Rows L2
section
variable {X : Cx} {F : Fx} {Ex : XK}

/-! ### and, or, not as values -/
def mAnd (ma mb : Env → GH → Res PV) : Env → GH → Res PV := fun ρ G => (ma ρ G).bind fun x G1 => (truth x G1).bind fun k G2 => if k = true then mb ρ G2 else .ok x G2
def mOr (ma mb : Env → GH → Res PV) : Env → GH → Res PV := fun ρ G => (ma ρ G).bind fun x G1 => (truth x G1).bind fun k G2 => if k = true then .ok x G2 else mb ρ G2
theorem truth_ok {p : PV} {G G' : GH} {k : Bool} (h : truth p G = .ok k G') : G' = G := by
  unfold truth at h
  split at h
  all_goals first | (cases h; rfl) | (split at h <;> first | (cases h; rfl) | cases h)
theorem truth_noexc {p : PV} {G G' : GH} {c : Nat} {fs : List (Str × PV)} (h : truth p G = .exc c fs G') : False := by
  unfold truth at h
  split at h
  all_goals first | cases h | (split at h <;> cases h)
theorem truth_go {γ δ : Type} {R2 : RelA γ δ} {K : PySem.W.Frag} (hK : F.K = K) {μ : Mu} {H : Hp} {p : PV} {v : V} {G : GH} {f : Bool → GH → Res γ} {Q : δ → Hp → Prop} (r : Rep F μ H p v) (g : HRep F μ H G)
    (h : Post F R2 Ex μ H ((truth p G).bind f) Q) : ∃ k, TruV K v H k ∧ Post F R2 Ex μ H (f k G) Q := by
  have q := (Post.bind (R := RB) h)
  cases e : truth p G with
  | ok k G' =>
    have eG := truth_ok e
    subst eG
    rw [e] at h
    have hk : ∃ k', TruV K v H k' ∧ k' = k := by
      refine truth_use (Ex := Ex) (Q := fun k' _ => k' = k) hK r g ?_
      rw [e]
      exact fun μ' b H' _ rr _ => (show k = b from rr).symm
    obtain ⟨k', h1, rfl⟩ := hk
    exact ⟨k', h1, h⟩
  | exc c fs G' => exact (truth_noexc e).elim
  | bad => rw [e] at h; exact (show False from h).elim
theorem ev_and {a b : Expr} {rest : List Expr} {pos : Pos} {ma mb : Env → GH → Res PV} (hK : F.K = X.K) (ha : PE X a (TEv F Ex ma)) (hb : PE X (.BoolOp .And (b :: rest) pos) (TEv F Ex mb)) :
    PE X (.BoolOp .And (a :: b :: rest) pos) (TEv F Ex (mAnd ma mb)) := (pe_andT ha hb).weak fun σ H Q ⟨μ, ρ, G, s, g, p⟩ =>
  TEv.run s g p fun μ1 a G1 v H1 e1 r1 g1 s1 p1 => by
    obtain ⟨k, t, p2⟩ := truth_go hK r1 g1 p1
    refine ⟨k, t, ?_⟩
    cases k with
    | true => exact ⟨μ1, ρ, G1, s1, g1, p2⟩
    | false => exact p2.here r1 g1
theorem ev_or {a b : Expr} {rest : List Expr} {pos : Pos} {ma mb : Env → GH → Res PV} (hK : F.K = X.K) (ha : PE X a (TEv F Ex ma)) (hb : PE X (.BoolOp .Or (b :: rest) pos) (TEv F Ex mb)) :
    PE X (.BoolOp .Or (a :: b :: rest) pos) (TEv F Ex (mOr ma mb)) := (pe_orT ha hb).weak fun σ H Q ⟨μ, ρ, G, s, g, p⟩ =>
  TEv.run s g p fun μ1 a G1 v H1 e1 r1 g1 s1 p1 => by
    obtain ⟨k, t, p2⟩ := truth_go hK r1 g1 p1
    refine ⟨k, t, ?_⟩
    cases k with
    | true => exact p2.here r1 g1
    | false => exact ⟨μ1, ρ, G1, s1, g1, p2⟩
theorem ev_one {op : BoolOp} {a : Expr} {pos : Pos} {t : TE} (h : PE X a t) : PE X (.BoolOp op [a] pos) t := pe_one h
def mNot (m : Env → GH → Res PV) : Env → GH → Res PV := fun ρ G => (m ρ G).bind fun x G1 => (truth x G1).bind fun k G2 => .ok (.bl (!k)) G2
theorem ev_not {a : Expr} {pos : Pos} {ma : Env → GH → Res PV} (hK : F.K = X.K) (ha : PE X a (TEv F Ex ma)) : PE X (.UnaryOp .Not a pos) (TEv F Ex (mNot ma)) :=
  (pe_notT ha).weak fun σ H Q ⟨μ, ρ, G, s, g, p⟩ => TEv.run s g p fun μ1 a G1 v H1 e1 r1 g1 s1 p1 => by
    obtain ⟨k, t, p2⟩ := truth_go hK r1 g1 p1
    exact ⟨k, t, p2.here (show Rep F μ1 H1 _ _ by simp only [Rep]) g1⟩

/-! ### tests -/
theorem ev_truth {a : Expr} {ma : Env → GH → Res PV} (hK : F.K = X.K) (ha : PE X a (TEv F Ex ma)) (he : ∀ whole, isTrue a X.env whole = (do let v ← whole; standAt a.pos; holding [v] (truthy v))) : PT X a (TTv F Ex (mT ma)) :=
  (pt_truth ha he).weak fun σ H Q ⟨μ, ρ, G, s, g, p⟩ => TEv.run s g p fun μ1 a G1 v H1 e1 r1 g1 s1 p1 => truth_use hK r1 g1 p1
def mtNot (m : Env → GH → Res Bool) : Env → GH → Res Bool := fun ρ G => (m ρ G).bind fun k G1 => .ok (!k) G1
theorem ev_tnot {a : Expr} {pos : Pos} {m : Env → GH → Res Bool} (ha : PT X a (TTv F Ex m)) : PT X (.UnaryOp .Not a pos) (TTv F Ex (mtNot m)) :=
  (pt_not ha).weak fun σ H Q ⟨μ, ρ, G, s, g, p⟩ => TTv.run s g p fun μ1 b G1 H1 e1 g1 s1 p1 => p1.here rfl g1
def mtAnd (ma mb : Env → GH → Res Bool) : Env → GH → Res Bool := fun ρ G => (ma ρ G).bind fun k G1 => if k = true then mb ρ G1 else .ok false G1
def mtOr (ma mb : Env → GH → Res Bool) : Env → GH → Res Bool := fun ρ G => (ma ρ G).bind fun k G1 => if k = true then .ok true G1 else mb ρ G1
theorem ev_tand1 {a : Expr} {pos : Pos} {t : TT} (h : PT X a t) : PW X (.BoolOp .And [a] pos) t := pw_and1 h
theorem ev_tor1 {a : Expr} {pos : Pos} {t : TT} (h : PT X a t) : PW X (.BoolOp .Or [a] pos) t := pw_or1 h
theorem ev_tand {a b : Expr} {rest : List Expr} {pos : Pos} {ma mb : Env → GH → Res Bool} (ha : PT X a (TTv F Ex ma)) (hb : PW X (.BoolOp .And (b :: rest) pos) (TTv F Ex mb)) :
    PW X (.BoolOp .And (a :: b :: rest) pos) (TTv F Ex (mtAnd ma mb)) := (pw_and ha hb).weak fun σ H Q ⟨μ, ρ, G, s, g, p⟩ => TTv.run s g p fun μ1 b G1 H1 e1 g1 s1 p1 => by
  cases b with
  | true => exact ⟨μ1, ρ, G1, s1, g1, p1⟩
  | false => exact p1.here rfl g1
theorem ev_tor {a b : Expr} {rest : List Expr} {pos : Pos} {ma mb : Env → GH → Res Bool} (ha : PT X a (TTv F Ex ma)) (hb : PW X (.BoolOp .Or (b :: rest) pos) (TTv F Ex mb)) :
    PW X (.BoolOp .Or (a :: b :: rest) pos) (TTv F Ex (mtOr ma mb)) := (pw_or ha hb).weak fun σ H Q ⟨μ, ρ, G, s, g, p⟩ => TTv.run s g p fun μ1 b G1 H1 e1 g1 s1 p1 => by
  cases b with
  | true => exact p1.here rfl g1
  | false => exact ⟨μ1, ρ, G1, s1, g1, p1⟩
def mIf (mc : Env → GH → Res Bool) (ma mb : Env → GH → Res PV) : Env → GH → Res PV := fun ρ G => (mc ρ G).bind fun k G1 => if k = true then ma ρ G1 else mb ρ G1
theorem ev_if {c a b : Expr} {pos : Pos} {mc : Env → GH → Res Bool} {ma mb : Env → GH → Res PV} (hc : PT X c (TTv F Ex mc)) (ha : PE X a (TEv F Ex ma)) (hb : PE X b (TEv F Ex mb)) :
    PE X (.IfExp c a b pos) (TEv F Ex (mIf mc ma mb)) := (pe_ifExp hc ha hb).weak fun σ H Q ⟨μ, ρ, G, s, g, p⟩ => TTv.run s g p fun μ1 b G1 H1 e1 g1 s1 p1 => by
  cases b with
  | true => exact ⟨μ1, ρ, G1, s1, g1, p1⟩
  | false => exact ⟨μ1, ρ, G1, s1, g1, p1⟩

/-! ### a chain of two comparisons -/
theorem asB_go {γ δ : Type} {R2 : RelA γ δ} {μ : Mu} {H : Hp} {p : PV} {v : V} {G : GH} {f : Bool → GH → Res γ} {Q : δ → Hp → Prop} (r : Rep F μ H p v) (h : Post F R2 Ex μ H ((asB p G).bind f) Q) :
    ∃ k, v = .bl k ∧ Post F R2 Ex μ H (f k G) Q := by
  cases p with
  | bl b => exact ⟨b, by simpa only [Rep] using r, h⟩
  | _ => exact (show False from h).elim
theorem chain_read {ma mb mc : Env → GH → Res PV} {f f' : List PV → GH → Res PV} {σ : L2.St} {H : Hp} {Q : VK} (h : TEv F Ex (m3c ma mb mc f f') σ H Q) :
    tChain (OpV F Ex f) (OpV F Ex f') (TEv F Ex ma) (TEv F Ex mb) (TEv F Ex mc) σ H Q := by
  obtain ⟨μ, ρ, G, s, g, p⟩ := h
  refine TEv.run s g p fun μ1 a G1 v H1 e1 r1 g1 s1 p1 => ?_
  refine TEv.run s1 g1 p1 fun μ2 b G2 w H2 e2 r2 g2 s2 p2 => ?_
  refine ⟨μ2, [a, b], G2, .cons (r1.mono e2) (.one r2), g2, (Post.bind (R := RV F) p2).mono fun z H3 ⟨μ3, z', G3, _, e3, r3, g3, p3⟩ => ?_⟩
  obtain ⟨k, e, p4⟩ := asB_go r3 p3
  refine ⟨k, e, ?_⟩
  cases k with
  | true =>
    refine TEv.run (s2.mono e3) g3 p4 fun μ4 c G4 u H4 e4 r4 g4 s4 p5 => ?_
    exact ⟨μ4, [b, c], G4, .cons ((r2.mono e3).mono e4) (.one r4), g4, p5⟩
  | false => exact p4.here (show Rep F μ3 H3 _ _ by simp only [Rep]) g3
theorem ev_chainT {op op' : CmpOp} {a b c : Expr} {pos : Pos} {ma mb mc : Env → GH → Res PV} {f f' : List PV → GH → Res PV} (ho : OpR X (compareOp op) (OpV F Ex f)) (ho' : OpR X (compareOp op') (OpV F Ex f'))
    (ha : PE X a (TEv F Ex ma)) (hb : PE X b (TEv F Ex mb)) (hc : PE X c (TEv F Ex mc)) (hm : lastMarks [op, op'] [b, c] = false) : PT X (.Compare a [op, op'] [b, c] pos) (TTv F Ex (mB (m3c ma mb mc f f'))) :=
  (pt_chain ho ho' ha hb hc hm).weak fun σ H Q ⟨μ, ρ, G, s, g, p⟩ => chain_read ⟨μ, ρ, G, s, g, (Post.bind (R := RV F) p).mono fun v H1 ⟨μ1, a, G1, _, e, r, g1, q⟩ => asB_use r g1 q⟩

/-! ### argument lists, displays -/
def mNil : Env → GH → Res (List PV) := fun _ G => .ok [] G
def mCons (m : Env → GH → Res PV) (ms : Env → GH → Res (List PV)) : Env → GH → Res (List PV) := fun ρ G => (m ρ G).bind fun x G1 => (ms ρ G1).bind fun xs G2 => .ok (x :: xs) G2
theorem ev_nil : PA X [] (TAv F Ex mNil) := pa_nil.weak fun σ H Q ⟨μ, ρ, G, s, g, p⟩ => p.here (show Reps F μ H [] [] from .nil) g
def plainE : Expr → Bool
  | .Starred _ _ => false
  | _ => true
theorem star_plain {e : Expr} {es : List Expr} {env : PySem.Env} (h : plainE e = true) : starEach (e :: es) env = (false, eval e env) :: starEach es env := by
  cases e <;> first | rfl | cases h
theorem ev_cons {e : Expr} {es : List Expr} {m : Env → GH → Res PV} {ms : Env → GH → Res (List PV)} (hp : plainE e = true) (he : PE X e (TEv F Ex m)) (hs : PA X es (TAv F Ex ms)) : PA X (e :: es) (TAv F Ex (mCons m ms)) :=
  (pa_cons he hs (star_plain hp)).weak fun σ H Q ⟨μ, ρ, G, s, g, p⟩ => by
    refine TEv.run s g p fun μ1 a G1 v H1 e1 r1 g1 s1 p1 => ?_
    refine TAv.run s1 g1 p1 fun μ2 b G2 w H2 e2 r2 g2 s2 p2 => ?_
    exact p2.here (show Reps F μ2 H2 _ _ from .cons (r1.mono e2) r2) g2
def mkTup (ps : List PV) (G : GH) : Res PV := if ps.length ≤ sizeLine then .ok (.tup ps) G else .bad
def mkLst (ps : List PV) (G : GH) : Res PV := if ps.length ≤ sizeLine then .ok (.lst ps) G else .bad
def mkObj (ps : List PV) (G : GH) : Res PV := if ps.length ≤ sizeLine then .ok (.obj G.length) (G ++ [.lst ps]) else .bad
def mA (ms : Env → GH → Res (List PV)) (f : List PV → GH → Res PV) : Env → GH → Res PV := fun ρ G => (ms ρ G).bind f
/-- a new tuple, a new list (a value, or an object of ours) at p -/
theorem new_tup {μ : Mu} {H : Hp} {ps : List PV} {vs : List V} {G : GH} {Q : VK} (r : Reps F μ H ps vs) (g : HRep F μ H G) (h : Post F (RV F) Ex μ H (mkTup ps G) Q) :
    vs.length ≤ sizeLine ∧ NewT H vs Q := by
  unfold mkTup at h
  by_cases z : ps.length ≤ sizeLine
  · rw [if_pos z] at h
    have z' : vs.length ≤ sizeLine := by rw [← r.length]; exact z
    refine ⟨z', fun p o n d => h.ok (Ext.upd_new g n) ?_ (g.upd_new n)⟩
    show Rep F μ _ _ _
    simp only [Rep]
    exact ⟨p, vs, rfl, z', .inl ⟨g.fresh n, o, upd_same, d⟩, r.mono (Ext.upd_new g n)⟩
  · rw [if_neg z] at h; exact (show False from h).elim
theorem new_lst {μ : Mu} {H : Hp} {ps : List PV} {vs : List V} {G : GH} {Q : VK} (r : Reps F μ H ps vs) (g : HRep F μ H G) (h : Post F (RV F) Ex μ H (mkLst ps G) Q) :
    vs.length ≤ sizeLine ∧ ∀ p, H p = none → Q (.ref p) (upd H p (.lst vs)) := by
  unfold mkLst at h
  by_cases z : ps.length ≤ sizeLine
  · rw [if_pos z] at h
    have z' : vs.length ≤ sizeLine := by rw [← r.length]; exact z
    refine ⟨z', fun p n => h.ok (Ext.upd_new g n) ?_ (g.upd_new n)⟩
    show Rep F μ _ _ _
    simp only [Rep]
    exact ⟨p, vs, rfl, z', ⟨g.fresh n, upd_same⟩, r.mono (Ext.upd_new g n)⟩
  · rw [if_neg z] at h; exact (show False from h).elim
theorem new_obj {μ : Mu} {H : Hp} {ps : List PV} {vs : List V} {G : GH} {Q : VK} (r : Reps F μ H ps vs) (g : HRep F μ H G) (h : Post F (RV F) Ex μ H (mkObj ps G) Q) :
    vs.length ≤ sizeLine ∧ ∀ p, H p = none → Q (.ref p) (upd H p (.lst vs)) := by
  unfold mkObj at h
  by_cases z : ps.length ≤ sizeLine
  · rw [if_pos z] at h
    have z' : vs.length ≤ sizeLine := by rw [← r.length]; exact z
    refine ⟨z', fun p n => h.ok (Ext.push g n) ?_ (g.push n ⟨vs, upd_same, z', r.mono (Ext.push g n)⟩)⟩
    show Rep F _ _ _ _
    simp only [Rep]
    exact ⟨p, rfl, by rw [← g.len]; simp⟩
  · rw [if_neg z] at h; exact (show False from h).elim
theorem ev_tup {es : List Expr} {k : Nat} {pos : Pos} {ms : Env → GH → Res (List PV)} (h : PA X es (TAv F Ex ms)) : PE X (.Tuple es k pos) (TEv F Ex (mA ms mkTup)) :=
  (pe_tupF h).weak fun σ H Q ⟨μ, ρ, G, s, g, p⟩ => TAv.run s g p fun μ1 a G1 v H1 e1 r1 g1 s1 p1 => new_tup r1 g1 p1
theorem ev_lst {es : List Expr} {pos : Pos} {ms : Env → GH → Res (List PV)} (h : PA X es (TAv F Ex ms)) : PE X (.List es pos) (TEv F Ex (mA ms mkLst)) :=
  (pe_lst h).weak fun σ H Q ⟨μ, ρ, G, s, g, p⟩ => TAv.run s g p fun μ1 a G1 v H1 e1 r1 g1 s1 p1 => new_lst r1 g1 p1
theorem ev_lso {es : List Expr} {pos : Pos} {ms : Env → GH → Res (List PV)} (h : PA X es (TAv F Ex ms)) : PE X (.List es pos) (TEv F Ex (mA ms mkObj)) :=
  (pe_lst h).weak fun σ H Q ⟨μ, ρ, G, s, g, p⟩ => TAv.run s g p fun μ1 a G1 v H1 e1 r1 g1 s1 p1 => new_obj r1 g1 p1

/-! ### built-ins by name -/
theorem any_star {e : Expr} {es : List Expr} {env : PySem.Env} {pos : Pos} (h : es.all plainE = true) : (backTo pos (starEach es env)).any (·.1) = false := by
  induction es with
  | nil => rfl
  | cons a r ih =>
    simp only [List.all_cons, Bool.and_eq_true] at h
    rw [star_plain h.1]
    exact ih h.2
theorem ev_blt {id : String} {x : Str} {e : Expr} {es : List Expr} {p pos : Pos} {ms : Env → GH → Res (List PV)} {f : List PV → GH → Res PV} (hc : CallR X (.builtin id) (RdV F Ex f)) (hg : Gl X x) (hm : X.mg x = none) (hv : bootBuiltins x = some (.builtin id))
    (ha : PA X (e :: es) (TAv F Ex ms)) (hn : x ≠ "__name__") (hdb : (x == ("__debug__" : Str)) = false) (h1 : plainE e = true) (h2 : es.all plainE = true) : PE X (.Call (.Name x p) (e :: es) [] pos) (TEv F Ex (mA ms f)) :=
  (pe_callB hc hg hm hv ha hn hdb (star_plain h1) (any_star (e := e) h2)).weak fun σ H Q ⟨μ, ρ, G, s, g, p⟩ => TAv.run s g p fun μ1 a G1 v H1 e1 r1 g1 s1 p1 => ⟨μ1, a, G1, r1, g1, p1⟩
theorem ev_bty {T : String} {x : Str} {e : Expr} {es : List Expr} {p pos : Pos} {ms : Env → GH → Res (List PV)} {f : List PV → GH → Res PV} (hc : CallR X (.type T) (RdV F Ex f)) (hg : Gl X x) (hm : X.mg x = none) (hv : bootBuiltins x = some (.type T))
    (ha : PA X (e :: es) (TAv F Ex ms)) (hn : x ≠ "__name__") (hdb : (x == ("__debug__" : Str)) = false) (h1 : plainE e = true) (h2 : es.all plainE = true) : PE X (.Call (.Name x p) (e :: es) [] pos) (TEv F Ex (mA ms f)) :=
  (pe_callTy hc hg hm hv ha hn hdb (star_plain h1) (any_star (e := e) h2)).weak fun σ H Q ⟨μ, ρ, G, s, g, p⟩ => TAv.run s g p fun μ1 a G1 v H1 e1 r1 g1 s1 p1 => ⟨μ1, a, G1, r1, g1, p1⟩

/-! ### slices -/
def mPart (m : Env → GH → Res PV) : Env → GH → Res (Option Int) := fun ρ G => (m ρ G).bind fun x G1 => match x with
  | .int i => .ok (some i) G1
  | _ => .bad
def mNoPart : Env → GH → Res (Option Int) := fun _ G => .ok none G
def RO : RelA (Option Int) (Option Int) := fun _ _ a b => a = b
def TOv (F : Fx) (Ex : XK) (m : Env → GH → Res (Option Int)) : TO := fun σ H Q => ∃ μ ρ G, SRel F μ H ρ σ ∧ HRep F μ H G ∧ Post F RO Ex μ H (m ρ G) Q
theorem _root_.L2.PO.weak {e : Option Expr} {t t' : TO} (h : PO X e t) (w : ∀ σ H Q, t' σ H Q → t σ H Q) : PO X e t' := ⟨fun pins s σ H Q I q => h.run pins s σ H Q I (w σ H Q q)⟩
theorem ev_poN : PO X none (TOv F Ex mNoPart) := po_none.weak fun σ H Q ⟨μ, ρ, G, s, g, p⟩ => p.here rfl g
theorem ev_poS {e : Expr} {m : Env → GH → Res PV} (h : PE X e (TEv F Ex m)) : PO X (some e) (TOv F Ex (mPart m)) := (po_some h).weak fun σ H Q ⟨μ, ρ, G, s, g, p⟩ => TEv.run s g p fun μ1 a G1 v H1 e1 r1 g1 s1 p1 => by
  cases a with
  | int i => exact ⟨i, by simpa only [Rep] using r1, p1.here rfl g1⟩
  | _ => exact (show False from p1).elim
def mSl (m : Env → GH → Res PV) (l h : Env → GH → Res (Option Int)) (f : PV → Option Int → Option Int → GH → Res PV) : Env → GH → Res PV := fun ρ G => (m ρ G).bind fun x G1 => (l ρ G1).bind fun i G2 => (h ρ G2).bind fun j G3 => f x i j G3
theorem TOv.run {σ : L2.St} {H : Hp} {μ : Mu} {ρ : Env} {G : GH} {m : Env → GH → Res (Option Int)} {γ δ : Type} {R2 : RelA γ δ} {f : Option Int → GH → Res γ} {Q2 : δ → Hp → Prop} {Q : Option Int → Hp → Prop}
    (s : SRel F μ H ρ σ) (g : HRep F μ H G) (h : Post F R2 Ex μ H ((m ρ G).bind f) Q2)
    (k : ∀ μ1 b G1 H1, Ext μ μ1 H H1 → HRep F μ1 H1 G1 → SRel F μ1 H1 ρ σ → Post F R2 Ex μ1 H1 (f b G1) Q2 → Q b H1) : TOv F Ex m σ H Q :=
  ⟨μ, ρ, G, s, g, (Post.bind (R := RO) h).mono fun v H1 ⟨μ1, a, G1, _, e, r, g1, p⟩ => by
    cases (show a = v from r)
    exact k μ1 _ G1 H1 e g1 (s.mono e) p⟩
def RdS (F : Fx) (Ex : XK) (f : PV → Option Int → Option Int → GH → Res PV) : V → Option Int → Option Int → Hp → VK → Prop := fun v lo hi H Q => ∃ μ p G, Rep F μ H p v ∧ HRep F μ H G ∧ Post F (RV F) Ex μ H (f p lo hi G) Q
theorem ev_sl {e : Expr} {lo hi : Option Expr} {p2 pos : Pos} {m : Env → GH → Res PV} {l h : Env → GH → Res (Option Int)} {f : PV → Option Int → Option Int → GH → Res PV} (hr : SlR X (RdS F Ex f)) (he : PE X e (TEv F Ex m)) (hl : PO X lo (TOv F Ex l)) (hu : PO X hi (TOv F Ex h)) :
    PE X (.Subscript e (.Slice lo hi none p2) pos) (TEv F Ex (mSl m l h f)) := (pe_slice hr he hl hu).weak fun σ H Q ⟨μ, ρ, G, s, g, p⟩ => by
  refine TEv.run s g p fun μ1 a G1 v H1 e1 r1 g1 s1 p1 => ?_
  refine TOv.run s1 g1 p1 fun μ2 i G2 H2 e2 g2 s2 p2 => ?_
  refine TOv.run s2 g2 p2 fun μ3 j G3 H3 e3 g3 s3 p3 => ?_
  exact ⟨μ3, a, G3, (r1.mono e2).mono e3, g3, p3⟩
end
end EV
end
section
set_option Elab.async false
set_option linter.all false
set_option maxRecDepth 100000
/-! Ev4: defs and their calls; comprehensions; loops. -/
namespace EV
open PySem PySem.Spec PyProof.Rows L2

/-- a def keeps a promise wherever no repr is under way -/
structure FnG (P : Program) (w : World) (K : PySem.W.Frag) (mg : Str → Option Value) (base : Heap) (k : Nat) (f : Addr) (fd : FuncData) (ps : List Str) (sp : Sp) : Prop where
  len : ∀ vs H Q E, sp vs H Q E → vs.length = ps.length
  run : ∀ (A : Around) (outer : List PySem.Env) (s : Shared) (H : Hp) (args : Args) (us : List Value) (vs : List V) (Q : VK) (E : XK), Room k A → A.guards = some [] → Env0 P w K mg base A outer s H →
    BindsTo s fd args (ps.zip us) → Vals vs us → sp vs H Q E → codeAny (model P w) A (.call (.ref f) args) (CR (L2.CX P w) outer P w H s Q E) s
theorem FnG.mono {P : Program} {w : World} {K : PySem.W.Frag} {mg : Str → Option Value} {base : Heap} {j k : Nat} {f : Addr} {fd : FuncData} {ps : List Str} {sp : Sp} (F : FnG P w K mg base j f fd ps sp) (h : j ≤ k) : FnG P w K mg base k f fd ps sp :=
  ⟨F.len, fun A outer s H args us vs Q E hr => F.run A outer s H args us vs Q E (hr.mono h)⟩

/-- a def of the text, by its body -/
theorem fnG_of {P : Program} {w : World} {K : PySem.W.Frag} {mg : Str → Option Value} {base : Heap} {k : Nat} {f : Addr} {name qual : Str} {params : Arguments} {body : List Stmt} {scope : Scope} {dV kV doc pm cdv ct oc : Value} {an od : Option Addr}
    {osl : Array (Option Value)} {N ps : List Str} {sp : Sp} (lk : K.lookup f = some ⟨oc, od, .func (PySem.W.fnOf name qual params body scope dV kV doc pm an cdv ct), osl⟩) (hcd : PySem.W.codeIn K cdv qual = true) (S : FnScope N ps scope)
    (len : ∀ vs H Q E, sp vs H Q E → vs.length = ps.length)
    (hbody : ∀ (A : Around) (outer : List PySem.Env) (s : Shared) (H : Hp) (vs : List V) (Q : VK) (E : XK), Room k (A.deeper (envOfC qual scope s.heap.objs.size f cdv)) → A.guards = some [] → sp vs H Q E →
      ∃ t, PSs (cxOf (L2.CX P w) P w K mg base N qual scope f cdv A outer s H E) body t ∧ t { nx := fun _ H' => Q .non H', rt := Q } (start N vs) H) :
    FnG P w K mg base (k + 1) f (PySem.W.fnOf name qual params body scope dV kV doc pm an cdv ct) ps sp where
  len := len
  run := fun A outer s H args us vs Q E hr hgd e0 hb r hsp => by
    have hlen := len _ _ _ _ hsp
    have stays : ∀ b o, base.get? b = some o → s.heap.get? b = some o := fun b o e => (e0.bs b o e).1
    have KX : K.In s.heap := e0.mod.kin.keeps stays
    have lim : s.heap.NoLimit := e0.mod.nolimit.keeps stays
    have kinds : ∀ y ∈ ps.zip us, scope.names.lookup y.1 = some .local ∨ (scope.names.lookup y.1 = some .cell ∧ ((cellsFrom (s.heap.objs.size + 1) scope.names []).lookup y.1).isSome = true) := fun y hy =>
      (S.par y.1 (List.of_mem_zip hy).1).imp id fun q => ⟨q, PySem.W.cellsFrom_some _ _ _ (.inl q)⟩
    refine codeAny_call_function hr.depth (KX _ _ lk) rfl S.co S.gen rfl (PySem.W.codeRec_of KX hcd) (hb _ _ _ _ ?_)
    refine wpAny_newFunctionEnv_cells S.kind kinds fun env he s1 x => ?_
    subst he
    refine ⟨lim.keeps x.toInCall.keep, codeAny_func ?_⟩
    obtain ⟨t, ht, hq⟩ := hbody A outer s H vs Q E (hr.deeper _) hgd hsp
    have I := inv_start (CX := L2.CX P w) (E := E) (cd := cdv) S hr.hd e0 hlen r x
    refine wpAny_mono (ht.run [] s1 (start N vs) H _ I hq) (fun fl s' hs => ?_) fun e s' hs => hs
    cases fl with
    | ret u =>
      obtain ⟨v, σ', H', J, rv, q⟩ := hs
      exact ⟨v, H', J.os, J.bare, J.base, J.hok, rv, q⟩
    | next =>
      obtain ⟨σ', H', J, q⟩ := hs
      exact ⟨V.non, H', J.os, J.bare, J.base, J.hok, rfl, q⟩
    | brk => obtain ⟨_, _, _, q⟩ := hs; exact False.elim q
    | cont => obtain ⟨_, _, _, q⟩ := hs; exact False.elim q

section
variable {X : Cx} {F : Fx} {Ex : XK} {k : Nat} {f : Addr} {fd : FuncData} {ps : List Str} {sp : Sp} {ds : List Value} {dvs : List V} {x : Str} {p pos : Pos} {e : Expr} {es : List Expr} {t : TA}
theorem run_fnG {pins : List (Addr × Obj)} {σ : L2.St} {H : Hp} {s : Shared} {Q : VK} {us : List Value} {vs : List V} (Fn : FnG X.prog X.w X.K X.mg X.base k f fd ps sp) (hr : Room k X.A) (hgd : X.A.guards = some []) (hb : Binds X.K fd ps ds) (hd : Vals dvs ds)
    (hx : Passes (L2.CX X.prog X.w) X Ex) (I : Inv X pins σ H s) (r : Vals vs us) (h : sp (vs ++ dvs) H Q Ex) : wpAny (model X.prog X.w) X.A (call (.ref f) us) (EP X pins σ Q) X.xe s := by
  have r2 : Vals (vs ++ dvs) (us ++ ds) := r.append hd
  have hlen : (us ++ ds).length = ps.length := r2.length.symm.trans (Fn.len _ _ _ _ h)
  refine wpAny_call (codeAny_mono (Fn.run X.A X.stack s H ⟨us, []⟩ (us ++ ds) (vs ++ dvs) Q Ex hr hgd I.env0 (hb s us I.kIn hlen) r2 h) fun r s' hq => ?_)
  match r, hq with
  | .error e, hq => exact hx pins σ H s e s' I hq
  | .ok (.ret u), hq => exact I.after hq
  | .ok .next, hq => exact False.elim hq
  | .ok .brk, hq => exact False.elim hq
  | .ok .cont, hq => exact False.elim hq
theorem pe_callG (Fn : FnG X.prog X.w X.K X.mg X.base k f fd ps sp) (hr : Room k X.A) (hgd : X.A.guards = some []) (hg : Gl X x) (hm : X.mg x = some (.ref f)) (hk : PySem.W.keepIn X.K (.ref f) = true) (hb : Binds X.K fd ps ds) (hd : Vals dvs ds)
    (hx : Passes (L2.CX X.prog X.w) X Ex) (ha : PA X (e :: es) t) (hdb : (x == ("__debug__" : Str)) = false) (h1 : plainE e = true) (h2 : es.all plainE = true) : PE X (.Call (.Name x p) (e :: es) [] pos) (tCall sp dvs Ex t) :=
  ⟨fun pins s σ H Q I h => wpAny_Call_Name_kw (ld_glob I hg hm (PySem.W.callWith_K (h₀ := X.base) I.ok.mod.kin hk
    (thn (ha.run pos pins s σ H _ I h) fun us s1 ⟨vs, H1, I1, r, q⟩ => ⟨I1.kIn, run_fnG Fn hr hgd hb hd hx I1 r q⟩) (star_plain h1) (any_star (e := e) h2)) hdb)⟩
/-- an own def's promise, by the evaluator -/
def SpV (F : Fx) (n : Nat) (m : List PV → GH → Res PV) : Sp := fun vs H Q E => vs.length = n ∧ RdV F E m vs H Q
theorem ev_call {n : Nat} {m : List PV → GH → Res PV} {ms : Env → GH → Res (List PV)} (Fn : FnG X.prog X.w X.K X.mg X.base k f fd ps (SpV F n m)) (hr : Room k X.A) (hgd : X.A.guards = some []) (hg : Gl X x) (hm : X.mg x = some (.ref f)) (hk : PySem.W.keepIn X.K (.ref f) = true)
    (hb : Binds X.K fd ps []) (hx : Passes (L2.CX X.prog X.w) X Ex) (ha : PA X (e :: es) (TAv F Ex ms)) (hdb : (x == ("__debug__" : Str)) = false) (h1 : plainE e = true) (h2 : es.all plainE = true)
    (hn : ∀ qs G, qs.length ≠ n → m qs G = .bad) : PE X (.Call (.Name x p) (e :: es) [] pos) (TEv F Ex (mA ms m)) :=
  (pe_callG Fn hr hgd hg hm hk hb .nil hx ha hdb h1 h2).weak fun σ H Q ⟨μ, ρ, G, s, g, q⟩ => TAv.run s g q fun μ1 a G1 v H1 e1 r1 g1 s1 p1 => by
    refine ⟨?_, μ1, a, G1, by rw [List.append_nil]; exact r1, g1, p1⟩
    rw [List.append_nil]
    by_cases z : a.length = n
    · rw [← r1.length]; exact z
    · rw [hn a G1 z] at p1; exact (show False from p1).elim
end
end EV
end
section
set_option Elab.async false
set_option linter.all false
set_option maxRecDepth 100000
/-! Ev5: targets, what is walked, comprehensions, statements. -/
namespace EV
open PySem PySem.Spec PyProof.Rows L2

/-! ### data that is the same -/
mutual
def PV.same : PV → PV → Bool
  | .non, .non => true
  | .bl a, .bl b => a == b
  | .int a, .int b => a == b
  | .str a, .str b => decide (a = b)
  | .tup a, .tup b => PV.sames a b
  | .lst a, .lst b => PV.sames a b
  | .sls a, .sls b => PV.sames a b
  | .obj a, .obj b => a == b
  | _, _ => false
def PV.sames : List PV → List PV → Bool
  | [], [] => true
  | a :: as, b :: bs => PV.same a b && PV.sames as bs
  | _, _ => false
end
mutual
theorem PV.same_eq : ∀ {a b : PV}, PV.same a b = true → a = b
  | .non, b, h => by cases b <;> simp [PV.same] at h; rfl
  | .bl x, b, h => by cases b <;> simp [PV.same] at h; rw [h]
  | .int x, b, h => by cases b <;> simp [PV.same] at h; rw [h]
  | .str x, b, h => by cases b <;> simp [PV.same] at h; rw [h]
  | .tup x, b, h => by
    cases b <;> simp [PV.same] at h
    rw [PV.sames_eq h]
  | .lst x, b, h => by
    cases b <;> simp [PV.same] at h
    rw [PV.sames_eq h]
  | .sls x, b, h => by
    cases b <;> simp [PV.same] at h
    rw [PV.sames_eq h]
  | .obj x, b, h => by cases b <;> simp [PV.same] at h; rw [h]
theorem PV.sames_eq : ∀ {a b : List PV}, PV.sames a b = true → a = b
  | [], b, h => by cases b <;> simp [PV.sames] at h; rfl
  | a :: as, [], h => by simp [PV.sames] at h
  | a :: as, b :: bs, h => by
    simp only [PV.sames, Bool.and_eq_true] at h
    rw [PV.same_eq h.1, PV.sames_eq h.2]
end
mutual
theorem PV.same_self : ∀ a : PV, PV.same a a = true
  | .non => by simp [PV.same]
  | .bl x => by simp [PV.same]
  | .int x => by simp [PV.same]
  | .str x => by simp [PV.same]
  | .tup x => by simp only [PV.same]; exact PV.sames_self x
  | .lst x => by simp only [PV.same]; exact PV.sames_self x
  | .sls x => by simp only [PV.same]; exact PV.sames_self x
  | .obj x => by simp [PV.same]
theorem PV.sames_self : ∀ a : List PV, PV.sames a a = true
  | [] => by simp [PV.sames]
  | a :: as => by simp only [PV.sames, Bool.and_eq_true]; exact ⟨PV.same_self a, PV.sames_self as⟩
end

/-! ### what is walked -/
/-- the items, and what has to stay so that they do -/
structure Src where
  its : List PV
  gd : GH → Bool
def JOk (F : Fx) (J : It) (μ0 : Mu) (H0 : Hp) (S : Src) : Prop :=
  ∀ μ H G, Chg F μ0 μ H0 H → HRep F μ H G → S.gd G = true →
    (∀ (i : Nat) (p : PV), S.its[i]? = some p → J.go i H ∧ ∀ x H', J.yld i H x H' → (∀ a o, H a = some o → H' a = some o) ∧ Rep F μ H' p x) ∧ J.stop S.its.length H
def RI (F : Fx) : RelA Src It := fun μ H S J => S.its.length ≤ sizeLine ∧ JOk F J μ H S
def TIv (F : Fx) (Ex : XK) (m : Env → GH → Res Src) : TI := fun σ H R => ∃ μ ρ G, SRel F μ H ρ σ ∧ HRep F μ H G ∧ Post F (RI F) Ex μ H (m ρ G) R
theorem _root_.L2.PI.weak {X : Cx} {tg e : Expr} {t t' : TI} (h : PI X tg e t) (w : ∀ σ H Q, t' σ H Q → t σ H Q) : PI X tg e t' := ⟨fun pins s σ H Q I q => h.run pins s σ H Q I (w σ H Q q)⟩
theorem _root_.L2.PI.or {X : Cx} {tg e : Expr} {t t' : TI} (h : PI X tg e t) (h' : PI X tg e t') : PI X tg e (fun σ H R => t σ H R ∨ t' σ H R) := ⟨fun pins s σ H Q I q => q.elim (h.run pins s σ H Q I) (h'.run pins s σ H Q I)⟩
def isLstAt (n : Nat) (ps : List PV) (G : GH) : Bool := match G[n]? with
  | some (.lst qs) => PV.sames qs ps
  | _ => false
theorem isLstAt_eq {n : Nat} {ps : List PV} {G : GH} (h : isLstAt n ps G = true) : G[n]? = some (.lst ps) := by
  unfold isLstAt at h
  split at h
  · rename_i qs e; rw [e, PV.sames_eq h]
  · cases h
def signs (x : Str) : List PV := x.cps.toList.map fun c => .str ⟨#[c]⟩
def seqSrc (p : PV) (G : GH) : Res Src := match p with
  | .tup ps => .ok ⟨ps, fun _ => true⟩ G
  | .lst ps => .ok ⟨ps, fun _ => true⟩ G
  | .sls ps => .ok ⟨ps, fun _ => true⟩ G
  | .str x => if x.length ≤ sizeLine then .ok ⟨signs x, fun _ => true⟩ G else .bad
  | .obj n => match G[n]? with
    | some (.lst ps) => .ok ⟨ps, isLstAt n ps⟩ G
    | _ => .bad
  | _ => .bad
def mSeq (m : Env → GH → Res PV) : Env → GH → Res Src := fun ρ G => (m ρ G).bind seqSrc
section
variable {X : Cx} {F : Fx} {Ex : XK}
theorem JOk.tup {K : PySem.W.Frag} (hK : F.K = K) {μ : Mu} {H : Hp} {a : Addr} {vs : List V} {ps : List PV} (st : StT F μ H a vs) (r : Reps F μ H ps vs) : JOk F (Itt K a) μ H ⟨ps, fun _ => true⟩ := by
  subst hK
  intro μ1 H1 G1 e g _
  have sq : SqT F.K H1 a vs := (e.t _ _ st).sq
  refine ⟨fun i p hp => ?_, vs, sq, by rw [← r.length]; exact Nat.le_refl _⟩
  obtain ⟨v, h1, h2⟩ := r.get hp
  refine ⟨⟨vs, v, sq, h1⟩, fun x H' hy => ?_⟩
  obtain ⟨rfl, hy⟩ := hy
  refine ⟨fun _ _ h => h, ?_⟩
  have := hy vs sq
  rw [h1] at this; cases this
  exact h2.chg e
theorem JOk.lst {K : PySem.W.Frag} (hK : F.K = K) {μ : Mu} {H : Hp} {a : Addr} {vs : List V} {ps : List PV} (st : StL F μ H a vs) (r : Reps F μ H ps vs) : JOk F (Itl K a) μ H ⟨ps, fun _ => true⟩ := by
  subst hK
  intro μ1 H1 G1 e g _
  have sq : SqL F.K H1 a vs := (e.l _ _ st).sq
  refine ⟨fun i p hp => ?_, vs, sq, by rw [← r.length]; exact Nat.le_refl _⟩
  obtain ⟨v, h1, h2⟩ := r.get hp
  refine ⟨⟨vs, v, sq, h1⟩, fun x H' hy => ?_⟩
  obtain ⟨rfl, hy⟩ := hy
  refine ⟨fun _ _ h => h, ?_⟩
  have := hy vs sq
  rw [h1] at this; cases this
  exact h2.chg e
theorem JOk.obj {K : PySem.W.Frag} (hK : F.K = K) {μ : Mu} {H : Hp} {n : Nat} {a : Addr} {ps : List PV} (ha : μ.ob[n]? = some a) : JOk F (Itl K a) μ H ⟨ps, isLstAt n ps⟩ := by
  subst hK
  intro μ1 H1 G1 e g hgd
  obtain ⟨vs, q, z, r⟩ := g.obj n a _ (e.ob _ _ ha) (isLstAt_eq hgd)
  have sq : SqL F.K H1 a vs := SqL.of q
  refine ⟨fun i p hp => ?_, vs, sq, by rw [← r.length]; exact Nat.le_refl _⟩
  obtain ⟨v, h1, h2⟩ := r.get hp
  refine ⟨⟨vs, v, sq, h1⟩, fun x H' hy => ?_⟩
  obtain ⟨rfl, hy⟩ := hy
  refine ⟨fun _ _ h => h, ?_⟩
  have := hy vs sq
  rw [h1] at this; cases this
  exact h2
theorem JOk.str {μ : Mu} {H : Hp} {x : Str} : JOk F (Its x) μ H ⟨signs x, fun _ => true⟩ := by
  intro μ1 H1 G1 e g _
  refine ⟨fun i p hp => ?_, by show x.cps.size ≤ (signs x).length; unfold signs; simp⟩
  unfold signs at hp
  rw [List.getElem?_map] at hp
  cases hc : x.cps.toList[i]? with
  | none => rw [hc] at hp; cases hp
  | some c =>
    rw [hc] at hp
    have ep : p = .str ⟨#[c]⟩ := (Option.some.inj hp).symm
    subst ep
    have hc' : x.cps[i]? = some c := by simpa using hc
    refine ⟨(Array.getElem?_eq_some_iff.mp hc').1, fun v H' hy => ?_⟩
    obtain ⟨rfl, d, hd, rfl⟩ := hy
    rw [hc'] at hd; cases hd
    exact ⟨fun _ _ h => h, by simp only [Rep]⟩
theorem ev_seq {tg e : Expr} {m : Env → GH → Res PV} (hK : F.K = X.K) (h : PE X e (TEv F Ex m)) : PI X tg e (TIv F Ex (mSeq m)) := by
  refine ((pi_tup h).or ((pi_list h).or (pi_str h))).weak fun σ H R ⟨μ, ρ, G, s, g, p⟩ => ?_
  cases em : m ρ G with
  | bad => unfold mSeq at p; rw [em] at p; exact (show False from p).elim
  | exc c fs G' =>
    refine .inl (TEv.runE s g p fun μ1 a G1 v H1 em' _ _ _ _ _ => ?_)
    rw [em] at em'; cases em'
  | ok q G' =>
    cases q with
    | tup ps =>
      refine .inl (TEv.runE s g p fun μ1 a G1 v H1 em' e1 r1 g1 s1 p1 => ?_)
      rw [em] at em'; cases em'
      obtain ⟨b, vs, rfl, z, st, rr⟩ := (show ∃ a vs, v = .ref a ∧ _ from by simpa only [Rep] using r1)
      exact ⟨b, rfl, ⟨vs, by rw [← hK]; exact st.sq⟩, p1.here ⟨by rw [rr.length]; exact z, JOk.tup hK st rr⟩ g1⟩
    | lst ps =>
      refine .inr (.inl (TEv.runE s g p fun μ1 a G1 v H1 em' e1 r1 g1 s1 p1 => ?_))
      rw [em] at em'; cases em'
      obtain ⟨b, vs, rfl, z, st, rr⟩ := (show ∃ a vs, v = .ref a ∧ _ from by simpa only [Rep] using r1)
      exact ⟨b, rfl, ⟨vs, SqL.of st.2⟩, p1.here ⟨by rw [rr.length]; exact z, JOk.lst hK st.st rr⟩ g1⟩
    | sls ps =>
      refine .inr (.inl (TEv.runE s g p fun μ1 a G1 v H1 em' e1 r1 g1 s1 p1 => ?_))
      rw [em] at em'; cases em'
      obtain ⟨b, vs, rfl, z, st, rr⟩ := (show ∃ a vs, v = .ref a ∧ _ from by simpa only [Rep] using r1)
      exact ⟨b, rfl, ⟨vs, by rw [← hK]; exact st.sq⟩, p1.here ⟨by rw [rr.length]; exact z, JOk.lst hK st rr⟩ g1⟩
    | str x =>
      refine .inr (.inr (TEv.runE s g p fun μ1 a G1 v H1 em' e1 r1 g1 s1 p1 => ?_))
      rw [em] at em'; cases em'
      have ev : v = .str x := by simpa only [Rep, RV] using r1
      unfold seqSrc at p1
      by_cases hx : x.length ≤ sizeLine
      · simp only [hx, if_true] at p1
        exact ⟨x, ev, p1.here ⟨by unfold signs; rw [List.length_map]; simpa using (show x.cps.size ≤ sizeLine from hx), JOk.str⟩ g1⟩
      · simp only [hx, if_false] at p1; exact (show False from p1).elim
    | obj n =>
      refine .inr (.inl (TEv.runE s g p fun μ1 a G1 v H1 em' e1 r1 g1 s1 p1 => ?_))
      rw [em] at em'; cases em'
      obtain ⟨b, rfl, hb⟩ := (show ∃ a, v = .ref a ∧ μ1.ob[n]? = some a from by simpa only [Rep] using r1)
      unfold seqSrc at p1
      cases eo : G'[n]? with
      | none => simp only [eo] at p1; exact (show False from p1).elim
      | some o =>
        cases o with
        | lst ps =>
          simp only [eo] at p1
          obtain ⟨vs, q, z, rr⟩ := g1.obj n b _ hb eo
          exact ⟨b, rfl, ⟨vs, SqL.of q⟩, p1.here ⟨by rw [rr.length]; exact z, JOk.obj hK hb⟩ g1⟩
        | _ => simp only [eo] at p1; exact (show False from p1).elim
    | _ => unfold mSeq at p; rw [em] at p; exact (show False from p).elim
/-! ### range -/
def rgIts (lo : Int) (n : Nat) : List PV := (List.range n).map fun (i : Nat) => .int (lo + (i : Int))
theorem JOk.rng {μ : Mu} {H : Hp} {lo : Int} {n : Nat} : JOk F (Itr lo n) μ H ⟨rgIts lo n, fun _ => true⟩ := by
  intro μ1 H1 G1 e g _
  refine ⟨fun i p hp => ?_, by show n ≤ (rgIts lo n).length; simp [rgIts]⟩
  have hi : i < n := by
    have := (List.getElem?_eq_some_iff.mp hp).1
    simpa [rgIts] using this
  have ep : p = .int (lo + (i : Int)) := by
    unfold rgIts at hp
    rw [List.getElem?_map, List.getElem?_range hi] at hp
    exact (Option.some.inj hp).symm
  subst ep
  refine ⟨hi, fun v H' hy => ?_⟩
  obtain ⟨rfl, rfl⟩ := hy
  exact ⟨fun _ _ h => h, by simp only [Rep]⟩
def rgSrc (ps : List PV) (G : GH) : Res Src := match ps with
  | [.int j] => if -(2 ^ 62) ≤ j ∧ j < 2 ^ 62 ∧ j.toNat ≤ sizeLine then .ok ⟨rgIts 0 j.toNat, fun _ => true⟩ G else .bad
  | [.int i, .int j] => if (-(2 ^ 62) ≤ i ∧ i < 2 ^ 62 ∧ -(2 ^ 62) ≤ j ∧ j < 2 ^ 62) ∧ (j - i).toNat ≤ sizeLine then .ok ⟨rgIts i (j - i).toNat, fun _ => true⟩ G else .bad
  | _ => .bad
def mRng (ms : Env → GH → Res (List PV)) : Env → GH → Res Src := fun ρ G => (ms ρ G).bind rgSrc
theorem int_rep {μ : Mu} {H : Hp} {i : Int} {v : V} (r : Rep F μ H (.int i) v) : v = .int i := by simpa only [Rep] using r
theorem ev_rng1 {tg a : Expr} {ms : Env → GH → Res (List PV)} {p pos : Pos} (hg : Gl X "range") (hm : X.mg "range" = none) (ha : PA X [a] (TAv F Ex ms)) (h1 : plainE a = true)
    (hb : ∀ ρ G qs G', ms ρ G = .ok qs G' → qs.length = 1) : PI X tg (.Call (.Name "range" p) [a] [] pos) (TIv F Ex (mRng ms)) :=
  (pi_range1 hg hm ha (star_plain h1)).weak fun σ H R ⟨μ, ρ, G, s, g, q⟩ => by
    refine ⟨μ, ρ, G, s, g, (Post.bind (R := RVs F) q).mono fun vs H1 ⟨μ1, qs, G1, em, e, r, g1, p1⟩ => ?_⟩
    have hl := hb _ _ _ _ em
    match qs, hl, r, p1 with
    | [q1], _, r, p1 =>
      obtain ⟨v, rfl, r1⟩ := Reps.one_inv r
      cases q1 with
      | int j =>
        rw [int_rep r1]
        simp only [rgSrc] at p1
        split at p1
        · rename_i c
          exact ⟨j, rfl, c.1, c.2.1, p1.here ⟨by simpa [rgIts] using c.2.2, JOk.rng⟩ g1⟩
        · exact (show False from p1).elim
      | _ => exact (show False from p1).elim
end
end EV
end
section
set_option Elab.async false
set_option linter.all false
set_option maxRecDepth 100000
/-! Ev6: targets, comprehensions, statements, loops. -/
namespace EV
open PySem PySem.Spec PyProof.Rows L2

theorem Res.bind_assoc {α β γ : Type} (r : Res α) (f : α → GH → Res β) (g : β → GH → Res γ) : (r.bind f).bind g = r.bind fun a G => (f a G).bind g := by cases r <;> rfl
/-- nothing may be raised -/
def noX {α : Type} (r : Res α) : Res α := match r with
  | .exc _ _ _ => .bad
  | r => r
@[simp] theorem noX_ok {α : Type} (a : α) (G : GH) : noX (.ok a G) = .ok a G := rfl
@[simp] theorem noX_bad {α : Type} : noX (.bad : Res α) = .bad := rfl

section
variable {α β γ δ : Type} {F : Fx} {R : RelA α β} {R2 : RelA γ δ} {Ex : XK} {μ μ1 μ2 : Mu} {H H1 H2 : Hp} {G : GH}
theorem Post.bindX {r : Res α} {f : α → GH → Res γ} {Q : δ → Hp → Prop} (h : Post F R2 Ex μ1 H1 ((noX r).bind f) Q) :
    Post F R E0 μ2 H2 r (fun b H3 => ∃ μ3 a G3, r = .ok a G3 ∧ Ext μ2 μ3 H2 H3 ∧ R μ3 H3 a b ∧ HRep F μ3 H3 G3 ∧ Post F R2 Ex μ1 H1 (f a G3) Q) := by
  cases r with
  | ok a G => exact fun μ3 b H3 e x y => ⟨μ3, a, G, rfl, e, x, y, h⟩
  | exc c fs G => exact (show False from h).elim
  | bad => exact h
theorem Post.rel {R' : RelA α β} {r : Res α} {Q : β → Hp → Prop} (w : ∀ μ H a b, R' μ H a b → R μ H a b) (h : Post F R Ex μ H r Q) : Post F R' Ex μ H r Q := by
  cases r with
  | ok a G => exact fun μ' b H' e x y => h μ' b H' e (w _ _ _ _ x) y
  | exc c fs G => exact h
  | bad => exact h
end
theorem SRel.chg {F : Fx} {μ μ' : Mu} {H H' : Hp} {ρ : Env} {σ : L2.St} (c : Chg F μ μ' H H') (s : SRel F μ H ρ σ) : SRel F μ' H' ρ σ :=
  ⟨s.len, fun i p h => let ⟨v, h1, h2⟩ := s.at' i p h; ⟨v, h1, h2.chg c⟩⟩

/-! ### targets -/
def RS (F : Fx) (sl : List Nat) (σ0 : L2.St) : RelA Env L2.St := fun μ H ρ σ => SRel F μ H ρ σ ∧ σ.length = σ0.length ∧ ∀ i, i ∉ sl → σ[i]? = σ0[i]?
def TGv (F : Fx) (Ex : XK) (sl : List Nat) (m : PV → Env → GH → Res Env) : TG := fun v σ H Q => ∃ μ p ρ G, Rep F μ H p v ∧ SRel F μ H ρ σ ∧ HRep F μ H G ∧ Post F (RS F sl σ) Ex μ H (m p ρ G) Q
def TGvs (F : Fx) (Ex : XK) (sl : List Nat) (m : List PV → Env → GH → Res Env) : TGs := fun vs σ H Q => ∃ μ ps ρ G, Reps F μ H ps vs ∧ SRel F μ H ρ σ ∧ HRep F μ H G ∧ Post F (RS F sl σ) Ex μ H (m ps ρ G) Q
theorem _root_.L2.PG.weak {X : Cx} {e : Expr} {t t' : TG} (h : PG X e t) (w : ∀ v σ H Q, t' v σ H Q → t v σ H Q) : PG X e t' := ⟨fun pins s σ H v u Q I r q => h.run pins s σ H v u Q I r (w v σ H Q q)⟩
theorem _root_.L2.PGs.weak {X : Cx} {e : List Expr} {t t' : TGs} (h : PGs X e t) (w : ∀ v σ H Q, t' v σ H Q → t v σ H Q) : PGs X e t' := ⟨fun pins s σ H v u Q I r q => h.run pins s σ H v u Q I r (w v σ H Q q)⟩
theorem _root_.L2.PG.or {X : Cx} {e : Expr} {t t' : TG} (h : PG X e t) (h' : PG X e t') : PG X e (fun v σ H Q => t v σ H Q ∨ t' v σ H Q) := ⟨fun pins s σ H v u Q I r q => q.elim (h.run pins s σ H v u Q I r) (h'.run pins s σ H v u Q I r)⟩
section
variable {X : Cx} {F : Fx} {Ex : XK}
def gN (i : Nat) : PV → Env → GH → Res Env := fun p ρ G => .ok (ρ.set i (some p)) G
theorem ev_gname {i : Nat} {x : Str} {pos : Pos} (hN : X.N.Nodup) (hi : X.N[i]? = some x) (hx : Loc X.env.scope x) (hf : X.fn x = true ∨ X.env.scope.names.lookup x = some .local) : PG X (.Name x pos) (TGv F Ex [i] (gN i)) :=
  (pg_name hN hi hx hf).weak fun v σ H Q ⟨μ, p, ρ, G, r, s, g, q⟩ => q.here ⟨s.set r i, by simp, fun j hj => by
    rw [List.getElem?_set_ne]
    intro e; subst e; exact hj (by simp)⟩ g
def gNilE : List PV → Env → GH → Res Env := fun ps ρ G => match ps with
  | [] => .ok ρ G
  | _ => .bad
def gConsE (m : PV → Env → GH → Res Env) (ms : List PV → Env → GH → Res Env) : List PV → Env → GH → Res Env := fun ps ρ G => match ps with
  | p :: ps => (m p ρ G).bind fun ρ1 G1 => ms ps ρ1 G1
  | [] => .bad
theorem ev_gnil : PGs X [] (TGvs F Ex [] gNilE) := pgs_nil.weak fun vs σ H Q ⟨μ, ps, ρ, G, r, s, g, q⟩ => by
  cases ps with
  | nil => exact ⟨r.nil_inv, q.here ⟨s, rfl, fun _ _ => rfl⟩ g⟩
  | cons _ _ => exact (show False from q).elim
theorem plain_target {e : Expr} {es : List Expr} {env : PySem.Env} (h : plainE e = true) : (assignEach (e :: es) env).map (·.2) = assign e env :: (assignEach es env).map (·.2) := by
  cases e <;> first | rfl | cases h
theorem ev_gcons {e : Expr} {es : List Expr} {sl sl' : List Nat} {m : PV → Env → GH → Res Env} {ms : List PV → Env → GH → Res Env} (hp : plainE e = true) (h1 : PG X e (TGv F Ex sl m)) (h2 : PGs X es (TGvs F Ex sl' ms)) :
    PGs X (e :: es) (TGvs F Ex (sl ++ sl') (gConsE m ms)) := (pgs_cons h1 h2 (plain_target hp)).weak fun vs σ H Q ⟨μ, ps, ρ, G, r, s, g, q⟩ => by
  cases ps with
  | nil => exact (show False from q).elim
  | cons p ps =>
    obtain ⟨v, vr, rfl, r1, rr⟩ := r.cons_inv
    refine ⟨v, vr, rfl, μ, p, ρ, G, r1, s, g, (Post.bind (R := RS F sl σ) q).mono fun σ1 H1 ⟨μ1, ρ1, G1, _, e1, ⟨s1, l1, o1⟩, g1, q1⟩ => ?_⟩
    refine ⟨μ1, ps, ρ1, G1, rr.mono e1, s1, g1, Post.rel (fun μ2 H2 ρ2 σ2 ⟨s2, l2, o2⟩ => ⟨s2, l2.trans l1, fun i hi => ?_⟩) q1⟩
    exact (o2 i fun z => hi (List.mem_append_right _ z)).trans (o1 i fun z => hi (List.mem_append_left _ z))
def gTupE (n : Nat) (ms : List PV → Env → GH → Res Env) : PV → Env → GH → Res Env := fun p ρ G => match p with
  | .tup ps => if ps.length = n then ms ps ρ G else .bad
  | .lst ps => if ps.length = n then ms ps ρ G else .bad
  | .obj k => match G[k]? with
    | some (.lst ps) => if ps.length = n then ms ps ρ G else .bad
    | _ => .bad
  | _ => .bad
theorem assign_len {es : List Expr} {env : PySem.Env} : (assignEach es env).length = es.length := by
  induction es with
  | nil => rfl
  | cons a r ih => cases a <;> (first | (show (assignEach r env).length + 1 = _; rw [ih]; rfl))
theorem assign_nostar {es : List Expr} {env : PySem.Env} (h : es.all plainE = true) : (assignEach es env).findIdx? (·.1) = none := by
  rw [List.findIdx?_eq_none_iff]
  intro x hx
  induction es with
  | nil => cases hx
  | cons a r ih =>
    simp only [List.all_cons, Bool.and_eq_true] at h
    cases a <;> first | (cases h.1; done) | (rcases List.mem_cons.mp hx with rfl | hx <;> first | rfl | exact ih h.2 hx)
theorem ev_gtup {es : List Expr} {k : Nat} {pos : Pos} {sl : List Nat} {ms : List PV → Env → GH → Res Env} (hK : F.K = X.K) (hc : X.calm = true) (hp : es.all plainE = true) (h : PGs X es (TGvs F Ex sl ms)) : PG X (.Tuple es k pos) (TGv F Ex sl (gTupE es.length ms)) :=
  ((pg_tup hc h assign_len (assign_nostar hp)).or (pg_unl hc h assign_len (assign_nostar hp))).weak fun v σ H Q ⟨μ, p, ρ, G, r, s, g, q⟩ => by
    unfold gTupE at q
    cases p with
    | tup ps =>
      simp only [Rep] at r
      obtain ⟨a, vs, rfl, z, st, rr⟩ := r
      by_cases hl : ps.length = es.length
      · simp only [hl, if_true] at q
        exact .inl ⟨a, vs, rfl, by rw [← hK]; exact st.sq, rr.length.symm.trans hl, μ, ps, ρ, G, rr, s, g, q⟩
      · simp only [hl, if_false] at q; exact (show False from q).elim
    | lst ps =>
      simp only [Rep] at r
      obtain ⟨a, vs, rfl, z, st, rr⟩ := r
      by_cases hl : ps.length = es.length
      · simp only [hl, if_true] at q
        exact .inr ⟨a, vs, rfl, SqL.of st.2, rr.length.symm.trans hl, μ, ps, ρ, G, rr, s, g, q⟩
      · simp only [hl, if_false] at q; exact (show False from q).elim
    | obj n =>
      simp only [Rep] at r
      obtain ⟨a, rfl, ha⟩ := r
      cases eo : G[n]? with
      | none => simp only [eo] at q; exact (show False from q).elim
      | some o =>
        cases o with
        | lst ps =>
          simp only [eo] at q
          obtain ⟨vs, q1, z, rr⟩ := g.obj n a _ ha eo
          by_cases hl : ps.length = es.length
          · simp only [hl, if_true] at q
            exact .inr ⟨a, vs, rfl, SqL.of q1, rr.length.symm.trans hl, μ, ps, ρ, G, rr, s, g, q⟩
          · simp only [hl, if_false] at q; exact (show False from q).elim
        | _ => simp only [eo] at q; exact (show False from q).elim
    | _ => exact (show False from q).elim

/-! ### comprehensions -/
def wipeE (ρ : Env) : List Nat → Env
  | [] => ρ
  | v :: vs => (wipeE ρ vs).set v none
theorem SRel.wipe {μ : Mu} {H : Hp} {ρ : Env} {σ : L2.St} (s : SRel F μ H ρ σ) : ∀ vs : List Nat, SRel F μ H (wipeE ρ vs) (wipe σ vs)
  | [] => s
  | v :: vs => by
    have ih := SRel.wipe s vs
    refine ⟨by unfold wipeE L2.wipe; simp [ih.len], fun j q h => ?_⟩
    unfold wipeE at h
    unfold L2.wipe
    by_cases hj : v = j
    · subst hj
      have hl : v < (wipeE ρ vs).length := by
        have := (List.getElem?_eq_some_iff.mp h).1
        simpa using this
      rw [List.getElem?_set_self hl] at h; cases h
    · rw [List.getElem?_set_ne hj] at h
      rw [List.getElem?_set_ne hj]
      exact ih.at' j q h
theorem wipe_in {σ : L2.St} {i : Nat} : ∀ {vs : List Nat}, i ∈ vs → i < σ.length → (wipe σ vs)[i]? = some none
  | [], h, _ => by cases h
  | v :: vs, h, hl => by
    unfold wipe
    by_cases e : v = i
    · subst e
      rw [List.getElem?_set_self (by rw [wipe_length]; exact hl)]
    · rw [List.getElem?_set_ne e]
      exact wipe_in ((List.mem_cons.mp h).resolve_left fun z => e z.symm) hl
theorem wipe_same {σ σ' : L2.St} {vs sl : List Nat} (hl : σ.length = σ'.length) (hs : ∀ i ∈ sl, i ∈ vs) (ho : ∀ i, i ∉ sl → σ[i]? = σ'[i]?) : wipe σ vs = wipe σ' vs := by
  apply List.ext_getElem?
  intro i
  by_cases hi : i ∈ vs
  · by_cases h : i < σ.length
    · rw [wipe_in hi h, wipe_in hi (by rw [← hl]; exact h)]
    · rw [List.getElem?_eq_none (by rw [wipe_length]; omega), List.getElem?_eq_none (by rw [wipe_length]; omega)]
  · rw [wipe_out hi, wipe_out hi]
    exact ho i fun z => hi (hs i z)
theorem wipe_wipe {σ : L2.St} {vs : List Nat} : wipe (wipe σ vs) vs = wipe σ vs := by
  refine wipe_same (sl := vs) (by rw [wipe_length]) (fun _ h => h) fun i hi => wipe_out hi

def loopC (f : PV → GH → Res (Option PV)) (gd : GH → Bool) : List PV → GH → Res (List PV)
  | [], G => if gd G = true then .ok [] G else .bad
  | x :: xs, G => if gd G = true then (f x G).bind fun o G1 => (loopC f gd xs G1).bind fun r G2 => .ok (o.toList ++ r) G2 else .bad
def compF (tg : PV → Env → GH → Res Env) (tt : Env → GH → Res Bool) (el : Env → GH → Res PV) (own : List Nat) (ρ : Env) : PV → GH → Res (Option PV) := fun x G =>
  (noX (tg x (wipeE ρ own) G)).bind fun ρ1 G2 => (noX (tt ρ1 G2)).bind fun b G3 => if b = true then (noX (el ρ1 G3)).bind fun y G4 => .ok (some y) G4 else .ok none G3
def mComp (ob : Bool) (ms : Env → GH → Res Src) (tg : PV → Env → GH → Res Env) (tt : Env → GH → Res Bool) (el : Env → GH → Res PV) (own : List Nat) : Env → GH → Res PV := fun ρ G =>
  (ms ρ G).bind fun S G1 => (loopC (compF tg tt el own ρ) S.gd S.its G1).bind fun ys G5 => if ob = true then .ok (.obj G5.length) (G5 ++ [.lst ys]) else .ok (.lst ys) G5
def mYes : Env → GH → Res Bool := fun _ G => .ok true G
theorem _root_.L2.PTs.weak {X : Cx} {e : List Expr} {t t' : TT} (h : PTs X e t) (w : ∀ σ H Q, t' σ H Q → t σ H Q) : PTs X e t' := ⟨fun pins s σ H Q I q => h.run pins s σ H Q I (w σ H Q q)⟩
theorem ev_yes : PTs X [] (TTv F Ex mYes) := pts_nil.weak fun σ H Q ⟨μ, ρ, G, s, g, p⟩ => p.here rfl g
theorem ev_if1 {c : Expr} {m : Env → GH → Res Bool} (h : PT X c (TTv F Ex m)) : PTs X [c] (TTv F Ex m) := pts_one h

theorem comp_read {ob : Bool} {ms : Env → GH → Res Src} {tg : PV → Env → GH → Res Env} {tt : Env → GH → Res Bool} {el : Env → GH → Res PV} {own sl : List Nat} (hsl : ∀ i ∈ sl, i ∈ own) {σ : L2.St} {H : Hp} {Q : VK}
    (h : TEv F Ex (mComp ob ms tg tt el own) σ H Q) : tLc (TIv F Ex ms) (TGv F E0 sl tg) (TTv F E0 tt) (TEv F E0 el) own σ H Q := by
  obtain ⟨μ, ρ, G, s, g, p⟩ := h
  refine ⟨μ, ρ, G, s, g, (Post.bind (R := RI F) p).mono fun J H1 ⟨μ1, S, G1, _, e1, ⟨hsz, jok⟩, g1, p1⟩ D hD => ?_⟩
  have s1 : SRel F μ1 H1 ρ σ := s.mono e1
  let f := compF tg tt el own ρ
  let fin : List PV → GH → Res PV := fun ys G5 => if ob = true then .ok (.obj G5.length) (G5 ++ [.lst ys]) else .ok (.lst ys) G5
  refine ⟨fun i m H2 => m = S.its.length - i ∧ i ≤ S.its.length ∧ ∃ l G2 accP acc, Ext μ1 ⟨l, μ1.rs⟩ H1 H2 ∧ HRep F ((⟨l, μ1.rs⟩ : Mu).mk1 D) H2 G2 ∧ SRel F ((⟨l, μ1.rs⟩ : Mu).mk1 D) H2 ρ σ ∧ Chg F μ1 ((⟨l, μ1.rs⟩ : Mu).mk1 D) H1 H2 ∧
      H2 D = some (.lst acc) ∧ Reps F ((⟨l, μ1.rs⟩ : Mu).mk1 D) H2 accP acc ∧ acc.length ≤ i ∧ Post F (RV F) Ex μ1 H1 ((loopC f S.gd (S.its.drop i) G2).bind fun ys G5 => fin (accP ++ ys) G5) Q, ?_, ?_⟩
  · refine ⟨S.its.length, by simp, Nat.zero_le _, μ1.ob, G1, [], [], ?_, g1.start hD, s1.chg (Chg.start hD), Chg.start hD, upd_same, .nil, Nat.le_refl _, p1⟩
    exact Ext.upd_new g1 hD
  · rintro i m H2 ⟨rfl, hi, l, G2, accP, acc, e2, g2, s2, c2, hacc, racc, hal, p2⟩
    have hDl : D ∉ l := (g2.res D List.mem_cons_self).1
    have hDr : D ∉ μ1.rs := (g1.fresh hD).2
    have jk := jok ((⟨l, μ1.rs⟩ : Mu).mk1 D) H2 G2 c2 g2
    by_cases hlt : i < S.its.length
    · have hdr : S.its.drop i = S.its[i] :: S.its.drop (i + 1) := List.drop_eq_getElem_cons hlt
      rw [hdr] at p2
      unfold loopC at p2
      by_cases hgd : S.gd G2 = true
      · simp only [hgd, if_true] at p2
        obtain ⟨jgo, jy⟩ := (jk hgd).1 i S.its[i] (List.getElem?_eq_getElem hlt)
        refine .inr ⟨jgo, fun H' => i + 1 ≤ S.its.length ∧ ∃ l G2 accP acc, Ext μ1 ⟨l, μ1.rs⟩ H1 H' ∧ HRep F ((⟨l, μ1.rs⟩ : Mu).mk1 D) H' G2 ∧ SRel F ((⟨l, μ1.rs⟩ : Mu).mk1 D) H' ρ σ ∧ Chg F μ1 ((⟨l, μ1.rs⟩ : Mu).mk1 D) H1 H' ∧
          H' D = some (.lst acc) ∧ Reps F ((⟨l, μ1.rs⟩ : Mu).mk1 D) H' accP acc ∧ acc.length ≤ i + 1 ∧ Post F (RV F) Ex μ1 H1 ((loopC f S.gd (S.its.drop (i + 1)) G2).bind fun ys G5 => fin (accP ++ ys) G5) Q, fun H' q => ⟨S.its.length - (i + 1), by omega, rfl, q.1, q.2⟩, fun x H3 hy => ?_⟩
        obtain ⟨same, rx⟩ := jy x H3 hy
        have e3 : Ext ((⟨l, μ1.rs⟩ : Mu).mk1 D) ((⟨l, μ1.rs⟩ : Mu).mk1 D) H2 H3 := Ext.same same
        have g3 := g2.same same
        rw [Res.bind_assoc] at p2
        have p2' : Post F (RV F) Ex μ1 H1 ((noX (tg S.its[i] (wipeE ρ own) G2)).bind fun ρ1 Ga => ((noX (tt ρ1 Ga)).bind fun b Gb => if b = true then (noX (el ρ1 Gb)).bind fun y Gc => .ok (some y) Gc else .ok none Gb).bind fun o Gd =>
            ((loopC f S.gd (S.its.drop (i + 1)) Gd).bind fun r Ge => .ok (o.toList ++ r) Ge).bind fun ys G5 => fin (accP ++ ys) G5) Q := by
          rw [← Res.bind_assoc]; exact p2
        refine ⟨(⟨l, μ1.rs⟩ : Mu).mk1 D, S.its[i], wipeE ρ own, G2, rx, (s2.mono e3).wipe own, g3, (Post.bindX (R := RS F sl (wipe σ own)) p2').mono fun σ4 H4 ⟨μ4, ρ4, G4, _, e4, ⟨s4, l4, o4⟩, g4, p4⟩ => ⟨?_, ?_⟩⟩
        · have q : wipe σ4 own = wipe (wipe σ own) own := wipe_same l4 hsl o4
          rw [q, wipe_wipe]
        · obtain ⟨ob4, rfl⟩ := Ext.drop1 (μ := ⟨l, μ1.rs⟩) e4
          rw [Res.bind_assoc] at p4
          refine ⟨_, ρ4, G4, s4, g4, (Post.bindX (R := RB) p4).mono fun b H5 ⟨μ5, b', G5, _, e5, rb, g5, p5⟩ => ?_⟩
          cases (show b' = b from rb)
          obtain ⟨ob5, rfl⟩ := Ext.drop1 (μ := ⟨ob4, μ1.rs⟩) e5
          have e25 := (e3.trans e4).trans e5
          cases b with
          | false =>
            rw [if_neg Bool.false_ne_true]
            simp only [Bool.false_eq_true, if_false] at p5
            have hD5 : H5 D = some (.lst acc) := e25.keep D _ hacc (fun _ z => by cases z) hDl
            have c5 : Chg F ((⟨l, μ1.rs⟩ : Mu).mk1 D) ((⟨ob5, μ1.rs⟩ : Mu).mk1 D) H2 H5 := e25.chg
            have u5 : upd H5 D (.lst acc) = H5 := by
              funext b; unfold upd; split
              · rename_i z; rw [z, hD5]
              · rfl
            have st := Ext.step1 (o := .lst acc) hD e2 e25
            rw [u5] at st
            refine ⟨hlt, ob5, G5, accP, acc, st, g5, s2.chg c5, c2.trans c5, hD5, racc.chg c5, by omega, ?_⟩
            simp only [Res.bind_ok] at p5
            rw [Res.bind_assoc] at p5
            exact p5
          | true =>
            rw [if_pos rfl]
            simp only [if_true] at p5
            rw [Res.bind_assoc] at p5
            refine ⟨_, ρ4, G5, s4.mono e5, g5, (Post.bindX (R := RV F) p5).mono fun y H6 ⟨μ6, yp, G6, _, e6, ry, g6, p6⟩ => ?_⟩
            obtain ⟨ob6, rfl⟩ := Ext.drop1 (μ := ⟨ob5, μ1.rs⟩) e6
            have e26 := e25.trans e6
            have hD6 : H6 D = some (.lst acc) := e26.keep D _ hacc (fun _ z => by cases z) hDl
            have c6 : Chg F ((⟨l, μ1.rs⟩ : Mu).mk1 D) ((⟨ob6, μ1.rs⟩ : Mu).mk1 D) H2 (upd H6 D (.lst (acc ++ [y]))) := e26.chg.trans Chg.other
            refine ⟨acc, hD6, by omega, hlt, ob6, G6, accP ++ [yp], acc ++ [y], Ext.step1 hD e2 e26, g6.other, s2.chg c6, c2.trans c6, upd_same, (racc.chg c6).append (.one (Rep.chg Chg.other ry)), by simp; omega, ?_⟩
            simp only [Res.bind_ok] at p6
            rw [Res.bind_assoc] at p6
            have q : ∀ ys, accP ++ (([yp] : List PV) ++ ys) = accP ++ [yp] ++ ys := fun ys => by simp
            simp only [Res.bind_ok, Option.toList, q] at p6
            exact p6
      · simp only [hgd] at p2
        exact (show False from p2).elim
    · have ei : i = S.its.length := by omega
      subst ei
      rw [List.drop_length] at p2
      unfold loopC at p2
      by_cases hgd : S.gd G2 = true
      · simp only [hgd, if_true] at p2
        refine .inl ⟨(jk hgd).2, ?_⟩
        have p3 : Post F (RV F) Ex μ1 H1 (fin (accP ++ []) G2) Q := p2
        rw [List.append_nil] at p3
        have hz : acc.length ≤ sizeLine := Nat.le_trans hal hsz
        cases ob with
        | false =>
          refine (show Post F (RV F) Ex μ1 H1 (.ok (.lst accP) G2) Q from p3).ok e2 ?_ g2.stop
          show Rep F _ _ _ _
          simp only [Rep]
          exact ⟨D, acc, rfl, hz, ⟨⟨hDl, hDr⟩, hacc⟩, racc.chg Chg.stop⟩
        | true =>
          refine (show Post F (RV F) Ex μ1 H1 (.ok (.obj G2.length) (G2 ++ [.lst accP])) Q from p3).ok (μ' := (⟨l, μ1.rs⟩ : Mu).push D) ?_ ?_ (g2.stopO hDr ⟨acc, hacc, hz, racc.chg Chg.stopO⟩)
          · obtain ⟨⟨r, hr⟩, h2, h3, h4⟩ := e2
            have hr : l = μ1.ob ++ r := hr
            refine ⟨⟨r ++ [D], by show l ++ [D] = _; rw [hr]; simp⟩, h2, fun a m n => ?_, h4⟩
            rcases List.mem_append.mp m with q | q
            · exact h3 a q n
            · intro o z _; rw [List.mem_singleton.mp q, hD] at z; cases z
          · show Rep F _ _ _ _
            simp only [Rep]
            refine ⟨D, rfl, ?_⟩
            have : l.length = G2.length := g2.len
            show (l ++ [D])[G2.length]? = some D
            rw [← this]; simp
      · simp only [hgd] at p2
        exact (show False from p2).elim
end
end EV
end
section
set_option Elab.async false
set_option linter.all false
set_option maxRecDepth 100000
/-! Ev7: statements, loops, a def's body. -/
namespace EV
open PySem PySem.Spec PyProof.Rows L2

inductive Fl where
  | next (ρ : Env)
  | ret (p : PV)
  | brk (ρ : Env)
  | cont (ρ : Env)
inductive FlV where
  | next (σ : L2.St)
  | ret (v : V)
  | brk (σ : L2.St)
  | cont (σ : L2.St)
def RF (F : Fx) : RelA Fl FlV := fun μ H f g => match f, g with
  | .next ρ, .next σ => SRel F μ H ρ σ
  | .ret p, .ret v => Rep F μ H p v
  | .brk ρ, .brk σ => SRel F μ H ρ σ
  | .cont ρ, .cont σ => SRel F μ H ρ σ
  | _, _ => False
def SQ (D : Ends) : FlV → Hp → Prop := fun g H => match g with
  | .next σ => D.nx σ H
  | .ret v => D.rt v H
  | .brk σ => D.bk σ H
  | .cont σ => D.ct σ H
def TSv (F : Fx) (Ex : XK) (m : Env → GH → Res Fl) : TS := fun D σ H => ∃ μ ρ G, SRel F μ H ρ σ ∧ HRep F μ H G ∧ Post F (RF F) Ex μ H (m ρ G) (SQ D)
section
variable {X : Cx} {F : Fx} {Ex : XK}
def sNext : Env → GH → Res Fl := fun ρ G => .ok (.next ρ) G
def sSeq (m n : Env → GH → Res Fl) : Env → GH → Res Fl := fun ρ G => (m ρ G).bind fun f G1 => match f with
  | .next ρ1 => n ρ1 G1
  | f => .ok f G1
theorem ev_snil : PSs X [] (TSv F Ex sNext) := pss_nil.weak fun D σ H ⟨μ, ρ, G, s, g, p⟩ => p.here (b := FlV.next σ) s g
theorem ev_scons {st : Stmt} {rest : List Stmt} {m n : Env → GH → Res Fl} (h1 : PS X st (TSv F Ex m)) (h2 : PSs X rest (TSv F Ex n)) : PSs X (st :: rest) (TSv F Ex (sSeq m n)) :=
  (pss_cons h1 h2).weak fun D σ H ⟨μ, ρ, G, s, g, p⟩ => ⟨μ, ρ, G, s, g, (Post.bind (R := RF F) p).mono fun f H1 ⟨μ1, e, G1, _, e1, r, g1, p1⟩ => by
    cases e <;> cases f <;> first | exact (show False from r).elim | exact ⟨μ1, _, G1, r, g1, p1⟩ | exact p1.here (b := FlV.ret _) r g1 | exact p1.here (b := FlV.brk _) r g1 | exact p1.here (b := FlV.cont _) r g1⟩
def sDrop (m : Env → GH → Res PV) : Env → GH → Res Fl := fun ρ G => (m ρ G).bind fun _ G1 => .ok (.next ρ) G1
theorem ev_expr {e : Expr} {pos : Pos} {m : Env → GH → Res PV} (he : PE X e (TEv F Ex m)) (hs : swapsWith e none pos.line X.env = pure false) : PS X (.Expr e pos) (TSv F Ex (sDrop m)) :=
  (ps_expr he hs).weak fun D σ H ⟨μ, ρ, G, s, g, p⟩ => TEv.run s g p fun μ1 a G1 v H1 e1 r1 g1 s1 p1 => p1.here (b := FlV.next σ) s1 g1
def sRet (m : Env → GH → Res PV) : Env → GH → Res Fl := fun ρ G => (m ρ G).bind fun v G1 => .ok (.ret v) G1
theorem ev_ret {e : Expr} {pos : Pos} {m : Env → GH → Res PV} (he : PE X e (TEv F Ex m)) : PS X (.Return (some e) pos) (TSv F Ex (sRet m)) :=
  (ps_ret he).weak fun D σ H ⟨μ, ρ, G, s, g, p⟩ => TEv.run s g p fun μ1 a G1 v H1 e1 r1 g1 s1 p1 => p1.here (b := FlV.ret v) r1 g1
def sIf (c : Env → GH → Res Bool) (m n : Env → GH → Res Fl) : Env → GH → Res Fl := fun ρ G => (c ρ G).bind fun b G1 => if b = true then m ρ G1 else n ρ G1
theorem ev_sif {c : Expr} {a b : List Stmt} {pos : Pos} {mc : Env → GH → Res Bool} {m n : Env → GH → Res Fl} (hc : PT X c (TTv F Ex mc)) (ha : PSs X a (TSv F Ex m)) (hb : PSs X b (TSv F Ex n)) : PS X (.If c a b pos) (TSv F Ex (sIf mc m n)) :=
  (ps_if hc ha hb).weak fun D σ H ⟨μ, ρ, G, s, g, p⟩ => TTv.run s g p fun μ1 b G1 H1 e1 g1 s1 p1 => by
    cases b with
    | true => exact ⟨μ1, ρ, G1, s1, g1, p1⟩
    | false => exact ⟨μ1, ρ, G1, s1, g1, p1⟩
def sAsg (m : Env → GH → Res PV) (t : PV → Env → GH → Res Env) : Env → GH → Res Fl := fun ρ G => (m ρ G).bind fun v G1 => (t v ρ G1).bind fun ρ1 G2 => .ok (.next ρ1) G2
theorem asg_read {te : TE} {m : Env → GH → Res PV} {t : PV → Env → GH → Res Env} {sl : List Nat} {D : Ends} {σ : L2.St} {H : Hp} (w : ∀ Q, TEv F Ex m σ H Q → te σ H Q) (h : TSv F Ex (sAsg m t) D σ H) : tAsg te (TGv F Ex sl t) D σ H := by
  obtain ⟨μ, ρ, G, s, g, p⟩ := h
  refine w _ (TEv.run s g p fun μ1 a G1 v H1 e1 r1 g1 s1 p1 => ⟨μ1, a, ρ, G1, r1, s1, g1, (Post.bind (R := RS F sl σ) p1).mono fun σ2 H2 ⟨μ2, ρ2, G2, _, e2, rs, g2, p2⟩ => ?_⟩)
  exact p2.here (b := FlV.next σ2) rs.1 g2
theorem ev_asg {tg e : Expr} {pos : Pos} {m : Env → GH → Res PV} {t : PV → Env → GH → Res Env} {sl : List Nat} (he : PE X e (TEv F Ex m)) (hg : PG X tg (TGv F Ex sl t)) (hs : swapsWithSole [tg] e pos.line X.env = pure false) (hw : swappedStores [tg] e X.env = pure none)
    (h1 : plainE tg = true) : PS X (.Assign [tg] e pos) (TSv F Ex (sAsg m t)) := (ps_asg he hg hs hw (plain_target h1)).weak fun D σ H h => asg_read (fun Q q => q) h
/-- name = [.. for ..] on one line -/
theorem ev_asgC {i : Nat} {y : Str} {py : Pos} {elt tg iter : Expr} {ifs : List Expr} {scope : Scope} {own : List (Str × Nat)} {pos spos : Pos} {sl : List Nat} {ob : Bool} {ms : Env → GH → Res Src} {t : PV → Env → GH → Res Env} {tt : Env → GH → Res Bool} {el : Env → GH → Res PV}
    (hc : X.calm = true) (hN : X.N.Nodup) (hy : X.N[i]? = some y) (hyl : X.env.scope.names.lookup y = some .local) (hsw : swapsWith (.ListComp elt [⟨tg, iter, ifs, 0⟩] scope pos) (some (.Name y py)) spos.line X.env = pure true)
    (hi : PI X tg iter (TIv F Ex ms)) (ok : BlkOk X.N X.env.scope scope own) (hsl : ∀ i ∈ sl, i ∈ own.map (·.2))
    (hg : ∀ (s : Shared) (H : Hp) (C : Addr) (cl : List (Str × Addr)) (fp : List Addr), PG (X.blk s H scope (compEnvC scope cl C X.env) fp) tg (TGv F E0 sl t))
    (ht : ∀ (s : Shared) (H : Hp) (C : Addr) (cl : List (Str × Addr)) (fp : List Addr), PTs (X.blk s H scope (compEnvC scope cl C X.env) fp) ifs (TTv F E0 tt))
    (he : ∀ (s : Shared) (H : Hp) (C : Addr) (cl : List (Str × Addr)) (fp : List Addr), PE (X.blk s H scope (compEnvC scope cl C X.env) fp) elt (TEv F E0 el)) (hs : ∀ x, foldedSetIterable iter X.env x = pure x) :
    PS X (.Assign [.Name y py] (.ListComp elt [⟨tg, iter, ifs, 0⟩] scope pos) spos) (TSv F Ex (sAsg (mComp ob ms t tt el (own.map (·.2))) (gN i))) :=
  (ps_setLc hc hN hy hyl hsw hi ok hg ht he hs).weak fun D σ H h => by
    obtain ⟨μ, ρ, G, s, g, p⟩ := h
    refine comp_read (ob := ob) hsl (Q := fun x H1 => gName i x σ H1 D.nx) ?_
    exact TEv.run s g p fun μ1 a G1 v H1 e1 r1 g1 s1 p1 => p1.here (b := FlV.next _) (s1.set r1 i) g1
theorem ev_comp {elt tg iter : Expr} {ifs : List Expr} {scope : Scope} {own : List (Str × Nat)} {pos : Pos} {sl : List Nat} {ob : Bool} {ms : Env → GH → Res Src} {t : PV → Env → GH → Res Env} {tt : Env → GH → Res Bool} {el : Env → GH → Res PV}
    (hc : X.calm = true) (hN : X.N.Nodup) (hi : PI X tg iter (TIv F Ex ms)) (ok : BlkOk X.N X.env.scope scope own) (hsl : ∀ i ∈ sl, i ∈ own.map (·.2))
    (hg : ∀ (s : Shared) (H : Hp) (C : Addr) (cl : List (Str × Addr)) (fp : List Addr), PG (X.blk s H scope (compEnvC scope cl C X.env) fp) tg (TGv F E0 sl t))
    (ht : ∀ (s : Shared) (H : Hp) (C : Addr) (cl : List (Str × Addr)) (fp : List Addr), PTs (X.blk s H scope (compEnvC scope cl C X.env) fp) ifs (TTv F E0 tt))
    (he : ∀ (s : Shared) (H : Hp) (C : Addr) (cl : List (Str × Addr)) (fp : List Addr), PE (X.blk s H scope (compEnvC scope cl C X.env) fp) elt (TEv F E0 el)) (hs : ∀ x, foldedSetIterable iter X.env x = pure x) :
    PE X (.ListComp elt [⟨tg, iter, ifs, 0⟩] scope pos) (TEv F Ex (mComp ob ms t tt el (own.map (·.2)))) := (pe_lc hc hN hi ok hg ht he hs).weak fun σ H Q h => comp_read hsl h

/-! ### for -/
def loopF (f : PV → Env → GH → Res Fl) (gd : GH → Bool) : List PV → Env → GH → Res Fl
  | [], ρ, G => if gd G = true then .ok (.next ρ) G else .bad
  | x :: xs, ρ, G => if gd G = true then (f x ρ G).bind fun fl G1 => match fl with
    | .next ρ1 => loopF f gd xs ρ1 G1
    | .cont ρ1 => loopF f gd xs ρ1 G1
    | .brk ρ1 => .ok (.next ρ1) G1
    | .ret v => .ok (.ret v) G1
    else .bad
def sFor (ms : Env → GH → Res Src) (t : PV → Env → GH → Res Env) (b : Env → GH → Res Fl) : Env → GH → Res Fl := fun ρ G => (ms ρ G).bind fun S G1 => loopF (fun x ρ G => (t x ρ G).bind b) S.gd S.its ρ G1
theorem ev_for {tg iter : Expr} {body : List Stmt} {pos : Pos} {sl : List Nat} {ms : Env → GH → Res Src} {t : PV → Env → GH → Res Env} {b : Env → GH → Res Fl} (hp : PassesOwn (model X.prog X.w) X.A X.env X.xe) (hc : X.calm = true)
    (hi : PI X tg iter (TIv F Ex ms)) (hg : PG X tg (TGv F Ex sl t)) (hb : PSs X body (TSv F Ex b)) (hs : ∀ x, foldedSetIterable iter X.env x = pure x) : PS X (.For tg iter body [] pos) (TSv F Ex (sFor ms t b)) :=
  (ps_for hp hc hi hg hb hs).weak fun D σ H ⟨μ, ρ, G, s, g, p⟩ => by
    refine ⟨μ, ρ, G, s, g, (Post.bind (R := RI F) p).mono fun J H1 ⟨μ1, S, G1, _, e1, ⟨hsz, jok⟩, g1, p1⟩ => ?_⟩
    let f : PV → Env → GH → Res Fl := fun x ρ G => (t x ρ G).bind b
    refine ⟨fun i m σ2 H2 => m = S.its.length - i ∧ i ≤ S.its.length ∧ ∃ μ2 ρ2 G2, Chg F μ1 μ2 H1 H2 ∧ SRel F μ2 H2 ρ2 σ2 ∧ HRep F μ2 H2 G2 ∧ Post F (RF F) Ex μ2 H2 (loopF f S.gd (S.its.drop i) ρ2 G2) (SQ D), ?_, ?_⟩
    · exact ⟨S.its.length, by simp, Nat.zero_le _, μ1, ρ, G1, Chg.refl, s.mono e1, g1, p1⟩
    · rintro i m σ2 H2 ⟨rfl, hi, μ2, ρ2, G2, c2, s2, g2, p2⟩
      have jk := jok μ2 H2 G2 c2 g2
      by_cases hlt : i < S.its.length
      · have hdr : S.its.drop i = S.its[i] :: S.its.drop (i + 1) := List.drop_eq_getElem_cons hlt
        rw [hdr] at p2
        unfold loopF at p2
        by_cases hgd : S.gd G2 = true
        · simp only [hgd, if_true] at p2
          obtain ⟨jgo, jy⟩ := (jk hgd).1 i S.its[i] (List.getElem?_eq_getElem hlt)
          refine .inr ⟨jgo, fun σ' H' => i + 1 ≤ S.its.length ∧ ∃ μ2 ρ2 G2, Chg F μ1 μ2 H1 H' ∧ SRel F μ2 H' ρ2 σ' ∧ HRep F μ2 H' G2 ∧ Post F (RF F) Ex μ2 H' (loopF f S.gd (S.its.drop (i + 1)) ρ2 G2) (SQ D), fun σ' H' q => ⟨S.its.length - (i + 1), by omega, rfl, q.1, q.2⟩, fun x H3 hy => ?_⟩
          obtain ⟨same, rx⟩ := jy x H3 hy
          have e3 : Ext μ2 μ2 H2 H3 := Ext.same same
          have p3 : Post F (RF F) Ex μ2 H3 (((t S.its[i] ρ2 G2).bind b).bind fun fl G1 => match fl with
            | .next ρ1 => loopF f S.gd (S.its.drop (i + 1)) ρ1 G1
            | .cont ρ1 => loopF f S.gd (S.its.drop (i + 1)) ρ1 G1
            | .brk ρ1 => .ok (.next ρ1) G1
            | .ret v => .ok (.ret v) G1) (SQ D) := Post.shift e3 p2
          rw [Res.bind_assoc] at p3
          refine ⟨μ2, S.its[i], ρ2, G2, rx, s2.mono e3, g2.same same, (Post.bind (R := RS F sl σ2) p3).mono fun σ4 H4 ⟨μ4, ρ4, G4, _, e4, rs, g4, p4⟩ => ?_⟩
          refine ⟨μ4, ρ4, G4, rs.1, g4, (Post.bind (R := RF F) p4).mono fun fl H5 ⟨μ5, ev, G5, _, e5, r5, g5, p5⟩ => ?_⟩
          have c5 : Chg F μ1 μ5 H1 H5 := c2.trans ((e3.trans e4).trans e5).chg
          cases ev <;> cases fl <;> first | exact (show False from r5).elim | exact ⟨hlt, μ5, _, G5, c5, r5, g5, p5⟩ | exact p5.here (b := FlV.ret _) r5 g5 | exact p5.here (b := FlV.next _) r5 g5
        · simp only [hgd] at p2
          exact (show False from p2).elim
      · have ei : i = S.its.length := by omega
        subst ei
        rw [List.drop_length] at p2
        unfold loopF at p2
        by_cases hgd : S.gd G2 = true
        · simp only [hgd, if_true] at p2
          exact .inl ⟨(jk hgd).2, p2.here (b := FlV.next σ2) s2 g2⟩
        · simp only [hgd] at p2
          exact (show False from p2).elim
/-! ### while, at most n turns -/
def loopW (c : Env → GH → Res Bool) (b : Env → GH → Res Fl) : Nat → Env → GH → Res Fl
  | 0, _, _ => .bad
  | n + 1, ρ, G => (c ρ G).bind fun k G1 => if k = true then (b ρ G1).bind fun fl G2 => match fl with
    | .next ρ1 => loopW c b n ρ1 G2
    | .cont ρ1 => loopW c b n ρ1 G2
    | .brk ρ1 => .ok (.next ρ1) G2
    | .ret v => .ok (.ret v) G2
    else .ok (.next ρ) G1
theorem ev_while {c : Expr} {body : List Stmt} {pos : Pos} {n : Nat} {mc : Env → GH → Res Bool} {b : Env → GH → Res Fl} (hp : PassesOwn (model X.prog X.w) X.A X.env X.xe)
    (hc : PT X c (TTv F Ex mc)) (hb : PSs X body (TSv F Ex b)) : PS X (.While c body [] pos) (TSv F Ex (loopW mc b n)) :=
  (ps_while hp hc hb).weak fun D σ H ⟨μ, ρ, G, s, g, p⟩ => by
    refine ⟨fun m σ2 H2 => ∃ μ2 ρ2 G2, SRel F μ2 H2 ρ2 σ2 ∧ HRep F μ2 H2 G2 ∧ Post F (RF F) Ex μ2 H2 (loopW mc b m ρ2 G2) (SQ D), ⟨n, μ, ρ, G, s, g, p⟩, ?_⟩
    rintro m σ2 H2 ⟨μ2, ρ2, G2, s2, g2, p2⟩
    cases m with
    | zero => exact (show False from p2).elim
    | succ m =>
      refine TTv.run s2 g2 p2 fun μ3 k G3 H3 e3 g3 s3 p3 => ?_
      cases k with
      | false => exact p3.here (b := FlV.next σ2) s3 g3
      | true =>
        refine ⟨fun σ' H' => ∃ μ2 ρ2 G2, SRel F μ2 H' ρ2 σ' ∧ HRep F μ2 H' G2 ∧ Post F (RF F) Ex μ2 H' (loopW mc b m ρ2 G2) (SQ D), fun σ' H' q => ⟨m, Nat.lt_succ_self _, q⟩, ?_⟩
        refine ⟨μ3, ρ2, G3, s3, g3, (Post.bind (R := RF F) p3).mono fun fl H5 ⟨μ5, ev, G5, _, e5, r5, g5, p5⟩ => ?_⟩
        cases ev <;> cases fl <;> first | exact (show False from r5).elim | exact ⟨μ5, _, G5, r5, g5, p5⟩ | exact p5.here (b := FlV.ret _) r5 g5 | exact p5.here (b := FlV.next _) r5 g5

/-! ### o[i] = e -/
def sSet (me mo mi : Env → GH → Res PV) (f : List PV → GH → Res Unit) : Env → GH → Res Fl := fun ρ G => (me ρ G).bind fun v G1 => (mo ρ G1).bind fun o G2 => (mi ρ G2).bind fun i G3 => (f [o, i, v] G3).bind fun _ G4 => .ok (.next ρ) G4
def RdSet (F : Fx) (Ex : XK) (f : List PV → GH → Res Unit) : TSet := fun o i v H Q => ∃ μ ps G, Reps F μ H ps [o, i, v] ∧ HRep F μ H G ∧ Post F (R := fun (_ : Mu) (_ : Hp) (_ : Unit) (_ : Unit) => True) Ex μ H (f ps G) (fun _ H' => Q H')
theorem ev_set {o i e : Expr} {tpos pos : Pos} {me mo mi : Env → GH → Res PV} {f : List PV → GH → Res Unit} (he : PE X e (TEv F Ex me)) (ho : PE X o (TEv F Ex mo)) (hi : PE X i (TEv F Ex mi)) (hf : PSet X (RdSet F Ex f))
    (hs : swapsWithSole [.Subscript o i tpos] e pos.line X.env = pure false) (hw : swappedStores [.Subscript o i tpos] e X.env = pure none)
    (ha : ∀ v, assign (.Subscript o i tpos) X.env v = (do
      let ov ← holding [v] (eval o X.env)
      let iv ← holding [v, ov] (eval i X.env)
      standAt tpos
      holding [v, ov, iv] (setItem ov iv v)
      release [v, ov, iv] [])) : PS X (.Assign [.Subscript o i tpos] e pos) (TSv F Ex (sSet me mo mi f)) :=
  (ps_asg he (pg_sub ho hi hf ha) hs hw).weak fun D σ H ⟨μ, ρ, G, s, g, p⟩ => by
    refine TEv.run s g p fun μ1 a G1 v H1 e1 r1 g1 s1 p1 => ?_
    refine TEv.run s1 g1 p1 fun μ2 b G2 w H2 e2 r2 g2 s2 p2 => ?_
    refine TEv.run s2 g2 p2 fun μ3 c G3 u H3 e3 r3 g3 s3 p3 => ?_
    refine ⟨μ3, [b, c, a], G3, .cons (r2.mono e3) (.cons r3 (.one ((r1.mono e2).mono e3))), g3, (Post.bind (R := fun (_ : Mu) (_ : Hp) (_ : Unit) (_ : Unit) => True) p3).mono fun _ H4 ⟨μ4, _, G4, _, e4, _, g4, p4⟩ => ?_⟩
    exact p4.here (b := FlV.next σ) (s3.mono e4) g4
/-- x, y = a, b with plain locals -/
def sPar (i j : Nat) (ms : Env → GH → Res (List PV)) : Env → GH → Res Fl := fun ρ G => (ms ρ G).bind fun ps G1 => match ps with
  | [p, q] => .ok (.next ((ρ.set i (some p)).set j (some q))) G1
  | _ => .bad
theorem ev_par {i j : Nat} {x y : Str} {a b : Expr} {ms : Env → GH → Res (List PV)} {px py pt pos : Pos} {kt k2 : Nat} {pt2 : Pos} (hc : X.calm = true) (hN : X.N.Nodup) (hi : X.N[i]? = some x) (hj : X.N[j]? = some y) (hij : i ≠ j)
    (hx : X.env.scope.names.lookup x = some .local) (hy : X.env.scope.names.lookup y = some .local) (ha : PA X [a, b] (TAv F Ex ms)) (hw : swappedStores [.Tuple [.Name x px, .Name y py] kt pt] (.Tuple [a, b] k2 pt2) X.env = pure (some [x, y]))
    (hs : swapsWithSole [.Tuple [.Name x px, .Name y py] kt pt] (.Tuple [a, b] k2 pt2) pos.line X.env = pure false) : PS X (.Assign [.Tuple [.Name x px, .Name y py] kt pt] (.Tuple [a, b] k2 pt2) pos) (TSv F Ex (sPar i j ms)) :=
  (ps_par hc hN hi hj hij hx hy ha hw hs).weak fun D σ H ⟨μ, ρ, G, s, g, p⟩ => TAv.run s g p fun μ1 ps G1 vs H1 e1 r1 g1 s1 p1 => by
    match ps, r1, p1 with
    | [p, q], r1, p1 =>
      obtain ⟨v, w, rfl, ra, rb⟩ := Reps.two_inv r1
      exact ⟨v, w, rfl, p1.here (b := FlV.next _) ((s1.set ra i).set rb j) g1⟩
    | [], r1, p1 => exact (show False from p1).elim
    | [_], r1, p1 => exact (show False from p1).elim
    | _ :: _ :: _ :: _, r1, p1 => exact (show False from p1).elim

/-! ### a def's body -/
/-- what a body gives back -/
def bodyEnd (f : Fl) (G : GH) : Res PV := match f with
  | .ret p => .ok p G
  | .next _ => .ok .non G
  | _ => .bad
def env0 (n : Nat) (ps : List PV) : Env := ps.map some ++ List.replicate (n - ps.length) none
theorem srel0 {μ : Mu} {H : Hp} {ps : List PV} {vs : List V} (r : Reps F μ H ps vs) (N : List Str) : SRel F μ H (env0 N.length ps) (start N vs) := by
  refine ⟨by unfold env0 L2.start; simp [r.length], fun i p h => ?_⟩
  unfold env0 at h
  unfold L2.start
  by_cases hi : i < ps.length
  · rw [List.getElem?_append_left (by simpa using hi), List.getElem?_map] at h
    cases e : ps[i]? with
    | none => rw [e] at h; cases h
    | some q =>
      rw [e] at h
      cases h
      obtain ⟨v, h1, h2⟩ := r.get e
      refine ⟨v, ?_, h2⟩
      rw [List.getElem?_append_left (by rw [List.length_map, ← r.length]; exact hi), List.getElem?_map, h1]
      rfl
  · rw [List.getElem?_append_right (by simpa using hi), List.getElem?_replicate] at h
    split at h <;> cases h
theorem body_read {m : Env → GH → Res Fl} {N : List Str} {vs : List V} {H : Hp} {Q : VK} (h : RdV F Ex (fun ps G => (m (env0 N.length ps) G).bind bodyEnd) vs H Q) : TSv F Ex m { nx := fun _ H' => Q .non H', rt := Q } (start N vs) H := by
  obtain ⟨μ, ps, G, r, g, p⟩ := h
  refine ⟨μ, env0 N.length ps, G, srel0 r N, g, (Post.bind (R := RF F) p).mono fun fl H1 ⟨μ1, ev, G1, _, e1, r1, g1, p1⟩ => ?_⟩
  cases ev <;> cases fl <;> first | exact (show False from r1).elim | exact p1.here r1 g1 | exact p1.here (show Rep F μ1 H1 .non .non by simp only [Rep]) g1 | exact (show False from p1).elim
end
end EV
end
section
set_option Elab.async false
set_option linter.all false
set_option maxRecDepth 100000
/-! Ev8: operators by values. -/
namespace EV
open PySem PySem.Spec PyProof.Rows L2
section
variable {X : Cx} {F : Fx} {Ex : XK} {μ : Mu} {H : Hp} {G : GH}
/-- one more tuple, one more list (values) -/
theorem Post.tup {ps : List PV} {vs : List V} {Q : VK} (h : Post F (RV F) Ex μ H (.ok (.tup ps) G) Q) (g : HRep F μ H G) (r : Reps F μ H ps vs) (z : vs.length ≤ sizeLine) : NewT H vs Q := fun p o n d => by
  refine h.ok (Ext.upd_new g n) ?_ (g.upd_new n)
  show Rep F μ _ _ _
  simp only [Rep]
  exact ⟨p, vs, rfl, z, .inl ⟨g.fresh n, o, upd_same, d⟩, r.mono (Ext.upd_new g n)⟩
theorem Post.lst {ps : List PV} {vs : List V} {Q : VK} (h : Post F (RV F) Ex μ H (.ok (.lst ps) G) Q) (g : HRep F μ H G) (r : Reps F μ H ps vs) (z : vs.length ≤ sizeLine) : ∀ p, H p = none → Q (.ref p) (upd H p (.lst vs)) := fun p n => by
  refine h.ok (Ext.upd_new g n) ?_ (g.upd_new n)
  show Rep F μ _ _ _
  simp only [Rep]
  exact ⟨p, vs, rfl, z, ⟨g.fresh n, upd_same⟩, r.mono (Ext.upd_new g n)⟩
theorem rep_int {i : Int} {v : V} (r : Rep F μ H (.int i) v) : v = .int i := by simpa only [Rep] using r
theorem rep_bl {i : Bool} {v : V} (r : Rep F μ H (.bl i) v) : v = .bl i := by simpa only [Rep] using r
theorem rep_str {i : Str} {v : V} (r : Rep F μ H (.str i) v) : v = .str i := by simpa only [Rep] using r
theorem rep_non {v : V} (r : Rep F μ H .non v) : v = .non := by simpa only [Rep] using r
theorem rep_tup {ps : List PV} {v : V} (r : Rep F μ H (.tup ps) v) : ∃ a vs, v = .ref a ∧ vs.length ≤ sizeLine ∧ StT F μ H a vs ∧ Reps F μ H ps vs := by simpa only [Rep] using r
theorem rep_lst {ps : List PV} {v : V} (r : Rep F μ H (.lst ps) v) : ∃ a vs, v = .ref a ∧ vs.length ≤ sizeLine ∧ StX μ H a vs ∧ Reps F μ H ps vs := by simpa only [Rep] using r
theorem rep_sls {ps : List PV} {v : V} (r : Rep F μ H (.sls ps) v) : ∃ a vs, v = .ref a ∧ vs.length ≤ sizeLine ∧ StL F μ H a vs ∧ Reps F μ H ps vs := by simpa only [Rep] using r
theorem rep_obj {n : Nat} {v : V} (r : Rep F μ H (.obj n) v) : ∃ a, v = .ref a ∧ μ.ob[n]? = some a := by simpa only [Rep] using r
theorem RV.int {i : Int} : RV F μ H (.int i) (.int i) := by simp only [RV, Rep]
theorem RV.bl {i : Bool} : RV F μ H (.bl i) (.bl i) := by simp only [RV, Rep]
theorem RV.str {i : Str} : RV F μ H (.str i) (.str i) := by simp only [RV, Rep]
theorem RV.non : RV F μ H .non .non := by simp only [RV, Rep]
/-- a list of ours, or a list value: what stands there -/
def asL (p : PV) (G : GH) : Option (List PV) := match p with
  | .lst ps => some ps
  | .sls ps => some ps
  | .obj n => match G[n]? with
    | some (.lst ps) => some ps
    | _ => none
  | _ => none
theorem asL_rep {p : PV} {ps : List PV} {v : V} (e : asL p G = some ps) (r : Rep F μ H p v) (g : HRep F μ H G) : ∃ a vs, v = .ref a ∧ vs.length ≤ sizeLine ∧ SqL F.K H a vs ∧ Reps F μ H ps vs := by
  unfold asL at e
  split at e
  · cases e
    obtain ⟨a, vs, e1, z, st, rr⟩ := rep_lst r
    exact ⟨a, vs, e1, z, SqL.of st.2, rr⟩
  · cases e
    obtain ⟨a, vs, e1, z, st, rr⟩ := rep_sls r
    exact ⟨a, vs, e1, z, st.sq, rr⟩
  · rename_i n
    obtain ⟨a, e1, ha⟩ := rep_obj r
    split at e
    · rename_i qs eo
      cases e
      obtain ⟨vs, q, z, rr⟩ := g.obj n a _ ha eo
      exact ⟨a, vs, e1, z, SqL.of q, rr⟩
    · cases e
  · cases e

/-! ### + -/
def opAdd (ps : List PV) (G : GH) : Res PV := match ps with
  | [.int i, .int j] => .ok (.int (i + j)) G
  | [.str x, .str y] => if x.length + y.length ≤ sizeLine then .ok (.str (x ++ y)) G else .bad
  | [.tup a, .tup b] => if a.length + b.length ≤ sizeLine then .ok (.tup (a ++ b)) G else .bad
  | [x, y] => match asL x G, asL y G with
    | some a, some b => if a.length + b.length ≤ sizeLine then .ok (.lst (a ++ b)) G else .bad
    | _, _ => .bad
  | _ => .bad
theorem cat_lists {prog : Program} {w : World} {A : Around} {E : Value → Shared → Prop} {s : Shared} {l b : Addr} {vs ws : List Value} {Q : Value → Shared → Prop} (hl : s.heap.IsList l vs.toArray) (hb : s.heap.IsList b ws.toArray)
    (h : Q (.ref s.heap.objs.size) { s with heap := s.heap.push { cls := .type "list", data := .seq (vs ++ ws).toArray } }) (hz : vs.length + ws.length ≤ sizeLine) : wpAny (model prog w) A (binaryOp .Add (.ref l) (.ref b)) Q E s := by
  obtain ⟨⟨c1, d1, x1, s1⟩, ho, hc, n, hd⟩ := id hl
  obtain ⟨⟨c2, d2, x2, s2⟩, ho2, hc2, n2, hd2⟩ := id hb
  simp only at hc hd hc2 hd2
  subst hc hd hc2 hd2
  have e : vs.toArray ++ ws.toArray = (vs ++ ws).toArray := by simp
  refine concat_meets ⟨_, ho, rfl⟩ ⟨_, ho2, rfl⟩ noFill_list_add seq_list_add PySem.F.slot_list_add PySem.F.entry_list_add (PySem.F.args_list_add_2 _ _) (list_addW l b vs.toArray ws.toArray n n2 d1 d2 s1 s2 (by simpa using hz)) ⟨ho, ho2, ?_⟩
  rw [e]
  exact h
theorem op_catS : OpR X (binaryOp .Add) (fun x y H Q => ∃ a b xs ys, x = .ref a ∧ y = .ref b ∧ SqL X.K H a xs ∧ SqL X.K H b ys ∧ xs.length + ys.length ≤ sizeLine ∧ ∀ p, H p = none → Q (.ref p) (upd H p (.lst (xs ++ ys)))) := by
  intro pins s σ H x y v u Q I rx ry h
  obtain ⟨a, b, xs, ys, rfl, rfl, ha, hb, hz, q⟩ := h
  cases rx
  cases ry
  obtain ⟨its, r1, p1, _⟩ := I.list ha
  obtain ⟨its2, r2, p2, _⟩ := I.list hb
  refine cat_lists p1.isList p2.isList ?_ (by rw [← r1.length, ← r2.length]; exact hz)
  exact ⟨.ref _, _, I.lnew (t' := s.toks) (r1.append r2) (by rw [List.length_append]; exact hz), rfl, q _ I.fresh⟩
theorem opAdd_ok (hK : F.K = X.K) : OpR X (binaryOp .Add) (OpV F Ex opAdd) := by
  intro pins s σ H x y v u Q I rx ry ⟨μ, ps, G, r, g, p⟩
  unfold opAdd at p
  split at p
  · obtain ⟨_, _, e, r1, r2⟩ := Reps.two_inv r
    cases e
    exact op_add pins s σ H _ _ v u Q I rx ry ⟨_, _, rep_int r1, rep_int r2, p.here RV.int g⟩
  · obtain ⟨_, _, e, r1, r2⟩ := Reps.two_inv r
    cases e
    split at p
    · rename_i hz
      exact op_add_str pins s σ H _ _ v u Q I rx ry ⟨_, _, rep_str r1, rep_str r2, hz, p.here RV.str g⟩
    · exact (show False from p).elim
  · obtain ⟨_, _, e, r1, r2⟩ := Reps.two_inv r
    cases e
    split at p
    · rename_i hz
      obtain ⟨a, vs, e1, z1, st1, rr1⟩ := rep_tup r1
      obtain ⟨b, ws, e2, z2, st2, rr2⟩ := rep_tup r2
      have l1 := rr1.length
      have l2 := rr2.length
      refine op_catF pins s σ H _ _ v u Q I rx ry ⟨a, b, vs, ws, e1, e2, by rw [← hK]; exact st1.sq, by rw [← hK]; exact st2.sq, by omega, fun h0 => ?_, fun _ h0 => ?_, fun _ _ => p.tup g (rr1.append rr2) (by rw [List.length_append]; omega)⟩
      · rw [h0] at l1
        have := List.eq_nil_of_length_eq_zero l1
        rw [this, List.nil_append] at p
        rw [← e2]
        exact p.here r2 g
      · rw [h0] at l2
        have := List.eq_nil_of_length_eq_zero l2
        rw [this, List.append_nil] at p
        rw [← e1]
        exact p.here r1 g
    · exact (show False from p).elim
  · obtain ⟨_, _, e, r1, r2⟩ := Reps.two_inv r
    cases e
    split at p
    · rename_i ea eb
      split at p
      · rename_i hz
        obtain ⟨a, vs, e1, z1, st1, rr1⟩ := asL_rep ea r1 g
        obtain ⟨b, ws, e2, z2, st2, rr2⟩ := asL_rep eb r2 g
        have l1 := rr1.length
        have l2 := rr2.length
        exact op_catS pins s σ H _ _ v u Q I rx ry ⟨a, b, vs, ws, e1, e2, by rw [← hK]; exact st1, by rw [← hK]; exact st2, by omega, p.lst g (rr1.append rr2) (by rw [List.length_append]; omega)⟩
      · exact (show False from p).elim
    · exact (show False from p).elim
  · exact (show False from p).elim
/-! ### the other operators on ints -/
def opII (C : Int → Int → Bool) (f : Int → Int → PV) (ps : List PV) (G : GH) : Res PV := match ps with
  | [.int i, .int j] => if C i j = true then .ok (f i j) G else .bad
  | _ => .bad
theorem opII_ok {op : Value → Value → Sem Value} {C : Int → Int → Bool} {D : Int → Int → Prop} {f : Int → Int → PV} {fv : Int → Int → V} (ho : OpR X op (rI D fv)) (hD : ∀ i j, C i j = true → D i j) (hf : ∀ i j μ H, RV F μ H (f i j) (fv i j)) : OpR X op (OpV F Ex (opII C f)) := by
  intro pins s σ H x y v u Q I rx ry ⟨μ, ps, G, r, g, p⟩
  unfold opII at p
  split at p
  · obtain ⟨_, _, e, r1, r2⟩ := Reps.two_inv r
    cases e
    split at p
    · rename_i hc
      exact ho pins s σ H _ _ v u Q I rx ry ⟨_, _, rep_int r1, rep_int r2, hD _ _ hc, p.here (hf _ _ _ _) g⟩
    · exact (show False from p).elim
  · exact (show False from p).elim
theorem rI_of {op : Value → Value → Sem Value} {fv : Int → Int → V} (ho : OpR X op (rI0 fv)) : OpR X op (rI (fun _ _ => True) fv) := fun pins s σ H x y v u Q I rx ry ⟨i, j, e1, e2, _, q⟩ => ho pins s σ H x y v u Q I rx ry ⟨i, j, e1, e2, q⟩
def opSub := opII (fun _ _ => true) fun i j => .int (i - j)
def opMod := opII (fun _ j => decide (j ≠ 0)) fun i j => .int (i.fmod j)
def opDiv := opII (fun _ j => decide (j ≠ 0 ∧ j.natAbs < 1073741824)) fun i j => .int (i.fdiv j)
def opPow := opII (fun i j => decide (0 ≤ j ∧ j ≤ 1000000 ∧ i.natAbs < 2 ^ 64)) fun i j => .int (i ^ j.toNat)
theorem opSub_ok : OpR X (binaryOp .Sub) (OpV F Ex opSub) := opII_ok (rI_of op_sub) (fun _ _ _ => trivial) fun _ _ _ _ => RV.int
theorem opMod_ok : OpR X (binaryOp .Mod) (OpV F Ex opMod) := opII_ok op_modN (fun _ _ h => of_decide_eq_true h) fun _ _ _ _ => RV.int
theorem opDiv_ok : OpR X (binaryOp .FloorDiv) (OpV F Ex opDiv) := opII_ok op_fdivN (fun i j h => (show j ≠ 0 ∧ j.natAbs < 1073741824 from of_decide_eq_true h)) fun _ _ _ _ => RV.int
theorem opPow_ok : OpR X (binaryOp .Pow) (OpV F Ex opPow) := opII_ok op_pow (fun i j h => (show 0 ≤ j ∧ j ≤ 1000000 ∧ i.natAbs < 2 ^ 64 from of_decide_eq_true h)) fun _ _ _ _ => RV.int
/-! ### times -/
def repS (x : Str) (k : Nat) : Str := ⟨(List.replicate k x.cps).foldl (· ++ ·) #[]⟩
def opMul (ps : List PV) (G : GH) : Res PV := match ps with
  | [.int i, .int j] => if (-(2 ^ 64) < i ∧ i < 2 ^ 64) ∨ (-(2 ^ 64) < j ∧ j < 2 ^ 64) then .ok (.int (i * j)) G else .bad
  | [.str x, .int j] => if 2 ≤ j ∧ j ≤ 1000 ∧ 0 < x.length ∧ x.length ≤ 1000 then .ok (.str (repS x j.toNat)) G else .bad
  | [.tup a, .int j] => if 2 ≤ j ∧ j ≤ 1000 ∧ a.length ≤ 1000 then .ok (.tup (List.replicate j.toNat a).flatten) G else .bad
  | _ => .bad
theorem Reps.rep {ps : List PV} {vs : List V} (r : Reps F μ H ps vs) : ∀ k : Nat, Reps F μ H (List.replicate k ps).flatten (List.replicate k vs).flatten
  | 0 => .nil
  | k + 1 => by
    rw [List.replicate_succ, List.flatten_cons, List.replicate_succ, List.flatten_cons]
    exact r.append (Reps.rep r k)
theorem foldl_app_size (x : Array Nat) : ∀ (k : Nat) (a : Array Nat), ((List.replicate k x).foldl (· ++ ·) a).size = a.size + k * x.size
  | 0, a => by simp
  | k + 1, a => by
    rw [List.replicate_succ, List.foldl_cons, foldl_app_size x k]
    rw [Array.size_append, Nat.succ_mul]; omega
theorem op_mul_str : OpR X (binaryOp .Mult) (fun x y H Q => ∃ z j, x = .str z ∧ y = .int j ∧ (2 ≤ j ∧ j ≤ 1000 ∧ 0 < z.length ∧ z.length ≤ 1000) ∧ Q (.str (repS z j.toNat)) H) := by
  intro pins s σ H x y v u Q I rx ry h
  obtain ⟨z, j, rfl, rfl, ⟨h1, h2, h3, h4⟩, q⟩ := h
  obtain ⟨t, rfl⟩ := rx
  obtain ⟨t', rfl⟩ := ry
  have hm : z.length * j.toNat ≤ 1000 * 1000 := Nat.mul_le_mul h4 (by omega)
  refine PySem.P.mul_str ?_ (fun _ _ => ?_) (fun _ _ => ?_) ?_
  · have a1 : ¬ j < -(2 ^ 63 : Int) := by omega
    have a2 : ¬ j ≥ 2 ^ 63 := by omega
    rw [decide_eq_false a1, decide_eq_false a2]; rfl
  · have : (1000 : Int) ≤ (2 ^ 63 - 1) / j := by
      apply Int.le_ediv_of_mul_le (by omega)
      have : 1000 * j ≤ 1000 * 1000 := by omega
      omega
    omega
  · have : sizeLine = 16777216 := sizeLine_eq
    show decide _ = false
    apply decide_eq_false
    omega
  · have c1 : ¬ j < 1 := by omega
    have c2 : ¬ (j == 1 || z.length == 0) = true := by
      simp only [Bool.or_eq_true, beq_iff_eq]
      omega
    rw [if_neg c1, if_neg c2]
    refine ⟨?_, .str _, H, I.tok _, ⟨_, rfl⟩, q⟩
    show ((List.replicate j.toNat z.cps).foldl (· ++ ·) #[]).size ≤ sizeLine
    rw [foldl_app_size]
    have : sizeLine = 16777216 := sizeLine_eq
    have e : z.cps.size = z.length := rfl
    rw [e, Nat.mul_comm]
    simp
    omega
theorem opMul_ok (hK : F.K = X.K) : OpR X (binaryOp .Mult) (OpV F Ex opMul) := by
  intro pins s σ H x y v u Q I rx ry ⟨μ, ps, G, r, g, p⟩
  unfold opMul at p
  split at p
  · obtain ⟨_, _, e, r1, r2⟩ := Reps.two_inv r
    cases e
    split at p
    · rename_i hc
      exact op_mul pins s σ H _ _ v u Q I rx ry ⟨_, _, rep_int r1, rep_int r2, hc, p.here RV.int g⟩
    · exact (show False from p).elim
  · obtain ⟨_, _, e, r1, r2⟩ := Reps.two_inv r
    cases e
    split at p
    · rename_i hc
      exact op_mul_str pins s σ H _ _ v u Q I rx ry ⟨_, _, rep_str r1, rep_int r2, hc, p.here RV.str g⟩
    · exact (show False from p).elim
  · obtain ⟨_, _, e, r1, r2⟩ := Reps.two_inv r
    cases e
    split at p
    · rename_i a0 j hc
      obtain ⟨a, vs, e1, z1, st1, rr1⟩ := rep_tup r1
      have l1 := rr1.length
      by_cases h0 : a0 = []
      · subst h0
        cases rr1
        have e0 : (List.replicate j.toNat ([] : List PV)).flatten = [] := by
          induction j.toNat with
          | zero => rfl
          | succ k ih => rw [List.replicate_succ, List.flatten_cons, ih]; rfl
        rw [e0] at p
        exact op_rep0 pins s σ H _ _ v u Q I rx ry ⟨a, _, e1, rep_int r2, by rw [← hK]; exact st1.sq, hc.1, hc.2.1, by rw [← e1]; exact p.here r1 g⟩
      refine op_repF pins s σ H _ _ v u Q I rx ry ⟨a, _, vs, e1, rep_int r2, by rw [← hK]; exact st1.sq, fun h1 => h0 (List.eq_nil_of_length_eq_zero (by rw [l1, h1]; rfl)), hc.1, hc.2.1, by omega, p.tup g (rr1.rep _) ?_⟩
      rw [PyProof.Rows.lm_len_rep_flat]
      have : sizeLine = 16777216 := sizeLine_eq
      have a1 : j.toNat * vs.length ≤ 1000 * 1000 := Nat.mul_le_mul (by omega) (by omega)
      omega
    · exact (show False from p).elim
  · exact (show False from p).elim
def opNeg (ps : List PV) (G : GH) : Res PV := match ps with
  | [.int i] => .ok (.int (-i)) G
  | _ => .bad
theorem opNeg_ok : UnR X (unaryOp .USub) (fun x H Q => RdV F Ex opNeg [x] H Q) := by
  intro pins s σ H x v Q I rx ⟨μ, ps, G, r, g, p⟩
  unfold opNeg at p
  split at p
  · obtain ⟨_, e, r1⟩ := Reps.one_inv r
    cases e
    exact un_neg pins s σ H _ v Q I rx ⟨_, rep_int r1, p.here RV.int g⟩
  · exact (show False from p).elim
end
end EV
end
section
set_option Elab.async false
set_option linter.all false
set_option maxRecDepth 100000
/-! Ev9: comparisons, places, slices, built-ins by values. -/
namespace EV
open PySem PySem.Spec PyProof.Rows L2
/-! ### data -/
mutual
def toD : PV → Option PyData
  | .non => some .none
  | .bl b => some (.bool b)
  | .int i => some (.int i)
  | .str x => some (.str x)
  | .tup ps => (toDs ps).map .tuple
  | .lst ps => (toDs ps).map .list
  | .sls ps => (toDs ps).map .list
  | .obj _ => none
def toDs : List PV → Option (List PyData)
  | [] => some []
  | p :: ps => match toD p, toDs ps with
    | some d, some ds => some (d :: ds)
    | _, _ => none
end
/-- .. where an object of ours may stand on top -/
def toDG (G : GH) (p : PV) : Option PyData := match p with
  | .obj n => match G[n]? with
    | some (.lst ps) => (toDs ps).map .list
    | _ => none
  | p => toD p
section
variable {X : Cx} {F : Fx} {Ex : XK} {μ : Mu} {H : Hp} {G : GH}
mutual
theorem toD_dp : ∀ {p : PV} {v : V} {d : PyData}, toD p = some d → Rep F μ H p v → Dp F.K H v d
  | .non, v, d, e, r => by simp only [toD, Option.some.injEq] at e; subst e; rw [rep_non r]; exact .non
  | .bl b, v, d, e, r => by simp only [toD, Option.some.injEq] at e; subst e; rw [rep_bl r]; exact .bl b
  | .int i, v, d, e, r => by simp only [toD, Option.some.injEq] at e; subst e; rw [rep_int r]; exact .int i
  | .str x, v, d, e, r => by simp only [toD, Option.some.injEq] at e; subst e; rw [rep_str r]; exact .str x
  | .tup ps, v, d, e, r => by
    simp only [toD, Option.map_eq_some_iff] at e
    obtain ⟨ds, e1, rfl⟩ := e
    obtain ⟨a, vs, rfl, _, st, rr⟩ := rep_tup r
    exact .tup st.sq (toDs_dp e1 rr)
  | .lst ps, v, d, e, r => by
    simp only [toD, Option.map_eq_some_iff] at e
    obtain ⟨ds, e1, rfl⟩ := e
    obtain ⟨a, vs, rfl, _, st, rr⟩ := rep_lst r
    exact .lst (SqL.of st.2) (toDs_dp e1 rr)
  | .sls ps, v, d, e, r => by
    simp only [toD, Option.map_eq_some_iff] at e
    obtain ⟨ds, e1, rfl⟩ := e
    obtain ⟨a, vs, rfl, _, st, rr⟩ := rep_sls r
    exact .lst st.sq (toDs_dp e1 rr)
  | .obj n, v, d, e, r => by simp only [toD] at e; cases e
theorem toDs_dp : ∀ {ps : List PV} {vs : List V} {ds : List PyData}, toDs ps = some ds → Reps F μ H ps vs → DpAll F.K H vs ds
  | [], vs, ds, e, r => by simp only [toDs, Option.some.injEq] at e; subst e; rw [r.nil_inv]; exact .nil
  | p :: ps, vs, ds, e, r => by
    obtain ⟨v, w, rfl, r1, rr⟩ := r.cons_inv
    simp only [toDs] at e
    split at e
    · rename_i d ds' e1 e2
      cases e
      exact .cons (toD_dp e1 r1) (toDs_dp e2 rr)
    · cases e
end
theorem toDG_dp {p : PV} {v : V} {d : PyData} (e : toDG G p = some d) (r : Rep F μ H p v) (g : HRep F μ H G) : Dp F.K H v d := by
  unfold toDG at e
  split at e
  · rename_i n
    split at e
    · rename_i ps eo
      rw [Option.map_eq_some_iff] at e
      obtain ⟨ds, e1, rfl⟩ := e
      obtain ⟨a, rfl, ha⟩ := rep_obj r
      obtain ⟨vs, q, z, rr⟩ := g.obj n a _ ha eo
      exact .lst (SqL.of q) (toDs_dp e1 rr)
    · cases e
  · exact toD_dp e r
/-! ### == and != -/
def scalP : PV → PV → Option Bool
  | .non, .non => some true
  | .int a, .int b => some (decide (a = b))
  | .bl a, .bl b => some (decide (a = b))
  | .str a, .str b => some (decide (a = b))
  | .non, .int _ => some false | .int _, .non => some false | .non, .bl _ => some false | .bl _, .non => some false | .non, .str _ => some false | .str _, .non => some false
  | .int _, .str _ => some false | .str _, .int _ => some false | .bl _, .str _ => some false | .str _, .bl _ => some false
  | _, _ => none
def eqD (a b : PyData) : Option Bool := if SeqAt.shaped a = true ∧ SeqAt.shaped b = true then some (PyData.eqv a b) else none
def eqP (G : GH) (x y : PV) : Option Bool := match scalP x y with
  | some b => some b
  | none => match toDG G x, toDG G y with
    | some a, some b => eqD a b
    | _, _ => none
def opEqN (neg : Bool) (ps : List PV) (G : GH) : Res PV := match ps with
  | [x, y] => match eqP G x y with
    | some b => .ok (.bl (if neg = true then !b else b)) G
    | none => .bad
  | _ => .bad
theorem scalP_rep {x y : PV} {v w : V} {b : Bool} (e : scalP x y = some b) (rx : Rep F μ H x v) (ry : Rep F μ H y w) : scal v w = true ∧ decide (v = w) = b := by
  cases x <;> cases y <;> simp only [scalP, Option.some.injEq] at e <;> first | (cases e; done) | skip
  all_goals simp only [Rep] at rx ry
  all_goals subst rx ry e
  all_goals simp [scal]
theorem opEq_gen (neg : Bool) {op : Value → Value → Sem Value} (h1 : OpR X op (fun x y H Q => scal x y = true ∧ Q (.bl (if neg = true then !decide (x = y) else decide (x = y))) H))
    (h2 : OpR X op (fun x y H Q => ∃ d e, Dp X.K H x d ∧ Dp X.K H y e ∧ SeqAt.shaped d = true ∧ SeqAt.shaped e = true ∧ Q (.bl (if neg = true then !PyData.eqv d e else PyData.eqv d e)) H)) (hK : F.K = X.K) : OpR X op (OpV F Ex (opEqN neg)) := by
  intro pins s σ H x y v u Q I rx ry ⟨μ, ps, G, r, g, p⟩
  unfold opEqN at p
  split at p
  · obtain ⟨_, _, e, r1, r2⟩ := Reps.two_inv r
    cases e
    split at p
    · rename_i b eb
      unfold eqP at eb
      split at eb
      · rename_i b' es
        cases eb
        obtain ⟨s1, s2⟩ := scalP_rep es r1 r2
        refine h1 pins s σ H _ _ v u Q I rx ry ⟨s1, ?_⟩
        rw [s2]
        exact p.here RV.bl g
      · split at eb
        · rename_i d1 d2 e1 e2
          unfold eqD at eb
          split at eb
          · rename_i hs
            cases eb
            exact h2 pins s σ H _ _ v u Q I rx ry ⟨d1, d2, by rw [← hK]; exact toDG_dp e1 r1 g, by rw [← hK]; exact toDG_dp e2 r2 g, hs.1, hs.2, p.here RV.bl g⟩
          · cases eb
        · cases eb
    · exact (show False from p).elim
  · exact (show False from p).elim
abbrev opEq := opEqN false
abbrev opNe := opEqN true
theorem opEq_ok (hK : F.K = X.K) (hu : X.A.units + 64 < cLine) : OpR X (compareOp .Eq) (OpV F Ex opEq) := opEq_gen false op_eq (op_eqD hu) hK
theorem opNe_ok (hK : F.K = X.K) (hu : X.A.units + 64 < cLine) : OpR X (compareOp .NotEq) (OpV F Ex opNe) := opEq_gen true op_ne (op_neD hu) hK
/-! ### is None, is not None -/
def isNon : PV → Bool
  | .non => true
  | _ => false
def opIsN (neg : Bool) (ps : List PV) (G : GH) : Res PV := match ps with
  | [x, .non] => .ok (.bl (if neg = true then !isNon x else isNon x)) G
  | _ => .bad
theorem rep_isnon {x : PV} {v : V} (r : Rep F μ H x v) : decide (v = .non) = isNon x := by
  cases x <;> simp only [Rep] at r
  · subst r; rfl
  · subst r; rfl
  · subst r; rfl
  · subst r; rfl
  · obtain ⟨a, vs, rfl, _⟩ := r; rfl
  · obtain ⟨a, vs, rfl, _⟩ := r; rfl
  · obtain ⟨a, vs, rfl, _⟩ := r; rfl
  · obtain ⟨a, rfl, _⟩ := r; rfl
theorem opIs_ok : OpR X (compareOp .Is) (OpV F Ex (opIsN false)) := by
  intro pins s σ H x y v u Q I rx ry ⟨μ, ps, G, r, g, p⟩
  unfold opIsN at p
  split at p
  · obtain ⟨_, _, e, r1, r2⟩ := Reps.two_inv r
    cases e
    refine op_isN pins s σ H _ _ v u Q I rx ry ⟨rep_non r2, ?_⟩
    rw [rep_isnon r1]
    exact p.here RV.bl g
  · exact (show False from p).elim
theorem opIsNot_ok : OpR X (compareOp .IsNot) (OpV F Ex (opIsN true)) := by
  intro pins s σ H x y v u Q I rx ry ⟨μ, ps, G, r, g, p⟩
  unfold opIsN at p
  split at p
  · obtain ⟨_, _, e, r1, r2⟩ := Reps.two_inv r
    cases e
    refine op_notN pins s σ H _ _ v u Q I rx ry ⟨rep_non r2, ?_⟩
    rw [rep_isnon r1]
    exact p.here RV.bl g
  · exact (show False from p).elim
/-! ### order -/
def cltS (x y : Str) : Bool := decide (x.cps.toList < y.cps.toList)
def someD : PyData → Bool
  | .none => false
  | _ => true
/-- an order of data alike, place by place -/
def ordD (G : GH) (x y : PV) (f : PyData → PyData → Bool) : Res PV := match toDG G x, toDG G y with
  | some d, some e => if (PySem.W.alike d e && someD d && decide (d.depth ≤ 60)) = true then .ok (.bl (f d e)) G else .bad
  | _, _ => .bad
def ltD (d e : PyData) : Bool := PySem.W.dataLt d e
def gtD (d e : PyData) : Bool := PySem.W.dataLt e d
def leD (d e : PyData) : Bool := !PySem.W.dataLt e d
def geD (d e : PyData) : Bool := !PySem.W.dataLt d e
def opLt (ps : List PV) (G : GH) : Res PV := match ps with
  | [.int i, .int j] => .ok (.bl (decide (i < j))) G
  | [.str x, .str y] => .ok (.bl (cltS x y)) G
  | [x, y] => ordD G x y ltD
  | _ => .bad
def opLe (ps : List PV) (G : GH) : Res PV := match ps with
  | [.int i, .int j] => .ok (.bl (decide (i ≤ j))) G
  | [.str x, .str y] => .ok (.bl (!cltS y x)) G
  | [x, y] => ordD G x y leD
  | _ => .bad
def opGt (ps : List PV) (G : GH) : Res PV := match ps with
  | [.int i, .int j] => .ok (.bl (decide (j < i))) G
  | [.str x, .str y] => .ok (.bl (cltS y x)) G
  | [x, y] => ordD G x y gtD
  | _ => .bad
def opGe (ps : List PV) (G : GH) : Res PV := match ps with
  | [.int i, .int j] => .ok (.bl (decide (j ≤ i))) G
  | [.str x, .str y] => .ok (.bl (!cltS x y)) G
  | [x, y] => ordD G x y geD
  | _ => .bad
def rOrdD (K : PySem.W.Frag) (f : PyData → PyData → Bool) : R2 := fun x y H Q => ∃ d e, Dp K H x d ∧ Dp K H y e ∧ PySem.W.alike d e = true ∧ d ≠ .none ∧ d.depth ≤ 60 ∧ Q (.bl (f d e)) H
theorem op_ltD (hu : X.A.units + 64 < cLine) : OpR X (compareOp .Lt) (rOrdD X.K ltD) := by
  intro pins s σ H x y v u Q I rx ry ⟨d, e, hd, he, ha, hn, hp, q⟩
  obtain ⟨as, r1⟩ := Dp.reads I d x v hd rx
  obtain ⟨bs, r2⟩ := Dp.reads I e y u he ry
  exact PySem.W.lt_data r1 r2 ha hn (by omega) ⟨.bl _, H, I, rfl, q⟩
theorem op_gtD (hu : X.A.units + 64 < cLine) : OpR X (compareOp .Gt) (rOrdD X.K gtD) := by
  intro pins s σ H x y v u Q I rx ry ⟨d, e, hd, he, ha, hn, hp, q⟩
  obtain ⟨as, r1⟩ := Dp.reads I d x v hd rx
  obtain ⟨bs, r2⟩ := Dp.reads I e y u he ry
  exact PySem.W.gt_data r1 r2 ha hn (by omega) ⟨.bl _, H, I, rfl, q⟩
theorem op_leD (hu : X.A.units + 64 < cLine) : OpR X (compareOp .LtE) (rOrdD X.K leD) := by
  intro pins s σ H x y v u Q I rx ry ⟨d, e, hd, he, ha, hn, hp, q⟩
  obtain ⟨as, r1⟩ := Dp.reads I d x v hd rx
  obtain ⟨bs, r2⟩ := Dp.reads I e y u he ry
  exact PySem.W.le_data r1 r2 ha hn (by omega) ⟨.bl _, H, I, rfl, q⟩
theorem op_geD (hu : X.A.units + 64 < cLine) : OpR X (compareOp .GtE) (rOrdD X.K geD) := by
  intro pins s σ H x y v u Q I rx ry ⟨d, e, hd, he, ha, hn, hp, q⟩
  obtain ⟨as, r1⟩ := Dp.reads I d x v hd rx
  obtain ⟨bs, r2⟩ := Dp.reads I e y u he ry
  exact PySem.W.ge_data r1 r2 ha hn (by omega) ⟨.bl _, H, I, rfl, q⟩
theorem ord_gen {op : Value → Value → Sem Value} {fi : Int → Int → Bool} {fs : Str → Str → Bool} {fd : PyData → PyData → Bool} {m : List PV → GH → Res PV} (hK : F.K = X.K) (hi : OpR X op (rI0 fun i j => .bl (fi i j))) (hs : OpR X op (fun x y H Q => ∃ i j, x = .str i ∧ y = .str j ∧ Q (.bl (fs i j)) H)) (hd : OpR X op (rOrdD X.K fd))
    (hm : m = fun ps G => match ps with
      | [.int i, .int j] => .ok (.bl (fi i j)) G
      | [.str x, .str y] => .ok (.bl (fs x y)) G
      | [x, y] => ordD G x y fd
      | _ => .bad) : OpR X op (OpV F Ex m) := by
  subst hm
  intro pins s σ H x y v u Q I rx ry ⟨μ, ps, G, r, g, p⟩
  dsimp only at p
  split at p
  · obtain ⟨_, _, e, r1, r2⟩ := Reps.two_inv r
    cases e
    exact hi pins s σ H _ _ v u Q I rx ry ⟨_, _, rep_int r1, rep_int r2, p.here RV.bl g⟩
  · obtain ⟨_, _, e, r1, r2⟩ := Reps.two_inv r
    cases e
    exact hs pins s σ H _ _ v u Q I rx ry ⟨_, _, rep_str r1, rep_str r2, p.here RV.bl g⟩
  · obtain ⟨_, _, e, r1, r2⟩ := Reps.two_inv r
    cases e
    unfold ordD at p
    split at p
    · rename_i d e e1 e2
      split at p
      · rename_i hc
        simp only [Bool.and_eq_true, decide_eq_true_eq] at hc
        refine hd pins s σ H _ _ v u Q I rx ry ⟨d, e, by rw [← hK]; exact toDG_dp e1 r1 g, by rw [← hK]; exact toDG_dp e2 r2 g, hc.1.1, fun h => ?_, hc.2, p.here RV.bl g⟩
        rw [h] at hc
        exact absurd hc.1.2 (by decide)
      · exact (show False from p).elim
    · exact (show False from p).elim
  · exact (show False from p).elim
theorem opLt_ok (hK : F.K = X.K) (hu : X.A.units + 64 < cLine) : OpR X (compareOp .Lt) (OpV F Ex opLt) := ord_gen hK op_lt op_lt_str (op_ltD hu) rfl
theorem opLe_ok (hK : F.K = X.K) (hu : X.A.units + 64 < cLine) : OpR X (compareOp .LtE) (OpV F Ex opLe) := ord_gen hK op_le op_le_str (op_leD hu) rfl
theorem opGt_ok (hK : F.K = X.K) (hu : X.A.units + 64 < cLine) : OpR X (compareOp .Gt) (OpV F Ex opGt) := ord_gen hK op_gt op_gt_str (op_gtD hu) rfl
theorem opGe_ok (hK : F.K = X.K) (hu : X.A.units + 64 < cLine) : OpR X (compareOp .GtE) (OpV F Ex opGe) := ord_gen hK op_ge op_ge_str (op_geD hu) rfl
/-! ### in: signs in texts, scalars in lists and tuples -/
def flatP : PV → Bool
  | .non => true
  | .bl _ => true
  | .int _ => true
  | .str _ => true
  | _ => false
def eqFl : PV → PV → Bool
  | .non, .non => true
  | .bl a, .bl b => a == b
  | .bl a, .int b => (if a then 1 else 0) == b
  | .int a, .bl b => a == (if b then 1 else 0)
  | .int a, .int b => a == b
  | .str a, .str b => a == b
  | _, _ => false
/-- what a list or a tuple holds -/
def asS (p : PV) (G : GH) : Option (List PV) := match p with
  | .tup ps => some ps
  | p => asL p G
def inP (G : GH) (x y : PV) : Option Bool := match x, y with
  | .str a, .str b => if a.cps.size = 1 then some (decide (a.cps.getD 0 0 ∈ b.cps.toList)) else none
  | x, y => match asS y G with
    | some ps => if (flatP x && ps.all flatP) = true then some (ps.any fun z => eqFl z x) else none
    | none => none
def opInN (neg : Bool) (ps : List PV) (G : GH) : Res PV := match ps with
  | [x, y] => match inP G x y with
    | some b => .ok (.bl (if neg = true then !b else b)) G
    | none => .bad
  | _ => .bad
theorem flat_rep {x : PV} {v : V} (rx : Rep F μ H x v) (e : flatP x = true) : flatV v = true := by
  cases x <;> simp only [flatP] at e <;> first | (cases e; done) | skip
  all_goals (simp only [Rep] at rx; subst rx; rfl)
theorem eqFl_rep {x y : PV} {v w : V} (rx : Rep F μ H x v) (ry : Rep F μ H y w) (ex : flatP x = true) (ey : flatP y = true) : eqV v w = eqFl x y := by
  cases x <;> simp only [flatP] at ex <;> first | (cases ex; done) | skip
  all_goals (cases y <;> simp only [flatP] at ey <;> first | (cases ey; done) | skip)
  all_goals (simp only [Rep] at rx ry; subst rx ry; simp [eqV, eqFl])
theorem any_flat {x : PV} {v : V} (rx : Rep F μ H x v) (ex : flatP x = true) : ∀ {ps : List PV} {vs : List V}, ps.all flatP = true → Reps F μ H ps vs → vs.all flatV = true ∧ inV v vs = ps.any fun z => eqFl z x
  | [], vs, _, r => by rw [r.nil_inv]; exact ⟨rfl, rfl⟩
  | y :: ps, vs, e, r => by
    obtain ⟨w, ws, rfl, r1, rr⟩ := r.cons_inv
    simp only [List.all_cons, Bool.and_eq_true] at e
    obtain ⟨h1, h2⟩ := any_flat rx ex e.2 rr
    refine ⟨by simp only [List.all_cons, Bool.and_eq_true]; exact ⟨flat_rep r1 e.1, h1⟩, ?_⟩
    unfold inV at h2 ⊢
    rw [List.any_cons, List.any_cons, h2, eqFl_rep r1 rx e.1 ex]
theorem asS_rep {p : PV} {ps : List PV} {v : V} (e : asS p G = some ps) (r : Rep F μ H p v) (g : HRep F μ H G) : ∃ a vs, v = .ref a ∧ vs.length ≤ sizeLine ∧ (SqL F.K H a vs ∨ SqT F.K H a vs) ∧ Reps F μ H ps vs := by
  unfold asS at e
  split at e
  · cases e
    obtain ⟨a, vs, e1, z, st, rr⟩ := rep_tup r
    exact ⟨a, vs, e1, z, .inr st.sq, rr⟩
  · obtain ⟨a, vs, e1, z, st, rr⟩ := asL_rep e r g
    exact ⟨a, vs, e1, z, .inl st, rr⟩
theorem one_sign {a : Str} (h : a.cps.size = 1) : a = ⟨#[a.cps.getD 0 0]⟩ := by
  obtain ⟨⟨l⟩⟩ := a
  have h : l.length = 1 := h
  match l, h with
  | [c], _ => rfl
theorem opIn_gen (neg : Bool) {op : Value → Value → Sem Value} (h1 : OpR X op (fun x y H Q => ∃ (c : Nat) (z : Str), x = .str ⟨#[c]⟩ ∧ y = .str z ∧ Q (.bl (if neg = true then !decide (c ∈ z.cps.toList) else decide (c ∈ z.cps.toList))) H))
    (h2 : OpR X op (rIn X.K neg)) (hK : F.K = X.K) : OpR X op (OpV F Ex (opInN neg)) := by
  intro pins s σ H x y v u Q I rx ry ⟨μ, ps, G, r, g, p⟩
  unfold opInN at p
  split at p
  · obtain ⟨_, _, e, r1, r2⟩ := Reps.two_inv r
    cases e
    split at p
    · rename_i b eb
      unfold inP at eb
      split at eb
      · split at eb
        · rename_i hc
          cases eb
          exact h1 pins s σ H _ _ v u Q I rx ry ⟨_, _, by rw [rep_str r1]; exact congrArg V.str (one_sign hc), rep_str r2, p.here RV.bl g⟩
        · cases eb
      · split at eb
        · rename_i ps es
          split at eb
          · rename_i hf
            cases eb
            simp only [Bool.and_eq_true] at hf
            obtain ⟨a, vs, rfl, z, st, rr⟩ := asS_rep es r2 g
            obtain ⟨k1, k2⟩ := any_flat r1 hf.1 hf.2 rr
            refine h2 pins s σ H _ _ v u Q I rx ry ⟨a, vs, rfl, by rw [← hK]; exact st, flat_rep r1 hf.1, k1, ?_⟩
            rw [k2]
            exact p.here RV.bl g
          · cases eb
        · cases eb
    · exact (show False from p).elim
  · exact (show False from p).elim
abbrev opIn := opInN false
abbrev opNotIn := opInN true
theorem opIn_ok (hK : F.K = X.K) : OpR X (compareOp .In) (OpV F Ex opIn) := opIn_gen false op_in_sign op_in_seq hK
theorem opNotIn_ok (hK : F.K = X.K) : OpR X (compareOp .NotIn) (OpV F Ex opNotIn) := opIn_gen true op_notIn_sign op_notIn_seq hK

/-! ### places and slices -/
def opIx (ps : List PV) (G : GH) : Res PV := match ps with
  | [.str z, .int i] => if z.length ≤ sizeLine then (match atI z.cps.toList i with
    | some c => .ok (.str ⟨#[c]⟩) G
    | none => .bad) else .bad
  | [x, .int i] => match asS x G with
    | some ps => (match atI ps i with
      | some p => .ok p G
      | none => .bad)
    | none => .bad
  | _ => .bad
theorem Reps.atI {ps : List PV} {vs : List V} {i : Int} {p : PV} (r : Reps F μ H ps vs) (e : L2.atI ps i = some p) : ∃ v, L2.atI vs i = some v ∧ Rep F μ H p v := by
  unfold L2.atI at e ⊢
  rw [← r.length]
  cases z : ixN ps.length i with
  | none => rw [z] at e; cases e
  | some j =>
    rw [z] at e
    obtain ⟨v, h1, h2⟩ := r.get (show ps[j]? = some p from e)
    exact ⟨v, h1, h2⟩
theorem opIx_ok (hK : F.K = X.K) : IxR X (OpV F Ex opIx) := by
  intro value slice pins s σ H x y v u Q I rx ry ⟨μ, ps, G, r, g, p⟩ hsub
  unfold opIx at p
  split at p
  · obtain ⟨_, _, e, r1, r2⟩ := Reps.two_inv r
    cases e
    split at p
    · rename_i hz
      split at p
      · rename_i c ec
        exact ix_str value slice pins s σ H _ _ v u Q I rx ry ⟨_, _, c, rep_str r1, rep_int r2, hz, ec, p.here RV.str g⟩ hsub
      · exact (show False from p).elim
    · exact (show False from p).elim
  · obtain ⟨_, _, e, r1, r2⟩ := Reps.two_inv r
    cases e
    split at p
    · rename_i ps es
      split at p
      · rename_i q eq
        obtain ⟨a, vs, rfl, z, st, rr⟩ := asS_rep es r1 g
        obtain ⟨w, h1, h2⟩ := rr.atI eq
        rw [hK] at st
        rcases st with st | st
        · exact ix_list value slice pins s σ H _ _ v u Q I rx ry ⟨a, vs, _, w, rfl, rep_int r2, st, h1, p.here h2 g⟩ hsub
        · exact ix_tup value slice pins s σ H _ _ v u Q I rx ry ⟨a, vs, _, w, rfl, rep_int r2, st, h1, p.here h2 g⟩ hsub
      · exact (show False from p).elim
    · exact (show False from p).elim
  · exact (show False from p).elim
def cutP (xs : List PV) (lo hi : Option Int) : List PV := (xs.drop (HT.sIx xs.length 0 lo)).take (HT.sIx xs.length xs.length hi - HT.sIx xs.length 0 lo)
theorem Reps.cut {ps : List PV} {vs : List V} (r : Reps F μ H ps vs) (lo hi : Option Int) : Reps F μ H (cutP ps lo hi) (cutV vs lo hi) := by
  unfold cutP cutV
  rw [r.length]
  exact (r.drop _).take _
def opSl (x : PV) (lo hi : Option Int) (G : GH) : Res PV := match x with
  | .tup ps => .ok (.tup (cutP ps lo hi)) G
  | .str z => if z.length ≤ sizeLine then .ok (.str (cutS z lo hi)) G else .bad
  | x => match asL x G with
    | some ps => .ok (.lst (cutP ps lo hi)) G
    | none => .bad
theorem opSl_ok (hK : F.K = X.K) : SlR X (RdS F Ex opSl) := by
  intro pins s σ H x v vl vu lo hi sl Q I rx hs pl pu ⟨μ, q, G, r, g, p⟩
  unfold opSl at p
  split at p
  · obtain ⟨a, vs, rfl, z, st, rr⟩ := rep_tup r
    have hl := cutV_length vs lo hi
    refine sl_tupF pins s σ H _ v vl vu lo hi sl Q I rx hs pl pu ⟨a, vs, rfl, by rw [← hK]; exact st.sq, fun hw => ?_, fun _ => p.tup g (rr.cut lo hi) (Nat.le_trans hl z)⟩
    have e : cutV vs lo hi = vs := by
      unfold cutV
      rw [hw.1, hw.2]
      simp
    refine p.here ?_ g
    show Rep F μ H _ _
    simp only [Rep]
    refine ⟨a, vs, rfl, z, st, ?_⟩
    have := rr.cut lo hi
    rw [e] at this
    exact this
  · split at p
    · rename_i hz
      exact sl_str pins s σ H _ v vl vu lo hi sl Q I rx hs pl pu ⟨_, rep_str r, hz, p.here RV.str g⟩
    · exact (show False from p).elim
  · split at p
    · rename_i ps es
      obtain ⟨a, vs, rfl, z, st, rr⟩ := asL_rep es r g
      have hl := cutV_length vs lo hi
      exact sl_list pins s σ H _ v vl vu lo hi sl Q I rx hs pl pu ⟨a, vs, rfl, by rw [← hK]; exact st, p.lst g (rr.cut lo hi) (Nat.le_trans hl z)⟩
    · exact (show False from p).elim
end
end EV
end
section
set_option Elab.async false
set_option linter.all false
set_option maxRecDepth 100000
/-! Ev10: built-ins called by name, methods, isinstance, stores into lists. -/
namespace EV
open PySem PySem.Spec PyProof.Rows L2
section
variable {X : Cx} {F : Fx} {Ex : XK} {μ : Mu} {H : Hp} {G : GH}
def bLen (ps : List PV) (G : GH) : Res PV := match ps with
  | [.str z] => if z.length ≤ sizeLine then .ok (.int z.length) G else .bad
  | [x] => match asS x G with
    | some qs => .ok (.int qs.length) G
    | none => .bad
  | _ => .bad
theorem bLen_ok (hK : F.K = X.K) : CallR X (.builtin "len") (RdV F Ex bLen) := by
  intro pins s σ H xs us Q I rs ⟨μ, ps, G, r, g, p⟩
  unfold bLen at p
  split at p
  · obtain ⟨v, rfl, r1⟩ := Reps.one_inv r
    split at p
    · rename_i hz
      exact call_len_str pins s σ H _ us Q I rs ⟨_, by rw [rep_str r1], hz, p.here RV.int g⟩
    · exact (show False from p).elim
  · obtain ⟨v, rfl, r1⟩ := Reps.one_inv r
    split at p
    · rename_i qs es
      obtain ⟨a, vs, rfl, z, st, rr⟩ := asS_rep es r1 g
      rw [hK] at st
      refine call_len_seq pins s σ H _ us Q I rs ⟨a, vs, rfl, st, ?_⟩
      rw [← rr.length]
      exact p.here RV.int g
    · exact (show False from p).elim
  · exact (show False from p).elim
def bools : List PV → Option (List Bool)
  | [] => some []
  | .bl b :: ps => (bools ps).map (b :: ·)
  | _ :: _ => none
theorem bools_rep : ∀ {ps : List PV} {bs : List Bool} {vs : List V}, bools ps = some bs → Reps F μ H ps vs → vs = bs.map V.bl
  | [], bs, vs, e, r => by simp only [bools, Option.some.injEq] at e; subst e; rw [r.nil_inv]; rfl
  | .bl b :: ps, bs, vs, e, r => by
    simp only [bools, Option.map_eq_some_iff] at e
    obtain ⟨cs, e1, rfl⟩ := e
    obtain ⟨v, ws, rfl, r1, rr⟩ := r.cons_inv
    rw [rep_bl r1, bools_rep e1 rr]
    rfl
  | .non :: _, _, _, e, _ => by simp only [bools] at e; cases e
  | .int _ :: _, _, _, e, _ => by simp only [bools] at e; cases e
  | .str _ :: _, _, _, e, _ => by simp only [bools] at e; cases e
  | .tup _ :: _, _, _, e, _ => by simp only [bools] at e; cases e
  | .lst _ :: _, _, _, e, _ => by simp only [bools] at e; cases e
  | .sls _ :: _, _, _, e, _ => by simp only [bools] at e; cases e
  | .obj _ :: _, _, _, e, _ => by simp only [bools] at e; cases e
def bAll (ps : List PV) (G : GH) : Res PV := match ps with
  | [x] => match (asL x G).bind bools with
    | some bs => .ok (.bl (bs.all id)) G
    | none => .bad
  | _ => .bad
def bAny (ps : List PV) (G : GH) : Res PV := match ps with
  | [x] => match (asL x G).bind bools with
    | some bs => .ok (.bl (bs.any id)) G
    | none => .bad
  | _ => .bad
theorem bAll_ok (hK : F.K = X.K) (hc : X.calm = true) : CallR X (.builtin "all") (RdV F Ex bAll) := by
  intro pins s σ H xs us Q I rs ⟨μ, ps, G, r, g, p⟩
  unfold bAll at p
  split at p
  · obtain ⟨v, rfl, r1⟩ := Reps.one_inv r
    split at p
    · rename_i bs eb
      obtain ⟨qs, es, e2⟩ := Option.bind_eq_some_iff.mp eb
      obtain ⟨a, vs, rfl, z, st, rr⟩ := asL_rep es r1 g
      rw [bools_rep e2 rr, hK] at st
      exact cr_all hc pins s σ H _ us Q I rs ⟨a, bs, rfl, st, p.here RV.bl g⟩
    · exact (show False from p).elim
  · exact (show False from p).elim
theorem bAny_ok (hK : F.K = X.K) (hc : X.calm = true) : CallR X (.builtin "any") (RdV F Ex bAny) := by
  intro pins s σ H xs us Q I rs ⟨μ, ps, G, r, g, p⟩
  unfold bAny at p
  split at p
  · obtain ⟨v, rfl, r1⟩ := Reps.one_inv r
    split at p
    · rename_i bs eb
      obtain ⟨qs, es, e2⟩ := Option.bind_eq_some_iff.mp eb
      obtain ⟨a, vs, rfl, z, st, rr⟩ := asL_rep es r1 g
      rw [bools_rep e2 rr, hK] at st
      exact cr_any hc pins s σ H _ us Q I rs ⟨a, bs, rfl, st, p.here RV.bl g⟩
    · exact (show False from p).elim
  · exact (show False from p).elim
def bTup (ps : List PV) (G : GH) : Res PV := match ps with
  | [x] => match asS x G with
    | some qs => .ok (.tup qs) G
    | none => .bad
  | _ => .bad
theorem bTup_ok (hK : F.K = X.K) : CallR X (.type "tuple") (RdV F Ex bTup) := by
  intro pins s σ H xs us Q I rs ⟨μ, ps, G, r, g, p⟩
  unfold bTup at p
  split at p
  · obtain ⟨v, rfl, r1⟩ := Reps.one_inv r
    split at p
    · rename_i x qs es
      unfold asS at es
      split at es
      · cases es
        obtain ⟨a, vs, rfl, z, st, rr⟩ := rep_tup r1
        exact call_tupleF pins s σ H _ us Q I rs ⟨a, vs, rfl, .inr ⟨by rw [← hK]; exact st.sq, p.here r1 g⟩⟩
      · obtain ⟨a, vs, rfl, z, st, rr⟩ := asL_rep es r1 g
        exact call_tupleF pins s σ H _ us Q I rs ⟨a, vs, rfl, .inl ⟨by rw [← hK]; exact st, p.tup g rr z⟩⟩
    · exact (show False from p).elim
  · exact (show False from p).elim
def bLst (ob : Bool) (ps : List PV) (G : GH) : Res PV := match ps with
  | [x] => match asS x G with
    | some qs => if ob = true then .ok (.obj G.length) (G ++ [.lst qs]) else .ok (.lst qs) G
    | none => .bad
  | _ => .bad
/-- a new list at p, as a value or as an object of ours -/
theorem Post.newL {ob : Bool} {ps : List PV} {vs : List V} {Q : VK} (h : Post F (RV F) Ex μ H (if ob = true then .ok (.obj G.length) (G ++ [.lst ps]) else .ok (.lst ps) G) Q) (g : HRep F μ H G) (r : Reps F μ H ps vs) (z : vs.length ≤ sizeLine) :
    ∀ p, H p = none → Q (.ref p) (upd H p (.lst vs)) := by
  cases ob with
  | false => exact Post.lst h g r z
  | true =>
    intro p n
    refine (show Post F (RV F) Ex μ H (.ok (.obj G.length) (G ++ [.lst ps])) Q from h).ok (Ext.push g n) ?_ (g.push n ⟨vs, upd_same, z, r.mono (Ext.push g n)⟩)
    show Rep F _ _ _ _
    simp only [Rep]
    exact ⟨p, rfl, by rw [← g.len]; simp⟩
theorem bLst_ok {ob : Bool} (hK : F.K = X.K) : CallR X (.type "list") (RdV F Ex (bLst ob)) := by
  intro pins s σ H xs us Q I rs ⟨μ, ps, G, r, g, p⟩
  unfold bLst at p
  split at p
  · obtain ⟨v, rfl, r1⟩ := Reps.one_inv r
    split at p
    · rename_i x qs es
      obtain ⟨a, vs, rfl, z, st, rr⟩ := asS_rep es r1 g
      rw [hK] at st
      exact call_list_of pins s σ H _ us Q I rs ⟨a, vs, rfl, st, Post.newL p g rr z⟩
    · exact (show False from p).elim
  · exact (show False from p).elim
def bInt (ps : List PV) (G : GH) : Res PV := match ps with
  | [.int i] => .ok (.int i) G
  | [.bl k] => .ok (.int (if k = true then 1 else 0)) G
  | _ => .bad
theorem bInt_ok : CallR X (.type "int") (RdV F Ex bInt) := by
  intro pins s σ H xs us Q I rs ⟨μ, ps, G, r, g, p⟩
  unfold bInt at p
  split at p
  · obtain ⟨v, rfl, r1⟩ := Reps.one_inv r
    exact call_int1 pins s σ H _ us Q I rs (.inl ⟨_, by rw [rep_int r1], p.here RV.int g⟩)
  · obtain ⟨v, rfl, r1⟩ := Reps.one_inv r
    exact call_int1 pins s σ H _ us Q I rs (.inr ⟨_, by rw [rep_bl r1], p.here RV.int g⟩)
  · exact (show False from p).elim
def bStr (ps : List PV) (G : GH) : Res PV := match ps with
  | [.int i] => if i.natAbs.log2 < 1920 then .ok (.str (toString i)) G else .bad
  | _ => .bad
theorem bStr_ok : CallR X (.type "str") (RdV F Ex bStr) := by
  intro pins s σ H xs us Q I rs ⟨μ, ps, G, r, g, p⟩
  unfold bStr at p
  split at p
  · obtain ⟨v, rfl, r1⟩ := Reps.one_inv r
    split at p
    · rename_i hz
      exact call_str_int pins s σ H _ us Q I rs ⟨_, by rw [rep_int r1], hz, p.here RV.str g⟩
    · exact (show False from p).elim
  · exact (show False from p).elim

/-! ### repr -/
def reprOk (d : PyData) : Bool := d.showable && !d.hasDict && decide (d.depth ≤ 150) && decide (d.shown.length ≤ sizeLine)
def bRepr (ps : List PV) (G : GH) : Res PV := match ps with
  | [x] => match toDG G x with
    | some d => if reprOk d = true then .ok (.str d.shown) G else .bad
    | none => .bad
  | _ => .bad
theorem bRepr_ok {k : Nat} (hK : F.K = X.K) (hr : Room k X.A) (hg : X.A.guards = some []) : CallR X (.builtin "repr") (RdV F Ex bRepr) := by
  intro pins s σ H xs us Q I rs ⟨μ, ps, G, r, g, p⟩
  unfold bRepr at p
  split at p
  · obtain ⟨v, rfl, r1⟩ := Reps.one_inv r
    obtain ⟨u, rfl, ru⟩ := vals1 rs
    split at p
    · rename_i d ed
      split at p
      · rename_i ho
        unfold reprOk at ho
        simp only [Bool.and_eq_true, Bool.not_eq_true', decide_eq_true_eq] at ho
        obtain ⟨⟨⟨h1, h2⟩, h3⟩, h4⟩ := ho
        have dp := toDG_dp ed r1 g
        rw [hK] at dp
        obtain ⟨as, rd⟩ := Dp.reads I d v u dp ru
        have hd : d.hasDict = true → sysModules ∉ as := fun e => by rw [h2] at e; cases e
        have hun := hr.un
        have fin : ∀ (h' : Heap) (t : Tok) (tk : Nat), (∀ b o, s.heap.get? b = some o → h'.get? b = some o) → EP X pins σ Q (.str d.shown t) { s with heap := h', toks := tk } := fun h' t tk hk =>
          ⟨.str d.shown, H, I.kept hk, ⟨_, rfl⟩, p.here RV.str g⟩
        cases rd with
        | none => exact PySem.P.repr_of_none (fin s.heap _ _ fun _ _ e => e)
        | bool b =>
          refine PySem.P.repr_of_bool ?_
          cases b
          · exact fin s.heap _ _ fun _ _ e => e
          · exact fin s.heap _ _ fun _ _ e => e
        | int i t => exact PySem.P.repr_of_int (of_decide_eq_true h1) (fin s.heap _ _ fun _ _ e => e)
        | str x t => exact PySem.P.repr_of_str (fin s.heap _ _ fun _ _ e => e) h4
        | list a1 a2 a3 a4 => exact repr_of_reads' (.list a1 a2 a3 a4) h1 hd hg (by omega) (fun _ _ e => e) (fun h' t tk hk => fin h' t tk hk) h4
        | tuple a1 a2 a3 a4 => exact repr_of_reads' (.tuple a1 a2 a3 a4) h1 hd hg (by omega) (fun _ _ e => e) (fun h' t tk hk => fin h' t tk hk) h4
        | dict a1 a2 a3 a4 a5 => exact absurd h2 (by simp [PyData.hasDict])
      · exact (show False from p).elim
    · exact (show False from p).elim
  · exact (show False from p).elim
end
end EV
end
section
set_option Elab.async false
set_option linter.all false
set_option maxRecDepth 100000
/-! Ev11: isinstance, methods, stores into lists, own defs as the evaluator has them. -/
namespace EV
open PySem PySem.Spec PyProof.Rows L2
section
variable {X : Cx} {F : Fx} {Ex : XK} {μ : Mu} {H : Hp} {G : GH}
/-! ### isinstance(x, T) -/
def tyP (G : GH) : PV → Option String
  | .non => some "NoneType"
  | .bl _ => some "bool"
  | .int _ => some "int"
  | .str _ => some "str"
  | .tup _ => some "tuple"
  | .lst _ => some "list"
  | .sls _ => some "list"
  | .obj n => match G[n]? with
    | some (.lst _) => some "list"
    | some (.dic _) => some "dict"
    | _ => none
theorem tyP_rep {p : PV} {v : V} {T : String} (e : tyP G p = some T) (r : Rep F μ H p v) (g : HRep F μ H G) : TyX F.K H v (.type T) := by
  cases p with
  | non => simp only [tyP, Option.some.injEq] at e; subst e; rw [rep_non r]; exact .base .non
  | bl b => simp only [tyP, Option.some.injEq] at e; subst e; rw [rep_bl r]; exact .base (.bl b)
  | int b => simp only [tyP, Option.some.injEq] at e; subst e; rw [rep_int r]; exact .base (.int b)
  | str b => simp only [tyP, Option.some.injEq] at e; subst e; rw [rep_str r]; exact .base (.str b)
  | tup ps =>
    simp only [tyP, Option.some.injEq] at e; subst e
    obtain ⟨a, vs, rfl, z, st, rr⟩ := rep_tup r
    rcases st with ⟨_, o, h, _⟩ | ⟨o, its, n, h1, h2, _⟩
    · exact .fTuple h
    · exact .kTuple h1 h2
  | lst ps =>
    simp only [tyP, Option.some.injEq] at e; subst e
    obtain ⟨a, vs, rfl, z, st, rr⟩ := rep_lst r
    exact .base (.lst st.2)
  | sls ps =>
    simp only [tyP, Option.some.injEq] at e; subst e
    obtain ⟨a, vs, rfl, z, st, rr⟩ := rep_sls r
    rcases st with ⟨_, h | ⟨o, h⟩⟩ | ⟨o, its, n, h1, h2, _⟩
    · exact .base (.lst h)
    · exact .base (.frz h)
    · exact .kList h1 h2
  | obj n =>
    obtain ⟨a, rfl, ha⟩ := rep_obj r
    simp only [tyP] at e
    split at e
    · rename_i ps eo
      cases e
      obtain ⟨vs, q, _⟩ := g.obj n a _ ha eo
      exact .base (.lst q)
    · rename_i ps eo
      cases e
      obtain ⟨vs, q, _⟩ := g.obj n a _ ha eo
      exact .base (.dK q)
    · cases e
def bIsi (T : String) (ps : List PV) (G : GH) : Res PV := match ps with
  | [x] => match (tyP G x).bind fun t => kitB t T with
    | some b => .ok (.bl b) G
    | none => .bad
  | _ => .bad
theorem ev_isi {e : Expr} {x y : Str} {T : String} {p p2 pos : Pos} {m : Env → GH → Res PV} (hK : F.K = X.K) (he : PE X e (TEv F Ex m)) (hg : Gl X x) (hm : X.mg x = none) (hv : bootBuiltins x = some (.builtin "isinstance")) (hn : x ≠ "__name__") (hdb : (x == ("__debug__" : Str)) = false)
    (hg2 : Gl X y) (hm2 : X.mg y = none) (hv2 : bootBuiltins y = some (.type T)) (hn2 : y ≠ "__name__") (hdb2 : (y == ("__debug__" : Str)) = false) (h1 : plainE e = true) : PE X (.Call (.Name x p) [e, .Name y p2] [] pos) (TEv F Ex (m1 m (bIsi T))) :=
  (pe_callB call_isi hg hm hv (pa_cons he (pa_cons (pe_bltn (v := .ty T) hg2 hm2 hv2 rfl hn2 hdb2) pa_nil rfl) (star_plain h1)) hn hdb (star_plain h1) rfl).weak fun σ H Q ⟨μ, ρ, G, s, g, q⟩ => by
    refine TEv.run s g q fun μ1 a G1 v H1 e1 r1 g1 s1 p1 => ?_
    unfold bIsi at p1
    simp only at p1
    split at p1
    · rename_i b eb
      obtain ⟨t, et, ek⟩ := Option.bind_eq_some_iff.mp eb
      have ty := tyP_rep et r1 g1
      rw [hK] at ty
      exact ⟨v, .ty T, .type t, .type T, b, rfl, .ty T, ty, kit_ty ek, p1.here RV.bl g1⟩
    · exact (show False from p1).elim

/-! ### methods -/
/-- the built-in type of a value, for its methods -/
def mMet (T : String) (mo : Env → GH → Res PV) (ms : Env → GH → Res (List PV)) (f : PV → List PV → GH → Res PV) : Env → GH → Res PV := fun ρ G => (mo ρ G).bind fun o G1 => if tyP G1 o = some T then (ms ρ G1).bind fun xs G2 => f o xs G2 else .bad
def RdM (F : Fx) (Ex : XK) (f : PV → List PV → GH → Res PV) : V → List V → Hp → VK → Prop := fun x vs H Q => ∃ μ p ps G, Rep F μ H p x ∧ Reps F μ H ps vs ∧ HRep F μ H G ∧ Post F (RV F) Ex μ H (f p ps G) Q
def mTy (T : String) : Bool := T == "str" || T == "list" || T == "dict"
theorem tyV_of {T : String} {K : PySem.W.Frag} {p : PV} {v : V} (hK : F.K = K) (e : tyP G p = some T) (hT : mTy T = true) (r : Rep F μ H p v) (g : HRep F μ H G) : tyV K T v H := by
  subst hK
  cases p with
  | non => simp only [tyP, Option.some.injEq] at e; subst e; cases hT
  | bl b => simp only [tyP, Option.some.injEq] at e; subst e; cases hT
  | int b => simp only [tyP, Option.some.injEq] at e; subst e; cases hT
  | str b => simp only [tyP, Option.some.injEq] at e; subst e; rw [rep_str r]; rfl
  | tup ps => simp only [tyP, Option.some.injEq] at e; subst e; cases hT
  | lst ps =>
    simp only [tyP, Option.some.injEq] at e; subst e
    obtain ⟨a, vs, rfl, z, st, rr⟩ := rep_lst r
    exact .inl ⟨rfl, vs, SqL.of st.2⟩
  | sls ps =>
    simp only [tyP, Option.some.injEq] at e; subst e
    obtain ⟨a, vs, rfl, z, st, rr⟩ := rep_sls r
    exact .inl ⟨rfl, vs, st.sq⟩
  | obj n =>
    obtain ⟨a, rfl, ha⟩ := rep_obj r
    simp only [tyP] at e
    split at e
    · rename_i ps eo
      cases e
      obtain ⟨vs, q, _⟩ := g.obj n a _ ha eo
      exact .inl ⟨rfl, vs, SqL.of q⟩
    · rename_i ps eo
      cases e
      obtain ⟨vs, q, _⟩ := g.obj n a _ ha eo
      exact .inr (.inr (.inl ⟨rfl, .inl ⟨vs, q⟩⟩))
    · cases e
theorem ev_met {o e : Expr} {es : List Expr} {name : Str} {apos cpos : Pos} {T id : String} {mo : Env → GH → Res PV} {ms : Env → GH → Res (List PV)} {f : PV → List PV → GH → Res PV} (hK : F.K = X.K) (hT : mTy T = true)
    (pa : PlainAttrs T) (slot : Slot T name id) (hty : typeOf (.builtin id) = pure (.type "method_descriptor")) (hm : MtR X id (RdM F Ex f)) (ho : PE X o (TEv F Ex mo)) (ha : PA X (e :: es) (TAv F Ex ms))
    (h1 : plainE e = true) (h2 : es.all plainE = true) (hbase : attributeBase o name X.env (eval o X.env) = eval o X.env)
    (hfew : ((backTo cpos (starEach (e :: es) X.env)).all (fun x => !x.1) && (backToKw cpos (keywordEach [] X.env)).all (fun x => x.1.isSome)
      && decide ((e :: es).length + ([] : List Keyword).length + (if ([] : List Keyword).isEmpty then 0 else 1) < 30)) = true)
    (hline : (apos.endLine == cpos.line) = true) : PE X (.Call (.Attribute o name apos) (e :: es) [] cpos) (TEv F Ex (mMet T mo ms f)) :=
  (pe_bm pa slot hty hm ho ha hbase hfew hline (star_plain h1) (any_star (e := e) h2)).weak fun σ H Q ⟨μ, ρ, G, s, g, p⟩ => by
    refine TEv.run s g p fun μ1 a G1 v H1 e1 r1 g1 s1 p1 => ?_
    split at p1
    · rename_i ht
      refine ⟨tyV_of hK ht hT r1 g1, TAv.run s1 g1 p1 fun μ2 b G2 w H2 e2 r2 g2 s2 p2 => ⟨μ2, a, b, G2, r1.mono e2, r2, g2, p2⟩⟩
    · exact (show False from p1).elim
def fAppend (o : PV) (xs : List PV) (G : GH) : Res PV := match o, xs with
  | .obj n, [y] => match G[n]? with
    | some (.lst ps) => if ps.length < sizeLine then .ok .non (G.set n (.lst (ps ++ [y]))) else .bad
    | _ => .bad
  | _, _ => .bad
/-- a list of ours is written -/
theorem Post.wrL {n : Nat} {p : PV} {ps : List PV} {vs : List V} {a : Addr} {v : V} {Q : VK} (h : Post F (RV F) Ex μ H (.ok p (G.set n (.lst ps))) Q) (g : HRep F μ H G) (ha : μ.ob[n]? = some a) (r : Reps F μ H ps vs) (z : vs.length ≤ sizeLine) (rp : Rep F μ H p v) : Q v (upd H a (.lst vs)) := by
  have m := List.mem_of_getElem? ha
  have e : Ext μ μ H (upd H a (.lst vs)) := Ext.write m
  exact h.ok e (show Rep F μ _ p v from rp.mono e) (g.write ha ⟨vs, upd_same, z, r.mono e⟩)
theorem fAppend_ok : MtR X "list.append" (RdM F Ex fAppend) := by
  intro pins s σ H x xs v us Q I rx rs ⟨μ, o, ps, G, r, rr, g, p⟩
  unfold fAppend at p
  split at p
  · obtain ⟨a, rfl, ha⟩ := rep_obj r
    obtain ⟨w, rfl, r1⟩ := Reps.one_inv rr
    split at p
    · rename_i qs eo
      split at p
      · rename_i hz
        obtain ⟨vs, q, z, r2⟩ := g.obj _ a _ ha eo
        have l := r2.length
        exact mt_append pins s σ H _ _ v us Q I rx rs ⟨a, vs, w, rfl, rfl, q, by omega, p.wrL g ha (r2.append (.one r1)) (by simp; omega) (by simp only [Rep])⟩
      · exact (show False from p).elim
    · exact (show False from p).elim
  · exact (show False from p).elim
def fPopAt (o : PV) (xs : List PV) (G : GH) : Res PV := match o, xs with
  | .obj n, [.int i] => match G[n]? with
    | some (.lst ps) => if -(2 ^ 63) ≤ i ∧ i < 2 ^ 63 then (match seqIndex? i ps.length with
      | some k => match ps[k]? with
        | some y => .ok y (G.set n (.lst (ps.eraseIdx k)))
        | none => .bad
      | none => .bad) else .bad
    | _ => .bad
  | _, _ => .bad
/-- what a new or changing list holds, tracked as a list -/
def asX (p : PV) (G : GH) : Option (List PV) := match p with
  | .lst ps => some ps
  | .obj n => match G[n]? with
    | some (.lst ps) => some ps
    | _ => none
  | _ => none
theorem asX_rep {p : PV} {ps : List PV} {v : V} (e : asX p G = some ps) (r : Rep F μ H p v) (g : HRep F μ H G) : ∃ a vs, v = .ref a ∧ vs.length ≤ sizeLine ∧ H a = some (.lst vs) ∧ Reps F μ H ps vs := by
  unfold asX at e
  split at e
  · cases e
    obtain ⟨a, vs, e1, z, st, rr⟩ := rep_lst r
    exact ⟨a, vs, e1, z, st.2, rr⟩
  · obtain ⟨a, e1, ha⟩ := rep_obj r
    split at e
    · rename_i qs eo
      cases e
      obtain ⟨vs, q, z, rr⟩ := g.obj _ a _ ha eo
      exact ⟨a, vs, e1, z, q, rr⟩
    · cases e
  · cases e
def fExtend (o : PV) (xs : List PV) (G : GH) : Res PV := match o, xs with
  | .obj n, [y] => match G[n]?, asX y G with
    | some (.lst ps), some qs => if ps.length + qs.length ≤ sizeLine then .ok .non (G.set n (.lst (ps ++ qs))) else .bad
    | _, _ => .bad
  | _, _ => .bad
theorem fExtend_ok : MtR X "list.extend" (RdM F Ex fExtend) := by
  intro pins s σ H x xs v us Q I rx rs ⟨μ, o, ps, G, r, rr, g, p⟩
  unfold fExtend at p
  split at p
  · obtain ⟨a, rfl, ha⟩ := rep_obj r
    obtain ⟨w, rfl, r1⟩ := Reps.one_inv rr
    split at p
    · rename_i qs zs eo ez
      split at p
      · rename_i hz
        obtain ⟨vs, q, z, r2⟩ := g.obj _ a _ ha eo
        obtain ⟨b, ws, rfl, z2, q2, r3⟩ := asX_rep ez r1 g
        have l := r2.length
        have l2 := r3.length
        exact mt_extend pins s σ H _ _ v us Q I rx rs ⟨a, b, vs, ws, rfl, rfl, q, q2, by omega, p.wrL g ha (r2.append r3) (by simp; omega) (by simp only [Rep])⟩
      · exact (show False from p).elim
    · exact (show False from p).elim
  · exact (show False from p).elim

/-! ### xs[i] = e -/
def fSetL (ps : List PV) (G : GH) : Res Unit := match ps with
  | [.obj n, .int k, v] => match G[n]? with
    | some (.lst qs) => match ixN qs.length k with
      | some j => .ok () (G.set n (.lst (qs.set j v)))
      | none => .bad
    | _ => .bad
  | _ => .bad
theorem fSetL_ok : PSet X (RdSet F Ex fSetL) := by
  intro pins s σ H o i v ov iv u Q I ro ri rv ⟨μ, ps, G, r, g, p⟩
  unfold fSetL at p
  split at p
  · obtain ⟨x1, t1, e1, r1, rr⟩ := r.cons_inv
    obtain ⟨x2, t2, e2, r2, rr⟩ := rr.cons_inv
    obtain ⟨x3, e3, r3⟩ := rr.one_inv
    subst e3
    subst e2
    cases e1
    obtain ⟨a, rfl, ha⟩ := rep_obj r1
    split at p
    · rename_i qs eo
      split at p
      · rename_i j ej
        obtain ⟨vs, q, z, r4⟩ := g.obj _ a _ ha eo
        have m := List.mem_of_getElem? ha
        refine set_list pins s σ H _ _ _ ov iv u Q I ro ri rv ⟨a, vs, _, j, rfl, rep_int r2, q, by rw [← r4.length]; exact ej, ?_⟩
        have e : Ext μ μ H (upd H a (.lst (vs.set j v))) := Ext.write m
        exact p.ok (b := ()) e trivial (g.write ha ⟨_, upd_same, by rw [List.length_set]; exact z, (Reps.set r3 j r4).mono e⟩)
      · exact (show False from p).elim
    · exact (show False from p).elim
  · exact (show False from p).elim
end

/-! ### own defs -/
structure Callee (X : Cx) (F : Fx) (n : Nat) (x : Str) (np : Nat) (m : List PV → GH → Res PV) : Prop where
  ex : ∃ (f : Addr) (fd : FuncData) (ps : List Str), FnG X.prog X.w X.K X.mg X.base n f fd ps (SpV F np m) ∧ X.mg x = some (.ref f) ∧ PySem.W.keepIn X.K (.ref f) = true ∧ Binds X.K fd ps []
/-- what a body's (or a block's) context is known to be -/
structure GX (X : Cx) (F : Fx) (Ex : XK) (n : Nat) : Prop where
  K : F.K = X.K
  calm : X.calm = true
  nd : X.N.Nodup
  room : Room n X.A
  gd : X.A.guards = some []
  pas : Passes (L2.CX X.prog X.w) X Ex
theorem GX.blk {X : Cx} {F : Fx} {Ex : XK} {n : Nat} (g : GX X F Ex n) (s : Shared) (H : Hp) (scope : Scope) (cenv : PySem.Env) (fp : List Addr) : GX (X.blk s H scope cenv fp) F E0 n := ⟨g.K, g.calm, g.nd, g.room, g.gd, passL⟩
theorem GX.un {X : Cx} {F : Fx} {Ex : XK} {n : Nat} (g : GX X F Ex n) : X.A.units + 64 < cLine := g.room.units
theorem ev_own {X : Cx} {F : Fx} {Ex : XK} {n np : Nat} {x : Str} {m : List PV → GH → Res PV} {ms : Env → GH → Res (List PV)} {e : Expr} {es : List Expr} {p pos : Pos} (g : GX X F Ex n) (c : Callee X F n x np m) (hg : Gl X x) (ha : PA X (e :: es) (TAv F Ex ms))
    (hdb : (x == ("__debug__" : Str)) = false) (h1 : plainE e = true) (h2 : es.all plainE = true) (hn : ∀ qs G, qs.length ≠ np → m qs G = .bad) : PE X (.Call (.Name x p) (e :: es) [] pos) (TEv F Ex (mA ms m)) := by
  obtain ⟨f, fd, ps, h3, h4, h5, h6⟩ := c.ex
  exact ev_call h3 g.room g.gd hg h4 h5 h6 g.pas ha hdb h1 h2 hn

/-! ### what a call leaves behind: new objects that nobody can reach are forgotten -/
mutual
def PV.refsB (n : Nat) : PV → Bool
  | .obj k => decide (k < n)
  | .tup ps => PV.refsBs n ps
  | .lst ps => PV.refsBs n ps
  | .sls ps => PV.refsBs n ps
  | _ => true
def PV.refsBs (n : Nat) : List PV → Bool
  | [] => true
  | p :: ps => PV.refsB n p && PV.refsBs n ps
end
def GO.refsB (n : Nat) : GO → Bool
  | .lst ps => PV.refsBs n ps
  | .dic kps => kps.all fun q => PV.refsB n q.2
  | .ins _ fs => fs.all fun q => PV.refsB n q.2
theorem Chg.take {F : Fx} {μ : Mu} {H : Hp} (n : Nat) : (∀ a xs, StL F μ H a xs → StL F ⟨μ.ob.take n, μ.rs⟩ H a xs) ∧ (∀ a xs, StX μ H a xs → StX ⟨μ.ob.take n, μ.rs⟩ H a xs) ∧ (∀ a xs, StT F μ H a xs → StT F ⟨μ.ob.take n, μ.rs⟩ H a xs) := by
  have aux : ∀ {a : Addr}, μ.free a → (⟨μ.ob.take n, μ.rs⟩ : Mu).free a := fun {a} f => ⟨fun m => f.1 (List.mem_of_mem_take m), f.2⟩
  exact ⟨fun a xs h => h.imp (fun q => ⟨aux q.1, q.2⟩) id, fun a xs h => ⟨aux h.1, h.2⟩, fun a xs h => h.imp (fun q => ⟨aux q.1, q.2⟩) id⟩
mutual
theorem Rep.take {F : Fx} {μ : Mu} {H : Hp} (n : Nat) : ∀ {p : PV} {v : V}, PV.refsB n p = true → Rep F μ H p v → Rep F ⟨μ.ob.take n, μ.rs⟩ H p v
  | .non, _, _, h => by simpa only [Rep] using h
  | .bl b, _, _, h => by simpa only [Rep] using h
  | .int i, _, _, h => by simpa only [Rep] using h
  | .str x, _, _, h => by simpa only [Rep] using h
  | .tup ps, v, e, h => by
    simp only [Rep] at h ⊢
    simp only [PV.refsB] at e
    obtain ⟨a, vs, e1, z, s, r⟩ := h
    exact ⟨a, vs, e1, z, (Chg.take n).2.2 _ _ s, Reps.take' n e r⟩
  | .lst ps, v, e, h => by
    simp only [Rep] at h ⊢
    simp only [PV.refsB] at e
    obtain ⟨a, vs, e1, z, s, r⟩ := h
    exact ⟨a, vs, e1, z, (Chg.take (F := F) n).2.1 _ _ s, Reps.take' n e r⟩
  | .sls ps, v, e, h => by
    simp only [Rep] at h ⊢
    simp only [PV.refsB] at e
    obtain ⟨a, vs, e1, z, s, r⟩ := h
    exact ⟨a, vs, e1, z, (Chg.take n).1 _ _ s, Reps.take' n e r⟩
  | .obj k, v, e, h => by
    simp only [Rep] at h ⊢
    simp only [PV.refsB, decide_eq_true_eq] at e
    obtain ⟨a, e1, g⟩ := h
    exact ⟨a, e1, by show (μ.ob.take n)[k]? = some a; rw [List.getElem?_take_of_lt e]; exact g⟩
theorem Reps.take' {F : Fx} {μ : Mu} {H : Hp} (n : Nat) : ∀ {ps : List PV} {vs : List V}, PV.refsBs n ps = true → Reps F μ H ps vs → Reps F ⟨μ.ob.take n, μ.rs⟩ H ps vs
  | [], _, _, h => by simpa only [Reps] using h
  | p :: ps, vs, e, h => by
    simp only [Reps] at h ⊢
    simp only [PV.refsBs, Bool.and_eq_true] at e
    obtain ⟨v, r, e1, h1, h2⟩ := h
    exact ⟨v, r, e1, Rep.take n e.1 h1, Reps.take' n e.2 h2⟩
end
end EV
end
section
set_option Elab.async false
set_option linter.all false
set_option maxRecDepth 100000
/-! Ev12: what a def leaves behind; a def, by its body. -/
namespace EV
open PySem PySem.Spec PyProof.Rows L2
section
variable {X : Cx} {F : Fx} {Ex : XK} {μ : Mu} {H : Hp} {G : GH}
mutual
theorem Rep.refs : ∀ {p : PV} {v : V}, Rep F μ H p v → PV.refsB μ.ob.length p = true
  | .non, _, h => by simp only [PV.refsB]
  | .bl b, _, h => by simp only [PV.refsB]
  | .int i, _, h => by simp only [PV.refsB]
  | .str x, _, h => by simp only [PV.refsB]
  | .tup ps, v, h => by
    simp only [Rep] at h
    simp only [PV.refsB]
    obtain ⟨a, vs, e1, z, s, r⟩ := h
    exact Reps.refs r
  | .lst ps, v, h => by
    simp only [Rep] at h
    simp only [PV.refsB]
    obtain ⟨a, vs, e1, z, s, r⟩ := h
    exact Reps.refs r
  | .sls ps, v, h => by
    simp only [Rep] at h
    simp only [PV.refsB]
    obtain ⟨a, vs, e1, z, s, r⟩ := h
    exact Reps.refs r
  | .obj k, v, h => by
    simp only [Rep] at h
    simp only [PV.refsB, decide_eq_true_eq]
    obtain ⟨a, e1, g⟩ := h
    exact (List.getElem?_eq_some_iff.mp g).1
theorem Reps.refs : ∀ {ps : List PV} {vs : List V}, Reps F μ H ps vs → PV.refsBs μ.ob.length ps = true
  | [], _, h => by simp only [PV.refsBs]
  | p :: ps, vs, h => by
    simp only [Reps] at h
    simp only [PV.refsBs, Bool.and_eq_true]
    obtain ⟨v, r, e1, h1, h2⟩ := h
    exact ⟨Rep.refs h1, Reps.refs h2⟩
end
theorem paired_in {α β : Type} {R : α → β → Prop} {l : List α} {m : List β} (h : Paired R l m) {x : α} (hx : x ∈ l) : ∃ y, R x y := by
  induction h with
  | nil => cases hx
  | cons h1 _ ih =>
    rcases List.mem_cons.mp hx with e | e
    · exact ⟨_, e ▸ h1⟩
    · exact ih e
theorem paired_map {α β : Type} {R S : α → β → Prop} {l : List α} {m : List β} (h : Paired R l m) (w : ∀ a ∈ l, ∀ b, R a b → S a b) : Paired S l m := by
  induction h with
  | nil => exact .nil
  | cons h1 _ ih => exact .cons (w _ List.mem_cons_self _ h1) (ih fun a ha => w a (List.mem_cons_of_mem _ ha))
theorem RepO.refs {a : Addr} {o : GO} (h : RepO F μ H a o) : GO.refsB μ.ob.length o = true := by
  cases o with
  | lst ps => obtain ⟨vs, q, z, r⟩ := h; exact r.refs
  | dic ps =>
    obtain ⟨vs, q, z, r⟩ := h
    refine List.all_eq_true.mpr fun x hx => ?_
    obtain ⟨y, hy⟩ := paired_in r hx
    exact hy.2.refs
  | ins c fs =>
    obtain ⟨dx, vs, q, d, n, r⟩ := h
    refine List.all_eq_true.mpr fun x hx => ?_
    obtain ⟨y, hy⟩ := paired_in r hx
    exact hy.2.refs
theorem RepO.take' (n : Nat) {a : Addr} {o : GO} (e : GO.refsB n o = true) (h : RepO F μ H a o) : RepO F ⟨μ.ob.take n, μ.rs⟩ H a o := by
  cases o with
  | lst ps => obtain ⟨vs, q, z, r⟩ := h; exact ⟨vs, q, z, r.take' n e⟩
  | dic ps =>
    obtain ⟨vs, q, z, r⟩ := h
    exact ⟨vs, q, z, paired_map r fun x hx y hy => ⟨hy.1, hy.2.take n (List.all_eq_true.mp e x hx)⟩⟩
  | ins c fs =>
    obtain ⟨dx, vs, q, d, f, r⟩ := h
    exact ⟨dx, vs, q, d, ⟨fun m => f.1 (List.mem_of_mem_take m), f.2⟩, paired_map r fun x hx y hy => ⟨hy.1, hy.2.take n (List.all_eq_true.mp e x hx)⟩⟩
/-! ### the same objects -/
def sameK : List (Key × PV) → List (Key × PV) → Bool
  | [], [] => true
  | a :: as, b :: bs => decide (a.1 = b.1) && (PV.same a.2 b.2 && sameK as bs)
  | _, _ => false
theorem sameK_eq : ∀ {a b : List (Key × PV)}, sameK a b = true → a = b
  | [], b, h => by cases b <;> simp [sameK] at h; rfl
  | a :: as, [], h => by simp [sameK] at h
  | (a, p) :: as, (b, q) :: bs, h => by
    simp only [sameK, Bool.and_eq_true, decide_eq_true_eq] at h
    rw [show a = b from h.1, PV.same_eq h.2.1, sameK_eq h.2.2]
theorem sameK_self : ∀ a : List (Key × PV), sameK a a = true
  | [] => rfl
  | a :: as => by unfold sameK; rw [decide_eq_true rfl, PV.same_self, sameK_self as]; rfl
def sameF : List (Str × PV) → List (Str × PV) → Bool
  | [], [] => true
  | a :: as, b :: bs => decide (a.1 = b.1) && (PV.same a.2 b.2 && sameF as bs)
  | _, _ => false
theorem sameF_eq : ∀ {a b : List (Str × PV)}, sameF a b = true → a = b
  | [], b, h => by cases b <;> simp [sameF] at h; rfl
  | a :: as, [], h => by simp [sameF] at h
  | (a, p) :: as, (b, q) :: bs, h => by
    simp only [sameF, Bool.and_eq_true, decide_eq_true_eq] at h
    rw [show a = b from h.1, PV.same_eq h.2.1, sameF_eq h.2.2]
theorem sameF_self : ∀ a : List (Str × PV), sameF a a = true
  | [] => rfl
  | a :: as => by unfold sameF; rw [decide_eq_true rfl, PV.same_self, sameF_self as]; rfl
def GO.same : GO → GO → Bool
  | .lst a, .lst b => PV.sames a b
  | .dic a, .dic b => sameK a b
  | .ins c a, .ins d b => c == d && sameF a b
  | _, _ => false
theorem GO.same_eq {a b : GO} (h : GO.same a b = true) : a = b := by
  cases a <;> cases b <;> first
    | (cases h; done)
    | (rw [PV.sames_eq (show PV.sames _ _ = true from h)]; done)
    | (rw [sameK_eq (show sameK _ _ = true from h)]; done)
    | skip
  rename_i c x d y
  have h' : (c == d && sameF x y) = true := h
  simp only [Bool.and_eq_true, beq_iff_eq] at h'
  rw [h'.1, sameF_eq h'.2]
theorem GO.same_self (a : GO) : GO.same a a = true := by
  cases a with
  | lst a => exact PV.sames_self a
  | dic a => exact sameK_self a
  | ins c a => show (c == c && sameF a a) = true; rw [sameF_self]; simp
/-- the object is as it was, or names old ones alone -/
def okB (n : Nat) : GH → GH → Bool
  | _, [] => true
  | [], o :: G1 => GO.refsB n o && okB n [] G1
  | p :: G0, o :: G1 => (GO.same o p || GO.refsB n o) && okB n G0 G1
theorem okB_at {n : Nat} : ∀ {G0 G1 : GH} {i : Nat} {o : GO}, okB n G0 G1 = true → G1[i]? = some o → G0[i]? = some o ∨ GO.refsB n o = true
  | _, [], _, _, _, h => by simp at h
  | [], u :: G1, 0, o, e, h => by
    simp only [okB, Bool.and_eq_true] at e
    simp at h; subst h; exact .inr e.1
  | [], u :: G1, i + 1, o, e, h => by
    simp only [okB, Bool.and_eq_true] at e
    rcases okB_at e.2 (by simpa using h) with q | q
    · simp at q
    · exact .inr q
  | p :: G0, u :: G1, 0, o, e, h => by
    simp only [okB, Bool.and_eq_true, Bool.or_eq_true] at e
    simp at h; subst h
    rcases e.1 with q | q
    · rw [GO.same_eq q]; exact .inl rfl
    · exact .inr q
  | p :: G0, u :: G1, i + 1, o, e, h => by
    simp only [okB, Bool.and_eq_true] at e
    rcases okB_at e.2 (by simpa using h) with q | q
    · exact .inl (by simpa using q)
    · exact .inr q
theorem okB_self {n : Nat} : ∀ G : GH, okB n G G = true
  | [] => rfl
  | p :: G => by simp only [okB, Bool.and_eq_true, Bool.or_eq_true]; exact ⟨.inl (GO.same_self p), okB_self G⟩
/-- new objects that nobody can reach are forgotten -/
def trimR (G0 : GH) (r : Res PV) : Res PV := match r with
  | .ok a G1 => if (PV.refsB G0.length a && okB G0.length G0 (G1.take G0.length)) = true ∧ G0.length ≤ G1.length then .ok a (G1.take G0.length) else .ok a G1
  | r => r
theorem HRep.take (h : HRep F μ H G) (n : Nat) (e : ∀ (i : Nat) o, i < n → G[i]? = some o → GO.refsB n o = true) : HRep F ⟨μ.ob.take n, μ.rs⟩ H (G.take n) where
  len := by simp [h.len]
  nd := (List.take_sublist n μ.ob).nodup h.nd
  obj := fun i a o h1 h2 => by
    have h1 : (μ.ob.take n)[i]? = some a := h1
    have hi : i < n := by
      have := (List.getElem?_eq_some_iff.mp h1).1
      simp at this; omega
    rw [List.getElem?_take_of_lt hi] at h1 h2
    exact (h.obj i a o h1 h2).take' n (e i o hi h2)
  res := fun a m => let ⟨h1, h2⟩ := h.res a m; ⟨fun k => h1 (List.mem_of_mem_take k), h2⟩
  tab := h.tab
theorem trim_post {r : Res PV} {Q : VK} (g : HRep F μ H G) (h : Post F (RV F) Ex μ H (trimR G r) Q) : Post F (RV F) Ex μ H r Q := by
  cases r with
  | bad => exact h
  | exc c fs G1 => exact h
  | ok a G1 =>
    unfold trimR at h
    simp only at h
    split at h
    · rename_i c
      obtain ⟨c1, c3⟩ := c
      rw [Bool.and_eq_true] at c1
      obtain ⟨c1, c2⟩ := c1
      intro μ' b H' e x y
      obtain ⟨r, hr⟩ := e.pre
      have hl : G.length = μ.ob.length := g.len.symm
      have ht : μ'.ob.take G.length = μ.ob := by rw [hr, hl]; simp
      have em : (⟨μ'.ob.take G.length, μ'.rs⟩ : Mu) = μ := by rw [ht, e.rs]
      have y2 := y.take G.length fun i o hi ho => by
        have ho2 : (G1.take G.length)[i]? = some o := by rw [List.getElem?_take_of_lt hi]; exact ho
        rcases okB_at c2 ho2 with q | q
        · have ha : ∃ a, μ.ob[i]? = some a := ⟨_, List.getElem?_eq_getElem (by rw [← hl]; exact hi)⟩
          obtain ⟨a', ha⟩ := ha
          rw [hl]
          exact (g.obj i a' o ha q).refs
        · exact q
      have x2 : Rep F ⟨μ'.ob.take G.length, μ'.rs⟩ H' a b := Rep.take G.length c1 x
      rw [em] at y2 x2
      exact h μ b H' ⟨⟨[], by simp⟩, rfl, fun a m k => absurd m k, e.keep⟩ x2 y2
    · exact h
theorem trim_same (a : PV) (G : GH) : trimR G (.ok a G) = .ok a G := by
  unfold trimR
  simp only [List.take_length]
  split <;> rfl
end

/-! ### a def, by its body -/
/-- what a def computes -/
def defV (np : Nat) (N : List Str) (m : Env → GH → Res Fl) (ps : List PV) (G : GH) : Res PV := if ps.length = np then trimR G ((m (env0 N.length ps) G).bind bodyEnd) else .bad
structure CalleeP (P : Program) (w : World) (K : PySem.W.Frag) (mg : Str → Option Value) (base : Heap) (F : Fx) (n : Nat) (x : Str) (np : Nat) (m : List PV → GH → Res PV) : Prop where
  ex : ∃ (f : Addr) (fd : FuncData) (ps : List Str), FnG P w K mg base n f fd ps (SpV F np m) ∧ mg x = some (.ref f) ∧ PySem.W.keepIn K (.ref f) = true ∧ Binds K fd ps []
  ar : ∀ qs G, qs.length ≠ np → m qs G = .bad
theorem CalleeP.at {X : Cx} {F : Fx} {n : Nat} {x : Str} {np : Nat} {m : List PV → GH → Res PV} (c : CalleeP X.prog X.w X.K X.mg X.base F n x np m) : Callee X F n x np m := ⟨c.ex⟩
section
variable {P : Program} {w : World} {K : PySem.W.Frag} {mg : Str → Option Value} {base : Heap} {F : Fx} {n : Nat}
abbrev CXo (P : Program) (w : World) (K : PySem.W.Frag) (mg : Str → Option Value) (base : Heap) (N : List Str) (qual : Str) (scope : Scope) (f : Addr) (cdv : Value) (A : Around) (outer : List PySem.Env) (s : Shared) (H : Hp) (E : XK) : Cx := cxOf (L2.CX P w) P w K mg base N qual scope f cdv A outer s H E
/-- the code object of the def at f -/
def CodeAt (K : PySem.W.Frag) (f : Addr) (cdv : Value) : Prop := ∃ oc od osl fd, K.lookup f = some ⟨oc, od, .func fd, osl⟩ ∧ fd.code = cdv
theorem def_ok {name qual : Str} {params : Arguments} {body : List Stmt} {scope : Scope} {f : Addr} {fd : FuncData} {N ps : List Str} {m : Env → GH → Res Fl} (hK : F.K = K) (Fd : FunD K name qual params body scope [] [] f fd) (S : FnScope N ps scope)
    (hm : mg name = some (.ref f)) (hb : Binds K fd ps []) (hbody : ∀ (cdv : Value) (A : Around) (outer : List PySem.Env) (s : Shared) (H : Hp) (E : XK), GX (CXo P w K mg base N qual scope f cdv A outer s H E) F E n →
      PassesOwn (model P w) (CXo P w K mg base N qual scope f cdv A outer s H E).A (CXo P w K mg base N qual scope f cdv A outer s H E).env (CXo P w K mg base N qual scope f cdv A outer s H E).xe → CodeAt K f cdv → PSs (CXo P w K mg base N qual scope f cdv A outer s H E) body (TSv F E m)) :
    CalleeP P w K mg base F (n + 1) name ps.length (defV ps.length N m) where
  ex := by
    obtain ⟨oc, od, dV, kV, doc, pm, an, cdv, ct, osl, e, lk, hcd, _, _⟩ := Fd.ex
    subst e
    refine ⟨f, _, ps, fnG_of lk hcd S (fun vs H Q E h => h.1) (fun A outer s H vs Q E hr hgd h => ?_), hm, Fd.kp, hb⟩
    refine ⟨_, hbody cdv A outer s H E ⟨hK, rfl, S.nd, hr, hgd, passes_call (takes_of rfl rfl rfl rfl) fun _ _ _ _ z => z⟩ (passes_of rfl) ⟨_, _, _, _, lk, rfl⟩, body_read (N := N) ?_⟩
    obtain ⟨h1, μ, qs, G, r, g, p⟩ := h
    unfold defV at p
    rw [if_pos (r.length.trans h1)] at p
    exact ⟨μ, qs, G, r, g, trim_post g p⟩
  ar := fun qs G h => by unfold defV; rw [if_neg h]
theorem callee0 {name qual : Str} {params : Arguments} {body : List Stmt} {scope : Scope} {f : Addr} {fd : FuncData} {ps : List Str} (Fd : FunD K name qual params body scope [] [] f fd) (hm : mg name = some (.ref f)) (hb : Binds K fd ps []) : CalleeP P w K mg base F 0 name ps.length (fun _ _ => .bad) where
  ex := ⟨f, fd, ps, ⟨fun vs H Q E h => h.1, fun A outer s H args us vs Q E _ _ _ _ _ h => by
    obtain ⟨_, μ, qs, G, r, g, p⟩ := h
    exact (show False from p).elim⟩, hm, Fd.kp, hb⟩
  ar := fun _ _ _ => rfl
end
section
variable {X : Cx} {F : Fx} {Ex : XK}
theorem ev_ownP {n np : Nat} {x : Str} {m : List PV → GH → Res PV} {ms : Env → GH → Res (List PV)} {e : Expr} {es : List Expr} {p pos : Pos} (g : GX X F Ex n) (c : CalleeP X.prog X.w X.K X.mg X.base F n x np m) (hg : Gl X x) (hdb : (x == ("__debug__" : Str)) = false)
    (h1 : plainE e = true) (h2 : es.all plainE = true) (ha : PA X (e :: es) (TAv F Ex ms)) : PE X (.Call (.Name x p) (e :: es) [] pos) (TEv F Ex (mA ms m)) := ev_own g c.at hg ha hdb h1 h2 c.ar
end
end EV
end
section
set_option Elab.async false
set_option linter.all false
set_option maxRecDepth 100000
/-! Ev13: the rules as the printed proofs name them: side conditions by running. -/
namespace EV
open PySem PySem.Spec PyProof.Rows L2
def visB (sc : Scope) (x : Str) : Bool := sc.names.lookup x == some .local || (sc.names.lookup x == some .cell || sc.names.lookup x == some .free)
theorem vis_of {sc : Scope} {x : Str} (h : visB sc x = true) : Vis sc x := by
  unfold visB at h
  simp only [Bool.or_eq_true, beq_iff_eq] at h
  exact h
def nmB (x : Str) : Bool := !(x == ("__debug__" : Str)) && !(x == ("__classdict__" : Str))
theorem nm1 {x : Str} (h : nmB x = true) : (x == ("__debug__" : Str)) = false := by
  unfold nmB at h
  simp only [Bool.and_eq_true, Bool.not_eq_true'] at h
  exact h.1
theorem nm2 {x : Str} (h : nmB x = true) : (x == ("__classdict__" : Str)) = false := by
  unfold nmB at h
  simp only [Bool.and_eq_true, Bool.not_eq_true'] at h
  exact h.2
def locB (X : Cx) (x : Str) : Bool := X.env.scope.names.lookup x == some .local || (X.env.scope.names.lookup x == some .cell && X.fn x)
theorem loc_of {X : Cx} {x : Str} (h : locB X x = true) : Loc X.env.scope x ∧ (X.fn x = true ∨ X.env.scope.names.lookup x = some .local) := by
  unfold locB at h
  simp only [Bool.or_eq_true, Bool.and_eq_true, beq_iff_eq] at h
  rcases h with h | h
  · exact ⟨.inl h, .inr h⟩
  · exact ⟨.inr h.1, .inl h.2⟩
def blkB (N : List Str) (sc scope : Scope) (own : List (Str × Nat)) : Bool :=
  scope.kind == .function && (scope.names.all (fun y => scope.names.lookup y.1 == some y.2) && (own.all (fun p => N[p.2]? == some p.1) && (scope.names.all (fun y => !(y.2 == .free) || (sc.names.lookup y.1 == some .cell || sc.names.lookup y.1 == some .free)) &&
    scope.names.all (fun y => !(y.2 == .local || y.2 == .cell) || ((own.map (·.1)).contains y.1 || !(N.contains y.1))))))
theorem blk_of {N : List Str} {sc scope : Scope} {own : List (Str × Nat)} (h : blkB N sc scope own = true) : BlkOk N sc scope own := by
  unfold blkB at h
  simp only [Bool.and_eq_true] at h
  obtain ⟨h1, h2, h3, h4, h5⟩ := h
  refine ⟨by simpa using h1, fun y hy => by simpa using List.all_eq_true.mp h2 y hy, fun p hp => by simpa using List.all_eq_true.mp h3 p hp, fun y hy e => ?_, fun y hy e => ?_⟩
  · have q := List.all_eq_true.mp h4 y hy
    rw [e] at q
    simpa using q
  · have q := List.all_eq_true.mp h5 y hy
    have q2 : ((own.map (·.1)).contains y.1 || !(N.contains y.1)) = true := by
      rcases e with e | e <;> (rw [e] at q; simpa using q)
    rw [Bool.or_eq_true] at q2
    rcases q2 with q2 | q2
    · exact .inl (by simpa using q2)
    · exact .inr (by simpa using q2)
section
variable {X : Cx} {F : Fx} {Ex : XK} {n : Nat}
theorem gvar (i : Nat) {x : Str} {pos : Pos} (hN : X.N[i]? = some x := by kernel_rfl) (hv : visB X.env.scope x = true := by kernel_rfl) (hd : nmB x = true := by kernel_rfl) : PE X (.Name x pos) (TEv F Ex (mVar i)) := ev_var hN (vis_of hv) (nm1 hd) (nm2 hd)
theorem gadd (g : GX X F Ex n) {a b : Expr} {pos : Pos} {ma mb : Env → GH → Res PV} (ha : PE X a (TEv F Ex ma)) (hb : PE X b (TEv F Ex mb)) : PE X (.BinOp a .Add b pos) (TEv F Ex (m2 ma mb opAdd)) := ev_bin (opAdd_ok g.K) ha hb
theorem gsub (g : GX X F Ex n) {a b : Expr} {pos : Pos} {ma mb : Env → GH → Res PV} (ha : PE X a (TEv F Ex ma)) (hb : PE X b (TEv F Ex mb)) : PE X (.BinOp a .Sub b pos) (TEv F Ex (m2 ma mb opSub)) := ev_bin opSub_ok ha hb
theorem gmul (g : GX X F Ex n) {a b : Expr} {pos : Pos} {ma mb : Env → GH → Res PV} (ha : PE X a (TEv F Ex ma)) (hb : PE X b (TEv F Ex mb)) : PE X (.BinOp a .Mult b pos) (TEv F Ex (m2 ma mb opMul)) := ev_bin (opMul_ok g.K) ha hb
theorem gmod (g : GX X F Ex n) {a b : Expr} {pos : Pos} {ma mb : Env → GH → Res PV} (ha : PE X a (TEv F Ex ma)) (hb : PE X b (TEv F Ex mb)) : PE X (.BinOp a .Mod b pos) (TEv F Ex (m2 ma mb opMod)) := ev_bin opMod_ok ha hb
theorem gdiv (g : GX X F Ex n) {a b : Expr} {pos : Pos} {ma mb : Env → GH → Res PV} (ha : PE X a (TEv F Ex ma)) (hb : PE X b (TEv F Ex mb)) : PE X (.BinOp a .FloorDiv b pos) (TEv F Ex (m2 ma mb opDiv)) := ev_bin opDiv_ok ha hb
theorem gpow (g : GX X F Ex n) {a b : Expr} {pos : Pos} {ma mb : Env → GH → Res PV} (ha : PE X a (TEv F Ex ma)) (hb : PE X b (TEv F Ex mb)) : PE X (.BinOp a .Pow b pos) (TEv F Ex (m2 ma mb opPow)) := ev_bin opPow_ok ha hb
theorem gneg (g : GX X F Ex n) {a : Expr} {pos : Pos} {ma : Env → GH → Res PV} (ha : PE X a (TEv F Ex ma)) : PE X (.UnaryOp .USub a pos) (TEv F Ex (m1 ma opNeg)) := ev_un opNeg_ok ha
end
section
variable {X : Cx} {F : Fx} {Ex : XK} {n : Nat} {a b c : Expr} {pos : Pos} {ma mb mc : Env → GH → Res PV}
/-- the comparisons -/
inductive Cop where
  | eq | ne | lt | le | gt | ge | is | isnot | in_ | notin
def Cop.op : Cop → CmpOp
  | .eq => .Eq
  | .ne => .NotEq
  | .lt => .Lt
  | .le => .LtE
  | .gt => .Gt
  | .ge => .GtE
  | .is => .Is
  | .isnot => .IsNot
  | .in_ => .In
  | .notin => .NotIn
def Cop.f : Cop → List PV → GH → Res PV
  | .eq => opEq
  | .ne => opNe
  | .lt => opLt
  | .le => opLe
  | .gt => opGt
  | .ge => opGe
  | .is => opIsN false
  | .isnot => opIsN true
  | .in_ => opIn
  | .notin => opNotIn
theorem Cop.ok (g : GX X F Ex n) : ∀ o : Cop, OpR X (compareOp o.op) (OpV F Ex o.f)
  | .eq => opEq_ok g.K g.un
  | .ne => opNe_ok g.K g.un
  | .lt => opLt_ok g.K g.un
  | .le => opLe_ok g.K g.un
  | .gt => opGt_ok g.K g.un
  | .ge => opGe_ok g.K g.un
  | .is => opIs_ok
  | .isnot => opIsNot_ok
  | .in_ => opIn_ok g.K
  | .notin => opNotIn_ok g.K
theorem gcmp (g : GX X F Ex n) (o : Cop) (ha : PE X a (TEv F Ex ma)) (hb : PE X b (TEv F Ex mb)) (hm : behindInMarks o.op b = false := by kernel_rfl) : PE X (.Compare a [o.op] [b] pos) (TEv F Ex (m2 ma mb o.f)) := ev_cmp (o.ok g) ha hb hm
theorem gcmpT (g : GX X F Ex n) (o : Cop) (ha : PE X a (TEv F Ex ma)) (hb : PE X b (TEv F Ex mb)) (hm : behindInMarks o.op b = false := by kernel_rfl) : PT X (.Compare a [o.op] [b] pos) (TTv F Ex (mB (m2 ma mb o.f))) := ev_cmpT (o.ok g) ha hb hm
theorem gchnT (g : GX X F Ex n) (o o' : Cop) (ha : PE X a (TEv F Ex ma)) (hb : PE X b (TEv F Ex mb)) (hc : PE X c (TEv F Ex mc)) (hm : lastMarks [o.op, o'.op] [b, c] = false := by kernel_rfl) : PT X (.Compare a [o.op, o'.op] [b, c] pos) (TTv F Ex (mB (m3c ma mb mc o.f o'.f))) := ev_chainT (o.ok g) (o'.ok g) ha hb hc hm
theorem gix (g : GX X F Ex n) (hs : PlainIx b) (ha : PE X a (TEv F Ex ma)) (hb : PE X b (TEv F Ex mb)) : PE X (.Subscript a b pos) (TEv F Ex (m2 ma mb opIx)) := ev_ix (opIx_ok g.K) ha hb hs
theorem gsl (g : GX X F Ex n) {lo hi : Option Expr} {p2 : Pos} {l h : Env → GH → Res (Option Int)} (he : PE X a (TEv F Ex ma)) (hl : PO X lo (TOv F Ex l)) (hu : PO X hi (TOv F Ex h)) : PE X (.Subscript a (.Slice lo hi none p2) pos) (TEv F Ex (mSl ma l h opSl)) := ev_sl (opSl_ok g.K) he hl hu
theorem gand (g : GX X F Ex n) {rest : List Expr} (ha : PE X a (TEv F Ex ma)) (hb : PE X (.BoolOp .And (b :: rest) pos) (TEv F Ex mb)) : PE X (.BoolOp .And (a :: b :: rest) pos) (TEv F Ex (mAnd ma mb)) := ev_and g.K ha hb
theorem gor (g : GX X F Ex n) {rest : List Expr} (ha : PE X a (TEv F Ex ma)) (hb : PE X (.BoolOp .Or (b :: rest) pos) (TEv F Ex mb)) : PE X (.BoolOp .Or (a :: b :: rest) pos) (TEv F Ex (mOr ma mb)) := ev_or g.K ha hb
theorem gnot (g : GX X F Ex n) (ha : PE X a (TEv F Ex ma)) : PE X (.UnaryOp .Not a pos) (TEv F Ex (mNot ma)) := ev_not g.K ha
theorem gtru (g : GX X F Ex n) (ha : PE X a (TEv F Ex ma)) (he : ∀ whole, isTrue a X.env whole = (do let v ← whole; standAt a.pos; holding [v] (truthy v)) := by intro _; rfl) : PT X a (TTv F Ex (mT ma)) := ev_truth g.K ha he
theorem gisi (g : GX X F Ex n) {x y : Str} {p p2 : Pos} (T : String) (hm : X.mg x = none) (hm2 : X.mg y = none) (ha : PE X a (TEv F Ex ma)) (hg : X.env.kindOf x = some .globalImplicit := by kernel_rfl) (hv : bootBuiltins x = some (.builtin "isinstance") := by kernel_rfl) (hn : x ≠ "__name__" := by decide) (hd : nmB x = true := by kernel_rfl)
    (hg2 : X.env.kindOf y = some .globalImplicit := by kernel_rfl) (hv2 : bootBuiltins y = some (.type T) := by kernel_rfl) (hn2 : y ≠ "__name__" := by decide) (hd2 : nmB y = true := by kernel_rfl) (h1 : plainE a = true := by kernel_rfl) : PE X (.Call (.Name x p) [a, .Name y p2] [] pos) (TEv F Ex (m1 ma (bIsi T))) :=
  ev_isi g.K ha hg hm hv hn (nm1 hd) hg2 hm2 hv2 hn2 (nm1 hd2) h1
theorem gblt {id : String} {x : Str} {es : List Expr} {p : Pos} {ms : Env → GH → Res (List PV)} {f : List PV → GH → Res PV} (hc : CallR X (.builtin id) (RdV F Ex f)) (hm : X.mg x = none) (ha : PA X (a :: es) (TAv F Ex ms)) (hv : bootBuiltins x = some (.builtin id) := by kernel_rfl) (hg : X.env.kindOf x = some .globalImplicit := by kernel_rfl)
    (hn : x ≠ "__name__" := by decide) (hd : nmB x = true := by kernel_rfl) (h1 : plainE a = true := by kernel_rfl) (h2 : es.all plainE = true := by kernel_rfl) : PE X (.Call (.Name x p) (a :: es) [] pos) (TEv F Ex (mA ms f)) := ev_blt hc hg hm hv ha hn (nm1 hd) h1 h2
theorem gbty {T : String} {x : Str} {es : List Expr} {p : Pos} {ms : Env → GH → Res (List PV)} {f : List PV → GH → Res PV} (hc : CallR X (.type T) (RdV F Ex f)) (hm : X.mg x = none) (ha : PA X (a :: es) (TAv F Ex ms)) (hv : bootBuiltins x = some (.type T) := by kernel_rfl) (hg : X.env.kindOf x = some .globalImplicit := by kernel_rfl)
    (hn : x ≠ "__name__" := by decide) (hd : nmB x = true := by kernel_rfl) (h1 : plainE a = true := by kernel_rfl) (h2 : es.all plainE = true := by kernel_rfl) : PE X (.Call (.Name x p) (a :: es) [] pos) (TEv F Ex (mA ms f)) := ev_bty hc hg hm hv ha hn (nm1 hd) h1 h2
theorem gown (g : GX X F Ex n) {x : Str} {np : Nat} {m : List PV → GH → Res PV} {es : List Expr} {p : Pos} {ms : Env → GH → Res (List PV)} (c : CalleeP X.prog X.w X.K X.mg X.base F n x np m) (ha : PA X (a :: es) (TAv F Ex ms)) (hg : X.env.kindOf x = some .globalImplicit := by kernel_rfl) (hd : nmB x = true := by kernel_rfl)
    (h1 : plainE a = true := by kernel_rfl) (h2 : es.all plainE = true := by kernel_rfl) : PE X (.Call (.Name x p) (a :: es) [] pos) (TEv F Ex (mA ms m)) := ev_ownP g c hg (nm1 hd) h1 h2 ha
theorem gcons {es : List Expr} {ms : Env → GH → Res (List PV)} (he : PE X a (TEv F Ex ma)) (hs : PA X es (TAv F Ex ms)) (hp : plainE a = true := by kernel_rfl) : PA X (a :: es) (TAv F Ex (mCons ma ms)) := ev_cons hp he hs
theorem gtn (g : GX X F Ex n) (i : Nat) {x : Str} {p : Pos} (hi : X.N[i]? = some x := by kernel_rfl) (hx : locB X x = true := by kernel_rfl) : PG X (.Name x p) (TGv F Ex [i] (gN i)) := ev_gname g.nd hi (loc_of hx).1 (loc_of hx).2
theorem gtc {sl sl' : List Nat} {m : PV → Env → GH → Res Env} {es : List Expr} {ms : List PV → Env → GH → Res Env} (h1 : PG X a (TGv F Ex sl m)) (h2 : PGs X es (TGvs F Ex sl' ms)) (hp : plainE a = true := by kernel_rfl) : PGs X (a :: es) (TGvs F Ex (sl ++ sl') (gConsE m ms)) := ev_gcons hp h1 h2
theorem gtt (g : GX X F Ex n) {es : List Expr} {k : Nat} {sl : List Nat} {ms : List PV → Env → GH → Res Env} (len : Nat) (h : PGs X es (TGvs F Ex sl ms)) (hp : es.all plainE = true := by kernel_rfl) (hl : es.length = len := by kernel_rfl) : PG X (.Tuple es k pos) (TGv F Ex sl (gTupE len ms)) := by
  subst hl
  exact ev_gtup g.K g.calm hp h
theorem gret {e : Expr} (he : PE X e (TEv F Ex ma)) : PS X (.Return (some e) pos) (TSv F Ex (sRet ma)) := ev_ret he
theorem gasg {t : Expr} {tt : PV → Env → GH → Res Env} {sl : List Nat} (he : PE X a (TEv F Ex ma)) (hg : PG X t (TGv F Ex sl tt)) (hs : swapsWithSole [t] a pos.line X.env = pure false := by rfl) (hw : swappedStores [t] a X.env = pure none := by rfl)
    (h1 : plainE t = true := by kernel_rfl) : PS X (.Assign [t] a pos) (TSv F Ex (sAsg ma tt)) := ev_asg he hg hs hw h1
theorem gexp (he : PE X a (TEv F Ex ma)) (hs : swapsWith a none pos.line X.env = pure false := by rfl) : PS X (.Expr a pos) (TSv F Ex (sDrop ma)) := ev_expr he hs
theorem gset (g : GX X F Ex n) {tp : Pos} {e o i : Expr} {me mo mi : Env → GH → Res PV} {f : List PV → GH → Res Unit} (hf : PSet X (RdSet F Ex f)) (he : PE X e (TEv F Ex me)) (ho : PE X o (TEv F Ex mo)) (hi : PE X i (TEv F Ex mi))
    (hs : swapsWithSole [.Subscript o i tp] e pos.line X.env = pure false := by rfl) (hw : swappedStores [.Subscript o i tp] e X.env = pure none := by rfl)
    (hA : ∀ v, assign (.Subscript o i tp) X.env v = (do
      let ov ← holding [v] (eval o X.env)
      let iv ← holding [v, ov] (eval i X.env)
      standAt tp
      holding [v, ov, iv] (setItem ov iv v)
      release [v, ov, iv] []) := by intro _; rfl) : PS X (.Assign [.Subscript o i tp] e pos) (TSv F Ex (sSet me mo mi f)) := ev_set he ho hi hf hs hw hA
theorem gpar (g : GX X F Ex n) (i j : Nat) {x y : Str} {ms : Env → GH → Res (List PV)} {px py pt : Pos} {kt k2 : Nat} {pt2 : Pos} (ha : PA X [a, b] (TAv F Ex ms)) (hij : i ≠ j := by decide) (hi : X.N[i]? = some x := by kernel_rfl) (hj : X.N[j]? = some y := by kernel_rfl)
    (hx : X.env.scope.names.lookup x = some .local := by kernel_rfl) (hy : X.env.scope.names.lookup y = some .local := by kernel_rfl) (hw : swappedStores [.Tuple [.Name x px, .Name y py] kt pt] (.Tuple [a, b] k2 pt2) X.env = pure (some [x, y]) := by rfl)
    (hs : swapsWithSole [.Tuple [.Name x px, .Name y py] kt pt] (.Tuple [a, b] k2 pt2) pos.line X.env = pure false := by rfl) : PS X (.Assign [.Tuple [.Name x px, .Name y py] kt pt] (.Tuple [a, b] k2 pt2) pos) (TSv F Ex (sPar i j ms)) := ev_par g.calm g.nd hi hj hij hx hy ha hw hs
theorem gfor (g : GX X F Ex n) (po : PassesOwn (model X.prog X.w) X.A X.env X.xe) {tg iter : Expr} {body : List Stmt} {sl : List Nat} {ms : Env → GH → Res Src} {t : PV → Env → GH → Res Env} {bb : Env → GH → Res Fl}
    (hi : PI X tg iter (TIv F Ex ms)) (hg : PG X tg (TGv F Ex sl t)) (hb : PSs X body (TSv F Ex bb)) (hs : ∀ x, foldedSetIterable iter X.env x = pure x := by intro _; rfl) : PS X (.For tg iter body [] pos) (TSv F Ex (sFor ms t bb)) := ev_for po g.calm hi hg hb hs
theorem gseq (g : GX X F Ex n) {tg : Expr} (h : PE X a (TEv F Ex ma)) : PI X tg a (TIv F Ex (mSeq ma)) := ev_seq g.K h
theorem cons_len {es : Nat} {m : Env → GH → Res PV} {ms : Env → GH → Res (List PV)} (h : ∀ ρ G qs G', ms ρ G = .ok qs G' → qs.length = es) : ∀ ρ G qs G', mCons m ms ρ G = .ok qs G' → qs.length = es + 1 := by
  intro ρ G qs G' e
  unfold mCons at e
  cases h1 : m ρ G with
  | ok x G1 =>
    rw [h1] at e
    cases h2 : ms ρ G1 with
    | ok xs G2 =>
      simp only [Res.bind_ok, h2] at e
      cases e
      simp [h _ _ _ _ h2]
    | exc c fs G2 => simp only [Res.bind_ok, h2] at e; cases e
    | bad => simp only [Res.bind_ok, h2] at e; cases e
  | exc c fs G2 => rw [h1] at e; cases e
  | bad => rw [h1] at e; cases e
theorem nil_len : ∀ ρ G qs G', mNil ρ G = .ok qs G' → qs.length = 0 := by
  intro ρ G qs G' e
  cases e
  rfl
theorem grng1 (g : GX X F Ex n) {tg : Expr} {p : Pos} (hm : X.mg "range" = none) (ha : PE X a (TEv F Ex ma)) (hg : X.env.kindOf "range" = some .globalImplicit := by kernel_rfl) (h1 : plainE a = true := by kernel_rfl) : PI X tg (.Call (.Name "range" p) [a] [] pos) (TIv F Ex (mRng (mCons ma mNil))) :=
  ev_rng1 hg hm (ev_cons h1 ha ev_nil) h1 (cons_len nil_len)
theorem gcomp (g : GX X F Ex n) (ob : Bool) (own : List (Str × Nat)) {elt tg iter : Expr} {ifs : List Expr} {scope : Scope} {sl : List Nat} {ms : Env → GH → Res Src} {t : PV → Env → GH → Res Env} {tt : Env → GH → Res Bool} {el : Env → GH → Res PV}
    (hi : PI X tg iter (TIv F Ex ms))
    (hg : ∀ (s : Shared) (H : Hp) (C : Addr) (cl : List (Str × Addr)) (fp : List Addr), GX (X.blk s H scope (compEnvC scope cl C X.env) fp) F E0 n → PG (X.blk s H scope (compEnvC scope cl C X.env) fp) tg (TGv F E0 sl t))
    (ht : ∀ (s : Shared) (H : Hp) (C : Addr) (cl : List (Str × Addr)) (fp : List Addr), GX (X.blk s H scope (compEnvC scope cl C X.env) fp) F E0 n → PTs (X.blk s H scope (compEnvC scope cl C X.env) fp) ifs (TTv F E0 tt))
    (he : ∀ (s : Shared) (H : Hp) (C : Addr) (cl : List (Str × Addr)) (fp : List Addr), GX (X.blk s H scope (compEnvC scope cl C X.env) fp) F E0 n → PE (X.blk s H scope (compEnvC scope cl C X.env) fp) elt (TEv F E0 el))
    (hsl : sl.all (fun i => (own.map (·.2)).contains i) = true := by kernel_rfl) (ok : blkB X.N X.env.scope scope own = true := by kernel_rfl) (hs : ∀ x, foldedSetIterable iter X.env x = pure x := by intro _; rfl) :
    PE X (.ListComp elt [⟨tg, iter, ifs, 0⟩] scope pos) (TEv F Ex (mComp ob ms t tt el (own.map (·.2)))) :=
  ev_comp g.calm g.nd hi (blk_of ok) (fun i h => by simpa using List.all_eq_true.mp hsl i h) (fun s H C cl fp => hg s H C cl fp (g.blk ..)) (fun s H C cl fp => ht s H C cl fp (g.blk ..)) (fun s H C cl fp => he s H C cl fp (g.blk ..)) hs
theorem gasgC (g : GX X F Ex n) (ob : Bool) (k : Nat) (own : List (Str × Nat)) {y : Str} {py spos : Pos} {elt tg iter : Expr} {ifs : List Expr} {scope : Scope} {sl : List Nat} {ms : Env → GH → Res Src} {t : PV → Env → GH → Res Env} {tt : Env → GH → Res Bool} {el : Env → GH → Res PV}
    (hi : PI X tg iter (TIv F Ex ms))
    (hg : ∀ (s : Shared) (H : Hp) (C : Addr) (cl : List (Str × Addr)) (fp : List Addr), GX (X.blk s H scope (compEnvC scope cl C X.env) fp) F E0 n → PG (X.blk s H scope (compEnvC scope cl C X.env) fp) tg (TGv F E0 sl t))
    (ht : ∀ (s : Shared) (H : Hp) (C : Addr) (cl : List (Str × Addr)) (fp : List Addr), GX (X.blk s H scope (compEnvC scope cl C X.env) fp) F E0 n → PTs (X.blk s H scope (compEnvC scope cl C X.env) fp) ifs (TTv F E0 tt))
    (he : ∀ (s : Shared) (H : Hp) (C : Addr) (cl : List (Str × Addr)) (fp : List Addr), GX (X.blk s H scope (compEnvC scope cl C X.env) fp) F E0 n → PE (X.blk s H scope (compEnvC scope cl C X.env) fp) elt (TEv F E0 el))
    (hy : X.N[k]? = some y := by kernel_rfl) (hyl : X.env.scope.names.lookup y = some .local := by kernel_rfl) (hsw : swapsWith (.ListComp elt [⟨tg, iter, ifs, 0⟩] scope pos) (some (.Name y py)) spos.line X.env = pure true := by rfl)
    (hsl : sl.all (fun i => (own.map (·.2)).contains i) = true := by kernel_rfl) (ok : blkB X.N X.env.scope scope own = true := by kernel_rfl) (hs : ∀ x, foldedSetIterable iter X.env x = pure x := by intro _; rfl) :
    PS X (.Assign [.Name y py] (.ListComp elt [⟨tg, iter, ifs, 0⟩] scope pos) spos) (TSv F Ex (sAsg (mComp ob ms t tt el (own.map (·.2))) (gN k))) :=
  ev_asgC g.calm g.nd hy hyl hsw hi (blk_of ok) (fun i h => by simpa using List.all_eq_true.mp hsl i h) (fun s H C cl fp => hg s H C cl fp (g.blk ..)) (fun s H C cl fp => ht s H C cl fp (g.blk ..)) (fun s H C cl fp => he s H C cl fp (g.blk ..)) hs
theorem gmet (g : GX X F Ex n) {T id : String} {name : Str} {o e : Expr} {es : List Expr} {apos : Pos} {mo : Env → GH → Res PV} {ms : Env → GH → Res (List PV)} {f : PV → List PV → GH → Res PV} (pa : PlainAttrs T) (slot : Slot T name id) (hty : typeOf (.builtin id) = pure (.type "method_descriptor")) (hm : MtR X id (RdM F Ex f))
    (ho : PE X o (TEv F Ex mo)) (ha : PA X (e :: es) (TAv F Ex ms)) (hT : mTy T = true := by kernel_rfl) (h1 : plainE e = true := by kernel_rfl) (h2 : es.all plainE = true := by kernel_rfl) (hbase : attributeBase o name X.env (eval o X.env) = eval o X.env := by rfl)
    (hfew : ((backTo pos (starEach (e :: es) X.env)).all (fun x => !x.1) && (backToKw pos (keywordEach [] X.env)).all (fun x => x.1.isSome) && decide ((e :: es).length + ([] : List Keyword).length + (if ([] : List Keyword).isEmpty then 0 else 1) < 30)) = true := by rfl)
    (hline : (apos.endLine == pos.line) = true := by kernel_rfl) : PE X (.Call (.Attribute o name apos) (e :: es) [] pos) (TEv F Ex (mMet T mo ms f)) :=
  ev_met g.K hT pa slot hty hm ho ha h1 h2 hbase hfew hline
end
end EV
end
section
set_option Elab.async false
set_option linter.all false
set_option maxRecDepth 100000
set_option maxHeartbeats 2000000
/-! Zs: zip(a, b, strict=True) of two tuples of one length: walked by a loop, listed. -/
namespace Zs
open PySem
open PySem.Sem (wp)
open PySem.W (kdx_alive)
open RZ
abbrev IsZs (h : Heap) (z TI TO : Addr) (f0 : Value) (b : Bool) : Prop :=
  h.get? z = some { cls := .type "zip", dict := none, data := .fields #[f0, .bool b, .bool true, .ref TI, .ref TO], slots := #[] }
section
variable {prog : Program} {w : World} {A : Around} {E : Value → Shared → Prop} {s : Shared}
end
end Zs
end
section
set_option Elab.async false
set_option linter.all false
set_option maxRecDepth 100000
set_option maxHeartbeats 2000000
/-! Zs2: the call zip(a, b, strict=True); pairs made one by one, listed. -/
namespace Zs
open PySem
open PySem.Sem (wp)
open RZ
section
variable {prog : Program} {w : World} {A : Around} {E : Value → Shared → Prop} {s : Shared}
/-! ### a list of pairs that are made one by one -/
/-- the pairs, new, as they stand -/
structure Prs (Pr : Nat → Value → Value → Prop) (lo : Nat) (h : Heap) (as : List Addr) : Prop where
  above : ∀ a ∈ as, lo ≤ a
  nodup : as.Pairwise (· < ·)
  pairs : ∀ (j : Nat) (a : Addr), as[j]? = some a → ∃ x y, Pr j x y ∧ h.get? a = some { cls := .type "tuple", data := .seq #[x, y] }
theorem Prs.there {Pr : Nat → Value → Value → Prop} {lo : Nat} {h : Heap} {as : List Addr} (g : Prs Pr lo h as) {a : Addr} (ha : a ∈ as) : a < h.objs.size := by
  obtain ⟨j, hj⟩ := List.mem_iff_getElem?.mp ha
  obtain ⟨_, _, _, e⟩ := g.pairs j a hj
  exact Heap.lt_size e
theorem Prs.keep {Pr : Nat → Value → Value → Prop} {lo : Nat} {h h' : Heap} {as : List Addr} (g : Prs Pr lo h as) (k : ∀ b o, lo ≤ b → h.get? b = some o → h'.get? b = some o) : Prs Pr lo h' as :=
  ⟨g.above, g.nodup, fun j a hj => let ⟨x, y, p, e⟩ := g.pairs j a hj; ⟨x, y, p, k a _ (g.above a (List.mem_of_getElem? hj)) e⟩⟩
/-- an iterator that gives a new pair at each turn; lo: below it stands what it writes -/
structure Mkr (prog : Program) (w : World) (A : Around) (I S : Addr) (lo : Nat) (wr : List Addr) (n : Nat) (Pr : Nat → Value → Value → Prop) (St : Nat → Heap → Prop) : Prop where
  low : ∀ b ∈ wr, b < lo
  nS : S ∉ wr
  frame : ∀ i h h', St i h → (∀ b o, b ≠ S → h.get? b = some o → h'.get? b = some o) → St i h'
  item : ∀ i (s : Shared) (Q : Option Value → Shared → Prop) (E : Value → Shared → Prop), i < n → St i s.heap → S < s.heap.objs.size → lo ≤ s.heap.objs.size →
    (∀ x y h' tk, Pr i x y → St (i + 1) h' → h'.get? s.heap.objs.size = some { cls := .type "tuple", data := .seq #[x, y] } → (∀ b o, b ∉ wr → s.heap.get? b = some o → h'.get? b = some o) → Q (some (.ref s.heap.objs.size)) { s with heap := h', toks := tk }) →
    wpAny (model prog w) A (pyNext (.ref I)) Q E s
  done : ∀ (s : Shared) (Q : Option Value → Shared → Prop) (E : Value → Shared → Prop), St n s.heap → (∀ h' tk, (∀ b o, b ∉ wr → s.heap.get? b = some o → h'.get? b = some o) → Q none { s with heap := h', toks := tk }) → wpAny (model prog w) A (pyNext (.ref I)) Q E s
end
end Zs
end
section
set_option Elab.async false
set_option linter.all false
set_option maxRecDepth 100000
set_option maxHeartbeats 1000000
/-! Ev14: zip(a, b, strict=True) of two tuples of one length, walked, listed. -/
namespace EV
open PySem PySem.Spec PyProof.Rows L2 RZ Zs
/-- the tuples at a and b, of one length, the items in new pairs -/
def ItzS (K : PySem.W.Frag) (a b : Addr) : It :=
  ⟨fun i H => ∃ (xs ys : List V) (x y : V), SqT K H a xs ∧ SqT K H b ys ∧ xs[i]? = some x ∧ ys[i]? = some y,
    fun i H v H' => ∃ T x y, ∃ o : Obj, v = .ref T ∧ H T = none ∧ o.dict = none ∧ H' = upd H T (.frz o (.tup [x, y])) ∧ (∀ xs, SqT K H a xs → xs[i]? = some x) ∧ ∀ ys, SqT K H b ys → ys[i]? = some y,
    fun i H => ∃ xs ys : List V, SqT K H a xs ∧ SqT K H b ys ∧ xs.length ≤ i ∧ ys.length ≤ i⟩
section
variable {M : Model} {A : Around} {E : Value → Shared → Prop} {s : Shared} {env : PySem.Env}
end
section
variable {X : Cx} {F : Fx} {Ex : XK} {n : Nat}
def zipP (ps qs : List PV) : List PV := (ps.zip qs).map fun q => .tup [q.1, q.2]
theorem zipP_at {ps qs : List PV} {i : Nat} {p : PV} (h : (zipP ps qs)[i]? = some p) : ∃ a b, ps[i]? = some a ∧ qs[i]? = some b ∧ p = .tup [a, b] := by
  unfold zipP at h
  rw [List.getElem?_map] at h
  cases e : (ps.zip qs)[i]? with
  | none => rw [e] at h; cases h
  | some q =>
    rw [e] at h
    obtain ⟨h1, h2⟩ := List.getElem?_zip_eq_some.mp e
    exact ⟨q.1, q.2, h1, h2, (Option.some.inj h).symm⟩
theorem zipP_len {ps qs : List PV} (h : ps.length = qs.length) : (zipP ps qs).length = ps.length := by
  unfold zipP
  rw [List.length_map, List.length_zip]
  omega
theorem JOk.zs {K : PySem.W.Frag} (hK : F.K = K) {μ : Mu} {H : Hp} {a b : Addr} {vs ws : List V} {ps qs : List PV} (st : StT F μ H a vs) (st2 : StT F μ H b ws) (r : Reps F μ H ps vs) (r2 : Reps F μ H qs ws) (hl : ps.length = qs.length) : JOk F (ItzS K a b) μ H ⟨zipP ps qs, fun _ => true⟩ := by
  subst hK
  intro μ1 H1 G1 e g _
  have sq : SqT F.K H1 a vs := (e.t _ _ st).sq
  have sq2 : SqT F.K H1 b ws := (e.t _ _ st2).sq
  have l1 := r.length
  have l2 := r2.length
  refine ⟨fun i p hp => ?_, vs, ws, sq, sq2, by show vs.length ≤ (zipP ps qs).length; rw [zipP_len hl]; omega, by show ws.length ≤ (zipP ps qs).length; rw [zipP_len hl]; omega⟩
  obtain ⟨x, y, hx, hy, rfl⟩ := zipP_at hp
  obtain ⟨v, h1, h2⟩ := r.get hx
  obtain ⟨u, h3, h4⟩ := r2.get hy
  refine ⟨⟨vs, ws, v, u, sq, sq2, h1, h3⟩, fun z H' hy => ?_⟩
  obtain ⟨T, v', u', o, rfl, hT, hd, rfl, e1, e2⟩ := hy
  have := e1 vs sq
  rw [h1] at this; cases this
  have := e2 ws sq2
  rw [h3] at this; cases this
  refine ⟨fun c o q => by rw [upd_ne (ne_of_none q hT)]; exact q, ?_⟩
  show Rep F μ1 _ _ _
  simp only [Rep]
  exact ⟨T, [v, u], rfl, by show 2 ≤ sizeLine; decide, .inl ⟨g.fresh hT, o, upd_same, hd⟩, (Reps.cons (h2.chg e) (.one (h4.chg e))).mono (Ext.upd_new g hT)⟩
end
end EV
end
section
set_option Elab.async false
set_option linter.all false
set_option maxRecDepth 100000
namespace EV
open PySem PySem.Spec PyProof.Rows L2 RZ Zs
def mkL (ob : Bool) (ps : List PV) (G : GH) : Res PV := if ps.length ≤ sizeLine then (if ob = true then .ok (.obj G.length) (G ++ [.lst ps]) else .ok (.lst ps) G) else .bad
/-- the first of a pair, as data: a text or an int -/
def key0 : PV → PyData
  | .tup (.str x :: _) => .str x
  | .tup (.int i :: _) => .int i
  | _ => .none
def strs0 : PV → Bool
  | .tup (.str _ :: _) => true
  | _ => false
def ints0 : PV → Bool
  | .tup (.int _ :: _) => true
  | _ => false
def bSort0 (ob : Bool) (ps : List PV) (G : GH) : Res PV := match ps with
  | [x] => match asL x G with
    | some qs => if (qs.all strs0 || qs.all ints0) = true then mkL ob (qs.mergeSort (PySem.W.dataLe false key0)) G else .bad
    | none => .bad
  | _ => .bad
section
variable {X : Cx} {F : Fx} {Ex : XK} {n : Nat} {μ : Mu} {H : Hp} {G : GH}
/-- a new list is handed out: as a value or as an object of ours -/
theorem mkL_new {ob : Bool} {ps : List PV} {vs : List V} {H' : Hp} {p : Addr} {Q : VK} (h : Post F (RV F) Ex μ H (mkL ob ps G) Q) (g : HRep F μ H G) (k : ∀ b o, H b = some o → H' b = some o) (hp : H p = none) (hp' : H' p = some (.lst vs)) (r : ∀ μ', (∀ a, μ.free a → a ≠ p → μ'.free a) → (∀ a, H a = none → a ≠ p → μ'.free a) → (∀ (n : Nat) a, μ.ob[n]? = some a → μ'.ob[n]? = some a) → Reps F μ' H' ps vs) : Q (.ref p) H' := by
  unfold mkL at h
  split at h
  · rename_i z
    have dm : ∀ a, H' a = none → H a = none := fun a e => by
      cases q : H a with
      | none => rfl
      | some o => rw [k a o q] at e; cases e
    have fr := g.fresh hp
    cases ob with
    | false =>
      simp only [Bool.false_eq_true, if_false] at h
      have r0 := r μ (fun a f _ => f) (fun a e _ => g.fresh e) fun n a e => e
      refine h.ok (Ext.same k) ?_ (g.same k)
      show Rep F μ _ _ _
      simp only [Rep]
      exact ⟨p, vs, rfl, by rw [← r0.length]; exact z, ⟨fr, hp'⟩, r0⟩
    | true =>
      simp only [if_true] at h
      have ff : ∀ a, μ.free a → a ≠ p → (μ.push p).free a := fun a f n => ⟨fun m => (List.mem_append.mp m).elim f.1 fun q => n (List.mem_singleton.mp q), f.2⟩
      have r0 := r (μ.push p) ff (fun a e n => ff a (g.fresh e) n) fun n a e => (List.getElem?_append_left (List.getElem?_eq_some_iff.mp e).1).trans e
      have ex : Ext μ (μ.push p) H H' := ⟨⟨[p], rfl⟩, rfl, fun a m n => by
        rcases List.mem_append.mp m with q | q
        · exact absurd q n
        · exact fun o z _ => (by rw [List.mem_singleton.mp q, hp] at z; cases z), fun a o e _ _ => k a o e⟩
      refine h.ok ex ?_ ?_
      · show Rep F _ _ _ _
        simp only [Rep]
        exact ⟨p, rfl, by rw [← g.len]; simp⟩
      · have g2 := g.same k
        refine ⟨by simp [Mu.push, g.len], List.nodup_append.mpr ⟨g.nd, by simp, fun a ha b hb => ?_⟩, fun i a u h1 h2 => ?_, fun a m => ?_, g2.tab⟩
        · rw [List.mem_singleton.mp hb]
          intro e
          subst e
          exact g.freshO hp ha
        · have h1 : (μ.ob ++ [p])[i]? = some a := h1
          by_cases hi : i < μ.ob.length
          · rw [List.getElem?_append_left hi] at h1
            rw [List.getElem?_append_left (by rw [← g.len]; exact hi)] at h2
            exact (g.obj i a u h1 h2).keep ex fun v q => k a v q
          · have hi' : i = μ.ob.length := by
              have := (List.getElem?_eq_some_iff.mp h1).1
              simp at this; omega
            subst hi'
            rw [List.getElem?_append_right (Nat.le_refl _)] at h1
            rw [g.len, List.getElem?_append_right (Nat.le_refl _)] at h2
            simp at h1 h2
            subst h1 h2
            exact ⟨vs, hp', by rw [← r0.length]; exact z, r0⟩
        · obtain ⟨h1, u, h2⟩ := g2.res a m
          refine ⟨fun q => ?_, u, h2⟩
          rcases List.mem_append.mp q with q | q
          · exact h1 q
          · exact fr.2 (by rw [← List.mem_singleton.mp q]; exact m)
  · exact (show False from h).elim
end
/-! ### pairs laid -/
def putP (ob : Addr → Obj) : Hp → List Addr → List (V × V) → Hp
  | H, a :: as, p :: ps => putP ob (upd H a (.frz (ob a) (.tup [p.1, p.2]))) as ps
  | H, _, _ => H
theorem putP_off {ob : Addr → Obj} {b : Addr} : ∀ (as : List Addr) (ps : List (V × V)) (H : Hp), b ∉ as → putP ob H as ps b = H b
  | [], _, _, _ => rfl
  | _ :: _, [], _, _ => rfl
  | a :: as, p :: ps, H, h => by
    unfold putP
    rw [putP_off as ps _ (fun z => h (List.mem_cons_of_mem _ z)), upd_ne (fun z => h (by rw [z]; exact List.mem_cons_self))]
theorem putP_at {ob : Addr → Obj} : ∀ (as : List Addr) (ps : List (V × V)) (H : Hp), as.length = ps.length → as.Nodup → Paired (fun (t : Addr) (p : V × V) => putP ob H as ps t = some (.frz (ob t) (.tup [p.1, p.2]))) as ps
  | [], [], _, _, _ => .nil
  | [], _ :: _, _, h, _ => by cases h
  | _ :: _, [], _, h, _ => by cases h
  | a :: as, p :: ps, H, h, hn => by
    have hn' := List.nodup_cons.mp hn
    refine .cons ?_ (putP_at as ps _ (Nat.succ.inj h) hn'.2)
    unfold putP
    rw [putP_off as ps _ hn'.1, upd_same]
/-- the tuple at t, new, its object known -/
def FzP (H : Hp) (t : Addr) (q : V × V) : Prop := Fz H t [q.1, q.2]
section
variable {X : Cx}
end
end EV
end
section
set_option Elab.async false
set_option linter.all false
set_option maxRecDepth 100000
/-! Ev16: list(zip(a, b, strict=True)). -/
namespace EV
open PySem PySem.Spec PyProof.Rows L2 RZ Zs
structure ZsSt (z TI TO i1 i2 a b : Addr) (lo : Nat) (xs ys : Array Value) (i : Nat) (h : Heap) : Prop where
  ti : IsPair h TI (.ref i1) (.ref i2)
  it1 : h.IsTupleIter i1 a i
  it2 : h.IsTupleIter i2 b i
  l1 : h.IsTuple a xs
  l2 : h.IsTuple b ys
  zz : ∃ f0 bb, IsZs h z TI TO f0 bb ∧ ((f0 = .none ∧ ∃ x y, IsPair h TO x y) ∨ ∃ (T : Addr) (oT : Obj), f0 = rawInt T ∧ h.get? T = some oT ∧ lo ≤ T)
theorem tup_keep {h h' : Heap} {a : Addr} {xs : Array Value} (x : h.IsTuple a xs) (k : ∀ o, h.get? a = some o → h'.get? a = some o) : h'.IsTuple a xs := by
  obtain ⟨o, e, q⟩ := x
  exact ⟨o, k o e, q⟩
section
variable {X : Cx} {F : Fx} {Ex : XK} {n : Nat}
theorem chg_new {μ μ' : Mu} {H H' : Hp} {p : Addr} (k : ∀ b o, H b = some o → H' b = some o) (hp : H p = none) (f : ∀ a, μ.free a → a ≠ p → μ'.free a) (ob : ∀ (n : Nat) a, μ.ob[n]? = some a → μ'.ob[n]? = some a) : Chg F μ μ' H H' := by
  have aux : ∀ {a : Addr} {u : HO}, Rd H a u → a ≠ p ∧ Rd H' a u := fun {a u} r => by
    rcases r with r | ⟨o, r⟩
    · exact ⟨ne_of_none r hp, .inl (k _ _ r)⟩
    · exact ⟨ne_of_none r hp, .inr ⟨o, k _ _ r⟩⟩
  refine ⟨fun a xs h => h.imp (fun q => ⟨f a q.1 (aux q.2).1, (aux q.2).2⟩) id, fun a xs h => ⟨f a h.1 (ne_of_none h.2 hp), k _ _ h.2⟩, fun a xs h => h.imp (fun ⟨q, o, r, d⟩ => ⟨f a q (aux (.inl r)).1, o, k _ _ r, d⟩) id, ob⟩
end
end EV
end
section
set_option Elab.async false
set_option linter.all false
set_option maxRecDepth 100000
/-! Ev17: sorted(xs, key=lambda x: x[0]). -/
namespace EV
open PySem PySem.Spec PyProof.Rows L2 RZ Zs
section
variable {F : Fx} {μ : Mu} {H H' : Hp} {G : GH}
theorem Ext.extN (e : LamX.ExtN H H') : Ext μ μ H H' := ⟨⟨[], by simp⟩, rfl, fun a m k => absurd m k, fun a o q nt _ => e a o q nt⟩
theorem HRep.extN (h : HRep F μ H G) (e : LamX.ExtN H H') (t : LamX.Tabs F.T H') : HRep F μ H' G where
  len := h.len
  nd := h.nd
  obj := fun i a o h1 h2 => (h.obj i a o h1 h2).keep (Ext.extN e) fun u q => e a u q fun ps z => by
    obtain ⟨v, q2, q3⟩ := h.isO (List.mem_of_getElem? h1)
    rw [q, z] at q2
    cases q2
    exact q3
  res := fun a m => let ⟨h1, xs, h2⟩ := h.res a m; ⟨h1, xs, e a _ h2 fun _ z => by cases z⟩
  tab := t
end
section
variable {prog : Program} {w : World} {A : Around} {E : Value → Shared → Prop} {s : Shared}
end
/-- the code object and the table by which a def makes its lambdas -/
structure LamK (X : Cx) (F : Fx) : Prop where
  ex : ∃ c P, LamX.TabB X.base X.mg c P ∧ X.env.code = .ref c ∧ (P, X.env.qual ++ "<lambda>") ∈ F.T ∧ ∀ p ∈ F.T, p.1 = P → p.2 = X.env.qual ++ "<lambda>"
section
variable {X : Cx} {F : Fx} {Ex : XK} {n : Nat} {μ : Mu} {H : Hp} {G : GH}
end
/-- a def that makes lambdas -/
def LamD (K : PySem.W.Frag) (mg : Str → Option Value) (base : Heap) (F : Fx) (f : Addr) (qual : Str) : Prop := ∀ cdv, CodeAt K f cdv → ∃ c P, LamX.TabB base mg c P ∧ cdv = .ref c ∧ (P, qual ++ ".<locals>." ++ "<lambda>") ∈ F.T ∧ ∀ p ∈ F.T, p.1 = P → p.2 = qual ++ ".<locals>." ++ "<lambda>"
theorem lamK_of {P : Program} {w : World} {K : PySem.W.Frag} {mg : Str → Option Value} {base : Heap} {F : Fx} {N : List Str} {qual : Str} {scope : Scope} {f : Addr} {cdv : Value} {A : Around} {outer : List PySem.Env} {s : Shared} {H : Hp} {E : XK} (h : LamD K mg base F f qual) (hc : CodeAt K f cdv) : LamK (CXo P w K mg base N qual scope f cdv A outer s H E) F := by
  obtain ⟨c, P', h1, h2, h3, h4⟩ := h cdv hc
  exact ⟨c, P', h1, h2, h3, h4⟩
end EV
end
section
set_option Elab.async false
set_option linter.all false
set_option maxRecDepth 100000
/-! Ev18: a law's end: the script comes in, True goes out. -/
namespace EV
open PySem PySem.Spec PyProof.Rows L2 PySem.Calls
/-- what is tracked at a law's call: the empty tables, the script's list where it is none of the written part -/
def H0 (tb : List Addr) (K : PySem.W.Frag) (a : Addr) (o : Obj) (ns : List Int) : Hp := fun b => if b ∈ tb then some (.tbl #[]) else if b = a ∧ K.lookup a = none then some (.frz o (.lst (ns.map V.int))) else none
section
variable {P : Program} {w : World} {K : PySem.W.Frag} {mg mb : Str → Option Value} {F : Fx} {k : Nat} {fa a : Addr} {cs : List (Addr × Addr)} {x : Str} {s₁ : Shared} {vs : List Value} {ns : List Int} {m : List PV → GH → Res PV}
theorem h0_cases {tb : List Addr} {o : Obj} {b : Addr} {u : HO} (e : H0 tb K a o ns b = some u) : (b ∈ tb ∧ u = .tbl #[]) ∨ (b ∉ tb ∧ b = a ∧ K.lookup a = none ∧ u = .frz o (.lst (ns.map V.int))) := by
  unfold H0 at e
  split at e
  · cases e; exact .inl ⟨by assumption, rfl⟩
  · split at e
    · rename_i h1 h2
      cases e
      exact .inr ⟨h1, h2.1, h2.2, rfl⟩
    · cases e
theorem ints_rep {μ : Mu} {H : Hp} : ∀ ns : List Int, Reps F μ H (ns.map PV.int) (ns.map V.int)
  | [] => .nil
  | n :: ns => .cons (by simp only [Rep]) (ints_rep ns)
theorem law_callG (hFK : F.K = K) (KX : K.In s₁.heap) (hns : s₁.heap.Ns mainGlobals mg) (hb : s₁.heap.Ns builtinsNs mb) (hbb : ∀ x : Str, x ≠ "__name__" → mb x = bootBuiltins x) (hlim : s₁.heap.NoLimit) (hg : s₁.gens = #[])
    (hT : ∀ p ∈ cs, s₁.heap.get? p.2 = some { cls := .none, data := .fields #[] }) (nT : ∀ p ∈ cs, K.lookup p.2 = none) (C : ∀ p ∈ cs, PySem.W.CodeHd s₁.heap p.1 p.2) (hFT : ∀ q ∈ F.T, q.1 ∈ cs.map (·.2))
    (hbm : ∃ (bm : Addr) (ob : Obj), mg "__builtins__" = some (.ref bm) ∧ bm ≠ builtinsNs ∧ s₁.heap.get? bm = some ob ∧ ob.cls = .type "module" ∧ ob.dict = some builtinsNs ∧ ob.data = .plain) (hmg : mg x = some (.ref fa))
    (ha : s₁.heap.get? a = some { cls := .type "list", data := .seq vs.toArray }) (hi : IntsAre vs ns) (hl : ns.length ≤ sizeLine) (hr : Room k callerA) (hm : ∃ G, m [.sls (ns.map PV.int)] [] = .ok (.bl true) G)
    (hF : ∀ base : Heap, K.In base → base.Ns mainGlobals mg → (∀ p ∈ cs, LamX.TabB base mg p.1 p.2) → CalleeP P w K mg base F k x 1 m) :
    codeAny (model P w) callerA (.call (.ref fa) ⟨[.ref a], []⟩) (fun r s' => r = .ok (.ret (.bool true)) ∧ OldK s₁.heap s'.heap ∧ s'.os = s₁.os ∧ AllBare s'.gens) s₁ := by
  let tb := cs.map (·.2)
  let H := H0 tb K a { cls := .type "list", data := .seq vs.toArray } ns
  have rv := vals_ints hi
  have lenV := hi.length
  have atT : ∀ b ∈ tb, s₁.heap.get? b = some { cls := .none, data := .fields #[] } ∧ K.lookup b = none ∧ H b = some (.tbl #[]) := fun b hb => by
    obtain ⟨p, hp, rfl⟩ := List.mem_map.mp hb
    exact ⟨hT p hp, nT p hp, if_pos hb⟩
  have aT : a ∉ tb := fun z => by
    have q := (atT a z).1
    rw [ha] at q
    cases congrArg Obj.data (Option.some.inj q)
  have cases_ : ∀ {b u}, H b = some u → (b ∈ tb ∧ u = .tbl #[]) ∨ (b ∉ tb ∧ b = a ∧ K.lookup a = none ∧ u = .frz { cls := .type "list", data := .seq vs.toArray } (.lst (ns.map V.int))) := h0_cases
  have hok : HOk P w H s₁.heap := fun b u e => by
    rcases cases_ e with ⟨h1, rfl⟩ | ⟨_, rfl, _, rfl⟩
    · exact (atT b h1).1
    · exact ⟨ha, by rw [List.length_map]; exact hl, vs, _, rv, ha⟩
  -- what is neither a list nor an empty record isn't hidden
  have seen : ∀ {b o}, s₁.heap.get? b = some o → (∀ us n, o.data ≠ .seq us n) → o.data ≠ .fields #[] → H b = none := fun {b o} e h1 h2 => by
    cases q : H b with
    | none => rfl
    | some u =>
      rcases cases_ q with ⟨q1, _⟩ | ⟨_, rfl, _, _⟩
      · rw [(atT b q1).1] at e; cases e; exact (h2 rfl).elim
      · rw [ha] at e; cases e; exact (h1 _ _ rfl).elim
  have inB : ∀ {b o}, s₁.heap.get? b = some o → H b = none → (hidT s₁.heap H).get? b = some o := fun e q => hidT_get e q
  have nsB : ∀ {b m}, s₁.heap.Ns b m → (hidT s₁.heap H).Ns b m := fun {b m} ⟨o, es, ep, e, d, r⟩ => ⟨o, es, ep, inB e (seen e (fun us n z => by rw [d] at z; cases z) fun z => by rw [d] at z; cases z), d, r⟩
  have kB : K.In (hidT s₁.heap H) := fun b o e => inB (KX b o e) (by
    cases q : H b with
    | none => rfl
    | some u =>
      rcases cases_ q with ⟨q1, _⟩ | ⟨_, rfl, q2, _⟩
      · rw [(atT b q1).2.1] at e; cases e
      · rw [q2] at e; cases e)
  have TB : ∀ p ∈ cs, LamX.TabB (hidT s₁.heap H) mg p.1 p.2 := fun p hp => by
    have gP : mainGlobals ≠ p.2 := fun z => by
      obtain ⟨o, es, ep, e, hd, _⟩ := hns
      rw [z, hT p hp] at e
      cases e
      cases hd
    refine ⟨?_, ?_, gP⟩
    · obtain ⟨o, us, file, tf, flags, tg, inF, text, tt, e1, e2, e3, e4, e5⟩ := C p hp
      exact ⟨o, us, file, tf, flags, tg, inF, text, tt, inB e1 (seen e1 (fun us' n z => by rw [e3] at z; cases z) fun z => by rw [e3] at z; cases z; simp at e4), e2, e3, e4, e5⟩
    · obtain ⟨bm, ob, b1, b2, b3, b4, b5, b6⟩ := hbm
      refine ⟨bm, ob, b1, b2, fun q => ?_, fun q => ?_, inB b3 (seen b3 (fun us n z => by rw [b6] at z; cases z) fun z => by rw [b6] at z; cases z), b4, b5, b6⟩
      · obtain ⟨o, es, ep, e, hd, _⟩ := hns
        rw [q, e] at b3
        cases b3
        rw [hd] at b6
        cases b6
      · rw [q, hT p hp] at b3
        cases b3
        cases b6
  have e0 : Env0 P w K mg (hidT s₁.heap H) callerA [] s₁ H := ⟨rfl, ⟨kB, nsB hns, ⟨mb, nsB hb, hbb⟩, let ⟨mc, h1, h2⟩ := hlim; ⟨mc, nsB h1, h2⟩⟩, fun b o e => of_hidT e, Nat.le_of_eq (hidT_size _ _), trivial, fun b hb => absurd hb (by simp [frs]), hok, .of_eq hg⟩
  obtain ⟨f, fd, ps, Fn, hf, _, hbd⟩ := (hF _ kB (nsB hns) TB).ex
  rw [hmg] at hf
  cases hf
  obtain ⟨G, hG⟩ := hm
  have sp : SpV F 1 m [.ref a] H (fun v _ => v = .bl true) fun _ _ _ => False := by
    refine ⟨rfl, ⟨[], []⟩, [.sls (ns.map PV.int)], [], .one ?_, ⟨rfl, List.nodup_nil, fun i b o h => by simp at h, fun b h => by simp at h, fun q hq => .nil (atT _ (hFT q hq)).2.2⟩, ?_⟩
    · simp only [Rep]
      refine ⟨a, ns.map V.int, rfl, by rw [List.length_map]; exact hl, ?_, ints_rep ns⟩
      cases hk : K.lookup a with
      | none => exact .inl ⟨⟨by simp, by simp⟩, .inr ⟨_, by show H a = _; unfold H H0; rw [if_neg aT, if_pos ⟨rfl, hk⟩]⟩⟩
      | some o =>
        have e := KX a o hk
        rw [ha] at e
        cases e
        exact .inr ⟨_, vs.toArray, _, by rw [hFK]; exact hk, rfl, rfl, rfl, by rw [List.size_toArray, lenV]; exact hl, by simpa using rv⟩
    · rw [hG]
      exact fun μ' b H' _ r _ => rep_bl r
  have hlen : ps.length = 1 := (Fn.len _ _ _ _ sp).symm
  refine codeAny_mono (Fn.run callerA [] s₁ H ⟨[.ref a], []⟩ [.ref a] [.ref a] _ _ hr rfl e0 (hbd s₁ [.ref a] KX (by rw [hlen]; rfl)) (.cons rfl .nil) sp) fun r s' h => ?_
  cases r with
  | error e =>
    obtain ⟨_, _, _, _, _, _, _, _, _, _, _, _, z⟩ := (show L2.CX P w [] H s₁ (fun _ _ _ => False) e s' from h)
    exact z.elim
  | ok fl =>
    cases fl with
    | next => exact False.elim h
    | brk => exact False.elim h
    | cont => exact False.elim h
    | ret u =>
      obtain ⟨v, H', os, bare, un, hok', r', q⟩ := h
      obtain rfl : v = .bl true := q
      obtain rfl : u = Value.bool true := r'
      have kept : ∀ b o, b ∉ tb → s₁.heap.get? b = some o → s'.heap.get? b = some o := fun b o nb e => by
        cases q : H b with
        | none => exact un.keep b o e q (by simp [frs]) (by simp)
        | some u =>
          rcases cases_ q with ⟨z, _⟩ | ⟨_, rfl, _, rfl⟩
          · exact absurd z nb
          · have z2 := hok' b _ (un.frzs b _ _ q)
            rw [ha] at e
            cases e
            exact z2.1
      have grown : ∀ b ∈ tb, ∃ more : Array Value, s'.heap.get? b = some { cls := .none, data := .fields more } := fun b hb => by
        obtain ⟨more, z⟩ := un.tbls b #[] (atT b hb).2.2
        exact ⟨_, hok' b _ z⟩
      refine ⟨rfl, ⟨fun b o e => ?_, fun b o e => ?_⟩, os, bare⟩
      · by_cases hb : b ∈ tb
        · obtain ⟨p, hp, rfl⟩ := List.mem_map.mp hb
          obtain ⟨more, hm⟩ := grown _ hb
          rw [hT p hp] at e
          cases e
          exact .inr (.inl ⟨((C p hp).tab (hT p hp)).isCodeTable, rfl, #[], more, rfl, by rw [Array.empty_append]; exact hm⟩)
        · exact .inl (kept b o hb e)
      · by_cases hb : b ∈ tb
        · obtain ⟨more, hm⟩ := grown b hb
          exact ⟨_, hm⟩
        · exact ⟨o, kept b o hb e⟩
end
/-- what is known of a law at the head's heap h -/
def LawG (l : PySem.W.OpenLaw) (w : World) (k n : Nat) (x : Str) (mg : Str → Option Value) (fa : Addr) (h : Heap) : Prop :=
  ∃ (F : Fx) (cs : List (Addr × Addr)) (m : List PV → GH → Res PV), F.K.In h ∧ (∀ p ∈ cs, h.get? p.2 = some { cls := .none, data := .fields #[] }) ∧ (∀ p ∈ cs, F.K.lookup p.2 = none) ∧ (∀ p ∈ cs, PySem.W.CodeHd h p.1 p.2) ∧ (∀ q ∈ F.T, q.1 ∈ cs.map (·.2)) ∧
    (∀ ns : List Int, ns.length ≤ n → (∀ z ∈ ns, Builtin.Int.intBits z ≤ 1048576) → ∃ G, m [.sls (ns.map PV.int)] [] = .ok (.bl true) G) ∧
    ∀ base : Heap, F.K.In base → base.Ns mainGlobals mg → (∀ p ∈ cs, LamX.TabB base mg p.1 p.2) → CalleeP l.prog w F.K mg base F k x 1 m
theorem walk_G {l : PySem.W.OpenLaw} {n k : Nat} {q : Program} {loose : List Str} {XP : (Str → Option Value) → Heap → Prop} {YP : World → Heap → Prop} {d : DefRec} (hn : l.most = some n) (hn2 : n ≤ sizeLine) (hdf : d.params.defaults = []) (hr : Room k callerA)
    (hF : ∀ (w : World) (mg : Str → Option Value) (fa : Addr) (h : Heap), YP w h → h.Ns mainGlobals mg → mg d.name = some (.ref fa) → LawG l w k n d.name mg fa h) : PySem.W.WalkO q loose XP YP l.row.toRowW d [] (fun f vs => PySem.call f vs) := by
  refine Att.attach_callB hn hdf fun w s₀ s₁ mg mb fa o pm cd doc a vs ns G Y ho hd hcd hmg hobj hints hlen hbits hg => ?_
  obtain ⟨F, cs, m, KX, hT, nT, C, hFT, hm, hC⟩ := hF w mg fa _ Y G.T.g hmg
  exact law_callG rfl KX G.T.g G.T.b G.T.builtins G.T.nolimit hg hT nT C hFT G.T.bmain hmg hobj hints (Nat.le_trans hlen hn2) hr (hm ns hlen hbits) hC
end EV
end
section
set_option Elab.async false
set_option linter.all false
set_option maxRecDepth 100000
/-! Ev19: what the head tells, for the defs. -/
namespace EV
open PySem PySem.Spec PyProof.Rows L2
/-- the tables of the defs that make lambdas are of one each -/
def oneEach (tf : List He.Defn) (K : PySem.W.Frag) : Bool := decide ((tf.map fun p => (He.cT K p).2).Nodup)
/-- their names -/
def lamT (tf : List He.Defn) (K : PySem.W.Frag) : List (Addr × Str) := tf.map fun p => ((He.cT K p).2, p.1 ++ ".<locals>." ++ "<lambda>")
theorem nodup_map_eq {α β : Type} {f : α → β} : ∀ {l : List α}, (l.map f).Nodup → ∀ {a b : α}, a ∈ l → b ∈ l → f a = f b → a = b
  | x :: l, h, a, b, ha, hb, e => by
    rw [List.map_cons, List.nodup_cons] at h
    rcases List.mem_cons.mp ha with ha | ha <;> rcases List.mem_cons.mp hb with hb | hb
    · rw [ha, hb]
    · exact absurd (List.mem_map.mpr ⟨b, hb, by rw [← e, ha]⟩) h.1
    · exact absurd (List.mem_map.mpr ⟨a, ha, by rw [e, hb]⟩) h.1
    · exact nodup_map_eq h.2 ha hb e
theorem lamD_of {K : PySem.W.Frag} {mg : Str → Option Value} {base : Heap} {F : Fx} {tf : List He.Defn} {p : He.Defn} {params : Arguments} {body : List Stmt} {scope : Scope} {dvs : List V} {kws : List (Str × V)} {fd : FuncData} (hp : p ∈ tf) (h1 : oneEach tf K = true) (hT : F.T = lamT tf K)
    (TB : ∀ p ∈ tf, LamX.TabB base mg (He.cT K p).1 (He.cT K p).2) (Fd : FunD K p.1 p.1 params body scope dvs kws (He.fAd K p) fd) : LamD K mg base F (He.fAd K p) p.1 := by
  intro cdv ⟨oc, od, osl, fd', lk, e⟩
  obtain ⟨oc2, od2, dV, kV, doc, pm, an, cdv2, ct, osl2, e2, lk2, hc, _⟩ := Fd.ex
  rw [lk] at lk2
  cases lk2
  subst e2
  have e' : cdv2 = cdv := e
  subst e'
  obtain ⟨c, rfl⟩ := He.codeIn_ref hc
  have hco : He.codeOf K p = c := He.codeOf_eq lk rfl
  refine ⟨(He.cT K p).1, (He.cT K p).2, TB p hp, by show Value.ref c = .ref (He.codeOf K p); rw [hco], ?_, fun r hr e => ?_⟩
  · rw [hT]
    exact List.mem_map.mpr ⟨p, hp, rfl⟩
  · rw [hT] at hr
    obtain ⟨p', hp', rfl⟩ := List.mem_map.mp hr
    rw [nodup_map_eq (of_decide_eq_true h1) hp' hp e]
end EV
end
section
set_option Elab.async false
set_option linter.all false
set_option maxRecDepth 100000
/-! Ev20: dicts: dict(pairs), {}, k in d, d[k], d[k] = v. -/
namespace EV
open PySem PySem.Spec PyProof.Rows L2
def keyP : PV → Option Key
  | .str x => some (.inr x)
  | .int i => some (.inl i)
  | _ => none
def pairP : PV → Option (Key × PV)
  | .tup [k, v] => (keyP k).map fun k => (k, v)
  | _ => none
def pairsP : List PV → Option (List (Key × PV))
  | [] => some []
  | p :: ps => match pairP p, pairsP ps with
    | some q, some qs => some (q :: qs)
    | _, _ => none
def getP (kps : List (Key × PV)) (k : Key) : Option PV := (kps.find? fun q => decide (q.1 = k)).map (·.2)
def hasP (kps : List (Key × PV)) (k : Key) : Bool := kps.any fun q => decide (q.1 = k)
def putD (kps : List (Key × PV)) (k : Key) (v : PV) : List (Key × PV) := if hasP kps k = true then kps.map (fun q => if q.1 = k then (q.1, v) else q) else kps ++ [(k, v)]
def mergeP (kps more : List (Key × PV)) : List (Key × PV) := more.foldl (fun acc q => putD acc q.1 q.2) kps
section
variable {F : Fx} {μ : Mu} {H : Hp} {G : GH}
theorem keyP_rep {p : PV} {k : Key} {v : V} (e : keyP p = some k) (r : Rep F μ H p v) : v = kV k := by
  cases p with
  | str x => cases e; exact rep_str r
  | int i => cases e; exact rep_int r
  | _ => cases e
theorem RepK.length {kps : List (Key × PV)} {kvs : List (Key × V)} (r : RepK F μ H kps kvs) : kps.length = kvs.length := Paired.length r
theorem RepK.get {kps : List (Key × PV)} {kvs : List (Key × V)} {k : Key} (r : RepK F μ H kps kvs) : (∀ p, getP kps k = some p → ∃ v, valV kvs k = some v ∧ Rep F μ H p v) ∧ (getP kps k = none → valV kvs k = none) := by
  replace r : Paired _ kps kvs := r
  induction r with
  | nil => exact ⟨fun p h => by simp [getP] at h, fun _ => rfl⟩
  | cons h t ih =>
    rename_i q w kps kvs
    by_cases e : q.1 = k
    · refine ⟨fun p hp => ?_, fun hn => by simp [getP, List.find?_cons, e] at hn⟩
      have : q.2 = p := by simpa [getP, List.find?_cons, e] using hp
      subst this
      exact ⟨w.2, valV_pos (by rw [← h.1]; exact e), h.2⟩
    · have e1 : getP (q :: kps) k = getP kps k := by simp [getP, List.find?_cons, e]
      have e2 : valV (w :: kvs) k = valV kvs k := valV_neg (by rw [← h.1]; exact e)
      rw [e1, e2]
      exact ih
theorem RepK.put {kps : List (Key × PV)} {kvs : List (Key × V)} {k : Key} {p : PV} {v : V} (r : RepK F μ H kps kvs) (rp : Rep F μ H p v) : RepK F μ H (putD kps k p) (putK kvs k v) := by
  replace r : Paired _ kps kvs := r
  have e : hasP kps k = kvs.any fun kv => decide (kv.1 = k) := by
    unfold hasP
    induction r with
    | nil => rfl
    | cons h t ih => simp only [List.any_cons, ih, h.1]
  unfold putD putK
  rw [e]
  split
  · show Paired _ _ _
    clear e
    rename_i z
    clear z
    induction r with
    | nil => exact .nil
    | cons h t ih =>
      rename_i q w _ _
      refine .cons ?_ ih
      show (if q.1 = k then (q.1, p) else q).1 = (if w.1 = k then (w.1, v) else w).1 ∧ Rep F μ H (if q.1 = k then (q.1, p) else q).2 (if w.1 = k then (w.1, v) else w).2
      by_cases z : q.1 = k
      · rw [if_pos z, if_pos (by rw [← h.1]; exact z)]
        exact ⟨h.1, rp⟩
      · rw [if_neg z, if_neg (by rw [← h.1]; exact z)]
        exact h
  · show Paired _ _ _
    clear e
    rename_i z
    clear z
    induction r with
    | nil => exact .cons ⟨rfl, rp⟩ .nil
    | cons h t ih => exact .cons h ih
theorem RepK.merge {more : List (Key × PV)} {ws : List (Key × V)} (r : RepK F μ H more ws) : ∀ {kps : List (Key × PV)} {kvs : List (Key × V)}, RepK F μ H kps kvs → RepK F μ H (mergeP kps more) (mergeK kvs ws) := by
  replace r : Paired _ more ws := r
  induction r with
  | nil => intro kps kvs q; exact q
  | cons h t ih =>
    rename_i q w _ _
    intro kps kvs r0
    have := ih (RepK.put (k := q.1) r0 h.2)
    unfold mergeP mergeK
    simp only [List.foldl_cons]
    rw [← h.1]
    exact this
/-- pairs, as the heap has them -/
theorem pairs_rep {ps : List PV} {kps : List (Key × PV)} {vs : List V} (e : pairsP ps = some kps) (r : Reps F μ H ps vs) : ∃ (ts : List Addr) (kvs : List (Key × V)), vs = ts.map V.ref ∧ Paired (fun p kv => SqT F.K H p [kV kv.1, kv.2]) ts kvs ∧ RepK F μ H kps kvs := by
  induction ps generalizing kps vs with
  | nil =>
    cases e
    rw [r.nil_inv]
    exact ⟨[], [], rfl, .nil, .nil⟩
  | cons p ps ih =>
    unfold pairsP at e
    split at e
    · rename_i q qs e1 e2
      cases e
      obtain ⟨v, vr, rfl, r1, rr⟩ := r.cons_inv
      obtain ⟨ts, kvs, rfl, h1, h2⟩ := ih e2 rr
      unfold pairP at e1
      split at e1
      · rename_i k x
        obtain ⟨kk, ek, rfl⟩ := Option.map_eq_some_iff.mp e1
        obtain ⟨a, ws, rfl, z, st, r2⟩ := rep_tup r1
        obtain ⟨y, w, rfl, r3, r4⟩ := Reps.two_inv r2
        refine ⟨a :: ts, (kk, w) :: kvs, rfl, .cons ?_ h1, .cons ⟨rfl, r4⟩ h2⟩
        rw [← keyP_rep ek r3]
        exact st.sq
      · cases e1
    · cases e
end
section
variable {X : Cx}
theorem pair_vals {pins : List (Addr × Obj)} {σ : L2.St} {H : Hp} {s : Shared} (I : Inv X pins σ H s) {ts : List Addr} {kvs : List (Key × V)} (h : Paired (fun p kv => SqT X.K H p [kV kv.1, kv.2]) ts kvs) :
    ∃ (prs : List (Key × Value)) (us : List (Value × Value)), KV kvs prs ∧ prs.length = ts.length ∧ us.length = ts.length ∧ ∀ (j : Nat) (q : Value × Value), us[j]? = some q → ∃ (b : Addr) (k : Key), ts[j]? = some b ∧ prs[j]? = some (k, q.2) ∧ IsTup s.heap b #[q.1, q.2] ∧ keyIs k q.1 = true := by
  induction h with
  | nil => exact ⟨[], [], .nil, rfl, rfl, fun j q e => by simp at e⟩
  | cons h t ih =>
    rename_i p kv ts kvs
    obtain ⟨prs, us, h1, h2, h3, h4⟩ := ih
    obtain ⟨its, rv, ht, _⟩ := I.tuple h
    obtain ⟨u, y, ei, ru, ry⟩ := vals2 rv
    subst ei
    refine ⟨(kv.1, y) :: prs, (u, y) :: us, .cons ⟨rfl, ry⟩ h1, by simp [h2], by simp [h3], fun j q e => ?_⟩
    cases j with
    | zero =>
      simp at e
      subst e
      exact ⟨p, kv.1, rfl, rfl, ht, kV_is (P := X.prog) (w := X.w) ru⟩
    | succ j =>
      obtain ⟨b, k, e1, e2, e3⟩ := h4 j q (by simpa using e)
      exact ⟨b, k, by simpa using e1, by simpa using e2, e3⟩
/-- dict(t), a tuple of pairs -/
theorem call_dictT {F : Fx} {μ : Mu} (hK : F.K = X.K) (hcalm : X.calm = true) : CallR X (.type "dict") (fun xs H Q => ∃ (a : Addr) (ts : List Addr) (kvs : List (Key × V)), xs = [.ref a] ∧ StT F μ H a (ts.map V.ref) ∧ Paired (fun p kv => SqT X.K H p [kV kv.1, kv.2]) ts kvs ∧
    ∀ p, H p = none → Q (.ref p) (upd H p (.dK (mergeK [] kvs)))) := by
  intro pins s σ H xs us Q I r ⟨a, ts, kvs, ex, st, hp, q⟩
  subst ex
  obtain ⟨u, eu, rx⟩ := vals1 r
  subst eu
  cases rx
  obtain ⟨its, o, rv, hz, ho, hc, hd, n, hdat⟩ : ∃ (its : List Value) (o : Obj), Vals (ts.map V.ref) its ∧ ts.length ≤ sizeLine ∧ s.heap.get? a = some o ∧ o.cls = .type "tuple" ∧ o.dict = none ∧ ∃ n, o.data = .seq its.toArray n := by
    rcases st with ⟨_, o, h, d⟩ | ⟨o, its, n, h1, h2, h3, h4, h5, h6⟩
    · obtain ⟨ho, z, its, rv, o', ho', c, n, dt⟩ := I.hok a _ h
      rw [ho] at ho'
      cases ho'
      exact ⟨its, o, rv, by rw [List.length_map] at z; exact z, ho, c, d, n, dt⟩
    · rw [hK] at h1
      have := h6.length
      refine ⟨its.toList, o, h6, ?_, I.kIn a o h1, h2, h3, n, by simpa using h4⟩
      rw [List.length_map] at this
      rw [this]
      simpa using h5
  have ei := refs_at rv
  subst ei
  obtain ⟨prs, vps, rel, hl, hl2, hpr⟩ := pair_vals I hp
  have hT : PySem.PairItems s.heap (ts.map Value.ref).toArray (fun j => ts.getD j 0) vps := by
    refine ⟨by simp [hl2], fun j k v hj => ?_⟩
    obtain ⟨b, kk, e1, _, e3, _⟩ := hpr j (k, v) hj
    refine ⟨by simp [e1, List.getD], ?_⟩
    obtain ⟨ob, hb, cb, nb, db⟩ := e3
    have eb : ts.getD j 0 = b := by rw [List.getD_eq_getElem?_getD, e1]; rfl
    show PairAt s.heap (ts.getD j 0) k v
    rw [eb]
    exact .inl ⟨ob, hb, cb, nb, db⟩
  refine PySem.call_dict_pairs (knd := mixKind X.prog X.w) (kvs := prs) (PySem.PairArg.tuple a _ (fun j => ts.getD j 0) vps) (I.ok.hd hcalm) ⟨⟨o, n, ho, hc, hd, hdat⟩, hT⟩ ⟨by omega, fun i key v e => ?_⟩ (by omega) fun h' tk hd' k => ?_
  · obtain ⟨b, kk, _, e2, _, e4⟩ := hpr i (key, v) e
    exact ⟨kk, e2, e4⟩
  · have hm : (s.heap.objs.size == sysModules) = false := beq_eq_false_iff_ne.mpr (Nat.ne_of_gt I.big)
    have hlen : (mergeK [] kvs).length ≤ sizeLine := by
      refine Nat.le_trans (length_mergeK kvs []) ?_
      have := rel.length
      simp
      omega
    exact ⟨.ref s.heap.objs.size, upd H s.heap.objs.size (.dK (mergeK [] kvs)), I.laid (t' := tk) (fun b o e => k b o (by simp) e) (Nat.le_refl _) (show ObjOk X.prog X.w _ _ _ (.dK (mergeK [] kvs)) from ⟨hlen, hm, merged [] prs, KV.merge rel .nil, hd'⟩), rfl, q _ (I.hok.fresh (Nat.le_refl _))⟩
/-- d[k] of a dict of texts and ints -/
theorem ix_dic : IxR X (fun x y H Q => ∃ a kvs k v, x = .ref a ∧ Rd H a (.dK kvs) ∧ y = kV k ∧ valV kvs k = some v ∧ Q v H) := by
  intro value slice pins s σ H x y v u Q I rx ry ⟨a, kvs, k, z, ex, hd, ey, hv, q⟩ hs
  subst ex ey
  cases rx
  obtain ⟨_, _, vs, rel, dd⟩ := dk_rd I.hok hd
  obtain ⟨w', hw, rw'⟩ := RelO.some_of (v := z) (o := valueAt vs k) (by rw [← hv]; exact rel.val k)
  exact subscriptTail_builtinR (x := w') dd.typeIs PySem.F.slot_dict_getitem.lookup (wpAny_getItem_of (kV_is ry) dd.mapOf hw ⟨rfl, z, H, I.tok _, rw', q⟩) hs
end
section
variable {X : Cx} {F : Fx} {Ex : XK} {n : Nat} {μ : Mu} {H : Hp} {G : GH}
/-- a new dict is handed out -/
theorem new_dic {kps : List (Key × PV)} {kvs : List (Key × V)} {Q : VK} (h : Post F (RV F) Ex μ H (.ok (.obj G.length) (G ++ [.dic kps])) Q) (g : HRep F μ H G) (r : RepK F μ H kps kvs) (z : kvs.length ≤ sizeLine) : ∀ p, H p = none → Q (.ref p) (upd H p (.dK kvs)) := fun p n => by
  refine h.ok (Ext.push g n) ?_ (g.push n ⟨kvs, upd_same, z, r.mono (Ext.push g n)⟩)
  show Rep F _ _ _ _
  simp only [Rep]
  exact ⟨p, rfl, by rw [← g.len]; simp⟩
def bDict (ps : List PV) (G : GH) : Res PV := match ps with
  | [.tup qs] => match pairsP qs with
    | some kps => .ok (.obj G.length) (G ++ [.dic (mergeP [] kps)])
    | none => .bad
  | [x] => match (asL x G).bind pairsP with
    | some kps => .ok (.obj G.length) (G ++ [.dic (mergeP [] kps)])
    | none => .bad
  | _ => .bad
theorem bDict_ok (hK : F.K = X.K) (hc : X.calm = true) : CallR X (.type "dict") (RdV F Ex bDict) := by
  intro pins s σ H xs us Q I rs ⟨μ, ps, G, r, g, p⟩
  unfold bDict at p
  split at p
  · rename_i qs
    obtain ⟨v, rfl, r1⟩ := Reps.one_inv r
    obtain ⟨a, vs, rfl, z, st, rr⟩ := rep_tup r1
    split at p
    · rename_i kps ek
      obtain ⟨ts, kvs, rfl, h1, h2⟩ := pairs_rep ek rr
      rw [hK] at h1
      have hz : (mergeK [] kvs).length ≤ sizeLine := by
        have a1 := Paired.length h1
        have a2 := length_mergeK kvs []
        rw [List.length_map] at z
        simp at a2
        omega
      exact call_dictT hK hc pins s σ H _ us Q I rs ⟨a, ts, kvs, rfl, st, h1, new_dic p g (RepK.merge h2 .nil) hz⟩
    · exact (show False from p).elim
  · rename_i x hx
    obtain ⟨v, rfl, r1⟩ := Reps.one_inv r
    split at p
    · rename_i kps ek
      obtain ⟨qs, es, e2⟩ := Option.bind_eq_some_iff.mp ek
      obtain ⟨a, vs, rfl, z, st, rr⟩ := asL_rep es r1 g
      obtain ⟨ts, kvs, rfl, h1, h2⟩ := pairs_rep e2 rr
      rw [hK] at h1 st
      have hz : (mergeK [] kvs).length ≤ sizeLine := by
        have a1 := Paired.length h1
        have a2 := length_mergeK kvs []
        rw [List.length_map] at z
        simp at a2
        omega
      exact call_dictP hc pins s σ H _ us Q I rs ⟨a, ts, kvs, rfl, st, h1, new_dic p g (RepK.merge h2 .nil) hz⟩
    · exact (show False from p).elim
  · exact (show False from p).elim
def mDNew : Env → GH → Res PV := fun _ G => .ok (.obj G.length) (G ++ [.dic []])
theorem gdnew {pos : Pos} : PE X (.Dict [] [] pos) (TEv F Ex mDNew) := pe_dnewK.weak fun σ H Q ⟨μ, ρ, G, s, g, p⟩ => new_dic (show Post F (RV F) Ex μ H (.ok (.obj G.length) (G ++ [.dic []])) Q from p) g .nil (by decide)
/-- a dict of ours, with what it holds at a key -/
def asD (G : GH) : PV → Option (List (Key × PV))
  | .obj n => match G[n]? with
    | some (.dic kps) => some kps
    | _ => none
  | _ => none
theorem asD_rep {x : PV} {kps : List (Key × PV)} {v : V} (e : asD G x = some kps) (r : Rep F μ H x v) (g : HRep F μ H G) : ∃ n a kvs, x = .obj n ∧ G[n]? = some (.dic kps) ∧ v = .ref a ∧ μ.ob[n]? = some a ∧ H a = some (.dK kvs) ∧ kvs.length ≤ sizeLine ∧ RepK F μ H kps kvs := by
  cases x with
  | obj n =>
    obtain ⟨a, rfl, ha⟩ := rep_obj r
    unfold asD at e
    simp only at e
    split at e
    · rename_i ks eo
      cases e
      obtain ⟨kvs, q, z, rk⟩ := g.obj n a _ ha eo
      exact ⟨n, a, kvs, rfl, eo, rfl, ha, q, z, rk⟩
    · cases e
  | _ => cases e
/-- x[k]: of a dict too -/
def opIxA (ps : List PV) (G : GH) : Res PV := match ps with
  | [x, k] => match asD G x with
    | some kps => match (keyP k).bind (getP kps) with
      | some v => .ok v G
      | none => .bad
    | none => opIx [x, k] G
  | _ => .bad
theorem opIxA_ok (hK : F.K = X.K) : IxR X (OpV F Ex opIxA) := by
  intro value slice pins s σ H x y v u Q I rx ry ⟨μ, ps, G, r, g, p⟩ hs
  unfold opIxA at p
  split at p
  · obtain ⟨vx, vk, e, r1, r2⟩ := Reps.two_inv r
    cases e
    split at p
    · rename_i kps ed
      obtain ⟨n, a, kvs, rfl, _, rfl, ha, q, z, rk⟩ := asD_rep ed r1 g
      split at p
      · rename_i w ew
        obtain ⟨kk, ek, eg⟩ := Option.bind_eq_some_iff.mp ew
        obtain ⟨v', hv, rv⟩ := (RepK.get rk).1 w eg
        exact ix_dic value slice pins s σ H _ _ v u Q I rx ry ⟨a, kvs, kk, v', rfl, .inl q, keyP_rep ek r2, hv, p.here rv g⟩ hs
      · exact (show False from p).elim
    · exact opIx_ok hK value slice pins s σ H _ _ v u Q I rx ry ⟨μ, _, G, r, g, p⟩ hs
  · exact (show False from p).elim
/-- o[i] = e: of a dict too -/
def fSetA (ps : List PV) (G : GH) : Res Unit := match ps with
  | [.obj n, k, v] => match G[n]? with
    | some (.dic kps) => match keyP k with
      | some kk => if kps.length < sizeLine then .ok () (G.set n (.dic (putD kps kk v))) else .bad
      | none => .bad
    | _ => fSetL ps G
  | _ => .bad
theorem fSetA_ok (hu : X.A.units + 1 < cLine) : PSet X (RdSet F Ex fSetA) := by
  intro pins s σ H o i v ov iv u Q I ro ri rv ⟨μ, ps, G, r, g, p⟩
  unfold fSetA at p
  split at p
  · rename_i n k w
    split at p
    · rename_i kps eo
      obtain ⟨x1, t1, e1, r1, rr⟩ := r.cons_inv
      obtain ⟨x2, t2, e2, r2, rr⟩ := rr.cons_inv
      obtain ⟨x3, e3, r3⟩ := rr.one_inv
      subst e3
      subst e2
      cases e1
      obtain ⟨a, rfl, ha⟩ := rep_obj r1
      split at p
      · rename_i kk ek
        split at p
        · rename_i hz
          obtain ⟨kvs, q, z, rk⟩ := g.obj _ a _ ha eo
          obtain rfl : ov = .ref a := ro
          have m := List.mem_of_getElem? ha
          have l := RepK.length rk
          refine d_setItem hu I (DPut.k (k := kk) (v := v) q (by omega)) (by rw [← keyP_rep ek r2]; exact ri) rv fun s' I' => ⟨_, I', ?_⟩
          have ex : Ext μ μ H (upd H a (.dK (putK kvs kk v))) := Ext.write m
          refine p.ok (b := ()) ex trivial (g.write ha ⟨_, upd_same, ?_, (RepK.put rk r3).mono ex⟩)
          have := length_putK kvs kk v
          omega
        · exact (show False from p).elim
      · exact (show False from p).elim
    · exact fSetL_ok pins s σ H o i v ov iv u Q I ro ri rv ⟨μ, _, G, r, g, p⟩
  · exact (show False from p).elim
end
end EV
end
section
set_option Elab.async false
set_option linter.all false
set_option maxRecDepth 100000
/-! Ev21: comprehensions of two clauses. -/
namespace EV
open PySem PySem.Spec PyProof.Rows L2
section
variable {X : Cx} {F : Fx} {Ex : XK}
/-- the list D is being made: what it holds so far -/
structure Mk2 (F : Fx) (μ1 : Mu) (H1 : Hp) (D : Addr) (l : List Addr) (H2 : Hp) (G2 : GH) (accP : List PV) (acc : List V) : Prop where
  e : Ext μ1 ⟨l, μ1.rs⟩ H1 H2
  g : HRep F ((⟨l, μ1.rs⟩ : Mu).mk1 D) H2 G2
  c : Chg F μ1 ((⟨l, μ1.rs⟩ : Mu).mk1 D) H1 H2
  at_ : H2 D = some (.lst acc)
  r : Reps F ((⟨l, μ1.rs⟩ : Mu).mk1 D) H2 accP acc
  z : acc.length ≤ sizeLine
theorem Mk2.step {μ1 : Mu} {H1 H2 H3 : Hp} {D : Addr} {l : List Addr} {G2 G3 : GH} {accP : List PV} {acc : List V} {μ3 : Mu} (hD : H1 D = none) (m : Mk2 F μ1 H1 D l H2 G2 accP acc) (e : Ext ((⟨l, μ1.rs⟩ : Mu).mk1 D) μ3 H2 H3) (g : HRep F μ3 H3 G3) : ∃ l3, μ3 = (⟨l3, μ1.rs⟩ : Mu).mk1 D ∧ Mk2 F μ1 H1 D l3 H3 G3 accP acc := by
  obtain ⟨l3, rfl⟩ := Ext.drop1 (μ := ⟨l, μ1.rs⟩) e
  have hDl : D ∉ l := (m.g.res D List.mem_cons_self).1
  have h3 : H3 D = some (.lst acc) := e.keep D _ m.at_ (fun _ z => by cases z) hDl
  have u : upd H3 D (.lst acc) = H3 := by
    funext b; unfold upd; split
    · rename_i z; rw [z, h3]
    · rfl
  have st := Ext.step1 (o := .lst acc) hD m.e e
  rw [u] at st
  exact ⟨l3, rfl, st, g, m.c.trans e.chg, h3, m.r.mono e, m.z⟩
end
end EV
end
section
set_option Elab.async false
set_option linter.all false
set_option maxRecDepth 100000
set_option maxHeartbeats 1000000
/-! Ev22: a, *b = t, of a tuple; the rest is a new list. -/
namespace EV
open PySem PySem.Spec PyProof.Rows L2
section
variable {prog : Program} {w : World} {A : Around} {E : Value → Shared → Prop} {s : Shared}
theorem walks_from (hh : A.handled = none) (it t : Addr) (k : Nat) (items : Array Value) (hne : t ≠ it) : Walks prog w A it [it, t] [it] (items.size - k) (fun i v => items[k + i]? = some v) (fun i h => h.IsTupleIter it t (k + i) ∧ h.IsTuple t items) where
  sub := fun b hb => by simp at hb; simp [hb]
  frame := fun i h h' st hk => ⟨st.1.at fun o e => hk it (by simp) o e, tup_keep st.2 fun o e => hk t (by simp) o e⟩
  item := fun i s Q E hi st hQ => by
    have hx : items[k + i]? = some (items[k + i]'(by omega)) := Array.getElem?_eq_getElem (by omega)
    refine next_tuple_item (show IsTupIter s.heap it t (k + i) from st.1) st.2 hx fun h' hit' sb => ?_
    exact hQ _ h' s.toks hx ⟨hit', tup_keep st.2 fun o e => sb.extBut t o hne e⟩ fun b o hb e => sb.extBut b o (fun z => hb (by simp [z])) e
  done := fun s Q E st hQ => by
    have hx : items[k + (items.size - k)]? = none := Array.getElem?_eq_none (by omega)
    refine next_tuple_end hh (show IsTupIter s.heap it t _ from st.1) st.2 hx fun h' he => ?_
    exact hQ h' s.toks fun b o hb e => he b o (fun z => hb (by simp [z])) e
  self := fun i s Q E st hQ => by
    refine wpAny_pyIter_slot st.1.typeIs F.slot_tuple_iterator_iter (wpAny_call_entry F.slot_tuple_iterator_iter st.1.typeIs F.entry_tuple_iterator_iter ?_ (F.args_tuple_iterator_iter_1 _))
    show wpAny _ _ (ret (.ref it)) _ _ s
    exact wpAny_pure ⟨_, rfl, "tuple_iterator", _, st.1.typeIs, F.slot_tuple_iterator_next.lookup, hQ⟩
theorem unpack_star {t : Addr} {items : Array Value} {k : Nat} {Q : List Value → Shared → Prop} (hh : A.handled = none) (ht : IsTup s.heap t items) (hk : k ≤ items.size) (hz : items.size ≤ sizeLine)
    (hQ : ∀ (L : Addr) h' tk, (∀ b o, s.heap.get? b = some o → h'.get? b = some o) → s.heap.get? L = none → h'.get? L = some { cls := .type "list", data := .seq (items.toList.drop k).toArray } → Q (items.toList.take k ++ [.ref L]) { s with heap := h', toks := tk }) :
    wpAny (model prog w) A (unpackItems (.ref t) (k + 1) (some k)) Q E s := by
  have hlt : t ≠ s.heap.objs.size := by obtain ⟨o, ho, _⟩ := ht; exact Nat.ne_of_lt (Heap.lt_size ho)
  unfold unpackItems
  refine wpAny_bind ?_
  unfold notIterableAtAll
  refine wpAny_bind (wpAny_specialOf ht.typeIs slot_tuple_iter.lookup ?_)
  refine wpAny_pure ?_
  simp only [Bool.false_eq_true, if_false]
  refine wpAny_bind (wpAny_holding (iter_tuple ht ?_))
  refine wpAny_bind (wpAny_holding (draw_tuple hlt k 0 _ _ ⟨_, Heap.get?_push_size _ rfl, rfl, rfl⟩ (ht.push _) (by omega) fun h₁ hit₁ hs₁ => ?_))
  rw [List.drop_zero]
  have hlen : (items.toList.take k).length = k := by simp; omega
  rw [if_neg (by rw [hlen]; omega)]
  have ht₁ : IsTup h₁ t items := (ht.push _).extBut hs₁.extBut hlt
  have hI : s.heap.objs.size < h₁.objs.size := by obtain ⟨o, e, _⟩ := hit₁; exact Heap.lt_size e
  have htl : t < h₁.objs.size := by obtain ⟨o, e, _⟩ := ht₁; exact Heap.lt_size e
  have hit₁' : h₁.IsTupleIter s.heap.objs.size t (k + 0) := by
    have := hit₁
    rw [Nat.zero_add] at this
    exact this
  refine wpAny_bind (wpAny_holding (wpAny_collect_iter (s := { s with heap := h₁ }) (T := "tuple_iterator") (.inr (.inr (.inr rfl))) (walks_from (A := A.in1) hh _ t k items hlt).toS (fun i s' st => st.1.typeIs) ⟨hit₁', ht₁⟩ (fun b hb => ?_) (by simp) (fun s' acc mv it => ?_) (by omega)))
  · have e : b = s.heap.objs.size ∨ b = t := by simpa using hb
    rcases e with e | e <;> (rw [e]; assumption)
  · have ea : acc.toList = items.toList.drop k := by
      apply List.ext_getElem?
      intro j
      rw [List.getElem?_drop]
      by_cases hj : j < acc.size
      · have h1 := it.2 j acc[j] (Array.getElem?_eq_getElem hj)
        rw [Array.getElem?_toList, Array.getElem?_toList, h1, Array.getElem?_eq_getElem hj]
      · have h0 := it.1
        rw [List.getElem?_eq_none (by simp; omega), List.getElem?_eq_none (by simp; omega)]
    rw [ea]
    have e1 : k + 1 - 1 - k = 0 := by omega
    rw [if_neg (by rw [e1]; omega)]
    rw [e1, Nat.sub_zero, List.take_length, List.drop_length]
    have kp : ∀ b o, s.heap.get? b = some o → s'.heap.get? b = some o := fun b o e => by
      have hb : b ≠ s.heap.objs.size := Nat.ne_of_lt (Heap.lt_size e)
      exact mv.heap b o (fun z => hb (by simpa using z)) (hs₁.extBut b o hb (Heap.get?_push_of_some _ e))
    refine wpAny_bind (wpAny_newList ?_ (by simp; omega))
    refine wpAny_pure ?_
    have es := Moved.eq_with mv
    rw [es, List.append_nil]
    refine hQ s'.heap.objs.size _ s'.toks (fun b o e => Heap.get?_push_of_some _ (kp b o e)) ?_ (Heap.get?_push_size _ rfl)
    cases q : s.heap.get? s'.heap.objs.size with
    | none => rfl
    | some o => exact absurd (Heap.lt_size (kp _ o q)) (Nat.lt_irrefl _)
end
section
variable {X : Cx} {F : Fx} {Ex : XK} {n : Nat}
theorem pgs_last {e : Expr} {p : Pos} {t : TGs} (h : PGs X [e] t) (hp : plainE e = true) : PGs X [.Starred e p] t := by
  refine ⟨fun pins s σ H vs us Q I r q => ?_⟩
  have := h.run pins s σ H vs us Q I r q
  rw [plain_target hp] at this
  exact this
/-- a, .., *b = a tuple -/
theorem pg_star {es : List Expr} {k j : Nat} {pos : Pos} {t : TGs} (hc : X.calm = true) (h : PGs X es t) (hn : (assignEach es X.env).length = k + 1) (hst : (assignEach es X.env).findIdx? (·.1) = some k) :
    PG X (.Tuple es j pos) (fun v σ H Q => ∃ a xs, v = .ref a ∧ SqT X.K H a xs ∧ k ≤ xs.length ∧ ∀ L, H L = none → t (xs.take k ++ [.ref L]) σ (upd H L (.lst (xs.drop k))) Q) := by
  refine ⟨fun pins s σ H v u Q I r hw => ?_⟩
  obtain ⟨a, xs, e1, hq, hl, hw⟩ := hw
  subst e1
  cases r
  obtain ⟨its, rv, ht, hz⟩ := I.tuple hq
  have hle := rv.length
  rw [assign_Tuple]
  refine wpAny_bind (wpAny_standAt ?_)
  unfold unpack
  rw [hn, hst]
  refine wpAny_bind (wpAny_holding (unpack_star (I.ok.hd hc) ht (by simp; omega) (by simp; omega) fun L h' tk kp hL hLo => ?_))
  have hn' : H L = none := I.hok.gone hL
  have I1 : Inv X pins σ (upd H L (.lst (xs.drop k))) { s with heap := h', toks := tk } := I.laidN (t' := tk) kp hL hn' ⟨by rw [List.length_drop]; omega, its.drop k, _, rv.drop k, by simpa using hLo⟩
  refine h.run pins _ σ _ (xs.take k ++ [.ref L]) _ Q I1 ?_ (hw L hn')
  have := (rv.take k).append (show Vals [V.ref L] [Value.ref L] from .cons (show RelV (.ref L) (Value.ref L) from rfl) .nil)
  simpa using this
def gStarE (k : Nat) (ms : List PV → Env → GH → Res Env) : PV → Env → GH → Res Env := fun p ρ G => match p with
  | .tup ps => if k ≤ ps.length then ms (ps.take k ++ [.lst (ps.drop k)]) ρ G else .bad
  | _ => .bad
theorem gts (g : GX X F Ex n) {es : List Expr} {j : Nat} {pos : Pos} {sl : List Nat} {ms : List PV → Env → GH → Res Env} (k : Nat) (h : PGs X es (TGvs F Ex sl ms)) (hn : (assignEach es X.env).length = k + 1 := by rfl) (hst : (assignEach es X.env).findIdx? (·.1) = some k := by rfl) :
    PG X (.Tuple es j pos) (TGv F Ex sl (gStarE k ms)) := (pg_star g.calm h hn hst).weak fun v σ H Q ⟨μ, p, ρ, G, r, s, gr, q⟩ => by
  unfold gStarE at q
  split at q
  · rename_i ps
    obtain ⟨a, vs, rfl, z, st, rr⟩ := rep_tup r
    split at q
    · rename_i hk
      have hl := rr.length
      refine ⟨a, vs, rfl, by rw [← g.K]; exact st.sq, by omega, fun L hL => ?_⟩
      have ex := Ext.upd_new gr (o := .lst (vs.drop k)) hL
      refine ⟨μ, _, ρ, G, (rr.mono ex).take k |>.append (.one ?_), s.mono ex, gr.upd_new hL, q.shift ex⟩
      simp only [Rep]
      exact ⟨L, vs.drop k, rfl, by rw [List.length_drop]; omega, ⟨gr.fresh hL, upd_same⟩, (rr.mono ex).drop k⟩
    · exact (show False from q).elim
  · exact (show False from q).elim
theorem gtl {a : Expr} {p : Pos} {sl : List Nat} {m : PV → Env → GH → Res Env} (h1 : PG X a (TGv F Ex sl m)) (hp : plainE a = true := by kernel_rfl) : PGs X [.Starred a p] (TGvs F Ex (sl ++ []) (gConsE m gNilE)) := pgs_last (ev_gcons hp h1 ev_gnil) hp
end
end EV
end
section
set_option Elab.async false
set_option linter.all false
set_option maxRecDepth 100000
set_option maxHeartbeats 2000000
/-! Zs3: enumerate of a tuple, turn by turn. -/
namespace Zs
open PySem
open PySem.Sem (wp)
open RZ
section
variable {prog : Program} {w : World} {A : Around} {E : Value → Shared → Prop} {s : Shared}
end
end Zs
end
section
set_option Elab.async false
set_option linter.all false
set_option maxRecDepth 100000
set_option maxHeartbeats 2000000
/-! Ev23: list(enumerate(t)), t a tuple. -/
namespace Zs
open PySem
section
variable {prog : Program} {w : World} {A : Around} {E : Value → Shared → Prop} {s : Shared}
/-- where the walk stands -/
structure EnSt (e it l : Addr) (lo : Nat) (xs : Array Value) (i : Nat) (h : Heap) : Prop where
  hit : h.IsTupleIter it l i
  hl : h.IsTuple l xs
  en : (∃ old, IsEnum h e it i old) ∨ ∃ (T : Addr) (oT : Obj) (f : Bool) (old : Value), IsEnumHeld h e it i old T f ∧ h.get? T = some oT ∧ lo ≤ T
end
end Zs
namespace EV
open PySem PySem.Spec PyProof.Rows L2 RZ Zs
section
variable {X : Cx} {F : Fx} {Ex : XK} {n : Nat}
def enP (ps : List PV) : List PV := ((List.range ps.length).zip ps).map fun q => .tup [.int (q.1 : Nat), q.2]
variable {a b : Expr} {pos : Pos} {ma mb : Env → GH → Res PV}
theorem GX.un1 (g : GX X F Ex n) : X.A.units + 1 < cLine := by have := g.un; omega
theorem gixA (g : GX X F Ex n) (hs : PlainIx b) (ha : PE X a (TEv F Ex ma)) (hb : PE X b (TEv F Ex mb)) : PE X (.Subscript a b pos) (TEv F Ex (m2 ma mb opIxA)) := ev_ix (opIxA_ok g.K) ha hb hs
end
end EV
end
section
set_option Elab.async false
set_option linter.all false
set_option maxRecDepth 100000
/-! Ev24: a module's constants: numbers, texts, tuples of these. -/
namespace EV
open PySem PySem.Spec PyProof.Rows L2
mutual
/-- a written value reads so -/
def readB (K : PySem.W.Frag) : PV → Value → Bool
  | .non, v => decide (v = .none)
  | .bl b, v => decide (v = .bool b)
  | .int i, .int j _ => decide (i = j)
  | .str x, .str y _ => decide (x = y)
  | .tup ps, .ref a => (match K.lookup a with
    | some o => decide (o.cls = .type "tuple") && (o.dict.isNone && (match o.data with
      | .seq its _ => decide (its.size ≤ sizeLine) && readsB K ps its.toList
      | _ => false))
    | none => false)
  | _, _ => false
def readsB (K : PySem.W.Frag) : List PV → List Value → Bool
  | [], [] => true
  | p :: ps, v :: vs => readB K p v && readsB K ps vs
  | _, _ => false
end
section
variable {K : PySem.W.Frag}
mutual
theorem readB_rep : ∀ (p : PV) (u : Value), readB K p u = true → ∃ v, RelV v u ∧ ∀ (F : Fx) (μ : Mu) (H : Hp), F.K = K → Rep F μ H p v
  | .non, u, h => by
    simp only [readB, decide_eq_true_eq] at h
    exact ⟨.non, by rw [h]; rfl, fun _ _ _ _ => by simp only [Rep]⟩
  | .bl b, u, h => by
    simp only [readB, decide_eq_true_eq] at h
    exact ⟨.bl b, by rw [h]; rfl, fun _ _ _ _ => by simp only [Rep]⟩
  | .int i, u, h => by
    cases u <;> simp only [readB, decide_eq_true_eq] at h <;> first | (cases h; done) | skip
    exact ⟨.int i, ⟨_, by rw [h]⟩, fun _ _ _ _ => by simp only [Rep]⟩
  | .str x, u, h => by
    cases u <;> simp only [readB, decide_eq_true_eq] at h <;> first | (cases h; done) | skip
    exact ⟨.str x, ⟨_, by rw [h]⟩, fun _ _ _ _ => by simp only [Rep]⟩
  | .tup ps, u, h => by
    cases u <;> simp only [readB] at h <;> first | (cases h; done) | skip
    rename_i a
    split at h
    · rename_i o eo
      simp only [Bool.and_eq_true, decide_eq_true_eq, Option.isNone_iff_eq_none] at h
      obtain ⟨h1, h2, h3⟩ := h
      split at h3
      · rename_i its n ed
        simp only [Bool.and_eq_true, decide_eq_true_eq] at h3
        obtain ⟨vs, rv, rr⟩ := readsB_rep ps its.toList h3.2
        refine ⟨.ref a, rfl, fun F μ H hK => ?_⟩
        simp only [Rep]
        refine ⟨a, vs, rfl, ?_, .inr ⟨o, its, n, by rw [hK]; exact eo, h1, h2, ed, h3.1, rv⟩, rr F μ H hK⟩
        rw [rv.length]
        simpa using h3.1
      · cases h3
    · cases h
  | .lst _, u, h => by simp [readB] at h
  | .sls _, u, h => by simp [readB] at h
  | .obj _, u, h => by simp [readB] at h
theorem readsB_rep : ∀ (ps : List PV) (us : List Value), readsB K ps us = true → ∃ vs, Vals vs us ∧ ∀ (F : Fx) (μ : Mu) (H : Hp), F.K = K → Reps F μ H ps vs
  | [], [], _ => ⟨[], .nil, fun _ _ _ _ => .nil⟩
  | [], _ :: _, h => by simp [readsB] at h
  | _ :: _, [], h => by simp [readsB] at h
  | p :: ps, u :: us, h => by
    simp only [readsB, Bool.and_eq_true] at h
    obtain ⟨v, rv, r⟩ := readB_rep p u h.1
    obtain ⟨vs, rvs, rs⟩ := readsB_rep ps us h.2
    exact ⟨v :: vs, .cons rv rvs, fun F μ H hK => .cons (r F μ H hK) (rs F μ H hK)⟩
end
/-- a module's constant -/
def cstB (K : PySem.W.Frag) (q : Str × PV) : Bool := match PySem.W.nsIn K mainGlobals q.1 with
  | some (some v) => readB K q.2 v
  | _ => false
def CstOf (K : PySem.W.Frag) (mg : Str → Option Value) (x : Str) (p : PV) : Prop := ∃ u v, mg x = some u ∧ RelV v u ∧ ∀ (F : Fx) (μ : Mu) (H : Hp), F.K = K → Rep F μ H p v
theorem cst_of {h : Heap} {mg : Str → Option Value} (X : K.In h) (G : h.Ns mainGlobals mg) {x : Str} {p : PV} (c : cstB K (x, p) = true) : CstOf K mg x p := by
  unfold cstB at c
  split at c
  · rename_i v e
    obtain ⟨w, rw_, r⟩ := readB_rep p v c
    exact ⟨v, w, PySem.W.mg_of X G e, rw_, r⟩
  · cases c
end
def eachC (tf : List He.Defn) (cs : List (Str × PV)) (K : PySem.W.Frag) : Bool := oneEach tf K && cs.all (cstB K)
theorem eachC_one {tf : List He.Defn} {cs : List (Str × PV)} {K : PySem.W.Frag} (h : eachC tf cs K = true) : oneEach tf K = true := (Bool.and_eq_true_iff.mp h).1
theorem eachC_cst {tf : List He.Defn} {cs : List (Str × PV)} {K : PySem.W.Frag} {h : Heap} {mg : Str → Option Value} (X : K.In h) (G : h.Ns mainGlobals mg) (c : eachC tf cs K = true) (i : Nat) {x : Str} {p : PV} (e : cs[i]? = some (x, p)) : CstOf K mg x p :=
  cst_of X G (List.all_eq_true.mp (Bool.and_eq_true_iff.mp c).2 (x, p) (List.mem_of_getElem? e))
/-! ### a if c else b, as a test -/
section
variable {X : Cx} {F : Fx} {Ex : XK}
end
section
variable {X : Cx} {F : Fx} {Ex : XK} {n : Nat}
theorem gglo (g : GX X F Ex n) {x : Str} {p : PV} {pos : Pos} {K : PySem.W.Frag} (hK : F.K = K) (c : CstOf K X.mg x p) (hg : X.env.kindOf x = some .globalImplicit := by kernel_rfl) (hd : nmB x = true := by kernel_rfl) : PE X (.Name x pos) (TEv F Ex (mCst p)) := by
  obtain ⟨u, v, hm, rv, r⟩ := c
  exact ev_cst (pe_glob hg hm rv (nm1 hd)) fun μ H => r F μ H hK
end
end EV
end
section
/-! Gn: the bodies of defs that several laws share, as the evaluator has them (printed by gen.py). -/
set_option Elab.async false
set_option linter.all false
set_option maxRecDepth 100000
namespace GN
open PySem PySem.Spec PyProof.Rows L2 EV
/-- key_of(plain) -/
def N_key_of : List Str := ["plain"]
def b_key_of : EV.Env → GH → Res Fl := sSeq (sIf (mT (m1 (mVar 0) (bIsi "bool"))) (sSeq (sRet (mA (mCons (mCst (.int 0)) (mCons (mVar 0) (mNil))) mkTup)) (sNext)) (sNext)) (sSeq (sRet (mIf (mT (m1 (mVar 0) (bIsi "int"))) (mA (mCons (mCst (.int 1)) (mCons (mVar 0) (mNil))) mkTup) (mA (mCons (mCst (.int 2)) (mCons (mVar 0) (mNil))) mkTup))) (sNext))
/-- _law_feed(_law_script) -/
def N__law_feed : List Str := ["_law_script"]
def b__law_feed : EV.Env → GH → Res Fl := sSeq (sRet (mA (mCons (mSl (mVar 0) (mNoPart) (mPart (mCst (.int 63))) opSl) (mCons (mCst (.int 0)) (mCons (mCst (.int 0)) (mCons (mCst (.int 0)) (mNil))))) mkObj)) (sNext)
/-- _law_draw(_law_feed_here, _law_many) -/
def N__law_draw : List Str := ["_law_feed_here", "_law_many", "_law_cell", "_law_mixed", "_law_found"]
def b__law_draw : EV.Env → GH → Res Fl := sSeq (sSet (m2 (m2 (mVar 0) (mCst (.int 3)) opIx) (mCst (.int 1)) opAdd) (mVar 0) (mCst (.int 3)) fSetL) (sSeq (sIf (mB (m2 (m2 (mVar 0) (mCst (.int 2)) opIx) (mCst (.int 0)) (Cop.f .gt))) (sSeq (sAsg (m2 (m2 (mVar 0) (mCst (.int 2)) opIx) (mVar 1) opMod) (gN 4)) (sSeq (sSet (m2 (m2 (mVar 0) (mCst (.int 2)) opIx) (mVar 1) opDiv) (mVar 0) (mCst (.int 2)) fSetL) (sSeq (sRet (mVar 4)) (sNext)))) (sNext)) (sSeq (sAsg (mCst (.int 5)) (gN 2)) (sSeq (sIf (mB (m2 (m2 (mVar 0) (mCst (.int 0)) opIx) (mA (mNil) mkLst) (Cop.f .ne))) (sSeq (sAsg (m2 (m2 (mVar 0) (mCst (.int 0)) opIx) (m2 (m2 (mVar 0) (mCst (.int 1)) opIx) (mA (mCons (m2 (mVar 0) (mCst (.int 0)) opIx) (mNil)) bLen) opMod) opIx) (gN 2)) (sNext)) (sNext)) (sSeq (sSet (m2 (m2 (mVar 0) (mCst (.int 1)) opIx) (mCst (.int 1)) opAdd) (mVar 0) (mCst (.int 1)) fSetL) (sSeq (sIf (mtAnd (mB (m2 (mVar 2) (m2 (mCst (.int 10)) (mCst (.int 18)) opPow) (Cop.f .ge))) (mB (m2 (m2 (mVar 0) (mCst (.int 1)) opIx) (mA (mCons (m2 (mVar 0) (mCst (.int 0)) opIx) (mNil)) bLen) (Cop.f .le)))) (sSeq (sSet (m2 (mVar 2) (mVar 1) opDiv) (mVar 0) (mCst (.int 2)) fSetL) (sSeq (sRet (m2 (mVar 2) (mVar 1) opMod)) (sNext))) (sNext)) (sSeq (sAsg (m2 (m2 (m2 (m2 (m2 (mVar 2) (mCst (.int 2147483629)) opMod) (m2 (mCst (.int 7919)) (m2 (mVar 0) (mCst (.int 3)) opIx) opMul) opAdd) (mCst (.int 1)) opAdd) (mCst (.int 5)) opPow) (mCst (.int 2147483647)) opMod) (gN 3)) (sSeq (sRet (m2 (m2 (m2 (m2 (m2 (mVar 3) (m2 (mCst (.int 104729)) (m2 (mVar 0) (mCst (.int 3)) opIx) opMul) opAdd) (mCst (.int 5)) opPow) (mCst (.int 2147483587)) opMod) (mCst (.int 64)) opDiv) (mVar 1) opMod)) (sNext))))))))
/-- _law_plain(_law_feed_here) -/
def N__law_plain : List Str := ["_law_feed_here"]
def b__law_plain (f__law_draw : List PV → GH → Res PV) : EV.Env → GH → Res Fl := sSeq (sRet (m2 (mA (mCons (mCst (.int 0)) (mCons (mCst (.int 1)) (mCons (mCst (.int 2)) (mCons (m1 (mCst (.int 1)) opNeg) (mCons (mCst (.bl true)) (mCons (mCst (.bl false)) (mCons (mCst (.str "a")) (mCons (mCst (.str "")) (mCons (mCst (.str "1")) (mCons (mCst (.str "yes")) (mCons (mCst (.str "b2")) (mCons (mCst (.int 999999)) (mCons (m1 (mCst (.int 40)) opNeg) (mCons (mCst (.int 1)) (mNil))))))))))))))) mkLst) (mA (mCons (mVar 0) (mCons (mCst (.int 14)) (mNil))) f__law_draw) opIx)) (sNext)
/-- _law_tree(_law_feed_here, _law_some) -/
def N__law_tree : List Str := ["_law_feed_here", "_law_some", "_law_pool", "_law_fields", "_law_one"]
def b__law_tree (f__law_draw : List PV → GH → Res PV) : EV.Env → GH → Res Fl := sSeq (sAsg (mA (mCons (mCst (.str "a")) (mCons (mCst (.str "b")) (mCons (mCst (.str "k")) (mCons (mCst (.str "kk")) (mCons (mCst (.str "x")) (mCons (mCst (.str "yes")) (mNil))))))) mkObj) (gN 2)) (sSeq (sAsg (mComp false (mSeq (mVar 1)) (gN 4) (mYes) (mA (mCons (mMet "list" (mVar 2) (mCons (mA (mCons (mVar 0) (mCons (mA (mCons (mVar 2) (mNil)) bLen) (mNil))) f__law_draw) (mNil)) fPopAt) (mCons (mVar 4) (mNil))) mkTup) [4]) (gN 3)) (sSeq (sRet (mA (mCons (mCst (.str "tree")) (mCons (mA (mCons (mA (mCons (mVar 3) mNil) (bSort0 false)) (mNil)) bTup) (mNil))) mkTup)) (sNext)))
/-- is_number(thing) -/
def N_is_number : List Str := ["thing"]
def b_is_number : EV.Env → GH → Res Fl := sSeq (sRet (mAnd (m1 (mVar 0) (bIsi "int")) (mNot (m1 (mVar 0) (bIsi "bool"))))) (sNext)
/-- is_text(thing) -/
def N_is_text : List Str := ["thing", "sign"]
def b_is_text : EV.Env → GH → Res Fl := sSeq (sIf (mtOr (mtNot (mT (m1 (mVar 0) (bIsi "str")))) (mB (m2 (mA (mCons (mVar 0) (mNil)) bLen) (mCst (.int 16)) (Cop.f .gt)))) (sSeq (sRet (mCst (.bl false))) (sNext)) (sNext)) (sSeq (sRet (mA (mCons (mComp false (mSeq (mVar 0)) (gN 1) (mYes) (mOr (m2 (mVar 1) (mCst (.str "abcdefghijklmnopqrstuvwxyz")) (Cop.f .in_)) (m2 (mVar 1) (mCst (.str "0123456789")) (Cop.f .in_))) [1]) (mNil)) bAll)) (sNext))
/-- is_plain(thing) -/
def N_is_plain : List Str := ["thing"]
def b_is_plain (f_is_number f_is_text : List PV → GH → Res PV) : EV.Env → GH → Res Fl := sSeq (sRet (mOr (m1 (mVar 0) (bIsi "bool")) (mOr (mA (mCons (mVar 0) (mNil)) f_is_number) (mA (mCons (mVar 0) (mNil)) f_is_text)))) (sNext)
/-- _law_leaf(_law_feed_here, _law_document_here) -/
def N__law_leaf : List Str := ["_law_feed_here", "_law_document_here", "_law_path_here", "_law_own", "_law_plain_here", "_law_way", "_law_there"]
def b__law_leaf (f__law_draw f__law_found f__law_path f__law_plain : List PV → GH → Res PV) : EV.Env → GH → Res Fl := sSeq (sAsg (mA (mCons (mVar 0) (mCons (mVar 1) (mCons (mCst (.int 5)) (mNil)))) f__law_path) (gN 2)) (sSeq (sPar 5 6 (mCons (mA (mCons (mVar 0) (mCons (mCst (.int 4)) (mNil))) f__law_draw) (mCons (mA (mCons (mVar 1) (mCons (mVar 2) (mNil))) f__law_found) (mNil)))) (sSeq (sIf (mB (m2 (mVar 5) (mCst (.int 0)) (Cop.f .eq))) (sSeq (sRet (mA (mCons (mCst (.str "there")) (mCons (mVar 2) (mNil))) mkTup)) (sNext)) (sNext)) (sSeq (sAsg (mIf (mtAnd (mB (m2 (mVar 6) (mA (mNil) mkLst) (Cop.f .ne))) (mB (m2 (mA (mCons (mVar 0) (mCons (mCst (.int 3)) (mNil))) f__law_draw) (mCst (.int 0)) (Cop.f .gt)))) (m2 (m2 (mVar 6) (mA (mCons (mVar 0) (mCons (mA (mCons (mVar 6) (mNil)) bLen) (mNil))) f__law_draw) opIx) (mCst (.int 1)) opIx) (mA (mCons (mVar 0) (mNil)) f__law_plain)) (gN 3)) (sSeq (sIf (mB (m2 (mVar 5) (mCst (.int 1)) (Cop.f .eq))) (sSeq (sRet (mA (mCons (mCst (.str "like")) (mCons (mVar 2) (mCons (mVar 3) (mNil)))) mkTup)) (sNext)) (sNext)) (sSeq (sAsg (mIf (mtOr (mT (m1 (mVar 3) (bIsi "tuple"))) (mB (m2 (mA (mCons (mVar 0) (mCons (mCst (.int 2)) (mNil))) f__law_draw) (mCst (.int 0)) (Cop.f .eq)))) (mA (mCons (mVar 0) (mNil)) f__law_plain) (mVar 3)) (gN 4)) (sSeq (sIf (mtAnd (mT (m1 (mVar 3) (bIsi "int"))) (mtAnd (mtNot (mT (m1 (mVar 3) (bIsi "bool")))) (mB (m2 (mA (mCons (mVar 0) (mCons (mCst (.int 2)) (mNil))) f__law_draw) (mCst (.int 0)) (Cop.f .eq))))) (sSeq (sAsg (m2 (mVar 3) (m2 (mA (mCons (mCst (.int 1)) (mCons (m1 (mCst (.int 1)) opNeg) (mNil))) mkLst) (mA (mCons (mVar 0) (mCons (mCst (.int 2)) (mNil))) f__law_draw) opIx) opAdd) (gN 4)) (sNext)) (sNext)) (sSeq (sRet (mA (mCons (m2 (mA (mCons (mCst (.str "below")) (mCons (mCst (.str "above")) (mNil))) mkLst) (m2 (mVar 5) (mCst (.int 2)) opSub) opIx) (mCons (mVar 2) (mCons (mVar 4) (mNil)))) mkTup)) (sNext))))))))
end GN
end
section
/-! M0: how the evaluator runs on data: what the simplifier needs, and the small defs that all laws share. -/
set_option Elab.async false
set_option linter.all false
set_option maxRecDepth 100000
namespace EV
open PySem PySem.Spec PyProof.Rows L2

/-! ### data: no changing object within -/
mutual
def datB : PV → Bool
  | .obj _ => false
  | .tup ps => datBs ps
  | .lst ps => datBs ps
  | .sls ps => datBs ps
  | _ => true
def datBs : List PV → Bool
  | [] => true
  | p :: ps => datB p && datBs ps
end
theorem datBs_all : ∀ ps : List PV, datBs ps = ps.all datB
  | [] => rfl
  | p :: ps => by rw [datBs, List.all_cons, datBs_all ps]
theorem datBs_of {ps : List PV} (h : ∀ p ∈ ps, datB p = true) : datBs ps = true := by
  rw [datBs_all, List.all_eq_true]; exact h
mutual
theorem refs_of_dat (n : Nat) : ∀ {p : PV}, datB p = true → PV.refsB n p = true
  | .obj _, h => by simp [datB] at h
  | .tup ps, h => by simp only [PV.refsB]; exact refss_of_dat n (by simpa only [datB] using h)
  | .lst ps, h => by simp only [PV.refsB]; exact refss_of_dat n (by simpa only [datB] using h)
  | .sls ps, h => by simp only [PV.refsB]; exact refss_of_dat n (by simpa only [datB] using h)
  | .non, _ => by simp only [PV.refsB]
  | .bl _, _ => by simp only [PV.refsB]
  | .int _, _ => by simp only [PV.refsB]
  | .str _, _ => by simp only [PV.refsB]
theorem refss_of_dat (n : Nat) : ∀ {ps : List PV}, datBs ps = true → PV.refsBs n ps = true
  | [], _ => by simp only [PV.refsBs]
  | p :: ps, h => by
    simp only [datBs, Bool.and_eq_true] at h
    simp only [PV.refsBs, Bool.and_eq_true]
    exact ⟨refs_of_dat n h.1, refss_of_dat n h.2⟩
end
mutual
def dOf : PV → PyData
  | .bl b => .bool b
  | .int i => .int i
  | .str x => .str x
  | .tup ps => .tuple (dOfs ps)
  | .lst ps => .list (dOfs ps)
  | .sls ps => .list (dOfs ps)
  | _ => .none
def dOfs : List PV → List PyData
  | [] => []
  | p :: ps => dOf p :: dOfs ps
end
mutual
theorem toD_dat : ∀ {p : PV}, datB p = true → toD p = some (dOf p)
  | .obj _, h => by simp [datB] at h
  | .tup ps, h => by simp only [toD, dOf, toDs_dat (ps := ps) (by simpa only [datB] using h)]; rfl
  | .lst ps, h => by simp only [toD, dOf, toDs_dat (ps := ps) (by simpa only [datB] using h)]; rfl
  | .sls ps, h => by simp only [toD, dOf, toDs_dat (ps := ps) (by simpa only [datB] using h)]; rfl
  | .non, _ => by simp only [toD, dOf]
  | .bl _, _ => by simp only [toD, dOf]
  | .int _, _ => by simp only [toD, dOf]
  | .str _, _ => by simp only [toD, dOf]
theorem toDs_dat : ∀ {ps : List PV}, datBs ps = true → toDs ps = some (dOfs ps)
  | [], _ => by simp only [toDs, dOfs]
  | p :: ps, h => by
    simp only [datBs, Bool.and_eq_true] at h
    simp only [toDs, dOfs, toD_dat h.1, toDs_dat h.2]
end
theorem toDG_dat {p : PV} (G : GH) (h : datB p = true) : toDG G p = some (dOf p) := by
  cases p with
  | obj n => simp [datB] at h
  | _ => simp only [toDG]; exact toD_dat h
/-! ### small data: what repr and == can take -/
mutual
def fitB : PV → Bool
  | .obj _ => false
  | .int i => decide (i.natAbs < 1000000000000)
  | .str x => PyData.strOk x
  | .tup ps => fitBs ps
  | .lst ps => fitBs ps
  | .sls ps => fitBs ps
  | _ => true
def fitBs : List PV → Bool
  | [] => true
  | p :: ps => fitB p && fitBs ps
end
mutual
def wgt : PV → Nat
  | .int i => i.natAbs.log2 + 1
  | .str x => x.cps.size
  | .tup ps => wgts ps
  | .lst ps => wgts ps
  | .sls ps => wgts ps
  | _ => 0
def wgts : List PV → Nat
  | [] => 0
  | p :: ps => wgt p + 1 + wgts ps
end
mutual
def dep : PV → Nat
  | .tup ps => deps ps + 1
  | .lst ps => deps ps + 1
  | .sls ps => deps ps + 1
  | _ => 0
def deps : List PV → Nat
  | [] => 0
  | p :: ps => max (dep p) (deps ps)
end
mutual
theorem dat_of_fit : ∀ {p : PV}, fitB p = true → datB p = true
  | .obj _, h => by simp [fitB] at h
  | .tup ps, h => by simp only [datB]; exact dats_of_fit (by simpa only [fitB] using h)
  | .lst ps, h => by simp only [datB]; exact dats_of_fit (by simpa only [fitB] using h)
  | .sls ps, h => by simp only [datB]; exact dats_of_fit (by simpa only [fitB] using h)
  | .non, _ => by simp only [datB]
  | .bl _, _ => by simp only [datB]
  | .int _, _ => by simp only [datB]
  | .str _, _ => by simp only [datB]
theorem dats_of_fit : ∀ {ps : List PV}, fitBs ps = true → datBs ps = true
  | [], _ => by simp only [datBs]
  | p :: ps, h => by
    simp only [fitBs, Bool.and_eq_true] at h
    simp only [datBs, Bool.and_eq_true]
    exact ⟨dat_of_fit h.1, dats_of_fit h.2⟩
end
theorem int_log {i : Int} (h : i.natAbs < 1000000000000) : i.natAbs.log2 + 1 ≤ 40 := by
  by_cases z : i.natAbs = 0
  · rw [z]; decide
  · have : i.natAbs.log2 < 40 := (Nat.log2_lt z).mpr (by omega)
    omega
mutual
theorem fit_lay : ∀ {p : PV}, fitB p = true → (dOf p).canLay0 = true ∧ (dOf p).weight ≤ wgt p ∧ (dOf p).depth ≤ dep p ∧ (dOf p).showable = true ∧ (dOf p).hasDict = false ∧ (dOf p).intsShort 13 = true
  | .obj _, h => by simp [fitB] at h
  | .tup ps, h => by
    have q := fits_lay (ps := ps) (by simpa only [fitB] using h)
    simp only [dOf, PyData.canLay0, PyData.weight, PyData.depth, PyData.showable, PyData.hasDict, PyData.intsShort, wgt, dep]
    exact ⟨q.1, q.2.1, by omega, q.2.2.2⟩
  | .lst ps, h => by
    have q := fits_lay (ps := ps) (by simpa only [fitB] using h)
    simp only [dOf, PyData.canLay0, PyData.weight, PyData.depth, PyData.showable, PyData.hasDict, PyData.intsShort, wgt, dep]
    exact ⟨q.1, q.2.1, by omega, q.2.2.2⟩
  | .sls ps, h => by
    have q := fits_lay (ps := ps) (by simpa only [fitB] using h)
    simp only [dOf, PyData.canLay0, PyData.weight, PyData.depth, PyData.showable, PyData.hasDict, PyData.intsShort, wgt, dep]
    exact ⟨q.1, q.2.1, by omega, q.2.2.2⟩
  | .non, _ => by simp [dOf, PyData.canLay0, PyData.weight, PyData.depth, PyData.showable, PyData.hasDict, PyData.intsShort, wgt, dep]
  | .bl _, _ => by simp [dOf, PyData.canLay0, PyData.weight, PyData.depth, PyData.showable, PyData.hasDict, PyData.intsShort, wgt, dep]
  | .int i, h => by
    have h : i.natAbs < 1000000000000 := by simpa [fitB] using h
    have l := int_log h
    simp only [dOf, PyData.canLay0, PyData.weight, PyData.depth, PyData.showable, PyData.hasDict, PyData.intsShort, wgt, dep, decide_eq_true_eq]
    refine ⟨trivial, by split <;> omega, by omega, by omega, trivial, ?_⟩
    have e : (toString i).length ≤ 12 + 1 := int_text_length_le10 (by decide) (by omega)
    have e2 : (PyData.shown (.int i)).length = (toString i).length := by
      rw [PyData.shown_int]; exact PySem.ofString_length _
    omega
  | .str x, h => by
    have h : PyData.strOk x = true := by simpa only [fitB] using h
    simp [dOf, PyData.canLay0, PyData.weight, PyData.depth, PyData.showable, PyData.hasDict, PyData.intsShort, wgt, dep, h]
theorem fits_lay : ∀ {ps : List PV}, fitBs ps = true → PyData.canLayAll0 (dOfs ps) = true ∧ PyData.weightAll (dOfs ps) ≤ wgts ps ∧ PyData.depthAll (dOfs ps) ≤ deps ps ∧ PyData.showableAll (dOfs ps) = true ∧ PyData.hasDictAll (dOfs ps) = false ∧ PyData.intsShortAll 13 (dOfs ps) = true
  | [], _ => by simp [dOfs, PyData.canLayAll0, PyData.weightAll, PyData.depthAll, PyData.showableAll, PyData.hasDictAll, PyData.intsShortAll, wgts, deps]
  | p :: ps, h => by
    simp only [fitBs, Bool.and_eq_true] at h
    have a := fit_lay h.1
    have b := fits_lay h.2
    simp only [dOfs, PyData.canLayAll0, PyData.weightAll, PyData.depthAll, PyData.showableAll, PyData.hasDictAll, PyData.intsShortAll, wgts, deps, Bool.and_eq_true, Bool.or_eq_false_iff]
    exact ⟨⟨a.1, b.1⟩, by omega, by omega, ⟨a.2.2.2.1, b.2.2.2.1⟩, ⟨a.2.2.2.2.1, b.2.2.2.2.1⟩, ⟨a.2.2.2.2.2, b.2.2.2.2.2⟩⟩
end
/-- what repr tells of data -/
def rep (p : PV) : Str := (dOf p).shown
end EV
end
section
/-! M1: what the evaluator's parts come to, for the simplifier; the feed and the draw. -/
set_option Elab.async false
set_option linter.all false
set_option maxRecDepth 100000
namespace EV
open PySem PySem.Spec PyProof.Rows L2
section
variable {m ma mb n : Env → GH → Res PV} {ms : Env → GH → Res (List PV)} {f : List PV → GH → Res PV} {ρ : Env} {G : GH}
@[simp] theorem mVar_ap (i : Nat) : mVar i ρ G = match ρ[i]? with
  | some (some v) => .ok v G
  | _ => .bad := rfl
@[simp] theorem mCst_ap (v : PV) : mCst v ρ G = .ok v G := rfl
@[simp] theorem m2_ap : m2 ma mb f ρ G = (ma ρ G).bind fun x G1 => (mb ρ G1).bind fun y G2 => f [x, y] G2 := rfl
@[simp] theorem m1_ap : m1 ma f ρ G = (ma ρ G).bind fun x G1 => f [x] G1 := rfl
@[simp] theorem mA_ap : mA ms f ρ G = (ms ρ G).bind f := rfl
@[simp] theorem mNil_ap : mNil ρ G = .ok [] G := rfl
@[simp] theorem mCons_ap : mCons m ms ρ G = (m ρ G).bind fun x G1 => (ms ρ G1).bind fun xs G2 => .ok (x :: xs) G2 := rfl
@[simp] theorem mkTup_ap {ps : List PV} : mkTup ps G = if ps.length ≤ sizeLine then .ok (.tup ps) G else .bad := rfl
@[simp] theorem mkLst_ap {ps : List PV} : mkLst ps G = if ps.length ≤ sizeLine then .ok (.lst ps) G else .bad := rfl
@[simp] theorem mkObj_ap {ps : List PV} : mkObj ps G = if ps.length ≤ sizeLine then .ok (.obj G.length) (G ++ [.lst ps]) else .bad := rfl
@[simp] theorem mAnd_ap : mAnd ma mb ρ G = (ma ρ G).bind fun x G1 => (truth x G1).bind fun k G2 => if k = true then mb ρ G2 else .ok x G2 := rfl
@[simp] theorem mOr_ap : mOr ma mb ρ G = (ma ρ G).bind fun x G1 => (truth x G1).bind fun k G2 => if k = true then .ok x G2 else mb ρ G2 := rfl
@[simp] theorem mNot_ap : mNot m ρ G = (m ρ G).bind fun x G1 => (truth x G1).bind fun k G2 => .ok (.bl (!k)) G2 := rfl
@[simp] theorem mtNot_ap {c : Env → GH → Res Bool} : mtNot c ρ G = (c ρ G).bind fun k G1 => .ok (!k) G1 := rfl
@[simp] theorem mtAnd_ap {c d : Env → GH → Res Bool} : mtAnd c d ρ G = (c ρ G).bind fun k G1 => if k = true then d ρ G1 else .ok false G1 := rfl
@[simp] theorem mtOr_ap {c d : Env → GH → Res Bool} : mtOr c d ρ G = (c ρ G).bind fun k G1 => if k = true then .ok true G1 else d ρ G1 := rfl
@[simp] theorem mIf_ap {c : Env → GH → Res Bool} : mIf c ma mb ρ G = (c ρ G).bind fun k G1 => if k = true then ma ρ G1 else mb ρ G1 := rfl
@[simp] theorem mB_ap : mB m ρ G = (m ρ G).bind asB := rfl
@[simp] theorem mT_ap : mT m ρ G = (m ρ G).bind truth := rfl
@[simp] theorem asB_bl {b : Bool} : asB (.bl b) G = .ok b G := rfl
@[simp] theorem truth_bl {b : Bool} : truth (.bl b) G = .ok b G := rfl
@[simp] theorem truth_int {i : Int} : truth (.int i) G = .ok (i != 0) G := rfl
@[simp] theorem sSeq_ap {s t : Env → GH → Res Fl} : sSeq s t ρ G = (s ρ G).bind fun f G1 => match f with
  | .next ρ1 => t ρ1 G1
  | f => .ok f G1 := rfl
@[simp] theorem sNext_ap : sNext ρ G = .ok (.next ρ) G := rfl
@[simp] theorem sRet_ap : sRet m ρ G = (m ρ G).bind fun v G1 => .ok (.ret v) G1 := rfl
@[simp] theorem sDrop_ap : sDrop m ρ G = (m ρ G).bind fun _ G1 => .ok (.next ρ) G1 := rfl
@[simp] theorem sIf_ap {c : Env → GH → Res Bool} {s t : Env → GH → Res Fl} : sIf c s t ρ G = (c ρ G).bind fun b G1 => if b = true then s ρ G1 else t ρ G1 := rfl
@[simp] theorem sAsg_ap {t : PV → Env → GH → Res Env} : sAsg m t ρ G = (m ρ G).bind fun v G1 => (t v ρ G1).bind fun ρ1 G2 => .ok (.next ρ1) G2 := rfl
@[simp] theorem sSet_ap {f : List PV → GH → Res Unit} : sSet m ma mb f ρ G = (m ρ G).bind fun v G1 => (ma ρ G1).bind fun o G2 => (mb ρ G2).bind fun i G3 => (f [o, i, v] G3).bind fun _ G4 => .ok (.next ρ) G4 := rfl
@[simp] theorem gN_ap {i : Nat} {p : PV} : gN i p ρ G = .ok (ρ.set i (some p)) G := rfl
@[simp] theorem end_ret {p : PV} : bodyEnd (.ret p) G = .ok p G := rfl
@[simp] theorem end_next : bodyEnd (.next ρ) G = .ok .non G := rfl
@[simp] theorem mPart_ap : mPart m ρ G = (m ρ G).bind fun x G1 => match x with
  | .int i => .ok (some i) G1
  | _ => .bad := rfl
@[simp] theorem mNoPart_ap : mNoPart ρ G = .ok none G := rfl
@[simp] theorem mSl_ap {l h : Env → GH → Res (Option Int)} {f : PV → Option Int → Option Int → GH → Res PV} : mSl m l h f ρ G = (m ρ G).bind fun x G1 => (l ρ G1).bind fun i G2 => (h ρ G2).bind fun j G3 => f x i j G3 := rfl
end
/-- a continuation, kept out of the simplifier's sight as an instance -/
class Ctn (α β : Type) where
  k : α → GH → Res β
def bnd {α β : Type} (r : Res α) [c : Ctn α β] : Res β := r.bind c.k
@[simp ↓] theorem bind_bnd {α β : Type} (r : Res α) (f : α → GH → Res β) : r.bind f = @bnd α β r ⟨f⟩ := rfl
@[simp] theorem bnd_ok {α β : Type} (a : α) (G : GH) (f : α → GH → Res β) : @bnd α β (.ok a G) ⟨f⟩ = f a G := rfl
@[simp] theorem bnd_bad {α β : Type} (f : α → GH → Res β) : @bnd α β .bad ⟨f⟩ = .bad := rfl
@[simp] theorem bnd_exc {α β : Type} (c : Nat) (fs : List (Str × PV)) (G : GH) (f : α → GH → Res β) : @bnd α β (.exc c fs G) ⟨f⟩ = .exc c fs G := rfl
section
variable {G : GH} {ps qs : List PV} {i j : Int} {k : Nat} {x y z : PV}
theorem ixN_ok {n : Nat} {i : Int} (h : 0 ≤ i) (k : i < n) : ixN n i = some i.toNat := by unfold ixN; rw [if_pos h, if_pos k]
@[simp] theorem atI_0 : atI (x :: ps) 0 = some x := by unfold atI; rw [ixN_ok (by omega) (by simp only [List.length_cons]; omega)]; rfl
@[simp] theorem atI_1 : atI (x :: y :: ps) 1 = some y := by unfold atI; rw [ixN_ok (by omega) (by simp only [List.length_cons]; omega)]; rfl
@[simp] theorem atI_2 {z} : atI (x :: y :: z :: ps) 2 = some z := by unfold atI; rw [ixN_ok (by omega) (by simp only [List.length_cons]; omega)]; rfl
@[simp] theorem atI_3 {z u} : atI (x :: y :: z :: u :: ps) 3 = some u := by unfold atI; rw [ixN_ok (by omega) (by simp only [List.length_cons]; omega)]; rfl
/-- an item -/
def ixR (ps : List PV) (i : Int) (G : GH) : Res PV := match atI ps i with
  | some p => .ok p G
  | none => .bad
theorem ixR_some (h : atI ps i = some x) : ixR ps i G = .ok x G := by unfold ixR; rw [h]
@[simp] theorem ixR_0 : ixR (x :: ps) 0 G = .ok x G := ixR_some atI_0
@[simp] theorem ixR_1 : ixR (x :: y :: ps) 1 G = .ok y G := ixR_some atI_1
@[simp] theorem ixR_2 : ixR (x :: y :: z :: ps) 2 G = .ok z G := ixR_some atI_2
@[simp] theorem ixR_3 {u} : ixR (x :: y :: z :: u :: ps) 3 G = .ok u G := ixR_some atI_3
@[simp] theorem opIx_tup : opIx [.tup ps, .int i] G = ixR ps i G := rfl
@[simp] theorem opIx_lst : opIx [.lst ps, .int i] G = ixR ps i G := rfl
@[simp] theorem opIx_sls : opIx [.sls ps, .int i] G = ixR ps i G := rfl
theorem opIx_obj (h : G[k]? = some (.lst ps)) : opIx [.obj k, .int i] G = ixR ps i G := by simp only [opIx, asS, asL, h]; rfl
@[simp] theorem opIx_obj0 {R : GH} : opIx [.obj 0, .int i] (.lst ps :: R) = ixR ps i (.lst ps :: R) := rfl
@[simp] theorem opIx_obj1 {R : GH} {o} : opIx [.obj 1, .int i] (o :: .lst ps :: R) = ixR ps i (o :: .lst ps :: R) := rfl
@[simp] theorem opAdd_ii : opAdd [.int i, .int j] G = .ok (.int (i + j)) G := rfl
@[simp] theorem opSub_ii : opSub [.int i, .int j] G = .ok (.int (i - j)) G := rfl
theorem opMod_ii (h : j ≠ 0) : opMod [.int i, .int j] G = .ok (.int (i.fmod j)) G := by simp only [opMod, opII, decide_eq_true h, if_true]
theorem opDiv_ii (h : j ≠ 0) (h2 : j.natAbs < 1073741824) : opDiv [.int i, .int j] G = .ok (.int (i.fdiv j)) G := by simp only [opDiv, opII, decide_eq_true (And.intro h h2), if_true]
theorem opPow_ii (h : 0 ≤ j) (h2 : j ≤ 1000000) (h3 : i.natAbs < 2 ^ 64) : opPow [.int i, .int j] G = .ok (.int (i ^ j.toNat)) G := by simp only [opPow, opII, decide_eq_true (And.intro h (And.intro h2 h3)), if_true]
theorem opMul_ii (h : -(2 ^ 64) < i ∧ i < 2 ^ 64) : opMul [.int i, .int j] G = .ok (.int (i * j)) G := by simp only [opMul, if_pos (Or.inl h : (-(2 ^ 64) < i ∧ i < 2 ^ 64) ∨ (-(2 ^ 64) < j ∧ j < 2 ^ 64))]
@[simp] theorem opNeg_i : opNeg [.int i] G = .ok (.int (-i)) G := rfl
@[simp] theorem opLt_ii : Cop.lt.f [.int i, .int j] G = .ok (.bl (decide (i < j))) G := rfl
@[simp] theorem opLe_ii : Cop.le.f [.int i, .int j] G = .ok (.bl (decide (i ≤ j))) G := rfl
@[simp] theorem opGt_ii : Cop.gt.f [.int i, .int j] G = .ok (.bl (decide (j < i))) G := rfl
@[simp] theorem opGe_ii : Cop.ge.f [.int i, .int j] G = .ok (.bl (decide (j ≤ i))) G := rfl
@[simp] theorem opEq_ii : Cop.eq.f [.int i, .int j] G = .ok (.bl (decide (i = j))) G := rfl
@[simp] theorem opNe_ii : Cop.ne.f [.int i, .int j] G = .ok (.bl (!decide (i = j))) G := rfl
@[simp] theorem opEq_ss {s t : Str} : Cop.eq.f [.str s, .str t] G = .ok (.bl (decide (s = t))) G := rfl
@[simp] theorem opNe_ss {s t : Str} : Cop.ne.f [.str s, .str t] G = .ok (.bl (!decide (s = t))) G := rfl
@[simp] theorem bLen_tup : bLen [.tup ps] G = .ok (.int ps.length) G := rfl
@[simp] theorem bLen_lst : bLen [.lst ps] G = .ok (.int ps.length) G := rfl
@[simp] theorem bLen_sls : bLen [.sls ps] G = .ok (.int ps.length) G := rfl
theorem bLen_obj (h : G[k]? = some (.lst ps)) : bLen [.obj k] G = .ok (.int ps.length) G := by simp only [bLen, asS, asL, h]
theorem fSetL_obj (h : G[k]? = some (.lst ps)) (h0 : 0 ≤ i) (h1 : i < ps.length) : fSetL [.obj k, .int i, x] G = .ok () (G.set k (.lst (ps.set i.toNat x))) := by simp only [fSetL, h, ixN_ok h0 h1]
@[simp] theorem fSetL_00 {R : GH} : fSetL [.obj 0, .int 0, x] (.lst (y :: ps) :: R) = .ok () (.lst (x :: ps) :: R) := fSetL_obj (i := 0) (ps := y :: ps) rfl (by decide) (by simp only [List.length_cons]; omega)
@[simp] theorem fSetL_01 {R : GH} : fSetL [.obj 0, .int 1, x] (.lst (y :: z :: ps) :: R) = .ok () (.lst (y :: x :: ps) :: R) := fSetL_obj (i := 1) (ps := y :: z :: ps) rfl (by decide) (by simp only [List.length_cons]; omega)
@[simp] theorem fSetL_02 {R : GH} {u} : fSetL [.obj 0, .int 2, x] (.lst (y :: z :: u :: ps) :: R) = .ok () (.lst (y :: z :: x :: ps) :: R) := fSetL_obj (i := 2) (ps := y :: z :: u :: ps) rfl (by decide) (by simp only [List.length_cons]; omega)
@[simp] theorem fSetL_03 {R : GH} {u w} : fSetL [.obj 0, .int 3, x] (.lst (y :: z :: u :: w :: ps) :: R) = .ok () (.lst (y :: z :: u :: x :: ps) :: R) := fSetL_obj (i := 3) (ps := y :: z :: u :: w :: ps) rfl (by decide) (by simp only [List.length_cons]; omega)
@[simp] theorem fSetL_10 {R : GH} {o} : fSetL [.obj 1, .int 0, x] (o :: .lst (y :: ps) :: R) = .ok () (o :: .lst (x :: ps) :: R) := fSetL_obj (i := 0) (ps := y :: ps) rfl (by decide) (by simp only [List.length_cons]; omega)
end
theorem size_line : sizeLine = 16777216 := by decide
/-- the feed: the numbers, how many were taken, what is left of a great one, how many draws -/
def feedO (cs : List Int) (a b d : Int) : GO := .lst [.lst (cs.map .int), .int a, .int b, .int d]
theorem dOfs_ints : ∀ cs : List Int, dOfs (cs.map .int) = cs.map .int
  | [] => rfl
  | c :: cs => by simp only [List.map_cons, dOfs, dOf, dOfs_ints cs]
theorem dat_ints : ∀ cs : List Int, datBs (cs.map .int) = true
  | [] => rfl
  | c :: cs => by simp only [List.map_cons, datBs, datB, dat_ints cs, Bool.and_self]
theorem lay_ints : ∀ cs : List Int, PyData.canLayAll0 (cs.map PyData.int) = true
  | [] => by simp [PyData.canLayAll0]
  | c :: cs => by simp [PyData.canLayAll0, PyData.canLay0, lay_ints cs]
theorem dep_ints : ∀ cs : List Int, PyData.depthAll (cs.map PyData.int) ≤ 1
  | [] => by simp [PyData.depthAll]
  | c :: cs => by
    have := dep_ints cs
    rw [List.map_cons, PyData.depthAll, PyData.depth]; exact Nat.max_le.mpr ⟨by decide, this⟩
theorem eqP_ints (G : GH) (cs : List Int) : eqP G (.lst (cs.map .int)) (.lst []) = some (decide (cs = [])) := by
  have d := dep_ints cs
  simp only [eqP, scalP, toDG, toD, toDs_dat (dat_ints cs), toDs, Option.map_some, dOfs_ints, eqD]
  have h1 : SeqAt.shaped (.list (cs.map .int)) = true := by
    simp only [SeqAt.shaped, PyData.canLay0, PyData.depth, lay_ints, Bool.true_and]; apply decide_eq_true; omega
  have h2 : SeqAt.shaped (.list []) = true := by decide
  rw [if_pos ⟨h1, h2⟩]
  cases cs with
  | nil => simp [PyData.eqv, PyData.eqvAll]
  | cons c cs => simp [PyData.eqv, PyData.eqvAll]
@[simp] theorem ne_ints {G : GH} {cs : List Int} : Cop.ne.f [.lst (cs.map .int), .lst []] G = .ok (.bl (!decide (cs = []))) G := by
  simp only [Cop.f, opNe, opEqN, eqP_ints, if_true]
@[simp] theorem ne_nil {G : GH} : Cop.ne.f [.lst [], .lst []] G = .ok (.bl false) G := ne_ints (cs := [])
def SpFeed (f : List PV → GH → Res PV) : Prop := ∀ (ns : List Int) (G : GH), ns.length ≤ 63 → f [.sls (ns.map .int)] G = .ok (.obj G.length) (G ++ [feedO ns 0 0 0])
end EV
end
section
/-! M2: the draw. -/
set_option Elab.async false
set_option linter.all false
set_option maxRecDepth 100000
namespace EV
open PySem PySem.Spec PyProof.Rows L2
theorem trim_len {G0 G1 : GH} (a : PV) (h : G1.length = G0.length) : trimR G0 (.ok a G1) = .ok a G1 := by
  unfold trimR
  simp only
  rw [← h, List.take_length]
  split <;> rfl
@[simp] theorem trim_cons (g g' : GO) (R : GH) (a : PV) : trimR (g :: R) (.ok a (g' :: R)) = .ok a (g' :: R) := trim_len a rfl
theorem atI_map {cs : List Int} {i : Int} (h : 0 ≤ i) (k : i < cs.length) : ∃ c, atI (cs.map PV.int) i = some (.int c) := by
  unfold atI
  rw [ixN_ok h (by simpa using k)]
  have : i.toNat < cs.length := by omega
  exact ⟨cs[i.toNat], by simp [List.getElem?_map, List.getElem?_eq_getElem this]⟩
/-- what a draw tells -/
def SpDraw (f : List PV → GH → Res PV) : Prop := ∀ (cs : List Int) (a b d n : Int) (R : GH), 0 < n → n ≤ 1000000 → 0 ≤ a → 0 ≤ b → 0 ≤ d → d ≤ 1099511627776 → 
  ∃ r a' b', 0 ≤ r ∧ r < n ∧ 0 ≤ a' ∧ 0 ≤ b' ∧ f [.obj 0, .int n] (feedO cs a b d :: R) = .ok (.int r) (feedO cs a' b' (d + 1) :: R)
theorem fmod_lt' {a n : Int} (h : 0 < n) : 0 ≤ a.fmod n ∧ a.fmod n < n := ⟨Int.fmod_nonneg_of_pos a h, Int.fmod_lt_of_pos a h⟩
theorem fdiv_nn {a n : Int} (ha : 0 ≤ a) (h : 0 < n) : 0 ≤ a.fdiv n := Int.fdiv_nonneg ha (Int.le_of_lt h)
end EV
end
section
/-! M3: the small defs: is_long, has_head, is_row, is_tree, key_of; plains. -/
set_option Elab.async false
set_option linter.all false
set_option maxRecDepth 100000
namespace EV
open PySem PySem.Spec PyProof.Rows L2
def isTup : PV → Bool
  | .tup _ => true
  | _ => false
def isStr : PV → Bool
  | .str _ => true
  | _ => false
@[simp] theorem isi_tup {p : PV} {G : GH} (h : datB p = true) : bIsi "tuple" [p] G = .ok (.bl (isTup p)) G := by
  cases p <;> first | rfl | (simp [datB] at h)
@[simp] theorem isi_str {p : PV} {G : GH} (h : datB p = true) : bIsi "str" [p] G = .ok (.bl (isStr p)) G := by
  cases p <;> first | rfl | (simp [datB] at h)
def isBl : PV → Bool
  | .bl _ => true
  | _ => false
def isInt : PV → Bool
  | .bl _ => true
  | .int _ => true
  | _ => false
@[simp] theorem isi_bool {p : PV} {G : GH} (h : datB p = true) : bIsi "bool" [p] G = .ok (.bl (isBl p)) G := by
  cases p <;> first | rfl | (simp [datB] at h)
@[simp] theorem isi_int {p : PV} {G : GH} (h : datB p = true) : bIsi "int" [p] G = .ok (.bl (isInt p)) G := by
  cases p <;> first | rfl | (simp [datB] at h)
/-- the things of a ("row", things), of a ("tree", fields) -/
def headed (w : Str) : PV → Option (List PV)
  | .tup [.str s, .tup xs] => if s = w then some xs else none
  | _ => none
def keyV (p : PV) : PV := .tup [.int (if isBl p then 0 else if isInt p then 1 else 2), p]
def SpKey (f : List PV → GH → Res PV) : Prop := ∀ p G, datB p = true → f [p] G = .ok (keyV p) G
theorem key_sp : SpKey (defV 1 GN.N_key_of GN.b_key_of) := by
  intro p G h
  cases p <;> simp [defV, GN.b_key_of, GN.N_key_of, env0, h, isBl, isInt, keyV, size_line, trim_same]
end EV
end
section
/-! M4: plains, fields, trees as the laws make them. -/
set_option Elab.async false
set_option linter.all false
set_option maxRecDepth 100000
namespace EV
open PySem PySem.Spec PyProof.Rows L2
theorem refs_ints (n : Nat) (cs : List Int) : PV.refsBs n (cs.map .int) = true := refss_of_dat n (dat_ints cs)
theorem refs_feed (n : Nat) (cs : List Int) (a b d : Int) : GO.refsB n (feedO cs a b d) = true := by
  simp [feedO, GO.refsB, PV.refsBs, PV.refsB, refs_ints]
theorem trim_feed {g : GO} {R S : GH} {p : PV} {cs : List Int} {a b d : Int} (h : datB p = true) : trimR (g :: R) (.ok p (feedO cs a b d :: (R ++ S))) = .ok p (feedO cs a b d :: R) := by
  have e : (feedO cs a b d :: (R ++ S)).take (g :: R).length = feedO cs a b d :: R := by simp
  simp only [trimR, e]
  rw [if_pos ⟨by rw [refs_of_dat _ h]; simp only [okB, refs_feed, Bool.or_true, Bool.true_and, okB_self], by simp⟩]
def plains : List PV := [.int 0, .int 1, .int 2, .int (-1), .bl true, .bl false, .str "a", .str "", .str "1", .str "yes", .str "b2", .int 999999, .int (-40), .int 1]
theorem atI_mem {ps : List PV} {i : Int} (h : 0 ≤ i) (k : i < ps.length) : ∃ p, atI ps i = some p ∧ p ∈ ps := by
  have z : i.toNat < ps.length := by omega
  exact ⟨ps[i.toNat], by unfold atI; rw [ixN_ok h k]; simp [List.getElem?_eq_getElem z], List.getElem_mem z⟩
/-- a maker of plains -/
def SpPlain (f : List PV → GH → Res PV) : Prop := ∀ (cs : List Int) (a b d : Int) (R : GH), 0 ≤ a → 0 ≤ b → 0 ≤ d → d ≤ 1099511627776 → 
  ∃ p a' b', p ∈ plains ∧ 0 ≤ a' ∧ 0 ≤ b' ∧ f [.obj 0] (feedO cs a b d :: R) = .ok p (feedO cs a' b' (d + 1) :: R)
theorem plain_sp {f} (hf : SpDraw f) : SpPlain (defV 1 GN.N__law_plain (GN.b__law_plain f)) := by
  intro cs a b d R ha hb hd hd2
  obtain ⟨r, a', b', h0, h1, h2, h3, e⟩ := hf cs a b d 14 R (by decide) (by decide) ha hb hd hd2
  obtain ⟨p, e2, hp⟩ := atI_mem (ps := plains) h0 (by simpa [plains] using h1)
  have e3 := ixR_some (G := feedO cs a' b' (d + 1) :: R) e2
  refine ⟨p, a', b', hp, h2, h3, ?_⟩
  simp only [plains] at e3
  simp [defV, GN.b__law_plain, GN.N__law_plain, env0, e, size_line, e3, trim_len]
/-- a field -/
abbrev fldV (q : Str × PV) : PV := .tup [.str q.1, q.2]
theorem dat_flds {kv : List (Str × PV)} (h : ∀ q ∈ kv, datB q.2 = true) : datBs (kv.map fldV) = true := by
  refine datBs_of fun p hp => ?_
  obtain ⟨q, hq, rfl⟩ := List.mem_map.mp hp
  simp [datB, datBs, h q hq]
def pool6 : List Str := ["a", "b", "k", "kk", "x", "yes"]
end EV
end
section
/-! M5: trees, values, documents as the laws make them. -/
set_option Elab.async false
set_option linter.all false
set_option maxRecDepth 100000
namespace EV
open PySem PySem.Spec PyProof.Rows L2
abbrev treeV (kv : List (Str × PV)) : PV := .tup [.str "tree", .tup (kv.map fldV)]
abbrev rowV (xs : List PV) : PV := .tup [.str "row", .tup xs]
/-- the values of documents, by their depth -/
def Doc : Nat → PV → Prop
  | 0, p => p ∈ plains
  | n + 1, p => p ∈ plains ∨ (∃ xs, p = rowV xs ∧ xs.length ≤ 3 ∧ ∀ x ∈ xs, Doc n x) ∨ (∃ kv : List (Str × PV), p = treeV kv ∧ kv.length ≤ 3 ∧ (kv.map (·.1)).Nodup ∧ (∀ q ∈ kv, q.1 ∈ pool6) ∧ ∀ q ∈ kv, Doc n q.2)
theorem plain_dat {p : PV} (h : p ∈ plains) : datB p = true := by
  have : plains.all datB = true := by decide +kernel
  exact List.all_eq_true.mp this p h
theorem Doc.plain {p : PV} (h : p ∈ plains) : ∀ n, Doc n p
  | 0 => h
  | n + 1 => .inl h
theorem Doc.dat : ∀ {n : Nat} {p : PV}, Doc n p → datB p = true
  | 0, p, h => plain_dat h
  | n + 1, p, h => by
    rcases h with h | ⟨xs, rfl, _, h⟩ | ⟨kv, rfl, _, _, _, h⟩
    · exact plain_dat h
    · simp [rowV, datB, datBs, datBs_of fun x hx => Doc.dat (h x hx)]
    · simp [treeV, datB, datBs, dat_flds fun q hq => Doc.dat (h q hq)]
/-- how many draws a value takes at most -/
def most : Nat → Nat
  | 0 => 2
  | n + 1 => 5 + 3 * most n
section
variable {G R1 R2 : GH} {ps : List PV} {i : Int} {o : GO} {x y : PV}
@[simp] theorem opIx_mid : opIx [.obj (R1.length + 1), .int i] (o :: (R1 ++ .lst ps :: R2)) = ixR ps i (o :: (R1 ++ .lst ps :: R2)) := opIx_obj (by simp)
@[simp] theorem fSetL_mid : fSetL [.obj (R1.length + 1), .int 0, x] (o :: (R1 ++ .lst (y :: ps) :: R2)) = .ok () (o :: (R1 ++ .lst (x :: ps) :: R2)) := by
  rw [fSetL_obj (ps := y :: ps) (by simp) (by decide) (by simp only [List.length_cons]; omega)]; simp
end
end EV
end
section
/-! M6: values deeper, documents. -/
set_option Elab.async false
set_option linter.all false
set_option maxRecDepth 100000
namespace EV
open PySem PySem.Spec PyProof.Rows L2
end EV
end
section
/-! M7: documents. -/
set_option Elab.async false
set_option linter.all false
set_option maxRecDepth 100000
namespace EV
open PySem PySem.Spec PyProof.Rows L2
/-- a document: a tree of up to five fields -/
def DocT (p : PV) : Prop := ∃ kv : List (Str × PV), p = treeV kv ∧ kv.length ≤ 5 ∧ (kv.map (·.1)).Nodup ∧ (∀ q ∈ kv, q.1 ∈ pool6) ∧ ∀ q ∈ kv, Doc 3 q.2
def forStep (t : PV → Env → GH → Res Env) (b : Env → GH → Res Fl) : PV → Env → GH → Res Fl := fun x ρ G => (t x ρ G).bind b
theorem forStep_ap {t : PV → Env → GH → Res Env} {b : Env → GH → Res Fl} {x : PV} {ρ : Env} {G : GH} : forStep t b x ρ G = (t x ρ G).bind b := rfl
@[simp] theorem sFor_ap {ms : Env → GH → Res Src} {t : PV → Env → GH → Res Env} {b : Env → GH → Res Fl} {ρ : Env} {G : GH} : sFor ms t b ρ G = (ms ρ G).bind fun S G1 => loopF (forStep t b) S.gd S.its ρ G1 := rfl
theorem loopF_next {f : PV → Env → GH → Res Fl} {gd : GH → Bool} {x : PV} {xs : List PV} {ρ ρ1 : Env} {G G1 : GH} (hg : gd G = true) (h : f x ρ G = .ok (.next ρ1) G1) : loopF f gd (x :: xs) ρ G = loopF f gd xs ρ1 G1 := by
  simp only [loopF, if_pos hg, h, Res.bind_ok]
theorem loopF_nil {f : PV → Env → GH → Res Fl} {gd : GH → Bool} {ρ : Env} {G : GH} (hg : gd G = true) : loopF f gd [] ρ G = .ok (.next ρ) G := by
  simp only [loopF, if_pos hg]
end EV
end
section
/-! M8: fields as dicts; alike values. -/
set_option Elab.async false
set_option linter.all false
set_option maxRecDepth 100000
namespace EV
open PySem PySem.Spec PyProof.Rows L2
def kd (kv : List (Str × PV)) : List (Key × PV) := kv.map fun q => (.inr q.1, q.2)
theorem pairs_kd : ∀ kv : List (Str × PV), pairsP (kv.map fldV) = some (kd kv)
  | [] => rfl
  | q :: kv => by simp only [List.map_cons, pairsP, pairs_kd kv]; rfl
def getF (kv : List (Str × PV)) (w : Str) : Option PV := (kv.find? fun q => decide (q.1 = w)).map (·.2)
theorem get_kd : ∀ (kv : List (Str × PV)) (w : Str), getP (kd kv) (.inr w) = getF kv w
  | [], w => rfl
  | q :: kv, w => by
    have ih := get_kd kv w
    unfold getP kd getF at *
    simp only [List.map_cons, List.find?_cons]
    by_cases e : q.1 = w
    · simp [e]
    · have e2 : ¬ ((Sum.inr q.1 : Key) = .inr w) := fun h => e (by injection h)
      simp only [decide_eq_false e, decide_eq_false e2]
      exact ih
end EV
end
section
/-! M9: a value like a plain. -/
set_option Elab.async false
set_option linter.all false
set_option maxRecDepth 100000
namespace EV
open PySem PySem.Spec PyProof.Rows L2
/-- plains, and the numbers of a wide row -/
def leafs : List PV := plains ++ rgIts 0 25 ++ [.str "k", .str "b"]
theorem leaf_tup {p : PV} (h : p ∈ leafs) : isTup p = false := by
  have t : leafs.all (fun p => !isTup p) = true := by decide +kernel
  simpa using List.all_eq_true.mp t p h
theorem leaf_of {p : PV} (h : p ∈ plains) : p ∈ leafs := List.mem_append_left _ (List.mem_append_left _ h)
theorem leaf_fit {p : PV} (h : p ∈ leafs) : fitB p = true := by
  have t : leafs.all fitB = true := by decide +kernel
  exact List.all_eq_true.mp t p h
theorem leaf_dat {p : PV} (h : p ∈ leafs) : datB p = true := dat_of_fit (leaf_fit h)
end EV
end
section
/-! M10: what repr tells of fields. -/
set_option Elab.async false
set_option linter.all false
set_option maxRecDepth 100000
namespace EV
open PySem PySem.Spec PyProof.Rows L2
def pool7 : List Str := ["a", "b", "k", "kk", "x", "yes", "q"]
def sg (x : Str) : List Nat := x.cps.toList
def pre (w : Str) : List Nat := sg (reprText w) ++ sg ", "
def diff : List Nat → List Nat → Bool
  | a :: as, b :: bs => a != b || diff as bs
  | _, _ => false
end EV
end
section
/-! M11: steps, what comes by a step. -/
set_option Elab.async false
set_option linter.all false
set_option maxRecDepth 100000
namespace EV
open PySem PySem.Spec PyProof.Rows L2
/-- values: plains, rows, trees whose words differ -/
inductive Val : PV → Prop where
  | plain {p : PV} : p ∈ leafs → Val p
  | row {xs : List PV} : (∀ x ∈ xs, Val x) → Val (rowV xs)
  | tree {kv : List (Str × PV)} : (kv.map (·.1)).Nodup → (∀ q ∈ kv, q.1 ∈ pool7) → (∀ q ∈ kv, Val q.2) → Val (treeV kv)
theorem pool67 {w : Str} (h : w ∈ pool6) : w ∈ pool7 := by
  simp only [pool6, pool7, List.mem_cons, List.not_mem_nil, or_false] at *
  rcases h with h | h | h | h | h | h <;> simp [h]
theorem Doc.val : ∀ {n : Nat} {p : PV}, Doc n p → Val p
  | 0, p, h => .plain (leaf_of h)
  | n + 1, p, h => by
    rcases h with h | ⟨xs, rfl, _, h⟩ | ⟨kv, rfl, _, h1, h2, h⟩
    · exact .plain (leaf_of h)
    · exact .row fun x hx => (h x hx).val
    · exact .tree h1 (fun q hq => pool67 (h2 q hq)) fun q hq => (h q hq).val
theorem DocT.val {p : PV} (h : DocT p) : Val p := by
  obtain ⟨kv, rfl, _, h1, h2, h⟩ := h
  exact .tree h1 (fun q hq => pool67 (h2 q hq)) fun q hq => (h q hq).val
theorem Val.dat {p : PV} (h : Val p) : datB p = true := by
  induction h with
  | plain h => exact leaf_dat h
  | row _ ih => simp [rowV, datB, datBs, datBs_of ih]
  | tree _ _ _ ih => simp [treeV, datB, datBs, dat_flds ih]
theorem Val.tup {p : PV} (h : Val p) : isTup p = true ∨ p ∈ leafs := by
  cases h with
  | plain h => exact .inr h
  | row _ => exact .inl rfl
  | tree _ _ _ => exact .inl rfl
abbrev fieldS (w : Str) : PV := .tup [.str "field", .str w]
abbrev atS (i : Int) : PV := .tup [.str "at", .int i]
abbrev eachS : PV := .tup [.str "each"]
abbrev whereS (w : Str) (p : PV) : PV := .tup [.str "where", .str w, p]
def rowsOf (V : PV) : List PV := (headed "row" V).getD []
def fldsOf (V : PV) : List PV := (headed "tree" V).getD []
def keyIs (w : Str) : PV → Bool
  | .tup [.str k, _] => decide (k = w)
  | _ => false
def sndV : PV → PV
  | .tup [_, v] => v
  | _ => .non
def fieldC (w : Str) (V : PV) : List PV := (fldsOf V).filter (keyIs w)
def atC (i : Int) (V : PV) : List PV := cutP (enP (rowsOf V)) (some i) (some (i + 1))
def eachM (V : PV) : List PV := enP (rowsOf V)
def fitsP (w : Str) (p V : PV) : Bool := (fldsOf V).any fun t => decide (rep t = rep (.tup [.str w, p]))
def whereC (w : Str) (p V : PV) : List PV := (enP (rowsOf V)).filter fun t => fitsP w p (sndV t)
/-- steps -/
inductive Stp where
  | field (w : Str)
  | at (i : Int)
  | each
  | wh (w : Str) (p : PV)
def Stp.pv : Stp → PV
  | .field w => fieldS w
  | .at i => atS i
  | .each => eachS
  | .wh w p => whereS w p
def Stp.c : Stp → PV → List PV
  | .field w => fieldC w
  | .at i => atC i
  | .each => eachM
  | .wh w p => whereC w p
def Stp.ok : Stp → Prop
  | .wh w p => w ∈ pool7 ∧ p ∈ leafs
  | _ => True
theorem trim_back {G S : GH} {p : PV} (h : datB p = true) : trimR G (.ok p (G ++ S)) = .ok p G := by
  have e : (G ++ S).take G.length = G := by simp
  simp only [trimR, e]
  rw [if_pos ⟨by rw [refs_of_dat _ h, okB_self]; rfl, by simp⟩]
theorem any_mem {α : Type} {f g : α → Bool} : ∀ {xs : List α}, (∀ x ∈ xs, f x = g x) → xs.any f = xs.any g
  | [], _ => rfl
  | x :: xs, h => by rw [List.any_cons, List.any_cons, h x (List.mem_cons_self ..), any_mem fun y hy => h y (List.mem_cons_of_mem _ hy)]
end EV
end
section
/-! M12: loops that turn nothing; what comes by a step. -/
set_option Elab.async false
set_option linter.all false
set_option maxRecDepth 100000
namespace EV
open PySem PySem.Spec PyProof.Rows L2
@[simp] theorem wne1 : (("field" : Str) = "at") = False := by decide
@[simp] theorem wne2 : (("field" : Str) = "each") = False := by decide
@[simp] theorem wne3 : (("field" : Str) = "where") = False := by decide
@[simp] theorem wne4 : (("field" : Str) = "row") = False := by decide
@[simp] theorem wne5 : (("field" : Str) = "tree") = False := by decide
@[simp] theorem wne6 : (("at" : Str) = "field") = False := by decide
@[simp] theorem wne7 : (("at" : Str) = "each") = False := by decide
@[simp] theorem wne8 : (("at" : Str) = "where") = False := by decide
@[simp] theorem wne9 : (("at" : Str) = "row") = False := by decide
@[simp] theorem wne10 : (("at" : Str) = "tree") = False := by decide
@[simp] theorem wne11 : (("each" : Str) = "field") = False := by decide
@[simp] theorem wne12 : (("each" : Str) = "at") = False := by decide
@[simp] theorem wne13 : (("each" : Str) = "where") = False := by decide
@[simp] theorem wne14 : (("each" : Str) = "row") = False := by decide
@[simp] theorem wne15 : (("each" : Str) = "tree") = False := by decide
@[simp] theorem wne16 : (("where" : Str) = "field") = False := by decide
@[simp] theorem wne17 : (("where" : Str) = "at") = False := by decide
@[simp] theorem wne18 : (("where" : Str) = "each") = False := by decide
@[simp] theorem wne19 : (("where" : Str) = "row") = False := by decide
@[simp] theorem wne20 : (("where" : Str) = "tree") = False := by decide
@[simp] theorem wne21 : (("row" : Str) = "field") = False := by decide
@[simp] theorem wne22 : (("row" : Str) = "at") = False := by decide
@[simp] theorem wne23 : (("row" : Str) = "each") = False := by decide
@[simp] theorem wne24 : (("row" : Str) = "where") = False := by decide
@[simp] theorem wne25 : (("row" : Str) = "tree") = False := by decide
@[simp] theorem wne26 : (("tree" : Str) = "field") = False := by decide
@[simp] theorem wne27 : (("tree" : Str) = "at") = False := by decide
@[simp] theorem wne28 : (("tree" : Str) = "each") = False := by decide
@[simp] theorem wne29 : (("tree" : Str) = "where") = False := by decide
@[simp] theorem wne30 : (("tree" : Str) = "row") = False := by decide
theorem fm_filter {α : Type} {P : α → Bool} : ∀ {xs : List α}, xs.filterMap (fun t => if P t = true then some t else none) = xs.filter P
  | [] => rfl
  | x :: xs => by
    rw [List.filterMap_cons, List.filter_cons, fm_filter (xs := xs)]
    cases P x <;> rfl
theorem loop_pure {f : PV → GH → Res (Option PV)} {h : PV → Option PV} {gd : GH → Bool} {G : GH} (hg : gd G = true) : ∀ {xs : List PV}, (∀ x ∈ xs, f x G = .ok (h x) G) → loopC f gd xs G = .ok (xs.filterMap h) G
  | [], _ => by simp [loopC, hg]
  | x :: xs, e => by
    have e1 := e x (List.mem_cons_self ..)
    have e2 := loop_pure (f := f) (h := h) hg (xs := xs) fun y hy => e y (List.mem_cons_of_mem _ hy)
    simp only [loopC, hg, if_true, e1, e2, Res.bind_ok, List.filterMap_cons]
    cases h x <;> rfl
/-- small values -/
structure Sm (V : PV) : Prop where
  val : Val V
  w : wgt V ≤ 100000
  d : dep V ≤ 40
theorem wgts_mem {ps : List PV} {p : PV} (h : p ∈ ps) : wgt p + 1 ≤ wgts ps := by
  induction ps with
  | nil => cases h
  | cons q ps ih =>
    simp only [wgts]
    rcases List.mem_cons.mp h with rfl | h
    · omega
    · have := ih h; omega
theorem deps_mem {ps : List PV} {p : PV} (h : p ∈ ps) : dep p ≤ deps ps := by
  induction ps with
  | nil => cases h
  | cons q ps ih =>
    simp only [deps]
    rcases List.mem_cons.mp h with rfl | h
    · exact Nat.le_max_left _ _
    · exact Nat.le_trans (ih h) (Nat.le_max_right _ _)
theorem wgt_row (xs : List PV) : wgts xs ≤ wgt (rowV xs) := by simp only [rowV, wgt, wgts]; omega
theorem wgt_tree (kv : List (Str × PV)) : wgts (kv.map fldV) ≤ wgt (treeV kv) := by simp only [treeV, wgt, wgts]; omega
theorem dep_row (xs : List PV) : deps xs + 2 ≤ dep (rowV xs) := by simp only [rowV, dep, deps]; omega
theorem dep_tree (kv : List (Str × PV)) : deps (kv.map fldV) + 2 ≤ dep (treeV kv) := by simp only [treeV, dep, deps]; omega
theorem Sm.row {xs : List PV} (h : Sm (rowV xs)) : ∀ x ∈ xs, Sm x := fun x hx => by
  have v : ∀ x ∈ xs, Val x := by
    have := h.val
    generalize hV : rowV xs = V at this
    cases this with
    | plain h => rw [← hV] at h; exact absurd (leaf_tup h) (by simp [rowV, isTup])
    | row h => simp only [rowV, PV.tup.injEq, List.cons.injEq, and_true, true_and] at hV; subst hV; exact h
    | tree _ _ _ =>
      simp [rowV, treeV] at hV
  have h1 := wgts_mem hx
  have h2 := deps_mem hx
  have h3 := wgt_row xs
  have h4 := dep_row xs
  have h5 := h.w
  have h6 := h.d
  exact ⟨v x hx, by omega, by omega⟩
theorem Sm.tree {kv : List (Str × PV)} (h : Sm (treeV kv)) (h2 : ∀ q ∈ kv, Val q.2) : ∀ q ∈ kv, Sm q.2 := fun q hq => by
  have h1 := wgts_mem (List.mem_map.mpr ⟨q, hq, rfl⟩ : fldV q ∈ kv.map fldV)
  have h2' := deps_mem (List.mem_map.mpr ⟨q, hq, rfl⟩ : fldV q ∈ kv.map fldV)
  have h3 := wgt_tree kv
  have h4 := dep_tree kv
  have h5 := h.w
  have h6 := h.d
  simp only [fldV, wgt, wgts, dep, deps] at h1 h2'
  exact ⟨h2 q hq, by omega, by omega⟩
section
variable {G : GH} {ρ : Env}
theorem gStar_1 {i j : Nat} {x : PV} {ps : List PV} : gStarE 1 (gConsE (gN i) (gConsE (gN j) gNilE)) (.tup (x :: ps)) ρ G = .ok ((ρ.set i (some x)).set j (some (.lst ps))) G := by
  simp [gStarE, gConsE, gNilE, gN]
@[simp] theorem opSl_lst {ps : List PV} {lo hi : Option Int} : opSl (.lst ps) lo hi G = .ok (.lst (cutP ps lo hi)) G := rfl
@[simp] theorem opSl_tup {ps : List PV} {lo hi : Option Int} : opSl (.tup ps) lo hi G = .ok (.tup (cutP ps lo hi)) G := rfl
@[simp] theorem gTup2_ap {i j : Nat} {x y : PV} : gTupE 2 (gConsE (gN i) (gConsE (gN j) gNilE)) (.tup [x, y]) ρ G = .ok ((ρ.set i (some x)).set j (some y)) G := by
  simp [gTupE, gConsE, gNilE]
@[simp] theorem mDNew_ap : mDNew ρ G = .ok (.obj G.length) (G ++ [.dic []]) := rfl
@[simp] theorem mSeq_ap {m : Env → GH → Res PV} : mSeq m ρ G = (m ρ G).bind seqSrc := rfl
@[simp] theorem seqSrc_tup {ps : List PV} : seqSrc (.tup ps) G = .ok ⟨ps, fun _ => true⟩ G := rfl
@[simp] theorem seqSrc_lst {ps : List PV} : seqSrc (.lst ps) G = .ok ⟨ps, fun _ => true⟩ G := rfl
theorem mComp_ap {ms : Env → GH → Res Src} {tg : PV → Env → GH → Res Env} {tt : Env → GH → Res Bool} {el : Env → GH → Res PV} {own : List Nat} : mComp false ms tg tt el own ρ G = (ms ρ G).bind fun S G1 => (loopC (compF tg tt el own ρ) S.gd S.its G1).bind fun ys G5 => .ok (.lst ys) G5 := rfl
end
end EV
end
section
set_option Elab.async false
set_option linter.all false
set_option maxRecDepth 100000
/-! Ev30: sets of texts: one more text. -/
namespace EV
open PySem PySem.Spec PyProof.Rows L2
abbrev KT (P : Program) (w : World) := PySem.strKind P w
def keyT (e : Int × Value) : Str := match e.2 with
  | .str k _ => k
  | _ => Str.empty
def TxtE (P : Program) (w : World) (e : Int × Value) : Prop := ∃ k tk, e.2 = Value.str k tk ∧ e.1 = (KT P w).hash k
/-- the set at a holds the texts of L, in some order -/
structure SetT (P : Program) (w : World) (h : Heap) (a : Addr) (L : List Str) : Prop where
  ex : ∃ o es ep t, h.get? a = some o ∧ o.ExactSet ∧ o.data = .set es ep t ∧ (∀ e ∈ es.toList, TxtE P w e) ∧ (es.toList.map keyT).Perm L ∧ es.size < scanBound ∧ t.fits es.size = true ∧ Ris t.place.toList ∧ (w.params.followText "set-order" = true ∨ t.led = true)
  nd : L.Nodup
section
variable {P : Program} {w : World} {h h' : Heap} {a : Addr} {L : List Str}
theorem SetT.at (R : SetT P w h a L) (k : ∀ o, h.get? a = some o → h'.get? a = some o) : SetT P w h' a L := by
  obtain ⟨⟨o, es, ep, t, ho, r⟩, nd⟩ := R
  exact ⟨⟨o, es, ep, t, k o ho, r⟩, nd⟩
end
section
variable {P : Program} {w : World} {A : Around} {E : Value → Shared → Prop} {s : Shared} {a : Addr} {L : List Str}
end
end EV
end
section
set_option Elab.async false
set_option linter.all false
set_option maxRecDepth 100000
/-! Ev31: sorted(set(texts)). -/
namespace EV
open PySem PySem.Spec PyProof.Rows L2
section
variable {P : Program} {w : World} {A : Around} {E : Value → Shared → Prop} {s : Shared}
/-! ### sorted -/
theorem rising_pw : ∀ (r : List Str) (p : Str), risingS p r = true → (p :: r).Pairwise fun a b => a.cps.toList ≤ b.cps.toList
  | [], p, _ => List.pairwise_singleton ..
  | x :: r, p, h => by
    simp only [risingS, Bool.and_eq_true, Bool.not_eq_true'] at h
    have h1 : p.cps.toList ≤ x.cps.toList := by
      have := h.1
      rw [← gt_meets] at this
      exact List.not_lt.mp (by simpa using this)
    have ih := rising_pw r x h.2
    refine List.pairwise_cons.mpr ⟨fun y hy => ?_, ih⟩
    rcases List.mem_cons.mp hy with rfl | hy
    · exact h1
    · exact List.le_trans h1 (List.rel_of_pairwise_cons ih hy)
theorem sortedS_pw {r : List Str} (h : sortedS r = true) : r.Pairwise fun a b => a.cps.toList ≤ b.cps.toList := by
  cases r with
  | nil => exact .nil
  | cons x r => exact rising_pw r x h
end
/-! ### over the layer -/
section
variable {X : Cx}
end
end EV
end
section
set_option Elab.async false
set_option linter.all false
set_option maxRecDepth 100000
/-! Ev32: the rule of sorted(set(texts)). -/
namespace EV
open PySem PySem.Spec PyProof.Rows L2
def leT (x y : Str) : Bool := decide (x.cps.toList ≤ y.cps.toList)
theorem leT_trans (a b c : Str) (h : leT a b = true) (k : leT b c = true) : leT a c = true := by
  simp only [leT, decide_eq_true_eq] at *; exact List.le_trans h k
theorem leT_total (a b : Str) : (leT a b || leT b a) = true := by
  simp only [leT, Bool.or_eq_true, decide_eq_true_eq]; exact List.le_total _ _
theorem str_ext {x y : Str} (h : x.cps.toList = y.cps.toList) : x = y := by
  cases x; cases y
  simp only [Str.mk.injEq]
  exact Array.toList_inj.mp h
theorem leT_anti {a b : Str} (h : leT a b = true) (k : leT b a = true) : a = b := by
  simp only [leT, decide_eq_true_eq] at *; exact str_ext (List.le_antisymm h k)
section
variable {F : Fx} {μ : Mu} {H : Hp} {G : GH}
end
section
variable {X : Cx} {F : Fx} {Ex : XK} {n : Nat}
end
end EV
end
section
set_option Elab.async false
set_option linter.all false
set_option maxRecDepth 100000
/-! Ev33: xs[::-1], sep.join(texts), o[i] as a target, sum(numbers). -/
namespace EV
open PySem PySem.Spec PyProof.Rows L2 HT
theorem filterMap_same {α β : Type} {f g : α → Option β} : ∀ {l : List α}, (∀ x ∈ l, f x = g x) → l.filterMap f = l.filterMap g
  | [], _ => rfl
  | x :: l, h => by
    rw [List.filterMap_cons, List.filterMap_cons, h x (List.mem_cons_self ..), filterMap_same fun y hy => h y (List.mem_cons_of_mem _ hy)]
section
variable {prog : Program} {w : World} {A : Around} {E : Value → Shared → Prop} {s : Shared}
theorem revPick (xs : Array Value) : ((List.range xs.size).filterMap fun (m : Nat) => xs[(((xs.size : Int) - 1) + (m : Int) * (-1)).toNat]?).toArray = xs.toList.reverse.toArray := by
  have h := PySem.W.krv_pick xs
  unfold slicePick at h
  rw [PySem.W.krv_bounds] at h
  dsimp only at h
  rw [PySem.W.krv_sliceRange, List.filterMap_map] at h
  rw [← h]
  congr 1
  apply filterMap_same
  intro m hm
  have := List.mem_range.mp hm
  show xs[_]? = xs[xs.size - 1 - m]?
  congr 1
  omega
theorem sliceApplied_rev {sl : Addr} {vl vu vs : Value} {n : Nat} {Q : Int × Int × Nat → Shared → Prop} (hs : s.heap.IsSliceOf sl vl vu vs) (pl : IsPart vl none) (pu : IsPart vu none) (ps : IsPart vs (some (-1)))
    (h : Q ((n : Int) - 1, -1, n) s) : wpAny (model prog w) A (Builtin.Slice.sliceApplied (.ref sl) (pure (n : Int))) Q E s := by
  obtain ⟨os, hos, hcs, hds⟩ := id hs
  unfold Builtin.Slice.sliceApplied Builtin.Slice.sliceFields
  refine wpAny_bind (wpAny_bind (wpAny_field hos hds (x := vl) rfl (wpAny_bind (wpAny_field hos hds (x := vu) rfl (wpAny_bind (wpAny_field hos hds (x := vs) rfl (wpAny_pure ?_)))))))
  refine wpAny_bind (slicePart_ ps ?_)
  show wpAny _ _ (if ((-1 : Int) == 0) = true then _ else _) _ _ s
  rw [if_neg (by decide)]
  refine wpAny_bind (slicePart_ pl (wpAny_bind (slicePart_ pu (wpAny_bind (wpAny_pure ?_)))))
  show wpAny _ _ (pure (((n : Int) - 1), (-1 : Int), Builtin.Slice.slicePlaces ((n : Int) - 1) (-1) (-1))) _ _ s
  have e : Builtin.Slice.slicePlaces ((n : Int) - 1) (-1) (-1) = n := by
    unfold Builtin.Slice.slicePlaces
    rw [if_neg (by decide)]
    split
    · rw [show (-(-1) : Int) = 1 by decide, Int.ediv_one]; omega
    · simp only [Int.toNat_zero]; omega
  rw [e]
  exact wpAny_pure h
theorem getItem_tuple_rev {t sl : Addr} {items : Array Value} {vl vu vs : Value} {Q : Value → Shared → Prop} (ht : IsTup s.heap t items) (hs : s.heap.IsSliceOf sl vl vu vs) (pl : IsPart vl none) (pu : IsPart vu none) (ps : IsPart vs (some (-1)))
    (h : Q (.ref s.heap.objs.size) { s with heap := s.heap.push { cls := .type "tuple", data := .seq items.toList.reverse.toArray } })
    (hsz : items.size ≤ sizeLine) : wpAny (model prog w) A (getItem (.ref t) (.ref sl)) Q E s := by
  obtain ⟨os, hos, hcs, hds⟩ := id hs
  have hTs : s.TypeIs (.ref sl) "slice" := ⟨os, hos, hcs⟩
  have htake : sizeOk (.seq items.toList.reverse.toArray) := by
    show items.toList.reverse.toArray.size ≤ sizeLine
    rw [List.size_toArray, List.length_reverse, Array.length_toList]; exact hsz
  unfold getItem
  try with_reducible refine wpAny_holding ?_
  first | refine wpAny_bind (wpAny_pure ?_) | skip
  refine wpAny_bind (wpAny_sequenceKey ht.typeIs (by decide) ?_)
  refine wpAny_bind (wpAny_callSpecial?_slot (name := Str.ofString "__getitem__") ht.typeIs PyProof.Rows.slot_tuple_getitem
    (wpAny_call_entry PyProof.Rows.slot_tuple_getitem ht.typeIs entry_tuple_getitem ?_ (args_tuple_getitem _ _)))
  show wpAny _ _ (Builtin.Tuple.tupleItemsOf (.ref t) >>= _) _ _ s
  refine wpAny_bind (tupleItemsOf_ ht ?_)
  refine wpAny_bind (wpAny_typeOf hTs ?_)
  rw [if_pos (by decide)]
  refine wpAny_bind (sliceApplied_rev hs pl pu ps ?_)
  show wpAny _ _ (if (((items.size : Int) - 1) == 0 && (-1 : Int) == 1 && items.size == items.size) = true then _ else _) _ _ s
  rw [if_neg (by simp), revPick]
  first
    | exact wpAny_bind (m := Builtin.Tuple.tupleExact _) (wpAny_newObj_type (wpAny_pure ⟨_, rfl, wpAny_pure h⟩) htake)
    | exact wpAny_bind (m := Builtin.Tuple.tupleExact _) (wpAny_newObj_type (wpAny_bind (wpAny_pure (wpAny_pure ⟨_, rfl, wpAny_pure h⟩))) htake)
    | exact wpAny_bind (wpAny_bind (m := Builtin.Tuple.tupleExact _) (wpAny_newObj_type (wpAny_pure (wpAny_pure ⟨_, rfl, wpAny_pure h⟩)) htake))
    | exact wpAny_bind (wpAny_bind (m := Builtin.Tuple.tupleExact _) (wpAny_newObj_type (wpAny_pure ⟨_, rfl, wpAny_pure h⟩) htake))
end
def tRevX (K : PySem.W.Frag) (te : TE) : TE := fun σ H Q => te σ H fun x H1 => (∃ a xs, x = .ref a ∧ SqT K H1 a xs ∧ NewT H1 xs.reverse Q) ∨ (∃ a xs, x = .ref a ∧ SqL K H1 a xs ∧ ∀ p, H1 p = none → Q (.ref p) (upd H1 p (.lst xs.reverse)))
section
variable {X : Cx} {F : Fx} {Ex : XK} {n : Nat}
theorem pe_revX {e : Expr} {te : TE} {k : Nat} {p1 p2 p3 pos : Pos} (he : PE X e te) : PE X (.Subscript e (.Slice none none (some (.UnaryOp .USub (.Constant (.int 1) k p1) p2)) p3) pos) (tRevX X.K te) := by
  refine ⟨fun pins s σ H Q I h => ?_⟩
  refine Subscript_ (thn (he.run pins s σ H _ I h) fun v s1 ⟨x, H1, I1, r1, q1⟩ => ?_)
  have hst : PO X (some (.UnaryOp .USub (.Constant (.int 1) k p1) p2)) (tPart (tUn (rU fun i => .int (-i)) (tC (.int 1)))) := po_some (pe_un un_neg pe_int)
  refine wpAny_Slice (thn (po_none.run pins s1 σ H1 (fun o H2 => o = none ∧ H2 = H1) I1 ⟨rfl, rfl⟩) fun vl s2 ⟨l, H2, I2, pl, el, e2⟩ => ?_)
  subst el e2
  refine thn (po_none.run pins s2 σ H2 (fun o H3 => o = none ∧ H3 = H2) I2 ⟨rfl, rfl⟩) fun vu s3 ⟨u, H3, I3, pu, eu, e3⟩ => ?_
  subst eu e3
  refine thn (hst.run pins s3 σ H3 (fun o H4 => o = some (-1) ∧ H4 = H3) I3 ⟨1, rfl, -1, rfl, rfl, rfl⟩) fun vs s4 ⟨o, H4, I4, ps, eo, e4⟩ => ?_
  subst eo e4
  have I5 : Inv X pins σ H4 { s4 with heap := s4.heap.push { cls := .type "slice", data := .fields #[vl, vu, vs] } } := I4.kept (t' := s4.toks) fun b ob q => Heap.get?_push_of_some _ q
  rcases q1 with ⟨a, xs, ex, hx, q⟩ | ⟨a, xs, ex, hx, q⟩
  · subst ex
    cases r1
    obtain ⟨its, r, ht, hz⟩ := I5.tuple hx
    have hlen := r.length
    show wpAny (model X.prog X.w) X.A (subscriptTail e (.Slice none none (some (.UnaryOp .USub (.Constant (.int 1) k p1) p2)) p3) (.ref a) (.ref s4.heap.objs.size)) (EP X pins σ Q) X.xe { s4 with heap := s4.heap.push { cls := .type "slice", data := .fields #[vl, vu, vs] } }
    refine tail_any (ops := [.ref a, .ref s4.heap.objs.size]) ht.typeIs (PyProof.Rows.slot_tuple_getitem.lookup) ?_ (by with_unfolding_all rfl)
    refine getItem_tuple_rev ht (Heap.IsSliceOf.new _ vl vu vs) pl pu ps ?_ (by rw [List.size_toArray]; omega)
    exact fz_new (t' := s4.toks) I5 (by simpa using r.reverse) (by rw [List.length_reverse]; exact hz) q
  · subst ex
    cases r1
    obtain ⟨its, r, ht, hz⟩ := I5.list hx
    have hlen := r.length
    show wpAny (model X.prog X.w) X.A (subscriptTail e (.Slice none none (some (.UnaryOp .USub (.Constant (.int 1) k p1) p2)) p3) (.ref a) (.ref s4.heap.objs.size)) (EP X pins σ Q) X.xe { s4 with heap := s4.heap.push { cls := .type "slice", data := .fields #[vl, vu, vs] } }
    refine tail_any (ops := [.ref a, .ref s4.heap.objs.size]) ht.isList.typeIs (PySem.slot_list_getitem.lookup) ?_ (by with_unfolding_all rfl)
    refine wpAny_getItem_list_slice ht.isList (Heap.IsSliceOf.new _ vl vu vs) pl pu ps (by decide) ?_ (by rw [List.size_toArray]; omega)
    rw [PySem.W.krv_pick]
    refine ⟨.ref _, _, I5.laid (t' := s4.toks) (o := .lst xs.reverse) (fun b ob q => Heap.get?_push_of_some _ q) (Nat.le_refl _) ?_, rfl, q _ (I5.hok.fresh (Nat.le_refl _))⟩
    exact ⟨by rw [List.length_reverse]; exact hz, _, 0, r.reverse, Heap.get?_push_size _ rfl⟩
/-- xs[::-1] -/
def opRev (ps : List PV) (G : GH) : Res PV := match ps with
  | [.tup xs] => .ok (.tup xs.reverse) G
  | [x] => match asL x G with
    | some xs => .ok (.lst xs.reverse) G
    | none => .bad
  | _ => .bad
theorem Reps.reverse {μ : Mu} {H : Hp} : ∀ {ps : List PV} {vs : List V}, Reps F μ H ps vs → Reps F μ H ps.reverse vs.reverse
  | [], _, h => by rw [h.nil_inv]; exact .nil
  | p :: ps, _, h => by
    obtain ⟨v, r, rfl, h1, t⟩ := h.cons_inv
    rw [List.reverse_cons, List.reverse_cons]
    exact (Reps.reverse t).append (.one h1)
theorem grev (g : GX X F Ex n) {e : Expr} {m : Env → GH → Res PV} {k : Nat} {p1 p2 p3 pos : Pos} (he : PE X e (TEv F Ex m)) :
    PE X (.Subscript e (.Slice none none (some (.UnaryOp .USub (.Constant (.int 1) k p1) p2)) p3) pos) (TEv F Ex (m1 m opRev)) := by
  refine (pe_revX he).weak fun σ H Q ⟨μ, ρ, G, sr, gr, q⟩ => ?_
  refine TEv.run sr gr q fun μ1 a G1 v H1 e1 r1 g1 s1 p1 => ?_
  unfold opRev at p1
  split at p1
  · rename_i xs hx
    cases hx
    obtain ⟨a, vs, rfl, z, st, rr⟩ := rep_tup r1
    exact .inl ⟨a, vs, rfl, by rw [← g.K]; exact st.sq, p1.tup g1 (Reps.reverse rr) (by rw [List.length_reverse]; exact z)⟩
  · rename_i x _ hx
    cases hx
    split at p1
    · rename_i xs es
      obtain ⟨al, vs, rfl, z, st, rr⟩ := asL_rep es r1 g1
      exact .inr ⟨al, vs, rfl, by rw [← g.K]; exact st, p1.lst g1 (Reps.reverse rr) (by rw [List.length_reverse]; exact z)⟩
    · exact (show False from p1).elim
  · exact (show False from p1).elim
/-! ### sep.join(texts) -/
/-! ### o[i] as a target -/
/-! ### sum(numbers) -/
end
end EV
end
section
set_option Elab.async false
set_option linter.all false
set_option maxRecDepth 100000
set_option maxHeartbeats 1000000
/-! Ev34: zip(a, b) of two tuples, walked. -/
namespace EV
open PySem PySem.Spec PyProof.Rows L2 RZ Zs
section
variable {X : Cx} {F : Fx} {Ex : XK} {n : Nat}
end
end EV
end
section
/-! N0: what is wanted of an end, for the simplifier; data that repr and == can take; loops by what stays. -/
set_option Elab.async false
set_option linter.all false
set_option maxRecDepth 100000
namespace EV.NV
open PySem PySem.Spec PyProof.Rows L2
/-! ### wanted of an end -/
class Pst (α : Type) where
  q : α → GH → Prop
@[irreducible] def wq {α : Type} (r : Res α) [p : Pst α] : Prop := match r with
  | .ok a G => p.q a G
  | _ => False
@[simp] theorem wq_ok {α : Type} (a : α) (G : GH) (Q : α → GH → Prop) : @wq α (.ok a G) ⟨Q⟩ = Q a G := by unfold wq; rfl
@[simp] theorem wq_bad {α : Type} (Q : α → GH → Prop) : @wq α .bad ⟨Q⟩ = False := by unfold wq; rfl
theorem wq_exc {α : Type} (c : Nat) (fs : List (Str × PV)) (G : GH) (Q : α → GH → Prop) : @wq α (.exc c fs G) ⟨Q⟩ = False := by unfold wq; rfl
@[simp ↓] theorem wq_bind {α β : Type} (r : Res α) (f : α → GH → Res β) (Q : β → GH → Prop) : @wq β (r.bind f) ⟨Q⟩ = @wq α r ⟨fun a G => @wq β (f a G) ⟨Q⟩⟩ := by
  cases r with
  | ok a G => rw [wq_ok]; rfl
  | exc c fs G => rw [wq_exc]; exact wq_exc c fs G Q
  | bad => rw [wq_bad]; exact wq_bad Q
theorem wq_use {α : Type} {r : Res α} {P Q : α → GH → Prop} (h : @wq α r ⟨P⟩) (k : ∀ a G, P a G → Q a G) : @wq α r ⟨Q⟩ := by
  cases r with
  | ok a G => rw [wq_ok] at h ⊢; exact k a G h
  | exc => rw [wq_exc] at h; exact h.elim
  | bad => rw [wq_bad] at h; exact h.elim
theorem wq_eq {α : Type} {r : Res α} {a : α} {G : GH} {Q : α → GH → Prop} (e : r = .ok a G) (k : Q a G) : @wq α r ⟨Q⟩ := by rw [e, wq_ok]; exact k
theorem wq_ex {α : Type} {r : Res α} {P : α → GH → Prop} (h : @wq α r ⟨P⟩) : ∃ a G, r = .ok a G ∧ P a G := by
  cases r with
  | ok a G => rw [wq_ok] at h; exact ⟨a, G, rfl, h⟩
  | exc => rw [wq_exc] at h; exact h.elim
  | bad => rw [wq_bad] at h; exact h.elim
/-! ### data that repr can take -/
mutual
def fitX : PV → Bool
  | .obj _ => false
  | .int i => decide (i.natAbs < 10 ^ 60)
  | .str x => PyData.strOk x && decide (x.cps.size ≤ 4000)
  | .tup ps => fitXs ps
  | .lst ps => fitXs ps
  | .sls ps => fitXs ps
  | _ => true
def fitXs : List PV → Bool
  | [] => true
  | p :: ps => fitX p && fitXs ps
end
theorem fitXs_all : ∀ ps : List PV, fitXs ps = ps.all fitX
  | [] => rfl
  | p :: ps => by rw [fitXs, List.all_cons, fitXs_all ps]
theorem fitXs_mem {ps : List PV} (h : fitXs ps = true) : ∀ p ∈ ps, fitX p = true := by
  rw [fitXs_all, List.all_eq_true] at h; exact h
theorem fitXs_of {ps : List PV} (h : ∀ p ∈ ps, fitX p = true) : fitXs ps = true := by
  rw [fitXs_all, List.all_eq_true]; exact h
mutual
theorem dat_of_fitX : ∀ {p : PV}, fitX p = true → datB p = true
  | .obj _, h => by simp [fitX] at h
  | .tup ps, h => by simp only [datB]; exact dats_of_fitX (by simpa only [fitX] using h)
  | .lst ps, h => by simp only [datB]; exact dats_of_fitX (by simpa only [fitX] using h)
  | .sls ps, h => by simp only [datB]; exact dats_of_fitX (by simpa only [fitX] using h)
  | .non, _ => by simp only [datB]
  | .bl _, _ => by simp only [datB]
  | .int _, _ => by simp only [datB]
  | .str _, _ => by simp only [datB]
theorem dats_of_fitX : ∀ {ps : List PV}, fitXs ps = true → datBs ps = true
  | [], _ => by simp only [datBs]
  | p :: ps, h => by
    simp only [fitXs, Bool.and_eq_true] at h
    simp only [datBs, Bool.and_eq_true]
    exact ⟨dat_of_fitX h.1, dats_of_fitX h.2⟩
end
theorem int_logX {i : Int} (h : i.natAbs < 10 ^ 60) : i.natAbs.log2 + 1 ≤ 200 := by
  by_cases z : i.natAbs = 0
  · rw [z]; decide
  · have : i.natAbs.log2 < 200 := (Nat.log2_lt z).mpr (Nat.lt_trans h (by decide))
    omega
mutual
theorem fit_layX : ∀ {p : PV}, fitX p = true → (dOf p).canLay0 = true ∧ (dOf p).weight ≤ wgt p ∧ (dOf p).depth ≤ dep p ∧ (dOf p).showable = true ∧ (dOf p).hasDict = false ∧ (dOf p).intsShort 61 = true
  | .obj _, h => by simp [fitX] at h
  | .tup ps, h => by
    have q := fits_layX (ps := ps) (by simpa only [fitX] using h)
    simp only [dOf, PyData.canLay0, PyData.weight, PyData.depth, PyData.showable, PyData.hasDict, PyData.intsShort, wgt, dep]
    exact ⟨q.1, q.2.1, by omega, q.2.2.2⟩
  | .lst ps, h => by
    have q := fits_layX (ps := ps) (by simpa only [fitX] using h)
    simp only [dOf, PyData.canLay0, PyData.weight, PyData.depth, PyData.showable, PyData.hasDict, PyData.intsShort, wgt, dep]
    exact ⟨q.1, q.2.1, by omega, q.2.2.2⟩
  | .sls ps, h => by
    have q := fits_layX (ps := ps) (by simpa only [fitX] using h)
    simp only [dOf, PyData.canLay0, PyData.weight, PyData.depth, PyData.showable, PyData.hasDict, PyData.intsShort, wgt, dep]
    exact ⟨q.1, q.2.1, by omega, q.2.2.2⟩
  | .non, _ => by simp [dOf, PyData.canLay0, PyData.weight, PyData.depth, PyData.showable, PyData.hasDict, PyData.intsShort, wgt, dep]
  | .bl _, _ => by simp [dOf, PyData.canLay0, PyData.weight, PyData.depth, PyData.showable, PyData.hasDict, PyData.intsShort, wgt, dep]
  | .int i, h => by
    have h : i.natAbs < 10 ^ 60 := by simpa only [fitX, decide_eq_true_eq] using h
    have l := int_logX h
    simp only [dOf, PyData.canLay0, PyData.weight, PyData.depth, PyData.showable, PyData.hasDict, PyData.intsShort, wgt, dep, decide_eq_true_eq]
    refine ⟨trivial, by split <;> omega, by omega, by omega, trivial, ?_⟩
    have e : (toString i).length ≤ 60 + 1 := int_text_length_le10 (by decide) h
    have e2 : (PyData.shown (.int i)).length = (toString i).length := by
      rw [PyData.shown_int]; exact PySem.ofString_length _
    omega
  | .str x, h => by
    have h : PyData.strOk x = true := by
      simp only [fitX, Bool.and_eq_true] at h; exact h.1
    simp [dOf, PyData.canLay0, PyData.weight, PyData.depth, PyData.showable, PyData.hasDict, PyData.intsShort, wgt, dep, h]
theorem fits_layX : ∀ {ps : List PV}, fitXs ps = true → PyData.canLayAll0 (dOfs ps) = true ∧ PyData.weightAll (dOfs ps) ≤ wgts ps ∧ PyData.depthAll (dOfs ps) ≤ deps ps ∧ PyData.showableAll (dOfs ps) = true ∧ PyData.hasDictAll (dOfs ps) = false ∧ PyData.intsShortAll 61 (dOfs ps) = true
  | [], _ => by simp [dOfs, PyData.canLayAll0, PyData.weightAll, PyData.depthAll, PyData.showableAll, PyData.hasDictAll, PyData.intsShortAll, wgts, deps]
  | p :: ps, h => by
    simp only [fitXs, Bool.and_eq_true] at h
    have a := fit_layX h.1
    have b := fits_layX h.2
    simp only [dOfs, PyData.canLayAll0, PyData.weightAll, PyData.depthAll, PyData.showableAll, PyData.hasDictAll, PyData.intsShortAll, wgts, deps, Bool.and_eq_true, Bool.or_eq_false_iff]
    exact ⟨⟨a.1, b.1⟩, by omega, by omega, ⟨a.2.2.2.1, b.2.2.2.1⟩, ⟨a.2.2.2.2.1, b.2.2.2.2.1⟩, ⟨a.2.2.2.2.2, b.2.2.2.2.2⟩⟩
end
mutual
/-- the longest tuple or list within -/
def lnm : PV → Nat
  | .tup ps => max ps.length (lnms ps)
  | .lst ps => max ps.length (lnms ps)
  | .sls ps => max ps.length (lnms ps)
  | _ => 0
def lnms : List PV → Nat
  | [] => 0
  | p :: ps => max (lnm p) (lnms ps)
end
/-- small data: its weight, its depth, its longest part -/
structure Sm (w d m : Nat) (p : PV) : Prop where
  f : fitX p = true
  w : wgt p ≤ w
  d : dep p ≤ d
  m : lnm p ≤ m
theorem Sm.dat {w d m : Nat} {p : PV} (h : Sm w d m p) : datB p = true := dat_of_fitX h.f
theorem Sm.mono {w d m w' d' m' : Nat} {p : PV} (h : Sm w d m p) (hw : w ≤ w') (hd : d ≤ d') (hm : m ≤ m') : Sm w' d' m' p := ⟨h.f, Nat.le_trans h.w hw, Nat.le_trans h.d hd, Nat.le_trans h.m hm⟩
theorem wgts_le {w : Nat} : ∀ {ps : List PV}, (∀ p ∈ ps, wgt p ≤ w) → wgts ps ≤ ps.length * (w + 1)
  | [], _ => by simp [wgts]
  | p :: ps, h => by
    have h1 := h p (List.mem_cons_self ..)
    have h2 := wgts_le (ps := ps) fun q hq => h q (List.mem_cons_of_mem _ hq)
    rw [wgts, List.length_cons, Nat.succ_mul]
    omega
theorem deps_le {d : Nat} : ∀ {ps : List PV}, (∀ p ∈ ps, dep p ≤ d) → deps ps ≤ d
  | [], _ => by simp [deps]
  | p :: ps, h => by
    have h1 := h p (List.mem_cons_self ..)
    have h2 := deps_le (ps := ps) fun q hq => h q (List.mem_cons_of_mem _ hq)
    rw [deps]; omega
theorem wgts_mem : ∀ {ps : List PV} {p : PV}, p ∈ ps → wgt p + 1 ≤ wgts ps
  | q :: ps, p, h => by
    rw [wgts]
    rcases List.mem_cons.mp h with rfl | h
    · omega
    · have := wgts_mem h; omega
theorem deps_mem : ∀ {ps : List PV} {p : PV}, p ∈ ps → dep p ≤ deps ps
  | q :: ps, p, h => by
    rw [deps]
    rcases List.mem_cons.mp h with rfl | h
    · omega
    · have := deps_mem h; omega
theorem wgts_append : ∀ (ps qs : List PV), wgts (ps ++ qs) = wgts ps + wgts qs
  | [], qs => by simp [wgts]
  | p :: ps, qs => by rw [List.cons_append, wgts, wgts, wgts_append ps qs]; omega
theorem lnms_le {d : Nat} : ∀ {ps : List PV}, (∀ p ∈ ps, lnm p ≤ d) → lnms ps ≤ d
  | [], _ => by simp [lnms]
  | p :: ps, h => by
    have h1 := h p (List.mem_cons_self ..)
    have h2 := lnms_le (ps := ps) fun q hq => h q (List.mem_cons_of_mem _ hq)
    rw [lnms]; omega
theorem lnms_mem : ∀ {ps : List PV} {p : PV}, p ∈ ps → lnm p ≤ lnms ps
  | q :: ps, p, h => by
    rw [lnms]
    rcases List.mem_cons.mp h with rfl | h
    · omega
    · have := lnms_mem h; omega
/-- a part of a tuple -/
theorem Sm.tup {w d m : Nat} {ps : List PV} (h : Sm w (d + 1) m (.tup ps)) : ∀ p ∈ ps, Sm (w - 1) d m p := fun p hp => by
  have hf : fitXs ps = true := by simpa only [fitX] using h.f
  have h1 := wgts_mem hp
  have h2 := deps_mem hp
  have h3 := lnms_mem hp
  have hw := h.w
  have hd := h.d
  have hm := h.m
  simp only [wgt, dep, lnm] at hw hd hm
  exact ⟨fitXs_mem hf p hp, by omega, by omega, by omega⟩
theorem Sm.tup' {w d m : Nat} {ps : List PV} (h : Sm w d m (.tup ps)) : ∀ p ∈ ps, Sm w d m p := fun p hp => (Sm.tup (h.mono (Nat.le_refl _) (Nat.le_succ _) (Nat.le_refl _)) p hp).mono (by omega) (by omega) (Nat.le_refl _)
theorem Sm.len {w d m : Nat} {ps : List PV} (h : Sm w d m (.tup ps)) : ps.length ≤ m := by
  have hm := h.m
  simp only [lnm] at hm
  omega
theorem repr_sm {p : PV} {w d m : Nat} (G : GH) (h : Sm w d m p) (hw : w ≤ 200000) (hd : d ≤ 60) : bRepr [p] G = .ok (.str (rep p)) G := by
  obtain ⟨h1, h2, h3, h4, h5, h6⟩ := fit_layX h.f
  have l1 := h.w
  have l2 := h.d
  have z := PyData.shown_le 61 (by decide) (dOf p) (PyData.leavesShort_of_canLay0 61 _ h1 h6)
  have hm : (61 + 2) * (dOf p).weight ≤ 63 * 200000 := Nat.mul_le_mul (by decide) (by omega)
  have e : sizeLine = 16777216 := by decide
  have k : reprOk (dOf p) = true := by
    unfold reprOk
    simp only [Bool.and_eq_true, decide_eq_true_eq, Bool.not_eq_true']
    exact ⟨⟨⟨h4, h5⟩, by omega⟩, by omega⟩
  simp only [bRepr, toDG_dat G h.dat, if_pos k, rep]
/-! ### the feed -/
/-- the feed with at most D draws behind it -/
def Fd (D : Nat) (g : GO) : Prop := ∃ (cs : List Int) (a b d : Int), g = feedO cs a b d ∧ 0 ≤ a ∧ 0 ≤ b ∧ 0 ≤ d ∧ d ≤ D
theorem Fd.mono {D D' : Nat} {g : GO} (h : Fd D g) (hd : D ≤ D') : Fd D' g := by
  obtain ⟨cs, a, b, d, e, h1, h2, h3, h4⟩ := h
  exact ⟨cs, a, b, d, e, h1, h2, h3, by omega⟩
theorem Fd.refs {D : Nat} {g : GO} (h : Fd D g) (n : Nat) : GO.refsB n g = true := by
  obtain ⟨cs, a, b, d, rfl, _⟩ := h
  exact refs_feed _ _ _ _ _
/-! ### loops by what stays -/
/-- .. where each gives one -/
theorem wq_loopC1 {f : PV → GH → Res (Option PV)} {gd : GH → Bool} (I : Nat → GH → Prop) (P : PV → Prop) : ∀ (its : List PV) (i : Nat) {G : GH}, I i G → (∀ j G, I j G → gd G = true) →
    (∀ x ∈ its, ∀ j G, i ≤ j → j < i + its.length → I j G → @wq (Option PV) (f x G) ⟨fun o G' => I (j + 1) G' ∧ ∃ y, o = some y ∧ P y⟩) →
    @wq (List PV) (loopC f gd its G) ⟨fun ys G' => I (i + its.length) G' ∧ (∀ y ∈ ys, P y) ∧ ys.length = its.length⟩
  | [], i, G, h, hg, _ => by
    simp only [loopC, if_pos (hg i G h), wq_ok]
    exact ⟨h, ⟨fun y hy => absurd hy List.not_mem_nil, by simp⟩⟩
  | x :: xs, i, G, h, hg, hs => by
    simp only [loopC, if_pos (hg i G h), wq_bind, wq_ok]
    refine wq_use (hs x (List.mem_cons_self ..) i G (Nat.le_refl _) (by rw [List.length_cons]; omega) h) fun o G1 ⟨h1, z, e, h2⟩ => ?_
    subst e
    simp only [wq_bind, wq_ok]
    refine wq_use (wq_loopC1 I P xs (i + 1) h1 hg fun y hy j G' p1 p2 => hs y (List.mem_cons_of_mem _ hy) j G' (by omega) (by rw [List.length_cons]; omega)) fun ys G2 ⟨h3, h4, h5⟩ => (wq_ok _ _ _).mpr ⟨?_, ?_, ?_⟩
    · rw [List.length_cons, show i + (xs.length + 1) = i + 1 + xs.length by omega]; exact h3
    · intro y hy
      rcases List.mem_append.mp hy with q | q
      · rw [show y = z by simpa using q]; exact h2
      · exact h4 y q
    · simp only [List.length_append, Option.toList_some, List.length_cons, List.length_nil]; omega
/-- a for that always goes on -/
theorem wq_loopF {f : PV → Env → GH → Res Fl} {gd : GH → Bool} (I : Nat → Env → GH → Prop) : ∀ (its : List PV) (i : Nat) {ρ : Env} {G : GH}, I i ρ G → (∀ j ρ G, I j ρ G → gd G = true) →
    (∀ x ∈ its, ∀ j ρ G, i ≤ j → j < i + its.length → I j ρ G → @wq Fl (f x ρ G) ⟨fun fl G' => ∃ ρ', (fl = .next ρ' ∨ fl = .cont ρ') ∧ I (j + 1) ρ' G'⟩) →
    @wq Fl (loopF f gd its ρ G) ⟨fun fl G' => ∃ ρ', fl = .next ρ' ∧ I (i + its.length) ρ' G'⟩
  | [], i, ρ, G, h, hg, _ => by
    simp only [loopF, if_pos (hg i ρ G h), wq_ok]
    exact ⟨ρ, rfl, h⟩
  | x :: xs, i, ρ, G, h, hg, hs => by
    simp only [loopF, if_pos (hg i ρ G h), wq_bind, wq_ok]
    refine wq_use (hs x (List.mem_cons_self ..) i ρ G (Nat.le_refl _) (by rw [List.length_cons]; omega) h) fun fl G1 ⟨ρ1, e, h1⟩ => ?_
    have go := wq_loopF I xs (i + 1) h1 hg fun y hy j ρ' G' p1 p2 => hs y (List.mem_cons_of_mem _ hy) j ρ' G' (by omega) (by rw [List.length_cons]; omega)
    have e2 : i + (x :: xs).length = i + 1 + xs.length := by rw [List.length_cons]; omega
    rw [e2]
    rcases e with rfl | rfl <;> (simp only; exact go)
end EV.NV
end
section
set_option Elab.async false
set_option linter.all false
set_option maxRecDepth 100000
/-! Ev35: list + list as an object that changes; abs. -/
namespace EV
open PySem PySem.Spec PyProof.Rows L2
def bAbs (ps : List PV) (G : GH) : Res PV := match ps with
  | [.int i] => .ok (.int (if i < 0 then -i else i)) G
  | _ => .bad
section
variable {X : Cx} {F : Fx} {Ex : XK} {n : Nat}
theorem bAbs_ok : CallR X (.builtin "abs") (RdV F Ex bAbs) := by
  intro pins s σ H xs us Q I rs ⟨μ, ps, G, r, g, p⟩
  unfold bAbs at p
  split at p
  · obtain ⟨v, rfl, r1⟩ := Reps.one_inv r
    exact call_abs pins s σ H _ us Q I rs ⟨_, by rw [rep_int r1], p.here RV.int g⟩
  · exact (show False from p).elim
end
end EV
end
section
set_option Elab.async false
set_option linter.all false
set_option maxRecDepth 100000
/-! Ev36: sorted(d.items()) of a dict with texts as keys. -/
namespace EV
open PySem PySem.Spec PySem.W PySem.Calls PyProof.Rows L2
/-! ### pairs that begin with texts, all unlike -/
def PairT (h : PySem.Heap) (v : Value) (x : Str) : Prop := ∃ (a : Addr) (o : Obj) (y : Value) (t : Tok) (n : Nat), v = .ref a ∧ h.get? a = some o ∧ o.cls = .type "tuple" ∧ o.data = .seq #[.str x t, y] n
theorem PairT.unique {h : PySem.Heap} {v : Value} {x x' : Str} (p : PairT h v x) (q : PairT h v x') : x = x' := by
  obtain ⟨a, o, y, t, n, rfl, h1, _, h2⟩ := p
  obtain ⟨a', o', y', t', n', e, k1, _, k2⟩ := q
  cases e
  rw [h1] at k1; cases k1
  rw [h2] at k2
  have e := (Data.seq.inj k2).1
  have e2 := congrArg Array.toList e
  simp only [List.cons.injEq] at e2
  have := e2.1
  cases this
  rfl
noncomputable def pairKind (h : PySem.Heap) (vs : List Value) : PyProof.Rows.KeyKind where
  toKeyOrd := PyProof.Rows.strKind.toKeyOrd
  keyOf v := open Classical in if q : ∃ x, v ∈ vs ∧ PairT h v x then some q.choose.cps.toList else none
  dflt := ([] : List Nat)
theorem pairKind_some {h : PySem.Heap} {vs : List Value} {v : Value} {x : Str} (hv : v ∈ vs) (p : PairT h v x) : (pairKind h vs).keyOf v = some x.cps.toList := by
  have q : ∃ x, v ∈ vs ∧ PairT h v x := ⟨x, hv, p⟩
  show (open Classical in if q : ∃ x, v ∈ vs ∧ PairT h v x then some q.choose.cps.toList else none) = _
  rw [dif_pos q, q.choose_spec.2.unique p]
theorem pairKind_inv {h : PySem.Heap} {vs : List Value} {v : Value} {k : List Nat} (e : (pairKind h vs).keyOf v = some k) : ∃ x, v ∈ vs ∧ PairT h v x ∧ k = x.cps.toList := by
  by_cases q : ∃ x, v ∈ vs ∧ PairT h v x
  · have e' : (pairKind h vs).keyOf v = some q.choose.cps.toList := by
      show (open Classical in if q : ∃ x, v ∈ vs ∧ PairT h v x then some q.choose.cps.toList else none) = _
      rw [dif_pos q]
    rw [e'] at e
    exact ⟨q.choose, q.choose_spec.1, q.choose_spec.2, (Option.some.inj e).symm⟩
  · have e' : (pairKind h vs).keyOf v = none := by
      show (open Classical in if q : ∃ x, v ∈ vs ∧ PairT h v x then some q.choose.cps.toList else none) = _
      rw [dif_neg q]
      rfl
    rw [e'] at e
    exact absurd e (by simp)
section
variable {prog : Program} {w : World} {A : Around} {E : Value → Shared → Prop} {s : Shared}
theorem eqBool_self {p : Value} {Q : Bool → Shared → Prop} (h : Q true s) : wpAny (model prog w) A (eqBool p p) Q E s := by
  unfold eqBool
  refine wpAny_holding ?_
  show wpAny _ _ (if (p == p) = true then _ else _) Q E s
  rw [if_pos (beq_self_eq_true p)]
  exact wpAny_bind (wpAny_rule (wpAny_pure h))
theorem firsts_pair {h : PySem.Heap} : ∀ {vs : List Value} {xs : List Str}, EachIs (fun v x => PairT h v x) vs xs → ∃ fs, KatTups h vs fs ∧ fs.length = vs.length ∧ ∀ f ∈ fs, ∃ k t, f = .str k t
  | _, _, .nil => ⟨[], KatTups.nil, rfl, fun f hf => by cases hf⟩
  | _, _, .cons r rest => by
    obtain ⟨fs, h1, h2, h3⟩ := firsts_pair rest
    obtain ⟨a, o, y, t, n, rfl, g1, g2, g3⟩ := r
    rename_i x _ _
    refine ⟨.str x t :: fs, KatTups.cons g1 g2 g3 rfl h1, by rw [List.length_cons, List.length_cons, h2], fun g hg => ?_⟩
    rcases List.mem_cons.mp hg with rfl | hg
    · exact ⟨_, _, rfl⟩
    · exact h3 g hg
theorem each_get {α β : Type} {R : α → β → Prop} : ∀ {as : List α} {bs : List β}, EachIs R as bs → ∀ {a}, a ∈ as → ∃ (i : Nat) (b : β), as[i]? = some a ∧ bs[i]? = some b ∧ R a b
  | _, _, .nil, _, h => by cases h
  | _, _, .cons (a := a0) (b := b0) r t, a, h => by
    rcases List.mem_cons.mp h with rfl | h
    · exact ⟨0, b0, rfl, rfl, r⟩
    · obtain ⟨i, b, h1, h2, h3⟩ := each_get t h
      exact ⟨i + 1, b, by simpa using h1, by simpa using h2, h3⟩
theorem sortsAt_pair {vs : List Value} {xs : List Str} (e : EachIs (fun v x => PairT s.heap v x) vs xs) (nd : xs.Nodup) : SortsAt prog w A s (pairKind s.heap vs) vs := by
  refine ⟨fun v hv => ?_, tuples' true, ?_, fun h2 E Q hq => ?_⟩
  · obtain ⟨i, x, _, _, p⟩ := each_get e hv
    exact ⟨_, pairKind_some hv p⟩
  · intro E x y a b Q ha hb hq
    obtain ⟨nx, mx, px, rfl⟩ := pairKind_inv ha
    obtain ⟨ny, my, py, rfl⟩ := pairKind_inv hb
    have hq' : Q (decide (nx.cps.toList < ny.cps.toList)) s := hq
    by_cases en : nx = ny
    · subst en
      have exy : x = y := by
        obtain ⟨i, z, h1, h2, h3⟩ := each_get e mx
        obtain ⟨j, z', k1, k2, k3⟩ := each_get e my
        have := h3.unique px
        have := k3.unique py
        subst z z'
        have hij : i = j := by
          obtain ⟨l1, g1⟩ := List.getElem?_eq_some_iff.mp h2
          obtain ⟨l2, g2⟩ := List.getElem?_eq_some_iff.mp k2
          exact (List.getElem_inj nd).mp (g1.trans g2.symm)
        subst hij
        rw [h1] at k1
        exact Option.some.inj k1
      subst exy
      obtain ⟨l, o, u, t, n, rfl, h1, _, h3⟩ := px
      rw [show decide (nx.cps.toList < nx.cps.toList) = false from decide_eq_false (List.lt_irrefl _)] at hq'
      refine kat_lt h1 h3 h1 h3 ?_
      refine kat_cons (eqBool_self (kat_go (fun _ => ?_) fun z => by cases z))
      refine kat_yes (kat_cons (eqBool_self (kat_go (fun _ => ?_) fun z => by cases z)))
      exact kat_yes (kat_nil (by simpa using hq'))
    · obtain ⟨l, o, u, t, n, rfl, h1, _, h3⟩ := px
      obtain ⟨l', o', u', t', n', rfl, k1, _, k3⟩ := py
      refine kat_lt h1 h3 k1 k3 ?_
      refine kat_cons (PyProof.Rows.eqBool_str (kat_go (fun e1 => ?_) fun e1 => ?_))
      · exact absurd (by simpa using e1) en
      · exact kat_no (PyProof.Rows.oneLt_str hq')
  · obtain ⟨fs, t1, t2, t3⟩ := firsts_pair e
    refine kat_kind (T := .type "str") t1 (by omega) (fun f hf => ?_) (beq_self_eq_true _) ?_
    · obtain ⟨k, t, rfl⟩ := t3 f hf
      exact Looks.of_pure rfl
    · have e : (Value.type "str" != Value.type "tuple") = true := by first | decide +kernel | rfl | decide
      rw [e]; exact hq
end
end EV
end
section
set_option Elab.async false
set_option linter.all false
set_option maxRecDepth 100000
/-! Ev37: the rule of sorted(d.items()). -/
namespace EV
open PySem PySem.Spec PySem.W PySem.Calls PyProof.Rows L2
section
variable {X : Cx}
/-- new pairs at as, a new list of them in another order at S -/
theorem pairs_laidP {pins : List (Addr × Obj)} {σ : L2.St} {H : Hp} {s : Shared} {h' : PySem.Heap} {tk : Nat} {ps : List (V × V)} {S : Nat} {acc : Array Value} {c : Nat} {as as' : List Addr} (I : Inv X pins σ H s) (hz : ps.length ≤ sizeLine) (hSs : s.heap.objs.size ≤ S) (ab : ∀ t ∈ as, s.heap.objs.size ≤ t) (hSn : S ∉ as) (nd : as.Nodup)
    (hk : ∀ b o, s.heap.get? b = some o → h'.get? b = some o) (hS : h'.get? S = some { cls := .type "list", dict := none, data := .seq acc c, slots := #[] }) (hl : as.length = ps.length) (hG : ∀ (j : Nat) (t : Addr), as[j]? = some t → ∃ x y, (∃ p, ps[j]? = some p ∧ RelV p.1 x ∧ RelV p.2 y) ∧ h'.get? t = some { cls := .type "tuple", data := .seq #[x, y] }) (hacc : acc.toList = as'.map Value.ref) (hl' : as'.length = as.length) :
    ∃ H' : Hp, (∀ b o, H b = some o → H' b = some o) ∧ H S = none ∧ (∀ t ∈ as, H t = none) ∧ S ∉ as ∧ H' S = some (.lst (as'.map V.ref)) ∧ Paired (FzP H') as ps ∧ Inv X pins σ H' { s with heap := h', toks := tk } := by
  have new : ∀ t ∈ as, H t = none := fun t ht => I.hok.fresh (ab t ht)
  have newS : H S = none := I.hok.fresh hSs
  let ob : Addr → Obj := fun a => (h'.get? a).getD default
  have atP := putP_at (ob := ob) as ps (upd H S (.lst (as'.map V.ref))) hl nd
  have off : ∀ b, b ∉ as → b ≠ S → putP ob (upd H S (.lst (as'.map V.ref))) as ps b = H b := fun b h1 h2 => by rw [putP_off as ps _ h1, upd_ne h2]
  have low : ∀ b o, s.heap.get? b = some o → b ∉ as ∧ b ≠ S := fun b o e => ⟨fun z => absurd (Heap.lt_size e) (Nat.not_lt.mpr (ab b z)), Nat.ne_of_lt (Nat.lt_of_lt_of_le (Heap.lt_size e) hSs)⟩
  have kp : ∀ b u, H b = some u → (putP ob (upd H S (.lst (as'.map V.ref))) as ps) b = some u := fun b u e => by
    rw [off b (fun z => by rw [new b z] at e; cases e) (fun z => by rw [z, newS] at e; cases e)]
    exact e
  have eS : putP ob (upd H S (.lst (as'.map V.ref))) as ps S = some (.lst (as'.map V.ref)) := by rw [putP_off as ps _ hSn, upd_same]
  refine ⟨putP ob (upd H S (.lst (as'.map V.ref))) as ps, kp, newS, new, hSn, eS, ?_, ?_⟩
  · have ga : ∀ t ∈ as, (ob t).dict = none := fun t ht => by
      obtain ⟨j, hj⟩ := List.mem_iff_getElem?.mp ht
      obtain ⟨x, y, _, f4⟩ := hG j t hj
      show ((h'.get? t).getD default).dict = none
      rw [f4]
      rfl
    have : ∀ {as' : List Addr} {ps' : List (V × V)} {P : Addr → V × V → Prop} {H2 : Hp}, Paired P as' ps' → (∀ t ∈ as', ∀ q, P t q → FzP H2 t q) → Paired (FzP H2) as' ps' := fun h w => paired_map h w
    exact this atP fun t ht q e => ⟨ob t, e, ga t ht⟩
  refine I.call' (ch := []) rfl ⟨fun b o q _ _ _ => hk b o q, fun b o q _ _ _ => ⟨o.slots, hk b o q⟩, fun b o q n _ => ?_, fun b o q _ => ⟨o, hk b o q⟩, fun b xs q => kp b _ q, fun b o u q => kp b _ q, fun b ps q => ⟨#[], by rw [kp b _ q]; simp⟩⟩ (fun b u q => ?_) I.bare fun b z => by simp at z
  · obtain ⟨z1, z2⟩ := low b o q
    rw [off b z1 z2]
    exact n
  · by_cases hb : b ∈ as
    · obtain ⟨j, pk, e1, e2, e3⟩ := LiI.paired_ix atP hb
      rw [e3] at q
      cases q
      obtain ⟨x, y, ⟨p', f1, f2, f3⟩, f4⟩ := hG j b e1
      rw [e2] at f1
      cases f1
      have eo : ob b = { cls := .type "tuple", data := .seq #[x, y] } := by show (h'.get? b).getD default = _; rw [f4]; rfl
      rw [eo]
      exact ⟨f4, by show 2 ≤ sizeLine; decide, [x, y], .cons f2 (.cons f3 .nil), ⟨_, f4, rfl, _, rfl⟩⟩
    · by_cases hb2 : b = S
      · rw [hb2] at q ⊢
        rw [eS] at q
        cases q
        refine ⟨by rw [List.length_map]; omega, acc.toList, c, by rw [hacc]; exact LiI.vals_refs as', ?_⟩
        rw [Array.toArray_toList]
        exact hS
      · rw [off b hb hb2] at q
        exact (I.hok b u q).stay (fun d v _ y => hk d v y) (fun d y => kp d _ y) fun d xs y => kp d _ y
/-- what sorted(d.items()) wants of a dict -/
def rItemsS : V → Hp → VK → Prop := fun x H Q => ∃ (d : Addr) (kvs : List (Key × V)) (ks : List Str), x = .ref d ∧ H d = some (.dK kvs) ∧ kvs.map (·.1) = ks.map Sum.inr ∧
  ∀ (H' : Hp) (p : Addr) (ts : List Addr), ts.length = kvs.length → (∀ b o, H b = some o → H' b = some o) → H p = none → (∀ t ∈ ts, H t = none) → p ∉ ts → H' p = some (.lst (((ts.zip ks).mergeSort fun a b => leT a.2 b.2).map fun z => V.ref z.1)) → Paired (FzP H') ts (kvs.map fun q => (kV q.1, q.2)) → Q (.ref p) H'
theorem leT_sort : (fun (a b : Addr × Str) => leT a.2 b.2) = sortLe PyProof.Rows.strKind.toKeyOrd false fun z : Addr × Str => z.2.cps.toList := by
  funext a b
  exact (PySem.W.not_lt_str _ _).symm
theorem pe_sortItems {e : Expr} {te : TE} {p apos cpos pos : Pos} (hc : X.calm = true) (he : PE X e te) (hg : Gl X "sorted") (hm : X.mg "sorted" = none) (hbase : attributeBase e "items" X.env (eval e X.env) = eval e X.env) (hline : (apos.endLine == cpos.line) = true) :
    PE X (.Call (.Name "sorted" p) [.Call (.Attribute e "items" apos) [] [] cpos] [] pos) (fun σ H Q => te σ H fun x H1 => rItemsS x H1 Q) := by
  refine ⟨fun pins s σ H Q I hq => ?_⟩
  have hs : starEach [.Call (.Attribute e "items" apos) [] [] cpos] X.env = (false, eval (.Call (.Attribute e "items" apos) [] [] cpos) X.env) :: starEach [] X.env := rfl
  refine wpAny_Call_Name_kw (ld_blt I hg hm (u := .builtin "sorted") (by kernel_rfl) ?_)
  refine PyProof.Rows.callWith_builtin1 ?_ hs rfl
  rw [hs]
  show wpAny _ _ (spliced ((false, eval (.Call (.Attribute e "items" apos) [] [] cpos) X.env) :: backTo pos (starEach [] X.env))) _ _ s
  refine Calls.spliced_cons ?_
  refine wpAny_Call_method (T := "dict") (id := "dict.items") hbase rfl hline F.plainAttrs_dict F.slot_dict_items F.type_dict_items (thn (he.run pins s σ H _ I hq) fun u s1 ⟨x, H1, I1, rx, d, kvs, ks, ex, hd, hks, q⟩ => ?_)
  subst ex
  obtain rfl : u = Value.ref d := rx
  obtain ⟨hz, hs0, vs, kv, hdo⟩ := I1.hok d _ hd
  obtain ⟨ep, hat⟩ := hdo.dictAt
  have lk : kvs.length = vs.length := Paired.length kv
  have I2 : Inv X pins σ H1 { s1 with heap := s1.heap.push { cls := .type "dict_items", data := .fields #[.ref d] } } := I1.kept (t' := s1.toks) fun b ob q => Heap.get?_push_of_some _ q
  refine ⟨hdo.typeIs, hdo.mapOf.noDict, ?_⟩
  show wpAny _ _ (callWith cpos (.builtin "dict.items") [.ref d] [] []) _ X.xe s1
  refine method_meetsIn F.slot_dict_items F.entry_dict_items rfl (PySem.evalArgs_none ⟨rfl, hdo.typeIs, F.args_dict_items_1 _, _, meets_dict_items (mixKind X.prog X.w) d hs0, ⟨vs, hdo⟩, ?_⟩)
  refine Calls.spliced_nil ?_
  obtain ⟨o, es, ho, hx, hdat, hkeys, hpairs, hnd⟩ := id hat
  have esz : es.size = vs.length := by rw [← Array.length_toList]; exact hpairs.length
  have rawP : DT.Raw (s1.heap.push { cls := .type "dict_items", data := .fields #[.ref d] }) d es ep := ⟨o, Heap.get?_push_of_some _ ho, hx, hdat⟩
  refine DT.sortedI (s := { s1 with heap := s1.heap.push { cls := .type "dict_items", data := .fields #[.ref d] } }) (es := es) (ep := ep) (r := s1.heap.objs.size) (I1.ok.hd hc) ⟨_, Heap.get?_push_size _ rfl, rfl, rfl⟩ rawP (by omega) fun h' tk as hk hlt hl hG => ?_
  have lkk : ks.length = kvs.length := by
    have := congrArg List.length hks
    simpa using this.symm
  have pw : as.Pairwise (· < ·) := hG.rise
  have nd : as.Nodup := pw.imp fun h => Nat.ne_of_lt h
  -- the pairs
  have pr : ∀ (j : Nat) (t : Addr), as[j]? = some t → ∃ (x : Str) (tk : Tok) (y : Value) (qv : Key × V), ks[j]? = some x ∧ kvs[j]? = some qv ∧ qv.1 = Sum.inr x ∧ RelV qv.2 y ∧ h'.get? t = some { cls := .type "tuple", data := .seq #[.str x tk, y] } := by
    intro j t hj
    obtain ⟨en, he2, hg2⟩ := hG.pairs j t hj
    have hjl : j < kvs.length := by
      have := (List.getElem?_eq_some_iff.mp hj).1
      omega
    obtain ⟨kv1, hkv1⟩ : ∃ z, vs[j]? = some z := ⟨_, List.getElem?_eq_getElem (by omega)⟩
    obtain ⟨qv, hqv⟩ : ∃ z, kvs[j]? = some z := ⟨_, List.getElem?_eq_getElem hjl⟩
    obtain ⟨x, hxx⟩ : ∃ z, ks[j]? = some z := ⟨_, List.getElem?_eq_getElem (by omega)⟩
    have e1 : (kvs.map (·.1))[j]? = some qv.1 := by rw [List.getElem?_map, hqv]; rfl
    rw [hks, List.getElem?_map, hxx] at e1
    have e1 : Sum.inr x = qv.1 := Option.some.inj e1
    obtain ⟨qv', g1, g2, g3⟩ := LiI.paired_get kv hqv
    rw [hkv1] at g1
    cases g1
    have pk := Pairs.get? hpairs (i := j) (e := en) (k := kv1.1) (v := kv1.2) (by rw [Array.getElem?_toList]; exact he2) hkv1
    have rk : RelV (kV qv.1) en.key := by
      rw [g2]
      exact relV_key (show L2.keyIs kv1.1 en.key = true from pk.1)
    rw [← e1] at rk
    obtain ⟨tk1, ek⟩ := rk
    refine ⟨x, tk1, en.val, qv, hxx, hqv, e1.symm, ?_, ?_⟩
    · rw [pk.2]; exact g3
    · rw [hg2, ek]
  -- the sort
  have hoL : (h'.push { cls := .type "list", data := .seq (as.map Value.ref).toArray }).get? h'.objs.size = some (seqObj "list" (as.map Value.ref).toArray 0) := Heap.get?_push_size _ rfl
  have ka : ∀ b o, h'.get? b = some o → (h'.push { cls := .type "list", data := .seq (as.map Value.ref).toArray }).get? b = some o := fun b o e => Heap.get?_push_of_some _ e
  have kz : (as.map Value.ref).length ≤ sizeLine := by rw [List.length_map]; omega
  have lt0 : ∀ b o, h'.get? b = some o → b ≠ h'.objs.size := fun b o e => Nat.ne_of_lt (Heap.lt_size e)
  have each : ∀ (as0 : List Addr) (ks0 : List Str), as0.length = ks0.length → (∀ (j : Nat) (t : Addr) (x : Str), as0[j]? = some t → ks0[j]? = some x → PairT (sortingHeap (h'.push { cls := .type "list", data := .seq (as.map Value.ref).toArray }) h'.objs.size (as.map Value.ref)) (.ref t) x) →
      EachIs (fun v x => PairT (sortingHeap (h'.push { cls := .type "list", data := .seq (as.map Value.ref).toArray }) h'.objs.size (as.map Value.ref)) v x) (as0.map Value.ref) ks0 := by
    intro as0
    induction as0 with
    | nil => intro ks0 h _; cases ks0 with
      | nil => exact .nil
      | cons _ _ => cases h
    | cons a as0 ih => intro ks0 h w; cases ks0 with
      | nil => cases h
      | cons k ks0 => exact .cons (w 0 a k rfl rfl) (ih ks0 (Nat.succ.inj h) fun j t x h1 h2 => w (j + 1) t x (by simpa using h1) (by simpa using h2))
  have eI := each as ks (by omega) fun j t x h1 h2 => by
    obtain ⟨x', tk1, y, qv, k1, _, _, _, k5⟩ := pr j t h1
    rw [h2] at k1
    cases k1
    exact ⟨t, _, y, tk1, 0, rfl, sortingHeap_old (lt0 _ _ k5) (ka _ _ k5), rfl, rfl⟩
  have kn : ks.Nodup := by
    have h1 : (kvs.map (·.1)).Nodup := by
      have e : kvs.map (·.1) = vs.map (·.1) := by
        apply List.ext_getElem?
        intro j
        rw [List.getElem?_map, List.getElem?_map]
        cases hj : kvs[j]? with
        | none =>
          have : vs[j]? = none := List.getElem?_eq_none_iff.mpr (by have := List.getElem?_eq_none_iff.mp hj; omega)
          rw [this]; rfl
        | some qv =>
          obtain ⟨qv', g1, g2, _⟩ := LiI.paired_get kv hj
          rw [g1]
          exact congrArg some g2
      rw [e]; exact hnd
    rw [hks] at h1
    exact List.Pairwise.of_map (Sum.inr : Str → Key) (fun a b hne e => hne (congrArg _ e)) h1
  refine wpAny_call_entry slot_list_sort ⟨_, hoL, rfl⟩ entry_list_sort (list_sort_vals hoL (sortsAt_pair eI kn) kz ⟨_, rfl, ?_⟩) (args_list_sort _)
  have zr : ∀ (as0 : List Addr) (ks0 : List Str), as0.length = ks0.length → EachIs (fun (v : Value) (z : Addr × Str) => v = .ref z.1) (as0.map Value.ref) (as0.zip ks0) := by
    intro as0
    induction as0 with
    | nil => intro ks0 _; exact .nil
    | cons a as0 ih => intro ks0 h; cases ks0 with
      | nil => cases h
      | cons k ks0 => exact .cons rfl (ih ks0 (Nat.succ.inj h))
  have zk : ∀ (vs0 : List Value) (as0 : List Addr) (ks0 : List Str), as0.length = ks0.length → EachIs (fun v x => (pairKind (sortingHeap (h'.push { cls := .type "list", data := .seq (as.map Value.ref).toArray }) h'.objs.size (as.map Value.ref)) (as.map Value.ref)).keyOf v = some x.cps.toList) vs0 ks0 → EachIs (fun (v : Value) (z : Addr × Str) => (pairKind (sortingHeap (h'.push { cls := .type "list", data := .seq (as.map Value.ref).toArray }) h'.objs.size (as.map Value.ref)) (as.map Value.ref)).keyOf v = some z.2.cps.toList) vs0 (as0.zip ks0) := by
    intro vs0
    induction vs0 with
    | nil => intro as0 ks0 h e
             cases e
             cases as0 with
             | nil => exact .nil
             | cons _ _ => cases h
    | cons v vs0 ih => intro as0 ks0 h e
                       cases e with
                       | cons r t =>
                         cases as0 with
                         | nil => cases h
                         | cons a as0 => exact .cons r (ih as0 _ (Nat.succ.inj h) t)
  have keys : ∀ (vs0 : List Value) (ks0 : List Str), (∀ v ∈ vs0, v ∈ as.map Value.ref) → EachIs (fun v x => PairT (sortingHeap (h'.push { cls := .type "list", data := .seq (as.map Value.ref).toArray }) h'.objs.size (as.map Value.ref)) v x) vs0 ks0 → EachIs (fun v x => (pairKind (sortingHeap (h'.push { cls := .type "list", data := .seq (as.map Value.ref).toArray }) h'.objs.size (as.map Value.ref)) (as.map Value.ref)).keyOf v = some x.cps.toList) vs0 ks0 := by
    intro vs0 ks0 hm e
    induction e with
    | nil => exact .nil
    | cons r t ih => exact .cons (pairKind_some (hm _ (List.mem_cons_self ..)) r) (ih fun v hv => hm v (List.mem_cons_of_mem _ hv))
  have eS := sortVals_each (κ := pairKind (sortingHeap (h'.push { cls := .type "list", data := .seq (as.map Value.ref).toArray }) h'.objs.size (as.map Value.ref)) (as.map Value.ref)) (rev := false) (fun z : Addr × Str => z.2.cps.toList) (zr as ks (by omega)) (zk (as.map Value.ref) as ks (by omega) (keys _ _ (fun v hv => hv) eI))
  have eR : ∀ {us : List Value} {zs : List (Addr × Str)}, EachIs (fun (v : Value) (z : Addr × Str) => v = .ref z.1) us zs → us = (zs.map (·.1)).map Value.ref := by
    intro us zs e
    induction e with
    | nil => rfl
    | cons r t ih => rw [List.map_cons, List.map_cons, r, ih]
  have eL := eR eS
  rw [show (sortLe (pairKind (sortingHeap (h'.push { cls := .type "list", data := .seq (as.map Value.ref).toArray }) h'.objs.size (as.map Value.ref)) (as.map Value.ref)).toKeyOrd false fun z : Addr × Str => z.2.cps.toList) = (fun (a b : Addr × Str) => leT a.2 b.2) from leT_sort.symm] at eL
  generalize sortVals (pairKind (sortingHeap (h'.push { cls := .type "list", data := .seq (as.map Value.ref).toArray }) h'.objs.size (as.map Value.ref)) (as.map Value.ref)) false (as.map Value.ref) (as.map Value.ref) = out at eL
  obtain ⟨c, hc⟩ := sortedHeap_at (vs := as.map Value.ref) (out := out.toArray) hoL
  have old : ∀ b o, h'.get? b = some o → (sortedHeap (h'.push { cls := .type "list", data := .seq (as.map Value.ref).toArray }) h'.objs.size (as.map Value.ref) out.toArray).get? b = some o := fun b o e => by
    have hlt := Heap.lt_size e
    rw [sortedHeap_old (Nat.ne_of_lt hlt) (by rw [size_push']; exact Nat.lt_succ_of_lt hlt)]
    exact Heap.get?_push_of_some _ e
  have hlen : (((as.zip ks).mergeSort fun a b => leT a.2 b.2).map (·.1)).length = as.length := by
    rw [List.length_map, List.length_mergeSort, List.length_zip]; omega
  obtain ⟨H', k1, k2, k3, k4, k5, k6, J⟩ := pairs_laidP (tk := tk) (ps := kvs.map fun q => (kV q.1, q.2)) (as := as) (as' := ((as.zip ks).mergeSort fun a b => leT a.2 b.2).map (·.1)) I2 (by rw [List.length_map]; exact hz) (Nat.le_of_lt hlt) (fun t ht => Nat.le_of_lt (hG.above t ht)) (fun z => by
      obtain ⟨j, hj⟩ := List.mem_iff_getElem?.mp z
      obtain ⟨_, _, _, _, _, _, _, _, h5⟩ := pr j _ hj
      exact Nat.lt_irrefl _ (Heap.lt_size h5)) nd (fun b o e => old b o (hk b o e)) hc (by rw [List.length_map]; omega) (fun j t hj => by
      obtain ⟨x, tk1, y, qv, g1, g2, g3, g4, g5⟩ := pr j t hj
      refine ⟨_, _, ⟨(kV qv.1, qv.2), by rw [List.getElem?_map, g2]; rfl, ?_, g4⟩, old _ _ g5⟩
      rw [g3]
      exact ⟨tk1, rfl⟩) (by simpa using eL) hlen
  refine ⟨.ref _, H', J, rfl, q H' _ as (by omega) k1 k2 k3 k4 ?_ k6⟩
  rw [k5, List.map_map]
  rfl
end
end EV
end
section
set_option Elab.async false
set_option linter.all false
set_option maxRecDepth 100000
/-! Ev38: sorted(d.items()), as the evaluator has it. -/
namespace EV
open PySem PySem.Spec PyProof.Rows L2
def txtK : List (Key × PV) → Option (List (Str × PV))
  | [] => some []
  | (.inr x, v) :: r => (txtK r).map ((x, v) :: ·)
  | _ => none
theorem txtK_inv : ∀ {kps : List (Key × PV)} {l : List (Str × PV)}, txtK kps = some l → kps = l.map fun q => (Sum.inr q.1, q.2)
  | [], _, h => by cases h; rfl
  | (k, v) :: r, l, h => by
    cases k with
    | inl i => cases h
    | inr x =>
      simp only [txtK] at h
      cases e : txtK r with
      | none => rw [e] at h; cases h
      | some zs => rw [e] at h; cases h; rw [txtK_inv e]; rfl
theorem txtK_map : ∀ l : List (Str × PV), txtK (l.map fun q => ((Sum.inr q.1 : Key), q.2)) = some l
  | [] => rfl
  | x :: r => by simp [txtK, txtK_map r]
/-- pairs, rising by their texts -/
def sortK (l : List (Str × PV)) : List (Str × PV) := l.mergeSort fun a b => leT a.1 b.1
def bSortItems (ob : Bool) (ps : List PV) (G : GH) : Res PV := match ps with
  | [.obj n] => match G[n]? with
    | some (.dic kps) => match txtK kps with
      | some l => mkL ob ((sortK l).map fun q => .tup [.str q.1, q.2]) G
      | none => .bad
    | _ => .bad
  | _ => .bad
section
variable {X : Cx} {F : Fx} {Ex : XK} {n : Nat}
theorem reps_maps {α : Type} {μ : Mu} {H : Hp} (f : α → PV) (h : α → V) : ∀ {bs : List α}, (∀ b ∈ bs, Rep F μ H (f b) (h b)) → Reps F μ H (bs.map f) (bs.map h)
  | [], _ => .nil
  | b :: bs, w => .cons (w b (List.mem_cons_self ..)) (reps_maps f h fun c hc => w c (List.mem_cons_of_mem _ hc))
theorem pairs_each {μ' : Mu} {H' : Hp} : ∀ {ts : List Addr} {l : List (Str × PV)} {kvs : List (Key × V)}, Paired (fun (p : Key × PV) (q : Key × V) => p.1 = q.1 ∧ Rep F μ' H' p.2 q.2) (l.map fun q => ((Sum.inr q.1 : Key), q.2)) kvs → (∀ t ∈ ts, μ'.free t) → Paired (FzP H') ts (kvs.map fun q => (kV q.1, q.2)) →
    ∀ b ∈ ts.zip l, Rep F μ' H' (.tup [.str b.2.1, b.2.2]) (.ref b.1)
  | [], l, kvs, _, _, _, b, hb => by cases hb
  | t :: ts, [], kvs, _, _, _, b, hb => by cases hb
  | t :: ts, (x, v) :: l, kvs, r, f, pr, b, hb => by
    cases r with
    | cons r1 rr =>
      rename_i q1 qs
      rw [List.map_cons] at pr
      cases pr with
      | cons h1 hh =>
        rw [List.zip_cons_cons] at hb
        rcases List.mem_cons.mp hb with rfl | hb
        · obtain ⟨e1, r2⟩ := r1
          have e1 : Sum.inr x = q1.1 := e1
          simp only [Rep]
          refine ⟨t, [kV q1.1, q1.2], rfl, by show 2 ≤ sizeLine; decide, .inl ⟨f t (List.mem_cons_self ..), h1⟩, .cons ?_ (.one r2)⟩
          rw [← e1]
          simp only [Rep]
          rfl
        · exact pairs_each rr (fun u hu => f u (List.mem_cons_of_mem _ hu)) hh b hb
theorem gsortItems (g : GX X F Ex n) (ob : Bool) {e : Expr} {p apos cpos pos : Pos} {m : Env → GH → Res PV} (hm : X.mg "sorted" = none) (ha : PE X e (TEv F Ex m)) (hg : X.env.kindOf "sorted" = some .globalImplicit := by kernel_rfl)
    (hbase : attributeBase e "items" X.env (eval e X.env) = eval e X.env := by rfl) (hline : (apos.endLine == cpos.line) = true := by kernel_rfl) :
    PE X (.Call (.Name "sorted" p) [.Call (.Attribute e "items" apos) [] [] cpos] [] pos) (TEv F Ex (mA (mCons m mNil) (bSortItems ob))) := by
  refine (pe_sortItems g.calm ha hg hm hbase hline).weak fun σ H Q ⟨μ, ρ, G, sr, gr, q⟩ => ?_
  unfold mA mCons mNil at q
  rw [Res.bind_assoc] at q
  refine TEv.run sr gr q fun μ1 a G1 v H1 e1 r1 g1 s1 p1 => ?_
  simp only [Res.bind_ok] at p1
  unfold bSortItems at p1
  split at p1
  · rename_i k hk
    cases hk
    split at p1
    · rename_i kps hkps
      split at p1
      · rename_i l hl
        have el := txtK_inv hl
        subst el
        simp only [Rep] at r1
        obtain ⟨d, rfl, hd⟩ := r1
        obtain ⟨kvs, hH, hz, rk⟩ := g1.obj _ d _ hd hkps
        have len : (l.map fun q => ((Sum.inr q.1 : Key), q.2)).length = kvs.length := Paired.length rk
        rw [List.length_map] at len
        have keys : kvs.map (·.1) = (l.map (·.1)).map Sum.inr := by
          have : ∀ {l : List (Str × PV)} {kvs : List (Key × V)}, Paired (fun (p : Key × PV) (q : Key × V) => p.1 = q.1 ∧ Rep F μ1 H1 p.2 q.2) (l.map fun q => ((Sum.inr q.1 : Key), q.2)) kvs → kvs.map (·.1) = (l.map (·.1)).map Sum.inr := by
            intro l
            induction l with
            | nil => intro kvs h; cases h; rfl
            | cons x l ih =>
              intro kvs h
              cases h with
              | cons r t =>
                have e := r.1
                rw [List.map_cons, List.map_cons, List.map_cons, ih t, ← e]
          exact this rk
        refine ⟨d, kvs, l.map (·.1), rfl, hH, keys, fun H' pp ts hlen k1 h3 h4 h5 h6 h7 => mkL_new p1 g1 k1 h3 h6 fun μ' f1 f2 f3 => ?_⟩
        have c := chg_new (F := F) (μ := μ1) k1 h3 f1 f3
        have rk' : Paired (fun (p : Key × PV) (q : Key × V) => p.1 = q.1 ∧ Rep F μ' H' p.2 q.2) (l.map fun q => ((Sum.inr q.1 : Key), q.2)) kvs := Paired.mapP rk fun _ _ x => ⟨x.1, x.2.chg c⟩
        have each := pairs_each rk' (fun t ht => f2 t (h4 t ht) fun z => h5 (z ▸ ht)) h7
        have z1 : ts.zip (l.map (·.1)) = (ts.zip l).map fun b => (b.1, b.2.1) := by
          rw [List.zip_map_right]
          rfl
        have z2 : l = (ts.zip l).map (·.2) := by
          rw [List.map_snd_zip (by omega)]
        have w1 : (ts.zip (l.map (·.1))).mergeSort (fun a b => leT a.2 b.2) = ((ts.zip l).mergeSort fun a b => leT a.2.1 b.2.1).map fun b => (b.1, b.2.1) := by
          rw [z1]
          exact (List.map_mergeSort (f := fun b : Addr × Str × PV => (b.1, b.2.1)) (r := fun a b => leT a.2.1 b.2.1) (s := fun a b => leT a.2 b.2) (fun _ _ _ _ => rfl)).symm
        have w2 : sortK l = ((ts.zip l).mergeSort fun a b => leT a.2.1 b.2.1).map (·.2) := by
          unfold sortK
          conv => lhs; rw [z2]
          exact (List.map_mergeSort (f := fun b : Addr × Str × PV => b.2) (r := fun a b => leT a.2.1 b.2.1) (s := fun a b => leT a.1 b.1) (fun _ _ _ _ => rfl)).symm
        rw [w1, w2, List.map_map, List.map_map]
        exact reps_maps _ _ fun b hb => each b ((List.mergeSort_perm _ _).mem_iff.mp hb)
      · exact (show False from p1).elim
    · exact (show False from p1).elim
  · exact (show False from p1).elim
end
end EV
end
section
set_option Elab.async false
set_option linter.all false
set_option maxRecDepth 100000
/-! Ev39: a written dict with texts as keys: x in D, D[x]. -/
namespace EV
open PySem PySem.Spec PyProof.Rows L2
def getS (kvs : List (Str × PV)) (z : Str) : Option PV := (kvs.find? fun q => decide (q.1 = z)).map (·.2)
/-- a written dict, known by its name -/
structure DctOf (K : PySem.W.Frag) (w : World) (mg : Str → Option Value) (x : Str) (kvs : List (Str × PV)) : Prop where
  ex : ∃ d es n, mg x = some (.ref d) ∧ KDict K w d es n ∧ ∀ z, match getS kvs z with
    | some p => ∃ u, PySem.W.nsIn K d z = some (some u) ∧ readB K p u = true
    | none => PySem.W.nsIn K d z = some none
section
variable {X : Cx} {F : Fx} {Ex : XK} {n : Nat}
end
end EV
end
section
set_option Elab.async false
set_option linter.all false
set_option maxRecDepth 100000
namespace G2
open PySem PySem.Spec PyProof.Rows L2 EV
/-- is_word(thing) -/
def N_is_word : List Str := ["thing", "sign"]
def b_is_word : EV.Env → GH → Res Fl := sSeq (sIf (mtOr (mtNot (mT (m1 (mVar 0) (bIsi "str")))) (mtNot (mB (m3c (mCst (.int 1)) (mA (mCons (mVar 0) (mNil)) bLen) (mCst (.int 8)) (Cop.f .le) (Cop.f .le))))) (sSeq (sRet (mCst (.bl false))) (sNext)) (sNext)) (sSeq (sRet (mA (mCons (mComp false (mSeq (mVar 0)) (gN 1) (mYes) (m2 (mVar 1) (mCst (.str "abcdefghijklmnopqrstuvwxyz")) (Cop.f .in_)) [1]) (mNil)) bAll)) (sNext))
end G2
end
section
/-! N1: words, numbers, texts, plains: what the program and the law tell of any data. -/
set_option Elab.async false
set_option linter.all false
set_option maxRecDepth 100000
namespace EV.NV
open PySem PySem.Spec PyProof.Rows L2
section
variable {G : GH} {ρ : Env}
@[simp] theorem m3c_ap {ma mb mc : Env → GH → Res PV} {f f' : List PV → GH → Res PV} : m3c ma mb mc f f' ρ G = (ma ρ G).bind fun x G1 => (mb ρ G1).bind fun y G2 => (f [x, y] G2).bind fun z G3 => (asB z G3).bind fun k G4 =>
  if k = true then (mc ρ G4).bind fun c G5 => f' [y, c] G5 else .ok (.bl false) G4 := rfl
@[simp] theorem mYes_ap : mYes ρ G = .ok true G := rfl
theorem len_str {x : Str} (h : x.cps.size ≤ 4000) : bLen [.str x] G = .ok (.int x.cps.size) G := by
  have : x.length ≤ sizeLine := by rw [size_line]; show x.cps.size ≤ _; omega
  simp only [bLen, if_pos this]; rfl
theorem seq_str {x : Str} (h : x.cps.size ≤ 4000) : seqSrc (.str x) G = .ok ⟨signs x, fun _ => true⟩ G := by
  have : x.length ≤ sizeLine := by rw [size_line]; show x.cps.size ≤ _; omega
  simp only [seqSrc, if_pos this]
/-- one sign -/
def sg (c : Nat) : PV := .str ⟨#[c]⟩
theorem signs_eq (x : Str) : signs x = x.cps.toList.map sg := rfl
def inS (c : Nat) (y : Str) : Bool := decide (c ∈ y.cps.toList)
@[simp] theorem in_sg (c : Nat) (y : Str) : Cop.in_.f [sg c, .str y] G = .ok (.bl (inS c y)) G := rfl
@[simp] theorem notin_sg (c : Nat) (y : Str) : Cop.notin.f [sg c, .str y] G = .ok (.bl (!inS c y)) G := rfl
theorem bools_map : ∀ bs : List Bool, bools (bs.map PV.bl) = some bs
  | [] => rfl
  | b :: bs => by simp [bools, bools_map bs]
theorem all_bl {α : Type} (g : α → Bool) (l : List α) : bAll [.lst (l.map fun c => .bl (g c))] G = .ok (.bl (l.all g)) G := by
  have : l.map (fun c => PV.bl (g c)) = (l.map g).map PV.bl := by simp
  rw [this]
  have e := bools_map (l.map g)
  simp only [bAll, asL, Option.bind_some, e, List.all_map]
  rfl
theorem eq_nil {ys : List PV} (h : fitXs ys = true) (d : deps ys ≤ 60) : Cop.eq.f [.lst ys, .lst []] G = .ok (.bl ys.isEmpty) G := by
  have q := fits_layX h
  have h1 : SeqAt.shaped (.list (dOfs ys)) = true := by
    simp only [SeqAt.shaped, PyData.canLay0, PyData.depth, q.1, Bool.true_and, decide_eq_true_eq]
    have := q.2.2.1
    exact decide_eq_true (by omega)
  have h2 : SeqAt.shaped (.list []) = true := by decide
  simp only [Cop.f, opEqN, eqP, scalP, toDG, toD, toDs_dat (dats_of_fitX h), toDs, Option.map_some, eqD]
  rw [if_pos ⟨h1, h2⟩]
  cases ys with
  | nil => simp [dOfs, PyData.eqv, PyData.eqvAll]
  | cons y ys => simp [dOfs, PyData.eqv, PyData.eqvAll]
end
def letB (c : Nat) : Bool := decide (97 ≤ c) && decide (c ≤ 122)
def figB (c : Nat) : Bool := decide (48 ≤ c) && decide (c ≤ 57)
def wordB : PV → Bool
  | .str x => decide (1 ≤ x.cps.size) && decide (x.cps.size ≤ 8) && x.cps.toList.all letB
  | _ => false
def textB : PV → Bool
  | .str x => decide (x.cps.size ≤ 16) && x.cps.toList.all fun c => letB c || figB c
  | _ => false
def numB : PV → Bool
  | .int _ => true
  | _ => false
def plainB (p : PV) : Bool := isInt p || textB p
/-- tells a truth of any small data -/
def SpB (w d m : Nat) (P : PV → Bool) (f : List PV → GH → Res PV) : Prop := ∀ p G, Sm w d m p → f [p] G = .ok (.bl (P p)) G
@[simp] theorem let_in (c : Nat) : inS c "abcdefghijklmnopqrstuvwxyz" = letB c := by
  unfold inS
  have e : ("abcdefghijklmnopqrstuvwxyz" : Str).cps.toList = [97, 98, 99, 100, 101, 102, 103, 104, 105, 106, 107, 108, 109, 110, 111, 112, 113, 114, 115, 116, 117, 118, 119, 120, 121, 122] := by decide +kernel
  rw [e, letB, ← Bool.decide_and, decide_eq_decide]
  simp only [List.mem_cons, List.not_mem_nil, or_false]
  omega
@[simp] theorem fig_in (c : Nat) : inS c "0123456789" = figB c := by
  unfold inS
  have e : ("0123456789" : Str).cps.toList = [48, 49, 50, 51, 52, 53, 54, 55, 56, 57] := by decide +kernel
  rw [e, figB, ← Bool.decide_and, decide_eq_decide]
  simp only [List.mem_cons, List.not_mem_nil, or_false]
  omega
@[simp] theorem letfig_in (c : Nat) : inS c "abcdefghijklmnopqrstuvwxyz0123456789" = (letB c || figB c) := by
  have e : ("abcdefghijklmnopqrstuvwxyz0123456789" : Str).cps.toList = ("abcdefghijklmnopqrstuvwxyz" : Str).cps.toList ++ ("0123456789" : Str).cps.toList := by decide +kernel
  rw [← let_in, ← fig_in]
  unfold inS
  rw [e, ← Bool.decide_or, decide_eq_decide, List.mem_append]
theorem le_sg (c : Nat) : (decide (("a" : Str).cps.toList ≤ [c]) && decide ([c] ≤ ("z" : Str).cps.toList)) = letB c := by
  have e : ("a" : Str).cps.toList = [97] := by decide +kernel
  have e2 : ("z" : Str).cps.toList = [122] := by decide +kernel
  rw [e, e2, letB, ← Bool.decide_and, ← Bool.decide_and, decide_eq_decide]
  have h : ∀ a b : Nat, ([a] ≤ [b] ↔ a ≤ b) := fun a b => by
    rw [← List.not_lt, List.cons_lt_cons_iff]
    simp
  rw [h, h]
theorem sz_of {w d m : Nat} {x : Str} (h : Sm w d m (.str x)) : x.cps.size ≤ 4000 := by
  have := h.f
  simp only [fitX, Bool.and_eq_true, decide_eq_true_eq] at this
  exact this.2
theorem num_sp {w d m : Nat} : SpB w d m numB (defV 1 GN.N_is_number GN.b_is_number) := by
  intro p G h
  have hd := h.dat
  cases p <;> simp [defV, GN.b_is_number, GN.N_is_number, env0, hd, isi_int hd, isi_bool hd, isInt, isBl, numB, trim_same]
/-- a comprehension over the signs of a text -/
theorem loop_sg {f : PV → GH → Res (Option PV)} {h : Nat → Option PV} {gd : GH → Bool} {G : GH} (hg : gd G = true) (x : Str) (e : ∀ c ∈ x.cps.toList, f (sg c) G = .ok (h c) G) : loopC f gd (signs x) G = .ok (x.cps.toList.filterMap h) G := by
  rw [signs_eq]
  generalize x.cps.toList = l at e ⊢
  induction l with
  | nil => simp [loopC, hg]
  | cons c l ih =>
    have e1 := e c (List.mem_cons_self ..)
    have e2 := ih fun y hy => e y (List.mem_cons_of_mem _ hy)
    simp only [List.map_cons, loopC, hg, if_true, e1, e2, Res.bind_ok, List.filterMap_cons]
    cases h c <;> rfl
theorem fm_some {α β : Type} (g : α → β) : ∀ l : List α, l.filterMap (fun c => some (g c)) = l.map g
  | [] => rfl
  | x :: l => by rw [List.filterMap_cons, List.map_cons, fm_some g l]
theorem word_sp {w d m : Nat} : SpB w d m wordB (defV 1 G2.N_is_word G2.b_is_word) := by
  intro p G h
  have hd := h.dat
  cases p with
  | str x =>
    have hz := sz_of h
    have l1 := len_str (G := G) hz
    have s1 := seq_str (G := G) hz
    have c1 := loop_sg (f := compF (gN 1) mYes (m2 (mVar 1) (mCst (.str "abcdefghijklmnopqrstuvwxyz")) (Cop.f .in_)) [1] [some (.str x), none]) (h := fun c => some (.bl (letB c))) (gd := fun _ => true) (G := G) rfl x fun c _ => by
      simp [compF, wipeE, noX]
    rw [fm_some] at c1
    by_cases h1 : (1 : Int) ≤ (x.cps.size : Int)
    · by_cases h2 : (x.cps.size : Int) ≤ 8
      · have k1 : 1 ≤ x.cps.size := by omega
        have k2 : x.cps.size ≤ 8 := by omega
        simp [defV, G2.b_is_word, G2.N_is_word, env0, isi_str hd, isStr, l1, h1, h2, k1, k2, mComp_ap, s1, c1, all_bl, wordB, trim_same]
      · have k2 : ¬ x.cps.size ≤ 8 := by omega
        simp [defV, G2.b_is_word, G2.N_is_word, env0, isi_str hd, isStr, l1, h1, h2, k2, wordB, trim_same]
    · have k1 : x.cps.size = 0 := by omega
      simp [defV, G2.b_is_word, G2.N_is_word, env0, isi_str hd, isStr, l1, h1, k1, wordB, trim_same]
  | _ => simp [defV, G2.b_is_word, G2.N_is_word, env0, isi_str hd, isStr, wordB, trim_same]
/-- the signs that are picked -/
def pick (P : Nat → Bool) (l : List Nat) : List PV := l.filterMap fun c => if P c = true then some (sg c) else none
theorem isEmpty_filter {α β : Type} (g : α → β) (P : α → Bool) : ∀ l : List α, (l.filterMap fun c => if P c = true then some (g c) else none).isEmpty = l.all fun c => !P c
  | [] => rfl
  | x :: l => by
    rw [List.filterMap_cons, List.all_cons, ← isEmpty_filter g P l]
    cases P x <;> simp
theorem fit_sg {x : Str} {w d m : Nat} (h : Sm w d m (.str x)) (P : Nat → Bool) : fitXs (pick P x.cps.toList) = true := by
  refine fitXs_of fun p hp => ?_
  obtain ⟨c, hc, e⟩ := List.mem_filterMap.mp hp
  have hf := h.f
  simp only [fitX, Bool.and_eq_true, PyData.strOk, Array.all_eq_true_iff_forall_mem] at hf
  have q := hf.1 c (Array.mem_toList_iff.mp hc)
  split at e
  · cases e
    simp only [sg, fitX, Bool.and_eq_true]
    exact ⟨by simpa [PyData.strOk] using q, by simp⟩
  · cases e
theorem text_sp {w d m : Nat} : SpB w d m textB (defV 1 GN.N_is_text GN.b_is_text) := by
  intro p G h
  have hd := h.dat
  cases p with
  | str x =>
    have hz := sz_of h
    have l1 := len_str (G := G) hz
    have s1 := seq_str (G := G) hz
    have c1 := loop_sg (f := compF (gN 1) mYes (mOr (m2 (mVar 1) (mCst (.str "abcdefghijklmnopqrstuvwxyz")) (Cop.f .in_)) (m2 (mVar 1) (mCst (.str "0123456789")) (Cop.f .in_))) [1] [some (.str x), none]) (h := fun c => some (.bl (letB c || figB c))) (gd := fun _ => true) (G := G) rfl x fun c _ => by
      cases h1 : letB c <;> simp [compF, wipeE, noX, h1]
    rw [fm_some] at c1
    by_cases h2 : 16 < (x.cps.size : Int)
    · have k2 : ¬ x.cps.size ≤ 16 := by omega
      simp [defV, GN.b_is_text, GN.N_is_text, env0, isi_str hd, isStr, l1, h2, k2, textB, trim_same]
    · have k2 : x.cps.size ≤ 16 := by omega
      simp [defV, GN.b_is_text, GN.N_is_text, env0, isi_str hd, isStr, l1, h2, k2, mComp_ap, s1, c1, all_bl, textB, trim_same]
  | _ => simp [defV, GN.b_is_text, GN.N_is_text, env0, isi_str hd, isStr, textB, trim_same]
theorem plain_sp {w d m : Nat} {f g} (hf : SpB w d m numB f) (hg : SpB w d m textB g) : SpB w d m plainB (defV 1 GN.N_is_plain (GN.b_is_plain f g)) := by
  intro p G h
  have hd := h.dat
  have e1 := hf p G h
  have e2 := hg p G h
  cases p <;> simp [defV, GN.b_is_plain, GN.N_is_plain, env0, isi_bool hd, isBl, e1, e2, numB, plainB, isInt, trim_same]
end EV.NV
end
section
/-! N2: values, documents: what the program and the law tell of any data. -/
set_option Elab.async false
set_option linter.all false
set_option maxRecDepth 100000
namespace EV.NV
open PySem PySem.Spec PyProof.Rows L2
def fldB (V : PV → Bool) : PV → Bool
  | .tup [a, b] => wordB a && V b
  | _ => false
def nameP : PV → Str
  | .tup (.str x :: _) => x
  | _ => Str.empty
def rise (xs : List Str) : Bool := (xs.zip xs.tail).all fun q => cltS q.1 q.2
def fldsB (V : PV → Bool) (xs : List PV) : Bool := xs.all (fldB V) && rise (xs.map nameP)
def valN : Nat → PV → Bool
  | 0, p => plainB p
  | n + 1, p => match headed "tree" p with
    | some xs => fldsB (valN n) xs
    | none => match headed "row" p with
      | some xs => xs.all (valN n)
      | none => plainB p
/-! ### names that rise -/
section
variable {G : GH}
end
def SpV (w m n : Nat) (f : List PV → GH → Res PV) : Prop := ∀ p G, Sm w n m p → f [p] G = .ok (.bl (valN n p)) G
/-! ### the law's look -/
end EV.NV
end
section
/-! M13: what comes by a step, in the program. -/
set_option Elab.async false
set_option linter.all false
set_option maxRecDepth 100000
namespace EV
open PySem PySem.Spec PyProof.Rows L2
end EV
end
section
/-! M14: what comes by a step, as the law goes. -/
set_option Elab.async false
set_option linter.all false
set_option maxRecDepth 100000
namespace EV
open PySem PySem.Spec PyProof.Rows L2
theorem fld_mem {kv : List (Str × PV)} {t : PV} (h : t ∈ kv.map fldV) : ∃ q ∈ kv, t = fldV q := by
  obtain ⟨q, hq, rfl⟩ := List.mem_map.mp h
  exact ⟨q, hq, rfl⟩
theorem word_w {w : Str} (h : w ∈ pool7) : w.cps.size ≤ 10 := by
  have t : pool7.all (fun w => decide (w.cps.size ≤ 10)) = true := by decide +kernel
  simpa using List.all_eq_true.mp t w h
theorem fm_map {α β : Type} {g : α → β} : ∀ {xs : List α}, xs.filterMap (fun t => some (g t)) = xs.map g
  | [] => rfl
  | x :: xs => by rw [List.filterMap_cons, fm_map (xs := xs)]; rfl
end EV
end
section
/-! M15: what is found, its weight. -/
set_option Elab.async false
set_option linter.all false
set_option maxRecDepth 100000
namespace EV
open PySem PySem.Spec PyProof.Rows L2
/-- markers -/
def mk (m : PV) : Prop := (∃ w, m = .str w ∧ w ∈ pool7) ∨ (∃ i : Int, m = .int i ∧ 0 ≤ i ∧ i < 1000000)
theorem deps_le {ps : List PV} {n : Nat} (h : ∀ p ∈ ps, dep p ≤ n) : deps ps ≤ n := by
  induction ps with
  | nil => simp [deps]
  | cons p ps ih =>
    simp only [deps]
    exact Nat.max_le.mpr ⟨h p (List.mem_cons_self ..), ih fun q hq => h q (List.mem_cons_of_mem _ hq)⟩
theorem cutP_sub (xs : List PV) (a b : Option Int) : (cutP xs a b).Sublist xs := by
  unfold cutP
  exact (List.take_sublist _ _).trans (List.drop_sublist _ _)
def fstV : PV → PV
  | .tup [m, _] => m
  | _ => .non
def mk1 (pl : List PV) (t : PV) : List PV × PV := (pl ++ [fstV t], sndV t)
/-- a step of all that came -/
def goS (c : PV → List PV) (F : List (List PV × PV)) : List (List PV × PV) := F.flatMap fun q => (c q.2).map (mk1 q.1)
def goA : List Stp → List (List PV × PV) → List (List PV × PV)
  | [], F => F
  | s :: ss, F => goA ss (goS s.c F)
structure okQ (n : Nat) (q : List PV × PV) : Prop where
  l : q.1.length = n
  m : ∀ m ∈ q.1, mk m
  s : Sm q.2
/-- all that is found -/
def foundA (ss : List Stp) (V : PV) : List (List PV × PV) := goA ss [([], V)]
end EV
end
section
/-! M16: found_in, _law_found. -/
set_option Elab.async false
set_option linter.all false
set_option maxRecDepth 100000
namespace EV
open PySem PySem.Spec PyProof.Rows L2
@[simp] theorem bTup_lst {ps : List PV} {G : GH} : bTup [.lst ps] G = .ok (.tup ps) G := rfl
@[simp] theorem mYes_ap {ρ : Env} {G : GH} : mYes ρ G = .ok true G := rfl
@[simp] theorem opAdd_tt {a b : List PV} {G : GH} : opAdd [.tup a, .tup b] G = if a.length + b.length ≤ sizeLine then .ok (.tup (a ++ b)) G else .bad := rfl
end EV
end
section
/-! M17: _law_found. -/
set_option Elab.async false
set_option linter.all false
set_option maxRecDepth 100000
namespace EV
open PySem PySem.Spec PyProof.Rows L2
theorem ty_last {T : GH} {a : List PV} : tyP (T ++ [.lst a]) (.obj T.length) = some "list" := by simp [tyP]
theorem trim_new {G : GH} {n : Nat} {T : GH} (h : G.length ≤ n) : trimR G (.ok (.obj n) T) = .ok (.obj n) T := by
  simp only [trimR]
  rw [if_neg]
  rintro ⟨h1, _⟩
  simp only [Bool.and_eq_true, PV.refsB, decide_eq_true_eq] at h1
  omega
end EV
end
section
/-! M18: value_at, _law_at. -/
set_option Elab.async false
set_option linter.all false
set_option maxRecDepth 100000
namespace EV
open PySem PySem.Spec PyProof.Rows L2
theorem eqv_nilL : ∀ ps : List PV, PyData.eqv (.list (dOfs ps)) (.list []) = decide (ps = [])
  | [] => by simp [dOfs, PyData.eqv, PyData.eqvAll]
  | p :: ps => by simp [dOfs, PyData.eqv, PyData.eqvAll]
theorem eqP_nilL {ps : List PV} (G : GH) (h : fitBs ps = true) (d : deps ps ≤ 60) : eqP G (.lst ps) (.lst []) = some (decide (ps = [])) := by
  have q := fits_lay h
  simp only [eqP, scalP, toDG, toD, toDs_dat (dats_of_fit h), toDs, Option.map_some, eqD]
  have h1 : SeqAt.shaped (.list (dOfs ps)) = true := by
    simp only [SeqAt.shaped, PyData.canLay0, PyData.depth, q.1, Bool.true_and]; apply decide_eq_true; omega
  have h2 : SeqAt.shaped (.list []) = true := by decide
  rw [if_pos ⟨h1, h2⟩, eqv_nilL]
theorem ne_nilL {ps : List PV} {G : GH} (h : fitBs ps = true) (d : deps ps ≤ 60) : Cop.ne.f [.lst ps, .lst []] G = .ok (.bl (!decide (ps = []))) G := by
  simp only [Cop.f, opNe, opEqN, eqP_nilL G h d]; rfl
theorem loopF_ret {f : PV → Env → GH → Res Fl} {gd : GH → Bool} {x p : PV} {xs : List PV} {ρ : Env} {G G1 : GH} (hg : gd G = true) (h : f x ρ G = .ok (.ret p) G1) : loopF f gd (x :: xs) ρ G = .ok (.ret p) G1 := by
  simp only [loopF, if_pos hg, h, Res.bind_ok]
end EV
end
section
/-! M19: places, steps. -/
set_option Elab.async false
set_option linter.all false
set_option maxRecDepth 100000
namespace EV
open PySem PySem.Spec PyProof.Rows L2
theorem cut_len (ms : List PV) (a b : Option Int) : (cutP ms a b).length ≤ ms.length := (cutP_sub ms a b).length_le
/-- steps as they are drawn -/
def Stp.sm : Stp → Prop
  | .field w => w ∈ pool7
  | .at i => 0 ≤ i ∧ i < 1000000
  | .each => True
  | .wh w p => w ∈ pool7 ∧ p ∈ leafs
end EV
end
section
/-! M20: paths as the law draws them. -/
set_option Elab.async false
set_option linter.all false
set_option maxRecDepth 100000
namespace EV
open PySem PySem.Spec PyProof.Rows L2
section
variable {fd fi fs : List PV → GH → Res PV} {cs : List Int} {a b d : Int} {R : GH} {us : List Stp}
end
end EV
end
section
/-! M21: how great documents are; environments. -/
set_option Elab.async false
set_option linter.all false
set_option maxRecDepth 100000
namespace EV
open PySem PySem.Spec PyProof.Rows L2
theorem wgts_le {ps : List PV} {k : Nat} (h : ∀ p ∈ ps, wgt p ≤ k) : wgts ps ≤ ps.length * (k + 1) := by
  induction ps with
  | nil => simp [wgts]
  | cons p ps ih =>
    have := h p (List.mem_cons_self ..)
    have := ih fun q hq => h q (List.mem_cons_of_mem _ hq)
    have e : (ps.length + 1) * (k + 1) = ps.length * (k + 1) + (k + 1) := Nat.succ_mul ..
    simp only [wgts, List.length_cons, e]
    omega
theorem leaf_w {p : PV} (h : p ∈ leafs) : wgt p ≤ 20 ∧ dep p = 0 := by
  have t : leafs.all (fun p => decide (wgt p ≤ 20) && decide (dep p = 0)) = true := by decide +kernel
  have := List.all_eq_true.mp t p h
  simpa only [Bool.and_eq_true, decide_eq_true_eq] using this
def WD : Nat → Nat
  | 0 => 20
  | n + 1 => 3 * (WD n + 13) + 6
theorem WD_ge : ∀ n, 20 ≤ WD n
  | 0 => Nat.le_refl _
  | n + 1 => by have := WD_ge n; simp only [WD]; omega
theorem row_size : ("row" : Str).cps.size = 3 ∧ ("tree" : Str).cps.size = 4 := by decide +kernel
theorem tree_wd {kv : List (Str × PV)} {k n : Nat} (h1 : ∀ q ∈ kv, q.1 ∈ pool7) (h2 : ∀ q ∈ kv, wgt q.2 ≤ k ∧ dep q.2 ≤ n) : wgt (treeV kv) ≤ kv.length * (k + 13) + 6 ∧ dep (treeV kv) ≤ n + 3 := by
  have a : wgts (kv.map fldV) ≤ (kv.map fldV).length * (k + 12 + 1) := wgts_le fun p hp => by
    obtain ⟨q, hq, rfl⟩ := fld_mem hp
    have := word_w (h1 q hq)
    have := (h2 q hq).1
    simp only [wgt, wgts]; omega
  have b : deps (kv.map fldV) ≤ n + 1 := deps_le fun p hp => by
    obtain ⟨q, hq, rfl⟩ := fld_mem hp
    have := (h2 q hq).2
    simp only [dep, deps]; omega
  rw [List.length_map, show k + 12 + 1 = k + 13 from rfl] at a
  simp only [treeV, wgt, wgts, dep, deps, row_size]
  exact ⟨by omega, by omega⟩
theorem row_wd {xs : List PV} {k n : Nat} (h2 : ∀ q ∈ xs, wgt q ≤ k ∧ dep q ≤ n) : wgt (rowV xs) ≤ xs.length * (k + 1) + 5 ∧ dep (rowV xs) ≤ n + 2 := by
  have a : wgts xs ≤ xs.length * (k + 1) := wgts_le fun p hp => (h2 p hp).1
  have b : deps xs ≤ n := deps_le fun p hp => (h2 p hp).2
  simp only [rowV, wgt, wgts, dep, deps, row_size]
  exact ⟨by omega, by omega⟩
theorem Doc.wd : ∀ {n : Nat} {p : PV}, Doc n p → wgt p ≤ WD n ∧ dep p ≤ 3 * n
  | 0, p, h => by have := leaf_w (leaf_of h); exact ⟨this.1, by omega⟩
  | n + 1, p, h => by
    have w := WD_ge n
    rcases h with h | ⟨xs, rfl, hl, h⟩ | ⟨kv, rfl, hl, h1, h2, h⟩
    · have := leaf_w (leaf_of h)
      simp only [WD]
      exact ⟨by omega, by omega⟩
    · have := row_wd fun x hx => (h x hx).wd
      have m : xs.length * (WD n + 1) ≤ 3 * (WD n + 1) := Nat.mul_le_mul_right _ hl
      simp only [WD]
      exact ⟨by omega, by omega⟩
    · have := tree_wd (fun q hq => pool67 (h2 q hq)) fun q hq => (h q hq).wd
      have m : kv.length * (WD n + 13) ≤ 3 * (WD n + 13) := Nat.mul_le_mul_right _ hl
      simp only [WD]
      exact ⟨by omega, by omega⟩
/-- values as great as a document at most -/
structure Md (V : PV) : Prop where
  s : Sm V
  w : wgt V ≤ 8000
/-- the same but at some places -/
structure Same (S : List Nat) (ρ ρ' : Env) : Prop where
  l : ρ'.length = ρ.length
  e : ∀ j, j ∉ S → ρ'[j]? = ρ[j]?
theorem Same.refl (S : List Nat) (ρ : Env) : Same S ρ ρ := ⟨rfl, fun _ _ => rfl⟩
theorem Same.set {S : List Nat} {ρ ρ' : Env} (h : Same S ρ ρ') {i : Nat} {v : Option PV} (hi : i ∈ S) : Same S ρ (ρ'.set i v) := ⟨by rw [List.length_set, h.l], fun j hj => by
  rw [List.getElem?_set_ne (fun e : i = j => hj (by rw [← e]; exact hi)), h.e j hj]⟩
theorem Same.trans {S : List Nat} {ρ ρ' ρ'' : Env} (h : Same S ρ ρ') (k : Same S ρ' ρ'') : Same S ρ ρ'' := ⟨by rw [k.l, h.l], fun j hj => by rw [k.e j hj, h.e j hj]⟩
theorem Same.mono {S T : List Nat} {ρ ρ' : Env} (h : Same S ρ ρ') (k : ∀ i ∈ S, i ∈ T) : Same T ρ ρ' := ⟨h.l, fun j hj => h.e j fun m => hj (k j m)⟩
end EV
end
section
/-! M22: the law's loops: places, paths. -/
set_option Elab.async false
set_option linter.all false
set_option maxRecDepth 100000
namespace EV
open PySem PySem.Spec PyProof.Rows L2
@[simp] theorem opAdd_ll {a b : List PV} {G : GH} : opAdd [.lst a, .lst b] G = if a.length + b.length ≤ sizeLine then .ok (.lst (a ++ b)) G else .bad := rfl
section
variable {fl fv ff fo fp fq : List PV → GH → Res PV} {V : PV}
end
end EV
end
section
/-! N3: one step otherwise at any place. -/
set_option Elab.async false
set_option linter.all false
set_option maxRecDepth 100000
namespace EV.NV
open PySem PySem.Spec PyProof.Rows L2
@[simp] theorem wq_bnd {α β : Type} (r : Res α) (f : α → GH → Res β) (Q : β → GH → Prop) : @wq β (@bnd α β r ⟨f⟩) ⟨Q⟩ = @wq α r ⟨fun a G => @wq β (f a G) ⟨Q⟩⟩ := wq_bind r f Q
theorem wq_def {np : Nat} {N : List Str} {m : EV.Env → GH → Res Fl} {ps : List PV} {G : GH} {Q : PV → GH → Prop} (hl : ps.length = np) (h : @wq Fl (m (env0 N.length ps) G) ⟨fun fl G1 => @wq PV (bodyEnd fl G1) ⟨fun v G2 => @wq PV (trimR G (.ok v G2)) ⟨Q⟩⟩⟩) : @wq PV (defV np N m ps G) ⟨Q⟩ := by
  unfold defV
  rw [if_pos hl]
  rw [← wq_bind] at h
  generalize (m (env0 N.length ps) G).bind bodyEnd = r at h ⊢
  cases r with
  | ok v G2 => rw [wq_ok] at h; exact h
  | exc => rw [wq_exc] at h; exact h.elim
  | bad => rw [wq_bad] at h; exact h.elim
section
variable {ps : List PV} {i j : Int}
theorem cut_hi (h : 0 ≤ i) : cutP ps none (some i) = ps.take i.toNat := by
  unfold cutP HT.sIx
  simp only [List.drop_zero, Nat.sub_zero]
  rw [if_neg (by omega)]
  rcases Nat.le_total i.toNat ps.length with q | q
  · rw [Nat.min_eq_left q]
  · rw [Nat.min_eq_right q, List.take_length, List.take_of_length_le q]
theorem cut_lo (h : 0 ≤ i) : cutP ps (some i) none = ps.drop i.toNat := by
  unfold cutP HT.sIx
  simp only
  rw [if_neg (by omega)]
  rcases Nat.le_total i.toNat ps.length with q | q
  · rw [Nat.min_eq_left q, List.take_of_length_le (by rw [List.length_drop]; omega)]
  · rw [Nat.min_eq_right q, List.drop_of_length_le q]; simp
end
theorem sm_tup {w d m : Nat} {qs : List PV} (h : ∀ x ∈ qs, fitX x = true ∧ dep x ≤ d ∧ lnm x ≤ m) (hw : wgts qs ≤ w) (hl : qs.length ≤ m) : Sm w (d + 1) m (.tup qs) := by
  refine ⟨by simp only [fitX]; exact fitXs_of fun x hx => (h x hx).1, by simp only [wgt]; exact hw, ?_, ?_⟩
  · have := deps_le fun x hx => (h x hx).2.1
    simp only [dep]; omega
  · have := lnms_le fun x hx => (h x hx).2.2
    simp only [lnm]; omega
theorem sm_lst {w d m : Nat} {qs : List PV} (h : ∀ x ∈ qs, fitX x = true ∧ dep x ≤ d ∧ lnm x ≤ m) (hw : wgts qs ≤ w) (hl : qs.length ≤ m) : Sm w (d + 1) m (.lst qs) := by
  refine ⟨by simp only [fitX]; exact fitXs_of fun x hx => (h x hx).1, by simp only [wgt]; exact hw, ?_, ?_⟩
  · have := deps_le fun x hx => (h x hx).2.1
    simp only [dep]; omega
  · have := lnms_le fun x hx => (h x hx).2.2
    simp only [lnm]; omega
theorem Sm.each {w d m : Nat} {ps : List PV} (h : Sm w (d + 1) m (.tup ps)) : ∀ x ∈ ps, fitX x = true ∧ dep x ≤ d ∧ lnm x ≤ m := fun x hx => let q := Sm.tup h x hx; ⟨q.f, q.d, q.m⟩
theorem Sm.ws {w d m : Nat} {ps : List PV} (h : Sm w d m (.tup ps)) : wgts ps ≤ w := by have := h.w; simpa only [wgt] using this
theorem wgts_split (ps : List PV) (k : Nat) : wgts (ps.take k) + wgts (ps.drop k) = wgts ps := by
  rw [← wgts_append, List.take_append_drop]
theorem wgts_drop_le (ps : List PV) (k : Nat) : wgts (ps.drop k) ≤ wgts ps := by have := wgts_split ps k; omega
theorem wgts_take_le (ps : List PV) (k : Nat) : wgts (ps.take k) ≤ wgts ps := by have := wgts_split ps k; omega
theorem wq_ix {ps : List PV} {i : Int} {G : GH} {Q : PV → GH → Prop} (h0 : 0 ≤ i) (h1 : i < ps.length) (k : ∀ x ∈ ps, Q x G) : @wq PV (ixR ps i G) ⟨Q⟩ := by
  obtain ⟨p, e, hp⟩ := atI_mem h0 h1
  exact wq_eq (ixR_some e) (k p hp)
theorem eq_tnil {ys : List PV} {G : GH} (h : fitXs ys = true) (d : deps ys ≤ 60) : Cop.eq.f [.tup ys, .tup []] G = .ok (.bl ys.isEmpty) G := by
  have q := fits_layX h
  have h1 : SeqAt.shaped (.tuple (dOfs ys)) = true := by
    simp only [SeqAt.shaped, PyData.canLay0, PyData.depth, q.1, Bool.true_and, decide_eq_true_eq]
    have := q.2.2.1
    exact decide_eq_true (by omega)
  have h2 : SeqAt.shaped (.tuple []) = true := by decide
  simp only [Cop.f, opEqN, eqP, scalP, toDG, toD, toDs_dat (dats_of_fitX h), toDs, Option.map_some, eqD]
  rw [if_pos ⟨h1, h2⟩]
  cases ys with
  | nil => simp [dOfs, PyData.eqv, PyData.eqvAll]
  | cons y ys => simp [dOfs, PyData.eqv, PyData.eqvAll]
end EV.NV
end
section
/-! N4: texts by draws, things beside a value. -/
set_option Elab.async false
set_option linter.all false
set_option maxRecDepth 100000
namespace EV.NV
open PySem PySem.Spec PyProof.Rows L2
theorem sm_str {x : Str} {k w d m : Nat} (h : ∀ c ∈ x.cps.toList, c < 1114112) (hl : x.cps.toList.length ≤ k) (hk : k ≤ 4000) (hw : k ≤ w) : Sm w d m (.str x) := by
  have e : x.cps.size = x.cps.toList.length := by simp
  refine ⟨?_, by simp only [wgt]; omega, by simp [dep], by simp [lnm]⟩
  simp only [fitX, Bool.and_eq_true, decide_eq_true_eq]
  refine ⟨?_, by omega⟩
  simp only [PyData.strOk, Array.all_eq_true_iff_forall_mem]
  intro c hc
  simpa using h c (Array.mem_toList_iff.mpr hc)
section
variable {G : GH}
theorem ix_str {z : Str} {i : Int} {c : Nat} (hz : z.cps.size ≤ 4000) (h : L2.atI z.cps.toList i = some c) : opIx [.str z, .int i] G = .ok (sg c) G := by
  have : z.length ≤ sizeLine := by rw [size_line]; show z.cps.size ≤ _; omega
  simp only [opIx, if_pos this, h]; rfl
theorem atI_memN {ps : List Nat} {i : Int} (h : 0 ≤ i) (k : i < ps.length) : ∃ p, L2.atI ps i = some p ∧ p ∈ ps := by
  have z : i.toNat < ps.length := by omega
  refine ⟨ps[i.toNat], ?_, List.getElem_mem z⟩
  unfold L2.atI
  rw [ixN_ok h k]
  exact List.getElem?_eq_getElem z
theorem rg_ok {i : Int} (h0 : 0 ≤ i) (h1 : i ≤ 1000000) : rgSrc [.int i] G = .ok ⟨rgIts 0 i.toNat, fun _ => true⟩ G := by
  simp only [rgSrc]; rw [if_pos ⟨by omega, by omega, by rw [size_line]; omega⟩]
end
/-- the first n numbers, walked -/
theorem rg_len (n : Nat) : (rgIts 0 n).length = n := by simp [rgIts]
@[simp] theorem wq_noX {α : Type} (r : Res α) (Q : α → GH → Prop) : @wq α (noX r) ⟨Q⟩ = @wq α r ⟨Q⟩ := by
  cases r with
  | ok a G => rfl
  | exc c fs G => rw [wq_exc]; exact wq_bad Q
  | bad => rfl
end EV.NV
end
section
/-! N5: things beside a value. -/
set_option Elab.async false
set_option linter.all false
set_option maxRecDepth 100000
namespace EV.NV
open PySem PySem.Spec PyProof.Rows L2
theorem ok1 : PyData.strOk "row" = true := by decide +kernel
theorem ok2 : PyData.strOk "tree" = true := by decide +kernel
theorem sz2 : ("tree" : Str).cps.size = 4 := by decide +kernel
theorem ok3 : PyData.strOk "rows" = true := by decide +kernel
theorem ok4 : PyData.strOk "a" = true := by decide +kernel
theorem ok5 : PyData.strOk "b" = true := by decide +kernel
theorem ok6 : PyData.strOk "A" = true := by decide +kernel
theorem ok7 : PyData.strOk "" = true := by decide +kernel
theorem wgts_rev (ps : List PV) : wgts ps.reverse = wgts ps := by
  induction ps with
  | nil => rfl
  | cons p ps ih => rw [List.reverse_cons, wgts_append, ih]; simp only [wgts]; omega
end EV.NV
end
section
/-! NS: stepping statement by statement, by what is wanted of an end. -/
set_option Elab.async false
set_option linter.all false
set_option maxRecDepth 100000
set_option maxHeartbeats 400000
namespace EV.NV
open PySem PySem.Spec PyProof.Rows L2
/-- going on with the next statement -/
def goOn (t : EV.Env → GH → Res Fl) (Q : Fl → GH → Prop) (fl : Fl) (G : GH) : Prop := match fl with
  | .next ρ => @wq Fl (t ρ G) ⟨Q⟩
  | fl => Q fl G
theorem wq_seq {s t : EV.Env → GH → Res Fl} {ρ : EV.Env} {G : GH} {Q : Fl → GH → Prop} (h : @wq Fl (s ρ G) ⟨goOn t Q⟩) : @wq Fl (sSeq s t ρ G) ⟨Q⟩ := by
  rw [sSeq_ap, wq_bind]
  refine wq_use h fun fl G1 k => ?_
  cases fl with
  | next ρ1 => exact k
  | _ => rw [wq_ok]; exact k
theorem goOn_next {t : EV.Env → GH → Res Fl} {Q : Fl → GH → Prop} {ρ : EV.Env} {G : GH} (h : @wq Fl (t ρ G) ⟨Q⟩) : goOn t Q (.next ρ) G := h
theorem wq_asg {m : EV.Env → GH → Res PV} {i : Nat} {ρ : EV.Env} {G : GH} {Q : Fl → GH → Prop} (P : PV → GH → Prop) (h : @wq PV (m ρ G) ⟨P⟩) (k : ∀ v G1, P v G1 → Q (.next (ρ.set i (some v))) G1) : @wq Fl (sAsg m (gN i) ρ G) ⟨Q⟩ := by
  rw [sAsg_ap, wq_bind]
  refine wq_use h fun v G1 hv => ?_
  rw [wq_bind, gN_ap, wq_ok, wq_ok]
  exact k v G1 hv
theorem wq_for {ms : EV.Env → GH → Res Src} {t : PV → EV.Env → GH → Res EV.Env} {b : EV.Env → GH → Res Fl} {ρ : EV.Env} {G G1 : GH} {S : Src} {Q : Fl → GH → Prop} (e : ms ρ G = .ok S G1) (h : @wq Fl (loopF (forStep t b) S.gd S.its ρ G1) ⟨Q⟩) : @wq Fl (sFor ms t b ρ G) ⟨Q⟩ := by
  rw [sFor_ap, wq_bind, e, wq_ok]; exact h
theorem rng_e {n : Int} {ρ : EV.Env} {G : GH} (h0 : 0 ≤ n) (h1 : n ≤ 1000000) : mRng (mCons (mCst (.int n)) mNil) ρ G = .ok ⟨rgIts 0 n.toNat, fun _ => true⟩ G := by
  show rgSrc [.int n] G = _
  exact rg_ok h0 h1
/-- a for over range(n) by what stays -/
theorem wq_forR {n : Int} {t : PV → EV.Env → GH → Res EV.Env} {b : EV.Env → GH → Res Fl} {ρ : EV.Env} {G : GH} {Q : Fl → GH → Prop} (I : Nat → EV.Env → GH → Prop) (k : Nat) (h0 : 0 ≤ n) (h1 : n ≤ 1000000) (hk : n.toNat = k) (hI : I 0 ρ G)
    (hs : ∀ i : Nat, i < k → ∀ j ρ G, j < k → I j ρ G → @wq Fl (forStep t b (.int (i : Int)) ρ G) ⟨fun fl G' => ∃ ρ', (fl = .next ρ' ∨ fl = .cont ρ') ∧ I (j + 1) ρ' G'⟩)
    (hq : ∀ ρ G, I k ρ G → Q (.next ρ) G) : @wq Fl (sFor (mRng (mCons (mCst (.int n)) mNil)) t b ρ G) ⟨Q⟩ := by
  refine wq_for (rng_e h0 h1) (wq_use (wq_loopF I (rgIts 0 n.toNat) 0 hI (fun _ _ _ _ => rfl) fun x hx j ρ G p1 p2 hj => ?_) fun fl G' ⟨ρ', e, hI'⟩ => ?_)
  · obtain ⟨i, hi, rfl⟩ := List.mem_map.mp hx
    have := List.mem_range.mp hi
    rw [Int.zero_add]
    rw [rg_len] at p2
    exact hs i (by omega) j ρ G (by omega) hj
  · subst e
    refine hq ρ' G' ?_
    rw [rg_len, hk, Nat.zero_add] at hI'
    exact hI'
end EV.NV
end
section
set_option Elab.async false
set_option linter.all false
set_option maxRecDepth 100000
namespace G3
open PySem PySem.Spec PyProof.Rows L2 EV
/-- _law_draw(_law_tape_here, _law_size) -/
def N__law_draw : List Str := ["_law_tape_here", "_law_size", "_law_turn", "_law_at", "_law_cell", "_law_mixed", "_law_digit"]
def b__law_draw : EV.Env → GH → Res Fl := sSeq (sAsg (m2 (m2 (mVar 0) (mCst (.int 3)) opIx) (mCst (.int 1)) opAdd) (gN 2)) (sSeq (sSet (mVar 2) (mVar 0) (mCst (.int 3)) fSetL) (sSeq (sIf (mB (m2 (m2 (mVar 0) (mCst (.int 2)) opIx) (mCst (.int 0)) (Cop.f .gt))) (sSeq (sAsg (m2 (m2 (mVar 0) (mCst (.int 2)) opIx) (mVar 1) opMod) (gN 6)) (sSeq (sSet (m2 (m2 (mVar 0) (mCst (.int 2)) opIx) (mVar 1) opDiv) (mVar 0) (mCst (.int 2)) fSetL) (sSeq (sRet (mVar 6)) (sNext)))) (sNext)) (sSeq (sAsg (m2 (mVar 0) (mCst (.int 1)) opIx) (gN 3)) (sSeq (sSet (m2 (mVar 3) (mCst (.int 1)) opAdd) (mVar 0) (mCst (.int 1)) fSetL) (sSeq (sAsg (mIf (mB (m2 (m2 (mVar 0) (mCst (.int 0)) opIx) (mA (mNil) mkLst) (Cop.f .ne))) (m2 (m2 (mVar 0) (mCst (.int 0)) opIx) (m2 (mVar 3) (mA (mCons (m2 (mVar 0) (mCst (.int 0)) opIx) (mNil)) bLen) opMod) opIx) (mCst (.int 12))) (gN 4)) (sSeq (sIf (mtAnd (mB (m2 (mVar 4) (m2 (mCst (.int 10)) (mCst (.int 18)) opPow) (Cop.f .ge))) (mB (m2 (mVar 3) (mA (mCons (m2 (mVar 0) (mCst (.int 0)) opIx) (mNil)) bLen) (Cop.f .lt)))) (sSeq (sSet (m2 (mVar 4) (mVar 1) opDiv) (mVar 0) (mCst (.int 2)) fSetL) (sSeq (sRet (m2 (mVar 4) (mVar 1) opMod)) (sNext))) (sNext)) (sSeq (sAsg (m2 (m2 (m2 (m2 (m2 (mVar 4) (mCst (.int 1000133)) opMod) (m2 (mCst (.int 5501)) (mVar 2) opMul) opAdd) (mCst (.int 67)) opAdd) (mCst (.int 5)) opPow) (mCst (.int 2147483647)) opMod) (gN 5)) (sSeq (sRet (m2 (m2 (m2 (m2 (m2 (mVar 5) (m2 (mCst (.int 90011)) (mVar 2) opMul) opAdd) (mCst (.int 5)) opPow) (mCst (.int 2147483587)) opMod) (mCst (.int 64)) opDiv) (mVar 1) opMod)) (sNext)))))))))
/-- _law_bent(_law_tape_here, _law_item, _law_menu) -/
def N__law_bent : List Str := ["_law_tape_here", "_law_item", "_law_menu", "_law_way", "_law_odd", "_law_at", "_law_some"]
def b__law_bent (f__law_bent f__law_draw : List PV → GH → Res PV) : EV.Env → GH → Res Fl := sSeq (sIf (mtAnd (mT (m1 (mVar 1) (bIsi "tuple"))) (mtAnd (mB (m2 (mVar 1) (mA (mNil) mkTup) (Cop.f .ne))) (mB (m2 (mA (mCons (mVar 0) (mCons (mCst (.int 3)) (mNil))) f__law_draw) (mCst (.int 0)) (Cop.f .gt))))) (sSeq (sAsg (mA (mCons (mVar 0) (mCons (mA (mCons (mVar 1) (mNil)) bLen) (mNil))) f__law_draw) (gN 5)) (sSeq (sRet (m2 (m2 (mSl (mVar 1) (mNoPart) (mPart (mVar 5)) opSl) (mA (mCons (mA (mCons (mVar 0) (mCons (m2 (mVar 1) (mVar 5) opIx) (mCons (mVar 2) (mNil)))) f__law_bent) (mNil)) mkTup) opAdd) (mSl (mVar 1) (mPart (m2 (mVar 5) (mCst (.int 1)) opAdd)) (mNoPart) opSl) opAdd)) (sNext))) (sNext)) (sSeq (sAsg (mA (mCons (mVar 0) (mCons (mCst (.int 9)) (mNil))) f__law_draw) (gN 3)) (sSeq (sAsg (m2 (mVar 2) (mA (mCons (mVar 0) (mCons (mA (mCons (mVar 2) (mNil)) bLen) (mNil))) f__law_draw) opIx) (gN 4)) (sSeq (sIf (mtAnd (mT (m1 (mVar 1) (bIsi "tuple"))) (mB (m2 (mVar 3) (mCst (.int 6)) (Cop.f .lt)))) (sSeq (sAsg (mA (mCons (mVar 0) (mCons (m2 (mA (mCons (mVar 1) (mNil)) bLen) (mCst (.int 1)) opAdd) (mNil))) f__law_draw) (gN 5)) (sSeq (sAsg (mA (mCons (m2 (mSl (mVar 1) (mNoPart) (mPart (mVar 5)) opSl) (mSl (mVar 1) (mPart (m2 (mVar 5) (mCst (.int 1)) opAdd)) (mNoPart) opSl) opAdd) (mCons (m2 (mSl (mVar 1) (mNoPart) (mPart (m2 (mVar 5) (mCst (.int 1)) opAdd)) opSl) (mSl (mVar 1) (mPart (mVar 5)) (mNoPart) opSl) opAdd) (mCons (m2 (mSl (mVar 1) (mPart (mVar 5)) (mNoPart) opSl) (mSl (mVar 1) (mNoPart) (mPart (mVar 5)) opSl) opAdd) (mNil)))) mkLst) (gN 6)) (sSeq (sAsg (m2 (mVar 6) (mA (mCons (mA (mCons (mVar 1) (mNil)) (bLst false)) (mCons (m2 (m2 (mSl (mVar 1) (mNoPart) (mPart (mVar 5)) opSl) (mA (mCons (mVar 4) (mNil)) mkTup) opAdd) (mSl (mVar 1) (mPart (mVar 5)) (mNoPart) opSl) opAdd) (mCons (mA (mNil) mkTup) (mNil)))) mkLst) opAdd) (gN 6)) (sSeq (sRet (m2 (mVar 6) (mVar 3) opIx)) (sNext))))) (sNext)) (sSeq (sIf (mtAnd (mT (m1 (mVar 1) (bIsi "int"))) (mtAnd (mtNot (mT (m1 (mVar 1) (bIsi "bool")))) (mB (m2 (mVar 3) (mCst (.int 7)) (Cop.f .lt))))) (sSeq (sRet (m2 (mA (mCons (m2 (mVar 1) (mCst (.int 1)) opAdd) (mCons (m2 (mVar 1) (mCst (.int 1)) opSub) (mCons (mCst (.int 0)) (mCons (m2 (mCst (.int 0)) (mVar 1) opSub) (mCons (m2 (mVar 1) (mCst (.int 1)) (Cop.f .eq)) (mCons (m2 (mVar 1) (mCst (.int 2)) opMul) (mCons (mA (mCons (mVar 1) (mNil)) bStr) (mNil)))))))) mkLst) (mVar 3) opIx)) (sNext)) (sNext)) (sSeq (sRet (mVar 4)) (sNext))))))
end G3
end
section
/-! P1: the draws of k37 to k54. -/
set_option Elab.async false
set_option linter.all false
set_option maxRecDepth 100000
namespace EV.NV
open PySem PySem.Spec PyProof.Rows L2
end EV.NV
end
section
/-! N6: the law of values by kind. -/
set_option Elab.async false
set_option linter.all false
set_option maxRecDepth 100000
namespace EV.NV
open PySem PySem.Spec PyProof.Rows L2
/-! ### documents are small -/
/-! ### the makers, as wanted -/
/-! ### one thing, looked at -/
end EV.NV
end
section
/-! PX: the greatest number within. -/
set_option Elab.async false
set_option linter.all false
set_option maxRecDepth 100000
namespace EV.NV
open PySem PySem.Spec PyProof.Rows L2
mutual
def mxi : PV → Nat
  | .int i => i.natAbs
  | .tup ps => mxis ps
  | .lst ps => mxis ps
  | .sls ps => mxis ps
  | _ => 0
def mxis : List PV → Nat
  | [] => 0
  | p :: ps => max (mxi p) (mxis ps)
end
theorem mxis_le {d : Nat} : ∀ {ps : List PV}, (∀ p ∈ ps, mxi p ≤ d) → mxis ps ≤ d
  | [], _ => by simp [mxis]
  | p :: ps, h => by
    have h1 := h p (List.mem_cons_self ..)
    have h2 := mxis_le (ps := ps) fun q hq => h q (List.mem_cons_of_mem _ hq)
    rw [mxis]; omega
theorem mxis_mem : ∀ {ps : List PV} {p : PV}, p ∈ ps → mxi p ≤ mxis ps
  | q :: ps, p, h => by
    rw [mxis]
    rcases List.mem_cons.mp h with rfl | h
    · omega
    · have := mxis_mem h; omega
theorem mxis_each {ps : List PV} {b : Nat} (h : mxi (.tup ps) ≤ b) : ∀ x ∈ ps, mxi x ≤ b := fun x hx => by
  have := mxis_mem hx
  rw [mxi] at h
  omega
theorem mxi_tup {ps : List PV} {b : Nat} (h : ∀ x ∈ ps, mxi x ≤ b) : mxi (.tup ps) ≤ b := by rw [mxi]; exact mxis_le h
theorem mxi_lst {ps : List PV} {b : Nat} (h : ∀ x ∈ ps, mxi x ≤ b) : mxi (.lst ps) ≤ b := by rw [mxi]; exact mxis_le h
/-- small data, its numbers at most nine -/
def SmI (w d m : Nat) (p : PV) : Prop := Sm w d m p ∧ mxi p ≤ 9
theorem SmI.mono {w d m w' d' m' : Nat} {p : PV} (h : SmI w d m p) (h1 : w ≤ w') (h2 : d ≤ d') (h3 : m ≤ m') : SmI w' d' m' p := ⟨h.1.mono h1 h2 h3, h.2⟩
end EV.NV
end
section
/-! P2: values, trees, moves by draws (k37 to k54) are small. -/
set_option Elab.async false
set_option linter.all false
set_option maxRecDepth 100000
namespace EV.NV
open PySem PySem.Spec PyProof.Rows L2
theorem wq_ifT {c : EV.Env → GH → Res Bool} {s t : EV.Env → GH → Res Fl} {ρ : EV.Env} {G : GH} {Q : Fl → GH → Prop} (e : c ρ G = .ok true G) (h : @wq Fl (s ρ G) ⟨Q⟩) : @wq Fl (sIf c s t ρ G) ⟨Q⟩ := by
  rw [sIf_ap, e]; exact h
theorem wq_ifF {c : EV.Env → GH → Res Bool} {s t : EV.Env → GH → Res Fl} {ρ : EV.Env} {G : GH} {Q : Fl → GH → Prop} (e : c ρ G = .ok false G) (h : @wq Fl (t ρ G) ⟨Q⟩) : @wq Fl (sIf c s t ρ G) ⟨Q⟩ := by
  rw [sIf_ap, e]; exact h
theorem wq_ret {m : EV.Env → GH → Res PV} {t : EV.Env → GH → Res Fl} {ρ : EV.Env} {G : GH} {Q : Fl → GH → Prop} (P : PV → GH → Prop) (h : @wq PV (m ρ G) ⟨P⟩) (k : ∀ v G1, P v G1 → Q (.ret v) G1) : @wq Fl (sSeq (sRet m) t ρ G) ⟨Q⟩ := by
  refine wq_seq ?_
  rw [sRet_ap, wq_bind]
  exact wq_use h fun v G1 hv => (wq_ok _ _ _).mpr (k v G1 hv)
theorem goOn_ret {t : EV.Env → GH → Res Fl} {Q : Fl → GH → Prop} {v : PV} {G : GH} (h : Q (.ret v) G) : goOn t Q (.ret v) G := h
theorem wq_next {ρ : EV.Env} {G : GH} {Q : Fl → GH → Prop} (h : Q (.next ρ) G) : @wq Fl (sNext ρ G) ⟨Q⟩ := (wq_ok _ _ _).mpr h
/-- a comprehension over range(..), by what stays -/
theorem wq_compRg {mn el : EV.Env → GH → Res PV} {v B : Nat} {own : List Nat} {ρ : EV.Env} {G : GH} {Q : PV → GH → Prop} (I : Nat → GH → Prop) (P : PV → Prop) (hB : B ≤ 1000000)
    (hm : @wq PV (mn ρ G) ⟨fun x G1 => ∃ n : Nat, x = .int n ∧ n ≤ B ∧ I 0 G1⟩)
    (hs : ∀ (i j : Nat) G, i < B → j < B → I j G → @wq PV (el ((wipeE ρ own).set v (some (.int (i : Int)))) G) ⟨fun y G' => I (j + 1) G' ∧ P y⟩)
    (hq : ∀ ys (n : Nat) G, n ≤ B → I n G → (∀ y ∈ ys, P y) → ys.length = n → Q (.lst ys) G) :
    @wq PV (mComp false (mRng (mCons mn mNil)) (gN v) mYes el own ρ G) ⟨Q⟩ := by
  have e : mComp false (mRng (mCons mn mNil)) (gN v) mYes el own ρ G = (mn ρ G).bind fun x G1 => (rgSrc [x] G1).bind fun S G1 => (loopC (compF (gN v) mYes el own ρ) S.gd S.its G1).bind fun ys G5 => .ok (.lst ys) G5 := by
    unfold mComp mRng
    show Res.bind (Res.bind (Res.bind (mn ρ G) _) _) _ = _
    cases mn ρ G <;> rfl
  rw [e, wq_bind]
  refine wq_use hm fun x G1 ⟨n, ex, hn, hI⟩ => ?_
  subst ex
  rw [rg_ok (by omega) (by omega), wq_bind, wq_ok, wq_bind]
  refine wq_use (wq_loopC1 I P (rgIts 0 (n : Int).toNat) 0 hI (fun _ _ _ => rfl) fun x hx j G p1 p2 hj => ?_) fun ys G' ⟨h1, h2, h3⟩ => ?_
  · obtain ⟨i, hi, rfl⟩ := List.mem_map.mp hx
    rw [rg_len] at p2
    have hi2 := List.mem_range.mp hi
    unfold compF
    simp only [gN_ap, wq_bind, wq_noX, wq_ok, mYes_ap, if_true]
    rw [Int.zero_add]
    exact wq_use (hs i j G (by omega) (by omega) hj) fun y G' ⟨a, b⟩ => (wq_ok _ _ _).mpr ⟨a, y, rfl, b⟩
  · rw [wq_ok]
    rw [rg_len] at h1 h3
    have t : (n : Int).toNat = n := by omega
    rw [t] at h1 h3
    rw [Nat.zero_add] at h1
    exact hq ys n G' hn h1 h2 h3
theorem sm_int {i : Int} {w d m : Nat} (h : i.natAbs < 1000) (hw : 20 ≤ w) : Sm w d m (.int i) := by
  have l : i.natAbs.log2 < 10 := by
    by_cases z : i.natAbs = 0
    · rw [z]; decide
    · exact (Nat.log2_lt z).mpr (by omega)
  exact ⟨by simp only [fitX, decide_eq_true_eq]; omega, by simp only [wgt]; omega, by simp [dep], by simp [lnm]⟩
theorem treeK_sm {kv : List (Str × PV)} {w d m c : Nat} (h : ∀ q ∈ kv, Sm w d m q.2) (hp : ∀ q ∈ kv, PyData.strOk q.1 = true ∧ q.1.cps.size ≤ 3) (hc : kv.length ≤ c) (hcm : c ≤ m) (h2 : 2 ≤ m) : Sm (6 + c * (w + 6)) (d + 3) m (treeV kv) := by
  have q1 : ∀ x ∈ kv.map fldV, Sm (w + 5) (d + 1) m x := fun x hx => by
    obtain ⟨q, hq, rfl⟩ := List.mem_map.mp hx
    have s := h q hq
    have p := hp q hq
    have f := s.f
    have f1 := s.w
    have f2 := s.d
    have f3 := s.m
    refine ⟨?_, ?_, ?_, ?_⟩
    · simp [fldV, fitX, fitXs, f, p.1]; omega
    · simp [fldV, wgt, wgts]; omega
    · simp [fldV, dep, deps]; omega
    · simp [fldV, lnm, lnms]; omega
  have hw := wgts_le fun x hx => (q1 x hx).w
  rw [List.length_map] at hw
  have hm : kv.length * (w + 5 + 1) ≤ c * (w + 6) := Nat.mul_le_mul_right _ hc
  have hf := fitXs_of fun x hx => (q1 x hx).f
  have hd := deps_le fun x hx => (q1 x hx).d
  have hl := lnms_le fun x hx => (q1 x hx).m
  refine ⟨by simp [treeV, fitX, fitXs, hf, ok2, sz2], by simp [treeV, wgt, wgts, sz2]; omega, by simp [treeV, dep, deps]; omega, by simp [treeV, lnm, lnms]; omega⟩
theorem five {i : Int} {G : GH} (h0 : 0 ≤ i) (h1 : i < 5) : ∃ c : Nat, 97 ≤ c ∧ c ≤ 101 ∧ opIx [.str "abcde", .int i] G = .ok (sg c) G := by
  have z : ("abcde" : Str).cps.toList = [97, 98, 99, 100, 101] := by decide +kernel
  obtain ⟨c, e, m⟩ := atI_memN (ps := ("abcde" : Str).cps.toList) h0 (by rw [z]; exact h1)
  have hs : ("abcde" : Str).cps.size ≤ 4000 := by decide +kernel
  refine ⟨c, ?_, ?_, ix_str hs e⟩ <;> (rw [z] at m; simp only [List.mem_cons, List.not_mem_nil, or_false] at m; omega)
end EV.NV
end
section
/-! P3: grains, cards (k37 to k54). -/
set_option Elab.async false
set_option linter.all false
set_option maxRecDepth 100000
namespace EV.NV
open PySem PySem.Spec PyProof.Rows L2
theorem keys_put {kv : List (Str × PV)} {w : Str} {v : PV} {Pk : Str → Prop} {Pv : PV → Prop} (h : ∀ q ∈ kv, Pk q.1 ∧ Pv q.2) (hw : Pk w) (hv : Pv v) : ∃ kv' : List (Str × PV), putD (kd kv) (.inr w) v = kd kv' ∧ (∀ q ∈ kv', Pk q.1 ∧ Pv q.2) ∧ kv'.length ≤ kv.length + 1 := by
  unfold putD
  cases e : hasP (kd kv) (.inr w) with
  | false =>
    refine ⟨kv ++ [(w, v)], by simp [kd], fun q hq => ?_, by simp⟩
    rcases List.mem_append.mp hq with m | m
    · exact h q m
    · rw [List.mem_singleton.mp m]; exact ⟨hw, hv⟩
  | true =>
    refine ⟨kv.map fun q => if q.1 = w then (q.1, v) else q, ?_, fun q hq => ?_, by simp⟩
    · simp only [if_true, kd, List.map_map]
      refine List.map_congr_left fun q _ => ?_
      by_cases e : q.1 = w
      · simp [e]
      · have e2 : ¬ ((Sum.inr q.1 : Key) = .inr w) := fun h => e (by injection h)
        simp [e]
    · obtain ⟨p, hp, rfl⟩ := List.mem_map.mp hq
      split
      · exact ⟨(h p hp).1, hv⟩
      · exact h p hp
end EV.NV
end
section
set_option Elab.async false
set_option linter.all false
set_option maxRecDepth 100000
/-! Ev40: list * number. -/
namespace EV
open PySem PySem.Spec PyProof.Rows L2
section
variable {X : Cx} {F : Fx} {Ex : XK} {n : Nat}
theorem op_mul_li : OpR X (binaryOp .Mult) (fun x y H Q => ∃ a xs j, x = V.ref a ∧ y = V.int j ∧ SqL X.K H a xs ∧ (0 ≤ j ∧ j ≤ 1000 ∧ xs.length ≤ 10000) ∧ ∀ p, H p = none → Q (.ref p) (upd H p (.lst (List.replicate j.toNat xs).flatten))) := by
  intro pins s σ H x y v u Q I rx ry h
  obtain ⟨a, xs, j, rfl, rfl, hs, ⟨j0, j1, hx⟩, q⟩ := h
  obtain rfl : v = Value.ref a := rx
  obtain ⟨t, rfl⟩ := ry
  obtain ⟨its, rv, ⟨⟨cls, dd, data, sl⟩, n, ho, hc, hdn, hd⟩, hlen⟩ := I.list hs
  have hc1 : cls = Value.type "list" := hc
  have hd1 : data = Data.seq its.toArray n := hd
  subst hc1 hd1
  have hsl := sizeLine_eq
  have hl : its.length = xs.length := rv.length.symm
  have hm : its.toArray.size * j.toNat ≤ 10000 * 1000 := by
    rw [List.size_toArray]
    exact Nat.mul_le_mul (by omega) (by omega)
  have hm' : its.length * j.toNat ≤ 10000 * 1000 := by rw [List.size_toArray] at hm; exact hm
  refine wpAny_binaryOp_repeat_ref (T := "list") (U := "int") (by decide) ⟨_, ho, rfl⟩ (fun s' => typeIs_int s' j t) noFill_list_mul F.fills_int_mul F.slot_int_rmul repeat_list F.slot_int_index.lookup
    (call_meets F.slot_int_rmul (typeIs_int s j t) F.entry_int_rmul (F.args_int_rmul_2 _ _) (lm_int_rmul_list_any j t a its.toArray n dd sl)
      ⟨ho, rfl, ⟨_, ho, rfl⟩, call_meets F.slot_list_mul ⟨_, ho, rfl⟩ F.entry_list_mul (F.args_list_mul_2 _ _)
        (lm_list_mul_any a its.toArray n dd sl j t (by simp [Builtin.List.listFitsIndex]; omega) (by omega) (by simp [Builtin.List.listTooLong]; omega))
        ⟨ho, ?_⟩⟩)
  rw [listMul_foldl_if]
  have rr : ∀ k : Nat, Vals (List.replicate k xs).flatten (List.replicate k its).flatten := fun k => by
    induction k with
    | zero => exact .nil
    | succ k ih => rw [List.replicate_succ, List.flatten_cons, List.replicate_succ, List.flatten_cons]; exact rv.append ih
  have ll : (List.replicate j.toNat xs).flatten.length ≤ sizeLine := by
    rw [(rr j.toNat).length]
    have : (List.replicate j.toNat its).flatten.length = j.toNat * its.length := by simp
    rw [this, Nat.mul_comm]; omega
  exact ⟨.ref s.heap.objs.size, upd H s.heap.objs.size (.lst (List.replicate j.toNat xs).flatten), I.laid (t' := s.toks) (fun b o e => Heap.get?_push_of_some _ e) (Nat.le_refl _) ⟨ll, _, 0, rr j.toNat, Heap.get?_push_size _ rfl⟩, rfl, q _ (I.hok.fresh (Nat.le_refl _))⟩
def opMulL (ps : List PV) (G : GH) : Res PV := match ps with
  | [.lst a, .int j] => if 0 ≤ j ∧ j ≤ 1000 ∧ a.length ≤ 10000 then .ok (.lst (List.replicate j.toNat a).flatten) G else .bad
  | _ => .bad
theorem opMulL_ok (hK : F.K = X.K) : OpR X (binaryOp .Mult) (OpV F Ex opMulL) := by
  intro pins s σ H x y v u Q I rx ry ⟨μ, ps, G, r, g, p⟩
  unfold opMulL at p
  split at p
  · rename_i a0 j
    obtain ⟨_, _, e, r1, r2⟩ := Reps.two_inv r
    cases e
    split at p
    · rename_i hc
      obtain ⟨h0, h1, h2⟩ := hc
      obtain ⟨a, vs, e1, z1, st1, rr1⟩ := asL_rep (p := .lst a0) rfl r1 g
      have l1 := rr1.length
      have ll : (List.replicate j.toNat vs).flatten.length ≤ sizeLine := by
        have : (List.replicate j.toNat vs).flatten.length = j.toNat * vs.length := by simp
        rw [this, sizeLine_eq]
        have : j.toNat * vs.length ≤ 1000 * 10000 := Nat.mul_le_mul (by omega) (by omega)
        omega
      exact op_mul_li pins s σ H _ _ v u Q I rx ry ⟨a, vs, j, e1, rep_int r2, by rw [← hK]; exact st1, ⟨h0, h1, by omega⟩, Post.newL (ob := false) (by simpa using p) g (rr1.rep j.toNat) ll⟩
    · exact (show False from p).elim
  · exact (show False from p).elim
theorem gmulL (g : GX X F Ex n) {a b : Expr} {pos : Pos} {ma mb : Env → GH → Res PV} (ha : PE X a (TEv F Ex ma)) (hb : PE X b (TEv F Ex mb)) : PE X (.BinOp a .Mult b pos) (TEv F Ex (m2 ma mb opMulL)) := ev_bin (opMulL_ok g.K) ha hb
end
end EV
end
section
/-! Ev41: sum(numbers, start=k). The loop's proof is the library's own on sum, turned to another start. -/
set_option Elab.async false
set_option linter.all false
set_option maxRecDepth 100000
set_option maxHeartbeats 1000000
namespace EV.SumS
open PySem PySem.Spec PyProof.Rows
open Sem (wp)
section
variable {prog : Program} {w : World} {A : Around} {R : Result → Shared → Prop} {I : Addr} {fp wr : List Addr} {n : Nat} {P : Nat → Value → Prop} {St : Nat → Heap → Prop}
end
section
variable {prog : Program} {w : World} {A : Around} {E : Value → Shared → Prop} {s : Shared}
end
end EV.SumS
namespace EV
open PySem PySem.Spec PyProof.Rows L2
section
variable {X : Cx} {F : Fx} {Ex : XK} {n : Nat}
end
end EV
end
section
set_option Elab.async false
set_option linter.all false
set_option maxRecDepth 100000
/-! Ev42: x, y, z = a, b, c with plain locals. -/
namespace EV
open PySem PySem.Spec PyProof.Rows L2
section
variable {X : Cx} {F : Fx} {Ex : XK} {n : Nat} {a b c : Expr}
end
end EV
end
section
set_option Elab.async false
set_option linter.all false
set_option maxRecDepth 100000
/-! Ev43: sorted(d) of a small dict of texts; {text: value, ..}. -/
namespace EV
open PySem PySem.Spec PyProof.Rows L2
section
variable {X : Cx} {F : Fx} {Ex : XK} {n : Nat}
/-- the texts, rising -/
def sortS (xs : List Str) : List Str := xs.mergeSort leT
def bSortD (ob : Bool) (ps : List PV) (G : GH) : Res PV := match ps with
  | [.obj n] => match G[n]? with
    | some (.dic kps) => match txtK kps with
      | some l => if l.length < 64 then mkL ob ((sortS (l.map (·.1))).map .str) G else .bad
      | none => .bad
    | _ => .bad
  | _ => .bad
theorem keys_rep {μ : Mu} {H : Hp} : ∀ {l : List (Str × PV)} {kvs : List (Key × V)}, Paired (fun (p : Key × PV) (q : Key × V) => p.1 = q.1 ∧ Rep F μ H p.2 q.2) (l.map fun q => ((Sum.inr q.1 : Key), q.2)) kvs → kvs.map (·.1) = (l.map (·.1)).map Sum.inr
  | [], kvs, h => by cases h; rfl
  | x :: l, kvs, h => by
    rw [List.map_cons] at h
    cases h with
    | cons r t =>
      have e := r.1
      rw [List.map_cons, List.map_cons, List.map_cons, keys_rep t, ← e]
theorem bSortD_ok (ob : Bool) (hc : X.calm = true) : CallR X (.builtin "sorted") (RdV F Ex (bSortD ob)) := by
  intro pins s σ H xs us Q I rs ⟨μ, ps, G, r, g, p⟩
  unfold bSortD at p
  split at p
  · rename_i k
    obtain ⟨v, rfl, r1⟩ := Reps.one_inv r
    obtain ⟨d, rfl, hd⟩ := rep_obj r1
    split at p
    · rename_i kps hkps
      split at p
      · rename_i l hl
        split at p
        · rename_i h64
          have el := txtK_inv hl
          subst el
          obtain ⟨kvs, hH, hz, rk⟩ := g.obj _ d _ hd hkps
          refine call_sortedD hc pins s σ H _ us Q I rs ⟨d, kvs, l.map (·.1), rfl, .inl hH, keys_rep rk, by rw [List.length_map]; exact h64, fun ys q hp hs hn => ?_⟩
          have ey : ys = sortS (l.map (·.1)) := List.Perm.eq_of_pairwise (le := fun a b => leT a b = true) (fun a b _ _ h k => leT_anti h k) ((sortedS_pw hs).imp fun h => by simpa [leT] using h) (List.pairwise_mergeSort leT_trans leT_total _) (hp.trans (List.mergeSort_perm _ _).symm)
          subst ey
          refine mkL_new p g (fun b o e => by rw [upd_ne (ne_of_none e hn)]; exact e) hn upd_same fun μ' f1 f2 f3 => ?_
          exact reps_maps PV.str V.str fun b hb => by simp only [Rep]
        · exact (show False from p).elim
      · exact (show False from p).elim
    · exact (show False from p).elim
  · exact (show False from p).elim
/-! ### {text: value, ..} -/
def dkeys {α : Type} (ks : List Str) (vs : List α) : List (Key × α) := (ks.zip vs).map fun q => (Sum.inr q.1, q.2)
def mDisp (ks : List Str) (ms : Env → GH → Res (List PV)) : Env → GH → Res PV := fun ρ G => (ms ρ (G ++ [.dic []])).bind fun vs G2 => match G2[G.length]? with
  | some (.dic []) => .ok (.obj G.length) (G2.set G.length (.dic (mergeP [] (dkeys ks vs))))
  | _ => .bad
structure DPs (X : Cx) (F : Fx) (Ex : XK) (pos : Pos) (keys : List (Option Expr)) (values : List Expr) (ks : List Str) (ms : Env → GH → Res (List PV)) : Prop where
  ex : ∃ trs, PPs X pos keys values trs ∧ ∀ {σ : L2.St} {H : Hp} {μ : Mu} {ρ : Env} {G : GH} {Q : List (V × V) → Hp → Prop} {f : List PV → GH → Res PV} {Q2 : V → Hp → Prop},
    SRel F μ H ρ σ → HRep F μ H G → Post F (RV F) Ex μ H ((ms ρ G).bind f) Q2 →
    (∀ μ1 vs G1 ws H1, Ext μ μ1 H H1 → Reps F μ1 H1 vs ws → HRep F μ1 H1 G1 → ws.length = ks.length → Post F (RV F) Ex μ1 H1 (f vs G1) Q2 → Q ((dkeys ks ws).map fun kv => (kV kv.1, kv.2)) H1) → tPairs trs σ H Q
theorem gd0 {pos : Pos} : DPs X F Ex pos [] [] [] mNil := ⟨[], pps_nil, fun {σ H μ ρ G Q f Q2} s g p k => k μ [] G [] H (Ext.refl _ _) .nil g rfl p⟩
theorem gd1 {pos kp : Pos} {j : Nat} {x : Str} {v : Expr} {keys : List (Option Expr)} {values : List Expr} {ks : List Str} {m : Env → GH → Res PV} {ms : Env → GH → Res (List PV)} (hv : PE X v (TEv F Ex m)) (h : DPs X F Ex pos keys values ks ms) :
    DPs X F Ex pos (some (.Constant (.str x) j kp) :: keys) (v :: values) (x :: ks) (mCons m ms) := by
  obtain ⟨trs, hp, w⟩ := h.ex
  refine ⟨(tC (.str x), TEv F Ex m) :: trs, pps_cons pe_str hv hp, fun {σ H μ ρ G Q f Q2} s g p k => ?_⟩
  show tC (.str x) σ H fun x H1 => TEv F Ex m σ H1 fun y H2 => tPairs trs σ H2 fun ps H3 => Q ((x, y) :: ps) H3
  have p' : Post F (RV F) Ex μ H ((m ρ G).bind fun a G1 => (ms ρ G1).bind fun as G2 => f (a :: as) G2) Q2 := by
    have e : (mCons m ms ρ G).bind f = (m ρ G).bind fun a G1 => (ms ρ G1).bind fun as G2 => f (a :: as) G2 := by
      unfold mCons
      cases m ρ G with
      | ok a G1 =>
        show Res.bind (Res.bind (ms ρ G1) _) f = Res.bind (ms ρ G1) _
        cases ms ρ G1 <;> rfl
      | _ => rfl
    rw [← e]; exact p
  refine TEv.run s g p' fun μ1 a G1 y H1 e1 r1 g1 s1 p1 => ?_
  refine w s1 g1 p1 fun μ2 vs G2 ws H2 e2 r2 g2 l2 p2 => ?_
  exact k μ2 (a :: vs) G2 (y :: ws) H2 (e1.trans e2) (.cons (r1.mono e2) r2) g2 (by rw [List.length_cons, List.length_cons, l2]) p2
theorem repK_dkeys {μ : Mu} {H : Hp} : ∀ {ks : List Str} {vs : List PV} {ws : List V}, Reps F μ H vs ws → RepK F μ H (dkeys ks vs) (dkeys ks ws)
  | [], _, _, _ => .nil
  | k :: ks, [], ws, r => by
    obtain rfl := r.nil_inv
    exact .nil
  | k :: ks, p :: vs, ws, r => by
    obtain ⟨v, t, rfl, h1, h2⟩ := r.cons_inv
    exact .cons ⟨rfl, h1⟩ (repK_dkeys h2)
theorem gdisp (g : GX X F Ex n) {pos : Pos} {keys : List (Option Expr)} {values : List Expr} {ks : List Str} {ms : Env → GH → Res (List PV)} (d : DPs X F Ex pos keys values ks ms) (hall : keys.all (·.isSome) = true := by rfl) (hl : keys.length = values.length := by rfl) (h0 : keys ≠ [] := by simp) (h15 : keys.length ≤ 15 := by decide) (hk : ks.length ≤ 15 := by decide) :
    PE X (.Dict keys values pos) (TEv F Ex (mDisp ks ms)) := by
  obtain ⟨trs, hp, w⟩ := d.ex
  refine (pe_disp hp hall hl h0 h15).weak fun σ H Q ⟨μ, ρ, G, s, gr, p⟩ => ?_
  intro a hn
  have ex : Ext μ _ H (upd H a (.dK [])) := Ext.push gr hn
  have g1 : HRep F _ (upd H a (.dK [])) (G ++ [.dic []]) := gr.push hn ⟨[], upd_same, by decide, .nil⟩
  have p1 := p.shift ex
  refine w (s.mono ex) g1 p1 fun μ2 vs G2 ws H2 e2 r2 g2 l2 p2 => ?_
  split at p2
  · rename_i hG
    have ha : μ2.ob[G.length]? = some a := by
      obtain ⟨r, q⟩ := e2.pre
      rw [q, List.append_assoc, ← gr.len]
      simp
    obtain ⟨kvs, q, z, rk⟩ := g2.obj _ a _ ha hG
    cases rk
    have lz : (dkeys ks ws).length ≤ 15 := by
      simp only [dkeys, List.length_map, List.length_zip]
      omega
    refine ⟨q, dkeys ks ws, rfl, lz, ?_⟩
    have m := List.mem_of_getElem? ha
    have ex2 : Ext μ2 μ2 H2 (upd H2 a (.dK (mergeK [] (dkeys ks ws)))) := Ext.write m
    refine p2.ok (b := .ref a) ex2 ?_ (g2.write ha ⟨_, upd_same, ?_, (RepK.merge (repK_dkeys r2) .nil).mono ex2⟩)
    · show Rep F _ _ _ _
      simp only [Rep]
      exact ⟨a, rfl, ha⟩
    · have := length_mergeK (dkeys ks ws) []
      rw [List.length_nil] at this
      rw [sizeLine_eq]; omega
  · exact (show False from p2).elim
end
end EV
end
section
set_option Elab.async false
set_option linter.all false
set_option maxRecDepth 100000
/-! Ev44: x = f if c else g; return a and b and x(e): an own def by a local name. -/
namespace EV
open PySem PySem.Spec PyProof.Rows L2
section
variable {X : Cx} {F : Fx} {Ex : XK} {n : Nat}
end
end EV
end
section
set_option Elab.async false
set_option linter.all false
set_option maxRecDepth 100000
set_option maxHeartbeats 1000000
/-! Ev45: zip(a, b) of two lists, walked. -/
namespace EV
open PySem PySem.Spec PyProof.Rows L2 RZ Zs
section
variable {X : Cx} {F : Fx} {Ex : XK} {n : Nat}
end
end EV
end
section
set_option Elab.async false
set_option linter.all false
set_option maxRecDepth 100000
namespace G4
open PySem PySem.Spec PyProof.Rows L2 EV
/-- _law_feed(_law_script) -/
def N__law_feed : List Str := ["_law_script"]
def b__law_feed : EV.Env → GH → Res Fl := sSeq (sRet (mA (mCons (mA (mCons (mSl (mVar 0) (mNoPart) (mPart (mCst (.int 63))) opSl) (mNil)) (bLst false)) (mCons (mCst (.int 0)) (mCons (mCst (.int 0)) (mCons (mCst (.int 0)) (mNil))))) mkObj)) (sNext)
/-- _law_draw(_law_feed_here, _law_many) -/
def N__law_draw : List Str := ["_law_feed_here", "_law_many", "_law_cell", "_law_mixed", "_law_figure"]
def b__law_draw : EV.Env → GH → Res Fl := sSeq (sSet (m2 (m2 (mVar 0) (mCst (.int 1)) opIx) (mCst (.int 1)) opAdd) (mVar 0) (mCst (.int 1)) fSetL) (sSeq (loopW (mtAnd (mB (m2 (m2 (mVar 0) (mCst (.int 2)) opIx) (mCst (.int 0)) (Cop.f .eq))) (mB (m2 (m2 (mVar 0) (mCst (.int 3)) opIx) (mA (mCons (m2 (mVar 0) (mCst (.int 0)) opIx) (mNil)) bLen) (Cop.f .lt)))) (sSeq (sAsg (mA (mCons (m2 (m2 (mVar 0) (mCst (.int 0)) opIx) (m2 (mVar 0) (mCst (.int 3)) opIx) opIx) (mNil)) bAbs) (gN 2)) (sSeq (sSet (m2 (mVar 2) (mA (mCons (m2 (mVar 2) (m2 (mCst (.int 10)) (mCst (.int 18)) opPow) (Cop.f .ge)) (mNil)) bInt) opMul) (mVar 0) (mCst (.int 2)) fSetL) (sSeq (sSet (m2 (m2 (mVar 0) (mCst (.int 3)) opIx) (mCst (.int 1)) opAdd) (mVar 0) (mCst (.int 3)) fSetL) (sNext)))) 100) (sSeq (sIf (mB (m2 (m2 (mVar 0) (mCst (.int 2)) opIx) (mCst (.int 0)) (Cop.f .gt))) (sSeq (sAsg (m2 (m2 (mVar 0) (mCst (.int 2)) opIx) (mVar 1) opMod) (gN 4)) (sSeq (sSet (m2 (m2 (mVar 0) (mCst (.int 2)) opIx) (mVar 1) opDiv) (mVar 0) (mCst (.int 2)) fSetL) (sSeq (sRet (mVar 4)) (sNext)))) (sNext)) (sSeq (sAsg (mIf (mB (m2 (m2 (mVar 0) (mCst (.int 0)) opIx) (mA (mNil) mkLst) (Cop.f .ne))) (m2 (m2 (mVar 0) (mCst (.int 0)) opIx) (m2 (m2 (mVar 0) (mCst (.int 1)) opIx) (mA (mCons (m2 (mVar 0) (mCst (.int 0)) opIx) (mNil)) bLen) opMod) opIx) (mCst (.int 5))) (gN 2)) (sSeq (sAsg (m2 (m2 (m2 (m2 (m2 (mVar 2) (mCst (.int 1000003)) opMod) (m2 (m2 (mCst (.int 613)) (m2 (mVar 0) (mCst (.int 1)) opIx) opMul) (m2 (m2 (mVar 0) (mCst (.int 1)) opIx) (mCst (.int 7)) opAdd) opMul) opAdd) (mCst (.int 17)) opAdd) (mCst (.int 5)) opPow) (mCst (.int 2147483647)) opMod) (gN 3)) (sSeq (sRet (m2 (m2 (m2 (m2 (m2 (mVar 3) (m2 (mCst (.int 4099)) (m2 (mVar 0) (mCst (.int 1)) opIx) opMul) opAdd) (mCst (.int 5)) opPow) (mCst (.int 2147483587)) opMod) (mCst (.int 7)) opDiv) (mVar 1) opMod)) (sNext))))))
/-- _law_plain(_law_feed_here) -/
def N__law_plain : List Str := ["_law_feed_here"]
def b__law_plain (f__law_draw : List PV → GH → Res PV) : EV.Env → GH → Res Fl := sSeq (sRet (m2 (mA (mCons (mCst (.int 0)) (mCons (mCst (.int 1)) (mCons (mCst (.int 2)) (mCons (m1 (mCst (.int 3)) opNeg) (mCons (mCst (.bl true)) (mCons (mCst (.bl false)) (mCons (mCst (.str "")) (mCons (mCst (.str "a1")) (mCons (mCst (.str "b")) (mCons (mCst (.int 1)) (mCons (mCst (.str "a1")) (mNil)))))))))))) mkLst) (mA (mCons (mVar 0) (mCons (mCst (.int 11)) (mNil))) f__law_draw) opIx)) (sNext)
/-- _law_tree(_law_parts) -/
def N__law_tree : List Str := ["_law_parts"]
def b__law_tree : EV.Env → GH → Res Fl := sSeq (sRet (mA (mCons (mCst (.str "tree")) (mCons (mA (mCons (mA (mCons (mVar 0) mNil) (bSortItems false)) (mNil)) bTup) (mNil))) mkTup)) (sNext)
/-- _law_leaf(_law_feed_here) -/
def N__law_leaf : List Str := ["_law_feed_here", "_law_parts", "_law_label", "_law_kind", "_law_some", "_law_k", "_law_one"]
def b__law_leaf (f__law_draw f__law_plain f__law_tree : List PV → GH → Res PV) : EV.Env → GH → Res Fl := sSeq (sAsg (mDNew) (gN 1)) (sSeq (sFor (mSeq (mA (mCons (mCst (.str "a")) (mCons (mCst (.str "b")) (mCons (mCst (.str "c")) (mNil)))) mkTup)) (gN 2) (sSeq (sAsg (mA (mCons (mVar 0) (mCons (mCst (.int 8)) (mNil))) f__law_draw) (gN 3)) (sSeq (sIf (mB (m2 (mVar 3) (mA (mCons (mCst (.int 1)) (mCons (mCst (.int 2)) (mCons (mCst (.int 3)) (mNil)))) mkTup) (Cop.f .in_))) (sSeq (sSet (mA (mCons (mVar 0) (mNil)) f__law_plain) (mVar 1) (mVar 2) fSetA) (sNext)) (sNext)) (sSeq (sIf (mB (m2 (mVar 3) (mCst (.int 4)) (Cop.f .eq))) (sSeq (sSet (mA (mCons (mCst (.str "row")) (mCons (mA (mCons (mComp false (mRng (mCons (mA (mCons (mVar 0) (mCons (mCst (.int 4)) (mNil))) f__law_draw) (mNil))) (gN 5) (mYes) (mA (mCons (mVar 0) (mNil)) f__law_plain) [5]) (mNil)) bTup) (mNil))) mkTup) (mVar 1) (mVar 2) fSetA) (sNext)) (sNext)) (sSeq (sIf (mB (m2 (mVar 3) (mA (mCons (mCst (.int 5)) (mCons (mCst (.int 6)) (mNil))) mkTup) (Cop.f .in_))) (sSeq (sAsg (mComp false (mRng (mCons (m2 (mCst (.int 1)) (mA (mCons (mVar 0) (mCons (mCst (.int 2)) (mNil))) f__law_draw) opAdd) (mNil))) (gN 5) (mYes) (mA (mCons (mDisp ["k", "a"] (mCons (mA (mCons (mVar 0) (mNil)) f__law_plain) (mCons (mA (mCons (mVar 0) (mNil)) f__law_plain) (mNil)))) (mNil)) f__law_tree) [5]) (gN 4)) (sSeq (sSet (mA (mCons (mCst (.str "row")) (mCons (mA (mCons (m2 (mVar 4) (m2 (mA (mCons (mA (mCons (mVar 0) (mNil)) f__law_plain) (mNil)) mkLst) (mA (mCons (mVar 0) (mCons (mCst (.int 2)) (mNil))) f__law_draw) opMulL) opAdd) (mNil)) bTup) (mNil))) mkTup) (mVar 1) (mVar 2) fSetA) (sNext))) (sNext)) (sSeq (sIf (mB (m2 (mVar 3) (mCst (.int 7)) (Cop.f .eq))) (sSeq (sAsg (mSl (mA (mCons (mCst (.str "a")) (mCons (mCst (.str "b")) (mCons (mCst (.str "k")) (mNil)))) mkLst) (mNoPart) (mPart (m2 (mCst (.int 1)) (mA (mCons (mVar 0) (mCons (mCst (.int 3)) (mNil))) f__law_draw) opAdd)) opSl) (gN 4)) (sSeq (sSet (mA (mCons (mA (mCons (mComp false (mSeq (mVar 4)) (gN 6) (mYes) (mA (mCons (mVar 6) (mCons (mA (mCons (mVar 0) (mNil)) f__law_plain) (mNil))) mkTup) [6]) (mNil)) bDict) (mNil)) f__law_tree) (mVar 1) (mVar 2) fSetA) (sNext))) (sNext)) (sNext))))))) (sSeq (sRet (mA (mCons (mVar 1) (mNil)) f__law_tree)) (sNext)))
/-- _law_route(_law_feed_here) -/
def N__law_route : List Str := ["_law_feed_here", "_law_some", "_law_first", "_law_second"]
def b__law_route (f__law_draw f__law_plain : List PV → GH → Res PV) : EV.Env → GH → Res Fl := sSeq (sPar 2 3 (mCons (mA (mCons (mCst (.str "field")) (mCons (m2 (mCst (.str "abcad")) (mA (mCons (mVar 0) (mCons (mCst (.int 5)) (mNil))) f__law_draw) opIx) (mNil))) mkTup) (mCons (mA (mCons (mCst (.str "field")) (mCons (m2 (mCst (.str "akb")) (mA (mCons (mVar 0) (mCons (mCst (.int 3)) (mNil))) f__law_draw) opIx) (mNil))) mkTup) (mNil)))) (sSeq (sAsg (mA (mCons (mA (mCons (mVar 2) (mNil)) mkTup) (mCons (mA (mCons (mVar 2) (mNil)) mkTup) (mCons (mA (mCons (mVar 2) (mCons (mA (mCons (mCst (.str "each")) (mNil)) mkTup) (mNil))) mkTup) (mCons (mA (mCons (mVar 2) (mCons (mA (mCons (mCst (.str "each")) (mNil)) mkTup) (mCons (mVar 3) (mNil)))) mkTup) (mCons (mA (mCons (mVar 2) (mCons (mA (mCons (mCst (.str "at")) (mCons (mA (mCons (mVar 0) (mCons (mCst (.int 3)) (mNil))) f__law_draw) (mNil))) mkTup) (mNil))) mkTup) (mNil)))))) mkLst) (gN 1)) (sSeq (sAsg (m2 (mVar 1) (mA (mCons (mA (mCons (mVar 2) (mCons (mVar 3) (mNil))) mkTup) (mCons (mA (mCons (mVar 2) (mCons (mA (mCons (mCst (.str "where")) (mCons (mCst (.str "k")) (mCons (mA (mCons (mVar 0) (mNil)) f__law_plain) (mNil)))) mkTup) (mCons (mVar 3) (mNil)))) mkTup) (mNil))) mkLst) opAdd) (gN 1)) (sSeq (sRet (m2 (mVar 1) (mA (mCons (mVar 0) (mCons (mCst (.int 7)) (mNil))) f__law_draw) opIx)) (sNext))))
/-- _law_wish(_law_feed_here, _law_deep) -/
def N__law_wish : List Str := ["_law_feed_here", "_law_deep", "_law_kind", "_law_own", "_law_k"]
def b__law_wish (f__law_draw f__law_plain f__law_route f__law_wish : List PV → GH → Res PV) : EV.Env → GH → Res Fl := sSeq (sAsg (mA (mCons (mVar 0) (mCons (mIf (mB (m2 (mVar 1) (mCst (.int 0)) (Cop.f .gt))) (mCst (.int 8)) (mCst (.int 5))) (mNil))) f__law_draw) (gN 2)) (sSeq (sIf (mB (m2 (mVar 2) (mCst (.int 0)) (Cop.f .eq))) (sSeq (sRet (mA (mCons (mCst (.str "there")) (mCons (mA (mCons (mVar 0) (mNil)) f__law_route) (mNil))) mkTup)) (sNext)) (sNext)) (sSeq (sIf (mB (m2 (mVar 2) (mA (mCons (mCst (.int 1)) (mCons (mCst (.int 2)) (mNil))) mkTup) (Cop.f .in_))) (sSeq (sAsg (mIf (mB (m2 (mA (mCons (mVar 0) (mCons (mCst (.int 5)) (mNil))) f__law_draw) (mCst (.int 0)) (Cop.f .gt))) (mA (mCons (mVar 0) (mNil)) f__law_plain) (mA (mCons (mCst (.str "row")) (mCons (mA (mCons (mA (mCons (mVar 0) (mNil)) f__law_plain) (mNil)) mkTup) (mNil))) mkTup)) (gN 3)) (sSeq (sRet (mA (mCons (mCst (.str "like")) (mCons (mA (mCons (mVar 0) (mNil)) f__law_route) (mCons (mVar 3) (mNil)))) mkTup)) (sNext))) (sNext)) (sSeq (sIf (mB (m2 (mVar 2) (mA (mCons (mCst (.int 3)) (mCons (mCst (.int 4)) (mNil))) mkTup) (Cop.f .in_))) (sSeq (sRet (mA (mCons (m2 (mA (mCons (mCst (.str "below")) (mCons (mCst (.str "above")) (mNil))) mkLst) (m2 (mVar 2) (mCst (.int 3)) opSub) opIx) (mCons (mA (mCons (mVar 0) (mNil)) f__law_route) (mCons (mA (mCons (mVar 0) (mNil)) f__law_plain) (mNil)))) mkTup)) (sNext)) (sNext)) (sSeq (sIf (mB (m2 (mVar 2) (mCst (.int 5)) (Cop.f .eq))) (sSeq (sRet (mA (mCons (mCst (.str "not")) (mCons (mA (mCons (mVar 0) (mCons (m2 (mVar 1) (mCst (.int 1)) opSub) (mNil))) f__law_wish) (mNil))) mkTup)) (sNext)) (sNext)) (sSeq (sRet (mA (mCons (m2 (mA (mCons (mCst (.str "and")) (mCons (mCst (.str "or")) (mNil))) mkLst) (m2 (mVar 2) (mCst (.int 6)) opSub) opIx) (mCons (mA (mCons (mComp false (mRng (mCons (mA (mCons (mVar 0) (mCons (mCst (.int 3)) (mNil))) f__law_draw) (mNil))) (gN 4) (mYes) (mA (mCons (mVar 0) (mCons (m2 (mVar 1) (mCst (.int 1)) opSub) (mNil))) f__law_wish) [4]) (mNil)) bTup) (mNil))) mkTup)) (sNext))))))
/-- _law_slate(_law_feed_here) -/
def N__law_slate : List Str := ["_law_feed_here", "_law_wish_here"]
def b__law_slate (f__law_draw f__law_route f__law_wish : List PV → GH → Res PV) : EV.Env → GH → Res Fl := sSeq (sAsg (mIf (mB (m2 (mA (mCons (mVar 0) (mCons (mCst (.int 3)) (mNil))) f__law_draw) (mCst (.int 0)) (Cop.f .eq))) (mA (mCons (mVar 0) (mCons (mCst (.int 1)) (mNil))) f__law_wish) (mCst .non)) (gN 1)) (sSeq (sRet (mA (mCons (m2 (mA (mCons (mCst (.str "by")) (mCons (mCst (.str "far")) (mCons (mCst (.str "quick")) (mCons (mCst (.str "zzzzzzzz")) (mNil))))) mkLst) (mA (mCons (mVar 0) (mCons (mCst (.int 4)) (mNil))) f__law_draw) opIx) (mCons (mA (mCons (mVar 0) (mNil)) f__law_route) (mCons (m2 (mA (mCons (mVar 0) (mCons (mCst (.int 4)) (mNil))) f__law_draw) (mCst (.int 0)) (Cop.f .eq)) (mCons (mVar 1) (mNil))))) mkTup)) (sNext))
/-- _law_bent(_law_feed_here, _law_what, _law_deep) -/
def N__law_bent : List Str := ["_law_feed_here", "_law_what", "_law_deep", "_law_kind", "_law_pos", "_law_odd", "_law_some"]
def b__law_bent (f__law_bent f__law_draw : List PV → GH → Res PV) : EV.Env → GH → Res Fl := sSeq (sAsg (mA (mCons (mVar 0) (mCons (mCst (.int 9)) (mNil))) f__law_draw) (gN 3)) (sSeq (sIf (mtAnd (mT (m1 (mVar 1) (bIsi "tuple"))) (mtAnd (mB (m2 (mVar 1) (mA (mNil) mkTup) (Cop.f .ne))) (mtAnd (mB (m2 (mVar 2) (mCst (.int 0)) (Cop.f .gt))) (mB (m2 (mVar 3) (mCst (.int 1)) (Cop.f .gt)))))) (sSeq (sAsg (mA (mCons (mVar 0) (mCons (mA (mCons (mVar 1) (mNil)) bLen) (mNil))) f__law_draw) (gN 4)) (sSeq (sRet (m2 (m2 (mSl (mVar 1) (mNoPart) (mPart (mVar 4)) opSl) (mA (mCons (mA (mCons (mVar 0) (mCons (m2 (mVar 1) (mVar 4) opIx) (mCons (m2 (mVar 2) (mCst (.int 1)) opSub) (mNil)))) f__law_bent) (mNil)) mkTup) opAdd) (mSl (mVar 1) (mPart (m2 (mVar 4) (mCst (.int 1)) opAdd)) (mNoPart) opSl) opAdd)) (sNext))) (sNext)) (sSeq (sIf (mT (m1 (mVar 1) (bIsi "tuple"))) (sSeq (sAsg (mA (mCons (mVar 0) (mCons (m2 (mA (mCons (mVar 1) (mNil)) bLen) (mCst (.int 1)) opAdd) (mNil))) f__law_draw) (gN 4)) (sSeq (sAsg (m2 (mA (mCons (mCst (.int 0)) (mCons (m1 (mCst (.int 1)) opNeg) (mCons (mA (mNil) mkTup) (mCons (mCst .non) (mCons (mCst (.bl true)) (mCons (mCst (.str "a")) (mCons (mA (mCons (mCst (.str "row")) (mCons (mA (mNil) mkTup) (mNil))) mkTup) (mCons (mA (mCons (mCst (.str "tree")) (mCons (mA (mNil) mkTup) (mNil))) mkTup) (mNil))))))))) mkLst) (mA (mCons (mVar 0) (mCons (mCst (.int 8)) (mNil))) f__law_draw) opIx) (gN 5)) (sSeq (sAsg (mA (mCons (m2 (m2 (mSl (mVar 1) (mNoPart) (mPart (mVar 4)) opSl) (mA (mCons (mVar 5) (mNil)) mkTup) opAdd) (mSl (mVar 1) (mPart (mVar 4)) (mNoPart) opSl) opAdd) (mCons (m2 (mSl (mVar 1) (mNoPart) (mPart (mVar 4)) opSl) (mSl (mVar 1) (mPart (m2 (mVar 4) (mCst (.int 1)) opAdd)) (mNoPart) opSl) opAdd) (mCons (m2 (m2 (mSl (mVar 1) (mNoPart) (mPart (mVar 4)) opSl) (mA (mCons (mVar 5) (mNil)) mkTup) opAdd) (mSl (mVar 1) (mPart (m2 (mVar 4) (mCst (.int 1)) opAdd)) (mNoPart) opSl) opAdd) (mNil)))) mkLst) (gN 6)) (sSeq (sRet (m2 (m2 (mVar 6) (mA (mCons (mA (mCons (mVar 1) (mNil)) (bLst false)) (mCons (m2 (mVar 1) (mSl (mVar 1) (mPart (m1 (mCst (.int 1)) opNeg)) (mNoPart) opSl) opAdd) (mCons (m1 (mVar 1) opRev) (mNil)))) mkLst) opAdd) (mA (mCons (mVar 0) (mCons (mCst (.int 6)) (mNil))) f__law_draw) opIx)) (sNext))))) (sNext)) (sSeq (sIf (mT (m1 (mVar 1) (bIsi "str"))) (sSeq (sRet (m2 (mA (mCons (mCst (.str "tree")) (mCons (mCst (.str "row")) (mCons (mCst (.str "put")) (mCons (mCst (.str "gone")) (mCons (mCst (.str "a")) (mCons (mCst (.str "")) (mCons (mCst (.str "A")) (mCons (mCst (.str "each")) (mCons (mCst (.int 1)) (mCons (mCst (.str "aaaaaaaaa")) (mNil))))))))))) mkLst) (mA (mCons (mVar 0) (mCons (mCst (.int 10)) (mNil))) f__law_draw) opIx)) (sNext)) (sNext)) (sSeq (sIf (mtOr (mtNot (mT (m1 (mVar 1) (bIsi "int")))) (mT (m1 (mVar 1) (bIsi "bool")))) (sSeq (sRet (m2 (mA (mCons (mCst (.int 0)) (mCons (mA (mNil) mkTup) (mCons (mCst (.str "a")) (mCons (mCst (.int 1)) (mCons (mCst (.bl true)) (mCons (mCst .non) (mCons (mA (mCons (mCst (.str "there")) (mCons (mA (mCons (mA (mCons (mCst (.str "field")) (mCons (mCst (.str "a")) (mNil))) mkTup) (mNil)) mkTup) (mNil))) mkTup) (mNil)))))))) mkLst) (mA (mCons (mVar 0) (mCons (mCst (.int 7)) (mNil))) f__law_draw) opIx)) (sNext)) (sNext)) (sSeq (sRet (m2 (mA (mCons (m2 (mVar 1) (mCst (.int 1)) opAdd) (mCons (m2 (mVar 1) (mCst (.int 1)) opSub) (mCons (mCst (.int 0)) (mCons (m2 (mVar 1) (mCst (.int 1)) (Cop.f .eq)) (mCons (mA (mCons (mVar 1) (mNil)) bStr) (mCons (mCst .non) (mCons (m2 (mCst (.int 0)) (mVar 1) opSub) (mCons (m2 (mCst (.int 10)) (mCst (.int 30)) opPow) (mNil))))))))) mkLst) (mA (mCons (mVar 0) (mCons (mCst (.int 8)) (mNil))) f__law_draw) opIx)) (sNext))))))
end G4
end
section
/-! R7: the draws of k19 to k36. -/
set_option Elab.async false
set_option linter.all false
set_option maxRecDepth 100000
set_option maxHeartbeats 1000000
namespace EV.NV
open PySem PySem.Spec PyProof.Rows L2
theorem feed_sp4 : SpFeed (defV 1 G4.N__law_feed G4.b__law_feed) := by
  intro ns G h
  have e : cutP (ns.map PV.int) none (some 63) = ns.map .int := by
    unfold cutP HT.sIx
    simp only [List.drop_zero, List.length_map]
    rw [if_neg (by decide)]
    apply List.take_of_length_le
    simp only [List.length_map]
    omega
  simp [defV, G4.b__law_feed, G4.N__law_feed, env0, opSl, asL, e, size_line, feedO, trimR, PV.refsB, bLst, asS]
def drC : EV.Env → GH → Res Bool := mtAnd (mB (m2 (m2 (mVar 0) (mCst (.int 2)) opIx) (mCst (.int 0)) (Cop.f .eq))) (mB (m2 (m2 (mVar 0) (mCst (.int 3)) opIx) (mA (mCons (m2 (mVar 0) (mCst (.int 0)) opIx) (mNil)) bLen) (Cop.f .lt)))
def drB : EV.Env → GH → Res Fl := sSeq (sAsg (mA (mCons (m2 (m2 (mVar 0) (mCst (.int 0)) opIx) (m2 (mVar 0) (mCst (.int 3)) opIx) opIx) (mNil)) bAbs) (gN 2)) (sSeq (sSet (m2 (mVar 2) (mA (mCons (m2 (mVar 2) (m2 (mCst (.int 10)) (mCst (.int 18)) opPow) (Cop.f .ge)) (mNil)) bInt) opMul) (mVar 0) (mCst (.int 2)) fSetL) (sSeq (sSet (m2 (m2 (mVar 0) (mCst (.int 3)) opIx) (mCst (.int 1)) opAdd) (mVar 0) (mCst (.int 3)) fSetL) (sNext)))
def drT : EV.Env → GH → Res Fl := (sSeq (sIf (mB (m2 (m2 (mVar 0) (mCst (.int 2)) opIx) (mCst (.int 0)) (Cop.f .gt))) (sSeq (sAsg (m2 (m2 (mVar 0) (mCst (.int 2)) opIx) (mVar 1) opMod) (gN 4)) (sSeq (sSet (m2 (m2 (mVar 0) (mCst (.int 2)) opIx) (mVar 1) opDiv) (mVar 0) (mCst (.int 2)) fSetL) (sSeq (sRet (mVar 4)) (sNext)))) (sNext)) (sSeq (sAsg (mIf (mB (m2 (m2 (mVar 0) (mCst (.int 0)) opIx) (mA (mNil) mkLst) (Cop.f .ne))) (m2 (m2 (mVar 0) (mCst (.int 0)) opIx) (m2 (m2 (mVar 0) (mCst (.int 1)) opIx) (mA (mCons (m2 (mVar 0) (mCst (.int 0)) opIx) (mNil)) bLen) opMod) opIx) (mCst (.int 5))) (gN 2)) (sSeq (sAsg (m2 (m2 (m2 (m2 (m2 (mVar 2) (mCst (.int 1000003)) opMod) (m2 (m2 (mCst (.int 613)) (m2 (mVar 0) (mCst (.int 1)) opIx) opMul) (m2 (m2 (mVar 0) (mCst (.int 1)) opIx) (mCst (.int 7)) opAdd) opMul) opAdd) (mCst (.int 17)) opAdd) (mCst (.int 5)) opPow) (mCst (.int 2147483647)) opMod) (gN 3)) (sSeq (sRet (m2 (m2 (m2 (m2 (m2 (mVar 3) (m2 (mCst (.int 4099)) (m2 (mVar 0) (mCst (.int 1)) opIx) opMul) opAdd) (mCst (.int 5)) opPow) (mCst (.int 2147483587)) opMod) (mCst (.int 7)) opDiv) (mVar 1) opMod)) (sNext)))))
theorem draw_eq : G4.b__law_draw = sSeq (sSet (m2 (m2 (mVar 0) (mCst (.int 1)) opIx) (mCst (.int 1)) opAdd) (mVar 0) (mCst (.int 1)) fSetL) (sSeq (loopW drC drB 100) drT) := rfl
theorem dr_cond {cs : List Int} {a b c n : Int} {x2 : Option PV} {R : GH} : drC [some (.obj 0), some (.int n), x2, none, none] (feedO cs a b c :: R) = .ok (decide (b = 0) && decide (c < cs.length)) (feedO cs a b c :: R) := by
  by_cases h : b = 0
  · simp [drC, feedO, h]
  · simp [drC, feedO, h]
theorem dr_body {cs : List Int} {a c n : Int} {x2 : Option PV} {R : GH} (h0 : 0 ≤ c) (h1 : c < cs.length) : ∃ b x, 0 ≤ b ∧ drB [some (.obj 0), some (.int n), x2, none, none] (feedO cs a 0 c :: R) = .ok (.next [some (.obj 0), some (.int n), some x, none, none]) (feedO cs a b (c + 1) :: R) := by
  obtain ⟨x, e⟩ := atI_map (cs := cs) h0 h1
  have e1 := fun G => ixR_some (G := G) e
  have hp18 : ∀ G, opPow [.int 10, .int 18] G = .ok (.int 1000000000000000000) G := by
    intro G; rw [opPow_ii (by decide) (by decide) (by decide)]; rfl
  have ab : ∀ G, bAbs [.int x] G = .ok (.int (if x < 0 then -x else x)) G := fun G => rfl
  have hy : 0 ≤ (if x < 0 then -x else x) := by split <;> omega
  generalize (if x < 0 then -x else x) = y at ab hy
  have bi : ∀ t G, bInt [.bl t] G = .ok (.int (if t then 1 else 0)) G := fun t G => by cases t <;> rfl
  by_cases hx : 1000000000000000000 ≤ y
  · have mul : ∀ G, opMul [.int y, .int 1] G = .ok (.int y) G := fun G => by
      simp only [opMul, if_pos (Or.inr (by decide) : (-(2 ^ 64) < y ∧ y < 2 ^ 64) ∨ (-(2 ^ 64) < (1 : Int) ∧ (1 : Int) < 2 ^ 64)), Int.mul_one]
    exact ⟨y, .int y, by omega, by simp [drB, feedO, e1, ab, hp18, hx, mul, bi]⟩
  · have mul : ∀ G, opMul [.int y, .int 0] G = .ok (.int 0) G := fun G => by
      simp only [opMul, if_pos (Or.inr (by decide) : (-(2 ^ 64) < y ∧ y < 2 ^ 64) ∨ (-(2 ^ 64) < (0 : Int) ∧ (0 : Int) < 2 ^ 64)), Int.mul_zero]
    exact ⟨0, .int y, by omega, by simp [drB, feedO, e1, ab, hp18, hx, mul, bi]⟩
theorem dr_loop {cs : List Int} {a n : Int} {R : GH} : ∀ (k : Nat) (b c : Int) (x2 : Option PV), 0 ≤ b → 0 ≤ c → cs.length < k + c.toNat → 1 ≤ k → ∃ b' c' x, 0 ≤ b' ∧ 0 ≤ c' ∧ loopW drC drB k [some (.obj 0), some (.int n), x2, none, none] (feedO cs a b c :: R) = .ok (.next [some (.obj 0), some (.int n), x, none, none]) (feedO cs a b' c' :: R)
  | 0, b, c, x2, hb, hc, hk, k1 => by omega
  | k + 1, b, c, x2, hb, hc, hk, k1 => by
    by_cases h : b = 0 ∧ c < cs.length
    · obtain ⟨rfl, h⟩ := h
      obtain ⟨b', x, hb', e⟩ := dr_body (a := a) (n := n) (x2 := x2) (R := R) hc h
      obtain ⟨b2, c2, x', h1, h2, e2⟩ := dr_loop (cs := cs) (a := a) (n := n) (R := R) k b' (c + 1) (some x) hb' (by omega) (by omega) (by omega)
      exact ⟨b2, c2, x', h1, h2, by simp only [loopW, dr_cond, Res.bind_ok, h, decide_true, Bool.and_self, if_true, e, e2]⟩
    · refine ⟨b, c, x2, hb, hc, ?_⟩
      have : (decide (b = 0) && decide (c < cs.length)) = false := by
        by_cases h0 : b = 0
        · have : ¬ c < cs.length := fun q => h ⟨h0, q⟩
          simp [this]
        · simp [h0]
      simp only [loopW, dr_cond, Res.bind_ok, this, Bool.false_eq_true, if_false]
/-- what a draw tells -/
def SpDraw4 (f : List PV → GH → Res PV) : Prop := ∀ (cs : List Int) (a b c n : Int) (R : GH), 0 < n → n ≤ 1000000 → 0 ≤ a → a ≤ 1000000 → 0 ≤ b → 0 ≤ c → cs.length ≤ 63 →
  ∃ r b' c', 0 ≤ r ∧ r < n ∧ 0 ≤ b' ∧ 0 ≤ c' ∧ f [.obj 0, .int n] (feedO cs a b c :: R) = .ok (.int r) (feedO cs (a + 1) b' c' :: R)
theorem draw_sp4 : SpDraw4 (defV 2 G4.N__law_draw G4.b__law_draw) := by
  intro cs a b c n R n0 n1 ha ha2 hb hc hl
  have n2 : n ≠ 0 := by omega
  have n3 : n.natAbs < 1073741824 := by omega
  obtain ⟨b1, c1, x, hb1, hc1, e⟩ := dr_loop (cs := cs) (a := a + 1) (n := n) (R := R) 100 b c none hb hc (by omega) (by omega)
  have en : env0 G4.N__law_draw.length [PV.obj 0, PV.int n] = [some (.obj 0), some (.int n), none, none, none] := rfl
  have st : ∀ G2 r, drT [some (.obj 0), some (.int n), x, none, none] (feedO cs (a + 1) b1 c1 :: R) = .ok (.ret (.int r)) (G2 :: R) → defV 2 G4.N__law_draw G4.b__law_draw [.obj 0, .int n] (feedO cs a b c :: R) = .ok (.int r) (G2 :: R) := fun G2 r h => by
    have e0 : sSet (m2 (m2 (mVar 0) (mCst (.int 1)) opIx) (mCst (.int 1)) opAdd) (mVar 0) (mCst (.int 1)) fSetL [some (.obj 0), some (.int n), none, none, none] (feedO cs a b c :: R) = .ok (.next [some (.obj 0), some (.int n), none, none, none]) (feedO cs (a + 1) b c :: R) := by simp [feedO]
    have eb : G4.b__law_draw [some (.obj 0), some (.int n), none, none, none] (feedO cs a b c :: R) = .ok (.ret (.int r)) (G2 :: R) := by
      rw [draw_eq]
      simp only [sSeq_ap, e0, Res.bind_ok, e, h]
    simp only [defV, en, eb]
    simp
  by_cases hb0 : 0 < b1
  · refine ⟨b1.fmod n, b1.fdiv n, c1, (fmod_lt' n0).1, (fmod_lt' n0).2, fdiv_nn hb1 n0, hc1, st _ _ ?_⟩
    simp [drT, feedO, opMod_ii n2, opDiv_ii n2 n3, hb0]
  · have hb1 : b1 = 0 := by omega
    subst hb1
    have cell : ∃ c : Int, cs = [] ∧ c = 5 ∨ cs ≠ [] ∧ atI (cs.map PV.int) ((a + 1).fmod cs.length) = some (.int c) := by
      by_cases hc : cs = []
      · exact ⟨5, .inl ⟨hc, rfl⟩⟩
      · have hl : 0 < (cs.length : Int) := by
          cases cs with
          | nil => exact absurd rfl hc
          | cons _ _ => simp only [List.length_cons]; omega
        obtain ⟨c, e⟩ := atI_map (cs := cs) (fmod_lt' (a := a + 1) hl).1 (fmod_lt' hl).2
        exact ⟨c, .inr ⟨hc, e⟩⟩
    obtain ⟨c, cell⟩ := cell
    have mm : ∀ x : Int, 0 ≤ x.fmod 1000003 ∧ x.fmod 1000003 < 1000003 := fun x => fmod_lt' (by decide)
    have mm2 : ∀ x : Int, 0 ≤ x.fmod 2147483647 ∧ x.fmod 2147483647 < 2147483647 := fun x => fmod_lt' (by decide)
    have sq : 613 * (a + 1) * (a + 1 + 7) ≤ 613 * 1000001 * 1000008 := Int.mul_le_mul (by omega) (by omega) (by omega) (by omega)
    have sq0 : 0 ≤ 613 * (a + 1) * (a + 1 + 7) := Int.mul_nonneg (by omega) (by omega)
    have hk : ∀ X : Int, 0 ≤ X → X < 2147483647 → (X + 4099 * (a + 1)).natAbs < 2 ^ 64 := fun X h1 h2 => by omega
    have e1 : ∀ G, opMod [.int c, .int 1000003] G = .ok (.int (c.fmod 1000003)) G := fun G => opMod_ii (by decide)
    have e2 : ∀ (i : Int) G, opMod [.int i, .int 2147483647] G = .ok (.int (i.fmod 2147483647)) G := fun i G => opMod_ii (by decide)
    have e3 : ∀ (i : Int) G, opMod [.int i, .int 2147483587] G = .ok (.int (i.fmod 2147483587)) G := fun i G => opMod_ii (by decide)
    have e4 : ∀ (i : Int) G, opDiv [.int i, .int 7] G = .ok (.int (i.fdiv 7)) G := fun i G => opDiv_ii (by decide) (by decide)
    have e5 : ∀ (j : Int) G, opMul [.int 613, .int j] G = .ok (.int (613 * j)) G := fun i G => opMul_ii (by decide)
    have e51 : ∀ (j : Int) G, opMul [.int (613 * (a + 1)), .int j] G = .ok (.int (613 * (a + 1) * j)) G := fun i G => opMul_ii (by omega)
    have e6 : ∀ (j : Int) G, opMul [.int 4099, .int j] G = .ok (.int (4099 * j)) G := fun i G => opMul_ii (by decide)
    have m1 := mm c
    generalize hT : 613 * (a + 1) * (a + 1 + 7) = T at sq sq0
    have e7 : ∀ G, opPow [.int (c.fmod 1000003 + T + 17), .int 5] G = .ok (.int ((c.fmod 1000003 + T + 17) ^ 5)) G := fun G => opPow_ii (by decide) (by decide) (by omega)
    have e8 : ∀ (i : Int) G, opPow [.int (i.fmod 2147483647 + 4099 * (a + 1)), .int 5] G = .ok (.int ((i.fmod 2147483647 + 4099 * (a + 1)) ^ 5)) G := fun i G => opPow_ii (by decide) (by decide) (hk _ (mm2 i).1 (mm2 i).2)
    refine ⟨(((((c.fmod 1000003 + T + 17) ^ 5).fmod 2147483647 + 4099 * (a + 1)) ^ 5).fmod 2147483587).fdiv 7 |>.fmod n, 0, c1, (fmod_lt' n0).1, (fmod_lt' n0).2, by omega, hc1, st _ _ ?_⟩
    rcases cell with ⟨hc, rfl⟩ | ⟨hc, cell⟩
    · subst hc
      simp at e1 e7
      simp [drT, feedO, opMod_ii n2, e1, e2, e3, e4, e5, e51, e6, hT, e7, e8]
    · have hl2 : (cs.length : Int) ≠ 0 := by
        cases cs with
        | nil => exact absurd rfl hc
        | cons _ _ => simp only [List.length_cons]; omega
      simp [drT, feedO, opMod_ii n2, hc, opMod_ii hl2, ixR_some cell, e1, e2, e3, e4, e5, e51, e6, hT, e7, e8]
end EV.NV
end
section
/-! R8: plain ones, trees, paths, tests, indexes, moves by draws (k19 to k36). -/
set_option Elab.async false
set_option linter.all false
set_option maxRecDepth 100000
set_option maxHeartbeats 1000000
namespace EV.NV
open PySem PySem.Spec PyProof.Rows L2
/-- the feed with at most D draws behind it -/
def Fd4 (D : Nat) (g : GO) : Prop := ∃ (cs : List Int) (a b c : Int), g = feedO cs a b c ∧ 0 ≤ a ∧ a ≤ D ∧ 0 ≤ b ∧ 0 ≤ c ∧ cs.length ≤ 63
theorem Fd4.mono {D D' : Nat} {g : GO} (h : Fd4 D g) (hd : D ≤ D') : Fd4 D' g := by
  obtain ⟨cs, a, b, c, e, h1, h2, h3, h4, h5⟩ := h
  exact ⟨cs, a, b, c, e, h1, by omega, h3, h4, h5⟩
theorem trim_fd4 {D : Nat} {g g' : GO} {R S : GH} {p : PV} (hg : Fd4 D g') (h : datB p = true) : trimR (g :: R) (.ok p (g' :: (R ++ S))) = .ok p (g' :: R) := by
  obtain ⟨cs, a, b, d, rfl, _⟩ := hg
  exact trim_feed h
theorem wq_draw4 {f : List PV → GH → Res PV} (hf : SpDraw4 f) {D : Nat} {g : GO} (hg : Fd4 D g) {n : Int} {R : GH} {Q : PV → GH → Prop} (hn : 0 < n) (hn2 : n ≤ 1000000) (hD : D ≤ 1000000)
    (k : ∀ (r : Int) (g' : GO), 0 ≤ r → r < n → Fd4 (D + 1) g' → Q (.int r) (g' :: R)) : @wq PV (f [.obj 0, .int n] (g :: R)) ⟨Q⟩ := by
  obtain ⟨cs, a, b, c, rfl, h1, h2, h3, h4, h5⟩ := hg
  obtain ⟨r, b', c', q1, q2, q3, q4, e⟩ := hf cs a b c n R hn hn2 h1 (by omega) h3 h4 h5
  exact wq_eq e (k r _ q1 q2 ⟨cs, a + 1, b', c', rfl, by omega, by omega, q3, q4, h5⟩)
def SpG4 (c : Nat) (P : PV → Prop) (f : List PV → GH → Res PV) (args : List PV) : Prop := ∀ (D : Nat) (g : GO) (R : GH), Fd4 D g → D + c ≤ 900000 → @wq PV (f (.obj 0 :: args) (g :: R)) ⟨fun q G' => ∃ g', G' = g' :: R ∧ Fd4 (D + c) g' ∧ P q⟩
theorem wq_G4 {c : Nat} {P : PV → Prop} {f : List PV → GH → Res PV} {args : List PV} (hf : SpG4 c P f args) {D : Nat} {g : GO} {R : GH} {Q : PV → GH → Prop} (hg : Fd4 D g) (hD : D + c ≤ 900000) (k : ∀ p g', Fd4 (D + c) g' → P p → Q p (g' :: R)) : @wq PV (f (.obj 0 :: args) (g :: R)) ⟨Q⟩ :=
  wq_use (hf D g R hg hD) fun p G' ⟨g', e, h1, h2⟩ => by subst e; exact k p g' h1 h2
theorem end_fd4 {g g' : GO} {R S : GH} {D : Nat} {p : PV} {Q : PV → GH → Prop} (hg : Fd4 D g') (h : datB p = true) (q : Q p (g' :: R)) : @wq PV (bodyEnd (.ret p) (g' :: (R ++ S))) ⟨fun v G2 => @wq PV (trimR (g :: R) (.ok v G2)) ⟨Q⟩⟩ := by
  show @wq PV (.ok p (g' :: (R ++ S))) ⟨fun v G2 => @wq PV (trimR (g :: R) (.ok v G2)) ⟨Q⟩⟩
  rw [wq_ok, trim_fd4 hg h, wq_ok]
  exact q
theorem end_fd40 {g g' : GO} {R : GH} {D : Nat} {p : PV} {Q : PV → GH → Prop} (hg : Fd4 D g') (h : datB p = true) (q : Q p (g' :: R)) : @wq PV (bodyEnd (.ret p) (g' :: R)) ⟨fun v G2 => @wq PV (trimR (g :: R) (.ok v G2)) ⟨Q⟩⟩ := by
  have := end_fd4 (g := g) (S := []) (R := R) (Q := Q) hg h q
  rwa [List.append_nil] at this
theorem wq_seq4 {s t : EV.Env → GH → Res Fl} {ρ : EV.Env} {G : GH} {Q : Fl → GH → Prop} (P : EV.Env → GH → Prop) (h : @wq Fl (s ρ G) ⟨fun fl G' => ∃ ρ', fl = .next ρ' ∧ P ρ' G'⟩) (k : ∀ ρ' G', P ρ' G' → @wq Fl (t ρ' G') ⟨Q⟩) : @wq Fl (sSeq s t ρ G) ⟨Q⟩ :=
  wq_seq (wq_use h fun fl G' ⟨ρ', e, hP⟩ => by subst e; exact goOn_next (k ρ' G' hP))
/-! ### small, numbers at most nine -/
theorem SmI.dat {w d m : Nat} {p : PV} (h : SmI w d m p) : datB p = true := h.1.dat
theorem smI_t1 {a : PV} {u d m : Nat} (ha : SmI u d m a) (hm : 1 ≤ m) : SmI (u + 1) (d + 1) m (.tup [a]) := by
  obtain ⟨⟨a1, a2, a3, a4⟩, a5⟩ := ha
  exact ⟨⟨by simp [fitX, fitXs, a1], by simp [wgt, wgts]; omega, by simp [dep, deps]; omega, by simp [lnm, lnms]; omega⟩, by simp [mxi, mxis]; omega⟩
theorem smI_t2 {a b : PV} {u v d m : Nat} (ha : SmI u d m a) (hb : SmI v d m b) (hm : 2 ≤ m) : SmI (u + v + 2) (d + 1) m (.tup [a, b]) := by
  obtain ⟨⟨a1, a2, a3, a4⟩, a5⟩ := ha
  obtain ⟨⟨b1, b2, b3, b4⟩, b5⟩ := hb
  exact ⟨⟨by simp [fitX, fitXs, a1, b1], by simp [wgt, wgts]; omega, by simp [dep, deps]; omega, by simp [lnm, lnms]; omega⟩, by simp [mxi, mxis]; omega⟩
theorem smI_t3 {a b c : PV} {u v w d m : Nat} (ha : SmI u d m a) (hb : SmI v d m b) (hc : SmI w d m c) (hm : 3 ≤ m) : SmI (u + v + w + 3) (d + 1) m (.tup [a, b, c]) := by
  obtain ⟨⟨a1, a2, a3, a4⟩, a5⟩ := ha
  obtain ⟨⟨b1, b2, b3, b4⟩, b5⟩ := hb
  obtain ⟨⟨c1, c2, c3, c4⟩, c5⟩ := hc
  exact ⟨⟨by simp [fitX, fitXs, a1, b1, c1], by simp [wgt, wgts]; omega, by simp [dep, deps]; omega, by simp [lnm, lnms]; omega⟩, by simp [mxi, mxis]; omega⟩
theorem smI_t4 {a b c e : PV} {u v w x d m : Nat} (ha : SmI u d m a) (hb : SmI v d m b) (hc : SmI w d m c) (he : SmI x d m e) (hm : 4 ≤ m) : SmI (u + v + w + x + 4) (d + 1) m (.tup [a, b, c, e]) := by
  obtain ⟨⟨a1, a2, a3, a4⟩, a5⟩ := ha
  obtain ⟨⟨b1, b2, b3, b4⟩, b5⟩ := hb
  obtain ⟨⟨c1, c2, c3, c4⟩, c5⟩ := hc
  obtain ⟨⟨e1, e2, e3, e4⟩, e5⟩ := he
  exact ⟨⟨by simp [fitX, fitXs, a1, b1, c1, e1], by simp [wgt, wgts]; omega, by simp [dep, deps]; omega, by simp [lnm, lnms]; omega⟩, by simp [mxi, mxis]; omega⟩
theorem smI_tup {xs : List PV} {w d m c : Nat} (h : ∀ x ∈ xs, SmI w d m x) (hc : xs.length ≤ c) (hm : c ≤ m) : SmI (c * (w + 1)) (d + 1) m (.tup xs) := by
  have hw := wgts_le fun x hx => (h x hx).1.w
  have h2 : xs.length * (w + 1) ≤ c * (w + 1) := Nat.mul_le_mul_right _ hc
  exact ⟨sm_tup (fun x hx => ⟨(h x hx).1.f, (h x hx).1.d, (h x hx).1.m⟩) (by omega) (by omega), mxi_tup fun x hx => (h x hx).2⟩
theorem smI_bl {b : Bool} {w d m : Nat} (hw : 1 ≤ w) : SmI w d m (.bl b) := ⟨⟨by simp [fitX], by simp [wgt]; try omega, by simp [dep], by simp [lnm]⟩, by simp [mxi]⟩
theorem smI_non {w d m : Nat} (hw : 1 ≤ w) : SmI w d m .non := ⟨⟨by simp [fitX], by simp [wgt]; try omega, by simp [dep], by simp [lnm]⟩, by simp [mxi]⟩
theorem smI_int {i : Int} {w d m : Nat} (h : i.natAbs ≤ 9) (hw : 20 ≤ w) : SmI w d m (.int i) := ⟨sm_int (by omega) hw, by simpa [mxi] using h⟩
def wordsL : List Str := (["", "a", "b", "c", "k", "d", "a1", "field", "each", "at"] : List Str) ++ (["where", "there", "like", "below", "above", "not", "and", "or", "by", "far"] : List Str) ++ (["quick", "zzzzzzzz", "put", "move", "cut", "into", "out", "row", "tree", "ann"] : List Str) ++ (["bo", "cy", "dot", "gone", "index", "bare", "shape"] : List Str)
theorem wordsL_ok : ∀ s ∈ wordsL, PyData.strOk s = true ∧ s.cps.size ≤ 8 := by decide +kernel
theorem smI_w {s : Str} {w d m : Nat} (h : s ∈ wordsL) (hw : 8 ≤ w) : SmI w d m (.str s) := by
  have := wordsL_ok s h
  exact ⟨⟨by simp [fitX, this.1]; omega, by simp [wgt]; omega, by simp [dep], by simp [lnm]⟩, by simp [mxi]⟩
theorem smI_sg {c : Nat} {w d m : Nat} (h : c < 128) (hw : 1 ≤ w) : SmI w d m (sg c) :=
  ⟨sm_str (k := 1) (x := ⟨#[c]⟩) (fun x hx => by
    have : x = c := by simpa using hx
    omega) (by simp) (by decide) hw, by simp [sg, mxi]⟩
/-- one sign of a short text -/
theorem sign_of {z : Str} {n : Nat} (hz : z.cps.toList.length = n) (hn : n ≤ 100) (hc : ∀ c ∈ z.cps.toList, c < 128) {i : Int} {G : GH} (h0 : 0 ≤ i) (h1 : i < n) : ∃ c : Nat, c < 128 ∧ c ∈ z.cps.toList ∧ opIx [.str z, .int i] G = .ok (sg c) G := by
  obtain ⟨c, e, m⟩ := atI_memN (ps := z.cps.toList) h0 (by rw [hz]; exact h1)
  have hs : z.cps.size ≤ 4000 := by rw [show z.cps.size = z.cps.toList.length by simp, hz]; omega
  exact ⟨c, hc c m, m, ix_str hs e⟩
/-! ### plain ones -/
def plains4 : List PV := [.int 0, .int 1, .int 2, .int (-3), .bl true, .bl false, .str "", .str "a1", .str "b", .int 1, .str "a1"]
abbrev Pl4 (p : PV) : Prop := p ∈ plains4
theorem pl4_sm {p : PV} (h : Pl4 p) {d m : Nat} : SmI 20 d m p := by
  simp only [Pl4, plains4, List.mem_cons, List.not_mem_nil, or_false] at h
  rcases h with rfl | rfl | rfl | rfl | rfl | rfl | rfl | rfl | rfl | rfl | rfl <;> first | exact smI_int (by decide) (by decide) | exact smI_bl (by decide) | exact smI_w (by simp [wordsL]) (by decide)
abbrev SpPl4 (f : List PV → GH → Res PV) : Prop := SpG4 1 Pl4 f []
theorem plain_sp4 {f} (hd : SpDraw4 f) : SpPl4 (defV 1 G4.N__law_plain (G4.b__law_plain f)) := by
  intro D g R hg hD
  have sz := size_line
  refine wq_def rfl ?_
  unfold G4.b__law_plain
  refine wq_ret (fun p G' => ∃ g', G' = g' :: R ∧ Fd4 (D + 1) g' ∧ Pl4 p) ?_ fun p G' ⟨g', e, h1, h2⟩ => by subst e; exact end_fd40 h1 (pl4_sm h2 (d := 0) (m := 0)).dat ⟨g', rfl, h1, h2⟩
  simp [env0, G4.N__law_plain, sz]
  refine wq_draw4 hd hg (by decide) (by decide) (by omega) fun r g1 r0 r1 hg1 => ?_
  simp
  exact wq_ix r0 (by simpa using r1) fun x hx => ⟨g1, rfl, hg1, hx⟩
theorem fin4 {c D : Nat} {g : GO} {R : GH} {P : PV → Prop} (hP : ∀ p, P p → datB p = true) : ∀ p G', (∃ g' S, G' = g' :: (R ++ S) ∧ Fd4 (D + c) g' ∧ P p) → @wq PV (bodyEnd (.ret p) G') ⟨fun v G2 => @wq PV (trimR (g :: R) (.ok v G2)) ⟨fun q G' => ∃ g', G' = g' :: R ∧ Fd4 (D + c) g' ∧ P q⟩⟩ := fun p G' ⟨g', S, e, h1, h2⟩ => by
  subst e
  exact end_fd4 h1 (hP p h2) ⟨g', rfl, h1, h2⟩
theorem nilS {g : GO} {R : GH} : g :: R = g :: (R ++ []) := by rw [List.append_nil]
/-! ### paths -/
abbrev SpRo4 (f : List PV → GH → Res PV) : Prop := SpG4 6 (SmI 150 2 3) f []
def fieldV (c : Nat) : PV := .tup [.str "field", sg c]
theorem field_sm {c : Nat} (h : c < 128) {d m : Nat} (hm : 2 ≤ m) : SmI 11 (d + 1) m (fieldV c) := smI_t2 (smI_w (w := 8) (by simp [wordsL]) (by decide)) (smI_sg (w := 1) h (by decide)) hm
theorem route_sp4 {fd fp} (hd : SpDraw4 fd) (hp : SpPl4 fp) : SpRo4 (defV 1 G4.N__law_route (G4.b__law_route fd fp)) := by
  intro D g R hg hD
  have sz := size_line
  have eN : env0 G4.N__law_route.length [PV.obj 0] = [some (.obj 0), none, none, none] := rfl
  refine wq_def rfl ?_
  rw [eN]
  unfold G4.b__law_route
  refine wq_seq4 (fun ρ G' => ∃ a b g', a < 128 ∧ b < 128 ∧ ρ = [some (.obj 0), none, some (fieldV a), some (fieldV b)] ∧ G' = g' :: R ∧ Fd4 (D + 2) g') ?_ fun ρ G' ⟨a, b, g1, ha, hb, e1, e2, hg1⟩ => ?_
  · simp [sPar, sz]
    refine wq_draw4 hd hg (by decide) (by decide) (by omega) fun r g1 r0 r1 hg1 => ?_
    obtain ⟨a, ha, _, e⟩ := sign_of (z := "abcad") (n := 5) (G := g1 :: R) (by decide) (by decide) (by decide +kernel) r0 r1
    simp [e, sz]
    refine wq_draw4 hd hg1 (by decide) (by decide) (by omega) fun r g2 r0 r1 hg2 => ?_
    obtain ⟨b, hb, _, e⟩ := sign_of (z := "akb") (n := 3) (G := g2 :: R) (by decide) (by decide) (by decide +kernel) r0 r1
    simp [e, sz]
    exact ⟨a, ha, b, hb, ⟨rfl, rfl⟩, hg2⟩
  subst e1 e2
  have fa := field_sm ha (d := 0) (m := 3) (by decide)
  have fb := field_sm hb (d := 0) (m := 3) (by decide)
  generalize fieldV a = A at *
  generalize fieldV b = B at *
  have each : SmI 9 1 3 (.tup [.str "each"]) := smI_t1 (smI_w (w := 8) (by simp [wordsL]) (by decide)) (by decide)
  refine wq_seq4 (fun ρ G' => ∃ ps g', (∀ p ∈ ps, SmI 150 2 3 p) ∧ ps.length = 5 ∧ ρ = [some (.obj 0), some (.lst ps), some A, some B] ∧ G' = g' :: R ∧ Fd4 (D + 3) g') ?_ fun ρ G' ⟨ps, g2, hps, hl, e1, e2, hg2⟩ => ?_
  · simp [sz]
    refine wq_draw4 hd hg1 (by decide) (by decide) (by omega) fun r g2 r0 r1 hg2 => ?_
    simp [sz]
    have at_ : SmI 30 1 3 (.tup [.str "at", .int r]) := smI_t2 (smI_w (w := 8) (by simp [wordsL]) (by decide)) (smI_int (w := 20) (by omega) (by decide)) (by decide)
    refine ⟨_, ?_, ?_, rfl, hg2⟩
    · intro p hp
      simp only [List.mem_cons, List.not_mem_nil, or_false] at hp
      rcases hp with rfl | rfl | rfl | rfl | rfl
      · exact (smI_t1 fa (by decide)).mono (by omega) (by omega) (by omega)
      · exact (smI_t1 fa (by decide)).mono (by omega) (by omega) (by omega)
      · exact (smI_t2 fa each (by decide)).mono (by omega) (by omega) (by omega)
      · exact (smI_t3 fa each fb (by decide)).mono (by omega) (by omega) (by omega)
      · exact (smI_t2 fa at_ (by decide)).mono (by omega) (by omega) (by omega)
    · rfl
  subst e1 e2
  refine wq_seq4 (fun ρ G' => ∃ ps g', (∀ p ∈ ps, SmI 150 2 3 p) ∧ ps.length = 7 ∧ ρ = [some (.obj 0), some (.lst ps), some A, some B] ∧ G' = g' :: R ∧ Fd4 (D + 4) g') ?_ fun ρ G' ⟨qs, g3, hqs, hl2, e1, e2, hg3⟩ => ?_
  · simp [sz]
    refine wq_G4 hp hg2 (by omega) fun p g3 hg3 h => ?_
    have w : SmI 40 1 3 (.tup [.str "where", .str "k", p]) := (smI_t3 (smI_w (w := 8) (by simp [wordsL]) (by decide)) (smI_w (w := 8) (by simp [wordsL]) (by decide)) (pl4_sm h (d := 0) (m := 3)) (by decide)).mono (by decide) (by decide) (by decide)
    simp [sz, hl]
    refine ⟨_, fun p hp => ?_, ?_, rfl, hg3⟩
    · simp only [List.mem_append, List.mem_cons, List.not_mem_nil, or_false] at hp
      rcases hp with hp | rfl | rfl
      · exact hps p hp
      · exact (smI_t2 fa fb (by decide)).mono (by omega) (by omega) (by omega)
      · exact (smI_t3 fa w fb (by decide)).mono (by omega) (by omega) (by omega)
    · simp [hl]
  subst e1 e2
  refine wq_ret (fun p G' => ∃ g' S, G' = g' :: (R ++ S) ∧ Fd4 (D + 6) g' ∧ SmI 150 2 3 p) ?_ (fin4 fun p h => h.dat)
  simp
  refine wq_draw4 hd hg3 (by decide) (by decide) (by omega) fun r g4 r0 r1 hg4 => ?_
  simp
  exact wq_ix r0 (by rw [hl2]; exact r1) fun x hx => ⟨g4, [], nilS, hg4.mono (by omega), hqs x hx⟩
end EV.NV
end
section
/-! R9: tests, indexes, moves by draws (k19 to k36). -/
set_option Elab.async false
set_option linter.all false
set_option maxRecDepth 100000
set_option maxHeartbeats 1000000
namespace EV.NV
open PySem PySem.Spec PyProof.Rows L2
theorem in_i {i : Int} {js : List Int} {G : GH} : Cop.in_.f [.int i, .tup (js.map .int)] G = .ok (.bl (js.any fun j => decide (j = i))) G := by
  have e : (js.map PV.int).all flatP = true := by simp [List.all_eq_true, flatP]
  have e2 : inP G (.int i) (.tup (js.map .int)) = some ((js.map PV.int).any fun z => eqFl z (.int i)) := by
    simp only [inP, asS, e, flatP, Bool.and_self, if_true]
  simp only [Cop.f, opInN, e2]
  simp only [List.any_map]
  congr 2
theorem in_i2 {i a b : Int} {G : GH} : Cop.in_.f [.int i, .tup [.int a, .int b]] G = .ok (.bl (decide (a = i) || decide (b = i))) G := by
  have := in_i (i := i) (js := [a, b]) (G := G)
  simpa using this
theorem in_i3 {i a b c : Int} {G : GH} : Cop.in_.f [.int i, .tup [.int a, .int b, .int c]] G = .ok (.bl (decide (a = i) || decide (b = i) || decide (c = i))) G := by
  have := in_i (i := i) (js := [a, b, c]) (G := G)
  simpa [Bool.or_assoc] using this
def cWi : Nat → Nat
  | 0 => 10
  | n + 1 => 14 + 2 * cWi n
def wWi : Nat → Nat
  | 0 => 200
  | n + 1 => 20 + 2 * wWi n
theorem cWi10 : ∀ n, 10 ≤ cWi n
  | 0 => by decide
  | n + 1 => by have := cWi10 n; rw [cWi]; omega
theorem wWi200 : ∀ n, 200 ≤ wWi n
  | 0 => by decide
  | n + 1 => by have := wWi200 n; rw [wWi]; omega
/-! ### indexes -/
end EV.NV
end
section
/-! R10: moves, documents by draws (k19 to k36). -/
set_option Elab.async false
set_option linter.all false
set_option maxRecDepth 100000
set_option maxHeartbeats 1000000
namespace EV.NV
open PySem PySem.Spec PyProof.Rows L2
theorem get_mid (g : GO) (R S : GH) (x : GO) : (g :: (R ++ x :: S))[R.length + 1]? = some x := by simp
theorem set_mid (g : GO) (R S : GH) (x y : GO) : (g :: (R ++ x :: S)).set (R.length + 1) y = g :: (R ++ y :: S) := by
  simp [List.set_cons_succ, List.set_append]
/-! ### moves -/
end EV.NV
end
section
/-! R11: trees, documents by draws (k19 to k36). -/
set_option Elab.async false
set_option linter.all false
set_option maxRecDepth 100000
set_option maxHeartbeats 1000000
namespace EV.NV
open PySem PySem.Spec PyProof.Rows L2
/-- what the tree of a dict tells -/
def SpTr4 (f : List PV → GH → Res PV) : Prop := ∀ (k : Nat) (kv : List (Str × PV)) (G : GH), G[k]? = some (.dic (kd kv)) → kv.length ≤ 100 → f [.obj k] G = .ok (treeV (sortK kv)) G
theorem sort_at {k : Nat} {kv : List (Str × PV)} {G : GH} (e : G[k]? = some (.dic (kd kv))) (hl : kv.length ≤ 100) : bSortItems false [.obj k] G = .ok (.lst ((sortK kv).map fldV)) G := by
  have t : txtK (kd kv) = some kv := txtK_map kv
  have l : ((sortK kv).map fun q => PV.tup [.str q.1, q.2]).length ≤ sizeLine := by
    rw [size_line, List.length_map]
    have : (sortK kv).length = kv.length := List.length_mergeSort ..
    omega
  simp only [bSortItems, e, t, mkL, if_pos l, Bool.false_eq_true, if_false]
  try rfl
theorem tree_sp4 : SpTr4 (defV 1 G4.N__law_tree G4.b__law_tree) := by
  intro k kv G e hl
  have s := sort_at e hl
  simp [defV, G4.b__law_tree, G4.N__law_tree, env0, s, bTup, asS, asL, size_line, trim_same]
  try rfl
/-- fields of a small tree -/
def KV4 (w d : Nat) (kv : List (Str × PV)) : Prop := ∀ q ∈ kv, (PyData.strOk q.1 = true ∧ q.1.cps.size ≤ 3) ∧ SmI w d 4 q.2
theorem tree_sm4 {kv : List (Str × PV)} {w d c : Nat} (h : KV4 w d kv) (hc : kv.length ≤ c) (hcm : c ≤ 4) : SmI (6 + c * (w + 6)) (d + 3) 4 (treeV (sortK kv)) := by
  have pm : (sortK kv).Perm kv := List.mergeSort_perm _ _
  refine ⟨treeK_sm (kv := sortK kv) (c := c) (fun q hq => (h q (pm.mem_iff.mp hq)).2.1) (fun q hq => (h q (pm.mem_iff.mp hq)).1) (by rw [pm.length_eq]; omega) hcm (by decide), ?_⟩
  have q1 : mxis ((sortK kv).map fldV) ≤ 9 := mxis_le fun x hx => by
    obtain ⟨q, hq, rfl⟩ := List.mem_map.mp hx
    have := (h q (pm.mem_iff.mp hq)).2.2
    simp [fldV, mxi, mxis]; omega
  simp [treeV, mxi, mxis]; omega
theorem keys_put4 {kv : List (Str × PV)} {w : Str} {v : PV} {Pk : Str → Prop} {Pv : PV → Prop} (h : ∀ q ∈ kv, Pk q.1 ∧ Pv q.2) (hw : Pk w) (hv : Pv v) : ∃ kv' : List (Str × PV), putD (kd kv) (.inr w) v = kd kv' ∧ (∀ q ∈ kv', Pk q.1 ∧ Pv q.2) ∧ kv'.length ≤ kv.length + 1 := keys_put h hw hv
theorem keys_merge {Pk : Str → Prop} {Pv : PV → Prop} : ∀ {l kv : List (Str × PV)}, (∀ q ∈ kv, Pk q.1 ∧ Pv q.2) → (∀ q ∈ l, Pk q.1 ∧ Pv q.2) → ∃ kv', mergeP (kd kv) (kd l) = kd kv' ∧ (∀ q ∈ kv', Pk q.1 ∧ Pv q.2) ∧ kv'.length ≤ kv.length + l.length
  | [], kv, h, _ => ⟨kv, rfl, h, by simp⟩
  | q :: l, kv, h, h2 => by
    have hq := h2 q (List.mem_cons_self ..)
    obtain ⟨kv1, e1, h3, l1⟩ := keys_put4 (w := q.1) (v := q.2) h hq.1 hq.2
    obtain ⟨kv2, e2, h4, l2⟩ := keys_merge (l := l) h3 fun x hx => h2 x (List.mem_cons_of_mem _ hx)
    refine ⟨kv2, ?_, h4, by rw [List.length_cons]; omega⟩
    rw [← e2, ← e1]
    rfl
theorem setA_mid {g : GO} {R S : GH} {kv : List (Str × PV)} {w : Str} {v : PV} {kv' : List (Str × PV)} (h : putD (kd kv) (.inr w) v = kd kv') (hl : kv.length ≤ 100) : fSetA [.obj (R.length + 1), .str w, v] (g :: (R ++ .dic (kd kv) :: S)) = .ok () (g :: (R ++ .dic (kd kv') :: S)) := by
  have l : (kd kv).length < sizeLine := by rw [size_line]; simp [kd]; omega
  simp only [fSetA, get_mid, keyP, if_pos l, set_mid, h]
theorem ok_abck : ∀ s ∈ (["a", "b", "c", "k"] : List Str), PyData.strOk s = true ∧ s.cps.size ≤ 3 := by decide +kernel
/-- the heap of a document under way -/
def LfG (R : GH) (D j : Nat) (G : GH) : Prop := ∃ g S kv, G = g :: (R ++ .dic (kd kv) :: S) ∧ Fd4 D g ∧ kv.length ≤ j ∧ KV4 190 5 kv
theorem leaf_put {m : EV.Env → GH → Res PV} {ρ : EV.Env} {G : GH} {R : GH} {D j : Nat} {w : Str} {Q : Fl → GH → Prop} (hj : j ≤ 50) (h1 : ρ[1]? = some (some (.obj (R.length + 1)))) (h2 : ρ[2]? = some (some (.str w))) (hw : w ∈ (["a", "b", "c", "k"] : List Str))
    (hm : @wq PV (m ρ G) ⟨fun p G' => LfG R D j G' ∧ SmI 190 5 4 p⟩) (k : ∀ G', LfG R D (j + 1) G' → Q (.next ρ) G') : @wq Fl (sSeq (sSet m (mVar 1) (mVar 2) fSetA) sNext ρ G) ⟨Q⟩ := by
  refine wq_seq ?_
  rw [sSet_ap, wq_bind]
  refine wq_use hm fun p G' ⟨⟨g, S, kv, e, hg, hl, hkv⟩, hp⟩ => ?_
  subst e
  obtain ⟨kv', e, k1, k2⟩ := keys_put4 (Pk := fun s => PyData.strOk s = true ∧ s.cps.size ≤ 3) (Pv := SmI 190 5 4) hkv (ok_abck w hw) hp
  simp [h1, h2, setA_mid e (show kv.length ≤ 100 by omega)]
  exact goOn_next (wq_next (k _ ⟨g, S, kv', rfl, hg, by omega, k1⟩))
/-- a comprehension over a list, by what stays -/
theorem wq_compL {ms : EV.Env → GH → Res PV} {el : EV.Env → GH → Res PV} {v : Nat} {own : List Nat} {ρ : EV.Env} {G : GH} {xs : List PV} {Q : PV → GH → Prop} (I : Nat → GH → Prop) (P : PV → Prop)
    (hm : ms ρ G = .ok (.lst xs) G) (h0 : I 0 G)
    (hs : ∀ x ∈ xs, ∀ j G, j < xs.length → I j G → @wq PV (el ((wipeE ρ own).set v (some x)) G) ⟨fun y G' => I (j + 1) G' ∧ P y⟩)
    (hq : ∀ ys G, I xs.length G → (∀ y ∈ ys, P y) → ys.length = xs.length → Q (.lst ys) G) :
    @wq PV (mComp false (mSeq ms) (gN v) mYes el own ρ G) ⟨Q⟩ := by
  have e : mComp false (mSeq ms) (gN v) mYes el own ρ G = (loopC (compF (gN v) mYes el own ρ) (fun _ => true) xs G).bind fun ys G5 => .ok (.lst ys) G5 := by
    unfold mComp mSeq
    rw [hm]
    rfl
  rw [e, wq_bind]
  refine wq_use (wq_loopC1 I P xs 0 h0 (fun _ _ _ => rfl) fun x hx j G p1 p2 hj => ?_) fun ys G' ⟨h1, h2, h3⟩ => ?_
  · unfold compF
    simp only [gN_ap, wq_bind, wq_noX, wq_ok, mYes_ap, if_true]
    exact wq_use (hs x hx j G (by omega) hj) fun y G' ⟨a, b⟩ => (wq_ok _ _ _).mpr ⟨a, y, rfl, b⟩
  · rw [wq_ok]
    rw [Nat.zero_add] at h1
    exact hq ys G' h1 h2 h3
def mPl4 (fp : List PV → GH → Res PV) : EV.Env → GH → Res PV := (mA (mCons (mVar 0) (mNil)) fp)
theorem mpl4 {fp} (hp : SpPl4 fp) {ρ : EV.Env} (h0 : ρ[0]? = some (some (.obj 0))) {D : Nat} {g : GO} {R : GH} {Q : PV → GH → Prop} (hg : Fd4 D g) (hD : D + 1 ≤ 900000) (k : ∀ p g', Fd4 (D + 1) g' → Pl4 p → Q p (g' :: R)) : @wq PV (mPl4 fp ρ (g :: R)) ⟨Q⟩ := by
  simp [mPl4, h0]
  exact wq_G4 hp hg hD k
theorem plain_row {xs : List PV} (h : ∀ x ∈ xs, Pl4 x) (hl : xs.length ≤ 3) : SmI 190 5 4 (.tup [.str "row", .tup xs]) :=
  (smI_t2 (smI_w (w := 8) (by simp [wordsL]) (by decide)) (smI_tup (c := 3) (fun x hx => pl4_sm (h x hx) (d := 3) (m := 4)) hl (by decide)) (by decide)).mono (by decide) (by decide) (by decide)
/-- one small tree, written out -/
theorem disp_sp {fp ft} (hp : SpPl4 fp) (ht : SpTr4 ft) {ρ : EV.Env} (h0 : ρ[0]? = some (some (.obj 0))) {D : Nat} {g : GO} {R : GH} (hg : Fd4 D g) (hD : D + 2 ≤ 900000) :
    @wq PV (mA (mCons (mDisp ["k", "a"] (mCons (mPl4 fp) (mCons (mPl4 fp) (mNil)))) (mNil)) ft ρ (g :: R)) ⟨fun p G' => ∃ g' S, G' = g' :: (R ++ S) ∧ Fd4 (D + 2) g' ∧ SmI 58 3 4 p⟩ := by
  simp only [mA_ap, mCons_ap, mNil_ap, wq_bind, mDisp, List.cons_append]
  refine mpl4 hp h0 hg (by omega) fun p g1 hg1 h1 => ?_
  simp only [wq_bind, wq_ok]
  refine mpl4 hp h0 hg1 (by omega) fun q g2 hg2 h2 => ?_
  have e : (g2 :: (R ++ [GO.dic []]))[(g :: R).length]? = some (.dic []) := by simp
  have e2 : (g2 :: (R ++ [GO.dic []])).set (g :: R).length (.dic (kd [("k", p), ("a", q)])) = g2 :: (R ++ [.dic (kd [("k", p), ("a", q)])]) := by simp
  have e3 : mergeP [] (dkeys ["k", "a"] [p, q]) = kd [("k", p), ("a", q)] := rfl
  simp only [Res.bind_ok, wq_bind, wq_ok, e, e3, e2]
  have e4 := ht (R.length + 1) [("k", p), ("a", q)] (g2 :: (R ++ [.dic (kd [("k", p), ("a", q)])])) (by simp) (by simp)
  refine wq_eq (by simpa using e4) ⟨g2, _, rfl, hg2, ?_⟩
  refine (tree_sm4 (w := 20) (d := 0) (c := 2) (fun q hq => ?_) (by simp) (by decide)).mono (by decide) (by decide) (by decide)
  simp only [List.mem_cons, List.not_mem_nil, or_false] at hq
  rcases hq with rfl | rfl
  · exact ⟨ok_abck "k" (by simp), pl4_sm h1⟩
  · exact ⟨ok_abck "a" (by simp), pl4_sm h2⟩
end EV.NV
end
section
/-! R12: documents by draws (k19 to k36). -/
set_option Elab.async false
set_option linter.all false
set_option maxRecDepth 100000
set_option maxHeartbeats 1000000
namespace EV.NV
open PySem PySem.Spec PyProof.Rows L2
def lfB1 (fd fp : List PV → GH → Res PV) : EV.Env → GH → Res PV := (mA (mCons (mCst (.str "row")) (mCons (mA (mCons (mComp false (mRng (mCons (mA (mCons (mVar 0) (mCons (mCst (.int 4)) (mNil))) fd) (mNil))) (gN 5) (mYes) (mPl4 fp) [5]) (mNil)) bTup) (mNil))) mkTup)
def lfB2 (fd fp ft : List PV → GH → Res PV) : EV.Env → GH → Res PV := (mComp false (mRng (mCons (m2 (mCst (.int 1)) (mA (mCons (mVar 0) (mCons (mCst (.int 2)) (mNil))) fd) opAdd) (mNil))) (gN 5) (mYes) (mA (mCons (mDisp ["k", "a"] (mCons (mPl4 fp) (mCons (mPl4 fp) (mNil)))) (mNil)) ft) [5])
def lfB3 (fd fp : List PV → GH → Res PV) : EV.Env → GH → Res PV := (mA (mCons (mCst (.str "row")) (mCons (mA (mCons (m2 (mVar 4) (m2 (mA (mCons (mPl4 fp) (mNil)) mkLst) (mA (mCons (mVar 0) (mCons (mCst (.int 2)) (mNil))) fd) opMulL) opAdd) (mNil)) bTup) (mNil))) mkTup)
def lfB4 (fd : List PV → GH → Res PV) : EV.Env → GH → Res PV := (mSl (mA (mCons (mCst (.str "a")) (mCons (mCst (.str "b")) (mCons (mCst (.str "k")) (mNil)))) mkLst) (mNoPart) (mPart (m2 (mCst (.int 1)) (mA (mCons (mVar 0) (mCons (mCst (.int 3)) (mNil))) fd) opAdd)) opSl)
def lfB5 (fp ft : List PV → GH → Res PV) : EV.Env → GH → Res PV := (mA (mCons (mA (mCons (mComp false (mSeq (mVar 4)) (gN 6) (mYes) (mA (mCons (mVar 6) (mCons (mPl4 fp) (mNil))) mkTup) [6]) (mNil)) bDict) (mNil)) ft)
def lfBody (fd fp ft : List PV → GH → Res PV) : EV.Env → GH → Res Fl := (sSeq (sAsg (mA (mCons (mVar 0) (mCons (mCst (.int 8)) (mNil))) fd) (gN 3)) (sSeq (sIf (mB (m2 (mVar 3) (mA (mCons (mCst (.int 1)) (mCons (mCst (.int 2)) (mCons (mCst (.int 3)) (mNil)))) mkTup) (Cop.f .in_))) (sSeq (sSet (mPl4 fp) (mVar 1) (mVar 2) fSetA) (sNext)) (sNext)) (sSeq (sIf (mB (m2 (mVar 3) (mCst (.int 4)) (Cop.f .eq))) (sSeq (sSet (lfB1 fd fp) (mVar 1) (mVar 2) fSetA) (sNext)) (sNext)) (sSeq (sIf (mB (m2 (mVar 3) (mA (mCons (mCst (.int 5)) (mCons (mCst (.int 6)) (mNil))) mkTup) (Cop.f .in_))) (sSeq (sAsg (lfB2 fd fp ft) (gN 4)) (sSeq (sSet (lfB3 fd fp) (mVar 1) (mVar 2) fSetA) (sNext))) (sNext)) (sSeq (sIf (mB (m2 (mVar 3) (mCst (.int 7)) (Cop.f .eq))) (sSeq (sAsg (lfB4 fd) (gN 4)) (sSeq (sSet (lfB5 fp ft) (mVar 1) (mVar 2) fSetA) (sNext))) (sNext)) (sNext))))))
theorem leaf_eq (fd fp ft : List PV → GH → Res PV) : G4.b__law_leaf fd fp ft = sSeq (sAsg (mDNew) (gN 1)) (sSeq (sFor (mSeq (mA (mCons (mCst (.str "a")) (mCons (mCst (.str "b")) (mCons (mCst (.str "c")) (mNil)))) mkTup)) (gN 2) (lfBody fd fp ft)) (sSeq (sRet (mA (mCons (mVar 1) (mNil)) ft)) (sNext))) := rfl
section
variable {fd fp ft : List PV → GH → Res PV} (hd : SpDraw4 fd) (hp : SpPl4 fp) (ht : SpTr4 ft) {ρ : EV.Env} (h0 : ρ[0]? = some (some (.obj 0))) {D : Nat} {g : GO} {T : GH}
include hd hp h0
theorem lf1 (hg : Fd4 D g) (hD : D + 4 ≤ 900000) : @wq PV (lfB1 fd fp ρ (g :: T)) ⟨fun p G' => ∃ g', G' = g' :: T ∧ Fd4 (D + 4) g' ∧ SmI 190 5 4 p⟩ := by
  unfold lfB1
  have key : @wq PV (mComp false (mRng (mCons (mA (mCons (mVar 0) (mCons (mCst (.int 4)) (mNil))) fd) (mNil))) (gN 5) (mYes) (mPl4 fp) [5] ρ (g :: T)) ⟨fun p G' => ∃ g' ys, p = .lst ys ∧ G' = g' :: T ∧ Fd4 (D + 4) g' ∧ ys.length ≤ 3 ∧ ∀ y ∈ ys, Pl4 y⟩ := by
    refine wq_compRg (B := 3) (fun j G => ∃ g', G = g' :: T ∧ Fd4 (D + 1 + j) g') Pl4 (by decide) ?_ ?_ ?_
    · simp [h0]
      exact wq_draw4 hd hg (by decide) (by decide) (by omega) fun q g2 q0 q1 hg2 => ⟨q.toNat, by rw [Int.toNat_of_nonneg q0], by omega, g2, rfl, hg2.mono (by omega)⟩
    · intro i j G _ hj ⟨g2, e, h2⟩
      subst e
      exact mpl4 hp (by simp [wipeE, h0]) h2 (by omega) fun p g3 hg3 h => ⟨⟨g3, rfl, hg3.mono (by omega)⟩, h⟩
    · intro ys c G hc ⟨g2, e, h2⟩ hy hl
      exact ⟨g2, ys, rfl, e, h2.mono (by omega), by omega, hy⟩
  simp only [mCons_ap, mA_ap, mNil_ap, mCst_ap, Res.bind_ok, wq_bind]
  refine wq_use key fun p G' ⟨g2, ys, e1, e2, h1, h2, h3⟩ => ?_
  subst e1 e2
  simp [bTup, asS, asL, size_line]
  exact ⟨h1, plain_row h3 h2⟩
include ht
theorem lf2 (hg : Fd4 D g) (hD : D + 5 ≤ 900000) : @wq PV (lfB2 fd fp ft ρ (g :: T)) ⟨fun p G' => ∃ g' S ys, p = .lst ys ∧ G' = g' :: (T ++ S) ∧ Fd4 (D + 5) g' ∧ ys.length ≤ 2 ∧ ∀ y ∈ ys, SmI 58 3 4 y⟩ := by
  unfold lfB2
  refine wq_compRg (B := 2) (fun j G => ∃ g' S, G = g' :: (T ++ S) ∧ Fd4 (D + 1 + j * 2) g') (SmI 58 3 4) (by decide) ?_ ?_ ?_
  · simp [h0]
    exact wq_draw4 hd hg (by decide) (by decide) (by omega) fun q g2 q0 q1 hg2 => by
      simp
      exact ⟨(1 + q).toNat, by omega, by omega, hg2⟩
  · intro i j G _ hj ⟨g2, S, e, h2⟩
    subst e
    refine wq_use (disp_sp hp ht (by simp [wipeE, h0]) h2 (by omega)) fun p G' ⟨g3, S2, e, h3, h4⟩ => ⟨⟨g3, S ++ S2, by rw [e, List.append_assoc], h3.mono (by omega)⟩, h4⟩
  · intro ys c G hc ⟨g2, S, e, h2⟩ hy hl
    exact ⟨g2, S, ys, rfl, e, h2.mono (by omega), by omega, hy⟩
omit ht
theorem lf3 {ys : List PV} (h4 : ρ[4]? = some (some (.lst ys))) (hl : ys.length ≤ 2) (hy : ∀ y ∈ ys, SmI 58 3 4 y) (hg : Fd4 D g) (hD : D + 2 ≤ 900000) : @wq PV (lfB3 fd fp ρ (g :: T)) ⟨fun p G' => ∃ g', G' = g' :: T ∧ Fd4 (D + 2) g' ∧ SmI 190 5 4 p⟩ := by
  unfold lfB3
  simp only [mCons_ap, mA_ap, mNil_ap, mCst_ap, m2_ap, mVar_ap, h4, Res.bind_ok, wq_bind, wq_ok]
  refine mpl4 hp h0 hg (by omega) fun p g2 hg2 h => ?_
  simp [h0, size_line]
  refine wq_draw4 hd hg2 (by decide) (by decide) (by omega) fun q g3 q0 q1 hg3 => ?_
  have em : ∀ G, opMulL [.lst [p], .int q] G = .ok (.lst (List.replicate q.toNat p)) G := fun G => by
    have : (List.replicate q.toNat [p]).flatten = List.replicate q.toNat p := by
      generalize q.toNat = k
      induction k with
      | zero => rfl
      | succ k ih => rw [List.replicate_succ, List.flatten_cons, ih]; rfl
    simp only [opMulL, List.length_cons, List.length_nil, if_pos (⟨q0, by omega, by omega⟩ : 0 ≤ q ∧ q ≤ 1000 ∧ 0 + 1 ≤ 10000), this]
  have l : ys.length + q.toNat ≤ 16777216 := by omega
  simp [em, size_line, l, bTup, asS, asL]
  refine ⟨hg3, (smI_t2 (u := 8) (v := 177) (smI_w (by simp [wordsL]) (by decide)) (smI_tup (c := 3) (w := 58) (d := 3) (m := 4) (fun x hx => ?_) (by simp; omega) (by decide)) (by decide)).mono (by decide) (by decide) (by decide)⟩
  rcases List.mem_append.mp hx with h' | h'
  · exact hy x h'
  · rw [(List.mem_replicate.mp h').2]; exact (pl4_sm h).mono (by decide) (Nat.le_refl 3) (Nat.le_refl 4)
theorem lf4 (hg : Fd4 D g) (hD : D + 1 ≤ 900000) : @wq PV (lfB4 fd ρ (g :: T)) ⟨fun p G' => ∃ g', ∃ ks : List Str, G' = g' :: T ∧ Fd4 (D + 1) g' ∧ p = .lst (ks.map .str) ∧ ks.length ≤ 3 ∧ ∀ s ∈ ks, s ∈ (["a", "b", "c", "k"] : List Str)⟩ := by
  unfold lfB4
  simp [h0, size_line]
  refine wq_draw4 hd hg (by decide) (by decide) (by omega) fun q g3 q0 q1 hg3 => ?_
  simp
  have c1 : cutP [PV.str "a", .str "b", .str "k"] none (some (1 + q)) = ((["a", "b", "k"] : List Str).take (1 + q).toNat).map .str := by
    rw [cut_hi (by omega), List.map_take]; rfl
  simp [opSl_lst, c1]
  refine ⟨hg3, (["a", "b", "k"] : List Str).take (1 + q).toNat, by simp [List.map_take], by simp; omega, fun s hs => ?_⟩
  have := List.mem_of_mem_take hs
  simp only [List.mem_cons, List.not_mem_nil, or_false] at this ⊢
  rcases this with rfl | rfl | rfl <;> simp
end
end EV.NV
end
section
/-! R13: documents by draws, put together (k19 to k36). -/
set_option Elab.async false
set_option linter.all false
set_option maxRecDepth 100000
set_option maxHeartbeats 1000000
namespace EV.NV
open PySem PySem.Spec PyProof.Rows L2
theorem lift_map {α : Type} {f : α → PV} {P : α → Prop} : ∀ {ys : List PV}, (∀ y ∈ ys, ∃ q, y = f q ∧ P q) → ∃ l : List α, ys = l.map f ∧ ∀ q ∈ l, P q
  | [], _ => ⟨[], rfl, fun q hq => absurd hq List.not_mem_nil⟩
  | y :: ys, h => by
    obtain ⟨q, e, hq⟩ := h y (List.mem_cons_self ..)
    obtain ⟨l, e2, hl⟩ := lift_map fun z hz => h z (List.mem_cons_of_mem _ hz)
    refine ⟨q :: l, by rw [List.map_cons, e, e2], fun z hz => ?_⟩
    rcases List.mem_cons.mp hz with rfl | hz
    · exact hq
    · exact hl z hz
section
variable {fd fp ft : List PV → GH → Res PV}
theorem lf5 (hp : SpPl4 fp) (ht : SpTr4 ft) {ρ : EV.Env} (h0 : ρ[0]? = some (some (.obj 0))) {ks : List Str} (h4 : ρ[4]? = some (some (.lst (ks.map .str)))) (hks : ∀ s ∈ ks, s ∈ (["a", "b", "c", "k"] : List Str)) (hl : ks.length ≤ 3) (h6 : 7 ≤ ρ.length)
    {D : Nat} {g : GO} {T : GH} (hg : Fd4 D g) (hD : D + 3 ≤ 900000) : @wq PV (lfB5 fp ft ρ (g :: T)) ⟨fun p G' => ∃ g' S, G' = g' :: (T ++ S) ∧ Fd4 (D + 3) g' ∧ SmI 190 5 4 p⟩ := by
  have l6 : 6 < ρ.length := by omega
  have key : @wq PV (mComp false (mSeq (mVar 4)) (gN 6) (mYes) (mA (mCons (mVar 6) (mCons (mPl4 fp) (mNil))) mkTup) [6] ρ (g :: T)) ⟨fun p G' => ∃ g' ys, p = .lst ys ∧ G' = g' :: T ∧ Fd4 (D + 3) g' ∧ ys.length ≤ 3 ∧ ∀ y ∈ ys, ∃ q : Str × PV, y = fldV q ∧ ((PyData.strOk q.1 = true ∧ q.1.cps.size ≤ 3) ∧ SmI 20 0 4 q.2)⟩ := by
    refine wq_compL (xs := ks.map .str) (fun j G => ∃ g', G = g' :: T ∧ Fd4 (D + j) g') (fun y => ∃ q : Str × PV, y = fldV q ∧ ((PyData.strOk q.1 = true ∧ q.1.cps.size ≤ 3) ∧ SmI 20 0 4 q.2)) (by rw [mVar_ap, h4]) ⟨g, rfl, hg⟩ ?_ ?_
    · intro x hx j G hj ⟨g1, e, hg1⟩
      subst e
      rw [List.length_map] at hj
      obtain ⟨s, hs, rfl⟩ := List.mem_map.mp hx
      have e6 : ((wipeE ρ [6]).set 6 (some (PV.str s)))[6]? = some (some (.str s)) := by simp [wipeE, l6]
      have e0 : ((wipeE ρ [6]).set 6 (some (PV.str s)))[0]? = some (some (.obj 0)) := by simp [wipeE, h0]
      generalize (wipeE ρ [6]).set 6 (some (PV.str s)) = ρ' at e6 e0
      simp only [mA_ap, mCons_ap, mNil_ap, mVar_ap, e6, wq_bind, wq_ok]
      refine mpl4 hp e0 hg1 (by omega) fun p g2 hg2 h => ?_
      simp [size_line]
      exact ⟨hg2.mono (by omega), s, p, ⟨rfl, rfl⟩, ok_abck s (hks s hs), pl4_sm h⟩
    · intro ys G ⟨g1, e, hg1⟩ hy hly
      rw [List.length_map] at hly hg1
      exact ⟨g1, ys, rfl, e, hg1.mono (by omega), by omega, hy⟩
  unfold lfB5
  simp only [mCons_ap, mA_ap, mNil_ap, Res.bind_ok, wq_bind]
  refine wq_use key fun p G' ⟨g2, ys, e1, e2, h1, h2, h3⟩ => ?_
  subst e1 e2
  obtain ⟨kv, e, hkv⟩ := lift_map h3
  subst e
  rw [List.length_map] at h2
  obtain ⟨kv', m1, m2, m3⟩ := keys_merge (Pk := fun s => PyData.strOk s = true ∧ s.cps.size ≤ 3) (Pv := SmI 20 0 4) (kv := []) (l := kv) (fun q hq => absurd hq List.not_mem_nil) hkv
  have eD : bDict [.lst (kv.map fldV)] (g2 :: T) = .ok (.obj (g2 :: T).length) (g2 :: T ++ [.dic (kd kv')]) := by
    have : mergeP [] (kd kv) = kd kv' := m1
    simp only [bDict, asL, Option.bind_some, pairs_kd, this]
  have l3 : kv'.length ≤ 3 := by simp at m3; omega
  have e4 := ht (g2 :: T).length kv' (g2 :: T ++ [.dic (kd kv')]) (by simp) (by omega)
  simp only [wq_ok, wq_bind, Res.bind_ok, eD, e4]
  exact ⟨g2, [.dic (kd kv')], rfl, h1, (tree_sm4 (w := 20) (d := 0) (c := 3) m2 l3 (by decide)).mono (by decide) (by decide) (by decide)⟩
abbrev SpLf4 (f : List PV → GH → Res PV) : Prop := SpG4 30 (SmI 600 8 4) f []
theorem lfBody_sp (hd : SpDraw4 fd) (hp : SpPl4 fp) (ht : SpTr4 ft) {R : GH} {D j : Nat} {s : Str} (hs : s ∈ (["a", "b", "c", "k"] : List Str)) {o3 o4 o5 o6 : Option PV} {G : GH} (hG : LfG R D j G) (hj : j ≤ 40) (hD : D + 10 ≤ 900000) :
    @wq Fl (lfBody fd fp ft [some (.obj 0), some (.obj (R.length + 1)), some (.str s), o3, o4, o5, o6] G) ⟨fun fl G' => ∃ o3 o4 o5 o6, fl = .next [some (.obj 0), some (.obj (R.length + 1)), some (.str s), o3, o4, o5, o6] ∧ LfG R (D + 10) (j + 1) G'⟩ := by
  have sz := size_line
  obtain ⟨g, S, kv, e, hg, hl, hkv⟩ := hG
  subst e
  unfold lfBody
  refine wq_seq4 (fun ρ G' => ∃ r : Int, ∃ g', 0 ≤ r ∧ r < 8 ∧ ρ = [some (.obj 0), some (.obj (R.length + 1)), some (.str s), some (.int r), o4, o5, o6] ∧ G' = g' :: (R ++ .dic (kd kv) :: S) ∧ Fd4 (D + 1) g') ?_ fun ρ G' ⟨r, g1, r0, r1, e1, e2, hg1⟩ => ?_
  · simp
    exact wq_draw4 hd hg (by decide) (by decide) (by omega) fun q g2 q0 q1 hg2 => by
      simp
      exact ⟨q, q0, q1, rfl, hg2⟩
  subst e1 e2
  have lf : ∀ D' g' S', D' ≤ D + 10 → Fd4 D' g' → LfG R (D + 10) j (g' :: (R ++ .dic (kd kv) :: S')) := fun D' g' S' h1 h2 => ⟨g', S', kv, rfl, h2.mono h1, hl, hkv⟩
  have lfm : ∀ G', LfG R (D + 10) j G' → LfG R (D + 10) (j + 1) G' := fun G' ⟨g, S, kv, e, a, b, c⟩ => ⟨g, S, kv, e, a, by omega, c⟩
  have sk : ∀ {c : EV.Env → GH → Res Bool} {u t : EV.Env → GH → Res Fl} {ρ : EV.Env} {G : GH} {Q : Fl → GH → Prop}, c ρ G = .ok false G → @wq Fl (t ρ G) ⟨Q⟩ → @wq Fl (sSeq (sIf c u sNext) t ρ G) ⟨Q⟩ := fun e h => wq_seq (wq_ifF e (wq_next (goOn_next h)))
  have i3 : ∀ {v : Int} {x4 : Option PV} {G : GH}, (mB (m2 (mVar 3) (mA (mCons (mCst (.int 1)) (mCons (mCst (.int 2)) (mCons (mCst (.int 3)) (mNil)))) mkTup) (Cop.f .in_))) [some (.obj 0), some (.obj (R.length + 1)), some (.str s), some (.int v), x4, o5, o6] G = .ok (decide (1 = v) || decide (2 = v) || decide (3 = v)) G := fun {v x4 G} => by simp [sz, in_i3]
  have i2 : ∀ {v : Int} {x4 : Option PV} {G : GH}, (mB (m2 (mVar 3) (mA (mCons (mCst (.int 5)) (mCons (mCst (.int 6)) (mNil))) mkTup) (Cop.f .in_))) [some (.obj 0), some (.obj (R.length + 1)), some (.str s), some (.int v), x4, o5, o6] G = .ok (decide (5 = v) || decide (6 = v)) G := fun {v x4 G} => by simp [sz, in_i2]
  have ie : ∀ {v k : Int} {x4 : Option PV} {G : GH}, (mB (m2 (mVar 3) (mCst (.int k)) (Cop.f .eq))) [some (.obj 0), some (.obj (R.length + 1)), some (.str s), some (.int v), x4, o5, o6] G = .ok (decide (v = k)) G := fun {v k x4 G} => by simp
  by_cases c1 : r = 1 ∨ r = 2 ∨ r = 3
  · have t3 : (decide (1 = r) || decide (2 = r) || decide (3 = r)) = true := by
      rcases c1 with rfl | rfl | rfl <;> rfl
    have t2 : (decide (5 = r) || decide (6 = r)) = false := by
      rcases c1 with rfl | rfl | rfl <;> rfl
    refine wq_seq (wq_ifT (by rw [i3, t3]) (leaf_put (D := D + 10) (j := j) (R := R) (by omega) rfl rfl hs ?_ fun G' hG' => goOn_next ?_))
    · exact mpl4 hp rfl hg1 (by omega) fun p g2 hg2 h => ⟨lf _ _ _ (by omega) hg2, (pl4_sm h).mono (by decide) (Nat.le_refl 5) (Nat.le_refl 4)⟩
    · exact sk (by rw [ie, decide_eq_false (by omega)]) (sk (by rw [i2, t2]) (sk (by rw [ie, decide_eq_false (by omega)]) (wq_next ⟨_, _, _, _, rfl, hG'⟩)))
  have f3 : (decide (1 = r) || decide (2 = r) || decide (3 = r)) = false := by
    simp; omega
  refine sk (by rw [i3, f3]) ?_
  by_cases c4 : r = 4
  · have t2 : (decide (5 = r) || decide (6 = r)) = false := by
      subst c4; rfl
    refine wq_seq (wq_ifT (by rw [ie, decide_eq_true c4]) (leaf_put (D := D + 10) (j := j) (R := R) (by omega) rfl rfl hs ?_ fun G' hG' => goOn_next ?_))
    · exact wq_use (lf1 hd hp rfl hg1 (by omega)) fun p G' ⟨g2, e, hg2, h⟩ => by
        subst e; exact ⟨lf _ _ _ (by omega) hg2, h⟩
    · exact sk (by rw [i2, t2]) (sk (by rw [ie, decide_eq_false (by omega)]) (wq_next ⟨_, _, _, _, rfl, hG'⟩))
  refine sk (by rw [ie, decide_eq_false c4]) ?_
  by_cases c5 : r = 5 ∨ r = 6
  · have t2 : (decide (5 = r) || decide (6 = r)) = true := by
      rcases c5 with rfl | rfl <;> rfl
    refine wq_seq (wq_ifT (by rw [i2, t2]) ?_)
    refine wq_seq4 (fun ρ G' => ∃ g' S' ys, ρ = [some (.obj 0), some (.obj (R.length + 1)), some (.str s), some (.int r), some (.lst ys), o5, o6] ∧ G' = g' :: (R ++ .dic (kd kv) :: S') ∧ Fd4 (D + 6) g' ∧ ys.length ≤ 2 ∧ ∀ y ∈ ys, SmI 58 3 4 y) ?_ fun ρ G' ⟨g2, S', ys, e1, e2, hg2, hys, hy⟩ => ?_
    · rw [sAsg_ap, wq_bind]
      refine wq_use (lf2 hd hp ht rfl hg1 (by omega)) fun p G' ⟨g2, S2, ys, e1, e2, hg2, h1, h2⟩ => ?_
      subst e1 e2
      simp
      exact ⟨hg2.mono (by omega), h1, h2⟩
    subst e1 e2
    refine leaf_put (D := D + 10) (j := j) (R := R) (by omega) rfl rfl hs ?_ fun G' hG' => goOn_next ?_
    · exact wq_use (lf3 hd hp rfl rfl hys hy hg2 (by omega)) fun p G' ⟨g2, e, hg2, h⟩ => by
        subst e; exact ⟨lf _ _ _ (by omega) hg2, h⟩
    · exact sk (by rw [ie, decide_eq_false (by omega)]) (wq_next ⟨_, _, _, _, rfl, hG'⟩)
  have t2 : (decide (5 = r) || decide (6 = r)) = false := by
    simp; omega
  refine sk (by rw [i2, t2]) ?_
  by_cases c7 : r = 7
  · refine wq_seq (wq_ifT (by rw [ie, decide_eq_true c7]) ?_)
    refine wq_seq4 (fun ρ G' => ∃ g', ∃ ks : List Str, ρ = [some (.obj 0), some (.obj (R.length + 1)), some (.str s), some (.int r), some (.lst (ks.map .str)), o5, o6] ∧ G' = g' :: (R ++ .dic (kd kv) :: S) ∧ Fd4 (D + 2) g' ∧ ks.length ≤ 3 ∧ ∀ s ∈ ks, s ∈ (["a", "b", "c", "k"] : List Str)) ?_ fun ρ G' ⟨g2, ks, e1, e2, hg2, hkl, hks⟩ => ?_
    · rw [sAsg_ap, wq_bind]
      refine wq_use (lf4 hd hp rfl hg1 (by omega)) fun p G' ⟨g2, ks, e2, hg2, e1, h1, h2⟩ => ?_
      subst e1 e2
      simp only [gN_ap, Res.bind_ok, wq_ok]
      exact ⟨_, rfl, g2, ks, rfl, rfl, hg2.mono (by omega), h1, h2⟩
    subst e1 e2
    refine leaf_put (D := D + 10) (j := j) (R := R) (by omega) rfl rfl hs ?_ fun G' hG' => goOn_next ?_
    · exact wq_use (lf5 hp ht rfl rfl hks hkl (by simp) hg2 (by omega)) fun p G' ⟨g2, S2, e, hg2, h⟩ => by
        subst e
        rw [List.append_assoc, List.cons_append]
        exact ⟨lf _ _ _ (by omega) hg2, h⟩
    · exact wq_next ⟨_, _, _, _, rfl, hG'⟩
  exact sk (by rw [ie, decide_eq_false c7]) (wq_next ⟨_, _, _, _, rfl, lfm _ (lf _ _ _ (by omega) hg1)⟩)
theorem leaf_sp4 (hd : SpDraw4 fd) (hp : SpPl4 fp) (ht : SpTr4 ft) : SpLf4 (defV 1 G4.N__law_leaf (G4.b__law_leaf fd fp ft)) := by
  intro D g R hg hD
  have sz := size_line
  have eN : env0 G4.N__law_leaf.length [PV.obj 0] = [some (.obj 0), none, none, none, none, none, none] := rfl
  refine wq_def rfl ?_
  rw [eN, leaf_eq]
  refine wq_seq4 (fun ρ G' => ρ = [some (.obj 0), some (.obj (R.length + 1)), none, none, none, none, none] ∧ LfG R D 0 G') (by
    simp
    exact ⟨g, [], [], by simp [kd], hg, by simp, fun q hq => absurd hq List.not_mem_nil⟩) fun ρ G' ⟨e1, hG⟩ => ?_
  subst e1
  refine wq_seq4 (fun ρ G' => ∃ o2 o3 o4 o5 o6, ρ = [some (.obj 0), some (.obj (R.length + 1)), o2, o3, o4, o5, o6] ∧ LfG R (D + 30) 3 G') ?_ fun ρ G' ⟨o2, o3, o4, o5, o6, e1, hG⟩ => ?_
  · have src : mSeq (mA (mCons (mCst (.str "a")) (mCons (mCst (.str "b")) (mCons (mCst (.str "c")) (mNil)))) mkTup) [some (.obj 0), some (.obj (R.length + 1)), none, none, none, none, none] G' = .ok ⟨[.str "a", .str "b", .str "c"], fun _ => true⟩ G' := by
      simp [mSeq, sz, seqSrc]
    refine wq_for src (wq_use (wq_loopF (fun j ρ G => ∃ o2 o3 o4 o5 o6, ρ = [some (.obj 0), some (.obj (R.length + 1)), o2, o3, o4, o5, o6] ∧ LfG R (D + j * 10) j G) [.str "a", .str "b", .str "c"] 0 ⟨none, none, none, none, none, rfl, by simpa using hG⟩ (fun _ _ _ _ => rfl) fun x hx j ρ G p1 p2 ⟨o2, o3, o4, o5, o6, e, hG⟩ => ?_) fun fl G' ⟨ρ', e, o2, o3, o4, o5, o6, e2, hG⟩ => ?_)
    · subst e
      have hs : ∃ s : Str, x = .str s ∧ s ∈ (["a", "b", "c", "k"] : List Str) := by
        simp only [List.mem_cons, List.not_mem_nil, or_false] at hx
        rcases hx with rfl | rfl | rfl <;> exact ⟨_, rfl, by simp⟩
      obtain ⟨s, rfl, hs⟩ := hs
      simp only [List.length_cons, List.length_nil] at p2
      rw [forStep_ap, gN_ap, wq_bind, wq_ok]
      exact wq_use (lfBody_sp hd hp ht hs (o3 := o3) (o4 := o4) (o5 := o5) (o6 := o6) hG (by omega) (by omega)) fun fl G' ⟨o3, o4, o5, o6, e, hG⟩ => ⟨_, .inl e, _, _, _, _, _, rfl, by rw [Nat.succ_mul, ← Nat.add_assoc]; exact hG⟩
    · exact ⟨ρ', e, o2, o3, o4, o5, o6, e2, hG⟩
  subst e1
  obtain ⟨g1, S, kv, e, hg1, hl, hkv⟩ := hG
  subst e
  refine wq_ret _ ?_ (fin4 (P := SmI 600 8 4) fun p h => h.dat)
  have e4 := ht (R.length + 1) kv (g1 :: (R ++ .dic (kd kv) :: S)) (get_mid _ _ _ _) (by omega)
  simp only [mA_ap, mCons_ap, mNil_ap, mVar_ap, List.getElem?_cons_succ, List.getElem?_cons_zero, Res.bind_ok, e4, wq_ok]
  exact ⟨g1, _, rfl, hg1, (tree_sm4 hkv hl (by decide)).mono (by decide) (by decide) (by decide)⟩
end
end EV.NV
end
section
/-! P4: a thing otherwise by one step (k42 to k53): small, too. -/
set_option Elab.async false
set_option linter.all false
set_option maxRecDepth 100000
namespace EV.NV
open PySem PySem.Spec PyProof.Rows L2
theorem ne_tnil {ys : List PV} {G : GH} (h : fitXs ys = true) (d : deps ys ≤ 60) : Cop.ne.f [.tup ys, .tup []] G = .ok (.bl (!ys.isEmpty)) G := by
  have q := fits_layX h
  have h1 : SeqAt.shaped (.tuple (dOfs ys)) = true := by
    simp only [SeqAt.shaped, PyData.canLay0, PyData.depth, q.1, Bool.true_and, decide_eq_true_eq]
    have := q.2.2.1
    exact decide_eq_true (by omega)
  have h2 : SeqAt.shaped (.tuple []) = true := by decide
  simp only [Cop.f, opNe, opEqN, eqP, scalP, toDG, toD, toDs_dat (dats_of_fitX h), toDs, Option.map_some, eqD]
  rw [if_pos ⟨h1, h2⟩]
  cases ys with
  | nil => simp [dOfs, PyData.eqv, PyData.eqvAll]
  | cons y ys => simp [dOfs, PyData.eqv, PyData.eqvAll]
theorem log_le {i j : Int} (h : j.natAbs ≤ 2 * i.natAbs + 1) : j.natAbs.log2 ≤ i.natAbs.log2 + 1 := by
  by_cases z : j.natAbs = 0
  · rw [z]; simp
  · have : j.natAbs.log2 < i.natAbs.log2 + 2 := (Nat.log2_lt z).mpr (by
      have := Nat.lt_log2_self (n := i.natAbs)
      rw [Nat.pow_succ]
      omega)
    omega
theorem sm_num {i j : Int} {w d m b : Nat} (h : Sm w d m (.int i)) (hb : i.natAbs ≤ b) (hbb : b ≤ 10 ^ 50) (hj : j.natAbs ≤ 2 * i.natAbs + 1) : Sm (3 * w + 1001) (d + 2) (m + 2) (.int j) := by
  have hw := h.w
  have := log_le hj
  simp only [wgt] at hw
  exact ⟨by simp only [fitX, decide_eq_true_eq]; omega, by simp only [wgt]; omega, by simp [dep], by simp [lnm]⟩
theorem sm_txt {i : Int} {w d m b : Nat} (hb : i.natAbs ≤ b) (hbb : b ≤ 10 ^ 50) : Sm (3 * w + 1001) d m (.str (Str.ofString (toString i))) := by
  have e := int_text_length_le10 (a := i) (k := 51) (by decide) (by omega)
  have l : (Str.ofString (toString i)).length ≤ 52 := by rw [PySem.ofString_length]; omega
  refine sm_str (k := 52) (fun c hc => ?_) (by simpa [Str.length] using l) (by decide) (by omega)
  by_cases h : c < 1114112
  · exact h
  · exact absurd hc (int_text_free' c ⟨by omega, by omega⟩ i)
end EV.NV
end
section
/-! R14: entries by draws; a thing otherwise (k19 to k36). -/
set_option Elab.async false
set_option linter.all false
set_option maxRecDepth 100000
set_option maxHeartbeats 1000000
namespace EV.NV
open PySem PySem.Spec PyProof.Rows L2
/-! ### a thing otherwise -/
def bt4A (fd : List PV → GH → Res PV) : EV.Env → GH → Res Fl := (sAsg (mA (mCons (mVar 0) (mCons (mCst (.int 9)) (mNil))) fd) (gN 3))
def bt4H (fs fd : List PV → GH → Res PV) : EV.Env → GH → Res Fl := (sIf (mtAnd (mT (m1 (mVar 1) (bIsi "tuple"))) (mtAnd (mB (m2 (mVar 1) (mA (mNil) mkTup) (Cop.f .ne))) (mtAnd (mB (m2 (mVar 2) (mCst (.int 0)) (Cop.f .gt))) (mB (m2 (mVar 3) (mCst (.int 1)) (Cop.f .gt)))))) (sSeq (sAsg (mA (mCons (mVar 0) (mCons (mA (mCons (mVar 1) (mNil)) bLen) (mNil))) fd) (gN 4)) (sSeq (sRet (m2 (m2 (mSl (mVar 1) (mNoPart) (mPart (mVar 4)) opSl) (mA (mCons (mA (mCons (mVar 0) (mCons (m2 (mVar 1) (mVar 4) opIx) (mCons (m2 (mVar 2) (mCst (.int 1)) opSub) (mNil)))) fs) (mNil)) mkTup) opAdd) (mSl (mVar 1) (mPart (m2 (mVar 4) (mCst (.int 1)) opAdd)) (mNoPart) opSl) opAdd)) (sNext))) (sNext))
def bt4T (fd : List PV → GH → Res PV) : EV.Env → GH → Res Fl := (sSeq (sIf (mT (m1 (mVar 1) (bIsi "tuple"))) (sSeq (sAsg (mA (mCons (mVar 0) (mCons (m2 (mA (mCons (mVar 1) (mNil)) bLen) (mCst (.int 1)) opAdd) (mNil))) fd) (gN 4)) (sSeq (sAsg (m2 (mA (mCons (mCst (.int 0)) (mCons (m1 (mCst (.int 1)) opNeg) (mCons (mA (mNil) mkTup) (mCons (mCst .non) (mCons (mCst (.bl true)) (mCons (mCst (.str "a")) (mCons (mA (mCons (mCst (.str "row")) (mCons (mA (mNil) mkTup) (mNil))) mkTup) (mCons (mA (mCons (mCst (.str "tree")) (mCons (mA (mNil) mkTup) (mNil))) mkTup) (mNil))))))))) mkLst) (mA (mCons (mVar 0) (mCons (mCst (.int 8)) (mNil))) fd) opIx) (gN 5)) (sSeq (sAsg (mA (mCons (m2 (m2 (mSl (mVar 1) (mNoPart) (mPart (mVar 4)) opSl) (mA (mCons (mVar 5) (mNil)) mkTup) opAdd) (mSl (mVar 1) (mPart (mVar 4)) (mNoPart) opSl) opAdd) (mCons (m2 (mSl (mVar 1) (mNoPart) (mPart (mVar 4)) opSl) (mSl (mVar 1) (mPart (m2 (mVar 4) (mCst (.int 1)) opAdd)) (mNoPart) opSl) opAdd) (mCons (m2 (m2 (mSl (mVar 1) (mNoPart) (mPart (mVar 4)) opSl) (mA (mCons (mVar 5) (mNil)) mkTup) opAdd) (mSl (mVar 1) (mPart (m2 (mVar 4) (mCst (.int 1)) opAdd)) (mNoPart) opSl) opAdd) (mNil)))) mkLst) (gN 6)) (sSeq (sRet (m2 (m2 (mVar 6) (mA (mCons (mA (mCons (mVar 1) (mNil)) (bLst false)) (mCons (m2 (mVar 1) (mSl (mVar 1) (mPart (m1 (mCst (.int 1)) opNeg)) (mNoPart) opSl) opAdd) (mCons (m1 (mVar 1) opRev) (mNil)))) mkLst) opAdd) (mA (mCons (mVar 0) (mCons (mCst (.int 6)) (mNil))) fd) opIx)) (sNext))))) (sNext)) (sSeq (sIf (mT (m1 (mVar 1) (bIsi "str"))) (sSeq (sRet (m2 (mA (mCons (mCst (.str "tree")) (mCons (mCst (.str "row")) (mCons (mCst (.str "put")) (mCons (mCst (.str "gone")) (mCons (mCst (.str "a")) (mCons (mCst (.str "")) (mCons (mCst (.str "A")) (mCons (mCst (.str "each")) (mCons (mCst (.int 1)) (mCons (mCst (.str "aaaaaaaaa")) (mNil))))))))))) mkLst) (mA (mCons (mVar 0) (mCons (mCst (.int 10)) (mNil))) fd) opIx)) (sNext)) (sNext)) (sSeq (sIf (mtOr (mtNot (mT (m1 (mVar 1) (bIsi "int")))) (mT (m1 (mVar 1) (bIsi "bool")))) (sSeq (sRet (m2 (mA (mCons (mCst (.int 0)) (mCons (mA (mNil) mkTup) (mCons (mCst (.str "a")) (mCons (mCst (.int 1)) (mCons (mCst (.bl true)) (mCons (mCst .non) (mCons (mA (mCons (mCst (.str "there")) (mCons (mA (mCons (mA (mCons (mCst (.str "field")) (mCons (mCst (.str "a")) (mNil))) mkTup) (mNil)) mkTup) (mNil))) mkTup) (mNil)))))))) mkLst) (mA (mCons (mVar 0) (mCons (mCst (.int 7)) (mNil))) fd) opIx)) (sNext)) (sNext)) (sSeq (sRet (m2 (mA (mCons (m2 (mVar 1) (mCst (.int 1)) opAdd) (mCons (m2 (mVar 1) (mCst (.int 1)) opSub) (mCons (mCst (.int 0)) (mCons (m2 (mVar 1) (mCst (.int 1)) (Cop.f .eq)) (mCons (mA (mCons (mVar 1) (mNil)) bStr) (mCons (mCst .non) (mCons (m2 (mCst (.int 0)) (mVar 1) opSub) (mCons (m2 (mCst (.int 10)) (mCst (.int 30)) opPow) (mNil))))))))) mkLst) (mA (mCons (mVar 0) (mCons (mCst (.int 8)) (mNil))) fd) opIx)) (sNext)))))
theorem bt4_eq (fs fd : List PV → GH → Res PV) : G4.b__law_bent fs fd = sSeq (bt4A fd) (sSeq (bt4H fs fd) (bt4T fd)) := rfl
end EV.NV
end
section
/-! R15: a thing otherwise (k19 to k36): small, too. -/
set_option Elab.async false
set_option linter.all false
set_option maxRecDepth 100000
set_option maxHeartbeats 1000000
namespace EV.NV
open PySem PySem.Spec PyProof.Rows L2
def BtP (w d m b : Nat) (q : PV) : Prop := Sm (3 * w + 1001) (d + 3) (2 * m + 2) q ∧ mxi q ≤ b + 10 ^ 30
theorem btp_of {w d m b u : Nat} {q : PV} (h : SmI u 3 2 q) (hu : u ≤ 1001) : BtP w d m b q := ⟨h.1.mono (by omega) (by omega) (by omega), by have := h.2; omega⟩
theorem cut_mem {ps : List PV} {lo hi : Option Int} : ∀ x ∈ cutP ps lo hi, x ∈ ps := fun x hx => List.mem_of_mem_drop (List.mem_of_mem_take hx)
theorem cut_len {ps : List PV} {lo hi : Option Int} : (cutP ps lo hi).length ≤ ps.length := by unfold cutP; simp only [List.length_take, List.length_drop]; omega
theorem cut_w {ps : List PV} {lo hi : Option Int} : wgts (cutP ps lo hi) ≤ wgts ps := by
  unfold cutP
  exact Nat.le_trans (wgts_take_le _ _) (wgts_drop_le _ _)
def btW : List Str := ["tree", "row", "put", "gone", "a", "", "A", "each", "aaaaaaaaa"]
theorem btW_ok : ∀ s ∈ btW, PyData.strOk s = true ∧ s.cps.size ≤ 9 := by decide +kernel
theorem btW_sm {s : Str} {d m : Nat} (h : s ∈ btW) : SmI 9 d m (.str s) := by
  have := btW_ok s h
  exact ⟨⟨by simp [fitX, this.1]; omega, by simp [wgt]; omega, by simp [dep], by simp [lnm]⟩, by simp [mxi]⟩
theorem empty_sm {d m : Nat} : SmI 0 (d + 1) m (.tup []) := ⟨⟨by simp [fitX, fitXs], by simp [wgt, wgts], by simp [dep, deps], by simp [lnm, lnms]⟩, by simp [mxi, mxis]⟩
theorem tail4_sp {fd} (hd : SpDraw4 fd) {D : Nat} {g : GO} {R : GH} {p : PV} {w n m b : Nat} {v2 v3 : PV} (hg : Fd4 D g) (hD : D + 3 ≤ 900000) (hp : Sm w n m p) (hb : mxi p ≤ b) (hbb : b ≤ 10 ^ 50) (hm : m ≤ 4000) {Q : Fl → GH → Prop}
    (k : ∀ q g', Fd4 (D + 3) g' → BtP w n m b q → Q (.ret q) (g' :: R)) :
    @wq Fl (bt4T fd [some (.obj 0), some p, some v2, some v3, none, none, none] (g :: R)) ⟨Q⟩ := by
  have dat := hp.dat
  have sz := size_line
  have it := fun G => isi_tup (G := G) dat
  have is := fun G => isi_str (G := G) dat
  have ii := fun G => isi_int (G := G) dat
  have ib := fun G => isi_bool (G := G) dat
  unfold bt4T
  by_cases ht : isTup p = true
  · obtain ⟨ps, rfl⟩ : ∃ ps, p = .tup ps := by
      cases p <;> simp [isTup] at ht
      exact ⟨_, rfl⟩
    refine wq_seq (wq_ifT (by simp [it, isTup]) ?_)
    have hw := hp.ws
    have hlen := hp.len
    obtain ⟨n, rfl⟩ : ∃ n', n = n' + 1 := ⟨n - 1, by have := hp.d; simp only [dep] at this; omega⟩
    have each := hp.each
    have eachI := mxis_each hb
    refine wq_seq (wq_asg (fun x G1 => ∃ (a : Int) (g3 : GO), x = .int a ∧ G1 = g3 :: R ∧ 0 ≤ a ∧ a ≤ ps.length ∧ Fd4 (D + 1) g3) ?_ fun x G1 ⟨a, g1, e1, e2, a0, a1, hg1⟩ => goOn_next ?_)
    · simp
      exact wq_draw4 hd hg (by omega) (by omega) (by omega) fun r g1 r0 r1 hg1 => ⟨r, g1, rfl, rfl, r0, by omega, hg1⟩
    subst e1 e2
    refine wq_seq (wq_asg (fun x G1 => ∃ (g3 : GO), G1 = g3 :: R ∧ SmI 30 2 2 x ∧ Fd4 (D + 2) g3) ?_ fun v G1 ⟨g2, e2, hv, hg2⟩ => goOn_next ?_)
    · have r2 : ∀ s : Str, s ∈ wordsL → SmI 30 2 2 (.tup [.str s, .tup []]) := fun s hs => (smI_t2 (d := 1) (m := 2) (smI_w (w := 8) hs (by decide)) empty_sm (by decide)).mono (by decide) (by decide) (by decide)
      simp [sz]
      refine wq_draw4 hd hg1 (by decide) (by decide) (by omega) fun r g2 r0 r1 hg2 => ?_
      simp
      refine wq_ix r0 (by simpa using r1) fun x hx => ⟨g2, rfl, ?_, hg2⟩
      simp only [List.mem_cons, List.not_mem_nil, or_false] at hx
      rcases hx with rfl | rfl | rfl | rfl | rfl | rfl | rfl | rfl
      · exact smI_int (by decide) (by decide)
      · exact smI_int (by decide) (by decide)
      · exact empty_sm.mono (by decide) (Nat.le_refl 2) (Nat.le_refl 2)
      · exact smI_non (by decide)
      · exact smI_bl (by decide)
      · exact smI_w (by simp [wordsL]) (by decide)
      · exact r2 _ (by simp [wordsL])
      · exact r2 _ (by simp [wordsL])
    subst e2
    have c1 : cutP ps none (some a) = ps.take a.toNat := cut_hi a0
    have c2 : cutP ps (some (a + 1)) none = ps.drop (a + 1).toNat := cut_lo (by omega)
    have c3 : cutP ps (some a) none = ps.drop a.toNat := cut_lo a0
    have t1 : (ps.take a.toNat).length + (ps.drop (a + 1).toNat).length ≤ 16777216 := by simp only [List.length_take, List.length_drop]; omega
    have t4 : (ps.take a.toNat).length + [v].length ≤ 16777216 := by simp only [List.length_take, List.length_cons, List.length_nil]; omega
    have t5 : (ps.take a.toNat ++ [v]).length + (ps.drop a.toNat).length ≤ 16777216 := by simp only [List.length_append, List.length_take, List.length_drop, List.length_cons, List.length_nil]; omega
    have t6 : (ps.take a.toNat ++ [v]).length + (ps.drop (a + 1).toNat).length ≤ 16777216 := by simp only [List.length_append, List.length_take, List.length_drop, List.length_cons, List.length_nil]; omega
    have q1 : ∀ G, opAdd [.tup (ps.take a.toNat), .tup (ps.drop (a + 1).toNat)] G = .ok (.tup (ps.take a.toNat ++ ps.drop (a + 1).toNat)) G := fun G => by rw [opAdd_tt, sz, if_pos t1]
    have q4 : ∀ G, opAdd [.tup (ps.take a.toNat), .tup [v]] G = .ok (.tup (ps.take a.toNat ++ [v])) G := fun G => by rw [opAdd_tt, sz, if_pos t4]
    have q5 : ∀ G, opAdd [.tup (ps.take a.toNat ++ [v]), .tup (ps.drop a.toNat)] G = .ok (.tup (ps.take a.toNat ++ [v] ++ ps.drop a.toNat)) G := fun G => by rw [opAdd_tt, sz, if_pos t5]
    have q6 : ∀ G, opAdd [.tup (ps.take a.toNat ++ [v]), .tup (ps.drop (a + 1).toNat)] G = .ok (.tup (ps.take a.toNat ++ [v] ++ ps.drop (a + 1).toNat)) G := fun G => by rw [opAdd_tt, sz, if_pos t6]
    have l2 : ∀ G, mkTup [v] G = .ok (.tup [v]) G := fun G => by simp [sz]
    refine wq_seq (wq_asg (fun x G1 => G1 = g2 :: R ∧ x = .lst [.tup (ps.take a.toNat ++ [v] ++ ps.drop a.toNat), .tup (ps.take a.toNat ++ ps.drop (a + 1).toNat), .tup (ps.take a.toNat ++ [v] ++ ps.drop (a + 1).toNat)]) ?_ fun x G1 ⟨e1, e2⟩ => goOn_next ?_)
    · simp only [mA_ap, mCons_ap, mNil_ap, m2_ap, mSl_ap, mVar_ap, mNoPart, mPart, mCst_ap, List.getElem?_cons_succ, List.getElem?_cons_zero, List.set, Res.bind_ok, opSl_tup, c1, c2, c3, q1, q4, q5, q6, l2, opAdd_ii, wq_bind, wq_ok]
      simp [sz]
    subst e1 e2
    have cl := cut_len (ps := ps) (lo := some (-1)) (hi := none)
    have cm := cut_mem (ps := ps) (lo := some (-1)) (hi := none)
    have cw := cut_w (ps := ps) (lo := some (-1)) (hi := none)
    generalize hC : cutP ps (some (-1)) none = C at cl cm cw
    have t7 : ps.length + C.length ≤ 16777216 := by omega
    have q7 : ∀ G, opAdd [.tup ps, .tup C] G = .ok (.tup (ps ++ C)) G := fun G => by rw [opAdd_tt, sz, if_pos t7]
    refine wq_ret (fun q G' => ∃ g3, G' = g3 :: R ∧ Fd4 (D + 3) g3 ∧ BtP w (n + 1) m b q) ?_ fun q G' ⟨g3, e, h1, h2⟩ => goOn_ret (by subst e; exact k q g3 h1 h2)
    have ex : (m2 (mVar 6) (mA (mCons (mA (mCons (mVar 1) (mNil)) (bLst false)) (mCons (m2 (mVar 1) (mSl (mVar 1) (mPart (m1 (mCst (.int 1)) opNeg)) (mNoPart) opSl) opAdd) (mCons (m1 (mVar 1) opRev) (mNil)))) mkLst) opAdd) (((([some (PV.obj 0), some (PV.tup ps), some v2, some v3, none, none, none].set 4 (some (PV.int a))).set 5 (some v)).set 6 (some (PV.lst [.tup (ps.take a.toNat ++ [v] ++ ps.drop a.toNat), .tup (ps.take a.toNat ++ ps.drop (a + 1).toNat), .tup (ps.take a.toNat ++ [v] ++ ps.drop (a + 1).toNat)])))) (g2 :: R) = .ok (.lst [.tup (ps.take a.toNat ++ [v] ++ ps.drop a.toNat), .tup (ps.take a.toNat ++ ps.drop (a + 1).toNat), .tup (ps.take a.toNat ++ [v] ++ ps.drop (a + 1).toNat), .lst ps, .tup (ps ++ C), .tup ps.reverse]) (g2 :: R) := by
      have l1 : ∀ G, bLst false [.tup ps] G = .ok (.lst ps) G := fun G => by simp [bLst, asS, asL]
      have lr : ∀ G, opRev [.tup ps] G = .ok (.tup ps.reverse) G := fun G => rfl
      have ln : ∀ G, opNeg [.int 1] G = .ok (.int (-1)) G := fun G => rfl
      simp only [mA_ap, mCons_ap, mNil_ap, m2_ap, m1_ap, mSl_ap, mVar_ap, mNoPart, mPart, mCst_ap, List.getElem?_cons_succ, List.getElem?_cons_zero, List.set, Res.bind_ok, opSl_tup, hC, q7, l1, lr, ln]
      simp [sz]
    have s1 := wgts_split ps a.toNat
    have s2 := wgts_drop_le ps (a + 1).toNat
    have hvw := hv.1.w
    have hvi := hv.2
    have e0 : ∀ x ∈ ps, fitX x = true ∧ dep x ≤ n + 3 ∧ lnm x ≤ 2 * m + 2 := fun x hx => by
      have q := each x hx
      exact ⟨q.1, by omega, by omega⟩
    have memT : ∀ k, ∀ x ∈ ps.take k, x ∈ ps := fun k x hx => List.mem_of_mem_take hx
    have memD : ∀ k, ∀ x ∈ ps.drop k, x ∈ ps := fun k x hx => List.mem_of_mem_drop hx
    have mk : ∀ ys : List PV, (∀ x ∈ ys, x ∈ ps ∨ x = v) → wgts ys ≤ 3 * w + 1001 → ys.length ≤ 2 * m + 2 → BtP w (n + 1) m b (.tup ys) := fun ys h1 h2 h3 => by
      refine ⟨sm_tup (d := n + 3) (fun x hx => ?_) h2 h3, mxi_tup fun x hx => ?_⟩
      · rcases h1 x hx with q | q
        · exact e0 x q
        · rw [q]; have := hv.1; exact ⟨this.f, by have := this.d; omega, by have := this.m; omega⟩
      · rcases h1 x hx with q | q
        · have := eachI x q; omega
        · rw [q]; omega
    rw [m2_ap, ex]
    simp
    refine wq_draw4 hd hg2 (by decide) (by decide) (by omega) fun r g3 r0 r1 hg3 => ?_
    simp
    refine wq_ix r0 (by simpa using r1) fun y hy => ⟨g3, rfl, hg3, ?_⟩
    simp only [List.mem_cons, List.not_mem_nil, or_false] at hy
    rcases hy with rfl | rfl | rfl | rfl | rfl | rfl
    · refine mk _ (fun x hx => ?_) (by simp only [wgts_append, wgts]; omega) (by simp only [List.length_append, List.length_take, List.length_drop, List.length_cons, List.length_nil]; omega)
      simp only [List.mem_append, List.mem_cons, List.not_mem_nil, or_false] at hx
      rcases hx with q | q | q
      · exact .inl (memT _ x q)
      · exact .inr q
      · exact .inl (memD _ x q)
    · refine mk _ (fun x hx => ?_) (by simp only [wgts_append, wgts]; omega) (by simp only [List.length_append, List.length_take, List.length_drop]; omega)
      simp only [List.mem_append] at hx
      rcases hx with q | q
      · exact .inl (memT _ x q)
      · exact .inl (memD _ x q)
    · refine mk _ (fun x hx => ?_) (by simp only [wgts_append, wgts]; omega) (by simp only [List.length_append, List.length_take, List.length_drop, List.length_cons, List.length_nil]; omega)
      simp only [List.mem_append, List.mem_cons, List.not_mem_nil, or_false] at hx
      rcases hx with q | q | q
      · exact .inl (memT _ x q)
      · exact .inr q
      · exact .inl (memD _ x q)
    · exact ⟨sm_lst (d := n + 3) e0 (by omega) (by omega), mxi_lst fun x hx => by have := eachI x hx; omega⟩
    · refine mk _ (fun x hx => ?_) (by rw [wgts_append]; omega) (by rw [List.length_append]; omega)
      rcases List.mem_append.mp hx with q | q
      · exact .inl q
      · exact .inl (cm x q)
    · exact mk _ (fun x hx => .inl (List.mem_reverse.mp hx)) (by rw [wgts_rev]; omega) (by rw [List.length_reverse]; omega)
  refine wq_seq (wq_ifF (by simp [it, ht]) (wq_next (goOn_next ?_)))
  by_cases hs : isStr p = true
  · refine wq_seq (wq_ifT (by simp [is, hs]) ?_)
    refine wq_ret (fun q G' => ∃ g3, G' = g3 :: R ∧ Fd4 (D + 3) g3 ∧ BtP w n m b q) ?_ fun q G' ⟨g3, e, h1, h2⟩ => goOn_ret (by subst e; exact k q g3 h1 h2)
    simp [sz]
    refine wq_draw4 hd hg (by decide) (by decide) (by omega) fun r g3 r0 r1 hg3 => ?_
    simp
    refine wq_ix r0 (by simpa using r1) fun y hy => ⟨g3, rfl, hg3.mono (by omega), ?_⟩
    simp only [List.mem_cons, List.not_mem_nil, or_false] at hy
    rcases hy with rfl | rfl | rfl | rfl | rfl | rfl | rfl | rfl | rfl | rfl <;> first | exact btp_of (btW_sm (by simp [btW])) (by decide) | exact btp_of (smI_int (w := 20) (by decide) (by decide)) (by decide)
  refine wq_seq (wq_ifF (by simp [is, hs]) (wq_next (goOn_next ?_)))
  by_cases hi : isInt p = true ∧ isBl p = false
  · obtain ⟨hi, hbl⟩ := hi
    obtain ⟨i, rfl⟩ : ∃ i, p = .int i := by
      cases p <;> simp [isInt, isBl] at hi hbl
      exact ⟨_, rfl⟩
    have hi' : i.natAbs ≤ b := by simpa [mxi] using hb
    have lg : i.natAbs.log2 < 1920 := by
      by_cases z : i.natAbs = 0
      · rw [z]; decide
      · exact (Nat.log2_lt z).mpr (Nat.lt_of_le_of_lt (Nat.le_trans hi' hbb) (by decide +kernel))
    have h30 : ∀ G, opPow [.int 10, .int 30] G = .ok (.int (10 ^ 30)) G := fun G => opPow_ii (by decide) (by decide) (by decide)
    refine wq_seq (wq_ifF (by simp [ii, ib, isInt, isBl]) (wq_next (goOn_next ?_)))
    refine wq_ret (fun q G' => ∃ g3, G' = g3 :: R ∧ Fd4 (D + 3) g3 ∧ BtP w n m b q) ?_ fun q G' ⟨g3, e, h1, h2⟩ => (by subst e; exact k q g3 h1 h2)
    have num : ∀ j : Int, j.natAbs ≤ 2 * i.natAbs + 1 → j.natAbs ≤ b + 10 ^ 30 → BtP w n m b (.int j) := fun j h1 h2 => ⟨(sm_num hp hi' hbb h1).mono (Nat.le_refl _) (by omega) (by omega), by simpa only [mxi] using h2⟩
    simp [bStr, lg, sz, h30]
    refine wq_draw4 hd hg (by decide) (by decide) (by omega) fun r g3 r0 r1 hg3 => ?_
    simp
    refine wq_ix r0 (by simpa using r1) fun y hy => ⟨g3, rfl, hg3.mono (by omega), ?_⟩
    simp only [List.mem_cons, List.not_mem_nil, or_false] at hy
    rcases hy with rfl | rfl | rfl | rfl | rfl | rfl | rfl | rfl
    · exact num _ (by omega) (by omega)
    · exact num _ (by omega) (by omega)
    · exact num _ (by omega) (by omega)
    · exact btp_of (smI_bl (w := 1) (by decide)) (by decide)
    · exact ⟨(sm_txt (w := w) (d := n) (m := m) hi' hbb).mono (Nat.le_refl _) (by omega) (by omega), by simp only [mxi]; omega⟩
    · exact btp_of (smI_non (w := 1) (by decide)) (by decide)
    · exact num _ (by omega) (by omega)
    · have l : (1000000000000000000000000000000 : Int).natAbs.log2 < 200 := by decide +kernel
      have f : (1000000000000000000000000000000 : Int).natAbs < 10 ^ 60 := by decide +kernel
      refine ⟨⟨by simp only [fitX, decide_eq_true_eq]; exact f, by simp only [wgt]; omega, by simp only [dep]; omega, by simp only [lnm]; omega⟩, ?_⟩
      have : (1000000000000000000000000000000 : Int).natAbs = 10 ^ 30 := by decide +kernel
      simp only [mxi, this]; omega
  · refine wq_seq (wq_ifT (by
      simp [ii, ib]
      cases e : isInt p with
      | false => simp
      | true => cases e2 : isBl p with
        | true => simp
        | false => exact absurd ⟨e, e2⟩ hi) ?_)
    refine wq_ret (fun q G' => ∃ g3, G' = g3 :: R ∧ Fd4 (D + 3) g3 ∧ BtP w n m b q) ?_ fun q G' ⟨g3, e, h1, h2⟩ => goOn_ret (by subst e; exact k q g3 h1 h2)
    have th : SmI 60 3 2 (.tup [.str "there", .tup [.tup [.str "field", .str "a"]]]) := (smI_t2 (m := 2) (smI_w (w := 8) (by simp [wordsL]) (by decide)) (smI_t1 (m := 2) (smI_t2 (d := 0) (m := 2) (smI_w (w := 8) (by simp [wordsL]) (by decide)) (smI_w (w := 8) (by simp [wordsL]) (by decide)) (by decide)) (by decide)) (by decide)).mono (by decide) (by decide) (by decide)
    simp [sz]
    refine wq_draw4 hd hg (by decide) (by decide) (by omega) fun r g3 r0 r1 hg3 => ?_
    simp
    refine wq_ix r0 (by simpa using r1) fun y hy => ⟨g3, rfl, hg3.mono (by omega), ?_⟩
    simp only [List.mem_cons, List.not_mem_nil, or_false] at hy
    rcases hy with rfl | rfl | rfl | rfl | rfl | rfl | rfl
    · exact btp_of (smI_int (w := 20) (by decide) (by decide)) (by decide)
    · exact btp_of (empty_sm (d := 2)) (by decide)
    · exact btp_of (btW_sm (by simp [btW])) (by decide)
    · exact btp_of (smI_int (w := 20) (by decide) (by decide)) (by decide)
    · exact btp_of (smI_bl (w := 1) (by decide)) (by decide)
    · exact btp_of (smI_non (w := 1) (by decide)) (by decide)
    · exact btp_of th (by decide)
end EV.NV
end
section
/-! R16: a thing otherwise at any depth (k19 to k36). -/
set_option Elab.async false
set_option linter.all false
set_option maxRecDepth 100000
set_option maxHeartbeats 1000000
namespace EV.NV
open PySem PySem.Spec PyProof.Rows L2
def SpBt4 (n : Nat) (f : List PV → GH → Res PV) : Prop := ∀ (D : Nat) (g : GO) (R : GH) (p : PV) (w d m b : Nat), Fd4 D g → D + 10 * n + 10 ≤ 900000 → Sm w d m p → mxi p ≤ b → b ≤ 10 ^ 50 → m ≤ 4000 → d ≤ 50 →
  @wq PV (f [.obj 0, p, .int n] (g :: R)) ⟨fun q G' => ∃ g', G' = g' :: R ∧ Fd4 (D + 10 * n + 10) g' ∧ BtP w d m b q⟩
theorem bent_sp4 {fd fs} (hd : SpDraw4 fd) {n : Nat} (hs : ∀ k, n = k + 1 → SpBt4 k fs) : SpBt4 n (defV 3 G4.N__law_bent (G4.b__law_bent fs fd)) := by
  intro D g R p w d m b hg hD hp hb hbb hm hdd
  have it := fun G => isi_tup (G := G) hp.dat
  have sz := size_line
  have fin := fin4 (c := 10 * n + 10) (D := D) (g := g) (R := R) (P := BtP w d m b) fun p h => h.1.dat
  rw [← Nat.add_assoc] at fin
  have eN : env0 G4.N__law_bent.length [PV.obj 0, p, PV.int (n : Int)] = [some (.obj 0), some p, some (.int n), none, none, none, none] := rfl
  refine wq_def rfl ?_
  rw [eN, bt4_eq]
  refine wq_seq4 (fun ρ G' => ∃ r : Int, ∃ g', 0 ≤ r ∧ ρ = [some (.obj 0), some p, some (.int n), some (.int r), none, none, none] ∧ G' = g' :: R ∧ Fd4 (D + 1) g') ?_ fun ρ G' ⟨r, g1, r0, e1, e2, hg1⟩ => ?_
  · unfold bt4A
    simp
    exact wq_draw4 hd hg (by decide) (by decide) (by omega) fun r g1 r0 r1 hg1 => by
      simp
      exact ⟨r, r0, rfl, hg1⟩
  subst e1 e2
  have tail := tail4_sp hd hg1 (R := R) (v2 := .int n) (v3 := .int r) (by omega) hp hb hbb hm (Q := fun fl G1 => @wq PV (bodyEnd fl G1) ⟨fun v G2 => @wq PV (trimR (g :: R) (.ok v G2)) ⟨fun q G' => ∃ g', G' = g' :: R ∧ Fd4 (D + 10 * n + 10) g' ∧ BtP w d m b q⟩⟩) fun q g' h1 h2 => fin q _ ⟨g', [], nilS, h1.mono (by omega), h2⟩
  by_cases ht : isTup p = true
  · obtain ⟨ps, rfl⟩ : ∃ ps, p = .tup ps := by
      cases p <;> simp [isTup] at ht
      exact ⟨_, rfl⟩
    have hf : fitXs ps = true := by simpa only [fitX] using hp.f
    have hdp : deps ps ≤ 60 := by have := hp.d; simp only [dep] at this; omega
    have ne0 := fun G => ne_tnil (G := G) hf hdp
    by_cases hc : ps ≠ [] ∧ 0 < n ∧ 1 < r
    · obtain ⟨hz, hn, hr⟩ := hc
      obtain ⟨k, rfl⟩ : ∃ k, n = k + 1 := ⟨n - 1, by omega⟩
      have hk := hs k rfl
      have hw := hp.ws
      have hlen := hp.len
      obtain ⟨d, rfl⟩ : ∃ n', d = n' + 1 := ⟨d - 1, by have := hp.d; simp only [dep] at this; omega⟩
      have each := hp.each
      have eachI := mxis_each hb
      have hpos : 0 < ps.length := List.length_pos_iff.mpr hz
      have kpos : (0 : Int) < ((k + 1 : Nat) : Int) := by omega
      have ek : ((k + 1 : Nat) : Int) - 1 = k := by omega
      refine wq_seq ?_
      unfold bt4H
      refine wq_ifT (by
        have : (0 : Int) < (k : Int) + 1 := by omega
        simp [it, isTup, ne0, hz, sz, hr, this]) ?_
      refine wq_seq (wq_asg (fun x G1 => ∃ (a : Int) (g3 : GO), x = .int a ∧ G1 = g3 :: R ∧ 0 ≤ a ∧ a < ps.length ∧ Fd4 (D + 2) g3) ?_ fun x G1 ⟨a, g3, e1, e2, a0, a1, hg3⟩ => goOn_next ?_)
      · simp
        exact wq_draw4 hd hg1 (by omega) (by omega) (by omega) fun r g1 r0 r1 hg1 => ⟨r, g1, rfl, rfl, r0, by omega, hg1⟩
      subst e1 e2
      have c1 : cutP ps none (some a) = ps.take a.toNat := cut_hi a0
      have c2 : cutP ps (some (a + 1)) none = ps.drop (a + 1).toNat := cut_lo (by omega)
      refine wq_ret (fun q G' => ∃ g' S, G' = g' :: (R ++ S) ∧ Fd4 (D + 10 * (k + 1) + 10) g' ∧ BtP w (d + 1) m b q) ?_ fun q G' h => goOn_ret (fin q G' h)
      have a1' : a.toNat < ps.length := by omega
      have hy : ps[a.toNat] ∈ ps := List.getElem_mem a1'
      have hwd : wgts (ps.drop a.toNat) = wgt (ps[a.toNat]) + 1 + wgts (ps.drop (a.toNat + 1)) := by
        rw [List.drop_eq_getElem_cons a1', wgts]
      have x2 : ∀ G, ixR ps a G = .ok (ps[a.toNat]) G := fun G => ixR_some (by unfold L2.atI; rw [ixN_ok a0 (by omega)]; exact List.getElem?_eq_getElem a1')
      generalize ps[a.toNat] = y at hy hwd x2
      have hy' := Sm.tup hp y hy
      have hwy := wgts_mem hy
      have hiy := eachI y hy
      have s1 := wgts_split ps a.toNat
      have e0 : ∀ x ∈ ps, fitX x = true ∧ dep x ≤ d + 3 ∧ lnm x ≤ 2 * m + 2 := fun x hx => by
        have q := each x hx
        exact ⟨q.1, by omega, by omega⟩
      have memT : ∀ k, ∀ x ∈ ps.take k, x ∈ ps := fun k x hx => List.mem_of_mem_take hx
      have memD : ∀ k, ∀ x ∈ ps.drop k, x ∈ ps := fun k x hx => List.mem_of_mem_drop hx
      simp only [mA_ap, mCons_ap, mNil_ap, m2_ap, mSl_ap, mVar_ap, mNoPart, mPart, mCst_ap, List.getElem?_cons_succ, List.getElem?_cons_zero, List.set, Res.bind_ok, opSl_tup, c1, c2, opIx_tup, x2, opAdd_ii, opSub_ii, ek, wq_bind, wq_ok]
      refine wq_use (hk _ g3 R y (wgt y) d m b hg3 (by omega) ⟨hy'.f, Nat.le_refl _, hy'.d, hy'.m⟩ hiy hbb hm (by omega)) fun q G' ⟨g4, e, hg4, hq, hqi⟩ => ?_
      subst e
      have t4 : (ps.take a.toNat).length + [q].length ≤ 16777216 := by simp only [List.length_take, List.length_cons, List.length_nil]; omega
      have t5 : (ps.take a.toNat ++ [q]).length + (ps.drop (a + 1).toNat).length ≤ 16777216 := by simp only [List.length_append, List.length_take, List.length_drop, List.length_cons, List.length_nil]; omega
      have q4 : ∀ G, opAdd [.tup (ps.take a.toNat), .tup [q]] G = .ok (.tup (ps.take a.toNat ++ [q])) G := fun G => by rw [opAdd_tt, sz, if_pos t4]
      have q5 : ∀ G, opAdd [.tup (ps.take a.toNat ++ [q]), .tup (ps.drop (a + 1).toNat)] G = .ok (.tup (ps.take a.toNat ++ [q] ++ ps.drop (a + 1).toNat)) G := fun G => by rw [opAdd_tt, sz, if_pos t5]
      have l2 : ∀ G, mkTup [q] G = .ok (.tup [q]) G := fun G => by simp [sz]
      simp only [l2, q4, q5, wq_bind, wq_ok]
      have hqw := hq.w
      have hqd := hq.d
      have hqm := hq.m
      have e7 : (a + 1).toNat = a.toNat + 1 := by omega
      refine ⟨g4, [], nilS, hg4.mono (by omega), sm_tup (d := d + 3) (fun x hx => ?_) ?_ ?_, mxi_tup fun x hx => ?_⟩
      · simp only [List.mem_append, List.mem_cons, List.not_mem_nil, or_false] at hx
        rcases hx with (z | rfl) | z
        · exact e0 x (memT _ x z)
        · exact ⟨hq.f, by omega, by omega⟩
        · exact e0 x (memD _ x z)
      · simp only [wgts_append, wgts, e7]; omega
      · simp only [List.length_append, List.length_take, List.length_drop, List.length_cons, List.length_nil]; omega
      · simp only [List.mem_append, List.mem_cons, List.not_mem_nil, or_false] at hx
        rcases hx with (z | rfl) | z
        · have := eachI x (memT _ x z); omega
        · exact hqi
        · have := eachI x (memD _ x z); omega
    · refine wq_seq ?_
      unfold bt4H
      refine wq_ifF ?_ (wq_next (goOn_next tail))
      by_cases hz : ps = []
      · subst hz
        simp [it, isTup, ne0, sz]
      · by_cases hn : 0 < n
        · have hr : ¬ 1 < r := fun h => hc ⟨hz, hn, h⟩
          have hn2 : (0 : Int) < n := by omega
          simp [it, isTup, ne0, hz, sz, hn, hn2, hr]
        · have hn2 : ¬ (0 : Int) < n := by omega
          simp [it, isTup, ne0, hz, sz, hn, hn2]
  · refine wq_seq ?_
    unfold bt4H
    exact wq_ifF (by simp [it, ht]) (wq_next (goOn_next tail))
end EV.NV
end
section
/-! M25: repr of values is one to one. -/
set_option Elab.async false
set_option linter.all false
set_option maxRecDepth 100000
namespace EV
open PySem PySem.Spec PyProof.Rows L2
/-- plains and the words of values -/
def atoms : List PV := leafs ++ [.str "row", .str "tree"] ++ pool7.map .str
inductive Cd : PV → Prop where
  | atom {p : PV} : p ∈ atoms → Cd p
  | tup {ps : List PV} : (∀ p ∈ ps, Cd p) → Cd (.tup ps)
theorem Val.cd {p : PV} (h : Val p) : Cd p := by
  induction h with
  | plain h => exact .atom (List.mem_append_left _ (List.mem_append_left _ h))
  | row _ ih =>
    refine .tup fun p hp => ?_
    simp only [List.mem_cons, List.not_mem_nil, or_false] at hp
    rcases hp with rfl | rfl
    · exact .atom (by simp [atoms])
    · exact .tup ih
  | tree h1 h2 _ ih =>
    refine .tup fun p hp => ?_
    simp only [List.mem_cons, List.not_mem_nil, or_false] at hp
    rcases hp with rfl | rfl
    · exact .atom (by simp [atoms])
    · refine .tup fun p hp => ?_
      obtain ⟨q, hq, rfl⟩ := fld_mem hp
      refine .tup fun p hp => ?_
      simp only [List.mem_cons, List.not_mem_nil, or_false] at hp
      rcases hp with rfl | rfl
      · exact .atom (List.mem_append_right _ (List.mem_map.mpr ⟨_, h2 q hq, rfl⟩))
      · exact ih q hq
/-- the first ends in the second, or they part -/
def parts : List Nat → List Nat → Bool
  | a :: as, b :: bs => a != b || parts as bs
  | [], b :: _ => b != 44 && b != 41
  | a :: _, [] => a != 44 && a != 41
  | [], [] => false
/-- a tuple's texts behind the first -/
def tl : List PV → List Nat
  | [] => [41]
  | p :: ps => 44 :: 32 :: (sg (rep p) ++ tl ps)
end EV
end
section
/-! M26: two values alike. -/
set_option Elab.async false
set_option linter.all false
set_option maxRecDepth 100000
namespace EV
open PySem PySem.Spec PyProof.Rows L2
theorem bools_map : ∀ bs : List Bool, bools (bs.map PV.bl) = some bs
  | [] => rfl
  | b :: bs => by
    have := bools_map bs
    simp only [List.map_cons, bools, this, Option.map_some]
theorem any_ap {bs : List Bool} {G : GH} : bAny [.lst (bs.map .bl)] G = .ok (.bl (bs.any id)) G := by
  simp only [bAny, asL, Option.bind_some, bools_map]
section
variable {fl fr ft fk : List PV → GH → Res PV} {n : Nat}
end
end EV
end
section
/-! M27: plain values beside one another. -/
set_option Elab.async false
set_option linter.all false
set_option maxRecDepth 100000
namespace EV
open PySem PySem.Spec PyProof.Rows L2
/-- plain values as tests have them -/
def Pl (p : PV) : Prop := p ∈ leafs ∨ ∃ i : Int, p = .int i ∧ -2000000 ≤ i ∧ i ≤ 2000000
def kindOf (p : PV) : Int := if isBl p then 0 else if isInt p then 1 else 2
/-- the order of two keys of one kind -/
def ltK (p q : PV) : Bool := PySem.W.dataLt (dOf (keyV p)) (dOf (keyV q))
/-- is_number, is_text, is_plain of values -/
def SpNum (f : List PV → GH → Res PV) : Prop := ∀ p G, datB p = true → f [p] G = .ok (.bl (isInt p && !isBl p)) G
theorem num_sp : SpNum (defV 1 GN.N_is_number GN.b_is_number) := by
  intro p G h
  cases p <;> simp [defV, GN.b_is_number, GN.N_is_number, env0, h, isInt, isBl, trim_same]
def leafStrs : List Str := ["a", "", "1", "yes", "b2", "k", "b"]
theorem leaf_str {x : Str} (h : PV.str x ∈ leafs) : x ∈ leafStrs := by
  have t : (leafs.all fun p => match p with
    | .str x => decide (x ∈ leafStrs)
    | _ => true) = true := by decide +kernel
  simpa using List.all_eq_true.mp t _ h
/-- is_text of a value -/
def SpText (f : List PV → GH → Res PV) : Prop := ∀ p G, Val p → f [p] G = .ok (.bl (isStr p)) G
theorem text_body {x : Str} (h : x ∈ leafStrs) (G : GH) : GN.b_is_text (env0 GN.N_is_text.length [.str x]) G = .ok (.ret (.bl true)) G := by
  simp only [leafStrs, List.mem_cons, List.not_mem_nil, or_false] at h
  rcases h with rfl | rfl | rfl | rfl | rfl | rfl | rfl <;> rfl
theorem text_sp : SpText (defV 1 GN.N_is_text GN.b_is_text) := by
  intro p G h
  have i1 := isi_str (G := G) h.dat
  cases hs : isStr p with
  | false =>
    rw [hs] at i1
    simp [defV, GN.b_is_text, GN.N_is_text, env0, i1, trim_same]
  | true =>
    cases p with
    | str x =>
      have hx : x ∈ leafStrs := by
        generalize hp : PV.str x = p at h
        cases h with
        | plain h => rw [← hp] at h; exact leaf_str h
        | row _ => simp [rowV] at hp
        | tree _ _ _ => simp [treeV] at hp
      have e := text_body hx G
      have ed : defV 1 GN.N_is_text GN.b_is_text [.str x] G = trimR G ((GN.b_is_text (env0 GN.N_is_text.length [.str x]) G).bind bodyEnd) := by simp [defV]
      rw [ed, e]
      simp [trim_same, isStr]
    | _ => cases hs
/-- whether a value is beside a plain one -/
def besideB (b : Bool) (v p : PV) : Bool := !isTup v && (decide (kindOf v = kindOf p) && (if b = true then ltK v p else ltK p v))
def wordB (b : Bool) : Str := if b = true then "below" else "above"
end EV
end
section
/-! M28: tests met, by the program. -/
set_option Elab.async false
set_option linter.all false
set_option maxRecDepth 100000
namespace EV
open PySem PySem.Spec PyProof.Rows L2
abbrev pathV (ss : List Stp) : PV := .tup (ss.map Stp.pv)
def okP (ss : List Stp) : Prop := (∀ s ∈ ss, s.ok) ∧ ss.length ≤ 5 ∧ ss ≠ []
def conW (a : Bool) : Str := if a = true then "and" else "or"
/-- a test, so deep at most, and whether D meets it -/
inductive TV (D : PV) : Nat → PV → Bool → Prop where
  | there {n : Nat} {ss : List Stp} : okP ss → TV D n (.tup [.str "there", pathV ss]) (!(foundA ss D).isEmpty)
  | like {n : Nat} {ss : List Stp} {V : PV} : okP ss → Sm V → TV D n (.tup [.str "like", pathV ss, V]) ((foundA ss D).any fun q => decide (rep q.2 = rep V))
  | cmp {n : Nat} {ss : List Stp} {p : PV} (b : Bool) : okP ss → Pl p → TV D n (.tup [.str (wordB b), pathV ss, p]) ((foundA ss D).any fun q => besideB b q.2 p)
  | nt {n : Nat} {t : PV} {b : Bool} : TV D n t b → TV D (n + 1) (.tup [.str "not", t]) (!b)
  | con {n : Nat} {ts : List (PV × Bool)} (a : Bool) : (∀ q ∈ ts, TV D n q.1 q.2) → TV D (n + 1) (.tup [.str (conW a), .tup (ts.map (·.1))]) (if a = true then (ts.map (·.2)).all id else (ts.map (·.2)).any id)
theorem TV.mono {D t : PV} {n : Nat} {b : Bool} (h : TV D n t b) : ∀ {m : Nat}, n ≤ m → TV D m t b := by
  induction h with
  | there h => exact fun _ => .there h
  | like h h2 => exact fun _ => .like h h2
  | cmp b h h2 => exact fun _ => .cmp b h h2
  | nt _ ih =>
    intro m hm
    cases m with
    | zero => omega
    | succ m => exact .nt (ih (by omega))
  | con a _ ih =>
    intro m hm
    cases m with
    | zero => omega
    | succ m => exact .con a fun q hq => ih q hq (by omega)
section
variable {fo fb fl fm : List PV → GH → Res PV} {n : Nat}
@[simp] theorem wne40 : (("there" : Str) = "not") = False := by decide
@[simp] theorem wne41 : (("there" : Str) = "and") = False := by decide
@[simp] theorem wne42 : (("there" : Str) = "or") = False := by decide
@[simp] theorem wne43 : (("like" : Str) = "not") = False := by decide
@[simp] theorem wne44 : (("like" : Str) = "and") = False := by decide
@[simp] theorem wne45 : (("like" : Str) = "or") = False := by decide
@[simp] theorem wne46 : (("like" : Str) = "there") = False := by decide
@[simp] theorem wne47 : (("and" : Str) = "not") = False := by decide
@[simp] theorem wne48 : (("or" : Str) = "not") = False := by decide
@[simp] theorem wne49 : (("or" : Str) = "and") = False := by decide
@[simp] theorem wne50 : (("and" : Str) = "or") = False := by decide
@[simp] theorem wne51 : (("not" : Str) = "and") = False := by decide
@[simp] theorem wne52 : (("not" : Str) = "or") = False := by decide
@[simp] theorem wne53 : (("above" : Str) = "below") = False := by decide
@[simp] theorem wne54 (b : Bool) : (wordB b = "not") = False := by cases b <;> decide
@[simp] theorem wne55 (b : Bool) : (wordB b = "and") = False := by cases b <;> decide
@[simp] theorem wne56 (b : Bool) : (wordB b = "or") = False := by cases b <;> decide
@[simp] theorem wne57 (b : Bool) : (wordB b = "there") = False := by cases b <;> decide
@[simp] theorem wne58 (b : Bool) : (wordB b = "like") = False := by cases b <;> decide
@[simp] theorem wne59 (a : Bool) : (conW a = "not") = False := by cases a <;> decide
end
end EV
end
section
/-! M29: tests met, by the law's own look. -/
set_option Elab.async false
set_option linter.all false
set_option maxRecDepth 100000
namespace EV
open PySem PySem.Spec PyProof.Rows L2
@[simp] theorem wne60 : (("not" : Str) = "there") = False := by decide
theorem eqFl_str (a b : Str) : eqFl (.str a) (.str b) = (a == b) := rfl
section
variable {fo fm fr : List PV → GH → Res PV} {n : Nat} {D : PV}
end
end EV
end
section
/-! P5: moves, events: what the program tells. -/
set_option Elab.async false
set_option linter.all false
set_option maxRecDepth 100000
namespace EV.NV
open PySem PySem.Spec PyProof.Rows L2
end EV.NV
end
section
/-! PG: small lemmas on words among words, lists picked. -/
set_option Elab.async false
set_option linter.all false
set_option maxRecDepth 100000
namespace EV.NV
open PySem PySem.Spec PyProof.Rows L2
theorem beqS (a w : Str) : (a == w) = decide (w = a) := by
  by_cases h : w = a
  · subst h; rw [decide_eq_true rfl]; exact beq_self_eq_true w
  · rw [decide_eq_false h]; exact beq_eq_false_iff_ne.mpr fun e => h e.symm
theorem ni_s3 {w a b c : Str} {G : GH} : Cop.notin.f [.str w, .tup [.str a, .str b, .str c]] G = .ok (.bl (!(decide (w = a) || (decide (w = b) || decide (w = c))))) G := by
  have e : inP G (.str w) (.tup [.str a, .str b, .str c]) = some (eqFl (.str a) (.str w) || (eqFl (.str b) (.str w) || (eqFl (.str c) (.str w) || false))) := rfl
  simp only [Cop.f, opInN, e, eqFl, Bool.or_false, beqS, if_true]
end EV.NV
end
section
/-! Q1: steps, paths, tests, deeds, changes, undoings: what the program tells of any small data. -/
set_option Elab.async false
set_option linter.all false
set_option maxRecDepth 100000
namespace EV.NV
open PySem PySem.Spec PyProof.Rows L2
/-! ### heads -/
theorem en (w : Str) (G : GH) : Cop.eq.f [.non, .str w] G = .ok (.bl false) G := rfl
end EV.NV
end
section
/-! Q2: tests, deeds: what the program tells of any small data. -/
set_option Elab.async false
set_option linter.all false
set_option maxRecDepth 100000
set_option maxHeartbeats 1000000
namespace EV.NV
open PySem PySem.Spec PyProof.Rows L2
end EV.NV
end
section
/-! Q3: deeds, changes, undoings: what the program tells of any small data. -/
set_option Elab.async false
set_option linter.all false
set_option maxRecDepth 100000
set_option maxHeartbeats 1000000
namespace EV.NV
open PySem PySem.Spec PyProof.Rows L2
end EV.NV
end
section
/-! Q4: changes, undoings: what the program tells of any small data. -/
set_option Elab.async false
set_option linter.all false
set_option maxRecDepth 100000
set_option maxHeartbeats 1000000
namespace EV.NV
open PySem PySem.Spec PyProof.Rows L2
end EV.NV
end
section
/-! R1: indexes, entries, what stands, histories: what the program tells of any small data. -/
set_option Elab.async false
set_option linter.all false
set_option maxRecDepth 100000
set_option maxHeartbeats 1000000
namespace EV.NV
open PySem PySem.Spec PyProof.Rows L2
end EV.NV
end
section
/-! R2: what stands, histories: what the program tells of any small data. -/
set_option Elab.async false
set_option linter.all false
set_option maxRecDepth 100000
set_option maxHeartbeats 1000000
namespace EV.NV
open PySem PySem.Spec PyProof.Rows L2
end EV.NV
end
section
/-! QG: equality of data (k02, k19). -/
set_option Elab.async false
set_option linter.all false
set_option maxRecDepth 100000
set_option maxHeartbeats 1000000
namespace EV.NV
open PySem PySem.Spec PyProof.Rows L2
theorem shaped_fit {p : PV} (h : fitX p = true) (d : dep p ≤ 60) : SeqAt.shaped (dOf p) = true := by
  have q := fit_layX h
  simp only [SeqAt.shaped, q.1, Bool.true_and, decide_eq_true_eq]
  have := q.2.2.1
  omega
theorem eq_dat {x y : PV} {G : GH} (hs : scalP x y = none) (hx : fitX x = true) (dx : dep x ≤ 60) (hy : fitX y = true) (dy : dep y ≤ 60) : eqP G x y = some (PyData.eqv (dOf x) (dOf y)) := by
  simp only [eqP, hs, toDG_dat G (dat_of_fitX hx), toDG_dat G (dat_of_fitX hy), eqD]
  rw [if_pos ⟨shaped_fit hx dx, shaped_fit hy dy⟩]
theorem nef_dat {x y : PV} {G : GH} (hs : scalP x y = none) (hx : fitX x = true) (dx : dep x ≤ 60) (hy : fitX y = true) (dy : dep y ≤ 60) : Cop.ne.f [x, y] G = .ok (.bl (!PyData.eqv (dOf x) (dOf y))) G := by
  simp only [Cop.f, opNe, opEqN, eq_dat hs hx dx hy dy]; rfl
theorem ne_nilL {ys : List PV} {G : GH} (h : fitXs ys = true) (d : deps ys < 60) : Cop.ne.f [.lst ys, .lst []] G = .ok (.bl (!ys.isEmpty)) G := by
  rw [nef_dat rfl (by simpa only [fitX] using h) (by simp only [dep]; omega) rfl (by decide)]
  cases ys <;> simp [dOf, dOfs, PyData.eqv, PyData.eqvAll]
end EV.NV
end
section

end
section
set_option Elab.async false
set_option linter.all false
set_option maxRecDepth 100000
/-! Ev53: list(d): the keys of a dict of texts. -/
namespace EV
open PySem PySem.Spec PyProof.Rows L2
section
variable {X : Cx} {F : Fx} {Ex : XK} {n : Nat}
end
section
variable {P : Program} {w : World} {K : PySem.W.Frag} {mg : Str → Option Value} {base : Heap} {F : Fx} {n : Nat}
/-! defs known by another name than their own (from Ev12) -/
end
end EV
end
section
set_option Elab.async false
set_option linter.all false
set_option maxRecDepth 100000
/-! Ev25: sorted by keys of two: a number, then what has one kind by it. -/
namespace EV
open PySem PySem.W PySem.Calls PyProof.Rows
section
variable {prog : Program} {w : World} {A : Around} {s : Shared}
end
end EV
end
section
set_option Elab.async false
set_option linter.all false
set_option maxRecDepth 100000
/-! Ev26: sorted(xs, key=f), f's keys of two: a number, then what has one kind by it. -/
namespace EV
open PySem PySem.W PySem.Calls PyProof.Rows
/-! ### heaps in which all stays but the slots of frames -/
structure Kp (fr : List Addr) (h h' : Heap) : Prop where
  keep : ∀ b o, h.get? b = some o → b ∉ fr → h'.get? b = some o
  slot : ∀ b o, h.get? b = some o → b ∈ fr → ∃ sl, h'.get? b = some { o with slots := sl }
theorem Kp.refl (fr : List Addr) (h : Heap) : Kp fr h h := ⟨fun _ _ e _ => e, fun b o e _ => ⟨o.slots, e⟩⟩
theorem Kp.trans {fr : List Addr} {h h' h'' : Heap} (a : Kp fr h h') (b : Kp fr h' h'') : Kp fr h h'' :=
  ⟨fun c o e n => b.keep c o (a.keep c o e n) n, fun c o e n => by
    obtain ⟨sl, e1⟩ := a.slot c o e n
    obtain ⟨sl2, e2⟩ := b.slot c _ e1 n
    exact ⟨sl2, e2⟩⟩
theorem Kp.of {fr : List Addr} {h h' : Heap} (k : ∀ b o, h.get? b = some o → h'.get? b = some o) : Kp fr h h' := ⟨fun b o e _ => k b o e, fun b o e _ => ⟨o.slots, k b o e⟩⟩
theorem Kp.any {fr : List Addr} {h h' : Heap} (a : Kp fr h h') {b : Addr} {o : Obj} (e : h.get? b = some o) : ∃ o', h'.get? b = some o' ∧ o'.cls = o.cls ∧ o'.data = o.data := by
  by_cases n : b ∈ fr
  · obtain ⟨sl, e1⟩ := a.slot b o e n
    exact ⟨_, e1, rfl, rfl⟩
  · exact ⟨o, a.keep b o e n, rfl, rfl⟩
/-- the same but at one place -/
structure KpB (l : Addr) (fr : List Addr) (h h' : Heap) : Prop where
  keep : ∀ b o, b ≠ l → h.get? b = some o → b ∉ fr → h'.get? b = some o
  slot : ∀ b o, b ≠ l → h.get? b = some o → b ∈ fr → ∃ sl, h'.get? b = some { o with slots := sl }
theorem KpB.then {l : Addr} {fr : List Addr} {h h' h'' : Heap} (a : KpB l fr h h') (b : Kp fr h' h'') : KpB l fr h h'' :=
  ⟨fun c o nl e n => b.keep c o (a.keep c o nl e n) n, fun c o nl e n => by
    obtain ⟨sl, e1⟩ := a.slot c o nl e n
    obtain ⟨sl2, e2⟩ := b.slot c _ e1 n
    exact ⟨sl2, e2⟩⟩
theorem KpB.same {l c : Addr} {fr : List Addr} {h h' h'' : Heap} (a : KpB l fr h h') (b : Heap.SameBut c h' h'') (hc : c = l ∨ h.get? c = none) : KpB l fr h h'' := by
  have ne : ∀ x o, x ≠ l → h.get? x = some o → x ≠ c := fun x o nl e z => by
    rcases hc with hc | hc
    · exact nl (z.trans hc)
    · rw [z, hc] at e; cases e
  exact ⟨fun x o nl e n => (b.2 x (ne x o nl e)).trans (a.keep x o nl e n), fun x o nl e n => by
    obtain ⟨sl, e1⟩ := a.slot x o nl e n
    exact ⟨sl, (b.2 x (ne x o nl e)).trans e1⟩⟩
section
variable {prog : Program} {w : World} {A : Around} {s : Shared} {P : PySem.Fin → Shared → Prop} {E : Value → Shared → Prop} {l ka : Addr} {ep : Nat} {vs : List Value} {kz : List PyData} {fr : List Addr}
/-- f's calls, one by one: the keys gather in the list ka -/
structure Gath (h0 : Heap) (l ka : Addr) (ep : Nat) (fr : List Addr) (kz : List PyData) (s0 : Shared) (i : Nat) (s1 : Shared) : Prop where
  ex : ∃ (h1 : Heap) (tk : Nat) (ks : Array Value) (e1 : Nat) (gn : Array GenState) (dn : Drawn), s1 = { s0 with heap := h1, toks := tk, gens := gn, drawn := dn } ∧ PyProof.Rows.AllBare gn ∧ KpB l fr h0 h1 ∧ s0.heap.objs.size ≤ h1.objs.size ∧ h1.get? ka = some (seqObj "list" ks e1) ∧ h1.get? l = some (seqObj "list" #[] ep) ∧ EachIs (fun v k => Reads h1 v k [] ∧ alike k k = true) ks.toList (kz.take i)
end
end EV
end
section
set_option Elab.async false
set_option linter.all false
set_option maxRecDepth 100000
/-! Ev27: a lambda that calls a def of the text, its value a key of two. -/
namespace EV
open PySem PySem.Spec PyProof.Rows L2 RZ Zs
end EV
end
section
set_option Elab.async false
set_option linter.all false
set_option maxRecDepth 100000
/-! Ev28: sorted(xs, key=lambda x: f(x)), f a def of the text. -/
namespace EV
open PySem PySem.Spec PyProof.Rows L2 RZ Zs
section
variable {P : Program} {w : World} {K : PySem.W.Frag} {mg : Str → Option Value} {base : Heap} {F : Fx} {A : Around} {s : Shared} {outer : List PySem.Env}
end
end EV
end
section
set_option Elab.async false
set_option linter.all false
set_option maxRecDepth 100000
/-! Ev29: sorted(xs, key=lambda x: f(x)), as the evaluator has it. -/
namespace EV
open PySem PySem.Spec PyProof.Rows L2 RZ Zs
/-- a def that tells keys, where nothing is tracked -/
structure KeyP (P : Program) (w : World) (K : PySem.W.Frag) (mg : Str → Option Value) (base : Heap) (x : Str) (m : List PV → GH → Res PV) : Prop where
  ex : ∃ (ca : Nat → Addr) (m1 : List PV → GH → Res PV), CalleeP P w K mg base ⟨K, ca, []⟩ 1 x 1 m1 ∧ ∀ qs G, m qs G = .bad ∨ m qs G = m1 qs G
def gateB (r : Res PV) : Bool := match r with
  | .bad => false
  | _ => true
section
variable {X : Cx} {F : Fx} {Ex : XK} {n : Nat} {μ : Mu} {H : Hp} {G : GH}
end
end EV
end
section
set_option Elab.async false
set_option linter.all false
set_option maxRecDepth 100000
set_option maxHeartbeats 1000000
/-! Ev54: raise C(..), C an own class over an own one over ValueError, whose __init__ keeps its fields. -/
namespace EV
open PySem PySem.Spec PyProof.Rows L2
/-- what the written part says of the base class D -/
structure XBase (K : PySem.W.Frag) (D : Addr) : Prop where
  rd : ClX.CRead K D (.type "type")
  ini : PySem.W.findCls K (.ref D) (.type "type") "__init__" = some (.val (.builtin "ValueError.__init__"))
/-- .. of the class C with its fields -/
structure XCls (K : PySem.W.Frag) (C fI : Addr) (fs : List Str) : Prop where
  oex : OexC K C
  ini : PySem.W.findIn K (.ref C) "__init__" = some (some (.ref fI))
  tyI : PySem.W.typeIn K (.ref fI) = some (.type "function")
  noat : ∀ f ∈ fs, PySem.W.findIn K (.ref C) f = some none
section
variable {X : Cx} {e : Expr} {es : List Expr} {ta : TA} {p p1 p2 pos : Pos} {x : Str} {D : Addr}
/-- D.__init__(self, ..), D an own class that has ValueError's -/
theorem pe_binit {pl : Sem Bool} (hg : Gl X x) (hm : X.mg x = some (.ref D)) (B : XBase X.K D) (ha : PA X (e :: es) ta) (hdb : (x == ("__debug__" : Str)) = false)
    (hc : eval (.Call (.Attribute (.Name x p1) "__init__" p2) (e :: es) [] pos) X.env = (do
      let ov ← eval (.Name x p1) X.env
      standAt p2.atName
      let (f, first) ← holding [ov] (getMethod ov "__init__" pl)
      callWith pos f first (backTo pos (starEach (e :: es) X.env)) (backToKw pos (keywordEach [] X.env))) := by rfl)
    (he : starEach (e :: es) X.env = (false, eval e X.env) :: starEach es X.env := by rfl) (hpl : (backTo pos (starEach es X.env)).any (·.1) = false := by rfl) :
    PE X (.Call (.Attribute (.Name x p1) "__init__" p2) (e :: es) [] pos) (tVeI X.K ta) := by
  refine ⟨fun pins s σ H Q I h => ?_⟩
  refine PySem.W.methodCall_KW (ld_glob I hg hm ?_ hdb) hc
  refine PySem.W.method_cls I.kIn B.rd.ga (PySem.W.cls_value I.kIn B.rd.rd B.ini (by decide +kernel) ?_)
  show wpAny _ _ (callWith pos (Value.builtin "ValueError.__init__") [] (backTo pos (starEach (e :: es) X.env)) []) _ _ _
  refine PyProof.Rows.callWith_method1 (thn (ha.run pos pins _ σ H _ (I.tok _) h) fun us s1 ⟨vs, H1, I1, r1, a, C, ws, ev, hl, T, ea, q⟩ => ?_) he hpl
  subst ev
  cases r1 with
  | @cons _ u0 _ ur ra rw' =>
    obtain rfl : u0 = Value.ref a := ra
    have hlen : ur.length ≤ sizeLine := by
      rw [← Paired.length rw', sizeLine_eq]
      omega
    exact oinit_ok T I1 ea hlen fun s' J => ⟨.non, H1, J, rfl, q⟩
end
/-- what such an __init__ does, of two fields -/
def spI2 (K : PySem.W.Frag) (C : Addr) (f1 f2 : Str) : Sp := fun vs H Q _ => ∃ (a : Addr) (v1 v2 : V), vs = [.ref a, v1, v2] ∧ H a = some (exo a C none) ∧
  ∀ dx, H dx = none → dx ≠ a → Q .non (upd (upd (upd H dx (exd dx [(f1, v1)])) a (exo a C (some dx))) dx (exd dx [(f2, v2), (f1, v1)]))
/-- .. of one -/
def spI1 (K : PySem.W.Frag) (C : Addr) (f1 : Str) : Sp := fun vs H Q _ => ∃ (a : Addr) (v1 : V), vs = [.ref a, v1] ∧ H a = some (exo a C none) ∧
  ∀ dx, H dx = none → dx ≠ a → Q .non (upd (upd H dx (exd dx [(f1, v1)])) a (exo a C (some dx)))
/-- the call is one of a name's attribute -/
def AttrCall (x : Str) (es : List Expr) (p1 p2 pos : Pos) : Prop := ∀ env : PySem.Env, ∃ pl : Sem Bool, eval (.Call (.Attribute (.Name x p1) "__init__" p2) es [] pos) env = (do
      let ov ← eval (.Name x p1) env
      standAt p2.atName
      let (f, first) ← holding [ov] (getMethod ov "__init__" pl)
      callWith pos f first (backTo pos (starEach es env)) (backToKw pos (keywordEach [] env)))
section
variable {P : Program} {w : World} {K : PySem.W.Frag} {mg : Str → Option Value} {base : Heap} {C D fI : Addr} {fd : FuncData} {pa : Arguments} {sc : Scope} {x q f1 f2 z : Str} {j : Nat} {p1 p2 p3 p4 p5 p6 p7 p8 p9 p10 p11 p12 p13 : Pos} {k : Nat}
theorem init2 {P1 : Pos} (Fd : FunD K "__init__" q pa [.Expr (.Call (.Attribute (.Name x p1) "__init__" p2) [.Name "self" p3, .Constant (.str z) j p4] [] p5) p6, .Assign [.Attribute (.Name "self" p7) f1 p8] (.Name f1 p9) p10, .Assign [.Attribute (.Name "self" p11) f2 p12] (.Name f2 p13) P1] sc [] [] fI fd)
    (S : FnScope ["self", f1, f2] ["self", f1, f2] sc) (hx : sc.names.lookup x = some .globalImplicit) (hm : mg x = some (.ref D)) (B : XBase K D) (T : XCls K C fI [f1, f2]) (hcall : AttrCall x [.Name "self" p3, .Constant (.str z) j p4] p1 p2 p5) (hdb : (x == ("__debug__" : Str)) = false)
    (v0 : Vis sc "self") (v1 : Vis sc f1) (v2 : Vis sc f2) (d1 : (f1 == ("__debug__" : Str)) = false) (d2 : (f2 == ("__debug__" : Str)) = false) (c1 : (f1 == ("__classdict__" : Str)) = false) (c2 : (f2 == ("__classdict__" : Str)) = false) :
    FnOk P w K mg base (L2.CX P w) (k + 1) fI fd ["self", f1, f2] (spI2 K C f1 f2) :=
  Fd.ok S (fun vs H Q E ⟨a, u1, u2, e, _⟩ => by rw [e]; rfl) fun cdv A outer s H vs Q E hr ⟨a, u1, u2, e, ha, hq⟩ => by
    subst e
    let Y := cxOf (L2.CX P w) P w K mg base ["self", f1, f2] q sc fI cdv A outer s H E
    have n0 : Y.N[0]? = some ("self" : Str) := rfl
    have n1 : Y.N[1]? = some f1 := rfl
    have n2 : Y.N[2]? = some f2 := rfl
    have es : PE Y (.Name "self" p3) (tVar 0) := pe_var n0 v0
    have e1 : PE Y (.Name f1 p9) (tVar 1) := pe_var n1 v1 d1 c1
    have e2 : PE Y (.Name f2 p13) (tVar 2) := pe_var n2 v2 d2 c2
    obtain ⟨pl, hpl⟩ := hcall Y.env
    refine ⟨_, pss_cons (ps_expr (pe_binit (X := Y) (pl := pl) (show Y.env.kindOf x = some .globalImplicit from hx) hm B (pa_cons es (pa_cons pe_str pa_nil)) hdb hpl)) (pss_cons (ps_ost (pe_var (pos := p7) n0 v0) e1) (pss_cons (ps_ost (pe_var (pos := p11) n0 v0) e2) pss_nil)), ?_⟩
    refine ⟨.ref a, rfl, a, C, [.str z], rfl, by simp, T.oex, ha, ?_⟩
    refine ⟨u1, rfl, .ref a, rfl, a, C, rfl, T.oex, T.noat _ (by simp), .inl ⟨ha, fun dx hd hne => ?_⟩⟩
    refine ⟨u2, rfl, .ref a, rfl, a, C, rfl, T.oex, T.noat _ (by simp), .inr ⟨dx, [(f1, u1)], upd_same, ?_, by simp, hq dx hd hne⟩⟩
    rw [upd_ne hne, upd_same]
end
/-! ### raise -/
/-- raise C(..): the class's number, its fields -/
def sRaise (gt : Bool) (c : Nat) (fl : List Str) (ms : Env → GH → Res (List PV)) : Env → GH → Res Fl := if gt = true then fun ρ G => (ms ρ G).bind fun vs G1 => if vs.length = fl.length then .exc c (fl.zip vs).reverse G1 else .bad else fun _ _ => .bad
/-- a def's __init__ as raise needs it -/
inductive XMk (P : Program) (w : World) (K : PySem.W.Frag) (mg : Str → Option Value) (base : Heap) (C : Addr) : List Str → Prop
  | two {f1 f2 : Str} {fI : Addr} {fd : FuncData} (T : XCls K C fI [f1, f2]) (ok : FnOk P w K mg base (L2.CX P w) 1 fI fd ["self", f1, f2] (spI2 K C f1 f2)) (b : Binds K fd ["self", f1, f2] []) : XMk P w K mg base C [f1, f2]
  | one {f1 : Str} {fI : Addr} {fd : FuncData} (T : XCls K C fI [f1]) (ok : FnOk P w K mg base (L2.CX P w) 1 fI fd ["self", f1] (spI1 K C f1)) (b : Binds K fd ["self", f1] []) : XMk P w K mg base C [f1]
section
variable {X : Cx} {F : Fx} {Ex : XK} {n : Nat} {e : Expr} {es : List Expr} {x : Str} {p pos rpos : Pos} {c : Nat} {fl : List Str} {ms : Env → GH → Res (List PV)} {gt : Bool}
theorem ps_false {st : Stmt} {t : TS} (h : ∀ D σ H, t D σ H → False) : PS X st t := ⟨fun pins s σ H D I q => (h D σ H q).elim⟩
/-- the heap behind the making -/
theorem made_heap {H : Hp} {a d C : Addr} {o1 o2 o3 o4 : HO} {fs : List (Str × V)} (hn : H a = none) (hne : d ≠ a) : upd (del (upd (upd (upd (upd H a o1) d o2) a o3) d o4) a) d (.xd fs) = upd H d (.xd fs) := by
  funext b
  by_cases hb : b = d
  · rw [hb, upd_same, upd_same]
  · rw [upd_ne hb, upd_ne hb]
    by_cases ha : b = a
    · rw [ha, del_same, hn]
    · rw [del_ne ha, upd_ne hb, upd_ne ha, upd_ne hb, upd_ne ha]
theorem made_heap1 {H : Hp} {a d C : Addr} {o1 o2 o3 : HO} {fs : List (Str × V)} (hn : H a = none) (hne : d ≠ a) : upd (del (upd (upd (upd H a o1) d o2) a o3) a) d (.xd fs) = upd H d (.xd fs) := by
  funext b
  by_cases hb : b = d
  · rw [hb, upd_same, upd_same]
  · rw [upd_ne hb, upd_ne hb]
    by_cases ha : b = a
    · rw [ha, del_same, hn]
    · rw [del_ne ha, upd_ne ha, upd_ne hb, upd_ne ha]
theorem repF_rev {μ : Mu} {H : Hp} {a b : Str} {p q : PV} {u v : V} (h1 : Rep F μ H p u) (h2 : Rep F μ H q v) : RepF F μ H [(b, q), (a, p)] [(b, v), (a, u)] := .cons ⟨rfl, h2⟩ (.cons ⟨rfl, h1⟩ .nil)
/-- what the making leaves: an exception, its dict -/
theorem exc_new {μ : Mu} {H : Hp} {G : GH} {d : Addr} {fs : List (Str × PV)} {fvs : List (Str × V)} {α β : Type} {R : RelA α β} {Q : β → Hp → Prop} (g : HRep F μ H G) (hd : H d = none) (r : RepF F μ H fs fvs) (h : Post F R Ex μ H (.exc c fs G : Res α) Q) : Ex (.ref (F.ca c)) (some d) (upd H d (.xd fvs)) :=
  h μ d (upd H d (.xd fvs)) fvs (Ext.upd_new g hd) (g.upd_new hd) upd_same (g.fresh hd) (r.mono (Ext.upd_new g hd))
theorem ev_raise (g : GX X F Ex n) (tk : Takes X fun cls d _ H => Ex cls d H) (hgt : gt = true → 3 ≤ n) (M : XMk X.prog X.w X.K X.mg X.base (F.ca c) fl) (hm : X.mg x = some (.ref (F.ca c))) (ha : PA X (e :: es) (TAv F Ex ms)) (hg : Gl X x)
    (hdb : (x == ("__debug__" : Str)) = false) (he : starEach (e :: es) X.env = (false, eval e X.env) :: starEach es X.env := by rfl) (hpl : (backTo pos (starEach es X.env)).any (·.1) = false := by rfl) :
    PS X (.Raise (some (.Call (.Name x p) (e :: es) [] pos)) none rpos) (TSv F Ex (sRaise gt c fl ms)) := by
  cases gt with
  | false =>
    exact ps_false fun D σ H ⟨μ, ρ, G, s, gr, q⟩ => (show Post F (RF F) Ex μ H (.bad : Res Fl) (SQ D) from q)
  | true =>
    have hn := hgt rfl
    have hr : Room (1 + 1) X.A := g.room.mono (by omega)
    cases M with
    | @two f1 f2 fI fd T ok b =>
      refine (ps_raise g.calm tk (pmk_oex T.oex T.ini T.tyI ok hr b .nil passL hg hm ha hdb he hpl)).weak fun D σ H ⟨μ, ρ, G, s, gr, q⟩ => ?_
      have q : Post F (RF F) Ex μ H ((ms ρ G).bind fun vs G1 => if vs.length = [f1, f2].length then .exc c ([f1, f2].zip vs).reverse G1 else .bad) (SQ D) := q
      refine TAv.run s gr q fun μ1 vs G1 us H1 e1 r1 g1 s1 q1 => ?_
      split at q1
      · rename_i hl
        obtain ⟨y1, y2, rfl⟩ : ∃ y1 y2, vs = [y1, y2] := by
          match vs, hl with
          | [a, b], _ => exact ⟨a, b, rfl⟩
        obtain ⟨u1, u2, rfl, h1, h2⟩ := r1.two_inv
        refine ⟨by simp, fun a hn => ⟨a, u1, u2, rfl, upd_same, fun dx hd hne => ⟨rfl, dx, [(f2, u2), (f1, u1)], ?_, upd_same, ?_, ?_⟩⟩⟩
        · rw [upd_ne (Ne.symm hne), upd_same]
        · rw [upd_ne hne] at hd; exact hd
        · rw [upd_ne hne] at hd
          rw [made_heap (C := F.ca c) hn hne]
          exact exc_new g1 hd (repF_rev h1 h2) q1
      · exact (show False from q1).elim
    | @one f1 fI fd T ok b =>
      refine (ps_raise g.calm tk (pmk_oex T.oex T.ini T.tyI ok hr b .nil passL hg hm ha hdb he hpl)).weak fun D σ H ⟨μ, ρ, G, s, gr, q⟩ => ?_
      have q : Post F (RF F) Ex μ H ((ms ρ G).bind fun vs G1 => if vs.length = [f1].length then .exc c ([f1].zip vs).reverse G1 else .bad) (SQ D) := q
      refine TAv.run s gr q fun μ1 vs G1 us H1 e1 r1 g1 s1 q1 => ?_
      split at q1
      · rename_i hl
        obtain ⟨y1, rfl⟩ : ∃ y1, vs = [y1] := by
          match vs, hl with
          | [a], _ => exact ⟨a, rfl⟩
        obtain ⟨u1, rfl, h1⟩ := r1.one_inv
        refine ⟨by simp, fun a hn => ⟨a, u1, rfl, upd_same, fun dx hd hne => ⟨rfl, dx, [(f1, u1)], upd_same, ?_, ?_, ?_⟩⟩⟩
        · rw [upd_ne hne, upd_same]
        · rw [upd_ne hne] at hd; exact hd
        · rw [upd_ne hne] at hd
          rw [made_heap1 (C := F.ca c) hn hne]
          exact exc_new g1 hd (.cons ⟨rfl, h1⟩ .nil) q1
      · exact (show False from q1).elim
end
end EV
end
section
set_option Elab.async false
set_option linter.all false
set_option maxRecDepth 100000
set_option maxHeartbeats 1000000
/-! Ev55: try: .. / several clauses except x as n: .. (turned from HandS's ps_try_as and ps_try_many). -/
namespace EV
open PySem PySem.Spec PyProof.Rows L2
abbrev SuiteT := Addr → Value → Option Addr → TS
/-- the ends of a suite that holds its exception in slot i -/
def offD (i : Nat) (D : Ends) : Ends := { nx := fun σ' H' => D.nx (σ'.set i none) H', rt := D.rt, bk := fun σ' H' => D.bk (σ'.set i none) H', ct := fun σ' H' => D.ct (σ'.set i none) H' }
def wManyA (K : PySem.W.Frag) (Wout : WX) (D : Ends) : List (Value × Nat × SuiteT) → WX
  | [] => Wout
  | (c, i, ts) :: r => fun cls d σ H => ∃ b, PySem.W.exmOne K cls c = some b ∧ (b = true → ∀ a, H a = none → ts a cls d (offD i D) (σ.set i (some (.ref a))) H) ∧ (b = false → wManyA K Wout D r cls d σ H)
inductive HdsA (X : Cx) : List ExceptHandler → List (Value × Nat × SuiteT) → Prop
  | nil : HdsA X [] []
  | cons {x n : Str} {c : Value} {i : Nat} {ts : SuiteT} {b₀ : Stmt} {suite : List Stmt} {np pos' : Pos} {hds : List ExceptHandler} {l : List (Value × Nat × SuiteT)} (hi : X.N[i]? = some n) (hln : X.env.kindOf n = some .local) (hc : Names X x c)
      (hsu : ∀ (a : Addr) (oe : Obj) (cls : Value) (d : Option Addr) (pn : List (Addr × Obj)), Zc cls d oe → (∃ vs, oe.data = .fields vs) → PSs (X.suite a ((a, oe) :: pn)) (b₀ :: suite) (ts a cls d)) (r : HdsA X hds l) :
      HdsA X (.ExceptHandler (some (.Name x np)) (some n) (b₀ :: suite) pos' :: hds) ((c, i, ts) :: l)
section
variable {X : Cx} {body : List Stmt} {h₀ : ExceptHandler} {hds : List ExceptHandler} {l : List (Value × Nat × SuiteT)} {pos : Pos} {tb : WX → TS} {Wout : WX}
end
end EV
end
section
set_option Elab.async false
set_option linter.all false
set_option maxRecDepth 100000
set_option maxHeartbeats 1000000
/-! Ev56: except suites, as the evaluator has them: a caught exception e of an own class; printed by mkEv56.py (the combinators are those of Ev3, Ev7, Ev24). -/
namespace EV
open PySem PySem.Spec PyProof.Rows L2
/-- the caught exception: where it stands, its dict, its slot, its fields -/
structure Zx where
  a : Addr
  dd : Addr
  i : Nat
  fs : List (Str × PV)
structure SRx (F : Fx) (Z : Zx) (μ : Mu) (H : Hp) (ρ : Env) (σ : L2.St) : Prop where
  s : SRel F μ H ρ σ
  at_ : σ[Z.i]? = some (some (.ref Z.a))
  x : ∃ fvs, H Z.dd = some (.xd fvs) ∧ RepF F μ H Z.fs fvs
  fr : μ.free Z.dd
theorem SRx.mono {F : Fx} {Z : Zx} {μ μ' : Mu} {H H' : Hp} {ρ : Env} {σ : L2.St} (e : Ext μ μ' H H') (s : SRx F Z μ H ρ σ) : SRx F Z μ' H' ρ σ := by
  obtain ⟨fvs, h1, h2⟩ := s.x
  exact ⟨s.s.mono e, s.at_, ⟨fvs, e.keep _ _ h1 (fun _ z => by cases z) s.fr.1, h2.mono e⟩, e.out (fun _ z => by cases z) h1 s.fr⟩
theorem SRx.set {F : Fx} {Z : Zx} {μ : Mu} {H : Hp} {ρ : Env} {σ : L2.St} (s : SRx F Z μ H ρ σ) {p : PV} {v : V} (r : Rep F μ H p v) {j : Nat} (hj : j ≠ Z.i) : SRx F Z μ H (ρ.set j (some p)) (σ.set j (some v)) :=
  ⟨s.s.set r j, by rw [List.getElem?_set_ne hj]; exact s.at_, s.x, s.fr⟩
def TEx (F : Fx) (Z : Zx) (m : Env → GH → Res PV) : TE := fun σ H Q => ∃ μ ρ G, SRx F Z μ H ρ σ ∧ HRep F μ H G ∧ Post F (RV F) E0 μ H (m ρ G) Q
def TTx (F : Fx) (Z : Zx) (m : Env → GH → Res Bool) : TT := fun σ H Q => ∃ μ ρ G, SRx F Z μ H ρ σ ∧ HRep F μ H G ∧ Post F RB E0 μ H (m ρ G) Q
def TAx (F : Fx) (Z : Zx) (m : Env → GH → Res (List PV)) : TA := fun σ H Q => ∃ μ ρ G, SRx F Z μ H ρ σ ∧ HRep F μ H G ∧ Post F (RVs F) E0 μ H (m ρ G) Q
def RFx (F : Fx) (Z : Zx) : RelA Fl FlV := fun μ H f g => match f, g with
  | .next ρ, .next σ => SRx F Z μ H ρ σ
  | .ret p, .ret v => Rep F μ H p v
  | .brk ρ, .brk σ => SRx F Z μ H ρ σ
  | .cont ρ, .cont σ => SRx F Z μ H ρ σ
  | _, _ => False
def TSx (F : Fx) (Z : Zx) (m : Env → GH → Res Fl) : TS := fun D σ H => ∃ μ ρ G, SRx F Z μ H ρ σ ∧ HRep F μ H G ∧ Post F (RFx F Z) E0 μ H (m ρ G) (SQ D)
section
variable {X : Cx} {F : Fx} {Z : Zx}
theorem TEx.run {σ : L2.St} {H : Hp} {μ : Mu} {ρ : Env} {G : GH} {m : Env → GH → Res PV} {γ δ : Type} {R2 : RelA γ δ} {f : PV → GH → Res γ} {Q2 : δ → Hp → Prop} {Q : VK}
    (s : SRx F Z μ H ρ σ) (g : HRep F μ H G) (h : Post F R2 E0 μ H ((m ρ G).bind f) Q2)
    (k : ∀ μ1 a G1 v H1, Ext μ μ1 H H1 → Rep F μ1 H1 a v → HRep F μ1 H1 G1 → SRx F Z μ1 H1 ρ σ → Post F R2 E0 μ1 H1 (f a G1) Q2 → Q v H1) : TEx F Z m σ H Q :=
  ⟨μ, ρ, G, s, g, (Post.bind (R := RV F) h).mono fun v H1 ⟨μ1, a, G1, _, e, r, g1, p⟩ => k μ1 a G1 v H1 e r g1 (s.mono e) p⟩
theorem TAx.run {σ : L2.St} {H : Hp} {μ : Mu} {ρ : Env} {G : GH} {m : Env → GH → Res (List PV)} {γ δ : Type} {R2 : RelA γ δ} {f : List PV → GH → Res γ} {Q2 : δ → Hp → Prop} {Q : List V → Hp → Prop}
    (s : SRx F Z μ H ρ σ) (g : HRep F μ H G) (h : Post F R2 E0 μ H ((m ρ G).bind f) Q2)
    (k : ∀ μ1 a G1 v H1, Ext μ μ1 H H1 → Reps F μ1 H1 a v → HRep F μ1 H1 G1 → SRx F Z μ1 H1 ρ σ → Post F R2 E0 μ1 H1 (f a G1) Q2 → Q v H1) : TAx F Z m σ H Q :=
  ⟨μ, ρ, G, s, g, (Post.bind (R := RVs F) h).mono fun v H1 ⟨μ1, a, G1, _, e, r, g1, p⟩ => k μ1 a G1 v H1 e r g1 (s.mono e) p⟩
theorem TTx.run {σ : L2.St} {H : Hp} {μ : Mu} {ρ : Env} {G : GH} {m : Env → GH → Res Bool} {γ δ : Type} {R2 : RelA γ δ} {f : Bool → GH → Res γ} {Q2 : δ → Hp → Prop} {Q : Bool → Hp → Prop}
    (s : SRx F Z μ H ρ σ) (g : HRep F μ H G) (h : Post F R2 E0 μ H ((m ρ G).bind f) Q2)
    (k : ∀ μ1 b G1 H1, Ext μ μ1 H H1 → HRep F μ1 H1 G1 → SRx F Z μ1 H1 ρ σ → Post F R2 E0 μ1 H1 (f b G1) Q2 → Q b H1) : TTx F Z m σ H Q :=
  ⟨μ, ρ, G, s, g, (Post.bind (R := RB) h).mono fun v H1 ⟨μ1, a, G1, _, e, r, g1, p⟩ => by
    cases (show a = v from r)
    exact k μ1 _ G1 H1 e g1 (s.mono e) p⟩
/-- what doesn't look at the exception -/
theorem xv_e {e : Expr} {m : Env → GH → Res PV} (h : PE X e (TEv F E0 m)) : PE X e (TEx F Z m) := h.weak fun σ H Q ⟨μ, ρ, G, s, g, p⟩ => ⟨μ, ρ, G, s.s, g, p⟩
theorem xv_tand1 {a : Expr} {pos : Pos} {t : TT} (h : PT X a t) : PW X (.BoolOp .And [a] pos) t := pw_and1 h
theorem xv_tor1 {a : Expr} {pos : Pos} {t : TT} (h : PT X a t) : PW X (.BoolOp .Or [a] pos) t := pw_or1 h
theorem xv_asg {i : Nat} {y : Str} {py pos : Pos} {e : Expr} {m : Env → GH → Res PV} (he : PE X e (TEx F Z m)) (hN : X.N.Nodup) (hi : X.N[i]? = some y) (hx : Loc X.env.scope y) (hf : X.fn y = true ∨ X.env.scope.names.lookup y = some .local) (hne : i ≠ Z.i)
    (hs : swapsWithSole [.Name y py] e pos.line X.env = pure false) (hw : swappedStores [.Name y py] e X.env = pure none) : PS X (.Assign [.Name y py] e pos) (TSx F Z (sAsg m (gN i))) :=
  (ps_asg he (pg_name (pos := py) hN hi hx hf) hs hw (plain_target rfl)).weak fun D σ H ⟨μ, ρ, G, s, g, p⟩ =>
    TEx.run s g p fun μ1 a G1 v H1 e1 r1 g1 s1 p1 => p1.here (b := FlV.next _) (show SRx F Z _ _ _ _ from s1.set r1 hne) g1
/-! ### tests -/
theorem xv_truth {a : Expr} {ma : Env → GH → Res PV} (hK : F.K = X.K) (ha : PE X a (TEx F Z ma)) (he : ∀ whole, isTrue a X.env whole = (do let v ← whole; standAt a.pos; holding [v] (truthy v))) : PT X a (TTx F Z (mT ma)) :=
  (pt_truth ha he).weak fun σ H Q ⟨μ, ρ, G, s, g, p⟩ => TEx.run s g p fun μ1 a G1 v H1 e1 r1 g1 s1 p1 => truth_use hK r1 g1 p1
theorem xv_tand {a b : Expr} {rest : List Expr} {pos : Pos} {ma mb : Env → GH → Res Bool} (ha : PT X a (TTx F Z ma)) (hb : PW X (.BoolOp .And (b :: rest) pos) (TTx F Z mb)) :
    PW X (.BoolOp .And (a :: b :: rest) pos) (TTx F Z (mtAnd ma mb)) := (pw_and ha hb).weak fun σ H Q ⟨μ, ρ, G, s, g, p⟩ => TTx.run s g p fun μ1 b G1 H1 e1 g1 s1 p1 => by
  cases b with
  | true => exact ⟨μ1, ρ, G1, s1, g1, p1⟩
  | false => exact p1.here rfl g1
theorem xv_tor {a b : Expr} {rest : List Expr} {pos : Pos} {ma mb : Env → GH → Res Bool} (ha : PT X a (TTx F Z ma)) (hb : PW X (.BoolOp .Or (b :: rest) pos) (TTx F Z mb)) :
    PW X (.BoolOp .Or (a :: b :: rest) pos) (TTx F Z (mtOr ma mb)) := (pw_or ha hb).weak fun σ H Q ⟨μ, ρ, G, s, g, p⟩ => TTx.run s g p fun μ1 b G1 H1 e1 g1 s1 p1 => by
  cases b with
  | true => exact p1.here rfl g1
  | false => exact ⟨μ1, ρ, G1, s1, g1, p1⟩
theorem xv_if {c a b : Expr} {pos : Pos} {mc : Env → GH → Res Bool} {ma mb : Env → GH → Res PV} (hc : PT X c (TTx F Z mc)) (ha : PE X a (TEx F Z ma)) (hb : PE X b (TEx F Z mb)) :
    PE X (.IfExp c a b pos) (TEx F Z (mIf mc ma mb)) := (pe_ifExp hc ha hb).weak fun σ H Q ⟨μ, ρ, G, s, g, p⟩ => TTx.run s g p fun μ1 b G1 H1 e1 g1 s1 p1 => by
  cases b with
  | true => exact ⟨μ1, ρ, G1, s1, g1, p1⟩
  | false => exact ⟨μ1, ρ, G1, s1, g1, p1⟩

/-! ### a chain of two comparisons -/
theorem xv_nil : PA X [] (TAx F Z mNil) := pa_nil.weak fun σ H Q ⟨μ, ρ, G, s, g, p⟩ => p.here (show Reps F μ H [] [] from .nil) g
theorem xv_cons {e : Expr} {es : List Expr} {m : Env → GH → Res PV} {ms : Env → GH → Res (List PV)} (hp : plainE e = true) (he : PE X e (TEx F Z m)) (hs : PA X es (TAx F Z ms)) : PA X (e :: es) (TAx F Z (mCons m ms)) :=
  (pa_cons he hs (star_plain hp)).weak fun σ H Q ⟨μ, ρ, G, s, g, p⟩ => by
    refine TEx.run s g p fun μ1 a G1 v H1 e1 r1 g1 s1 p1 => ?_
    refine TAx.run s1 g1 p1 fun μ2 b G2 w H2 e2 r2 g2 s2 p2 => ?_
    exact p2.here (show Reps F μ2 H2 _ _ from .cons (r1.mono e2) r2) g2
theorem xv_lst {es : List Expr} {pos : Pos} {ms : Env → GH → Res (List PV)} (h : PA X es (TAx F Z ms)) : PE X (.List es pos) (TEx F Z (mA ms mkLst)) :=
  (pe_lst h).weak fun σ H Q ⟨μ, ρ, G, s, g, p⟩ => TAx.run s g p fun μ1 a G1 v H1 e1 r1 g1 s1 p1 => new_lst r1 g1 p1
end
section
variable {X : Cx} {F : Fx} {Ex : XK} {n : Nat}
theorem xv_snil : PSs X [] (TSx F Z sNext) := pss_nil.weak fun D σ H ⟨μ, ρ, G, s, g, p⟩ => p.here (b := FlV.next σ) s g
theorem xv_scons {st : Stmt} {rest : List Stmt} {m n : Env → GH → Res Fl} (h1 : PS X st (TSx F Z m)) (h2 : PSs X rest (TSx F Z n)) : PSs X (st :: rest) (TSx F Z (sSeq m n)) :=
  (pss_cons h1 h2).weak fun D σ H ⟨μ, ρ, G, s, g, p⟩ => ⟨μ, ρ, G, s, g, (Post.bind (R := RFx F Z) p).mono fun f H1 ⟨μ1, e, G1, _, e1, r, g1, p1⟩ => by
    cases e <;> cases f <;> first | exact (show False from r).elim | exact ⟨μ1, _, G1, r, g1, p1⟩ | exact p1.here (b := FlV.ret _) r g1 | exact p1.here (b := FlV.brk _) r g1 | exact p1.here (b := FlV.cont _) r g1⟩
theorem xv_sif {c : Expr} {a b : List Stmt} {pos : Pos} {mc : Env → GH → Res Bool} {m n : Env → GH → Res Fl} (hc : PT X c (TTx F Z mc)) (ha : PSs X a (TSx F Z m)) (hb : PSs X b (TSx F Z n)) : PS X (.If c a b pos) (TSx F Z (sIf mc m n)) :=
  (ps_if hc ha hb).weak fun D σ H ⟨μ, ρ, G, s, g, p⟩ => TTx.run s g p fun μ1 b G1 H1 e1 g1 s1 p1 => by
    cases b with
    | true => exact ⟨μ1, ρ, G1, s1, g1, p1⟩
    | false => exact ⟨μ1, ρ, G1, s1, g1, p1⟩
end
end EV
end
section
set_option Elab.async false
set_option linter.all false
set_option maxRecDepth 100000
set_option maxHeartbeats 1000000
/-! Ev57: what a suite asks of its exception: isinstance, fields; list.count of truths. -/
namespace EV
open PySem PySem.Spec PyProof.Rows L2
section
variable {X : Cx} {a D dd : Addr} {oe : Obj} {pn : List (Addr × Obj)}
/-- the exception's own object -/
theorem inst_x {pins : List (Addr × Obj)} {σ : L2.St} {H : Hp} {s : Shared} {fs : List (Str × V)} (I : Inv (X.suite a ((a, oe) :: pn)) pins σ H s) (hz : Zc (.ref D) (some dd) oe) (hf : ∃ vs, oe.data = .fields vs) (hx : H dd = some (.xd fs)) :
    ∃ od, PySem.W.InstAt s.heap a oe D (some od) := by
  obtain ⟨ha, _⟩ := I.pin (a, oe) (List.mem_append_left _ List.mem_cons_self)
  obtain ⟨vs, hd⟩ := hf
  have hx : ObjOk X.prog X.w H s.heap dd (.xd fs) := I.hok dd _ hx
  obtain ⟨mA, hns, hr⟩ := hx
  obtain ⟨od, ho, hl⟩ := lookIn_ns hns
  exact ⟨od, ha, hz.1, by unfold PySem.W.notCls; rw [hd] <;> rfl, by rw [hz.2]; exact ho⟩
def rIsX (K : PySem.W.Frag) (D a dd : Addr) : List V → Hp → VK → Prop := fun xs H Q => ∃ (c : V) (cv : Value) (b : Bool) (fs : List (Str × V)), xs = [.ref a, c] ∧ ClsV c cv ∧ PySem.W.kitOne K (.ref D) cv = some b ∧ H dd = some (.xd fs) ∧ Q (.bl b) H
def rIsXT (K : PySem.W.Frag) (D a dd : Addr) : List V → Hp → VK → Prop := fun xs H Q => ∃ (tp : Addr) (o : Obj) (cs : List V) (us : List Value) (b : Bool) (fs : List (Str × V)), xs = [.ref a, .ref tp] ∧ H tp = some (.frz o (.tup cs)) ∧ Paired ClsV cs us ∧ PySem.W.kitAny K (.ref D) us = some b ∧ H dd = some (.xd fs) ∧ Q (.bl b) H
theorem kit_x (C : L2.ExcC X.K D) {od : Obj} : PySem.W.KitX X.K (.ref a) (.ref D) (fun h => PySem.W.InstAt h a oe D (some od)) :=
  PySem.W.kitx_exc (by obtain ⟨cd, hc, _⟩ := PySem.W.any_some C.hd; rw [hc]; rfl) C.hg C.hk C.hs C.ha C.hn C.ht C.hm
theorem call_isX (C : L2.ExcC X.K D) (hz : Zc (.ref D) (some dd) oe) (hf : ∃ vs, oe.data = .fields vs) : CallR (X.suite a ((a, oe) :: pn)) (.builtin "isinstance") (rIsX X.K D a dd) := by
  intro pins s σ H xs us Q I r h
  obtain ⟨c, cv, b, fs, rfl, k, e, hx, q⟩ := h
  obtain ⟨u1, u2, rfl, r1, r2⟩ := vals2 r
  have e2 := k.eq r2
  subst e2
  cases (show u1 = Value.ref a from r1)
  obtain ⟨od, J⟩ := inst_x I hz hf hx
  exact PySem.W.kia_one (kit_x C) I.kIn J e (fun z => nomatch z) fun tk => ⟨.bl b, H, I.tok tk, rfl, q⟩
theorem call_isXT (C : L2.ExcC X.K D) (hz : Zc (.ref D) (some dd) oe) (hf : ∃ vs, oe.data = .fields vs) : CallR (X.suite a ((a, oe) :: pn)) (.builtin "isinstance") (rIsXT X.K D a dd) := by
  intro pins s σ H xs us Q I r h
  obtain ⟨tp, o0, cs, ws, b, fs, rfl, hT, k, e, hx, q⟩ := h
  obtain ⟨u1, u2, rfl, r1, r2⟩ := vals2 r
  cases (show u1 = Value.ref a from r1)
  cases (show u2 = Value.ref tp from r2)
  obtain ⟨od, J⟩ := inst_x I hz hf hx
  obtain ⟨_, _, its, rv, o, h1, h2, n, h3⟩ := (show ObjOk X.prog X.w H s.heap tp (.frz o0 (.tup cs)) from I.hok tp _ hT)
  have e3 := ClsV.all k rv
  subst e3
  obtain ⟨oc, od2, dt, sl⟩ := o
  simp only at h2 h3
  subst h2 h3
  exact PySem.W.kia_tup (kit_x C) I.kIn J h1 e (fun z => nomatch z) fun tk => ⟨.bl b, H, I.tok tk, rfl, q⟩
end
/-- a class by its name -/
structure NmC (X : Cx) (x : Str) (c : V) (cv : Value) : Prop where
  pe : ∀ p, PE X (.Name x p) (tC c)
  k : ClsV c cv
/-- .. several -/
inductive NmCs (X : Cx) : List Expr → List V → List Value → Prop
  | nil : NmCs X [] [] []
  | cons {x : Str} {c : V} {cv : Value} {p : Pos} {es : List Expr} {cs : List V} {cvs : List Value} (h : NmC X x c cv) (r : NmCs X es cs cvs) : NmCs X (.Name x p :: es) (c :: cs) (cv :: cvs)
theorem NmCs.pa {X : Cx} : ∀ {es : List Expr} {cs : List V} {cvs : List Value}, NmCs X es cs cvs → PA X es (fun _ H Q => Q cs H) ∧ Paired ClsV cs cvs
  | _, _, _, .nil => ⟨pa_nil, .nil⟩
  | _, _, _, .cons h r => ⟨pa_cons (h.pe _) (NmCs.pa r).1 rfl, .cons h.k (NmCs.pa r).2⟩
theorem repF_look {F : Fx} {μ : Mu} {H : Hp} : ∀ {fs : List (Str × PV)} {vs : List (Str × V)} {f : Str} {p : PV}, RepF F μ H fs vs → fs.lookup f = some p → ∃ v, vs.lookup f = some v ∧ Rep F μ H p v
  | [], _, f, p, h, e => by cases e
  | (g, q) :: fs, vs, f, p, h, e => by
    cases h with
    | @cons _ w _ ws h1 h2 =>
      obtain ⟨g2, u⟩ := w
      obtain ⟨e1, e2⟩ := h1
      simp only at e1 e2
      subst e1
      by_cases k : f = g
      · subst k
        simp only [List.lookup, beq_self_eq_true, Option.some.injEq] at e ⊢
        subst e
        exact ⟨u, rfl, e2⟩
      · have kb : (f == g) = false := by simpa using k
        simp only [List.lookup, kb] at e ⊢
        exact repF_look h2 e
section
variable {X : Cx} {F : Fx} {Z : Zx} {D : Addr} {oe : Obj} {pn : List (Addr × Obj)} {x n y : Str} {p p2 p3 pos : Pos}
theorem xisi {c : V} {cv : Value} {b : Bool} (C : L2.ExcC X.K D) (hz : Zc (.ref D) (some Z.dd) oe) (hf : ∃ vs, oe.data = .fields vs) (hg : Gl X x) (hm : X.mg x = none) (hv : bootBuiltins x = some (.builtin "isinstance")) (hn : x ≠ "__name__") (hdb : (x == ("__debug__" : Str)) = false)
    (hN : X.N[Z.i]? = some n) (hvis : Vis X.env.scope n) (hd : (n == ("__debug__" : Str)) = false) (hcd : (n == ("__classdict__" : Str)) = false) (hT : NmC (X.suite Z.a ((Z.a, oe) :: pn)) y c cv) (hk : PySem.W.kitOne X.K (.ref D) cv = some b) :
    PE (X.suite Z.a ((Z.a, oe) :: pn)) (.Call (.Name x p) [.Name n p2, .Name y p3] [] pos) (TEx F Z (mCst (.bl b))) :=
  (pe_callB (call_isX C hz hf) hg hm hv (pa_cons (pe_var (i := Z.i) hN hvis hd hcd) (pa_cons (hT.pe p3) pa_nil rfl) rfl) hn hdb rfl rfl).weak fun σ H Q ⟨μ, ρ, G, s, g, q⟩ => by
    obtain ⟨fvs, h1, _⟩ := s.x
    exact ⟨.ref Z.a, s.at_, c, cv, b, fvs, rfl, hT.k, hk, h1, q.here RV.bl g⟩
theorem xisiT {es : List Expr} {cs : List V} {cvs : List Value} {k : Nat} {b : Bool} (C : L2.ExcC X.K D) (hz : Zc (.ref D) (some Z.dd) oe) (hf : ∃ vs, oe.data = .fields vs) (hg : Gl X x) (hm : X.mg x = none) (hv : bootBuiltins x = some (.builtin "isinstance")) (hn : x ≠ "__name__") (hdb : (x == ("__debug__" : Str)) = false)
    (hN : X.N[Z.i]? = some n) (hvis : Vis X.env.scope n) (hd : (n == ("__debug__" : Str)) = false) (hcd : (n == ("__classdict__" : Str)) = false) (hT : NmCs (X.suite Z.a ((Z.a, oe) :: pn)) es cs cvs) (hl : cs.length ≤ 1000) (hk : PySem.W.kitAny X.K (.ref D) cvs = some b) :
    PE (X.suite Z.a ((Z.a, oe) :: pn)) (.Call (.Name x p) [.Name n p2, .Tuple es k p3] [] pos) (TEx F Z (mCst (.bl b))) :=
  (pe_callB (call_isXT C hz hf) hg hm hv (pa_cons (pe_var (i := Z.i) hN hvis hd hcd) (pa_cons (pe_tupF hT.pa.1) pa_nil rfl) rfl) hn hdb rfl rfl).weak fun σ H Q ⟨μ, ρ, G, s, g, q⟩ => by
    obtain ⟨fvs, h1, _⟩ := s.x
    refine ⟨.ref Z.a, s.at_, by rw [sizeLine_eq]; omega, fun tp o hn hd2 => ⟨tp, o, cs, cvs, b, fvs, rfl, upd_same, hT.pa.2, hk, ?_, ?_⟩⟩
    · rw [upd_ne (ne_of_none h1 hn)]; exact h1
    · exact q.ok (Ext.upd_new g hn) RV.bl (g.upd_new hn)
theorem xfld {f : Str} {v : PV} (T : XfC X.K D) (hno : PySem.W.findIn X.K (.ref D) f = some none) (hz : Zc (.ref D) (some Z.dd) oe) (hf : ∃ vs, oe.data = .fields vs)
    (hN : X.N[Z.i]? = some n) (hvis : Vis X.env.scope n) (hd : (n == ("__debug__" : Str)) = false) (hcd : (n == ("__classdict__" : Str)) = false) (hv : Z.fs.lookup f = some v) (hb : attributeBase (.Name n p) f X.env (eval (.Name n p) X.env) = eval (.Name n p) X.env) :
    PE (X.suite Z.a ((Z.a, oe) :: pn)) (.Attribute (.Name n p) f pos) (TEx F Z (mCst v)) :=
  (pe_xf T hno hz hf (pe_var (i := Z.i) hN hvis hd hcd) hb).weak fun σ H Q ⟨μ, ρ, G, s, g, q⟩ => by
    obtain ⟨fvs, h1, h2⟩ := s.x
    obtain ⟨u, h3, h4⟩ := repF_look h2 hv
    exact ⟨.ref Z.a, s.at_, rfl, rfl, Z.dd, fvs, u, rfl, h1, h3, q.here h4 g⟩
end
/-! ### list.count of truths -/
def blB : PV → Option Bool
  | .bl b => some b
  | _ => none
def blsB : List PV → Option (List Bool)
  | [] => some []
  | p :: ps => match blB p, blsB ps with
    | some b, some bs => some (b :: bs)
    | _, _ => none
def fCntB (o : PV) (xs : List PV) (G : GH) : Res PV := match o, xs with
  | .lst ps, [.bl b] => match blsB ps with
    | some bs => .ok (.int ((bs.countP fun c => c == b : Nat) : Int)) G
    | none => .bad
  | _, _ => .bad
theorem blsB_inv : ∀ {ps : List PV} {bs : List Bool}, blsB ps = some bs → ps = bs.map PV.bl
  | [], bs, h => by cases h; rfl
  | p :: ps, bs, h => by
    unfold blsB at h
    split at h
    · rename_i b r e1 e2
      cases h
      have := blsB_inv e2
      subst this
      cases p <;> simp only [blB, Option.some.injEq] at e1 <;> first | (subst e1; rfl) | cases e1
    · cases h
theorem reps_bls {F : Fx} {μ : Mu} {H : Hp} : ∀ {bs : List Bool} {vs : List V}, Reps F μ H (bs.map PV.bl) vs → vs = bs.map V.bl
  | [], vs, h => by rw [h.nil_inv]; rfl
  | b :: bs, vs, h => by
    obtain ⟨v, r, rfl, h1, t⟩ := h.cons_inv
    rw [reps_bls t, rep_bl h1]; rfl
theorem vals_bls : ∀ {bs : List Bool} {us : List Value}, Vals (bs.map V.bl) us → us = bs.map Value.bool
  | [], us, h => by cases h; rfl
  | b :: bs, us, h => by
    cases h with
    | cons r t => rw [vals_bls t, show _ = Value.bool b from r]; rfl
theorem reads_bls (h : Heap) : ∀ bs : List Bool, ReadsAll h (bs.map Value.bool) (bs.map PyData.bool) []
  | [] => .nil
  | b :: bs => .cons (as := []) (.bool b) (reads_bls h bs)
theorem plain_bls : ∀ bs : List Bool, PyData.plainAll (bs.map PyData.bool) = true
  | [] => rfl
  | b :: bs => by simp only [List.map_cons, PyData.plainAll, PyData.plain, plain_bls bs, Bool.and_self]
theorem dep_bls : ∀ bs : List Bool, PyData.depthAll (bs.map PyData.bool) = 0
  | [] => rfl
  | b :: bs => by simp only [List.map_cons, PyData.depthAll, PyData.depth, dep_bls bs]; rfl
theorem fCntB_ok {X : Cx} {F : Fx} {Ex : XK} (hK : F.K = X.K) (hu : X.A.units + 1 < cLine) : MtR X "list.count" (RdM F Ex fCntB) := by
  intro pins s σ H x xs v us Q I rx rs ⟨μ, o, ps, G, r, rr, g, p⟩
  unfold fCntB at p
  split at p
  · rename_i qs b
    split at p
    · rename_i bs eb
      have := blsB_inv eb
      subst this
      obtain ⟨w, rfl, r1⟩ := Reps.one_inv rr
      rw [rep_bl r1] at rs
      simp only [Rep] at r
      obtain ⟨a, vs, rfl, z, st, rv⟩ := r
      have ev := reps_bls rv
      subst ev
      have sq : SqL X.K H a (bs.map V.bl) := .inl (.inl st.2)
      cases rx
      obtain ⟨u, rfl, ru⟩ := rs.one
      cases (show u = Value.bool b from ru)
      obtain ⟨its, rv2, pl, hlen⟩ := I.list sq
      have ei := vals_bls rv2
      subst ei
      obtain ⟨ob, n, ho, hc, hdn, hd⟩ := pl
      refine PySem.SeqAt.count_list_data (xs := bs.map PyData.bool) (d := .bool b) (vs := (bs.map Value.bool).toArray) ⟨ob, ho, hc, n, hd⟩ (by simpa using reads_bls s.heap bs) (.bool b) (plain_bls bs) rfl ?_ ?_
      · rw [dep_bls]; simp; omega
      · refine ⟨.int _, H, I.tok _, ⟨s.toks, rfl⟩, ?_⟩
        have ec : (bs.map PyData.bool).countP (fun y => PyData.eqv y (.bool b)) = bs.countP fun c => c == b := by
          rw [List.countP_map]
          congr 1
        rw [ec]
        exact p.here (by simp only [RV, Rep]) g
    · exact (show False from p).elim
  · exact (show False from p).elim
end EV
end
section
set_option Elab.async false
set_option linter.all false
set_option maxRecDepth 100000
set_option maxHeartbeats 1000000
/-! Ev58: f(lambda: body), the body run where no guard stands (turned from HandS's pe_act, pe_lamcall). -/
namespace LamX
open PySem PySem.Spec PyProof.Rows L2
section
variable {X : Cx} {pins : List (Addr × Obj)} {σ : L2.St} {H HZ : Hp} {s s1 : Shared}
theorem pe_actG {CXg : CXT} {Eg : XK} {Ng : List Str} {qg : Str} {sg : Scope} {g f c' : Addr} {cdg pm ctv : Value} {params : Arguments} {body : Expr} {scope : Scope} {k i : Nat} {a : Str} {pn : List (Addr × Obj)} {xe : Value → Shared → Prop} {W : WX} {E : XK} {tb : TE} {p1 p2 : Pos}
    (I : Inv X pins σ H s) (L : LamS X.env.scope scope) (hf : s.heap.get? f = some (PySem.W.kla_obj "<lambda>" (X.env.qual ++ "<lambda>") params body scope (cloFrom X.env.cells scope.names []) pm c' ctv)) (hfn : H f = none) (hfr : f ∉ frs X.stack)
    (hbind : bindArgs (PySem.W.kla_fn "<lambda>" (X.env.qual ++ "<lambda>") params body scope (cloFrom X.env.cells scope.names []) pm (.ref c') ctv) ⟨[], []⟩ = pure [])
    (tk : Takes ((cxOf CXg X.prog X.w X.K X.mg X.base Ng qg sg g cdg X.A X.stack s H Eg).tr pn xe) W) (hW : ∀ cls d σ' H', E cls d H' → W cls d σ' H') (hr : Room (k + 1) (X.A.deeper (envOfC qg sg s.heap.objs.size g cdg)))
    (hgd : X.A.guards = some []) (hbody : ∀ (A : Around) (outer : List PySem.Env) (s : Shared) (H : Hp), A.guards = some [] → Room k (A.deeper (lamEnv X scope s.heap.objs.size f c')) → PE (lamCx X A outer s H E scope f c') body tb)
    (hN : Ng[i]? = some a) (hv : Vis sg a) (hd : (a == ("__debug__" : Str)) = false := by decide) (hcd : (a == ("__classdict__" : Str)) = false := by decide) :
    PE ((cxOf CXg X.prog X.w X.K X.mg X.base Ng qg sg g cdg X.A X.stack s H Eg).tr pn xe) (.Call (.Name a p1) [] [] p2)
      (fun σZ HZ Q => σZ[i]? = some (some (.ref f)) ∧ HZ c' = some (CodeO c' (X.env.qual ++ "<lambda>")) ∧ tb σ HZ Q) := by
  refine ⟨fun pinsZ sZ σZ HZ Q IZ h => ?_⟩
  obtain ⟨hs, hc, ht⟩ := h
  refine wpAny_Call_Name_kw (thn ((pe_var (pos := p1) (i := i) hN hv hd hcd).run pinsZ sZ σZ HZ (fun v H1 => v = .ref f ∧ H1 = HZ) IZ ⟨.ref f, hs, rfl, rfl⟩) fun u s1 ⟨v, H1, I1, r1, q1⟩ => ?_)
  obtain ⟨ev, eH⟩ := q1
  subst ev
  rw [eH] at I1
  obtain rfl : u = Value.ref f := r1
  have of1 : s1.heap.get? f = some (PySem.W.kla_obj "<lambda>" (X.env.qual ++ "<lambda>") params body scope (cloFrom X.env.cells scope.names []) pm c' ctv) := I1.base.keep f _ hf hfn hfr (fun z => nomatch (show f ∈ ([] : List Addr) from z))
  refine PySem.W.callWith_F0 ⟨_, _, _, _, of1⟩ ?_
  have un : Un (frs X.stack) [] H HZ s.heap s1.heap := I1.base
  obtain ⟨⟨oc, vs, t, hoc, hdc, hvc⟩, _, _⟩ := I1.hok c' _ hc
  have rc : codeAny (model X.prog X.w) (X.A.deeper (envOfC qg sg s.heap.objs.size g cdg)) (.call (.ref f) ⟨[], []⟩) (CR (L2.CX X.prog X.w) (envOfC qg sg s.heap.objs.size g cdg :: X.stack) X.prog X.w HZ s1 Q E) s1 := by
    refine PySem.W.kla_callFunE hr.depth of1 rfl L.co L.gen rfl ⟨c', oc, vs, t, rfl, hoc, hdc, hvc⟩ ?_
    rw [hbind]
    refine wpAny_pure (wpAny_newFunctionEnv (fun y hy => (L.own y hy).2) (fun y hy => absurd hy (by simp)) (fun h₁ hns hsb => ⟨I1.nolimit.fresh _ hsb, ?_⟩) L.kind)
    show codeAny _ _ (.expr body (lamEnv X scope s1.heap.objs.size f c')) _ _
    have kp : ∀ b o, s1.heap.get? b = some o → h₁.get? b = some o := fun b o e => hsb.extBut b o (Nat.ne_of_lt (Heap.lt_size e)) (Heap.get?_push_of_some _ e)
    have J : Inv (lamCx X (X.A.deeper (envOfC qg sg s.heap.objs.size g cdg)) (envOfC qg sg s.heap.objs.size g cdg :: X.stack) s1 HZ E scope f c') [] σ HZ { s1 with heap := h₁, toks := s1.toks + ([] : List (Str × Value)).length } :=
      lam_start2 I L I1.env0 hr.hd un hns kp
    refine PySem.W.kla_codeExpr (wpAny_mono ((hbody (X.A.deeper (envOfC qg sg s.heap.objs.size g cdg)) _ s1 HZ hgd (hr.deeper _)).run [] _ _ HZ Q J ht) (fun v s' hq => ?_) fun e s' hq => hq)
    obtain ⟨w', H', J', rv, q⟩ := hq
    exact ⟨w', H', J'.os, J'.bare, J'.base, J'.hok, rv, q⟩
  have hx : Passes (L2.CX X.prog X.w) ((cxOf CXg X.prog X.w X.K X.mg X.base Ng qg sg g cdg X.A X.stack s H Eg).tr pn xe) E := passes_call tk hW
  refine wpAny_call (codeAny_mono rc fun r s' hq => ?_)
  cases r with
  | error e => exact hx pinsZ σZ HZ s1 e s' I1 hq
  | ok fl =>
    cases fl with
    | ret u => exact I1.after hq
    | next => exact False.elim hq
    | brk => exact False.elim hq
    | cont => exact False.elim hq
end
section
variable {X : Cx}
theorem pe_lamcallG {T : List (Addr × Str)} {TT : (XK → Hp → VK → Prop) → Hp → VK → Prop} {x a : Str} {g c P : Addr} {k : Nat} {pg : Arguments} {bg : List Stmt} {sg : Scope} {dV kV doc pm cdv ct oc : Value} {an od : Option Addr} {osl : Array (Option Value)} {Ng : List Str}
    {params : Arguments} {body : Expr} {scope : Scope} {t : XK → TE} {p lpos pos : Pos} (hg : Gl X x) (hm : X.mg x = some (.ref g)) (hk : PySem.W.keepIn X.K (.ref g) = true)
    (lk : X.K.lookup g = some ⟨oc, od, .func (PySem.W.fnOf x x pg bg sg dV kV doc pm an cdv ct), osl⟩) (hcg : PySem.W.codeIn X.K cdv x = true) (hb : L2.Binds X.K (PySem.W.fnOf x x pg bg sg dV kV doc pm an cdv ct) [a] []) (Sg : FnScope Ng [a] sg) (hNg : Ng[0]? = some a) (hva : Vis sg a)
    (hG : GivesTo X Ng x sg g cdv bg a (X.env.qual ++ "<lambda>") TT)
    (TB : TabB X.base X.mg c P) (hcode : X.env.code = .ref c) (hmT : (P, X.env.qual ++ "<lambda>") ∈ T) (hu : ∀ p ∈ T, p.1 = P → p.2 = X.env.qual ++ "<lambda>") (hr : Room (k + 2) X.A) (L : LamS X.env.scope scope) (hdef : defaultsOf params X.env = ([], []))
    (hbind : ∀ (q : Str) (cl : List (Str × Addr)) (pm cv ctv : Value), bindArgs (PySem.W.kla_fn "<lambda>" q params body scope cl pm cv ctv) ⟨[], []⟩ = pure [])
    (hgd : X.A.guards = some []) (hbody : ∀ (A : Around) (outer : List PySem.Env) (s : Shared) (H : Hp) (E : XK) (f c' : Addr), A.guards = some [] → Room k (A.deeper (lamEnv X scope s.heap.objs.size f c')) → PE (lamCx X A outer s H E scope f c') body (t E))
    (hdb : (x == ("__debug__" : Str)) = false := by decide) (hd : (a == ("__debug__" : Str)) = false := by decide) (hcd : (a == ("__classdict__" : Str)) = false := by decide) :
    PE X (.Call (.Name x p) [.Lambda params body scope lpos] [] pos) (tLam T TT t) := by
  refine ⟨fun pins s σ H Q I h => ?_⟩
  obtain ⟨hT, h⟩ := h
  refine wpAny_Call_Name_kw (ld_glob I hg hm ?_ hdb)
  refine PySem.W.callWith_K (h₀ := X.base) I.ok.mod.kin hk ?_ (by rfl) (by rfl)
  show wpAny _ _ (spliced ((false, eval (.Lambda params body scope lpos) X.env) :: backTo pos (starEach [] X.env))) _ _ s
  refine Calls.spliced_cons (lam_make2 I TB hcode hmT hu hT hdef (L.has I.ok) fun f c' pm' ctv H1 s' I1 eN T1 hf hfn hfr hco => ?_)
  refine Calls.spliced_nil ⟨I1.kIn, ?_⟩
  have rc : codeAny (model X.prog X.w) X.A (.call (.ref g) ⟨[.ref f], []⟩) (CR C8.CX0 X.stack X.prog X.w H1 s' Q C8.E0) s' := by
    refine run_ofS (N := Ng) (ps := [a]) (us := [.ref f]) (vs := [.ref f]) lk hcg Sg hr I1.env0 (hb s' [.ref f] I1.kIn rfl) (.cons rfl .nil) rfl fun hr' => ?_
    obtain ⟨t', ht', hq'⟩ := hG f c' s' H1 Q (fun E H' Q' => t E σ H' Q') (fun W pn xe E p1 p2 tk hW => pe_actG (i := 0) I1 L hf hfn hfr (hbind _ _ _ _ _) tk hW hr' hgd (fun A outer s H hg2 hr2 => hbody A outer s H E f c' hg2 hr2) hNg hva hd hcd) hco (h H1 eN T1)
    exact ⟨t', ht'.nox, hq'⟩
  refine wpAny_call (codeAny_mono rc fun r s2 hq => ?_)
  cases r with
  | error e => exact (show False from hq).elim
  | ok fl =>
    cases fl with
    | ret u => exact I1.after hq
    | next => exact False.elim hq
    | brk => exact False.elim hq
    | cont => exact False.elim hq
end
end LamX
end
section
set_option Elab.async false
set_option linter.all false
set_option maxRecDepth 100000
set_option maxHeartbeats 1000000
/-! Ev59: tellers: def t(ask): found = (odd,) / try: found = (said, ask()) / except A as e: .. / return found; t(lambda: ..). -/
namespace EV
open PySem PySem.Spec PyProof.Rows L2 LamX
/-- a def that is never called by the evaluator -/
theorem callee_bad {P : Program} {w : World} {K : PySem.W.Frag} {mg : Str → Option Value} {base : Heap} {F : Fx} {n : Nat} {name nm qual : Str} {params : Arguments} {body : List Stmt} {scope : Scope} {f : Addr} {fd : FuncData} {ps : List Str} (Fd : FunD K nm qual params body scope [] [] f fd) (hm : mg name = some (.ref f)) (hb : Binds K fd ps []) : CalleeP P w K mg base F n name ps.length (fun _ _ => .bad) where
  ex := ⟨f, fd, ps, ⟨fun vs H Q E h => h.1, fun A outer s H args us vs Q E _ _ _ _ _ h => by
    obtain ⟨_, μ, qs, G, r, g, p⟩ := h
    exact (show False from p).elim⟩, hm, Fd.kp, hb⟩
  ar := fun _ _ _ => rfl
/-- the suites' readings: an exception of a class that has a number -/
def tsX (F : Fx) (N iE : Nat) (su : Nat → List (Str × PV) → Env → GH → Res Fl) : SuiteT := fun a cls d D σ H => σ.length = N → ∃ (c : Nat) (dd : Addr) (fs : List (Str × PV)), cls = .ref (F.ca c) ∧ d = some dd ∧ TSx F ⟨a, dd, iE, fs⟩ (su c fs) D σ H
theorem pss_tsX {X : Cx} {F : Fx} {N iE : Nat} {su : Nat → List (Str × PV) → Env → GH → Res Fl} {b : List Stmt} {a : Addr} {cls : Value} {d : Option Addr} (hN : X.N.length = N) (h : ∀ c dd fs, cls = .ref (F.ca c) → d = some dd → PSs X b (TSx F ⟨a, dd, iE, fs⟩ (su c fs))) : PSs X b (tsX F N iE su a cls d) :=
  ⟨fun pins s σ H D I q => by
    obtain ⟨c, dd, fs, e1, e2, t⟩ := q (I.len.trans hN)
    exact (h c dd fs e1 e2).run pins s σ H D I t⟩
/-- what stands behind the try: the told thing -/
def endD (j : Nat) (Q : VK) : Ends := { nx := fun σ H => ∃ v, σ[j]? = some (some v) ∧ Q v H, rt := Q }
def echX (K : PySem.W.Frag) (j : Nat) (l : List (Value × Nat × SuiteT)) (Q : VK) : XK := fun cls d H => ∀ σ, wManyA K (fun _ _ _ _ => False) (endD j Q) l cls d σ H
/-- the teller's meaning -/
def TTl (K : PySem.W.Frag) (j : Nat) (odd w0 : Str) (l : List (Value × Nat × SuiteT)) : (XK → Hp → VK → Prop) → Hp → VK → Prop := fun tl H Q =>
  ∀ (r0 : Addr) (o0 : Obj), H r0 = none → o0.dict = none → tl (echX K j l Q) (upd H r0 (.frz o0 (.tup [.str odd]))) fun v H2 => ([V.str w0, v] : List V).length ≤ sizeLine ∧ NewT H2 [.str w0, v] Q
section
variable {X : Cx} {Ng : List Str} {x a nf q odd w0 : Str} {sg : Scope} {g : Addr} {cdg : Value} {j : Nat} {h₀ : ExceptHandler} {hds : List ExceptHandler} {l : List (Value × Nat × SuiteT)} {jo jw kB kI : Nat} {pA pB pC pD pE pF pG pH pI pJ pK pL pM pN : Pos}
abbrev tellCx (X : Cx) (Ng : List Str) (x : Str) (sg : Scope) (g : Addr) (cdg : Value) (s : Shared) (H : Hp) : Cx := (cxOf C8.CX0 X.prog X.w X.K X.mg X.base Ng x sg g cdg X.A X.stack s H C8.E0).nox
end
end EV
end
section
set_option Elab.async false
set_option linter.all false
set_option maxRecDepth 100000
set_option maxHeartbeats 1000000
/-! Ev60: t(lambda: body), as the evaluator has it. -/
namespace EV
open PySem PySem.Spec PyProof.Rows L2 LamX
abbrev SuM := Nat → List (Str × PV) → Env → GH → Res Fl
/-- the first clause that takes the class c: each has its class's number, the classes that it takes, its suite -/
def pickH (nC : Nat) : List (Nat × (Nat → Bool) × SuM) → SuM
  | [] => fun _ _ _ _ => .bad
  | h :: r => fun c fs => if nC ≤ c then fun _ _ => .bad else if h.2.1 c = true then h.2.2 c fs else pickH nC r c fs
def hdsL (F : Fx) (N iE : Nat) (hs : List (Nat × (Nat → Bool) × SuM)) : List (Value × Nat × SuiteT) := hs.map fun h => (.ref (F.ca h.1), iE, tsX F N iE h.2.2)
/-- what K says of the clauses' classes -/
def ExmOk (K : PySem.W.Frag) (F : Fx) (nC : Nat) (hs : List (Nat × (Nat → Bool) × SuM)) : Prop := ∀ h ∈ hs, ∀ c, c < nC → PySem.W.exmOne K (.ref (F.ca c)) (.ref (F.ca h.1)) = some (h.2.1 c)
section
variable {K : PySem.W.Frag} {F : Fx} {nC N iE : Nat}
theorem srel_none {μ : Mu} {H : Hp} (σ : L2.St) : SRel F μ H (List.replicate σ.length none) σ := ⟨by simp, fun i p h => by
  rw [List.getElem?_replicate] at h
  split at h <;> cases h⟩
end
section
variable {X : Cx} {F : Fx} {Ex : XK} {n k nC N iE j : Nat} {x a odd w0 : Str} {pg : Arguments} {bg : List Stmt} {sg : Scope} {ga : Addr} {fd : FuncData} {Ng : List Str} {hs : List (Nat × (Nat → Bool) × SuM)} {params : Arguments} {body : Expr} {scope : Scope} {m : Env → GH → Res PV} {p lpos pos : Pos}
end
end EV
end
section
set_option Elab.async false
set_option linter.all false
set_option maxRecDepth 100000
set_option maxHeartbeats 1000000
/-! Ev61: the rules of suites as the printed proofs name them; defs that may raise. -/
namespace EV
open PySem PySem.Spec PyProof.Rows L2 LamX
structure GZ (Y : Cx) (F : Fx) : Prop where
  K : F.K = Y.K
  nd : Y.N.Nodup
  un : Y.A.units + 64 < cLine
/-- the class's facts, the exception's -/
structure ZE (Y : Cx) (F : Fx) (Z : Zx) (oe : Obj) (c : Nat) : Prop where
  hz : Zc (.ref (F.ca c)) (some Z.dd) oe
  hf : ∃ vs, oe.data = .fields vs
  ex : L2.ExcC Y.K (F.ca c)
  xf : XfC Y.K (F.ca c)
section
variable {Y : Cx} {F : Fx} {Z : Zx} {a0 : Addr} {oe : Obj} {pn : List (Addr × Obj)} {a b : Expr} {pos : Pos} {ma mb : Env → GH → Res PV} {c : Nat}
abbrev SX (Y : Cx) (a0 : Addr) (oe : Obj) (pn : List (Addr × Obj)) : Cx := Y.suite a0 ((a0, oe) :: pn)
theorem zvar (i : Nat) {x : Str} (hN : Y.N[i]? = some x := by kernel_rfl) (hv : visB Y.env.scope x = true := by kernel_rfl) (hd : nmB x = true := by kernel_rfl) : PE (SX Y a0 oe pn) (.Name x pos) (TEx F Z (mVar i)) := xv_e (ev_var hN (vis_of hv) (nm1 hd) (nm2 hd))
theorem zstr {x : Str} {j : Nat} : PE (SX Y a0 oe pn) (.Constant (.str x) j pos) (TEx F Z (mCst (.str x))) := xv_e ev_str
theorem zint {x : Int} {j : Nat} : PE (SX Y a0 oe pn) (.Constant (.int x) j pos) (TEx F Z (mCst (.int x))) := xv_e ev_int
theorem zcons {es : List Expr} {ms : Env → GH → Res (List PV)} (he : PE (SX Y a0 oe pn) a (TEx F Z ma)) (hs : PA (SX Y a0 oe pn) es (TAx F Z ms)) (hp : plainE a = true := by kernel_rfl) : PA (SX Y a0 oe pn) (a :: es) (TAx F Z (mCons ma ms)) := xv_cons hp he hs
theorem ztru (g : GZ Y F) (ha : PE (SX Y a0 oe pn) a (TEx F Z ma)) (he : ∀ whole, isTrue a Y.env whole = (do let v ← whole; standAt a.pos; holding [v] (truthy v)) := by intro _; rfl) : PT (SX Y a0 oe pn) a (TTx F Z (mT ma)) := xv_truth (X := SX Y a0 oe pn) g.K ha he
theorem read2x {f : List PV → GH → Res PV} {σ : L2.St} {H : Hp} {Q : VK} (h : TEx F Z (m2 ma mb f) σ H Q) : tOp (OpV F E0 f) (TEx F Z ma) (TEx F Z mb) σ H Q := by
  obtain ⟨μ, ρ, G, s, g, p⟩ := h
  refine TEx.run s g p fun μ1 a G1 v H1 e1 r1 g1 s1 p1 => ?_
  refine TEx.run s1 g1 p1 fun μ2 b G2 w H2 e2 r2 g2 s2 p2 => ?_
  exact ⟨μ2, [a, b], G2, .cons (r1.mono e2) (.one r2), g2, p2⟩
theorem zeqT (g : GZ Y F) (ha : PE (SX Y a0 oe pn) a (TEx F Z ma)) (hb : PE (SX Y a0 oe pn) b (TEx F Z mb)) (hm : behindInMarks .Eq b = false := by kernel_rfl) : PT (SX Y a0 oe pn) (.Compare a [.Eq] [b] pos) (TTx F Z (mB (m2 ma mb (Cop.f .eq)))) :=
  (pt_cmpR (opEq_ok (X := SX Y a0 oe pn) (F := F) (Ex := E0) g.K g.un) ha hb hm).weak fun σ H Q ⟨μ, ρ, G, s, gr, p⟩ => read2x ⟨μ, ρ, G, s, gr, (Post.bind (R := RV F) p).mono fun v H1 ⟨μ1, a, G1, _, e, r, g1, q⟩ => asB_use r g1 q⟩
theorem zix (g : GZ Y F) (hs : PlainIx b) (ha : PE (SX Y a0 oe pn) a (TEx F Z ma)) (hb : PE (SX Y a0 oe pn) b (TEx F Z mb)) : PE (SX Y a0 oe pn) (.Subscript a b pos) (TEx F Z (m2 ma mb opIx)) :=
  (pe_ix (opIx_ok (X := SX Y a0 oe pn) (F := F) (Ex := E0) g.K) ha hb hs).weak fun σ H Q h => read2x h
theorem zasg (i : Nat) {y : Str} {py : Pos} {e : Expr} {m : Env → GH → Res PV} (g : GZ Y F) (he : PE (SX Y a0 oe pn) e (TEx F Z m)) (hne : (i == Z.i) = false := by rfl) (hi : Y.N[i]? = some y := by kernel_rfl) (hx : (Y.env.scope.names.lookup y == some .local) = true := by kernel_rfl)
    (hs : swapsWithSole [.Name y py] e pos.line Y.env = pure false := by rfl) (hw : swappedStores [.Name y py] e Y.env = pure none := by rfl) : PS (SX Y a0 oe pn) (.Assign [.Name y py] e pos) (TSx F Z (sAsg m (gN i))) :=
  xv_asg (X := SX Y a0 oe pn) he g.nd hi (.inl (beq_iff_eq.mp hx)) (.inr (beq_iff_eq.mp hx)) (by simpa using hne) hs hw
/-- name.count(..) -/
theorem zcnt (g : GZ Y F) (i : Nat) {x : Str} {e : Expr} {p1 apos : Pos} {m : Env → GH → Res PV} (he : PE (SX Y a0 oe pn) e (TEv F E0 m)) (hN : Y.N[i]? = some x := by kernel_rfl) (hv : visB Y.env.scope x = true := by kernel_rfl) (hd : nmB x = true := by kernel_rfl) (h1 : plainE e = true := by kernel_rfl)
    (hbase : attributeBase (.Name x p1) "count" Y.env (eval (.Name x p1) Y.env) = eval (.Name x p1) Y.env := by rfl)
    (hfew : ((backTo pos (starEach [e] Y.env)).all (fun x => !x.1) && (backToKw pos (keywordEach [] Y.env)).all (fun x => x.1.isSome) && decide ([e].length + ([] : List Keyword).length + (if ([] : List Keyword).isEmpty then 0 else 1) < 30)) = true := by rfl)
    (hline : (apos.endLine == pos.line) = true := by kernel_rfl) : PE (SX Y a0 oe pn) (.Call (.Attribute (.Name x p1) "count" apos) [e] [] pos) (TEx F Z (mMet "list" (mVar i) (mCons m mNil) fCntB)) :=
  xv_e (ev_met (X := SX Y a0 oe pn) g.K rfl PySem.F.plainAttrs_list PySem.F.slot_list_count PySem.F.type_list_count (fCntB_ok (X := SX Y a0 oe pn) g.K (by have := g.un; show Y.A.units + 1 < cLine; omega)) (ev_var hN (vis_of hv) (nm1 hd) (nm2 hd)) (ev_cons h1 he ev_nil) h1 rfl hbase hfew hline)
/-- own classes, built-in ones by name -/
theorem nmOwn {x : Str} {C : Addr} (hm : Y.mg x = some (.ref C)) (hg : Y.env.kindOf x = some .globalImplicit := by kernel_rfl) (hd : nmB x = true := by kernel_rfl) : NmC (SX Y a0 oe pn) x (.ref C) (.ref C) := ⟨fun p => pe_glob hg hm rfl (nm1 hd), .own C⟩
theorem nmBlt {x : Str} {T : String} (hm : Y.mg x = none) (hv : bootBuiltins x = some (.type T) := by kernel_rfl) (hg : Y.env.kindOf x = some .globalImplicit := by kernel_rfl) (hn : x ≠ "__name__" := by decide) (hd : nmB x = true := by kernel_rfl) : NmC (SX Y a0 oe pn) x (.ty T) (.type T) := ⟨fun p => pe_bltn hg hm hv rfl hn (nm1 hd), .ty T⟩
theorem zisi (z : ZE Y F Z oe c) {n y : Str} {p p2 p3 : Pos} {cv : V} {u : Value} {r : Bool} (hm : Y.mg "isinstance" = none) (hT : NmC (SX Y Z.a oe pn) y cv u) (hk : PySem.W.kitOne Y.K (.ref (F.ca c)) u = some r) (hN : Y.N[Z.i]? = some n := by kernel_rfl) (hvis : visB Y.env.scope n = true := by kernel_rfl) (hd : nmB n = true := by kernel_rfl)
    (hg : Y.env.kindOf "isinstance" = some .globalImplicit := by kernel_rfl) : PE (SX Y Z.a oe pn) (.Call (.Name "isinstance" p) [.Name n p2, .Name y p3] [] pos) (TEx F Z (mCst (.bl r))) :=
  xisi z.ex z.hz z.hf hg hm (by kernel_rfl) (by decide) (by kernel_rfl) hN (vis_of hvis) (nm1 hd) (nm2 hd) hT hk
theorem zisiT (z : ZE Y F Z oe c) {n : Str} {p p2 p3 : Pos} {es : List Expr} {cs : List V} {us : List Value} {k : Nat} {r : Bool} (hm : Y.mg "isinstance" = none) (hT : NmCs (SX Y Z.a oe pn) es cs us) (hk : PySem.W.kitAny Y.K (.ref (F.ca c)) us = some r) (hN : Y.N[Z.i]? = some n := by kernel_rfl) (hvis : visB Y.env.scope n = true := by kernel_rfl) (hd : nmB n = true := by kernel_rfl)
    (hg : Y.env.kindOf "isinstance" = some .globalImplicit := by kernel_rfl) (hl : decide (cs.length ≤ 1000) = true := by rfl) : PE (SX Y Z.a oe pn) (.Call (.Name "isinstance" p) [.Name n p2, .Tuple es k p3] [] pos) (TEx F Z (mCst (.bl r))) :=
  xisiT z.ex z.hz z.hf hg hm (by kernel_rfl) (by decide) (by kernel_rfl) hN (vis_of hvis) (nm1 hd) (nm2 hd) hT (of_decide_eq_true hl) hk
/-- e.f -/
def mFld (fs : List (Str × PV)) (f : Str) : Env → GH → Res PV := fun _ G => match fs.lookup f with
  | some v => .ok v G
  | none => .bad
theorem zfld (z : ZE Y F Z oe c) {n f : Str} {p : Pos} (hno : PySem.W.findIn Y.K (.ref (F.ca c)) f = some none) (hN : Y.N[Z.i]? = some n := by kernel_rfl) (hvis : visB Y.env.scope n = true := by kernel_rfl) (hd : nmB n = true := by kernel_rfl)
    (hb : attributeBase (.Name n p) f Y.env (eval (.Name n p) Y.env) = eval (.Name n p) Y.env := by rfl) : PE (SX Y Z.a oe pn) (.Attribute (.Name n p) f pos) (TEx F Z (mFld Z.fs f)) := by
  cases e : Z.fs.lookup f with
  | none => exact ⟨fun pins s σ H Q I ⟨μ, ρ, G, _, _, q⟩ => by
      unfold mFld at q
      rw [e] at q
      exact (show False from q).elim⟩
  | some v =>
    have em : mFld Z.fs f = mCst v := by
      funext ρ G
      simp only [mFld, e, mCst]
    rw [em]
    exact xfld z.xf hno z.hz z.hf hN (vis_of hvis) (nm1 hd) (nm2 hd) e hb
end
end EV
end
section
set_option Elab.async false
set_option linter.all false
set_option maxRecDepth 100000
set_option maxHeartbeats 1000000
/-! Ev62: defs that may raise; what the head tells of the exception classes. -/
namespace EV
open PySem PySem.Spec PyProof.Rows L2
section
variable {P : Program} {w : World} {K : PySem.W.Frag} {mg : Str → Option Value} {base : Heap} {F : Fx} {n : Nat}
theorem CalleeP.mono {x : Str} {np : Nat} {m : List PV → GH → Res PV} (c : CalleeP P w K mg base F n x np m) {k : Nat} (h : n ≤ k) : CalleeP P w K mg base F k x np m where
  ex := by
    obtain ⟨f, fd, ps, a, b⟩ := c.ex
    exact ⟨f, fd, ps, a.mono h, b⟩
  ar := c.ar
/-- def_ok, where the body may raise -/
theorem def_okX {name nm qual : Str} {params : Arguments} {body : List Stmt} {scope : Scope} {f : Addr} {fd : FuncData} {N ps : List Str} {m : Env → GH → Res Fl} (hK : F.K = K) (Fd : FunD K nm qual params body scope [] [] f fd) (S : FnScope N ps scope)
    (hm : mg name = some (.ref f)) (hb : Binds K fd ps []) (hbody : ∀ (cdv : Value) (A : Around) (outer : List PySem.Env) (s : Shared) (H : Hp) (E : XK), GX (CXo P w K mg base N qual scope f cdv A outer s H E) F E n →
      PassesOwn (model P w) (CXo P w K mg base N qual scope f cdv A outer s H E).A (CXo P w K mg base N qual scope f cdv A outer s H E).env (CXo P w K mg base N qual scope f cdv A outer s H E).xe → CodeAt K f cdv →
      (Takes (CXo P w K mg base N qual scope f cdv A outer s H E) fun cls d _ H' => E cls d H') → PSs (CXo P w K mg base N qual scope f cdv A outer s H E) body (TSv F E m)) :
    CalleeP P w K mg base F (n + 1) name ps.length (defV ps.length N m) where
  ex := by
    obtain ⟨oc, od, dV, kV, doc, pm, an, cdv, ct, osl, e, lk, hcd, _, _⟩ := Fd.ex
    subst e
    refine ⟨f, _, ps, fnG_of lk hcd S (fun vs H Q E h => h.1) (fun A outer s H vs Q E hr hgd h => ?_), hm, Fd.kp, hb⟩
    have tk : Takes (CXo P w K mg base N qual scope f cdv A outer s H E) fun cls d _ H' => E cls d H' := takes_of rfl rfl rfl rfl
    refine ⟨_, hbody cdv A outer s H E ⟨hK, rfl, S.nd, hr, hgd, passes_call tk fun _ _ _ _ z => z⟩ (passes_of rfl) ⟨_, _, _, _, lk, rfl⟩ tk, body_read (N := N) ?_⟩
    obtain ⟨h1, μ, qs, G, r, g, p⟩ := h
    unfold defV at p
    rw [if_pos (r.length.trans h1)] at p
    exact ⟨μ, qs, G, r, g, trim_post g p⟩
  ar := fun qs G h => by unfold defV; rw [if_neg h]
end
/-- a class's __init__ -/
def clsInit : Stmt → Stmt
  | .ClassDef _ _ _ body _ _ _ _ _ _ _ => body.getD 0 (.Pass ⟨0, 0, 0, 0⟩)
  | s => s
/-! ### the head's look at the classes -/
def oexB (K : PySem.W.Frag) (C : Addr) : Bool := (match K.lookup C with
  | some ⟨.type t, _, .cls cd, sl⟩ => (match cd.mro, sl.toList with
    | .ref C' :: bm, [_, _, _, _, some (.builtin n), _] => decide (t = "type") && (decide (C' = C) && (decide (n = "ValueError.__new__") && (!cd.hasDel && (cd.hasDict && PySem.HandSPX.refsVE bm))))
    | _, _ => false)
  | _ => false) && (decide (PySem.W.findIn K (.ref C) "__setattr__" = some (some (.builtin "object.__setattr__"))) && (decide (PySem.W.subIn K (.ref C) (.type "BaseException") = some true) && (decide (PySem.W.typeIn K (.ref C) = some (.type "type")) && PySem.W.keepIn K (.ref C))))
theorem oexB_ok {K : PySem.W.Frag} {C : Addr} (h : oexB K C = true) : OexC K C := by
  obtain ⟨h1, h⟩ := He.ba h
  obtain ⟨h2, h⟩ := He.ba h
  obtain ⟨h3, h⟩ := He.ba h
  obtain ⟨h4, h5⟩ := He.ba h
  refine ⟨?_, of_decide_eq_true h2, of_decide_eq_true h3, of_decide_eq_true h4, h5⟩
  split at h1
  · rename_i t dd cd sl ho
    split at h1
    · rename_i C' bm k0 k1 k2 k3 n k5 hm hs
      simp only [Bool.and_eq_true, decide_eq_true_eq, Bool.not_eq_true'] at h1
      obtain ⟨rfl, rfl, rfl, hdel, hdd, ht⟩ := h1
      obtain ⟨nm, bs, mro, ns, qn, hd, sn, sub, ab, col, del⟩ := cd
      dsimp only at hm hdel hdd
      subst hm hdel hdd
      have hsl : sl = #[k0, k1, k2, k3, some (.builtin "ValueError.__new__"), k5] := by
        obtain ⟨l⟩ := sl
        simp only at hs
        rw [hs]
      subst hsl
      exact ⟨nm, qn, ns, bs, bm, sn, sub, ab, col, dd, k0, k1, k2, k3, k5, ho, ht⟩
    · cases h1
  · cases h1
def excB (K : PySem.W.Frag) (D : Addr) : Bool := xfB K D && (decide (PySem.W.findIn K (.ref D) "__class__" = some (some (.builtin "object.__class__"))) && (decide (PySem.W.specialIn K (.builtin "object.__class__") "__get__" = some (some (.builtin "getset_descriptor.__get__"))) &&
  (decide (PySem.W.takesIn K (.builtin "object.__class__") = some true) && decide (PySem.W.mroIn K D (.type "object") = some true))))
theorem excB_ok {K : PySem.W.Frag} {D : Addr} (h : excB K D = true) : L2.ExcC K D ∧ XfC K D := by
  obtain ⟨h1, h⟩ := He.ba h
  obtain ⟨h2, h⟩ := He.ba h
  obtain ⟨h3, h⟩ := He.ba h
  obtain ⟨h4, h5⟩ := He.ba h
  have x := xfB_ok h1
  exact ⟨⟨x.ga, x.gg, x.exC, x.hdC, of_decide_eq_true h2, of_decide_eq_true h3, of_decide_eq_true h4, of_decide_eq_true h5⟩, x⟩
def xbaseB (K : PySem.W.Frag) (D : Addr) : Bool := PySem.W.readsIn K D (.type "type") && (decide (PySem.W.specialIn K (.ref D) "__getattribute__" = some (some (.builtin "type.__getattribute__"))) && (match PySem.W.findCls K (.ref D) (.type "type") "__init__" with
  | some (.val (.builtin n)) => decide (n = "ValueError.__init__")
  | _ => false))
theorem xbaseB_ok {K : PySem.W.Frag} {D : Addr} (h : xbaseB K D = true) : XBase K D := by
  obtain ⟨h1, h⟩ := He.ba h
  obtain ⟨h2, h3⟩ := He.ba h
  refine ⟨⟨h1, of_decide_eq_true h2⟩, ?_⟩
  split at h3
  · rename_i n e
    rw [e, of_decide_eq_true h3]
  · cases h3
def xclsB (K : PySem.W.Frag) (x : Str) (fl : List Str) : Bool := oexB K (He.ga K x) && (decide (PySem.W.findIn K (.ref (He.ga K x)) "__init__" = some (some (.ref (He.fAd K (x, some "__init__"))))) && (decide (PySem.W.typeIn K (.ref (He.fAd K (x, some "__init__"))) = some (.type "function")) &&
  fl.all fun f => decide (PySem.W.findIn K (.ref (He.ga K x)) f = some none)))
theorem xclsB_ok {K : PySem.W.Frag} {x : Str} {fl : List Str} (h : xclsB K x fl = true) : XCls K (He.ga K x) (He.fAd K (x, some "__init__")) fl := by
  obtain ⟨h1, h⟩ := He.ba h
  obtain ⟨h2, h⟩ := He.ba h
  obtain ⟨h3, h4⟩ := He.ba h
  exact ⟨oexB_ok h1, of_decide_eq_true h2, of_decide_eq_true h3, fun f hf => of_decide_eq_true (List.all_eq_true.mp h4 f hf)⟩
inductive XFa where
  | cls (x : Str) (fl : List Str)
  | base (x : Str)
  | exc (x : Str)
  | kit (x y : Str) (b : Bool)
  | kitT (x : Str) (T : String) (b : Bool)
  | kitA (x : Str) (us : List Str) (b : Bool)
  | exm (x y : Str) (b : Bool)
  | noat (x f : Str)
  | any (f : PySem.W.Frag → Bool)
def XFa.ok (K : PySem.W.Frag) : XFa → Bool
  | .cls x fl => xclsB K x fl
  | .base x => xbaseB K (He.ga K x)
  | .exc x => excB K (He.ga K x)
  | .kit x y b => decide (PySem.W.kitOne K (.ref (He.ga K x)) (.ref (He.ga K y)) = some b)
  | .kitT x T b => decide (PySem.W.kitOne K (.ref (He.ga K x)) (.type T) = some b)
  | .kitA x us b => decide (PySem.W.kitAny K (.ref (He.ga K x)) (us.map fun y => .ref (He.ga K y)) = some b)
  | .exm x y b => decide (PySem.W.exmOne K (.ref (He.ga K x)) (.ref (He.ga K y)) = some b)
  | .noat x f => decide (PySem.W.findIn K (.ref (He.ga K x)) f = some none)
  | .any f => f K
def eachX (xs : List XFa) (ex : PySem.W.Frag → Bool) (K : PySem.W.Frag) : Bool := ex K && xs.all (XFa.ok K)
theorem eachX_c {xs : List XFa} {ex : PySem.W.Frag → Bool} {K : PySem.W.Frag} (h : eachX xs ex K = true) : ex K = true := (He.ba h).1
theorem eachX_x {xs : List XFa} {ex : PySem.W.Frag → Bool} {K : PySem.W.Frag} (h : eachX xs ex K = true) (i : Nat) {f : XFa} (e : xs[i]? = some f) : f.ok K = true := List.all_eq_true.mp (He.ba h).2 f (List.mem_of_getElem? e)
/-! ### the Hook: hookX with the interpreter's own statics -/
def asZ (g : Addr → Option Obj) (n : Nat) : List Addr := He.asD g n ++ [cStatics]
def obsXS (n : Nat) (fa : List He.Fa) (fn : List He.DefD) (ts : List He.Tab) (tf : List He.Defn) (ex : PySem.W.Frag → Bool) (g : Addr → Option Obj) : He.AlX := (He.obsT fa fn ts (He.frT g (asZ g n)), ex (He.frT g (asZ g n)) && He.tabsB g tf (He.frT g (asZ g n)))
theorem saysXS_of {n : Nat} {fa : List He.Fa} {fn : List He.DefD} {ts : List He.Tab} {tf : List He.Defn} {ex : PySem.W.Frag → Bool} {w : World} {h : Heap} (e : obsXS n fa fn ts tf ex h.get? = He.valX fn ts w) : He.SaysX fa fn ts tf ex w h (He.frT h.get? (asZ h.get? n)) := by
  have e1 : He.obsT fa fn ts (He.frT h.get? (asZ h.get? n)) = He.valT fn ts w := congrArg (fun z : He.AlX => z.1) e
  have e2 : (ex (He.frT h.get? (asZ h.get? n)) && He.tabsB h.get? tf (He.frT h.get? (asZ h.get? n))) = true := congrArg (fun z : He.AlX => z.2) e
  obtain ⟨h1, h2⟩ := He.ba e2
  have key : ∀ p ∈ tf, PySem.W.codeHdIn (He.frT h.get? (asZ h.get? n)) (He.cT (He.frT h.get? (asZ h.get? n)) p).1 (He.cT (He.frT h.get? (asZ h.get? n)) p).2 = true ∧ ∃ o, h.get? (He.cT (He.frT h.get? (asZ h.get? n)) p).2 = some o ∧ He.emptyTab o = true := fun p hp => by
    obtain ⟨h3, h4⟩ := He.ba (List.all_eq_true.mp h2 p hp)
    refine ⟨h3, ?_⟩
    cases q : h.get? (He.cT (He.frT h.get? (asZ h.get? n)) p).2 with
    | none =>
      rw [q] at h4
      cases h4
    | some o =>
      rw [q] at h4
      exact ⟨o, rfl, h4⟩
  exact ⟨e1, h1, fun p hp => (key p hp).1, fun p hp => by
    obtain ⟨_, o, q, z⟩ := key p hp
    exact He.frT_none q z, fun p hp => by
    obtain ⟨_, o, q, z⟩ := key p hp
    rw [q, He.emptyTab_eq z]⟩
def hookXS (n : Nat) (fa : List He.Fa) (fn : List He.DefD) (ts : List He.Tab) (tf : List He.Defn) (ex : PySem.W.Frag → Bool) : PySem.W.Hook where
  α := He.AlX
  obs := fun s => obsXS n fa fn ts tf ex s.heap.get?
  val := fun w => He.valX fn ts w
  says := fun w h => ∃ K : PySem.W.Frag, K.In h ∧ He.SaysX fa fn ts tf ex w h K
  of := fun _ _ e => ⟨_, He.frT_in, saysXS_of e⟩
  keeps := fun _ _ _ ⟨K, hK, c⟩ k => ⟨K, PySem.W.Frag.In.keeps hK k, ⟨c.t, c.more, c.hd, c.out, fun p hp => k _ _ (c.empty p hp)⟩⟩
theorem obsXS_eq {n : Nat} {fa : List He.Fa} {fn : List He.DefD} {ts : List He.Tab} {tf : List He.Defn} {ex : PySem.W.Frag → Bool} {g : Addr → Option Obj} {s : Shared} (h : ∀ a, g a = s.heap.get? a) : obsXS n fa fn ts tf ex g = (hookXS n fa fn ts tf ex).obs s := by
  have e : g = s.heap.get? := funext h
  rw [e] <;> rfl
end EV
end
section
set_option Elab.async false
set_option linter.all false
set_option maxRecDepth 100000
set_option maxHeartbeats 1000000
/-! Ev63: raise, tellers, as the printed proofs name them. -/
namespace EV
open PySem PySem.Spec PyProof.Rows L2 LamX
def AllS {α : Type} (p : Nat → α → Prop) : Nat → List α → Prop
  | _, [] => True
  | i, x :: r => p i x ∧ AllS p (i + 1) r
theorem AllS.at {α : Type} {p : Nat → α → Prop} : ∀ {l : List α} {i j : Nat} {x : α}, AllS p i l → l[j]? = some x → p (i + j) x
  | y :: r, i, 0, x, h, e => by
    simp only [List.getElem?_cons_zero, Option.some.injEq] at e
    rw [← e]
    exact h.1
  | y :: r, i, j + 1, x, h, e => by
    have := AllS.at (j := j) h.2 (by simpa using e)
    rwa [show i + 1 + j = i + (j + 1) by omega] at this
abbrev SuE := List (Str × PV) → Env → GH → Res Fl
def suL (l : List SuE) : SuM := fun c fs => match l[c]? with
  | some s => s fs
  | none => fun _ _ => .bad
abbrev TlH := Nat × List Bool × List SuE
def hL (t : List TlH) : List (Nat × (Nat → Bool) × SuM) := t.map fun h => (h.1, (fun c => h.2.1.getD c false), suL h.2.2)
theorem pss_suL {Y : Cx} {F : Fx} {N iE : Nat} {l : List SuE} {b : List Stmt} {a : Addr} {oe : Obj} {cls : Value} {d : Option Addr} {pn : List (Addr × Obj)} (hN : Y.N.length = N) (hz : Zc cls d oe) (hf : ∃ vs, oe.data = .fields vs) (hx : AllS (fun c _ => L2.ExcC Y.K (F.ca c) ∧ XfC Y.K (F.ca c)) 0 l)
    (h : AllS (fun c (s : SuE) => ∀ dd fs, ZE Y F ⟨a, dd, iE, fs⟩ oe c → PSs (Y.suite a ((a, oe) :: pn)) b (TSx F ⟨a, dd, iE, fs⟩ (s fs))) 0 l) : PSs (Y.suite a ((a, oe) :: pn)) b (tsX F N iE (suL l) a cls d) :=
  pss_tsX hN fun c dd fs e1 e2 => by
    subst e1 e2
    cases q : l[c]? with
    | none =>
      have e : suL l c fs = fun _ _ => .bad := by unfold suL; rw [q]
      rw [e]
      exact ⟨fun pins s σ H D I ⟨μ, ρ, G, _, _, q⟩ => (show False from q).elim⟩
    | some s =>
      have e : suL l c fs = s fs := by unfold suL; rw [q]
      rw [e]
      have h1 := hx.at q
      have h2 := h.at q
      rw [Nat.zero_add] at h1 h2
      exact h2 dd fs ⟨hz, hf, h1.1, h1.2⟩
theorem exm_hL {K : PySem.W.Frag} {F : Fx} {nC : Nat} {t : List TlH} (h : AllS (fun _ h => h.2.1.length = nC ∧ AllS (fun c b => PySem.W.exmOne K (.ref (F.ca c)) (.ref (F.ca h.1)) = some b) 0 h.2.1) 0 t) : ExmOk K F nC (hL t) := fun h' hm c hc => by
  obtain ⟨q, hq, rfl⟩ := List.mem_map.mp hm
  obtain ⟨j, hj⟩ := List.mem_iff_getElem?.mp hq
  obtain ⟨h1, h2⟩ := h.at hj
  have e : q.2.1[c]? = some (q.2.1.getD c false) := by
    rw [List.getD_eq_getElem?_getD, List.getElem?_eq_getElem (by omega)]; rfl
  have h3 := h2.at e
  rw [Nat.zero_add] at h3
  exact h3
/-- what is never asked -/
theorem znev {X : Cx} {F : Fx} {Z : Zx} {e : Expr} : PE X e (TEx F Z (fun _ _ => .bad)) := ⟨fun pins s σ H Q I ⟨μ, ρ, G, _, _, q⟩ => (show False from q).elim⟩
theorem GX.un2 {X : Cx} {F : Fx} {Ex : XK} {n : Nat} (g : GX X F Ex n) : X.A.units + 128 < cLine := by have := g.room.un; omega
theorem glX {X : Cx} {x : Str} (h : X.env.kindOf x = some .globalImplicit := by kernel_rfl) : Gl X x := h
/-- the teller x, in X -/
structure TellX (X : Cx) (F : Fx) (x a w0 : Str) (nC N iE j : Nat) (hs : List (Nat × (Nat → Bool) × SuM)) : Prop where
  ex : ∃ (ga : Addr) (fd : FuncData) (pg : Arguments) (bg : List Stmt) (sg : Scope) (odd : Str) (Ng : List Str), FunD X.K x x pg bg sg [] [] ga fd ∧ X.mg x = some (.ref ga) ∧ L2.Binds X.K fd [a] [] ∧ FnScope Ng [a] sg ∧ Ng[0]? = some a ∧ Vis sg a ∧ Ng.length = N ∧ iE ≠ j ∧ iE < N ∧ ExmOk X.K F nC hs ∧
    (x == ("__debug__" : Str)) = false ∧ (a == ("__debug__" : Str)) = false ∧ (a == ("__classdict__" : Str)) = false ∧ ∀ cdv q, GivesTo X Ng x sg ga cdv bg a q (TTl X.K j odd w0 (hdsL F N iE hs))
section
variable {X : Cx} {F : Fx} {Ex : XK} {n k nC N iE j : Nat} {x a odd w0 : Str} {hs : List (Nat × (Nat → Bool) × SuM)} {params : Arguments} {body : Expr} {scope : Scope} {m : Env → GH → Res PV} {p lpos pos : Pos}
theorem graise {e : Expr} {es : List Expr} {rpos : Pos} {c : Nat} {fl : List Str} {ms : Env → GH → Res (List PV)} {gt : List PV → GH → Res PV} (g : GX X F Ex n) (tk : Takes X fun cls d _ H => Ex cls d H) (hgt : gateB (gt [] []) = true → 3 ≤ n) (M : XMk X.prog X.w X.K X.mg X.base (F.ca c) fl) (hm : X.mg x = some (.ref (F.ca c)))
    (ha : PA X (e :: es) (TAv F Ex ms)) (hg : X.env.kindOf x = some .globalImplicit := by kernel_rfl) (hd : nmB x = true := by kernel_rfl) (he : starEach (e :: es) X.env = (false, eval e X.env) :: starEach es X.env := by rfl) (hpl : (backTo pos (starEach es X.env)).any (·.1) = false := by rfl) :
    PS X (.Raise (some (.Call (.Name x p) (e :: es) [] pos)) none rpos) (TSv F Ex (sRaise (gateB (gt [] [])) c fl ms)) := ev_raise g tk hgt M hm ha hg (nm1 hd) he hpl
end
end EV
end
section
set_option Elab.async false
set_option linter.all false
set_option maxRecDepth 100000
set_option maxHeartbeats 1000000
/-! Ev69: except (A, B) as n; tellers that answer with lists (printed by mkEv69.py out of Ev55). -/
namespace EV
open PySem PySem.Spec PyProof.Rows L2 LamX
def wTwoA (K : PySem.W.Frag) (Wout : WX) (D : Ends) (c1 c2 : Value) (i : Nat) (ts : SuiteT) : WX := fun cls d σ H => ∃ b1 b2, PySem.W.exmOne K cls c1 = some b1 ∧ PySem.W.exmOne K cls c2 = some b2 ∧
  ((b1 || b2) = true → ∀ a, H a = none → ts a cls d (offD i D) (σ.set i (some (.ref a))) H) ∧ ((b1 || b2) = false → Wout cls d σ H)
theorem fly_kept {B h h' : Heap} {l : List PySem.Env} {a : Addr} {Z : Obj → Prop} (k : ∀ b o, h.get? b = some o → h'.get? b = some o) (f : HandSPX.FlyingZ B l a Z h) : HandSPX.FlyingZ B l a Z h' := by
  obtain ⟨f1, f2, f3, oe, vs, T, oT, ts, he, hz, hd, h1, hnT, hTe, hT, hdT, h3⟩ := f
  exact ⟨fun b o e => k _ _ (f1 b o e), f2, Heap.FunFrames.of_keeps (fun b o e _ => ⟨o, k b o e, rfl⟩) f3, oe, vs, T, oT, ts, k _ _ he, hz, hd, h1, hnT, hTe, k _ _ hT, hdT, h3⟩
section
variable {X : Cx} {body : List Stmt} {pos np1 np2 tp pos' : Pos} {kT i : Nat} {tb : WX → TS} {Wout : WX} {x1 x2 n : Str} {c1 c2 : Value} {ts : SuiteT} {b₀ : Stmt} {suite : List Stmt}
theorem ps_try_two (hs : X.stack = X.env :: X.outer) (hf : X.env.frame = some X.env.locals) (hN : X.N.Nodup) (tk : Takes X Wout)
    (hb : ∀ (W : WX) (pn : List (Addr × Obj)) (xe : Value → Shared → Prop), Takes (X.tr pn xe) W → PassesOwn (model X.prog X.w) X.A X.env xe → PSs (X.tr pn xe) body (tb W))
    (hi : X.N[i]? = some n) (hln : X.env.kindOf n = some .local) (hc1 : Names X x1 c1) (hc2 : Names X x2 c2)
    (hsu : ∀ (a : Addr) (oe : Obj) (cls : Value) (d : Option Addr) (pn : List (Addr × Obj)), Zc cls d oe → (∃ vs, oe.data = .fields vs) → PSs (X.suite a ((a, oe) :: pn)) (b₀ :: suite) (ts a cls d)) :
    PS X (.Try body [.ExceptHandler (some (.Tuple [.Name x1 np1, .Name x2 np2] kT tp)) (some n) (b₀ :: suite) pos'] [] [] pos) (fun D σ H => tb (wTwoA X.K Wout D c1 c2 i ts) D σ H) := by
  refine ⟨fun pins s σ H D I h => ?_⟩
  have ok := I.ok
  have hfr : X.A.frames = some (X.env :: X.outer) := by rw [ok.frames, hs]
  refine wpAny_Try_except ?_
  refine wpAny_mono ((hb (wTwoA X.K Wout D c1 c2 i ts) (X.pn ++ pins) (fun e s₁ => wpAny (model X.prog X.w) X.A (noteFrame e X.env) (fun _ s₂ => wpAny (model X.prog X.w) X.A (setFlight e none) (fun _ s₃ =>
    wpAny (model X.prog X.w) X.A (handleBy e X.env [.ExceptHandler (some (.Tuple [.Name x1 np1, .Name x2 np2] kT tp)) (some n) (b₀ :: suite) pos']) (SP X pins D) X.xe s₃) X.xe s₂) X.xe s₁) (fun u s' xx => ?_) PassesOwn.looking).run [] s σ H D (I.toTry _) h) (fun f s1 hsp => ?_) (fun e s1 he => he)
  · -- the catch
    obtain ⟨a, B, sI, pins', σ', H', cls, d, rfl, J', nb, up, sky, na, os, ag, w⟩ := xx
    have J : Inv X pins σ' H' sI := J'.ofTry ok
    have sky' : Sky B (X.env :: X.outer) a (Zc cls d) X.env.locals s'.heap := by rw [← hs]; exact sky
    show wpAny (model X.prog X.w) X.A (noteFrame (.ref a) X.env) _ _ _
    refine Sky.land Zc.steady hfr hf sky' fun h3 fl3 up3 => ?_
    have J3 : Inv X pins σ' H' { s' with heap := h3 } := J.landed nb fl3.1 (up.trans up3) os ag
    obtain ⟨oe3, vs3, he3, hz3, hd3⟩ := fl3.there
    have notFr : ∀ {h : Heap} {o : Obj} {vs : Array Value}, h.FunFrames B (X.env :: X.outer) → h.get? a = some o → o.data = .fields vs → a ∉ frs (X.env :: X.outer) := fun {h o vs} ff e dd hm => by
      obtain ⟨_, o', e', hnf⟩ := ff.mem hm
      rw [e] at e'; cases e'
      exact hnf _ dd
    have nfr := notFr fl3.2.2.1 he3 hd3
    have nL : a ≠ X.env.locals := fun z => nfr (List.mem_filterMap.mpr ⟨X.env, List.mem_cons_self, by rw [hf, z]⟩)
    have nF : a ∉ X.fs := fun hm => by
      obtain ⟨e, he, q⟩ := List.mem_filterMap.mp hm
      exact nfr (List.mem_filterMap.mpr ⟨e, List.mem_cons_of_mem _ he, q⟩)
    have S3 := J3.suite he3 hd3 na nL nF
    obtain ⟨b1, b2, hb1, hb2, hyes, hno⟩ := w
    have hloc : Loc X.env.scope n := .inl hln
    refine wpAny_handleBy_cons (codeAny_handlers_test ?_) (by intro q; cases q)
    have LT : PySem.W.Looks (model X.prog X.w) h3 (typeOf (.ref a)) cls := fun A Q E s k q => wpAny_typeOf_ref (k _ _ he3) (by rw [hz3.1]; exact q)
    have test : ∀ {x : Str} {c : Value} {np : Pos} {Q : Value → Shared → Prop} {E : Value → Shared → Prop}, Names X x c → Q c { s' with heap := h3 } → wpAny (model X.prog X.w) (X.A.mark (some (.ref a))) (eval (.Name x np) X.env) Q E { s' with heap := h3 } := fun {x c np Q E} hc q => by
      obtain ⟨hg, hdbg, hm | ⟨hm, hv, hnn⟩⟩ := hc
      · exact ld_glob (X := X.suite a ((a, oe3) :: (X.pn ++ pins))) S3 hg hm q hdbg
      · exact ld_blt (X := X.suite a ((a, oe3) :: (X.pn ++ pins))) S3 hg hm hv q hnn hdbg
    refine wpAny_Tuple ?_
    refine wpAny_items_cons (test hc1 ?_)
    refine wpAny_items_cons (test hc2 ?_)
    refine wpAny_items_nil ⟨by size_fits, ?_⟩
    have kp : ∀ q o, h3.get? q = some o → (h3.push { cls := .type "tuple", data := .seq [c1, c2].toArray }).get? q = some o := fun _ _ z => Heap.get?_push_of_some _ z
    have hx : PySem.W.exmAny X.K cls [c1, c2] = some (b1 || b2) := by simp [PySem.W.exmAny, hb1, hb2]
    refine (PySem.W.exm_tup2 (M := model X.prog X.w) (J3.kIn.keeps kp) (LT.keeps kp) (Heap.get?_push_size h3 rfl) hx).here ?_
    have fl5 := fly_kept kp fl3
    have up5 : h3.UpToSlots (h3.push { cls := .type "tuple", data := .seq [c1, c2].toArray }) := Heap.UpToSlots.of_keeps kp
    generalize h3.push { cls := .type "tuple", data := .seq [c1, c2].toArray } = h5 at fl5 up5 ⊢
    have J5 : Inv X pins σ' H' { s' with heap := h5 } := J.landed nb fl5.1 ((up.trans up3).trans up5) os ag
    generalize hbb : (b1 || b2) = b at hyes hno ⊢
    cases b with
    | true =>
      refine codeAny_handlers_suite_as ?_
      refine HandSPX.lands_againZ fl5 fun h4 fl4 up4 => ?_
      have J4 : Inv X pins σ' H' { s' with heap := h4 } := J.landed nb fl4.1 (((up.trans up3).trans up5).trans up4) os ag
      obtain ⟨oe4, vs4, he4, hz4, hd4⟩ := fl4.there
      have S4 := J4.suite he4 hd4 na nL nF
      refine store_ok (X := X.suite a ((a, oe4) :: (X.pn ++ pins))) (v := .ref a) S4 hN hi hloc rfl (fun s5 S5 => ?_) (.inr hln)
      refine wpAny_mono ((hsu a oe4 cls d (X.pn ++ pins) hz4 ⟨_, hd4⟩).run [] s5 _ H' _ S5 (hyes rfl a na)) (fun f s6 hsp => ?_) (fun _ _ z => False.elim z)
      have end_ : ∀ {σ6 : L2.St} {H6 : Hp} {Q : Shared → Prop}, Inv (X.suite a ((a, oe4) :: (X.pn ++ pins))) [] σ6 H6 s6 → (∀ s7, Inv X pins (σ6.set i none) H6 s7 → Q s7) →
          wpAny (model X.prog X.w) X.A (do bindName X.env n .none; unbindBehindTheSuite X.env n pos') (fun _ s7 => Q s7) X.xe s6 := fun {σ6 H6 Q} S6 hq => gone_ok (S6.unsuite ok) hN hi hln hq
      cases f with
      | next =>
        obtain ⟨σ6, H6, S6, q6⟩ := hsp
        exact end_ S6 fun s7 J7 => ⟨_, _, J7, q6⟩
      | brk =>
        obtain ⟨σ6, H6, S6, q6⟩ := hsp
        exact end_ S6 fun s7 J7 => ⟨_, _, J7, q6⟩
      | cont =>
        obtain ⟨σ6, H6, S6, q6⟩ := hsp
        exact end_ S6 fun s7 J7 => ⟨_, _, J7, q6⟩
      | ret u =>
        obtain ⟨v6, σ6, H6, S6, r6, q6⟩ := hsp
        exact end_ S6 fun s7 J7 => ⟨_, _, _, J7, r6, q6⟩
    | false =>
      show wpAny _ X.A (handleBy (.ref a) X.env []) _ _ _
      have w := hno rfl
      replace fl3 := fl5
      replace up3 := up3.trans up5
      refine wpAny_handleBy_nil ?_
      obtain ⟨k1, k2, k3, oe, vs, T, oT, ts', he, hz, hd, h1, hr⟩ := id fl3
      unfold PySem.passOn
      refine wpAny_bind (wpAny_field he hd h1 ?_)
      rw [if_neg (show ¬ ((Value.ref T == Value.none) = true) from by simp)]
      have fin : wpAny (model X.prog X.w) X.A (setFlight (.ref a) X.env.frame) (fun _ s4 => wpAny (model X.prog X.w) X.A (throw (.ref a) : Sem Flow) (SP X pins D) X.xe s4) X.xe { s' with heap := h5 } := by
        rw [hf]
        refine HandSPX.setFlight_upZ fl3 fun h4 hh4 up4 => wpAny_throw (tk _ _ ?_)
        exact ⟨a, B, sI, pins, σ', H', cls, d, rfl, J, nb, (up.trans up3).trans up4, .inr (.inr (by rw [hs]; exact hh4)), na, os, ag, w⟩
      first
        | exact wpAny_bind (wpAny_pure (wpAny_bind fin))
        | exact wpAny_bind fin
  · cases f with
    | next =>
      obtain ⟨σ', H', J', q⟩ := hsp
      exact wpAny_execs_nil ⟨σ', H', J'.ofTry ok, q⟩
    | brk =>
      obtain ⟨σ', H', J', q⟩ := hsp
      exact ⟨σ', H', J'.ofTry ok, q⟩
    | cont =>
      obtain ⟨σ', H', J', q⟩ := hsp
      exact ⟨σ', H', J'.ofTry ok, q⟩
    | ret u =>
      obtain ⟨v, σ', H', J', r, q⟩ := hsp
      exact ⟨v, σ', H', J'.ofTry ok, r, q⟩
end
/-! ### the teller that answers with lists -/
def NewLs (H : Hp) (xs : List V) (Q : VK) : Prop := ∀ p, H p = none → Q (.ref p) (upd H p (.lst xs))
def echT (K : PySem.W.Frag) (j : Nat) (c1 c2 : Value) (iE : Nat) (ts : SuiteT) (Q : VK) : XK := fun cls d H => ∀ σ, wTwoA K (fun _ _ _ _ => False) (endD j Q) c1 c2 iE ts cls d σ H
def TTlL (K : PySem.W.Frag) (j : Nat) (odd w0 : Str) (c1 c2 : Value) (iE : Nat) (ts : SuiteT) : (XK → Hp → VK → Prop) → Hp → VK → Prop := fun tl H Q =>
  ∀ (r0 : Addr), H r0 = none → tl (echT K j c1 c2 iE ts Q) (upd H r0 (.lst [.str odd])) fun v H2 => ([V.str w0, v] : List V).length ≤ sizeLine ∧ NewLs H2 [.str w0, v] Q
section
variable {X : Cx} {Ng : List Str} {x a nf q odd w0 x1 x2 n : Str} {sg : Scope} {g : Addr} {cdg : Value} {j iE : Nat} {c1 c2 : Value} {ts : SuiteT} {b₀ : Stmt} {suite : List Stmt} {jo jw kT : Nat} {pA pB pC pD pE pF pG pH pI pJ pK pL pM pN np1 np2 tp pos' : Pos}
theorem tell_givesL (hj : Ng[j]? = some nf) (nd : Ng.Nodup) (hloc : sg.names.lookup nf = some .local) (hd : (nf == ("__debug__" : Str)) = false) (hcd : (nf == ("__classdict__" : Str)) = false) (hj0 : j ≠ 0) (h0 : ∀ f : Addr, (L2.start Ng [V.ref f])[0]? = some (some (V.ref f))) (hl0 : 0 < Ng.length)
    (hs1 : ∀ env, swapsWithSole [.Name nf pA] (.List [.Constant (.str odd) jo pB] pC) pD.line env = pure false) (hw1 : ∀ env, swappedStores [.Name nf pA] (.List [.Constant (.str odd) jo pB] pC) env = pure none)
    (hs2 : ∀ env, swapsWithSole [.Name nf pE] (.List [.Constant (.str w0) jw pF, .Call (.Name a pG) [] [] pH] pJ) pK.line env = pure false) (hw2 : ∀ env, swappedStores [.Name nf pE] (.List [.Constant (.str w0) jw pF, .Call (.Name a pG) [] [] pH] pJ) env = pure none)
    (hi : Ng[iE]? = some n) (hln : ∀ s H, (tellCx X Ng x sg g cdg s H).env.kindOf n = some .local) (hc : ∀ s H, Names (tellCx X Ng x sg g cdg s H) x1 c1 ∧ Names (tellCx X Ng x sg g cdg s H) x2 c2)
    (hsu : ∀ s H (a : Addr) (oe : Obj) (cls : Value) (d : Option Addr) (pn : List (Addr × Obj)), Zc cls d oe → (∃ vs, oe.data = .fields vs) → PSs ((tellCx X Ng x sg g cdg s H).suite a ((a, oe) :: pn)) (b₀ :: suite) (ts a cls d)) :
    GivesTo X Ng x sg g cdg [.Assign [.Name nf pA] (.List [.Constant (.str odd) jo pB] pC) pD, .Try [.Assign [.Name nf pE] (.List [.Constant (.str w0) jw pF, .Call (.Name a pG) [] [] pH] pJ) pK] [.ExceptHandler (some (.Tuple [.Name x1 np1, .Name x2 np2] kT tp)) (some n) (b₀ :: suite) pos'] [] [] pL, .Return (some (.Name nf pM)) pN] a q (TTlL X.K j odd w0 c1 c2 iE ts) := by
  intro f c' s H Q tl act hc' h
  let Y := tellCx X Ng x sg g cdg s H
  have st1 : PS Y (.Assign [.Name nf pA] (.List [.Constant (.str odd) jo pB] pC) pD) _ := ps_asg (pe_lst (pa_cons (pe_str (x := odd)) pa_nil)) (pg_name (X := Y) nd hj (.inl hloc) (.inr hloc)) (hs1 _) (hw1 _) (plain_target rfl)
  have st2 : PS Y (.Try [.Assign [.Name nf pE] (.List [.Constant (.str w0) jw pF, .Call (.Name a pG) [] [] pH] pJ) pK] [.ExceptHandler (some (.Tuple [.Name x1 np1, .Name x2 np2] kT tp)) (some n) (b₀ :: suite) pos'] [] [] pL) _ := ps_try_two (X := Y) (c1 := c1) (c2 := c2) (i := iE) (ts := ts)
      (tb := fun W D σ H => ∃ Ech : XK, (∀ cls d σ' H', Ech cls d H' → W cls d σ' H') ∧ σ[0]? = some (some (.ref f)) ∧ H c' = some (CodeO c' q) ∧ tl Ech H (fun v H1 => ([V.str w0, v] : List V).length ≤ sizeLine ∧ NewLs H1 [.str w0, v] fun r H2 => D.nx (σ.set j (some r)) H2))
      rfl rfl nd L2.takes0 (fun W pn xe tk _ => ⟨fun pins s' σ H' D I h' => by
        obtain ⟨Ech, hW, h1, h2, h3⟩ := h'
        have hp := act W pn xe Ech pG pH tk hW
        have st := pss_one (ps_asg (X := Y.tr pn xe) (pos := pK) (pe_lst (pos := pJ) (pa_cons (pe_str (x := w0) (j := jw) (pos := pF)) (pa_cons hp pa_nil rfl) rfl)) (pg_name (X := Y.tr pn xe) (pos := pE) nd hj (.inl hloc) (.inr hloc)) (hs2 _) (hw2 _) (plain_target rfl))
        refine st.run pins s' σ H' D I ?_
        exact ⟨h1, h2, h3⟩⟩)
      hi (hln s H) (hc s H).1 (hc s H).2 (hsu s H)
  refine ⟨_, pss_cons st1 (pss_cons st2 (pss_one (ps_ret (pe_var (X := Y) (i := j) hj (.inl hloc) hd hcd)))), ?_⟩
  have jl : j < Ng.length := (List.getElem?_eq_some_iff.mp hj).1
  have sl : (L2.start Ng [V.ref f]).length = Ng.length := by simp [L2.start]; omega
  refine ⟨by rw [sizeLine_eq]; simp, fun r0 hr => ?_⟩
  refine ⟨echT X.K j c1 c2 iE ts Q, fun cls d σ' H' e => ?_, ?_, ?_, ?_⟩
  · exact e σ'
  · rw [List.getElem?_set_ne hj0]; exact h0 f
  · rw [upd_ne (ne_of_none hc' hr)]; exact hc'
  · have eQ : (fun (r : V) (H2 : Hp) => ∃ v, (((L2.start Ng [V.ref f]).set j (some (V.ref r0))).set j (some r))[j]? = some (some v) ∧ Q v H2) = Q := by
      funext r H2
      refine propext ⟨fun ⟨v, e, z⟩ => ?_, fun z => ⟨r, ?_, z⟩⟩
      · rw [List.getElem?_set_self (by rw [List.length_set, sl]; exact jl)] at e
        cases e; exact z
      · rw [List.getElem?_set_self (by rw [List.length_set, sl]; exact jl)]
    have := h r0 hr
    exact (show ∀ Q' : VK, Q' = Q → tl (echT X.K j c1 c2 iE ts Q) (upd H r0 (.lst [.str odd])) (fun v H2 => ([V.str w0, v] : List V).length ≤ sizeLine ∧ NewLs H2 [.str w0, v] Q') from fun Q' e => by rw [e]; exact this) _ eQ
end
/-- what a teller makes of what it heard -/
def tellRL (N j : Nat) (w0 : Str) (su : Nat → List (Str × PV) → Env → GH → Res Fl) (r : Res PV) : Res PV := match r with
  | .ok v G => .ok (.lst [.str w0, v]) G
  | .exc c fs G => match su c fs (List.replicate N none) G with
    | .ok (.next ρ) G1 => match ρ[j]? with
      | some (some p) => .ok p G1
      | _ => .bad
    | .ok (.ret p) G1 => .ok p G1
    | _ => .bad
  | .bad => .bad
def mTellL (N j : Nat) (w0 : Str) (su : Nat → List (Str × PV) → Env → GH → Res Fl) (m : Env → GH → Res PV) : Env → GH → Res PV := fun ρ G => trimR G (tellRL N j w0 su (m ρ G))
section
variable {K : PySem.W.Frag} {F : Fx} {nC N iE : Nat}
theorem wtwo_of {n1 n2 : Nat} {f1 f2 : Nat → Bool} {su : SuM} {c : Nat} {dd : Addr} {fs : List (Str × PV)} {D : Ends} {σ : L2.St} {H : Hp} {ρ0 : Env} {G1 : GH} (ok : ExmOk K F nC [(n1, f1, su), (n2, f2, su)]) (hx : ∃ fl G2, pickH nC [(n1, f1, su), (n2, f2, su)] c fs ρ0 G1 = .ok fl G2)
    (q : ∀ a, H a = none → σ.length = N → TSx F ⟨a, dd, iE, fs⟩ (pickH nC [(n1, f1, su), (n2, f2, su)] c fs) (offD iE D) (σ.set iE (some (.ref a))) H) : wTwoA K (fun _ _ _ _ => False) D (.ref (F.ca n1)) (.ref (F.ca n2)) iE (tsX F N iE su) (.ref (F.ca c)) (some dd) σ H := by
  obtain ⟨fl, G2, e⟩ := hx
  have hc : c < nC := by
    refine Nat.lt_of_not_le fun z => ?_
    unfold pickH at e
    rw [if_pos z] at e
    cases e
  have ep : pickH nC [(n1, f1, su), (n2, f2, su)] c fs = if (f1 c || f2 c) = true then su c fs else fun _ _ => .bad := by
    have hneg : ¬ nC ≤ c := by omega
    simp only [pickH, if_neg hneg]
    by_cases h1 : f1 c = true
    · simp [h1]
    · by_cases h2 : f2 c = true
      · simp [h1, h2]
      · simp [h1, h2]
  rw [ep] at e q
  refine ⟨f1 c, f2 c, ok _ (List.mem_cons_self ..) c hc, ok _ (List.mem_cons_of_mem _ (List.mem_cons_self ..)) c hc, fun hb a ha => ?_, fun hb => ?_⟩
  · rw [if_pos hb] at q
    intro hl
    exact ⟨c, dd, fs, rfl, rfl, q a ha (by rw [List.length_set] at hl; exact hl)⟩
  · rw [hb, if_neg Bool.false_ne_true] at e
    cases e
theorem tell_useL {Ex : XK} {μ : Mu} {H H1 : Hp} {ρ : Env} {σ : L2.St} {G : GH} {m : Env → GH → Res PV} {j : Nat} {odd w0 : Str} {n1 n2 : Nat} {f1 f2 : Nat → Bool} {su : SuM} {Q : VK} (ok : ExmOk K F nC [(n1, f1, su), (n2, f2, su)]) (hji : iE ≠ j) (hiN : iE < N) (s : SRel F μ H ρ σ) (g : HRep F μ H G)
    (p : Post F (RV F) Ex μ H (trimR G (tellRL N j w0 (pickH nC [(n1, f1, su), (n2, f2, su)]) (m ρ G))) Q) (e : ExtN H H1) (t : Tabs F.T H1) : TTlL K j odd w0 (.ref (F.ca n1)) (.ref (F.ca n2)) iE (tsX F N iE su) (fun E H' Q' => TEv F E m σ H' Q') H1 Q := by
  have p := trim_post g p
  intro r0 hr
  have e1 : Ext μ μ H H1 := Ext.extN e
  have g1 : HRep F μ H1 G := g.extN e t
  have e2 : Ext μ μ H1 (upd H1 r0 (.lst [.str odd])) := Ext.upd_new g1 hr
  have g2 := g1.upd_new (o := HO.lst [V.str odd]) hr
  refine ⟨μ, ρ, G, (s.mono e1).mono e2, g2, ?_⟩
  have p := Post.shift (e1.trans e2) p
  cases em : m ρ G with
  | bad => rw [em] at p; exact p
  | ok v G1 =>
    rw [em] at p
    have p : Post F (RV F) Ex μ (upd H1 r0 (.lst [.str odd])) (.ok (.lst [.str w0, v]) G1) Q := p
    intro μ' b H' ex rb gg
    refine ⟨by rw [sizeLine_eq]; simp, fun r hr2 => ?_⟩
    have ex2 : Ext μ' μ' H' (upd H' r (.lst [.str w0, b])) := Ext.upd_new gg hr2
    refine p.ok (ex.trans ex2) ?_ (gg.upd_new hr2)
    show Rep F _ _ _ _
    simp only [Rep]
    exact ⟨r, [.str w0, b], rfl, by rw [sizeLine_eq]; simp, ⟨gg.fresh hr2, upd_same⟩, .cons (by simp only [Rep]) (.one ((show Rep F μ' H' v b from rb).mono ex2))⟩
  | exc c fs G1 =>
    rw [em] at p
    intro μ' dd H' fvs ex gg hx fr rf
    have p := Post.shift ex p
    have p : Post F (RV F) Ex μ' H' (match pickH nC [(n1, f1, su), (n2, f2, su)] c fs (List.replicate N none) G1 with
      | .ok (.next ρ) G1 => (match ρ[j]? with
        | some (some p) => (.ok p G1 : Res PV)
        | _ => .bad)
      | .ok (.ret p) G1 => .ok p G1
      | _ => .bad) Q := p
    show ∀ σ', wTwoA K (fun _ _ _ _ => False) (endD j Q) (.ref (F.ca n1)) (.ref (F.ca n2)) iE (tsX F N iE su) (.ref (F.ca c)) (some dd) σ' H'
    intro σ'
    cases es : pickH nC [(n1, f1, su), (n2, f2, su)] c fs (List.replicate N none) G1 with
    | bad => rw [es] at p; exact (show False from p).elim
    | exc c2 fs2 G2 => rw [es] at p; exact (show False from p).elim
    | ok fl G2 =>
      rw [es] at p
      refine wtwo_of ok ⟨fl, G2, es⟩ fun a ha hl => ⟨μ', List.replicate N none, G1, ⟨?_, ?_, ⟨fvs, hx, rf⟩, fr⟩, gg, ?_⟩
      · have := srel_none (F := F) (μ := μ') (H := H') (σ'.set iE (some (V.ref a)))
        rw [List.length_set, hl] at this
        exact this
      · show (σ'.set iE (some (V.ref a)))[iE]? = _
        rw [List.getElem?_set_self (by omega)]
      · rw [es]
        intro μ2 fv H2 ex2 rfv g2
        cases fl with
        | next ρ2 =>
          cases fv with
          | next σ2 =>
            have rfv : SRx F ⟨a, dd, iE, fs⟩ μ2 H2 ρ2 σ2 := rfv
            have p : Post F (RV F) Ex μ' H' (match ρ2[j]? with
              | some (some p) => (.ok p G2 : Res PV)
              | _ => .bad) Q := p
            cases ej : ρ2[j]? with
            | none => rw [ej] at p; exact (show False from p).elim
            | some o =>
              cases o with
              | none => rw [ej] at p; exact (show False from p).elim
              | some pv =>
                rw [ej] at p
                obtain ⟨v, h1, h2⟩ := rfv.s.at' j pv ej
                show ∃ v, (σ2.set iE none)[j]? = some (some v) ∧ Q v H2
                refine ⟨v, ?_, Post.ok (show Post F (RV F) Ex μ' H' (.ok pv G2) Q from p) ex2 h2 g2⟩
                rw [List.getElem?_set_ne hji]; exact h1
          | _ => exact (show False from rfv).elim
        | ret pv =>
          cases fv with
          | ret v =>
            show Q v H2
            exact Post.ok (R := RV F) (show Post F (RV F) Ex μ' H' (.ok pv G2) Q from p) ex2 (show Rep F μ2 H2 pv v from rfv) g2
          | _ => exact (show False from rfv).elim
        | brk ρ2 => exact (show False from p).elim
        | cont ρ2 => exact (show False from p).elim
end
/-- the teller x, in X -/
structure TellXL (X : Cx) (F : Fx) (x a w0 : Str) (nC N iE j n1 n2 : Nat) (f1 f2 : Nat → Bool) (su : SuM) : Prop where
  ex : ∃ (ga : Addr) (fd : FuncData) (pg : Arguments) (bg : List Stmt) (sg : Scope) (odd : Str) (Ng : List Str), FunD X.K x x pg bg sg [] [] ga fd ∧ X.mg x = some (.ref ga) ∧ L2.Binds X.K fd [a] [] ∧ FnScope Ng [a] sg ∧ Ng[0]? = some a ∧ Vis sg a ∧ Ng.length = N ∧ iE ≠ j ∧ iE < N ∧ ExmOk X.K F nC [(n1, f1, su), (n2, f2, su)] ∧
    (x == ("__debug__" : Str)) = false ∧ (a == ("__debug__" : Str)) = false ∧ (a == ("__classdict__" : Str)) = false ∧ ∀ cdv q, GivesTo X Ng x sg ga cdv bg a q (TTlL X.K j odd w0 (.ref (F.ca n1)) (.ref (F.ca n2)) iE (tsX F N iE su))
section
variable {X : Cx} {F : Fx} {Ex : XK} {n k nC N iE j n1 n2 : Nat} {x a w0 : Str} {f1 f2 : Nat → Bool} {su : SuM} {params : Arguments} {body : Expr} {scope : Scope} {m : Env → GH → Res PV} {p lpos pos : Pos}
theorem gtellL (g : GX X F Ex n) (L : LamK X F) (T : TellXL X F x a w0 nC N iE j n1 n2 f1 f2 su) (hn : k + 2 ≤ n)
    (hbody : ∀ (A : Around) (outer : List PySem.Env) (s : Shared) (H : Hp) (E : XK) (f c' : Addr), GX (lamCx X A outer s H E scope f c') F E k → PE (lamCx X A outer s H E scope f c') body (TEv F E m))
    (hg : X.env.kindOf x = some .globalImplicit := by kernel_rfl) (LS : lamSB X.env.scope scope = true := by kernel_rfl) (hdef : defaultsOf params X.env = ([], []) := by rfl)
    (hbind : ∀ (q : Str) (cl : List (Str × Addr)) (pm cv ctv : Value), bindArgs (PySem.W.kla_fn "<lambda>" q params body scope cl pm cv ctv) ⟨[], []⟩ = pure [] := by intros; rfl) :
    PE X (.Call (.Name x p) [.Lambda params body scope lpos] [] pos) (TEv F Ex (mTellL N j w0 (pickH nC [(n1, f1, su), (n2, f2, su)]) m)) := by
  obtain ⟨ga, fd, pg, bg, sg, odd, Ng, Fd, hm, hb, Sg, hNg, hva, hN, hji, hiN, ok, hdb, hd, hcd, hG⟩ := T.ex
  obtain ⟨c, P, TB, hcode, hmT, hu⟩ := L.ex
  obtain ⟨oc, od, dV, kV, doc, pm, an, cdv, ct, osl, rfl, lk, hcd2, _, _⟩ := Fd.ex
  refine (pe_lamcallG (T := F.T) (t := fun E => TEv F E m) (k := k) hg hm Fd.kp lk hcd2 hb Sg hNg hva (hG cdv _) TB hcode hmT hu (g.room.mono hn) (lamS_by LS) hdef hbind g.gd (fun A outer s H E f c' hgd hr => ?_) hdb hd hcd).weak fun σ H Q ⟨μ, ρ, G, s, gr, q⟩ => ⟨gr.tab, fun H1 e t => tell_useL ok hji hiN s gr q e t⟩
  exact hbody A outer s H E f c' ⟨g.K, rfl, g.nd, hr, hgd, passes_call (takes_of rfl rfl rfl rfl) fun _ _ _ _ z => z⟩
end
section
variable {Y : Cx} {F : Fx} {Z : Zx} {a0 : Addr} {oe : Obj} {pn : List (Addr × Obj)} {a b : Expr} {pos : Pos} {ma mb : Env → GH → Res PV}
theorem zadd (g : GZ Y F) (ha : PE (SX Y a0 oe pn) a (TEx F Z ma)) (hb : PE (SX Y a0 oe pn) b (TEx F Z mb)) : PE (SX Y a0 oe pn) (.BinOp a .Add b pos) (TEx F Z (m2 ma mb opAdd)) :=
  (pe_op (opAdd_ok (X := SX Y a0 oe pn) (F := F) (Ex := E0) g.K) ha hb).weak fun σ H Q h => read2x h
theorem zneT (g : GZ Y F) (ha : PE (SX Y a0 oe pn) a (TEx F Z ma)) (hb : PE (SX Y a0 oe pn) b (TEx F Z mb)) (hm : behindInMarks .NotEq b = false := by kernel_rfl) : PT (SX Y a0 oe pn) (.Compare a [.NotEq] [b] pos) (TTx F Z (mB (m2 ma mb (Cop.f .ne)))) :=
  (pt_cmpR (opNe_ok (X := SX Y a0 oe pn) (F := F) (Ex := E0) g.K g.un) ha hb hm).weak fun σ H Q ⟨μ, ρ, G, s, gr, p⟩ => read2x ⟨μ, ρ, G, s, gr, (Post.bind (R := RV F) p).mono fun v H1 ⟨μ1, a, G1, _, e, r, g1, q⟩ => asB_use r g1 q⟩
theorem vvar (i : Nat) {x : Str} {p1 : Pos} (hN : Y.N[i]? = some x := by kernel_rfl) (hv : visB Y.env.scope x = true := by kernel_rfl) (hd : nmB x = true := by kernel_rfl) : PE (SX Y a0 oe pn) (.Name x p1) (TEv F E0 (mVar i)) := ev_var hN (vis_of hv) (nm1 hd) (nm2 hd)
theorem vslv (g : GZ Y F) {lo hi : Option Expr} {p2 : Pos} {l h : Env → GH → Res (Option Int)} (ha : PE (SX Y a0 oe pn) a (TEv F E0 ma)) (hl : PO (SX Y a0 oe pn) lo (TOv F E0 l)) (hu : PO (SX Y a0 oe pn) hi (TOv F E0 h)) : PE (SX Y a0 oe pn) (.Subscript a (.Slice lo hi none p2) pos) (TEv F E0 (mSl ma l h opSl)) :=
  ev_sl (opSl_ok (X := SX Y a0 oe pn) (F := F) (Ex := E0) g.K) ha hl hu
theorem zinT (g : GZ Y F) (ha : PE (SX Y a0 oe pn) a (TEv F E0 ma)) (hb : PE (SX Y a0 oe pn) b (TEv F E0 mb)) (hm : behindInMarks .In b = false := by kernel_rfl) : PT (SX Y a0 oe pn) (.Compare a [.In] [b] pos) (TTx F Z (mB (m2 ma mb opIn))) :=
  (ev_cmpT (opIn_ok (X := SX Y a0 oe pn) (F := F) (Ex := E0) g.K) ha hb hm).weak fun σ H Q ⟨μ, ρ, G, s, g, p⟩ => ⟨μ, ρ, G, s.s, g, p⟩
end
end EV
end
section
set_option Elab.async false
set_option linter.all false
set_option maxRecDepth 100000
/-! Ev72: <, >, <=, >= of tuples by the first place that differs, whatever stands behind it (printed by mkEv72.py). -/
namespace EV
open PySem PySem.SeqAt
open AutoSeq1 (wpAny_loadPart')
open MeetsSeq MeetsSeq2 MeetsSeq3 SeqRoads2
/-- the first pair that differs decides, else the sizes -/
inductive LexA (op : CmpOp) (A : Around) (s : Shared) (fin : Bool) : List (Value × Value) → Bool → Prop
  | done : LexA op A s fin [] fin
  | same {y x : Value} {r : List (Value × Value)} {k : Bool} : EqAt A s y x true → LexA op A s fin r k → LexA op A s fin ((y, x) :: r) k
  | diff {y x : Value} {r : List (Value × Value)} {k : Bool} : EqAt A s y x false → RcOp op A s y x k → LexA op A s fin ((y, x) :: r) k

/-- a comparison that is not looked into -/
@[irreducible] def rcI (op : CmpOp) (a b : Value) := PySem.richCompare op a b
theorem rcI_eq (op : CmpOp) (a b : Value) : PySem.richCompare op a b = rcI op a b := by unfold rcI; rfl
theorem tup_lt (l b : Addr) (us vs : Array Value) (n m : Nat) (du dv : Option Addr) (su sv : Array (Option Value)) (k : Bool) :
    Meets (Builtin.«tuple.__lt__» ⟨[.ref l, .ref b], []⟩)
      (fun A R s => (s.heap.get? l = some { cls := .type "tuple", dict := du, data := .seq us n, slots := su } ∧ s.heap.get? b = some { cls := .type "tuple", dict := dv, data := .seq vs m, slots := sv }) ∧
        LexA .Lt A.in1 s (decide (us.size < vs.size)) (us.toList.zip vs.toList) k ∧ R (.ok (.ret (.bool k))) s) :=
  .of_wp fun prog w A R s h => by
    obtain ⟨hp, g, d, tk, os⟩ := s
    obtain ⟨⟨hl, hb⟩, hx, hk⟩ := h
    have f2 := AutoSeq1.sub_tuple_tuple
    wp_walk using wpAny_loadPart' hl, wpAny_loadPart' hb, wpAny_forIn_list _ (fun left b s' => b.1 = none ∧ s' = ⟨hp, g, d, tk, os⟩ ∧ LexA .Lt A.in1 ⟨hp, g, d, tk, os⟩ (decide (us.size < vs.size)) left k) _
    case turn =>
      rintro ⟨y, x⟩ left b s' ⟨hb', rfl, q⟩
      cases q with
      | same e q =>
        refine wpAny_bind (e prog w _ _ ?_)
        wp_walk
        exact ⟨rfl, rfl, q⟩
      | diff e c =>
        refine wpAny_bind (e prog w _ _ ?_)
        simp only [rcI_eq]
        wp_walk
        rw [← rcI_eq]
        refine c prog w _ _ ?_
        wp_walk
        exact ⟨_, rfl, hk⟩
    case fin =>
      rintro ⟨b1, b2⟩ s' ⟨hb', rfl, q⟩
      simp only at hb'
      subst hb'
      cases q
      wp_walk
      exact ⟨_, rfl, by simpa [Builtin.Tuple.tupleCompareSizes] using hk⟩
    case h =>
      exact ⟨rfl, rfl, hx⟩
theorem lex_lt {A : Around} {s : Shared} {l b : Addr} {us vs : Array Value} {k : Bool} (hl : s.heap.IsTuple l us) (hb : s.heap.IsTuple b vs) (hu : A.units < cLine) (h : LexA .Lt A.in1 s (decide (us.size < vs.size)) (us.toList.zip vs.toList) k) : RcOp .Lt A s (.ref l) (.ref b) k := fun prog w E Q q => by
  obtain ⟨⟨c1, d1, a1, s1⟩, h1, e1, n1, z1⟩ := id hl
  obtain ⟨⟨c2, d2, a2, s2⟩, h2, e2, n2, z2⟩ := id hb
  simp only at e1 z1 e2 z2
  subst e1 z1 e2 z2
  exact richCompare_meets_room (op := .Lt) ⟨_, h1, rfl⟩ ⟨_, h2, rfl⟩ F.slot_tuple_lt F.entry_tuple_lt (F.args_tuple_lt_2 _ _) (tup_lt l b us vs n1 n2 d1 d2 s1 s2 k) ⟨⟨h1, h2⟩, h, show Value.bool k ≠ Value.notImplemented ∧ Q (.bool k) s from ⟨(fun x => nomatch x), q⟩⟩ hu
theorem tup_gt (l b : Addr) (us vs : Array Value) (n m : Nat) (du dv : Option Addr) (su sv : Array (Option Value)) (k : Bool) :
    Meets (Builtin.«tuple.__gt__» ⟨[.ref l, .ref b], []⟩)
      (fun A R s => (s.heap.get? l = some { cls := .type "tuple", dict := du, data := .seq us n, slots := su } ∧ s.heap.get? b = some { cls := .type "tuple", dict := dv, data := .seq vs m, slots := sv }) ∧
        LexA .Gt A.in1 s (decide (us.size > vs.size)) (us.toList.zip vs.toList) k ∧ R (.ok (.ret (.bool k))) s) :=
  .of_wp fun prog w A R s h => by
    obtain ⟨hp, g, d, tk, os⟩ := s
    obtain ⟨⟨hl, hb⟩, hx, hk⟩ := h
    have f2 := AutoSeq1.sub_tuple_tuple
    wp_walk using wpAny_loadPart' hl, wpAny_loadPart' hb, wpAny_forIn_list _ (fun left b s' => b.1 = none ∧ s' = ⟨hp, g, d, tk, os⟩ ∧ LexA .Gt A.in1 ⟨hp, g, d, tk, os⟩ (decide (us.size > vs.size)) left k) _
    case turn =>
      rintro ⟨y, x⟩ left b s' ⟨hb', rfl, q⟩
      cases q with
      | same e q =>
        refine wpAny_bind (e prog w _ _ ?_)
        wp_walk
        exact ⟨rfl, rfl, q⟩
      | diff e c =>
        refine wpAny_bind (e prog w _ _ ?_)
        simp only [rcI_eq]
        wp_walk
        rw [← rcI_eq]
        refine c prog w _ _ ?_
        wp_walk
        exact ⟨_, rfl, hk⟩
    case fin =>
      rintro ⟨b1, b2⟩ s' ⟨hb', rfl, q⟩
      simp only at hb'
      subst hb'
      cases q
      wp_walk
      exact ⟨_, rfl, by simpa [Builtin.Tuple.tupleCompareSizes] using hk⟩
    case h =>
      exact ⟨rfl, rfl, hx⟩
theorem lex_gt {A : Around} {s : Shared} {l b : Addr} {us vs : Array Value} {k : Bool} (hl : s.heap.IsTuple l us) (hb : s.heap.IsTuple b vs) (hu : A.units < cLine) (h : LexA .Gt A.in1 s (decide (us.size > vs.size)) (us.toList.zip vs.toList) k) : RcOp .Gt A s (.ref l) (.ref b) k := fun prog w E Q q => by
  obtain ⟨⟨c1, d1, a1, s1⟩, h1, e1, n1, z1⟩ := id hl
  obtain ⟨⟨c2, d2, a2, s2⟩, h2, e2, n2, z2⟩ := id hb
  simp only at e1 z1 e2 z2
  subst e1 z1 e2 z2
  exact richCompare_meets_room (op := .Gt) ⟨_, h1, rfl⟩ ⟨_, h2, rfl⟩ F.slot_tuple_gt F.entry_tuple_gt (F.args_tuple_gt_2 _ _) (tup_gt l b us vs n1 n2 d1 d2 s1 s2 k) ⟨⟨h1, h2⟩, h, show Value.bool k ≠ Value.notImplemented ∧ Q (.bool k) s from ⟨(fun x => nomatch x), q⟩⟩ hu
theorem tup_le (l b : Addr) (us vs : Array Value) (n m : Nat) (du dv : Option Addr) (su sv : Array (Option Value)) (k : Bool) :
    Meets (Builtin.«tuple.__le__» ⟨[.ref l, .ref b], []⟩)
      (fun A R s => (s.heap.get? l = some { cls := .type "tuple", dict := du, data := .seq us n, slots := su } ∧ s.heap.get? b = some { cls := .type "tuple", dict := dv, data := .seq vs m, slots := sv }) ∧
        LexA .LtE A.in1 s (decide (us.size ≤ vs.size)) (us.toList.zip vs.toList) k ∧ R (.ok (.ret (.bool k))) s) :=
  .of_wp fun prog w A R s h => by
    obtain ⟨hp, g, d, tk, os⟩ := s
    obtain ⟨⟨hl, hb⟩, hx, hk⟩ := h
    have f2 := AutoSeq1.sub_tuple_tuple
    wp_walk using wpAny_loadPart' hl, wpAny_loadPart' hb, wpAny_forIn_list _ (fun left b s' => b.1 = none ∧ s' = ⟨hp, g, d, tk, os⟩ ∧ LexA .LtE A.in1 ⟨hp, g, d, tk, os⟩ (decide (us.size ≤ vs.size)) left k) _
    case turn =>
      rintro ⟨y, x⟩ left b s' ⟨hb', rfl, q⟩
      cases q with
      | same e q =>
        refine wpAny_bind (e prog w _ _ ?_)
        wp_walk
        exact ⟨rfl, rfl, q⟩
      | diff e c =>
        refine wpAny_bind (e prog w _ _ ?_)
        simp only [rcI_eq]
        wp_walk
        rw [← rcI_eq]
        refine c prog w _ _ ?_
        wp_walk
        exact ⟨_, rfl, hk⟩
    case fin =>
      rintro ⟨b1, b2⟩ s' ⟨hb', rfl, q⟩
      simp only at hb'
      subst hb'
      cases q
      wp_walk
      exact ⟨_, rfl, by simpa [Builtin.Tuple.tupleCompareSizes] using hk⟩
    case h =>
      exact ⟨rfl, rfl, hx⟩
theorem lex_le {A : Around} {s : Shared} {l b : Addr} {us vs : Array Value} {k : Bool} (hl : s.heap.IsTuple l us) (hb : s.heap.IsTuple b vs) (hu : A.units < cLine) (h : LexA .LtE A.in1 s (decide (us.size ≤ vs.size)) (us.toList.zip vs.toList) k) : RcOp .LtE A s (.ref l) (.ref b) k := fun prog w E Q q => by
  obtain ⟨⟨c1, d1, a1, s1⟩, h1, e1, n1, z1⟩ := id hl
  obtain ⟨⟨c2, d2, a2, s2⟩, h2, e2, n2, z2⟩ := id hb
  simp only at e1 z1 e2 z2
  subst e1 z1 e2 z2
  exact richCompare_meets_room (op := .LtE) ⟨_, h1, rfl⟩ ⟨_, h2, rfl⟩ F.slot_tuple_le F.entry_tuple_le (F.args_tuple_le_2 _ _) (tup_le l b us vs n1 n2 d1 d2 s1 s2 k) ⟨⟨h1, h2⟩, h, show Value.bool k ≠ Value.notImplemented ∧ Q (.bool k) s from ⟨(fun x => nomatch x), q⟩⟩ hu
theorem tup_ge (l b : Addr) (us vs : Array Value) (n m : Nat) (du dv : Option Addr) (su sv : Array (Option Value)) (k : Bool) :
    Meets (Builtin.«tuple.__ge__» ⟨[.ref l, .ref b], []⟩)
      (fun A R s => (s.heap.get? l = some { cls := .type "tuple", dict := du, data := .seq us n, slots := su } ∧ s.heap.get? b = some { cls := .type "tuple", dict := dv, data := .seq vs m, slots := sv }) ∧
        LexA .GtE A.in1 s (decide (us.size ≥ vs.size)) (us.toList.zip vs.toList) k ∧ R (.ok (.ret (.bool k))) s) :=
  .of_wp fun prog w A R s h => by
    obtain ⟨hp, g, d, tk, os⟩ := s
    obtain ⟨⟨hl, hb⟩, hx, hk⟩ := h
    have f2 := AutoSeq1.sub_tuple_tuple
    wp_walk using wpAny_loadPart' hl, wpAny_loadPart' hb, wpAny_forIn_list _ (fun left b s' => b.1 = none ∧ s' = ⟨hp, g, d, tk, os⟩ ∧ LexA .GtE A.in1 ⟨hp, g, d, tk, os⟩ (decide (us.size ≥ vs.size)) left k) _
    case turn =>
      rintro ⟨y, x⟩ left b s' ⟨hb', rfl, q⟩
      cases q with
      | same e q =>
        refine wpAny_bind (e prog w _ _ ?_)
        wp_walk
        exact ⟨rfl, rfl, q⟩
      | diff e c =>
        refine wpAny_bind (e prog w _ _ ?_)
        simp only [rcI_eq]
        wp_walk
        rw [← rcI_eq]
        refine c prog w _ _ ?_
        wp_walk
        exact ⟨_, rfl, hk⟩
    case fin =>
      rintro ⟨b1, b2⟩ s' ⟨hb', rfl, q⟩
      simp only at hb'
      subst hb'
      cases q
      wp_walk
      exact ⟨_, rfl, by simpa [Builtin.Tuple.tupleCompareSizes] using hk⟩
    case h =>
      exact ⟨rfl, rfl, hx⟩
theorem lex_ge {A : Around} {s : Shared} {l b : Addr} {us vs : Array Value} {k : Bool} (hl : s.heap.IsTuple l us) (hb : s.heap.IsTuple b vs) (hu : A.units < cLine) (h : LexA .GtE A.in1 s (decide (us.size ≥ vs.size)) (us.toList.zip vs.toList) k) : RcOp .GtE A s (.ref l) (.ref b) k := fun prog w E Q q => by
  obtain ⟨⟨c1, d1, a1, s1⟩, h1, e1, n1, z1⟩ := id hl
  obtain ⟨⟨c2, d2, a2, s2⟩, h2, e2, n2, z2⟩ := id hb
  simp only at e1 z1 e2 z2
  subst e1 z1 e2 z2
  exact richCompare_meets_room (op := .GtE) ⟨_, h1, rfl⟩ ⟨_, h2, rfl⟩ F.slot_tuple_ge F.entry_tuple_ge (F.args_tuple_ge_2 _ _) (tup_ge l b us vs n1 n2 d1 d2 s1 s2 k) ⟨⟨h1, h2⟩, h, show Value.bool k ≠ Value.notImplemented ∧ Q (.bool k) s from ⟨(fun x => nomatch x), q⟩⟩ hu
end EV
end
section
set_option Elab.async false
set_option linter.all false
set_option maxRecDepth 100000
/-! Ev73: data that can be ordered up to the first place that differs: <, >, <=, >= of them, in terms of dataLt. -/
namespace EV
open PySem PySem.Spec PySem.W PyProof.Rows PySem.SeqAt
mutual
/-- they can be ordered: up to the first place that differs all is equal, there they are alike -/
def cmpB : PyData → PyData → Bool
  | .tuple xs, .tuple ys => cmpsB xs ys
  | .none, _ => false
  | d, e => alike d e
def cmpsB : List PyData → List PyData → Bool
  | x :: xs, y :: ys => if PyData.eqv x y = true then cmpsB xs ys else cmpB x y
  | _, _ => true
end
mutual
theorem eqv_toks : ∀ (x y : PyData), PyData.eqv x y = true → keyToks x = keyToks y
  | .none, y, h => by cases y <;> first | rfl | (simp [PyData.eqv] at h; done)
  | .bool a, y, h => by
    cases y with
    | bool b => have : a = b := by simpa [PyData.eqv] using h
                rw [this]
    | int j =>
      have : (if a = true then 1 else 0) = j := by simpa [PyData.eqv] using h
      simp [keyToks, this]
    | _ => simp [PyData.eqv] at h
  | .int i, y, h => by
    cases y with
    | bool b =>
      have : i = (if b = true then 1 else 0) := by simpa [PyData.eqv] using h
      simp [keyToks, this]
    | int j => have : i = j := by simpa [PyData.eqv] using h
               rw [this]
    | _ => simp [PyData.eqv] at h
  | .str x, y, h => by
    cases y with
    | str z => have : x = z := by simpa [PyData.eqv] using h
               rw [this]
    | _ => simp [PyData.eqv] at h
  | .list xs, y, h => by
    cases y with
    | list ys => simp only [PyData.eqv] at h; simp only [keyToks]; exact eqv_toksAll xs ys h
    | _ => simp [PyData.eqv] at h
  | .tuple xs, y, h => by
    cases y with
    | tuple ys => simp only [PyData.eqv] at h; simp only [keyToks]; exact eqv_toksAll xs ys h
    | _ => simp [PyData.eqv] at h
  | .dict _, y, h => by cases y <;> simp [PyData.eqv] at h
theorem eqv_toksAll : ∀ (xs ys : List PyData), PyData.eqvAll xs ys = true → keyToksAll xs = keyToksAll ys
  | [], [], _ => rfl
  | [], _ :: _, h => by simp [PyData.eqvAll] at h
  | _ :: _, [], h => by simp [PyData.eqvAll] at h
  | x :: xs, y :: ys, h => by
    rw [eqv_all_cons, Bool.and_eq_true] at h
    rw [toks_all_cons, toks_all_cons, eqv_toks x y h.1, eqv_toksAll xs ys h.2]
end
mutual
/-- where they differ, what stands behind does not matter -/
theorem cmp_toks : ∀ (x y : PyData), cmpB x y = true → PyData.eqv x y = false → ∀ l m, PyProof.Rows.lexLt itemOrd (keyToks x ++ l) (keyToks y ++ m) = PyProof.Rows.lexLt itemOrd (keyToks x) (keyToks y)
  | .tuple xs, y, h, e => by
    cases y with
    | tuple ys =>
      simp only [PyData.eqv] at e
      simp only [keyToks]
      exact cmps_toks xs ys (by simpa only [cmpB] using h) e
    | _ => simp [cmpB, alike] at h
  | .none, y, h, e => by simp [cmpB] at h
  | .bool a, y, h, e => (toks_eqv _ _ (by simpa only [cmpB] using h)).2 e
  | .int a, y, h, e => (toks_eqv _ _ (by simpa only [cmpB] using h)).2 e
  | .str a, y, h, e => (toks_eqv _ _ (by simpa only [cmpB] using h)).2 e
  | .list a, y, h, e => (toks_eqv _ _ (by simpa only [cmpB] using h)).2 e
  | .dict a, y, h, e => (toks_eqv _ _ (by simpa only [cmpB] using h)).2 e
theorem cmps_toks : ∀ (xs ys : List PyData), cmpsB xs ys = true → PyData.eqvAll xs ys = false → ∀ l m, PyProof.Rows.lexLt itemOrd (keyToksAll xs ++ l) (keyToksAll ys ++ m) = PyProof.Rows.lexLt itemOrd (keyToksAll xs) (keyToksAll ys)
  | [], [], _, e => absurd e (by simp [PyData.eqvAll])
  | [], y :: ys, _, e => fun l m => by
      simp only [keyToksAll, List.cons_append, List.nil_append]
      exact (lex_atom (by simp) _ _).trans (lex_atom (by simp) _ _).symm
  | x :: xs, [], _, e => fun l m => by
      simp only [keyToksAll, List.cons_append, List.nil_append]
      exact (lex_atom (by simp) _ _).trans (lex_atom (by simp) _ _).symm
  | x :: xs, y :: ys, h, e => fun l m => by
    simp only [cmpsB] at h
    rw [eqv_all_cons] at e
    rw [toks_all_cons, toks_all_cons]
    simp only [List.cons_append, List.append_assoc]
    cases hx : PyData.eqv x y with
    | true =>
      rw [hx, if_pos rfl] at h
      rw [hx, Bool.true_and] at e
      rw [eqv_toks x y hx]
      exact (lex_self (O := itemOrd) _ _ _).trans ((lex_pre _ _ _).trans ((cmps_toks xs ys h e l m).trans ((lex_pre _ _ _).symm.trans (lex_self (O := itemOrd) _ _ _).symm)))
    | false =>
      rw [hx, if_neg Bool.false_ne_true] at h
      exact (lex_self (O := itemOrd) _ _ _).trans ((cmp_toks x y h hx _ _).trans ((cmp_toks x y h hx _ _).symm.trans (lex_self (O := itemOrd) _ _ _).symm))
end
theorem lexs_yes {x y : PyData} {xs ys : List PyData} (e : PyData.eqv x y = true) : PyProof.Rows.lexLt itemOrd (keyToksAll (x :: xs)) (keyToksAll (y :: ys)) = PyProof.Rows.lexLt itemOrd (keyToksAll xs) (keyToksAll ys) := by
  rw [toks_all_cons, toks_all_cons, eqv_toks x y e]
  exact (lex_self (O := itemOrd) _ _ _).trans (lex_pre _ _ _)
theorem lexs_no {x y : PyData} {xs ys : List PyData} (h : cmpB x y = true) (e : PyData.eqv x y = false) : PyProof.Rows.lexLt itemOrd (keyToksAll (x :: xs)) (keyToksAll (y :: ys)) = dataLt x y := by
  rw [toks_all_cons, toks_all_cons]
  exact (lex_self (O := itemOrd) _ _ _).trans (cmp_toks x y h e _ _)
mutual
theorem eqvS : ∀ (x y : PyData), PyData.eqv x y = PyData.eqv y x
  | .list xs, y => by cases y <;> simp only [PyData.eqv]; exact eqvsS xs _
  | .tuple xs, y => by cases y <;> simp only [PyData.eqv]; exact eqvsS xs _
  | .none, y => by cases y <;> simp only [PyData.eqv]
  | .bool a, y => by cases y <;> simp only [PyData.eqv] <;> exact Bool.eq_iff_iff.mpr (by simp only [beq_iff_eq]; exact eq_comm)
  | .int a, y => by cases y <;> simp only [PyData.eqv] <;> exact Bool.eq_iff_iff.mpr (by simp only [beq_iff_eq]; exact eq_comm)
  | .str a, y => by cases y <;> simp only [PyData.eqv] <;> exact Bool.eq_iff_iff.mpr (by simp only [beq_iff_eq]; exact eq_comm)
  | .dict a, y => by cases y <;> simp only [PyData.eqv]
theorem eqvsS : ∀ (xs ys : List PyData), PyData.eqvAll xs ys = PyData.eqvAll ys xs
  | [], [] => rfl
  | [], _ :: _ => by simp only [PyData.eqvAll]
  | _ :: _, [] => by simp only [PyData.eqvAll]
  | x :: xs, y :: ys => by rw [eqv_all_cons, eqv_all_cons, eqvS x y, eqvsS xs ys]
end
mutual
theorem alikeT : ∀ (x y : PyData), alike x y = true → alike y x = true
  | .list xs, y, h => by cases y <;> simp [alike] at h ⊢; exact alikeS xs _ h
  | .tuple xs, y, h => by cases y <;> simp [alike] at h ⊢; exact alikeS xs _ h
  | .none, y, h => by cases y <;> simp [alike] at h ⊢
  | .bool a, y, h => by cases y <;> simp [alike] at h ⊢
  | .int a, y, h => by cases y <;> simp [alike] at h ⊢
  | .str a, y, h => by cases y <;> simp [alike] at h ⊢
  | .dict a, y, h => by cases y <;> simp [alike] at h
theorem alikeS : ∀ (xs ys : List PyData), alikeAll xs ys = true → alikeAll ys xs = true
  | [], ys, _ => by cases ys <;> simp [alikeAll]
  | _ :: _, [], _ => by simp [alikeAll]
  | x :: xs, y :: ys, h => by
    simp only [alikeAll, Bool.and_eq_true] at h ⊢
    exact ⟨alikeT x y h.1, alikeS xs ys h.2⟩
end
mutual
theorem cmpS : ∀ (x y : PyData), cmpB x y = true → PyData.eqv x y = false → cmpB y x = true
  | .tuple xs, y, h, e => by
    cases y with
    | tuple ys =>
      simp only [PyData.eqv] at e
      simp only [cmpB] at h ⊢
      exact cmpsS xs ys h e
    | _ => simp [cmpB, alike] at h
  | .none, y, h, _ => by simp [cmpB] at h
  | .bool a, y, h, _ => by cases y <;> simp [cmpB, alike] at h ⊢
  | .int a, y, h, _ => by cases y <;> simp [cmpB, alike] at h ⊢
  | .str a, y, h, _ => by cases y <;> simp [cmpB, alike] at h ⊢
  | .list a, y, h, _ => by
    cases y <;> simp [cmpB, alike] at h ⊢
    exact alikeS a _ h
  | .dict a, y, h, _ => by cases y <;> simp [cmpB, alike] at h ⊢
theorem cmpsS : ∀ (xs ys : List PyData), cmpsB xs ys = true → PyData.eqvAll xs ys = false → cmpsB ys xs = true
  | [], _, _, _ => by simp [cmpsB]
  | _ :: _, [], _, _ => by simp [cmpsB]
  | x :: xs, y :: ys, h, e => by
    simp only [cmpsB] at h ⊢
    rw [eqv_all_cons] at e
    rw [eqvS y x]
    cases hx : PyData.eqv x y with
    | true =>
      rw [hx, if_pos rfl] at h
      rw [hx, Bool.true_and] at e
      rw [if_pos rfl]
      exact cmpsS xs ys h e
    | false =>
      rw [hx, if_neg Bool.false_ne_true] at h
      rw [if_neg Bool.false_ne_true]
      exact cmpS x y h hx
end
mutual
theorem cmp_lt : ∀ (da db : PyData) (A : Around) (s : Shared) (a b : Value) (as bs : List Addr), Reads s.heap a da as → Reads s.heap b db bs → da.plain = true → db.plain = true → cmpB da db = true → A.units + min da.depth db.depth < cLine → RcOp .Lt A s a b (dataLt da db)
  | .tuple xs, db, A, s, a, b, as, bs, ra, rb, ha, hb, h, hu => by
    cases db with
    | tuple ys =>
      cases ra with
      | @tuple l o us n _ _ h1 h2 h3 h4 =>
        cases rb with
        | @tuple l' o' vs n' _ _ k1 k2 k3 k4 =>
          have n1 : us.size = xs.length := by simpa using ReadsAll.length _ _ _ h4
          have n2 : vs.size = ys.length := by simpa using ReadsAll.length _ _ _ k4
          rw [dataLt_tuple]
          refine lex_lt ⟨_, h1, h2, _, h3⟩ ⟨_, k1, k2, _, k3⟩ (room_here hu) ?_
          rw [n1, n2]
          exact cmps_lt xs ys A.in1 s us.toList vs.toList _ _ h4 k4 (by simpa only [PyData.plain] using ha) (by simpa only [PyData.plain] using hb) (by simpa only [cmpB] using h) (room_in hu)
    | _ => simp [cmpB, alike] at h
  | .none, _, _, _, _, _, _, _, _, _, _, _, h, _ => by simp [cmpB] at h
  | .bool x, db, A, s, a, b, as, bs, ra, rb, _, _, h, hu => rcLt_alike _ db A s a b as bs ra rb (by simpa only [cmpB] using h) nofun hu
  | .int x, db, A, s, a, b, as, bs, ra, rb, _, _, h, hu => rcLt_alike _ db A s a b as bs ra rb (by simpa only [cmpB] using h) nofun hu
  | .str x, db, A, s, a, b, as, bs, ra, rb, _, _, h, hu => rcLt_alike _ db A s a b as bs ra rb (by simpa only [cmpB] using h) nofun hu
  | .list x, db, A, s, a, b, as, bs, ra, rb, _, _, h, hu => rcLt_alike _ db A s a b as bs ra rb (by simpa only [cmpB] using h) nofun hu
  | .dict x, db, A, s, a, b, as, bs, ra, rb, ha, _, h, hu => nomatch ha
theorem cmps_lt : ∀ (xs ys : List PyData) (A : Around) (s : Shared) (us vs : List Value) (as bs : List Addr), ReadsAll s.heap us xs as → ReadsAll s.heap vs ys bs → PyData.plainAll xs = true → PyData.plainAll ys = true → cmpsB xs ys = true → A.units + min (PyData.depthAll xs) (PyData.depthAll ys) < cLine →
    LexA .Lt A s (decide (xs.length < ys.length)) (us.zip vs) (PyProof.Rows.lexLt itemOrd (keyToksAll xs) (keyToksAll ys))
  | [], [], A, s, us, vs, as, bs, ra, rb, _, _, _, _ => by
    cases ra; cases rb
    rw [lex_irrefl]
    exact .done
  | [], y :: ys, A, s, us, vs, as, bs, ra, rb, _, _, _, _ => by
    cases ra
    rw [toks_all_cons]
    simp only [keyToksAll]
    rw [lex_diff (O := itemOrd) (by simp)]
    rw [List.zip_nil_left]
    have e : ∀ k k' : Bool, k = k' → LexA .Lt A s k [] k' := fun k k' e => e ▸ .done
    exact e _ _ (by simp [itemLt])
  | x :: xs, [], A, s, us, vs, as, bs, ra, rb, _, _, _, _ => by
    cases rb
    rw [toks_all_cons]
    simp only [keyToksAll]
    rw [lex_diff (O := itemOrd) (by simp)]
    rw [List.zip_nil_right]
    have e : ∀ k k' : Bool, k = k' → LexA .Lt A s k [] k' := fun k k' e => e ▸ .done
    exact e _ _ (by simp [itemLt])
  | x :: xs, y :: ys, A, s, _, _, _, _, ra, rb, ha, hb, h, hu => by
    simp only [PyData.plainAll, Bool.and_eq_true] at ha hb
    simp only [cmpsB] at h
    cases ra with
    | cons r rs =>
      cases rb with
      | cons r' rs' =>
        rw [List.zip_cons_cons]
        have e1 : decide ((x :: xs).length < (y :: ys).length) = decide (xs.length < ys.length) := by
          rw [List.length_cons, List.length_cons]
          exact decide_eq_decide.mpr (by omega)
        rw [e1]
        have ea := eqAt_plain x y A s _ _ _ _ r r' ha.1 hb.1 (room_head hu)
        cases hx : PyData.eqv x y with
        | true =>
          rw [hx, if_pos rfl] at h
          rw [hx] at ea
          rw [lexs_yes hx]
          exact .same ea (cmps_lt xs ys A s _ _ _ _ rs rs' ha.2 hb.2 h (room_tail hu))
        | false =>
          rw [hx, if_neg Bool.false_ne_true] at h
          rw [hx] at ea
          rw [lexs_no h hx]
          exact .diff ea (cmp_lt x y A s _ _ _ _ r r' ha.1 hb.1 h (room_head hu))
end
mutual
theorem cmp_gt : ∀ (da db : PyData) (A : Around) (s : Shared) (a b : Value) (as bs : List Addr), Reads s.heap a da as → Reads s.heap b db bs → da.plain = true → db.plain = true → cmpB da db = true → A.units + min da.depth db.depth < cLine → RcOp .Gt A s a b (dataLt db da)
  | .tuple xs, db, A, s, a, b, as, bs, ra, rb, ha, hb, h, hu => by
    cases db with
    | tuple ys =>
      cases ra with
      | @tuple l o us n _ _ h1 h2 h3 h4 =>
        cases rb with
        | @tuple l' o' vs n' _ _ k1 k2 k3 k4 =>
          have n1 : us.size = xs.length := by simpa using ReadsAll.length _ _ _ h4
          have n2 : vs.size = ys.length := by simpa using ReadsAll.length _ _ _ k4
          rw [dataLt_tuple]
          refine lex_gt ⟨_, h1, h2, _, h3⟩ ⟨_, k1, k2, _, k3⟩ (room_here hu) ?_
          rw [n1, n2]
          exact cmps_gt xs ys A.in1 s us.toList vs.toList _ _ h4 k4 (by simpa only [PyData.plain] using ha) (by simpa only [PyData.plain] using hb) (by simpa only [cmpB] using h) (room_in hu)
    | _ => simp [cmpB, alike] at h
  | .none, _, _, _, _, _, _, _, _, _, _, _, h, _ => by simp [cmpB] at h
  | .bool x, db, A, s, a, b, as, bs, ra, rb, _, _, h, hu => rcGt_alike _ db A s a b as bs ra rb (by simpa only [cmpB] using h) nofun hu
  | .int x, db, A, s, a, b, as, bs, ra, rb, _, _, h, hu => rcGt_alike _ db A s a b as bs ra rb (by simpa only [cmpB] using h) nofun hu
  | .str x, db, A, s, a, b, as, bs, ra, rb, _, _, h, hu => rcGt_alike _ db A s a b as bs ra rb (by simpa only [cmpB] using h) nofun hu
  | .list x, db, A, s, a, b, as, bs, ra, rb, _, _, h, hu => rcGt_alike _ db A s a b as bs ra rb (by simpa only [cmpB] using h) nofun hu
  | .dict x, db, A, s, a, b, as, bs, ra, rb, ha, _, h, hu => nomatch ha
theorem cmps_gt : ∀ (xs ys : List PyData) (A : Around) (s : Shared) (us vs : List Value) (as bs : List Addr), ReadsAll s.heap us xs as → ReadsAll s.heap vs ys bs → PyData.plainAll xs = true → PyData.plainAll ys = true → cmpsB xs ys = true → A.units + min (PyData.depthAll xs) (PyData.depthAll ys) < cLine →
    LexA .Gt A s (decide (xs.length > ys.length)) (us.zip vs) (PyProof.Rows.lexLt itemOrd (keyToksAll ys) (keyToksAll xs))
  | [], [], A, s, us, vs, as, bs, ra, rb, _, _, _, _ => by
    cases ra; cases rb
    rw [lex_irrefl]
    exact .done
  | [], y :: ys, A, s, us, vs, as, bs, ra, rb, _, _, _, _ => by
    cases ra
    rw [toks_all_cons]
    simp only [keyToksAll]
    rw [lex_diff (O := itemOrd) (by simp)]
    rw [List.zip_nil_left]
    have e : ∀ k k' : Bool, k = k' → LexA .Gt A s k [] k' := fun k k' e => e ▸ .done
    exact e _ _ (by simp [itemLt])
  | x :: xs, [], A, s, us, vs, as, bs, ra, rb, _, _, _, _ => by
    cases rb
    rw [toks_all_cons]
    simp only [keyToksAll]
    rw [lex_diff (O := itemOrd) (by simp)]
    rw [List.zip_nil_right]
    have e : ∀ k k' : Bool, k = k' → LexA .Gt A s k [] k' := fun k k' e => e ▸ .done
    exact e _ _ (by simp [itemLt])
  | x :: xs, y :: ys, A, s, _, _, _, _, ra, rb, ha, hb, h, hu => by
    simp only [PyData.plainAll, Bool.and_eq_true] at ha hb
    simp only [cmpsB] at h
    cases ra with
    | cons r rs =>
      cases rb with
      | cons r' rs' =>
        rw [List.zip_cons_cons]
        have e1 : decide ((x :: xs).length > (y :: ys).length) = decide (xs.length > ys.length) := by
          rw [List.length_cons, List.length_cons]
          exact decide_eq_decide.mpr (by omega)
        rw [e1]
        have ea := eqAt_plain x y A s _ _ _ _ r r' ha.1 hb.1 (room_head hu)
        cases hx : PyData.eqv x y with
        | true =>
          rw [hx, if_pos rfl] at h
          rw [hx] at ea
          rw [lexs_yes (by rw [eqvS]; exact hx)]
          exact .same ea (cmps_gt xs ys A s _ _ _ _ rs rs' ha.2 hb.2 h (room_tail hu))
        | false =>
          rw [hx, if_neg Bool.false_ne_true] at h
          rw [hx] at ea
          rw [lexs_no (cmpS x y h hx) (by rw [eqvS]; exact hx)]
          exact .diff ea (cmp_gt x y A s _ _ _ _ r r' ha.1 hb.1 h (room_head hu))
end
mutual
theorem cmp_le : ∀ (da db : PyData) (A : Around) (s : Shared) (a b : Value) (as bs : List Addr), Reads s.heap a da as → Reads s.heap b db bs → da.plain = true → db.plain = true → cmpB da db = true → A.units + min da.depth db.depth < cLine → RcOp .LtE A s a b (!dataLt db da)
  | .tuple xs, db, A, s, a, b, as, bs, ra, rb, ha, hb, h, hu => by
    cases db with
    | tuple ys =>
      cases ra with
      | @tuple l o us n _ _ h1 h2 h3 h4 =>
        cases rb with
        | @tuple l' o' vs n' _ _ k1 k2 k3 k4 =>
          have n1 : us.size = xs.length := by simpa using ReadsAll.length _ _ _ h4
          have n2 : vs.size = ys.length := by simpa using ReadsAll.length _ _ _ k4
          rw [dataLt_tuple]
          refine lex_le ⟨_, h1, h2, _, h3⟩ ⟨_, k1, k2, _, k3⟩ (room_here hu) ?_
          rw [n1, n2]
          exact cmps_le xs ys A.in1 s us.toList vs.toList _ _ h4 k4 (by simpa only [PyData.plain] using ha) (by simpa only [PyData.plain] using hb) (by simpa only [cmpB] using h) (room_in hu)
    | _ => simp [cmpB, alike] at h
  | .none, _, _, _, _, _, _, _, _, _, _, _, h, _ => by simp [cmpB] at h
  | .bool x, db, A, s, a, b, as, bs, ra, rb, _, _, h, hu => rcLe_alike _ db A s a b as bs ra rb (by simpa only [cmpB] using h) nofun hu
  | .int x, db, A, s, a, b, as, bs, ra, rb, _, _, h, hu => rcLe_alike _ db A s a b as bs ra rb (by simpa only [cmpB] using h) nofun hu
  | .str x, db, A, s, a, b, as, bs, ra, rb, _, _, h, hu => rcLe_alike _ db A s a b as bs ra rb (by simpa only [cmpB] using h) nofun hu
  | .list x, db, A, s, a, b, as, bs, ra, rb, _, _, h, hu => rcLe_alike _ db A s a b as bs ra rb (by simpa only [cmpB] using h) nofun hu
  | .dict x, db, A, s, a, b, as, bs, ra, rb, ha, _, h, hu => nomatch ha
theorem cmps_le : ∀ (xs ys : List PyData) (A : Around) (s : Shared) (us vs : List Value) (as bs : List Addr), ReadsAll s.heap us xs as → ReadsAll s.heap vs ys bs → PyData.plainAll xs = true → PyData.plainAll ys = true → cmpsB xs ys = true → A.units + min (PyData.depthAll xs) (PyData.depthAll ys) < cLine →
    LexA .LtE A s (decide (xs.length ≤ ys.length)) (us.zip vs) (!PyProof.Rows.lexLt itemOrd (keyToksAll ys) (keyToksAll xs))
  | [], [], A, s, us, vs, as, bs, ra, rb, _, _, _, _ => by
    cases ra; cases rb
    rw [lex_irrefl]
    exact .done
  | [], y :: ys, A, s, us, vs, as, bs, ra, rb, _, _, _, _ => by
    cases ra
    rw [toks_all_cons]
    simp only [keyToksAll]
    rw [lex_diff (O := itemOrd) (by simp)]
    rw [List.zip_nil_left]
    have e : ∀ k k' : Bool, k = k' → LexA .LtE A s k [] k' := fun k k' e => e ▸ .done
    exact e _ _ (by simp [itemLt])
  | x :: xs, [], A, s, us, vs, as, bs, ra, rb, _, _, _, _ => by
    cases rb
    rw [toks_all_cons]
    simp only [keyToksAll]
    rw [lex_diff (O := itemOrd) (by simp)]
    rw [List.zip_nil_right]
    have e : ∀ k k' : Bool, k = k' → LexA .LtE A s k [] k' := fun k k' e => e ▸ .done
    exact e _ _ (by simp [itemLt])
  | x :: xs, y :: ys, A, s, _, _, _, _, ra, rb, ha, hb, h, hu => by
    simp only [PyData.plainAll, Bool.and_eq_true] at ha hb
    simp only [cmpsB] at h
    cases ra with
    | cons r rs =>
      cases rb with
      | cons r' rs' =>
        rw [List.zip_cons_cons]
        have e1 : decide ((x :: xs).length ≤ (y :: ys).length) = decide (xs.length ≤ ys.length) := by
          rw [List.length_cons, List.length_cons]
          exact decide_eq_decide.mpr (by omega)
        rw [e1]
        have ea := eqAt_plain x y A s _ _ _ _ r r' ha.1 hb.1 (room_head hu)
        cases hx : PyData.eqv x y with
        | true =>
          rw [hx, if_pos rfl] at h
          rw [hx] at ea
          rw [lexs_yes (by rw [eqvS]; exact hx)]
          exact .same ea (cmps_le xs ys A s _ _ _ _ rs rs' ha.2 hb.2 h (room_tail hu))
        | false =>
          rw [hx, if_neg Bool.false_ne_true] at h
          rw [hx] at ea
          rw [lexs_no (cmpS x y h hx) (by rw [eqvS]; exact hx)]
          exact .diff ea (cmp_le x y A s _ _ _ _ r r' ha.1 hb.1 h (room_head hu))
end
mutual
theorem cmp_ge : ∀ (da db : PyData) (A : Around) (s : Shared) (a b : Value) (as bs : List Addr), Reads s.heap a da as → Reads s.heap b db bs → da.plain = true → db.plain = true → cmpB da db = true → A.units + min da.depth db.depth < cLine → RcOp .GtE A s a b (!dataLt da db)
  | .tuple xs, db, A, s, a, b, as, bs, ra, rb, ha, hb, h, hu => by
    cases db with
    | tuple ys =>
      cases ra with
      | @tuple l o us n _ _ h1 h2 h3 h4 =>
        cases rb with
        | @tuple l' o' vs n' _ _ k1 k2 k3 k4 =>
          have n1 : us.size = xs.length := by simpa using ReadsAll.length _ _ _ h4
          have n2 : vs.size = ys.length := by simpa using ReadsAll.length _ _ _ k4
          rw [dataLt_tuple]
          refine lex_ge ⟨_, h1, h2, _, h3⟩ ⟨_, k1, k2, _, k3⟩ (room_here hu) ?_
          rw [n1, n2]
          exact cmps_ge xs ys A.in1 s us.toList vs.toList _ _ h4 k4 (by simpa only [PyData.plain] using ha) (by simpa only [PyData.plain] using hb) (by simpa only [cmpB] using h) (room_in hu)
    | _ => simp [cmpB, alike] at h
  | .none, _, _, _, _, _, _, _, _, _, _, _, h, _ => by simp [cmpB] at h
  | .bool x, db, A, s, a, b, as, bs, ra, rb, _, _, h, hu => rcGe_alike _ db A s a b as bs ra rb (by simpa only [cmpB] using h) nofun hu
  | .int x, db, A, s, a, b, as, bs, ra, rb, _, _, h, hu => rcGe_alike _ db A s a b as bs ra rb (by simpa only [cmpB] using h) nofun hu
  | .str x, db, A, s, a, b, as, bs, ra, rb, _, _, h, hu => rcGe_alike _ db A s a b as bs ra rb (by simpa only [cmpB] using h) nofun hu
  | .list x, db, A, s, a, b, as, bs, ra, rb, _, _, h, hu => rcGe_alike _ db A s a b as bs ra rb (by simpa only [cmpB] using h) nofun hu
  | .dict x, db, A, s, a, b, as, bs, ra, rb, ha, _, h, hu => nomatch ha
theorem cmps_ge : ∀ (xs ys : List PyData) (A : Around) (s : Shared) (us vs : List Value) (as bs : List Addr), ReadsAll s.heap us xs as → ReadsAll s.heap vs ys bs → PyData.plainAll xs = true → PyData.plainAll ys = true → cmpsB xs ys = true → A.units + min (PyData.depthAll xs) (PyData.depthAll ys) < cLine →
    LexA .GtE A s (decide (xs.length ≥ ys.length)) (us.zip vs) (!PyProof.Rows.lexLt itemOrd (keyToksAll xs) (keyToksAll ys))
  | [], [], A, s, us, vs, as, bs, ra, rb, _, _, _, _ => by
    cases ra; cases rb
    rw [lex_irrefl]
    exact .done
  | [], y :: ys, A, s, us, vs, as, bs, ra, rb, _, _, _, _ => by
    cases ra
    rw [toks_all_cons]
    simp only [keyToksAll]
    rw [lex_diff (O := itemOrd) (by simp)]
    rw [List.zip_nil_left]
    have e : ∀ k k' : Bool, k = k' → LexA .GtE A s k [] k' := fun k k' e => e ▸ .done
    exact e _ _ (by simp [itemLt])
  | x :: xs, [], A, s, us, vs, as, bs, ra, rb, _, _, _, _ => by
    cases rb
    rw [toks_all_cons]
    simp only [keyToksAll]
    rw [lex_diff (O := itemOrd) (by simp)]
    rw [List.zip_nil_right]
    have e : ∀ k k' : Bool, k = k' → LexA .GtE A s k [] k' := fun k k' e => e ▸ .done
    exact e _ _ (by simp [itemLt])
  | x :: xs, y :: ys, A, s, _, _, _, _, ra, rb, ha, hb, h, hu => by
    simp only [PyData.plainAll, Bool.and_eq_true] at ha hb
    simp only [cmpsB] at h
    cases ra with
    | cons r rs =>
      cases rb with
      | cons r' rs' =>
        rw [List.zip_cons_cons]
        have e1 : decide ((x :: xs).length ≥ (y :: ys).length) = decide (xs.length ≥ ys.length) := by
          rw [List.length_cons, List.length_cons]
          exact decide_eq_decide.mpr (by omega)
        rw [e1]
        have ea := eqAt_plain x y A s _ _ _ _ r r' ha.1 hb.1 (room_head hu)
        cases hx : PyData.eqv x y with
        | true =>
          rw [hx, if_pos rfl] at h
          rw [hx] at ea
          rw [lexs_yes hx]
          exact .same ea (cmps_ge xs ys A s _ _ _ _ rs rs' ha.2 hb.2 h (room_tail hu))
        | false =>
          rw [hx, if_neg Bool.false_ne_true] at h
          rw [hx] at ea
          rw [lexs_no h hx]
          exact .diff ea (cmp_ge x y A s _ _ _ _ r r' ha.1 hb.1 h (room_head hu))
end
end EV
end
section
set_option Elab.async false
set_option linter.all false
set_option maxRecDepth 100000
/-! Ev74: <, >, <=, >= of data that can be ordered up to the first place that differs, as the evaluator has them. -/
namespace EV
open PySem PySem.Spec PyProof.Rows L2
def fD : Cop → PyData → PyData → Bool
  | .lt => ltD
  | .le => leD
  | .gt => gtD
  | .ge => geD
  | _ => fun _ _ => false
def isOrd : Cop → Bool
  | .lt => true
  | .le => true
  | .gt => true
  | .ge => true
  | _ => false
def cmpD (o : Cop) (G : GH) (x y : PV) : Res PV := match toDG G x, toDG G y with
  | some d, some e => if (isOrd o && (cmpB d e && (d.plain && (e.plain && decide (d.depth ≤ 60))))) = true then .ok (.bl (fD o d e)) G else .bad
  | _, _ => .bad
def cmpM (o : Cop) (ps : List PV) (G : GH) : Res PV := match o.f ps G with
  | .bad => match ps with
    | [x, y] => cmpD o G x y
    | _ => .bad
  | r => r
theorem cmp_fD {o : Cop} (ho : isOrd o = true) {da db : PyData} {A : Around} {s : Shared} {a b : Value} {as bs : List Addr} (ra : PySem.Reads s.heap a da as) (rb : PySem.Reads s.heap b db bs) (ha : da.plain = true) (hb : db.plain = true) (h : cmpB da db = true) (hu : A.units + min da.depth db.depth < cLine) : SeqAt.RcOp o.op A s a b (fD o da db) := by
  cases o with
  | lt => exact cmp_lt da db A s a b as bs ra rb ha hb h hu
  | le => exact cmp_le da db A s a b as bs ra rb ha hb h hu
  | gt => exact cmp_gt da db A s a b as bs ra rb ha hb h hu
  | ge => exact cmp_ge da db A s a b as bs ra rb ha hb h hu
  | _ => cases ho
theorem ord_op {o : Cop} (ho : isOrd o = true) : compareOp o.op = richCompare o.op := by
  cases o <;> first | (cases ho; done) | rfl
section
variable {X : Cx} {F : Fx} {Ex : XK} {n : Nat}
theorem cmpM_ok (g : GX X F Ex n) (o : Cop) : OpR X (compareOp o.op) (OpV F Ex (cmpM o)) := by
  intro pins s σ H x y v u Q I rx ry ⟨μ, ps, G, r, gr, p⟩
  unfold cmpM at p
  cases e : o.f ps G with
  | ok a G1 =>
    rw [e] at p
    exact o.ok g pins s σ H x y v u Q I rx ry ⟨μ, ps, G, r, gr, by rw [e]; exact p⟩
  | exc c fs G1 =>
    rw [e] at p
    exact o.ok g pins s σ H x y v u Q I rx ry ⟨μ, ps, G, r, gr, by rw [e]; exact p⟩
  | bad =>
    rw [e] at p
    dsimp only at p
    split at p
    · obtain ⟨x', y', e', r1, r2⟩ := Reps.two_inv r
      cases e'
      unfold cmpD at p
      split at p
      · rename_i d e e1 e2
        split at p
        · rename_i hc
          simp only [Bool.and_eq_true, decide_eq_true_eq] at hc
          obtain ⟨ho, hc, h1, h2, h3⟩ := hc
          obtain ⟨as, q1⟩ := Dp.reads I d x v (by rw [← g.K]; exact toDG_dp e1 r1 gr) rx
          obtain ⟨bs, q2⟩ := Dp.reads I e y u (by rw [← g.K]; exact toDG_dp e2 r2 gr) ry
          have un : X.A.units + 64 < cLine := g.un
          rw [ord_op ho]
          exact cmp_fD ho q1 q2 h1 h2 hc (by omega) _ _ _ _ ⟨.bl _, H, I, rfl, p.here RV.bl gr⟩
        · exact (show False from p).elim
      · exact (show False from p).elim
    · exact (show False from p).elim
variable {a b : Expr} {pos : Pos} {ma mb : EV.Env → GH → Res PV}
theorem gcmpM (g : GX X F Ex n) (o : Cop) (ha : PE X a (TEv F Ex ma)) (hb : PE X b (TEv F Ex mb)) (hm : behindInMarks o.op b = false := by kernel_rfl) : PE X (.Compare a [o.op] [b] pos) (TEv F Ex (m2 ma mb (cmpM o))) := ev_cmp (cmpM_ok g o) ha hb hm
end
end EV
end
section
/-! printed by gen.py: the defs of the law, as the evaluator has them, and that they compute so. -/
set_option Elab.async false
set_option linter.all false
set_option maxRecDepth 100000
set_option maxHeartbeats 4000000
namespace K33
open PySem PySem.Spec PyProof.Rows L2 EV
/-- ask_so(truth, word, at) -/
def N_ask_so : List Str := ["truth", "word", "at"]
def b_ask_so (f__gate : List PV → GH → Res PV) : EV.Env → GH → Res Fl := sSeq (sIf (mtNot (mT (mVar 0))) (sSeq (sRaise (gateB (f__gate [] [])) 0 ["word", "at"] (mCons (mVar 1) (mCons (mVar 2) (mNil)))) (sNext)) (sNext)) (sNext)
/-- is_key(thing) -/
def N_is_key : List Str := ["thing"]
def b_is_key (f_is_number : List PV → GH → Res PV) : EV.Env → GH → Res Fl := sSeq (sIf (mtOr (mtNot (mT (m1 (mVar 0) (bIsi "tuple")))) (mtOr (mB (m2 (mA (mCons (mVar 0) (mNil)) bLen) (mCst (.int 2)) (Cop.f .ne))) (mtNot (mT (mA (mCons (m2 (mVar 0) (mCst (.int 0)) opIx) (mNil)) f_is_number))))) (sSeq (sRet (mCst (.bl false))) (sNext)) (sNext)) (sSeq (sIf (mB (m2 (m2 (mVar 0) (mCst (.int 0)) opIx) (mCst (.int 0)) (Cop.f .eq))) (sSeq (sRet (m1 (m2 (mVar 0) (mCst (.int 1)) opIx) (bIsi "bool"))) (sNext)) (sNext)) (sSeq (sRet (mIf (mB (m2 (m2 (mVar 0) (mCst (.int 0)) opIx) (mCst (.int 1)) (Cop.f .eq))) (mA (mCons (m2 (mVar 0) (mCst (.int 1)) opIx) (mNil)) f_is_number) (mAnd (m2 (m2 (mVar 0) (mCst (.int 0)) opIx) (mCst (.int 2)) (Cop.f .eq)) (m1 (m2 (mVar 0) (mCst (.int 1)) opIx) (bIsi "str"))))) (sNext)))
/-- conjuncts_of(test) -/
def N_conjuncts_of : List Str := ["test", "found", "one"]
def b_conjuncts_of (f_conjuncts_of : List PV → GH → Res PV) : EV.Env → GH → Res Fl := sSeq (sAsg (mA (mCons (mVar 0) (mNil)) mkObj) (gN 1)) (sSeq (sIf (mB (m2 (m2 (mVar 0) (mCst (.int 0)) opIx) (mCst (.str "and")) (Cop.f .eq))) (sSeq (sFor (mSeq (m2 (mVar 0) (mCst (.int 1)) opIx)) (gN 2) (sSeq (sDrop (mMet "list" (mVar 1) (mCons (mA (mCons (mVar 2) (mNil)) f_conjuncts_of) (mNil)) fExtend)) (sNext))) (sNext)) (sNext)) (sSeq (sRet (mVar 1)) (sNext)))
/-- are_same(one, other) -/
def N_are_same : List Str := ["one", "other"]
def b_are_same : EV.Env → GH → Res Fl := sSeq (sRet (m2 (mA (mCons (mVar 0) (mNil)) bRepr) (mA (mCons (mVar 1) (mNil)) bRepr) (Cop.f .eq))) (sNext)
/-- test_let(index, conjuncts) -/
def N_test_let : List Str := ["index", "conjuncts", "one"]
def b_test_let (f_are_same : List PV → GH → Res PV) : EV.Env → GH → Res Fl := sSeq (sRet (mOr (m2 (m2 (mVar 0) (mCst (.int 3)) opIx) (mCst .non) (Cop.f .is)) (mA (mCons (mComp false (mSeq (mVar 1)) (gN 2) (mYes) (mA (mCons (m2 (mVar 0) (mCst (.int 3)) opIx) (mCons (mVar 2) (mNil))) f_are_same) [2]) (mNil)) bAny))) (sNext)
/-- bounds_of(conjunct) -/
def N_bounds_of : List Str := ["conjunct", "key"]
def b_bounds_of (f_is_plain f_key_of : List PV → GH → Res PV) : EV.Env → GH → Res Fl := sSeq (sIf (mtOr (mB (m2 (m2 (mVar 0) (mCst (.int 0)) opIx) (mCst (.tup [.str "like", .str "below", .str "above"])) (Cop.f .notin))) (mtNot (mT (mA (mCons (m2 (mVar 0) (mCst (.int 2)) opIx) (mNil)) f_is_plain)))) (sSeq (sRet (mCst .non)) (sNext)) (sNext)) (sSeq (sAsg (mA (mCons (m2 (mVar 0) (mCst (.int 2)) opIx) (mNil)) f_key_of) (gN 1)) (sSeq (sIf (mB (m2 (m2 (mVar 0) (mCst (.int 0)) opIx) (mCst (.str "like")) (Cop.f .eq))) (sSeq (sRet (mA (mCons (mVar 1) (mCons (mVar 1) (mNil))) mkTup)) (sNext)) (sNext)) (sSeq (sRet (mIf (mB (m2 (m2 (mVar 0) (mCst (.int 0)) opIx) (mCst (.str "below")) (Cop.f .eq))) (mA (mCons (mCst .non) (mCons (mVar 1) (mNil))) mkTup) (mA (mCons (mVar 1) (mCons (mCst .non) (mNil))) mkTup))) (sNext))))
/-- bounding_of(index, conjuncts) -/
def N_bounding_of : List Str := ["index", "conjuncts", "found", "one"]
def b_bounding_of (f_are_same f_bounds_of : List PV → GH → Res PV) : EV.Env → GH → Res Fl := sSeq (sAsg (mA (mNil) mkObj) (gN 2)) (sSeq (sFor (mSeq (mVar 1)) (gN 3) (sSeq (sIf (mtAnd (mB (m2 (m2 (mVar 3) (mCst (.int 0)) opIx) (mCst (.tup [.str "like", .str "below", .str "above"])) (Cop.f .in_))) (mtAnd (mT (mA (mCons (m2 (mVar 3) (mCst (.int 1)) opIx) (mCons (m2 (mVar 0) (mCst (.int 1)) opIx) (mNil))) f_are_same)) (mB (m2 (mA (mCons (mVar 3) (mNil)) f_bounds_of) (mCst .non) (Cop.f .isnot))))) (sSeq (sDrop (mMet "list" (mVar 2) (mCons (mVar 3) (mNil)) fAppend)) (sNext)) (sNext)) (sNext))) (sSeq (sRet (mVar 2)) (sNext)))
/-- is_plan(thing) -/
def N_is_plan : List Str := ["thing", "word", "rest", "one"]
def b_is_plan (f_is_key f_is_word : List PV → GH → Res PV) : EV.Env → GH → Res Fl := sSeq (sIf (mtOr (mtNot (mT (m1 (mVar 0) (bIsi "tuple")))) (mtOr (mB (m2 (mVar 0) (mA (mNil) mkTup) (Cop.f .eq))) (mtNot (mT (m1 (m2 (mVar 0) (mCst (.int 0)) opIx) (bIsi "str")))))) (sSeq (sRet (mCst (.bl false))) (sNext)) (sNext)) (sSeq (sAsg (mVar 0) (gStarE 1 (gConsE (gN 1) (gConsE (gN 2) gNilE)))) (sSeq (sIf (mB (m2 (mVar 1) (mCst (.str "all")) (Cop.f .eq))) (sSeq (sRet (m2 (mVar 2) (mA (mNil) mkLst) (Cop.f .eq))) (sNext)) (sNext)) (sSeq (sIf (mtOr (mB (m2 (mVar 1) (mCst (.str "index")) (Cop.f .ne))) (mtOr (mB (m2 (mA (mCons (mVar 2) (mNil)) bLen) (mCst (.int 3)) (Cop.f .ne))) (mtNot (mT (mA (mCons (m2 (mVar 2) (mCst (.int 0)) opIx) (mNil)) f_is_word))))) (sSeq (sRet (mCst (.bl false))) (sNext)) (sNext)) (sSeq (sRet (mA (mCons (mComp false (mSeq (mSl (mVar 2) (mPart (mCst (.int 1))) (mNoPart) opSl)) (gN 3) (mYes) (mOr (m2 (mVar 3) (mCst .non) (Cop.f .is)) (mA (mCons (mVar 3) (mNil)) f_is_key)) [3]) (mNil)) bAll)) (sNext)))))
/-- are_wide(conjunct, low, high) -/
def N_are_wide : List Str := ["conjunct", "low", "high", "key", "word", "path", "plain"]
def b_are_wide (f_key_of : List PV → GH → Res PV) : EV.Env → GH → Res Fl := sSeq (sAsg (mVar 0) (gTupE 3 (gConsE (gN 4) (gConsE (gN 5) (gConsE (gN 6) (gNilE)))))) (sSeq (sAsg (mA (mCons (mVar 6) (mNil)) f_key_of) (gN 3)) (sSeq (sIf (mB (m2 (mVar 4) (mCst (.str "like")) (Cop.f .eq))) (sSeq (sRet (mAnd (mOr (m2 (mVar 1) (mCst .non) (Cop.f .is)) (m2 (mVar 1) (mVar 3) (cmpM .le))) (mOr (m2 (mVar 2) (mCst .non) (Cop.f .is)) (m2 (mVar 3) (mVar 2) (cmpM .le))))) (sNext)) (sNext)) (sSeq (sIf (mB (m2 (mVar 4) (mCst (.str "below")) (Cop.f .eq))) (sSeq (sRet (mAnd (mOr (m2 (mVar 1) (mCst .non) (Cop.f .is)) (m2 (m2 (mVar 1) (mCst (.int 0)) opIx) (m2 (mVar 3) (mCst (.int 0)) opIx) (cmpM .lt))) (mOr (m2 (mVar 2) (mCst .non) (Cop.f .is)) (m2 (mVar 3) (mVar 2) (cmpM .le))))) (sNext)) (sNext)) (sSeq (sRet (mAnd (mOr (m2 (mVar 1) (mCst .non) (Cop.f .is)) (m2 (mVar 1) (mVar 3) (cmpM .le))) (mOr (m2 (mVar 2) (mCst .non) (Cop.f .is)) (m2 (m2 (mVar 2) (mCst (.int 0)) opIx) (m2 (mVar 3) (mCst (.int 0)) opIx) (cmpM .gt))))) (sNext)))))
/-- lets_plan(stands, test, thing) -/
def N_lets_plan : List Str := ["stands", "test", "thing", "some", "conjuncts", "word", "name", "low", "high", "rest", "index", "one"]
def b_lets_plan (f_are_wide f_ask_so f_bounding_of f_conjuncts_of f_is_plan f_test_let : List PV → GH → Res PV) : EV.Env → GH → Res Fl := sSeq (sDrop (mA (mCons (mA (mCons (mVar 2) (mNil)) f_is_plan) (mCons (mCst (.str "shape")) (mCons (m1 (mCst (.int 1)) opNeg) (mNil)))) f_ask_so)) (sSeq (sAsg (mVar 2) (gStarE 1 (gConsE (gN 5) (gConsE (gN 9) gNilE)))) (sSeq (sIf (mB (m2 (mVar 5) (mCst (.str "all")) (Cop.f .eq))) (sSeq (sRet (mCst (.bl true))) (sNext)) (sNext)) (sSeq (sAsg (mVar 9) (gTupE 3 (gConsE (gN 6) (gConsE (gN 7) (gConsE (gN 8) (gNilE)))))) (sSeq (sAsg (mComp false (mSeq (m2 (mVar 0) (mCst (.int 1)) opIx)) (gN 10) (mB (m2 (m2 (mVar 10) (mCst (.int 0)) opIx) (mVar 6) (Cop.f .eq))) (mVar 10) [10]) (gN 3)) (sSeq (sDrop (mA (mCons (m2 (mVar 3) (mA (mNil) mkLst) (Cop.f .ne)) (mCons (mCst (.str "name")) (mCons (m1 (mCst (.int 1)) opNeg) (mNil)))) f_ask_so)) (sSeq (sAsg (mA (mCons (mVar 1) (mNil)) f_conjuncts_of) (gN 4)) (sSeq (sDrop (mA (mCons (mA (mCons (m2 (mVar 3) (mCst (.int 0)) opIx) (mCons (mVar 4) (mNil))) f_test_let) (mCons (mCst (.str "test")) (mCons (m1 (mCst (.int 1)) opNeg) (mNil)))) f_ask_so)) (sSeq (sDrop (mA (mCons (mA (mCons (mComp false (mSeq (mA (mCons (m2 (mVar 3) (mCst (.int 0)) opIx) (mCons (mVar 4) (mNil))) f_bounding_of)) (gN 11) (mYes) (mA (mCons (mVar 11) (mCons (mVar 7) (mCons (mVar 8) (mNil)))) f_are_wide) [11]) (mNil)) bAny) (mCons (mCst (.str "bounds")) (mCons (m1 (mCst (.int 1)) opNeg) (mNil)))) f_ask_so)) (sSeq (sRet (mCst (.bl true))) (sNext))))))))))
/-- _law_sign(_law_plain_here) -/
def N__law_sign : List Str := ["_law_plain_here"]
def b__law_sign : EV.Env → GH → Res Fl := sSeq (sIf (mT (m1 (mVar 0) (bIsi "bool"))) (sSeq (sRet (mA (mCons (mCst (.int 0)) (mCons (mVar 0) (mNil))) mkTup)) (sNext)) (sNext)) (sSeq (sRet (mIf (mT (m1 (mVar 0) (bIsi "str"))) (mA (mCons (mCst (.int 2)) (mCons (mVar 0) (mNil))) mkTup) (mA (mCons (mCst (.int 1)) (mCons (mVar 0) (mNil))) mkTup))) (sNext))
def N__law_told : List Str := ["_law_ask", "_law_found", "e", "_law_some", "_law_others"]
def su25_0_0 : SuE := fun fs => sSeq (sAsg (mA (mCons (mCst (.bl true)) (mCons (mCst (.bl false)) (mCons (mCst (.bl false)) (mNil)))) mkLst) (gN 3)) (sSeq (sAsg (m2 (mVar 3) (mA (mCons (mCst (.bl false)) (mCons (mCst (.bl false)) (mCons (mCst (.bl false)) (mNil)))) mkLst) opAdd) (gN 3)) (sSeq (sAsg (mCst (.bl false)) (gN 4)) (sSeq (sIf (mtOr (mT (mVar 4)) (mtOr (mB (m2 (mMet "list" (mVar 3) (mCons (mCst (.bl true)) mNil) fCntB) (mCst (.int 1)) (Cop.f .ne))) (mB (m2 (mCst (.bl true)) (mCst (.bl false)) (Cop.f .eq))))) (sSeq (sAsg (fun _ _ => .bad) (gN 3)) (sNext)) (sNext)) (sSeq (sIf (mtAnd (mB (m2 (mCst (.bl true)) (mSl (mVar 3) (mNoPart) (mPart (mCst (.int 3))) opSl) opIn)) (mT (mCst (.bl true)))) (sSeq (sAsg (mIf (mT (m2 (mVar 3) (mCst (.int 0)) opIx)) (mA (mCons (mCst (.str "paper")) (mCons (mFld fs "word") (mCons (mFld fs "at") (mNil)))) mkLst) (mIf (mT (m2 (mVar 3) (mCst (.int 1)) opIx)) (mA (mCons (mCst (.str "key")) (mCons (fun _ _ => .bad) (mCons (fun _ _ => .bad) (mNil)))) mkLst) (mVar 1))) (gN 1)) (sSeq (sAsg (mIf (mT (m2 (mVar 3) (mCst (.int 2)) opIx)) (mA (mCons (mCst (.str "lead")) (mCons (fun _ _ => .bad) (mCons (fun _ _ => .bad) (mNil)))) mkLst) (mVar 1)) (gN 1)) (sNext))) (sNext)) (sSeq (sIf (mtAnd (mB (m2 (mCst (.bl true)) (mSl (mVar 3) (mPart (mCst (.int 3))) (mNoPart) opSl) opIn)) (mT (mCst (.bl false)))) (sSeq (sAsg (mIf (mT (m2 (mVar 3) (mCst (.int 3)) opIx)) (mA (mCons (mCst (.str "id")) (mCons (fun _ _ => .bad) (mNil))) mkLst) (mIf (mT (m2 (mVar 3) (mCst (.int 4)) opIx)) (mA (mCons (mCst (.str "mark")) (mCons (fun _ _ => .bad) (mNil))) mkLst) (mA (mCons (mCst (.str "name")) (mCons (fun _ _ => .bad) (mNil))) mkLst))) (gN 1)) (sNext)) (sNext)) (sNext))))))
def th25 : List TlH := [(1, [true], [su25_0_0]), (2, [false], [su25_0_0])]
/-- _law_conjuncts(_law_wish_here) -/
def N__law_conjuncts : List Str := ["_law_wish_here", "_law_found", "_law_one"]
def b__law_conjuncts (f__law_conjuncts : List PV → GH → Res PV) : EV.Env → GH → Res Fl := sSeq (sAsg (mA (mCons (mVar 0) (mNil)) mkLst) (gN 1)) (sSeq (sFor (mSeq (mIf (mB (m2 (m2 (mVar 0) (mCst (.int 0)) opIx) (mCst (.str "and")) (Cop.f .eq))) (m2 (mVar 0) (mCst (.int 1)) opIx) (mA (mNil) mkTup))) (gN 2) (sSeq (sAsg (m2 (mVar 1) (mA (mCons (mVar 2) (mNil)) f__law_conjuncts) opAdd) (gN 1)) (sNext))) (sSeq (sRet (mVar 1)) (sNext)))
/-- _law_is_sign(_law_what) -/
def N__law_is_sign : List Str := ["_law_what"]
def b__law_is_sign : EV.Env → GH → Res Fl := sSeq (sIf (mtOr (mtNot (mT (m1 (mVar 0) (bIsi "tuple")))) (mtOr (mB (m2 (mA (mCons (mVar 0) (mNil)) bLen) (mCst (.int 2)) (Cop.f .ne))) (mtOr (mtNot (mT (m1 (m2 (mVar 0) (mCst (.int 0)) opIx) (bIsi "int")))) (mT (m1 (m2 (mVar 0) (mCst (.int 0)) opIx) (bIsi "bool")))))) (sSeq (sRet (mCst (.bl false))) (sNext)) (sNext)) (sSeq (sIf (mB (m2 (m2 (mVar 0) (mCst (.int 0)) opIx) (mCst (.int 0)) (Cop.f .eq))) (sSeq (sRet (m1 (m2 (mVar 0) (mCst (.int 1)) opIx) (bIsi "bool"))) (sNext)) (sNext)) (sSeq (sIf (mB (m2 (m2 (mVar 0) (mCst (.int 0)) opIx) (mCst (.int 1)) (Cop.f .eq))) (sSeq (sRet (mAnd (m1 (m2 (mVar 0) (mCst (.int 1)) opIx) (bIsi "int")) (mNot (m1 (m2 (mVar 0) (mCst (.int 1)) opIx) (bIsi "bool"))))) (sNext)) (sNext)) (sSeq (sRet (mAnd (m2 (m2 (mVar 0) (mCst (.int 0)) opIx) (mCst (.int 2)) (Cop.f .eq)) (m1 (m2 (mVar 0) (mCst (.int 1)) opIx) (bIsi "str")))) (sNext))))
/-- _law_is_road(_law_what) -/
def N__law_is_road : List Str := ["_law_what", "_law_letter", "_law_one"]
def b__law_is_road (f__law_is_sign : List PV → GH → Res PV) : EV.Env → GH → Res Fl := sSeq (sIf (mtOr (mtNot (mT (m1 (mVar 0) (bIsi "tuple")))) (mtOr (mB (m2 (mVar 0) (mA (mNil) mkTup) (Cop.f .eq))) (mtNot (mT (m1 (m2 (mVar 0) (mCst (.int 0)) opIx) (bIsi "str")))))) (sSeq (sRet (mCst (.bl false))) (sNext)) (sNext)) (sSeq (sIf (mB (m2 (m2 (mVar 0) (mCst (.int 0)) opIx) (mCst (.str "all")) (Cop.f .eq))) (sSeq (sRet (m2 (mA (mCons (mVar 0) (mNil)) bLen) (mCst (.int 1)) (Cop.f .eq))) (sNext)) (sNext)) (sSeq (sIf (mtOr (mB (m2 (m2 (mVar 0) (mCst (.int 0)) opIx) (mCst (.str "index")) (Cop.f .ne))) (mtOr (mB (m2 (mA (mCons (mVar 0) (mNil)) bLen) (mCst (.int 4)) (Cop.f .ne))) (mtOr (mtNot (mT (m1 (m2 (mVar 0) (mCst (.int 1)) opIx) (bIsi "str")))) (mtNot (mB (m3c (mCst (.int 1)) (mA (mCons (m2 (mVar 0) (mCst (.int 1)) opIx) (mNil)) bLen) (mCst (.int 8)) (Cop.f .le) (Cop.f .le))))))) (sSeq (sRet (mCst (.bl false))) (sNext)) (sNext)) (sSeq (sIf (mB (m2 (mComp false (mSeq (m2 (mVar 0) (mCst (.int 1)) opIx)) (gN 1) (mtNot (mB (m3c (mCst (.str "a")) (mVar 1) (mCst (.str "z")) (Cop.f .le) (Cop.f .le)))) (mVar 1) [1]) (mA (mNil) mkLst) (Cop.f .ne))) (sSeq (sRet (mCst (.bl false))) (sNext)) (sNext)) (sSeq (sRet (m2 (mComp false (mSeq (mSl (mVar 0) (mPart (mCst (.int 2))) (mNoPart) opSl)) (gN 2) (mtAnd (mB (m2 (mVar 2) (mCst .non) (Cop.f .isnot))) (mtNot (mT (mA (mCons (mVar 2) (mNil)) f__law_is_sign)))) (mVar 2) [2]) (mA (mNil) mkLst) (Cop.f .eq))) (sNext)))))
/-- _law_goes_by(_law_one, _law_route_here) -/
def N__law_goes_by : List Str := ["_law_one", "_law_route_here"]
def b__law_goes_by : EV.Env → GH → Res Fl := sSeq (sIf (mtOr (mB (m2 (m2 (mVar 0) (mCst (.int 0)) opIx) (mA (mCons (mCst (.str "like")) (mCons (mCst (.str "below")) (mCons (mCst (.str "above")) (mNil)))) mkTup) (Cop.f .notin))) (mT (m1 (m2 (mVar 0) (mCst (.int 2)) opIx) (bIsi "tuple")))) (sSeq (sRet (mCst (.bl false))) (sNext)) (sNext)) (sSeq (sRet (m2 (mA (mCons (m2 (mVar 0) (mCst (.int 1)) opIx) (mNil)) bRepr) (mA (mCons (mVar 1) (mNil)) bRepr) (Cop.f .eq))) (sNext))
/-- _law_lets(_law_one, _law_low, _law_high) -/
def N__law_lets : List Str := ["_law_one", "_law_low", "_law_high", "_law_sign_here"]
def b__law_lets (f__law_sign : List PV → GH → Res PV) : EV.Env → GH → Res Fl := sSeq (sAsg (mA (mCons (m2 (mVar 0) (mCst (.int 2)) opIx) (mNil)) f__law_sign) (gN 3)) (sSeq (sIf (mB (m2 (m2 (mVar 0) (mCst (.int 0)) opIx) (mCst (.str "like")) (Cop.f .eq))) (sSeq (sRet (mAnd (mOr (m2 (mVar 1) (mCst .non) (Cop.f .is)) (m2 (mVar 1) (mVar 3) (cmpM .le))) (mOr (m2 (mVar 2) (mCst .non) (Cop.f .is)) (m2 (mVar 2) (mVar 3) (cmpM .ge))))) (sNext)) (sNext)) (sSeq (sIf (mB (m2 (m2 (mVar 0) (mCst (.int 0)) opIx) (mCst (.str "below")) (Cop.f .eq))) (sSeq (sRet (mAnd (mOr (m2 (mVar 1) (mCst .non) (Cop.f .is)) (m2 (m2 (mVar 1) (mCst (.int 0)) opIx) (m2 (mVar 3) (mCst (.int 0)) opIx) (cmpM .lt))) (mOr (m2 (mVar 2) (mCst .non) (Cop.f .is)) (m2 (mVar 2) (mVar 3) (cmpM .ge))))) (sNext)) (sNext)) (sSeq (sRet (mAnd (mOr (m2 (mVar 1) (mCst .non) (Cop.f .is)) (m2 (mVar 1) (mVar 3) (cmpM .le))) (mOr (m2 (mVar 2) (mCst .non) (Cop.f .is)) (m2 (m2 (mVar 2) (mCst (.int 0)) opIx) (m2 (mVar 3) (mCst (.int 0)) opIx) (cmpM .gt))))) (sNext))))
/-- _law_due(_law_folder, _law_wish_here, _law_what) -/
def N__law_due : List Str := ["_law_folder", "_law_wish_here", "_law_what", "_law_slates", "_law_parts", "_law_one", "_law_slate_here"]
def b__law_due (f__law_conjuncts f__law_goes_by f__law_is_road f__law_lets : List PV → GH → Res PV) : EV.Env → GH → Res Fl := sSeq (sIf (mtNot (mT (mA (mCons (mVar 2) (mNil)) f__law_is_road))) (sSeq (sRet (mA (mCons (mCst (.str "paper")) (mCons (mCst (.str "shape")) (mCons (m1 (mCst (.int 1)) opNeg) (mNil)))) mkLst)) (sNext)) (sNext)) (sSeq (sIf (mB (m2 (m2 (mVar 2) (mCst (.int 0)) opIx) (mCst (.str "all")) (Cop.f .eq))) (sSeq (sRet (mA (mCons (mCst (.str "told")) (mCons (mCst (.bl true)) (mNil))) mkLst)) (sNext)) (sNext)) (sSeq (sAsg (mComp false (mSeq (m2 (mVar 0) (mCst (.int 1)) opIx)) (gN 6) (mB (m2 (m2 (mVar 6) (mCst (.int 0)) opIx) (m2 (mVar 2) (mCst (.int 1)) opIx) (Cop.f .eq))) (mVar 6) [6]) (gN 3)) (sSeq (sIf (mB (m2 (mVar 3) (mA (mNil) mkLst) (Cop.f .eq))) (sSeq (sRet (mA (mCons (mCst (.str "paper")) (mCons (mCst (.str "name")) (mCons (m1 (mCst (.int 1)) opNeg) (mNil)))) mkLst)) (sNext)) (sNext)) (sSeq (sAsg (mA (mCons (mVar 1) (mNil)) f__law_conjuncts) (gN 4)) (sSeq (sIf (mtAnd (mB (m2 (m2 (m2 (mVar 3) (mCst (.int 0)) opIx) (mCst (.int 3)) opIx) (mCst .non) (Cop.f .isnot))) (mB (m2 (mA (mCons (m2 (m2 (mVar 3) (mCst (.int 0)) opIx) (mCst (.int 3)) opIx) (mNil)) bRepr) (mComp false (mSeq (mVar 4)) (gN 5) (mYes) (mA (mCons (mVar 5) (mNil)) bRepr) [5]) (Cop.f .notin)))) (sSeq (sRet (mA (mCons (mCst (.str "paper")) (mCons (mCst (.str "test")) (mCons (m1 (mCst (.int 1)) opNeg) (mNil)))) mkLst)) (sNext)) (sNext)) (sSeq (sFor (mSeq (mVar 4)) (gN 5) (sSeq (sIf (mtAnd (mT (mA (mCons (mVar 5) (mCons (m2 (m2 (mVar 3) (mCst (.int 0)) opIx) (mCst (.int 1)) opIx) (mNil))) f__law_goes_by)) (mT (mA (mCons (mVar 5) (mCons (m2 (mVar 2) (mCst (.int 2)) opIx) (mCons (m2 (mVar 2) (mCst (.int 3)) opIx) (mNil)))) f__law_lets))) (sSeq (sRet (mA (mCons (mCst (.str "told")) (mCons (mCst (.bl true)) (mNil))) mkLst)) (sNext)) (sNext)) (sNext))) (sSeq (sRet (mA (mCons (mCst (.str "paper")) (mCons (mCst (.str "bounds")) (mCons (m1 (mCst (.int 1)) opNeg) (mNil)))) mkLst)) (sNext))))))))
/-- _law_folders(_law_feed_here) -/
def N__law_folders : List Str := ["_law_feed_here", "_law_wish_here", "_law_slates", "_law_some", "_law_k", "_law_leaves", "_law_slate_here", "_law_tag"]
def b__law_folders (f__law_draw f__law_leaf f__law_slate : List PV → GH → Res PV) : EV.Env → GH → Res Fl := sSeq (sAsg (mA (mCons (mCst (.str "like")) (mCons (mA (mCons (mA (mCons (mCst (.str "field")) (mCons (mCst (.str "b")) (mNil))) mkTup) (mNil)) mkTup) (mCons (m2 (mA (mCons (mCst (.int 1)) (mCons (mCst (.bl true)) (mNil))) mkLst) (mA (mCons (mVar 0) (mCons (mCst (.int 2)) (mNil))) f__law_draw) opIx) (mNil)))) mkTup) (gN 1)) (sSeq (sAsg (mA (mCons (mA (mCons (mCst (.str "by")) (mCons (mA (mCons (mA (mCons (mCst (.str "field")) (mCons (mCst (.str "a")) (mNil))) mkTup) (mNil)) mkTup) (mCons (mCst (.bl false)) (mCons (mCst .non) (mNil))))) mkTup) (mCons (mA (mCons (mCst (.str "far")) (mCons (mA (mCons (mA (mCons (mCst (.str "field")) (mCons (mCst (.str "a")) (mNil))) mkTup) (mNil)) mkTup) (mCons (mCst (.bl false)) (mCons (mVar 1) (mNil))))) mkTup) (mNil))) mkTup) (gN 2)) (sSeq (sAsg (mDNew) (gN 3)) (sSeq (sFor (mRng (mCons (mCst (.int 4)) (mNil))) (gN 4) (sSeq (sAsg (mA (mCons (mVar 0) (mNil)) f__law_slate) (gN 6)) (sSeq (sSet (m2 (m2 (mSl (mVar 6) (mNoPart) (mPart (mCst (.int 2))) opSl) (mA (mCons (mCst (.bl false)) (mNil)) mkTup) opAdd) (mSl (mVar 6) (mPart (mCst (.int 3))) (mNoPart) opSl) opAdd) (mVar 3) (m2 (mVar 6) (mCst (.int 0)) opIx) fSetA) (sNext)))) (sSeq (sAsg (mA (mCons (mA (mCons (mCst (.str "ann")) (mCons (mA (mCons (mVar 0) (mNil)) f__law_leaf) (mCons (mCst (.int 0)) (mNil)))) mkTup) (mCons (mA (mCons (mCst (.str "bo")) (mCons (mA (mCons (mVar 0) (mNil)) f__law_leaf) (mCons (mCst (.int 0)) (mNil)))) mkTup) (mNil))) mkTup) (gN 5)) (sSeq (sRet (mA (mCons (mA (mCons (mVar 5) (mCons (mA (mCons (mComp false (mSeq (mA (mCons (mVar 3) (mNil)) (bSortD false))) (gN 7) (mYes) (m2 (mVar 3) (mVar 7) opIxA) [7]) (mNil)) bTup) (mCons (mA (mNil) mkTup) (mNil)))) mkTup) (mCons (mA (mCons (mSl (mVar 5) (mNoPart) (mPart (mCst (.int 1))) opSl) (mCons (mVar 2) (mCons (mA (mNil) mkTup) (mNil)))) mkTup) (mNil))) mkLst)) (sNext))))))
/-- _law_things(_law_feed_here, _law_wish_here, _law_folder) -/
def N__law_things : List Str := ["_law_feed_here", "_law_wish_here", "_law_folder", "_law_found", "_law_tag", "_law_parts", "_law_signs", "_law_k", "_law_slate_here", "_law_one"]
def b__law_things (f__law_bent f__law_conjuncts f__law_draw f__law_sign : List PV → GH → Res PV) : EV.Env → GH → Res Fl := sSeq (sAsg (mA (mCons (mA (mCons (mCst (.str "all")) (mNil)) mkTup) (mCons (mA (mCons (mCst (.str "all")) (mCons (mCst (.int 0)) (mNil))) mkTup) (mCons (mA (mCons (mCst (.str "index")) (mCons (mCst (.str "nobody")) (mCons (mCst .non) (mCons (mCst .non) (mNil))))) mkTup) (mCons (mA (mCons (mCst (.str "index")) (mCons (mCst (.str "by")) (mNil))) mkTup) (mCons (mCst .non) (mCons (mA (mNil) mkTup) (mNil))))))) mkObj) (gN 3)) (sSeq (sDrop (mMet "list" (mVar 3) (mCons (mA (mCons (mCst (.str "index")) (mCons (mCst (.str "B")) (mCons (mCst .non) (mCons (mCst .non) (mNil))))) mkTup) (mNil)) fAppend)) (sSeq (sFor (mSeq (m2 (mComp false (mSeq (m2 (mVar 2) (mCst (.int 1)) opIx)) (gN 8) (mYes) (m2 (mVar 8) (mCst (.int 0)) opIx) [8]) (mA (mCons (mCst (.str "by")) (mNil)) mkLst) opAdd)) (gN 4) (sSeq (sAsg (mComp false (mSeq (mA (mCons (mVar 1) (mNil)) f__law_conjuncts)) (gN 9) (mB (m2 (m2 (mVar 9) (mCst (.int 0)) opIx) (mA (mCons (mCst (.str "like")) (mCons (mCst (.str "below")) (mCons (mCst (.str "above")) (mNil)))) mkTup) (Cop.f .in_))) (mVar 9) [9]) (gN 5)) (sSeq (sAsg (m2 (mA (mCons (mCst .non) (mNil)) mkLst) (mComp false (mSeq (mVar 5)) (gN 9) (mtNot (mT (m1 (m2 (mVar 9) (mCst (.int 2)) opIx) (bIsi "tuple")))) (mA (mCons (m2 (mVar 9) (mCst (.int 2)) opIx) (mNil)) f__law_sign) [9]) opAdd) (gN 6)) (sSeq (sAsg (m2 (mVar 6) (mA (mCons (mA (mCons (mCst (.int 0)) (mCons (mCst (.bl false)) (mNil))) mkTup) (mCons (mA (mCons (mCst (.int 0)) (mCons (mCst (.bl true)) (mNil))) mkTup) (mCons (mA (mCons (mCst (.int 1)) (mCons (mCst (.int 0)) (mNil))) mkTup) (mCons (mA (mCons (mCst (.int 1)) (mCons (mCst (.int 2)) (mNil))) mkTup) (mCons (mA (mCons (mCst (.int 2)) (mCons (mCst (.str "")) (mNil))) mkTup) (mCons (mA (mCons (mCst (.int 2)) (mCons (mCst (.str "z")) (mNil))) mkTup) (mCons (mA (mCons (mCst (.int 1)) (mCons (mCst (.bl true)) (mNil))) mkTup) (mCons (mA (mCons (mCst (.int 0)) (mCons (mCst (.int 1)) (mNil))) mkTup) (mCons (mA (mCons (mCst (.int 2)) (mCons (mCst (.str "Z {")) (mNil))) mkTup) (mNil)))))))))) mkLst) opAdd) (gN 6)) (sSeq (sFor (mRng (mCons (mCst (.int 14)) (mNil))) (gN 7) (sSeq (sDrop (mMet "list" (mVar 3) (mCons (mA (mCons (mCst (.str "index")) (mCons (mVar 4) (mCons (m2 (mVar 6) (mA (mCons (mVar 0) (mCons (mA (mCons (mVar 6) (mNil)) bLen) (mNil))) f__law_draw) opIx) (mCons (m2 (mVar 6) (mA (mCons (mVar 0) (mCons (mA (mCons (mVar 6) (mNil)) bLen) (mNil))) f__law_draw) opIx) (mNil))))) mkTup) (mNil)) fAppend)) (sNext))) (sNext)))))) (sSeq (sRet (m2 (mVar 3) (mComp false (mRng (mCons (mCst (.int 8)) (mNil))) (gN 7) (mYes) (mA (mCons (mVar 0) (mCons (m2 (mVar 3) (mA (mCons (mVar 0) (mCons (mA (mCons (mVar 3) (mNil)) bLen) (mNil))) f__law_draw) opIx) (mCons (mCst (.int 3)) (mNil)))) f__law_bent) [7]) opAdd)) (sNext))))
/-- law(_law_script) -/
def N_law : List Str := ["_law_script", "_law_feed_here", "_law_folder", "_law_a", "_law_b", "_law_own", "_law_wishes", "_law_wish_here", "_law_what", "_law_slate_here", "_law_kept", "_law_told_here"]
def b_law (f__law_draw f__law_due f__law_feed f__law_folders f__law_plain f__law_things f_lets_plan : List PV → GH → Res PV) : EV.Env → GH → Res Fl := sSeq (sAsg (mA (mCons (mVar 0) (mNil)) f__law_feed) (gN 1)) (sSeq (sAsg (mA (mCons (mA (mCons (mA (mCons (mCst (.str "field")) (mCons (mCst (.str "a")) (mNil))) mkTup) (mNil)) mkTup) (mCons (mA (mCons (mA (mCons (mCst (.str "field")) (mCons (mCst (.str "b")) (mNil))) mkTup) (mNil)) mkTup) (mNil))) mkTup) (gTupE 2 (gConsE (gN 3) (gConsE (gN 4) (gNilE))))) (sSeq (sFor (mSeq (mA (mCons (mVar 1) (mNil)) f__law_folders)) (gN 2) (sSeq (sAsg (mComp false (mSeq (m2 (mVar 2) (mCst (.int 1)) opIx)) (gN 9) (mYes) (mA (mCons (m2 (mA (mCons (mCst (.str "like")) (mCons (mCst (.str "below")) (mCons (mCst (.str "above")) (mNil)))) mkLst) (mA (mCons (mVar 1) (mCons (mCst (.int 3)) (mNil))) f__law_draw) opIx) (mCons (m2 (mVar 9) (mCst (.int 1)) opIx) (mCons (mA (mCons (mVar 1) (mNil)) f__law_plain) (mNil)))) mkTup) [9]) (gN 5)) (sSeq (sAsg (m2 (mVar 5) (mComp false (mSeq (m2 (mVar 2) (mCst (.int 1)) opIx)) (gN 9) (mB (m2 (m2 (mVar 9) (mCst (.int 3)) opIx) (mCst .non) (Cop.f .isnot))) (m2 (mVar 9) (mCst (.int 3)) opIx) [9]) opAdd) (gN 5)) (sSeq (sAsg (mA (mCons (mA (mCons (mCst (.str "and")) (mCons (mA (mCons (mSl (mVar 5) (mNoPart) (mPart (mCst (.int 3))) opSl) (mNil)) bTup) (mNil))) mkTup) (mCons (mA (mCons (mCst (.str "and")) (mCons (mA (mCons (mA (mCons (mCst (.str "like")) (mCons (mVar 3) (mCons (mCst (.int 1)) (mNil)))) mkTup) (mCons (mA (mCons (mCst (.str "like")) (mCons (mVar 4) (mCons (mCst (.int 1)) (mNil)))) mkTup) (mNil))) mkTup) (mNil))) mkTup) (mNil))) mkObj) (gN 6)) (sSeq (sDrop (mMet "list" (mVar 6) (mCons (mA (mCons (mCst (.str "and")) (mCons (mA (mCons (mA (mCons (mCst (.str "like")) (mCons (mVar 3) (mCons (mCst (.bl true)) (mNil)))) mkTup) (mCons (mA (mCons (mCst (.str "like")) (mCons (mVar 4) (mCons (mCst (.bl true)) (mNil)))) mkTup) (mNil))) mkTup) (mNil))) mkTup) (mNil)) fAppend)) (sSeq (sFor (mSeq (m2 (mVar 6) (mA (mCons (mA (mCons (mCst (.str "like")) (mCons (mVar 3) (mCons (mA (mCons (mCst (.str "row")) (mCons (mA (mCons (mCst (.int 1)) (mNil)) mkTup) (mNil))) mkTup) (mNil)))) mkTup) (mCons (mA (mCons (mCst (.str "or")) (mCons (mA (mCons (mSl (mVar 5) (mNoPart) (mPart (mCst (.int 2))) opSl) (mNil)) bTup) (mNil))) mkTup) (mCons (mA (mCons (mCst (.str "above")) (mCons (mVar 3) (mCons (mCst (.str "a1")) (mNil)))) mkTup) (mCons (mA (mCons (mCst (.str "there")) (mCons (mVar 3) (mNil))) mkTup) (mNil))))) mkLst) opAdd)) (gN 7) (sSeq (sFor (mSeq (mA (mCons (mVar 1) (mCons (mVar 7) (mCons (mVar 2) (mNil)))) f__law_things)) (gN 8) (sSeq (sAsg (mA (mCons (mA (mCons (mVar 2) (mCons (mVar 7) (mCons (mVar 8) (mNil)))) mkTup) (mNil)) bRepr) (gN 10)) (sSeq (sAsg (mTellL 5 1 "told" (pickH 1 (hL th25)) (mA (mCons (mVar 2) (mCons (mVar 7) (mCons (mVar 8) (mNil)))) f_lets_plan)) (gN 11)) (sSeq (sIf (mtOr (mB (m2 (mA (mCons (mVar 11) (mNil)) bRepr) (mA (mCons (mA (mCons (mVar 2) (mCons (mVar 7) (mCons (mVar 8) (mNil)))) f__law_due) (mNil)) bRepr) (Cop.f .ne))) (mB (m2 (mA (mCons (mA (mCons (mVar 2) (mCons (mVar 7) (mCons (mVar 8) (mNil)))) mkTup) (mNil)) bRepr) (mVar 10) (Cop.f .ne)))) (sSeq (sRet (mCst (.bl false))) (sNext)) (sNext)) (sNext))))) (sNext))) (sNext))))))) (sSeq (sRet (mCst (.bl true))) (sNext))))
def step (r : Nat → List PV → GH → Res PV) : Nat → List PV → GH → Res PV
  | 0 => defV 1 GN.N_is_number (GN.b_is_number)
  | 1 => defV 1 G2.N_is_word (G2.b_is_word)
  | 2 => defV 1 GN.N_is_text (GN.b_is_text)
  | 3 => defV 1 GN.N_is_plain (GN.b_is_plain (r 0) (r 2))
  | 4 => defV 1 GN.N_key_of (GN.b_key_of)
  | 5 => defV 3 N_ask_so (b_ask_so (r 99))
  | 6 => defV 1 N_is_key (b_is_key (r 0))
  | 7 => defV 1 N_conjuncts_of (b_conjuncts_of (r 7))
  | 8 => defV 2 N_are_same (b_are_same)
  | 9 => defV 2 N_test_let (b_test_let (r 8))
  | 10 => defV 1 N_bounds_of (b_bounds_of (r 3) (r 4))
  | 11 => defV 2 N_bounding_of (b_bounding_of (r 8) (r 10))
  | 12 => defV 1 N_is_plan (b_is_plan (r 6) (r 1))
  | 13 => defV 3 N_are_wide (b_are_wide (r 4))
  | 14 => defV 3 N_lets_plan (b_lets_plan (r 13) (r 5) (r 11) (r 7) (r 12) (r 9))
  | 15 => defV 1 G4.N__law_feed (G4.b__law_feed)
  | 16 => defV 2 G4.N__law_draw (G4.b__law_draw)
  | 17 => defV 1 G4.N__law_plain (G4.b__law_plain (r 16))
  | 18 => defV 1 G4.N__law_tree (G4.b__law_tree)
  | 19 => defV 1 G4.N__law_leaf (G4.b__law_leaf (r 16) (r 17) (r 18))
  | 20 => defV 1 G4.N__law_route (G4.b__law_route (r 16) (r 17))
  | 21 => defV 2 G4.N__law_wish (G4.b__law_wish (r 16) (r 17) (r 20) (r 21))
  | 22 => defV 1 N__law_sign (b__law_sign)
  | 23 => defV 1 G4.N__law_slate (G4.b__law_slate (r 16) (r 20) (r 21))
  | 24 => defV 3 G4.N__law_bent (G4.b__law_bent (r 24) (r 16))
  | 25 => fun _ _ => .bad
  | 26 => defV 1 N__law_conjuncts (b__law_conjuncts (r 26))
  | 27 => defV 1 N__law_is_sign (b__law_is_sign)
  | 28 => defV 1 N__law_is_road (b__law_is_road (r 27))
  | 29 => defV 2 N__law_goes_by (b__law_goes_by)
  | 30 => defV 3 N__law_lets (b__law_lets (r 22))
  | 31 => defV 3 N__law_due (b__law_due (r 26) (r 29) (r 28) (r 30))
  | 32 => defV 1 N__law_folders (b__law_folders (r 16) (r 19) (r 23))
  | 33 => defV 3 N__law_things (b__law_things (r 24) (r 26) (r 16) (r 22))
  | 34 => defV 1 N_law (b_law (r 16) (r 31) (r 15) (r 32) (r 17) (r 33) (r 14))
  | 97 => fun _ G => .ok .non G
  | 98 => r 97
  | 99 => r 98
  | _ => fun _ _ => .bad
def prog : Nat → Nat → List PV → GH → Res PV
  | 0 => fun _ _ _ => .bad
  | n + 1 => step (prog n)
def top (i : Nat) : Stmt := PySem.Challenge.pw_pathfolios_k33_plans_judged.main.body.getD i (.Pass ⟨0, 0, 0, 0⟩)
abbrev FnP (K : PySem.W.Frag) (x : Str) (st : Stmt) (f : Addr) (fd : FuncData) : Prop := FunD K x x (defArgs st) (defBody st) (defScope st) [] [] f fd
structure Free (K : PySem.W.Frag) (mg : Str → Option Value) : Prop where
  f_none : True
  f_LookupError : mg "LookupError" = none
  f_ValueError : mg "ValueError" = none
  f_abs : mg "abs" = none
  f_all : mg "all" = none
  f_any : mg "any" = none
  f_bool : mg "bool" = none
  f_dict : mg "dict" = none
  f_int : mg "int" = none
  f_isinstance : mg "isinstance" = none
  f_len : mg "len" = none
  f_list : mg "list" = none
  f_range : mg "range" = none
  f_repr : mg "repr" = none
  f_sorted : mg "sorted" = none
  f_str : mg "str" = none
  f_tuple : mg "tuple" = none
  k_BOUNDING : CstOf K mg "BOUNDING" (.tup [.str "like", .str "below", .str "above"])
  k_FIGURES : CstOf K mg "FIGURES" (.str "0123456789")
  k_LETTERS : CstOf K mg "LETTERS" (.str "abcdefghijklmnopqrstuvwxyz")
  k_LONGEST_TEXT : CstOf K mg "LONGEST_TEXT" (.int 16)
  k_LONGEST_WORD : CstOf K mg "LONGEST_WORD" (.int 8)
structure Xs (P : Program) (w : World) (K : PySem.W.Frag) (mg : Str → Option Value) (base : Heap) (F : Fx) : Prop where
  x_none : True
  k_NoPaper : XMk P w K mg base (F.ca 0) ["word", "at"]
  m_NoPaper : mg "NoPaper" = some (.ref (F.ca 0))
  exm_NoPaper_FolioError : PySem.W.exmOne K (.ref (F.ca 0)) (.ref (F.ca 1)) = some true
  exm_NoPaper_LackError : PySem.W.exmOne K (.ref (F.ca 0)) (.ref (F.ca 2)) = some false
  e_NoPaper : L2.ExcC K (F.ca 0) ∧ XfC K (F.ca 0)
  kit_NoPaper_NoPaper : PySem.W.kitOne K (.ref (F.ca 0)) (.ref (F.ca 0)) = some true
  kit_NoPaper_NoKey : PySem.W.kitOne K (.ref (F.ca 0)) (.ref (F.ca 3)) = some false
  m_NoKey : mg "NoKey" = some (.ref (F.ca 3))
  kit_NoPaper_NoLead : PySem.W.kitOne K (.ref (F.ca 0)) (.ref (F.ca 4)) = some false
  m_NoLead : mg "NoLead" = some (.ref (F.ca 4))
  kit_NoPaper_NoId : PySem.W.kitOne K (.ref (F.ca 0)) (.ref (F.ca 5)) = some false
  m_NoId : mg "NoId" = some (.ref (F.ca 5))
  kit_NoPaper_NoMark : PySem.W.kitOne K (.ref (F.ca 0)) (.ref (F.ca 6)) = some false
  m_NoMark : mg "NoMark" = some (.ref (F.ca 6))
  kit_NoPaper_NoName : PySem.W.kitOne K (.ref (F.ca 0)) (.ref (F.ca 7)) = some false
  m_NoName : mg "NoName" = some (.ref (F.ca 7))
  kitA_NoPaper_NoChange_NoTurn_Behind_NoText_NoRow_NoHouse_NoStep : PySem.W.kitAny K (.ref (F.ca 0)) [(.ref (F.ca 8)), (.ref (F.ca 9)), (.ref (F.ca 10)), (.ref (F.ca 11)), (.ref (F.ca 12)), (.ref (F.ca 13)), (.ref (F.ca 14))] = some false
  m_NoStep : mg "NoStep" = some (.ref (F.ca 14))
  m_NoHouse : mg "NoHouse" = some (.ref (F.ca 13))
  m_NoRow : mg "NoRow" = some (.ref (F.ca 12))
  m_NoText : mg "NoText" = some (.ref (F.ca 11))
  m_Behind : mg "Behind" = some (.ref (F.ca 10))
  m_NoTurn : mg "NoTurn" = some (.ref (F.ca 9))
  m_NoChange : mg "NoChange" = some (.ref (F.ca 8))
  kit_NoPaper_FolioError : PySem.W.kitOne K (.ref (F.ca 0)) (.ref (F.ca 1)) = some true
  m_FolioError : mg "FolioError" = some (.ref (F.ca 1))
  kit_NoPaper_LackError : PySem.W.kitOne K (.ref (F.ca 0)) (.ref (F.ca 2)) = some false
  m_LackError : mg "LackError" = some (.ref (F.ca 2))
  kitT_NoPaper_ValueError : PySem.W.kitOne K (.ref (F.ca 0)) (.type "ValueError") = some true
  no_NoPaper_word : PySem.W.findIn K (.ref (F.ca 0)) "word" = some none
  no_NoPaper_at : PySem.W.findIn K (.ref (F.ca 0)) "at" = some none
  kitT_NoPaper_LookupError : PySem.W.kitOne K (.ref (F.ca 0)) (.type "LookupError") = some false
structure AllC (P : Program) (w : World) (K : PySem.W.Frag) (mg : Str → Option Value) (base : Heap) (F : Fx) (n : Nat) (r : Nat → List PV → GH → Res PV) : Prop where
  c0 : CalleeP P w K mg base F n "is_number" 1 (r 0)
  c1 : CalleeP P w K mg base F n "is_word" 1 (r 1)
  c2 : CalleeP P w K mg base F n "is_text" 1 (r 2)
  c3 : CalleeP P w K mg base F n "is_plain" 1 (r 3)
  c4 : CalleeP P w K mg base F n "key_of" 1 (r 4)
  c5 : CalleeP P w K mg base F n "ask_so" 3 (r 5)
  c6 : CalleeP P w K mg base F n "is_key" 1 (r 6)
  c7 : CalleeP P w K mg base F n "conjuncts_of" 1 (r 7)
  c8 : CalleeP P w K mg base F n "are_same" 2 (r 8)
  c9 : CalleeP P w K mg base F n "test_let" 2 (r 9)
  c10 : CalleeP P w K mg base F n "bounds_of" 1 (r 10)
  c11 : CalleeP P w K mg base F n "bounding_of" 2 (r 11)
  c12 : CalleeP P w K mg base F n "is_plan" 1 (r 12)
  c13 : CalleeP P w K mg base F n "are_wide" 3 (r 13)
  c14 : CalleeP P w K mg base F n "lets_plan" 3 (r 14)
  c15 : CalleeP P w K mg base F n "_law_feed" 1 (r 15)
  c16 : CalleeP P w K mg base F n "_law_draw" 2 (r 16)
  c17 : CalleeP P w K mg base F n "_law_plain" 1 (r 17)
  c18 : CalleeP P w K mg base F n "_law_tree" 1 (r 18)
  c19 : CalleeP P w K mg base F n "_law_leaf" 1 (r 19)
  c20 : CalleeP P w K mg base F n "_law_route" 1 (r 20)
  c21 : CalleeP P w K mg base F n "_law_wish" 2 (r 21)
  c22 : CalleeP P w K mg base F n "_law_sign" 1 (r 22)
  c23 : CalleeP P w K mg base F n "_law_slate" 1 (r 23)
  c24 : CalleeP P w K mg base F n "_law_bent" 3 (r 24)
  c25 : CalleeP P w K mg base F n "_law_told" 1 (r 25)
  c26 : CalleeP P w K mg base F n "_law_conjuncts" 1 (r 26)
  c27 : CalleeP P w K mg base F n "_law_is_sign" 1 (r 27)
  c28 : CalleeP P w K mg base F n "_law_is_road" 1 (r 28)
  c29 : CalleeP P w K mg base F n "_law_goes_by" 2 (r 29)
  c30 : CalleeP P w K mg base F n "_law_lets" 3 (r 30)
  c31 : CalleeP P w K mg base F n "_law_due" 3 (r 31)
  c32 : CalleeP P w K mg base F n "_law_folders" 1 (r 32)
  c33 : CalleeP P w K mg base F n "_law_things" 3 (r 33)
  c34 : CalleeP P w K mg base F n "law" 1 (r 34)
  gt : gateB (r 99 [] []) = true → 3 ≤ n
structure Defs (K : PySem.W.Frag) (mg : Str → Option Value) (base : Heap) (F : Fx) : Prop where
  d0 : ∃ (f : Addr) (fd : FuncData), FnP K "is_number" (top 21) f fd ∧ mg "is_number" = some (.ref f)
  d1 : ∃ (f : Addr) (fd : FuncData), FnP K "is_word" (top 22) f fd ∧ mg "is_word" = some (.ref f)
  d2 : ∃ (f : Addr) (fd : FuncData), FnP K "is_text" (top 23) f fd ∧ mg "is_text" = some (.ref f)
  d3 : ∃ (f : Addr) (fd : FuncData), FnP K "is_plain" (top 25) f fd ∧ mg "is_plain" = some (.ref f)
  d4 : ∃ (f : Addr) (fd : FuncData), FnP K "key_of" (top 26) f fd ∧ mg "key_of" = some (.ref f)
  d5 : ∃ (f : Addr) (fd : FuncData), FnP K "ask_so" (top 28) f fd ∧ mg "ask_so" = some (.ref f)
  d6 : ∃ (f : Addr) (fd : FuncData), FnP K "is_key" (top 29) f fd ∧ mg "is_key" = some (.ref f)
  d7 : ∃ (f : Addr) (fd : FuncData), FnP K "conjuncts_of" (top 32) f fd ∧ mg "conjuncts_of" = some (.ref f)
  d8 : ∃ (f : Addr) (fd : FuncData), FnP K "are_same" (top 33) f fd ∧ mg "are_same" = some (.ref f)
  d9 : ∃ (f : Addr) (fd : FuncData), FnP K "test_let" (top 34) f fd ∧ mg "test_let" = some (.ref f)
  d10 : ∃ (f : Addr) (fd : FuncData), FnP K "bounds_of" (top 35) f fd ∧ mg "bounds_of" = some (.ref f)
  d11 : ∃ (f : Addr) (fd : FuncData), FnP K "bounding_of" (top 36) f fd ∧ mg "bounding_of" = some (.ref f)
  d12 : ∃ (f : Addr) (fd : FuncData), FnP K "is_plan" (top 38) f fd ∧ mg "is_plan" = some (.ref f)
  d13 : ∃ (f : Addr) (fd : FuncData), FnP K "are_wide" (top 39) f fd ∧ mg "are_wide" = some (.ref f)
  d14 : ∃ (f : Addr) (fd : FuncData), FnP K "lets_plan" (top 40) f fd ∧ mg "lets_plan" = some (.ref f)
  d15 : ∃ (f : Addr) (fd : FuncData), FnP K "_law_feed" (top 42) f fd ∧ mg "_law_feed" = some (.ref f)
  d16 : ∃ (f : Addr) (fd : FuncData), FnP K "_law_draw" (top 43) f fd ∧ mg "_law_draw" = some (.ref f)
  d17 : ∃ (f : Addr) (fd : FuncData), FnP K "_law_plain" (top 44) f fd ∧ mg "_law_plain" = some (.ref f)
  d18 : ∃ (f : Addr) (fd : FuncData), FnP K "_law_tree" (top 45) f fd ∧ mg "_law_tree" = some (.ref f)
  d19 : ∃ (f : Addr) (fd : FuncData), FnP K "_law_leaf" (top 46) f fd ∧ mg "_law_leaf" = some (.ref f)
  d20 : ∃ (f : Addr) (fd : FuncData), FnP K "_law_route" (top 47) f fd ∧ mg "_law_route" = some (.ref f)
  d21 : ∃ (f : Addr) (fd : FuncData), FnP K "_law_wish" (top 48) f fd ∧ mg "_law_wish" = some (.ref f)
  d22 : ∃ (f : Addr) (fd : FuncData), FnP K "_law_sign" (top 49) f fd ∧ mg "_law_sign" = some (.ref f)
  d23 : ∃ (f : Addr) (fd : FuncData), FnP K "_law_slate" (top 50) f fd ∧ mg "_law_slate" = some (.ref f)
  d24 : ∃ (f : Addr) (fd : FuncData), FnP K "_law_bent" (top 51) f fd ∧ mg "_law_bent" = some (.ref f)
  d25 : ∃ (f : Addr) (fd : FuncData), FnP K "_law_told" (top 52) f fd ∧ mg "_law_told" = some (.ref f)
  d26 : ∃ (f : Addr) (fd : FuncData), FnP K "_law_conjuncts" (top 53) f fd ∧ mg "_law_conjuncts" = some (.ref f)
  d27 : ∃ (f : Addr) (fd : FuncData), FnP K "_law_is_sign" (top 54) f fd ∧ mg "_law_is_sign" = some (.ref f)
  d28 : ∃ (f : Addr) (fd : FuncData), FnP K "_law_is_road" (top 55) f fd ∧ mg "_law_is_road" = some (.ref f)
  d29 : ∃ (f : Addr) (fd : FuncData), FnP K "_law_goes_by" (top 56) f fd ∧ mg "_law_goes_by" = some (.ref f)
  d30 : ∃ (f : Addr) (fd : FuncData), FnP K "_law_lets" (top 57) f fd ∧ mg "_law_lets" = some (.ref f)
  d31 : ∃ (f : Addr) (fd : FuncData), FnP K "_law_due" (top 58) f fd ∧ mg "_law_due" = some (.ref f)
  d32 : ∃ (f : Addr) (fd : FuncData), FnP K "_law_folders" (top 59) f fd ∧ mg "_law_folders" = some (.ref f)
  d33 : ∃ (f : Addr) (fd : FuncData), FnP K "_law_things" (top 60) f fd ∧ mg "_law_things" = some (.ref f)
  d34 : ∃ (f : Addr) (fd : FuncData), FnP K "law" (top 61) f fd ∧ mg "law" = some (.ref f) ∧ LamD K mg base F f "law"
section
variable {P : Program} {w : World} {K : PySem.W.Frag} {mg : Str → Option Value} {base : Heap} {F : Fx} {n : Nat} {r : Nat → List PV → GH → Res PV} {f : Addr} {fd : FuncData}
theorem sc0 : FnScope GN.N_is_number ["thing"] (defScope (top 21)) := ⟨rfl, rfl, rfl, by decide +kernel, rfl, by decide +kernel, by decide +kernel⟩
theorem bi0 (Fd : FnP K "is_number" (top 21) f fd) : Binds K fd ["thing"] [] := Fd.bindsN fun _ _ _ _ _ _ us hl => match us, hl with | [_], _ => rfl
theorem AllC.mono (c : AllC P w K mg base F n r) {k : Nat} (h : n ≤ k) : AllC P w K mg base F k r := ⟨c.c0.mono h, c.c1.mono h, c.c2.mono h, c.c3.mono h, c.c4.mono h, c.c5.mono h, c.c6.mono h, c.c7.mono h, c.c8.mono h, c.c9.mono h, c.c10.mono h, c.c11.mono h, c.c12.mono h, c.c13.mono h, c.c14.mono h, c.c15.mono h, c.c16.mono h, c.c17.mono h, c.c18.mono h, c.c19.mono h, c.c20.mono h, c.c21.mono h, c.c22.mono h, c.c23.mono h, c.c24.mono h, c.c25.mono h, c.c26.mono h, c.c27.mono h, c.c28.mono h, c.c29.mono h, c.c30.mono h, c.c31.mono h, c.c32.mono h, c.c33.mono h, c.c34.mono h, fun z => Nat.le_trans (c.gt z) h⟩
theorem ok0 (hK : F.K = K) (fr : Free K mg) (xs : Xs P w K mg base F) (DD : Defs K mg base F) (c0 : AllC P w K mg base F n r) (Fd : FnP K "is_number" (top 21) f fd) (hm : mg "is_number" = some (.ref f)) : CalleeP P w K mg base F (n + 3) "is_number" 1 (step r 0) :=
  have c := c0.mono (k := n + 2) (by omega); def_okX (ps := ["thing"]) (m := (GN.b_is_number)) hK Fd sc0 hm (bi0 Fd) fun cdv A outer s H E g po hcd tk => ev_scons (gret (gand g (gisi g "int" fr.f_isinstance fr.f_int (gvar 0)) (ev_one (gnot g (gisi g "bool" fr.f_isinstance fr.f_bool (gvar 0)))))) (ev_snil)
theorem sc1 : FnScope G2.N_is_word ["thing"] (defScope (top 22)) := ⟨rfl, rfl, rfl, by decide +kernel, rfl, by decide +kernel, by decide +kernel⟩
theorem bi1 (Fd : FnP K "is_word" (top 22) f fd) : Binds K fd ["thing"] [] := Fd.bindsN fun _ _ _ _ _ _ us hl => match us, hl with | [_], _ => rfl
theorem ok1 (hK : F.K = K) (fr : Free K mg) (xs : Xs P w K mg base F) (DD : Defs K mg base F) (c0 : AllC P w K mg base F n r) (Fd : FnP K "is_word" (top 22) f fd) (hm : mg "is_word" = some (.ref f)) : CalleeP P w K mg base F (n + 3) "is_word" 1 (step r 1) :=
  have c := c0.mono (k := n + 2) (by omega); def_okX (ps := ["thing"]) (m := (G2.b_is_word)) hK Fd sc1 hm (bi1 Fd) fun cdv A outer s H E g po hcd tk => ev_scons (ev_sif (L2.PW.pt (ev_tor (ev_tnot (gtru g (gisi g "str" fr.f_isinstance fr.f_str (gvar 0)))) (ev_tor1 (ev_tnot (gchnT g .le .le (ev_int) (gblt (bLen_ok g.K) fr.f_len (gcons (gvar 0) (ev_nil))) (gglo g hK fr.k_LONGEST_WORD)))))) (ev_scons (gret (ev_bl)) (ev_snil)) (ev_snil)) (ev_scons (gret (gblt (bAll_ok g.K g.calm) fr.f_all (gcons (gcomp g false [("sign", 1)] (gseq g (gvar 0)) (fun _ _ _ _ _ g1 => gtn g1 1) (fun _ _ _ _ _ g1 => ev_yes) (fun _ _ _ _ _ g1 => gcmp g1 .in_ (gvar 1) (gglo g1 hK fr.k_LETTERS))) (ev_nil)))) (ev_snil))
theorem sc2 : FnScope GN.N_is_text ["thing"] (defScope (top 23)) := ⟨rfl, rfl, rfl, by decide +kernel, rfl, by decide +kernel, by decide +kernel⟩
theorem bi2 (Fd : FnP K "is_text" (top 23) f fd) : Binds K fd ["thing"] [] := Fd.bindsN fun _ _ _ _ _ _ us hl => match us, hl with | [_], _ => rfl
theorem ok2 (hK : F.K = K) (fr : Free K mg) (xs : Xs P w K mg base F) (DD : Defs K mg base F) (c0 : AllC P w K mg base F n r) (Fd : FnP K "is_text" (top 23) f fd) (hm : mg "is_text" = some (.ref f)) : CalleeP P w K mg base F (n + 3) "is_text" 1 (step r 2) :=
  have c := c0.mono (k := n + 2) (by omega); def_okX (ps := ["thing"]) (m := (GN.b_is_text)) hK Fd sc2 hm (bi2 Fd) fun cdv A outer s H E g po hcd tk => ev_scons (ev_sif (L2.PW.pt (ev_tor (ev_tnot (gtru g (gisi g "str" fr.f_isinstance fr.f_str (gvar 0)))) (ev_tor1 (gcmpT g .gt (gblt (bLen_ok g.K) fr.f_len (gcons (gvar 0) (ev_nil))) (gglo g hK fr.k_LONGEST_TEXT))))) (ev_scons (gret (ev_bl)) (ev_snil)) (ev_snil)) (ev_scons (gret (gblt (bAll_ok g.K g.calm) fr.f_all (gcons (gcomp g false [("sign", 1)] (gseq g (gvar 0)) (fun _ _ _ _ _ g1 => gtn g1 1) (fun _ _ _ _ _ g1 => ev_yes) (fun _ _ _ _ _ g1 => gor g1 (gcmp g1 .in_ (gvar 1) (gglo g1 hK fr.k_LETTERS)) (ev_one (gcmp g1 .in_ (gvar 1) (gglo g1 hK fr.k_FIGURES))))) (ev_nil)))) (ev_snil))
theorem sc3 : FnScope GN.N_is_plain ["thing"] (defScope (top 25)) := ⟨rfl, rfl, rfl, by decide +kernel, rfl, by decide +kernel, by decide +kernel⟩
theorem bi3 (Fd : FnP K "is_plain" (top 25) f fd) : Binds K fd ["thing"] [] := Fd.bindsN fun _ _ _ _ _ _ us hl => match us, hl with | [_], _ => rfl
theorem ok3 (hK : F.K = K) (fr : Free K mg) (xs : Xs P w K mg base F) (DD : Defs K mg base F) (c0 : AllC P w K mg base F n r) (Fd : FnP K "is_plain" (top 25) f fd) (hm : mg "is_plain" = some (.ref f)) : CalleeP P w K mg base F (n + 3) "is_plain" 1 (step r 3) :=
  have c := c0.mono (k := n + 2) (by omega); def_okX (ps := ["thing"]) (m := (GN.b_is_plain (r 0) (r 2))) hK Fd sc3 hm (bi3 Fd) fun cdv A outer s H E g po hcd tk => ev_scons (gret (gor g (gisi g "bool" fr.f_isinstance fr.f_bool (gvar 0)) (gor g (gown g c.c0 (gcons (gvar 0) (ev_nil))) (ev_one (gown g c.c2 (gcons (gvar 0) (ev_nil))))))) (ev_snil)
theorem sc4 : FnScope GN.N_key_of ["plain"] (defScope (top 26)) := ⟨rfl, rfl, rfl, by decide +kernel, rfl, by decide +kernel, by decide +kernel⟩
theorem bi4 (Fd : FnP K "key_of" (top 26) f fd) : Binds K fd ["plain"] [] := Fd.bindsN fun _ _ _ _ _ _ us hl => match us, hl with | [_], _ => rfl
theorem ok4 (hK : F.K = K) (fr : Free K mg) (xs : Xs P w K mg base F) (DD : Defs K mg base F) (c0 : AllC P w K mg base F n r) (Fd : FnP K "key_of" (top 26) f fd) (hm : mg "key_of" = some (.ref f)) : CalleeP P w K mg base F (n + 3) "key_of" 1 (step r 4) :=
  have c := c0.mono (k := n + 2) (by omega); def_okX (ps := ["plain"]) (m := (GN.b_key_of)) hK Fd sc4 hm (bi4 Fd) fun cdv A outer s H E g po hcd tk => ev_scons (ev_sif (gtru g (gisi g "bool" fr.f_isinstance fr.f_bool (gvar 0))) (ev_scons (gret (ev_tup (gcons (ev_int) (gcons (gvar 0) (ev_nil))))) (ev_snil)) (ev_snil)) (ev_scons (gret (ev_if (gtru g (gisi g "int" fr.f_isinstance fr.f_int (gvar 0))) (ev_tup (gcons (ev_int) (gcons (gvar 0) (ev_nil)))) (ev_tup (gcons (ev_int) (gcons (gvar 0) (ev_nil)))))) (ev_snil))
theorem sc5 : FnScope N_ask_so ["truth", "word", "at"] (defScope (top 28)) := ⟨rfl, rfl, rfl, by decide +kernel, rfl, by decide +kernel, by decide +kernel⟩
theorem bi5 (Fd : FnP K "ask_so" (top 28) f fd) : Binds K fd ["truth", "word", "at"] [] := Fd.bindsN fun _ _ _ _ _ _ us hl => match us, hl with | [_, _, _], _ => rfl
theorem ok5 (hK : F.K = K) (fr : Free K mg) (xs : Xs P w K mg base F) (DD : Defs K mg base F) (c0 : AllC P w K mg base F n r) (Fd : FnP K "ask_so" (top 28) f fd) (hm : mg "ask_so" = some (.ref f)) : CalleeP P w K mg base F (n + 3) "ask_so" 3 (step r 5) :=
  have c := c0.mono (k := n + 2) (by omega); def_okX (ps := ["truth", "word", "at"]) (m := (b_ask_so (r 99))) hK Fd sc5 hm (bi5 Fd) fun cdv A outer s H E g po hcd tk => ev_scons (ev_sif (ev_tnot (gtru g (gvar 0))) (ev_scons (graise g tk c.gt xs.k_NoPaper xs.m_NoPaper (gcons (gvar 1) (gcons (gvar 2) (ev_nil)))) (ev_snil)) (ev_snil)) (ev_snil)
theorem sc6 : FnScope N_is_key ["thing"] (defScope (top 29)) := ⟨rfl, rfl, rfl, by decide +kernel, rfl, by decide +kernel, by decide +kernel⟩
theorem bi6 (Fd : FnP K "is_key" (top 29) f fd) : Binds K fd ["thing"] [] := Fd.bindsN fun _ _ _ _ _ _ us hl => match us, hl with | [_], _ => rfl
theorem ok6 (hK : F.K = K) (fr : Free K mg) (xs : Xs P w K mg base F) (DD : Defs K mg base F) (c0 : AllC P w K mg base F n r) (Fd : FnP K "is_key" (top 29) f fd) (hm : mg "is_key" = some (.ref f)) : CalleeP P w K mg base F (n + 3) "is_key" 1 (step r 6) :=
  have c := c0.mono (k := n + 2) (by omega); def_okX (ps := ["thing"]) (m := (b_is_key (r 0))) hK Fd sc6 hm (bi6 Fd) fun cdv A outer s H E g po hcd tk => ev_scons (ev_sif (L2.PW.pt (ev_tor (ev_tnot (gtru g (gisi g "tuple" fr.f_isinstance fr.f_tuple (gvar 0)))) (ev_tor (gcmpT g .ne (gblt (bLen_ok g.K) fr.f_len (gcons (gvar 0) (ev_nil))) (ev_int)) (ev_tor1 (ev_tnot (gtru g (gown g c.c0 (gcons (gix g (by exact fun _ _ => rfl) (gvar 0) (ev_int)) (ev_nil))))))))) (ev_scons (gret (ev_bl)) (ev_snil)) (ev_snil)) (ev_scons (ev_sif (gcmpT g .eq (gix g (by exact fun _ _ => rfl) (gvar 0) (ev_int)) (ev_int)) (ev_scons (gret (gisi g "bool" fr.f_isinstance fr.f_bool (gix g (by exact fun _ _ => rfl) (gvar 0) (ev_int)))) (ev_snil)) (ev_snil)) (ev_scons (gret (ev_if (gcmpT g .eq (gix g (by exact fun _ _ => rfl) (gvar 0) (ev_int)) (ev_int)) (gown g c.c0 (gcons (gix g (by exact fun _ _ => rfl) (gvar 0) (ev_int)) (ev_nil))) (gand g (gcmp g .eq (gix g (by exact fun _ _ => rfl) (gvar 0) (ev_int)) (ev_int)) (ev_one (gisi g "str" fr.f_isinstance fr.f_str (gix g (by exact fun _ _ => rfl) (gvar 0) (ev_int))))))) (ev_snil)))
theorem sc7 : FnScope N_conjuncts_of ["test"] (defScope (top 32)) := ⟨rfl, rfl, rfl, by decide +kernel, rfl, by decide +kernel, by decide +kernel⟩
theorem bi7 (Fd : FnP K "conjuncts_of" (top 32) f fd) : Binds K fd ["test"] [] := Fd.bindsN fun _ _ _ _ _ _ us hl => match us, hl with | [_], _ => rfl
theorem ok7 (hK : F.K = K) (fr : Free K mg) (xs : Xs P w K mg base F) (DD : Defs K mg base F) (c0 : AllC P w K mg base F n r) (Fd : FnP K "conjuncts_of" (top 32) f fd) (hm : mg "conjuncts_of" = some (.ref f)) : CalleeP P w K mg base F (n + 3) "conjuncts_of" 1 (step r 7) :=
  have c := c0.mono (k := n + 2) (by omega); def_okX (ps := ["test"]) (m := (b_conjuncts_of (r 7))) hK Fd sc7 hm (bi7 Fd) fun cdv A outer s H E g po hcd tk => ev_scons (gasg (ev_lso (gcons (gvar 0) (ev_nil))) (gtn g 1)) (ev_scons (ev_sif (gcmpT g .eq (gix g (by exact fun _ _ => rfl) (gvar 0) (ev_int)) (ev_str)) (ev_scons (gfor g po (gseq g (gix g (by exact fun _ _ => rfl) (gvar 0) (ev_int))) (gtn g 2) (ev_scons (gexp (gmet g PySem.F.plainAttrs_list PySem.F.slot_list_extend PySem.F.type_list_extend fExtend_ok (gvar 1) (gcons (gown g c.c7 (gcons (gvar 2) (ev_nil))) (ev_nil)))) (ev_snil))) (ev_snil)) (ev_snil)) (ev_scons (gret (gvar 1)) (ev_snil)))
theorem sc8 : FnScope N_are_same ["one", "other"] (defScope (top 33)) := ⟨rfl, rfl, rfl, by decide +kernel, rfl, by decide +kernel, by decide +kernel⟩
theorem bi8 (Fd : FnP K "are_same" (top 33) f fd) : Binds K fd ["one", "other"] [] := Fd.bindsN fun _ _ _ _ _ _ us hl => match us, hl with | [_, _], _ => rfl
theorem ok8 (hK : F.K = K) (fr : Free K mg) (xs : Xs P w K mg base F) (DD : Defs K mg base F) (c0 : AllC P w K mg base F n r) (Fd : FnP K "are_same" (top 33) f fd) (hm : mg "are_same" = some (.ref f)) : CalleeP P w K mg base F (n + 3) "are_same" 2 (step r 8) :=
  have c := c0.mono (k := n + 2) (by omega); def_okX (ps := ["one", "other"]) (m := (b_are_same)) hK Fd sc8 hm (bi8 Fd) fun cdv A outer s H E g po hcd tk => ev_scons (gret (gcmp g .eq (gblt (bRepr_ok g.K g.room g.gd) fr.f_repr (gcons (gvar 0) (ev_nil))) (gblt (bRepr_ok g.K g.room g.gd) fr.f_repr (gcons (gvar 1) (ev_nil))))) (ev_snil)
theorem sc9 : FnScope N_test_let ["index", "conjuncts"] (defScope (top 34)) := ⟨rfl, rfl, rfl, by decide +kernel, rfl, by decide +kernel, by decide +kernel⟩
theorem bi9 (Fd : FnP K "test_let" (top 34) f fd) : Binds K fd ["index", "conjuncts"] [] := Fd.bindsN fun _ _ _ _ _ _ us hl => match us, hl with | [_, _], _ => rfl
theorem ok9 (hK : F.K = K) (fr : Free K mg) (xs : Xs P w K mg base F) (DD : Defs K mg base F) (c0 : AllC P w K mg base F n r) (Fd : FnP K "test_let" (top 34) f fd) (hm : mg "test_let" = some (.ref f)) : CalleeP P w K mg base F (n + 3) "test_let" 2 (step r 9) :=
  have c := c0.mono (k := n + 2) (by omega); def_okX (ps := ["index", "conjuncts"]) (m := (b_test_let (r 8))) hK Fd sc9 hm (bi9 Fd) fun cdv A outer s H E g po hcd tk => ev_scons (gret (gor g (gcmp g .is (gix g (by exact fun _ _ => rfl) (gvar 0) (ev_int)) (ev_non)) (ev_one (gblt (bAny_ok g.K g.calm) fr.f_any (gcons (gcomp g false [("one", 2)] (gseq g (gvar 1)) (fun _ _ _ _ _ g1 => gtn g1 2) (fun _ _ _ _ _ g1 => ev_yes) (fun _ _ _ _ _ g1 => gown g1 c.c8 (gcons (gix g1 (by exact fun _ _ => rfl) (gvar 0) (ev_int)) (gcons (gvar 2) (ev_nil))))) (ev_nil)))))) (ev_snil)
theorem sc10 : FnScope N_bounds_of ["conjunct"] (defScope (top 35)) := ⟨rfl, rfl, rfl, by decide +kernel, rfl, by decide +kernel, by decide +kernel⟩
theorem bi10 (Fd : FnP K "bounds_of" (top 35) f fd) : Binds K fd ["conjunct"] [] := Fd.bindsN fun _ _ _ _ _ _ us hl => match us, hl with | [_], _ => rfl
theorem ok10 (hK : F.K = K) (fr : Free K mg) (xs : Xs P w K mg base F) (DD : Defs K mg base F) (c0 : AllC P w K mg base F n r) (Fd : FnP K "bounds_of" (top 35) f fd) (hm : mg "bounds_of" = some (.ref f)) : CalleeP P w K mg base F (n + 3) "bounds_of" 1 (step r 10) :=
  have c := c0.mono (k := n + 2) (by omega); def_okX (ps := ["conjunct"]) (m := (b_bounds_of (r 3) (r 4))) hK Fd sc10 hm (bi10 Fd) fun cdv A outer s H E g po hcd tk => ev_scons (ev_sif (L2.PW.pt (ev_tor (gcmpT g .notin (gix g (by exact fun _ _ => rfl) (gvar 0) (ev_int)) (gglo g hK fr.k_BOUNDING)) (ev_tor1 (ev_tnot (gtru g (gown g c.c3 (gcons (gix g (by exact fun _ _ => rfl) (gvar 0) (ev_int)) (ev_nil)))))))) (ev_scons (gret (ev_non)) (ev_snil)) (ev_snil)) (ev_scons (gasg (gown g c.c4 (gcons (gix g (by exact fun _ _ => rfl) (gvar 0) (ev_int)) (ev_nil))) (gtn g 1)) (ev_scons (ev_sif (gcmpT g .eq (gix g (by exact fun _ _ => rfl) (gvar 0) (ev_int)) (ev_str)) (ev_scons (gret (ev_tup (gcons (gvar 1) (gcons (gvar 1) (ev_nil))))) (ev_snil)) (ev_snil)) (ev_scons (gret (ev_if (gcmpT g .eq (gix g (by exact fun _ _ => rfl) (gvar 0) (ev_int)) (ev_str)) (ev_tup (gcons (ev_non) (gcons (gvar 1) (ev_nil)))) (ev_tup (gcons (gvar 1) (gcons (ev_non) (ev_nil)))))) (ev_snil))))
theorem sc11 : FnScope N_bounding_of ["index", "conjuncts"] (defScope (top 36)) := ⟨rfl, rfl, rfl, by decide +kernel, rfl, by decide +kernel, by decide +kernel⟩
theorem bi11 (Fd : FnP K "bounding_of" (top 36) f fd) : Binds K fd ["index", "conjuncts"] [] := Fd.bindsN fun _ _ _ _ _ _ us hl => match us, hl with | [_, _], _ => rfl
theorem ok11 (hK : F.K = K) (fr : Free K mg) (xs : Xs P w K mg base F) (DD : Defs K mg base F) (c0 : AllC P w K mg base F n r) (Fd : FnP K "bounding_of" (top 36) f fd) (hm : mg "bounding_of" = some (.ref f)) : CalleeP P w K mg base F (n + 3) "bounding_of" 2 (step r 11) :=
  have c := c0.mono (k := n + 2) (by omega); def_okX (ps := ["index", "conjuncts"]) (m := (b_bounding_of (r 8) (r 10))) hK Fd sc11 hm (bi11 Fd) fun cdv A outer s H E g po hcd tk => ev_scons (gasg (ev_lso (ev_nil)) (gtn g 2)) (ev_scons (gfor g po (gseq g (gvar 1)) (gtn g 3) (ev_scons (ev_sif (L2.PW.pt (ev_tand (gcmpT g .in_ (gix g (by exact fun _ _ => rfl) (gvar 3) (ev_int)) (gglo g hK fr.k_BOUNDING)) (ev_tand (gtru g (gown g c.c8 (gcons (gix g (by exact fun _ _ => rfl) (gvar 3) (ev_int)) (gcons (gix g (by exact fun _ _ => rfl) (gvar 0) (ev_int)) (ev_nil))))) (ev_tand1 (gcmpT g .isnot (gown g c.c10 (gcons (gvar 3) (ev_nil))) (ev_non)))))) (ev_scons (gexp (gmet g PySem.F.plainAttrs_list PySem.F.slot_list_append PySem.F.type_list_append fAppend_ok (gvar 2) (gcons (gvar 3) (ev_nil)))) (ev_snil)) (ev_snil)) (ev_snil))) (ev_scons (gret (gvar 2)) (ev_snil)))
theorem sc12 : FnScope N_is_plan ["thing"] (defScope (top 38)) := ⟨rfl, rfl, rfl, by decide +kernel, rfl, by decide +kernel, by decide +kernel⟩
theorem bi12 (Fd : FnP K "is_plan" (top 38) f fd) : Binds K fd ["thing"] [] := Fd.bindsN fun _ _ _ _ _ _ us hl => match us, hl with | [_], _ => rfl
theorem ok12 (hK : F.K = K) (fr : Free K mg) (xs : Xs P w K mg base F) (DD : Defs K mg base F) (c0 : AllC P w K mg base F n r) (Fd : FnP K "is_plan" (top 38) f fd) (hm : mg "is_plan" = some (.ref f)) : CalleeP P w K mg base F (n + 3) "is_plan" 1 (step r 12) :=
  have c := c0.mono (k := n + 2) (by omega); def_okX (ps := ["thing"]) (m := (b_is_plan (r 6) (r 1))) hK Fd sc12 hm (bi12 Fd) fun cdv A outer s H E g po hcd tk => ev_scons (ev_sif (L2.PW.pt (ev_tor (ev_tnot (gtru g (gisi g "tuple" fr.f_isinstance fr.f_tuple (gvar 0)))) (ev_tor (gcmpT g .eq (gvar 0) (ev_tup (ev_nil))) (ev_tor1 (ev_tnot (gtru g (gisi g "str" fr.f_isinstance fr.f_str (gix g (by exact fun _ _ => rfl) (gvar 0) (ev_int))))))))) (ev_scons (gret (ev_bl)) (ev_snil)) (ev_snil)) (ev_scons (gasg (gvar 0) (gts g 1 (gtc (gtn g 1) (gtl (gtn g 2))))) (ev_scons (ev_sif (gcmpT g .eq (gvar 1) (ev_str)) (ev_scons (gret (gcmp g .eq (gvar 2) (ev_lst (ev_nil)))) (ev_snil)) (ev_snil)) (ev_scons (ev_sif (L2.PW.pt (ev_tor (gcmpT g .ne (gvar 1) (ev_str)) (ev_tor (gcmpT g .ne (gblt (bLen_ok g.K) fr.f_len (gcons (gvar 2) (ev_nil))) (ev_int)) (ev_tor1 (ev_tnot (gtru g (gown g c.c1 (gcons (gix g (by exact fun _ _ => rfl) (gvar 2) (ev_int)) (ev_nil))))))))) (ev_scons (gret (ev_bl)) (ev_snil)) (ev_snil)) (ev_scons (gret (gblt (bAll_ok g.K g.calm) fr.f_all (gcons (gcomp g false [("one", 3)] (gseq g (gsl g (gvar 2) (ev_poS (ev_int)) (ev_poN))) (fun _ _ _ _ _ g1 => gtn g1 3) (fun _ _ _ _ _ g1 => ev_yes) (fun _ _ _ _ _ g1 => gor g1 (gcmp g1 .is (gvar 3) (ev_non)) (ev_one (gown g1 c.c6 (gcons (gvar 3) (ev_nil)))))) (ev_nil)))) (ev_snil)))))
theorem sc13 : FnScope N_are_wide ["conjunct", "low", "high"] (defScope (top 39)) := ⟨rfl, rfl, rfl, by decide +kernel, rfl, by decide +kernel, by decide +kernel⟩
theorem bi13 (Fd : FnP K "are_wide" (top 39) f fd) : Binds K fd ["conjunct", "low", "high"] [] := Fd.bindsN fun _ _ _ _ _ _ us hl => match us, hl with | [_, _, _], _ => rfl
theorem ok13 (hK : F.K = K) (fr : Free K mg) (xs : Xs P w K mg base F) (DD : Defs K mg base F) (c0 : AllC P w K mg base F n r) (Fd : FnP K "are_wide" (top 39) f fd) (hm : mg "are_wide" = some (.ref f)) : CalleeP P w K mg base F (n + 3) "are_wide" 3 (step r 13) :=
  have c := c0.mono (k := n + 2) (by omega); def_okX (ps := ["conjunct", "low", "high"]) (m := (b_are_wide (r 4))) hK Fd sc13 hm (bi13 Fd) fun cdv A outer s H E g po hcd tk => ev_scons (gasg (gvar 0) (gtt g 3 (gtc (gtn g 4) (gtc (gtn g 5) (gtc (gtn g 6) (ev_gnil)))))) (ev_scons (gasg (gown g c.c4 (gcons (gvar 6) (ev_nil))) (gtn g 3)) (ev_scons (ev_sif (gcmpT g .eq (gvar 4) (ev_str)) (ev_scons (gret (gand g (gor g (gcmp g .is (gvar 1) (ev_non)) (ev_one (gcmpM g .le (gvar 1) (gvar 3)))) (ev_one (gor g (gcmp g .is (gvar 2) (ev_non)) (ev_one (gcmpM g .le (gvar 3) (gvar 2))))))) (ev_snil)) (ev_snil)) (ev_scons (ev_sif (gcmpT g .eq (gvar 4) (ev_str)) (ev_scons (gret (gand g (gor g (gcmp g .is (gvar 1) (ev_non)) (ev_one (gcmpM g .lt (gix g (by exact fun _ _ => rfl) (gvar 1) (ev_int)) (gix g (by exact fun _ _ => rfl) (gvar 3) (ev_int))))) (ev_one (gor g (gcmp g .is (gvar 2) (ev_non)) (ev_one (gcmpM g .le (gvar 3) (gvar 2))))))) (ev_snil)) (ev_snil)) (ev_scons (gret (gand g (gor g (gcmp g .is (gvar 1) (ev_non)) (ev_one (gcmpM g .le (gvar 1) (gvar 3)))) (ev_one (gor g (gcmp g .is (gvar 2) (ev_non)) (ev_one (gcmpM g .gt (gix g (by exact fun _ _ => rfl) (gvar 2) (ev_int)) (gix g (by exact fun _ _ => rfl) (gvar 3) (ev_int)))))))) (ev_snil)))))
theorem sc14 : FnScope N_lets_plan ["stands", "test", "thing"] (defScope (top 40)) := ⟨rfl, rfl, rfl, by decide +kernel, rfl, by decide +kernel, by decide +kernel⟩
theorem bi14 (Fd : FnP K "lets_plan" (top 40) f fd) : Binds K fd ["stands", "test", "thing"] [] := Fd.bindsN fun _ _ _ _ _ _ us hl => match us, hl with | [_, _, _], _ => rfl
theorem ok14 (hK : F.K = K) (fr : Free K mg) (xs : Xs P w K mg base F) (DD : Defs K mg base F) (c0 : AllC P w K mg base F n r) (Fd : FnP K "lets_plan" (top 40) f fd) (hm : mg "lets_plan" = some (.ref f)) : CalleeP P w K mg base F (n + 3) "lets_plan" 3 (step r 14) :=
  have c := c0.mono (k := n + 2) (by omega); def_okX (ps := ["stands", "test", "thing"]) (m := (b_lets_plan (r 13) (r 5) (r 11) (r 7) (r 12) (r 9))) hK Fd sc14 hm (bi14 Fd) fun cdv A outer s H E g po hcd tk => ev_scons (gexp (gown g c.c5 (gcons (gown g c.c12 (gcons (gvar 2) (ev_nil))) (gcons (ev_str) (gcons (gneg g (ev_int)) (ev_nil)))))) (ev_scons (gasg (gvar 2) (gts g 1 (gtc (gtn g 5) (gtl (gtn g 9))))) (ev_scons (ev_sif (gcmpT g .eq (gvar 5) (ev_str)) (ev_scons (gret (ev_bl)) (ev_snil)) (ev_snil)) (ev_scons (gasg (gvar 9) (gtt g 3 (gtc (gtn g 6) (gtc (gtn g 7) (gtc (gtn g 8) (ev_gnil)))))) (ev_scons (gasgC g false 3 [("index", 10)] (gseq g (gix g (by exact fun _ _ => rfl) (gvar 0) (ev_int))) (fun _ _ _ _ _ g1 => gtn g1 10) (fun _ _ _ _ _ g1 => ev_if1 (gcmpT g1 .eq (gix g1 (by exact fun _ _ => rfl) (gvar 10) (ev_int)) (gvar 6))) (fun _ _ _ _ _ g1 => gvar 10)) (ev_scons (gexp (gown g c.c5 (gcons (gcmp g .ne (gvar 3) (ev_lst (ev_nil))) (gcons (ev_str) (gcons (gneg g (ev_int)) (ev_nil)))))) (ev_scons (gasg (gown g c.c7 (gcons (gvar 1) (ev_nil))) (gtn g 4)) (ev_scons (gexp (gown g c.c5 (gcons (gown g c.c9 (gcons (gix g (by exact fun _ _ => rfl) (gvar 3) (ev_int)) (gcons (gvar 4) (ev_nil)))) (gcons (ev_str) (gcons (gneg g (ev_int)) (ev_nil)))))) (ev_scons (gexp (gown g c.c5 (gcons (gblt (bAny_ok g.K g.calm) fr.f_any (gcons (gcomp g false [("one", 11)] (gseq g (gown g c.c11 (gcons (gix g (by exact fun _ _ => rfl) (gvar 3) (ev_int)) (gcons (gvar 4) (ev_nil))))) (fun _ _ _ _ _ g1 => gtn g1 11) (fun _ _ _ _ _ g1 => ev_yes) (fun _ _ _ _ _ g1 => gown g1 c.c13 (gcons (gvar 11) (gcons (gvar 7) (gcons (gvar 8) (ev_nil)))))) (ev_nil))) (gcons (ev_str) (gcons (gneg g (ev_int)) (ev_nil)))))) (ev_scons (gret (ev_bl)) (ev_snil))))))))))
theorem sc15 : FnScope G4.N__law_feed ["_law_script"] (defScope (top 42)) := ⟨rfl, rfl, rfl, by decide +kernel, rfl, by decide +kernel, by decide +kernel⟩
theorem bi15 (Fd : FnP K "_law_feed" (top 42) f fd) : Binds K fd ["_law_script"] [] := Fd.bindsN fun _ _ _ _ _ _ us hl => match us, hl with | [_], _ => rfl
theorem ok15 (hK : F.K = K) (fr : Free K mg) (xs : Xs P w K mg base F) (DD : Defs K mg base F) (c0 : AllC P w K mg base F n r) (Fd : FnP K "_law_feed" (top 42) f fd) (hm : mg "_law_feed" = some (.ref f)) : CalleeP P w K mg base F (n + 3) "_law_feed" 1 (step r 15) :=
  have c := c0.mono (k := n + 2) (by omega); def_okX (ps := ["_law_script"]) (m := (G4.b__law_feed)) hK Fd sc15 hm (bi15 Fd) fun cdv A outer s H E g po hcd tk => ev_scons (gret (ev_lso (gcons (gbty (bLst_ok g.K) fr.f_list (gcons (gsl g (gvar 0) (ev_poN) (ev_poS (ev_int))) (ev_nil))) (gcons (ev_int) (gcons (ev_int) (gcons (ev_int) (ev_nil))))))) (ev_snil)
theorem sc16 : FnScope G4.N__law_draw ["_law_feed_here", "_law_many"] (defScope (top 43)) := ⟨rfl, rfl, rfl, by decide +kernel, rfl, by decide +kernel, by decide +kernel⟩
theorem bi16 (Fd : FnP K "_law_draw" (top 43) f fd) : Binds K fd ["_law_feed_here", "_law_many"] [] := Fd.bindsN fun _ _ _ _ _ _ us hl => match us, hl with | [_, _], _ => rfl
theorem ok16 (hK : F.K = K) (fr : Free K mg) (xs : Xs P w K mg base F) (DD : Defs K mg base F) (c0 : AllC P w K mg base F n r) (Fd : FnP K "_law_draw" (top 43) f fd) (hm : mg "_law_draw" = some (.ref f)) : CalleeP P w K mg base F (n + 3) "_law_draw" 2 (step r 16) :=
  have c := c0.mono (k := n + 2) (by omega); def_okX (ps := ["_law_feed_here", "_law_many"]) (m := (G4.b__law_draw)) hK Fd sc16 hm (bi16 Fd) fun cdv A outer s H E g po hcd tk => ev_scons (gset g fSetL_ok (gadd g (gix g (by exact fun _ _ => rfl) (gvar 0) (ev_int)) (ev_int)) (gvar 0) (ev_int)) (ev_scons (ev_while po (L2.PW.pt (ev_tand (gcmpT g .eq (gix g (by exact fun _ _ => rfl) (gvar 0) (ev_int)) (ev_int)) (ev_tand1 (gcmpT g .lt (gix g (by exact fun _ _ => rfl) (gvar 0) (ev_int)) (gblt (bLen_ok g.K) fr.f_len (gcons (gix g (by exact fun _ _ => rfl) (gvar 0) (ev_int)) (ev_nil))))))) (ev_scons (gasg (gblt bAbs_ok fr.f_abs (gcons (gix g (by exact fun _ _ => rfl) (gix g (by exact fun _ _ => rfl) (gvar 0) (ev_int)) (gix g (by exact fun _ _ => rfl) (gvar 0) (ev_int))) (ev_nil))) (gtn g 2)) (ev_scons (gset g fSetL_ok (gmul g (gvar 2) (gbty bInt_ok fr.f_int (gcons (gcmp g .ge (gvar 2) (gpow g (ev_int) (ev_int))) (ev_nil)))) (gvar 0) (ev_int)) (ev_scons (gset g fSetL_ok (gadd g (gix g (by exact fun _ _ => rfl) (gvar 0) (ev_int)) (ev_int)) (gvar 0) (ev_int)) (ev_snil))))) (ev_scons (ev_sif (gcmpT g .gt (gix g (by exact fun _ _ => rfl) (gvar 0) (ev_int)) (ev_int)) (ev_scons (gasg (gmod g (gix g (by exact fun _ _ => rfl) (gvar 0) (ev_int)) (gvar 1)) (gtn g 4)) (ev_scons (gset g fSetL_ok (gdiv g (gix g (by exact fun _ _ => rfl) (gvar 0) (ev_int)) (gvar 1)) (gvar 0) (ev_int)) (ev_scons (gret (gvar 4)) (ev_snil)))) (ev_snil)) (ev_scons (gasg (ev_if (gcmpT g .ne (gix g (by exact fun _ _ => rfl) (gvar 0) (ev_int)) (ev_lst (ev_nil))) (gix g (by exact fun _ _ => rfl) (gix g (by exact fun _ _ => rfl) (gvar 0) (ev_int)) (gmod g (gix g (by exact fun _ _ => rfl) (gvar 0) (ev_int)) (gblt (bLen_ok g.K) fr.f_len (gcons (gix g (by exact fun _ _ => rfl) (gvar 0) (ev_int)) (ev_nil))))) (ev_int)) (gtn g 2)) (ev_scons (gasg (gmod g (gpow g (gadd g (gadd g (gmod g (gvar 2) (ev_int)) (gmul g (gmul g (ev_int) (gix g (by exact fun _ _ => rfl) (gvar 0) (ev_int))) (gadd g (gix g (by exact fun _ _ => rfl) (gvar 0) (ev_int)) (ev_int)))) (ev_int)) (ev_int)) (ev_int)) (gtn g 3)) (ev_scons (gret (gmod g (gdiv g (gmod g (gpow g (gadd g (gvar 3) (gmul g (ev_int) (gix g (by exact fun _ _ => rfl) (gvar 0) (ev_int)))) (ev_int)) (ev_int)) (ev_int)) (gvar 1))) (ev_snil))))))
theorem sc17 : FnScope G4.N__law_plain ["_law_feed_here"] (defScope (top 44)) := ⟨rfl, rfl, rfl, by decide +kernel, rfl, by decide +kernel, by decide +kernel⟩
theorem bi17 (Fd : FnP K "_law_plain" (top 44) f fd) : Binds K fd ["_law_feed_here"] [] := Fd.bindsN fun _ _ _ _ _ _ us hl => match us, hl with | [_], _ => rfl
theorem ok17 (hK : F.K = K) (fr : Free K mg) (xs : Xs P w K mg base F) (DD : Defs K mg base F) (c0 : AllC P w K mg base F n r) (Fd : FnP K "_law_plain" (top 44) f fd) (hm : mg "_law_plain" = some (.ref f)) : CalleeP P w K mg base F (n + 3) "_law_plain" 1 (step r 17) :=
  have c := c0.mono (k := n + 2) (by omega); def_okX (ps := ["_law_feed_here"]) (m := (G4.b__law_plain (r 16))) hK Fd sc17 hm (bi17 Fd) fun cdv A outer s H E g po hcd tk => ev_scons (gret (gix g (by exact fun _ _ => rfl) (ev_lst (gcons (ev_int) (gcons (ev_int) (gcons (ev_int) (gcons (gneg g (ev_int)) (gcons (ev_bl) (gcons (ev_bl) (gcons (ev_str) (gcons (ev_str) (gcons (ev_str) (gcons (ev_int) (gcons (ev_str) (ev_nil))))))))))))) (gown g c.c16 (gcons (gvar 0) (gcons (ev_int) (ev_nil)))))) (ev_snil)
theorem sc18 : FnScope G4.N__law_tree ["_law_parts"] (defScope (top 45)) := ⟨rfl, rfl, rfl, by decide +kernel, rfl, by decide +kernel, by decide +kernel⟩
theorem bi18 (Fd : FnP K "_law_tree" (top 45) f fd) : Binds K fd ["_law_parts"] [] := Fd.bindsN fun _ _ _ _ _ _ us hl => match us, hl with | [_], _ => rfl
theorem ok18 (hK : F.K = K) (fr : Free K mg) (xs : Xs P w K mg base F) (DD : Defs K mg base F) (c0 : AllC P w K mg base F n r) (Fd : FnP K "_law_tree" (top 45) f fd) (hm : mg "_law_tree" = some (.ref f)) : CalleeP P w K mg base F (n + 3) "_law_tree" 1 (step r 18) :=
  have c := c0.mono (k := n + 2) (by omega); def_okX (ps := ["_law_parts"]) (m := (G4.b__law_tree)) hK Fd sc18 hm (bi18 Fd) fun cdv A outer s H E g po hcd tk => ev_scons (gret (ev_tup (gcons (ev_str) (gcons (gbty (bTup_ok g.K) fr.f_tuple (gcons (gsortItems g false fr.f_sorted (gvar 0)) (ev_nil))) (ev_nil))))) (ev_snil)
theorem sc19 : FnScope G4.N__law_leaf ["_law_feed_here"] (defScope (top 46)) := ⟨rfl, rfl, rfl, by decide +kernel, rfl, by decide +kernel, by decide +kernel⟩
theorem bi19 (Fd : FnP K "_law_leaf" (top 46) f fd) : Binds K fd ["_law_feed_here"] [] := Fd.bindsN fun _ _ _ _ _ _ us hl => match us, hl with | [_], _ => rfl
theorem ok19 (hK : F.K = K) (fr : Free K mg) (xs : Xs P w K mg base F) (DD : Defs K mg base F) (c0 : AllC P w K mg base F n r) (Fd : FnP K "_law_leaf" (top 46) f fd) (hm : mg "_law_leaf" = some (.ref f)) : CalleeP P w K mg base F (n + 3) "_law_leaf" 1 (step r 19) :=
  have c := c0.mono (k := n + 2) (by omega); def_okX (ps := ["_law_feed_here"]) (m := (G4.b__law_leaf (r 16) (r 17) (r 18))) hK Fd sc19 hm (bi19 Fd) fun cdv A outer s H E g po hcd tk => ev_scons (gasg (gdnew) (gtn g 1)) (ev_scons (gfor g po (gseq g (ev_tup (gcons (ev_str) (gcons (ev_str) (gcons (ev_str) (ev_nil)))))) (gtn g 2) (ev_scons (gasg (gown g c.c16 (gcons (gvar 0) (gcons (ev_int) (ev_nil)))) (gtn g 3)) (ev_scons (ev_sif (gcmpT g .in_ (gvar 3) (ev_tup (gcons (ev_int) (gcons (ev_int) (gcons (ev_int) (ev_nil)))))) (ev_scons (gset g (fSetA_ok g.un1) (gown g c.c17 (gcons (gvar 0) (ev_nil))) (gvar 1) (gvar 2)) (ev_snil)) (ev_snil)) (ev_scons (ev_sif (gcmpT g .eq (gvar 3) (ev_int)) (ev_scons (gset g (fSetA_ok g.un1) (ev_tup (gcons (ev_str) (gcons (gbty (bTup_ok g.K) fr.f_tuple (gcons (gcomp g false [("_law_k", 5)] (grng1 g fr.f_range (gown g c.c16 (gcons (gvar 0) (gcons (ev_int) (ev_nil))))) (fun _ _ _ _ _ g1 => gtn g1 5) (fun _ _ _ _ _ g1 => ev_yes) (fun _ _ _ _ _ g1 => gown g1 c.c17 (gcons (gvar 0) (ev_nil)))) (ev_nil))) (ev_nil)))) (gvar 1) (gvar 2)) (ev_snil)) (ev_snil)) (ev_scons (ev_sif (gcmpT g .in_ (gvar 3) (ev_tup (gcons (ev_int) (gcons (ev_int) (ev_nil))))) (ev_scons (gasgC g false 4 [("_law_k", 5)] (grng1 g fr.f_range (gadd g (ev_int) (gown g c.c16 (gcons (gvar 0) (gcons (ev_int) (ev_nil)))))) (fun _ _ _ _ _ g1 => gtn g1 5) (fun _ _ _ _ _ g1 => ev_yes) (fun _ _ _ _ _ g1 => gown g1 c.c18 (gcons (gdisp g1 (gd1 (gown g1 c.c17 (gcons (gvar 0) (ev_nil))) (gd1 (gown g1 c.c17 (gcons (gvar 0) (ev_nil))) (gd0)))) (ev_nil)))) (ev_scons (gset g (fSetA_ok g.un1) (ev_tup (gcons (ev_str) (gcons (gbty (bTup_ok g.K) fr.f_tuple (gcons (gadd g (gvar 4) (gmulL g (ev_lst (gcons (gown g c.c17 (gcons (gvar 0) (ev_nil))) (ev_nil))) (gown g c.c16 (gcons (gvar 0) (gcons (ev_int) (ev_nil)))))) (ev_nil))) (ev_nil)))) (gvar 1) (gvar 2)) (ev_snil))) (ev_snil)) (ev_scons (ev_sif (gcmpT g .eq (gvar 3) (ev_int)) (ev_scons (gasg (gsl g (ev_lst (gcons (ev_str) (gcons (ev_str) (gcons (ev_str) (ev_nil))))) (ev_poN) (ev_poS (gadd g (ev_int) (gown g c.c16 (gcons (gvar 0) (gcons (ev_int) (ev_nil))))))) (gtn g 4)) (ev_scons (gset g (fSetA_ok g.un1) (gown g c.c18 (gcons (gbty (bDict_ok g.K g.calm) fr.f_dict (gcons (gcomp g false [("_law_one", 6)] (gseq g (gvar 4)) (fun _ _ _ _ _ g1 => gtn g1 6) (fun _ _ _ _ _ g1 => ev_yes) (fun _ _ _ _ _ g1 => ev_tup (gcons (gvar 6) (gcons (gown g1 c.c17 (gcons (gvar 0) (ev_nil))) (ev_nil))))) (ev_nil))) (ev_nil))) (gvar 1) (gvar 2)) (ev_snil))) (ev_snil)) (ev_snil))))))) (ev_scons (gret (gown g c.c18 (gcons (gvar 1) (ev_nil)))) (ev_snil)))
theorem sc20 : FnScope G4.N__law_route ["_law_feed_here"] (defScope (top 47)) := ⟨rfl, rfl, rfl, by decide +kernel, rfl, by decide +kernel, by decide +kernel⟩
theorem bi20 (Fd : FnP K "_law_route" (top 47) f fd) : Binds K fd ["_law_feed_here"] [] := Fd.bindsN fun _ _ _ _ _ _ us hl => match us, hl with | [_], _ => rfl
theorem ok20 (hK : F.K = K) (fr : Free K mg) (xs : Xs P w K mg base F) (DD : Defs K mg base F) (c0 : AllC P w K mg base F n r) (Fd : FnP K "_law_route" (top 47) f fd) (hm : mg "_law_route" = some (.ref f)) : CalleeP P w K mg base F (n + 3) "_law_route" 1 (step r 20) :=
  have c := c0.mono (k := n + 2) (by omega); def_okX (ps := ["_law_feed_here"]) (m := (G4.b__law_route (r 16) (r 17))) hK Fd sc20 hm (bi20 Fd) fun cdv A outer s H E g po hcd tk => ev_scons (gpar g 2 3 (gcons (ev_tup (gcons (ev_str) (gcons (gix g (by exact fun _ _ => rfl) (ev_str) (gown g c.c16 (gcons (gvar 0) (gcons (ev_int) (ev_nil))))) (ev_nil)))) (gcons (ev_tup (gcons (ev_str) (gcons (gix g (by exact fun _ _ => rfl) (ev_str) (gown g c.c16 (gcons (gvar 0) (gcons (ev_int) (ev_nil))))) (ev_nil)))) (ev_nil)))) (ev_scons (gasg (ev_lst (gcons (ev_tup (gcons (gvar 2) (ev_nil))) (gcons (ev_tup (gcons (gvar 2) (ev_nil))) (gcons (ev_tup (gcons (gvar 2) (gcons (ev_tup (gcons (ev_str) (ev_nil))) (ev_nil)))) (gcons (ev_tup (gcons (gvar 2) (gcons (ev_tup (gcons (ev_str) (ev_nil))) (gcons (gvar 3) (ev_nil))))) (gcons (ev_tup (gcons (gvar 2) (gcons (ev_tup (gcons (ev_str) (gcons (gown g c.c16 (gcons (gvar 0) (gcons (ev_int) (ev_nil)))) (ev_nil)))) (ev_nil)))) (ev_nil))))))) (gtn g 1)) (ev_scons (gasg (gadd g (gvar 1) (ev_lst (gcons (ev_tup (gcons (gvar 2) (gcons (gvar 3) (ev_nil)))) (gcons (ev_tup (gcons (gvar 2) (gcons (ev_tup (gcons (ev_str) (gcons (ev_str) (gcons (gown g c.c17 (gcons (gvar 0) (ev_nil))) (ev_nil))))) (gcons (gvar 3) (ev_nil))))) (ev_nil))))) (gtn g 1)) (ev_scons (gret (gix g (by exact fun _ _ => rfl) (gvar 1) (gown g c.c16 (gcons (gvar 0) (gcons (ev_int) (ev_nil)))))) (ev_snil))))
theorem sc21 : FnScope G4.N__law_wish ["_law_feed_here", "_law_deep"] (defScope (top 48)) := ⟨rfl, rfl, rfl, by decide +kernel, rfl, by decide +kernel, by decide +kernel⟩
theorem bi21 (Fd : FnP K "_law_wish" (top 48) f fd) : Binds K fd ["_law_feed_here", "_law_deep"] [] := Fd.bindsN fun _ _ _ _ _ _ us hl => match us, hl with | [_, _], _ => rfl
theorem ok21 (hK : F.K = K) (fr : Free K mg) (xs : Xs P w K mg base F) (DD : Defs K mg base F) (c0 : AllC P w K mg base F n r) (Fd : FnP K "_law_wish" (top 48) f fd) (hm : mg "_law_wish" = some (.ref f)) : CalleeP P w K mg base F (n + 3) "_law_wish" 2 (step r 21) :=
  have c := c0.mono (k := n + 2) (by omega); def_okX (ps := ["_law_feed_here", "_law_deep"]) (m := (G4.b__law_wish (r 16) (r 17) (r 20) (r 21))) hK Fd sc21 hm (bi21 Fd) fun cdv A outer s H E g po hcd tk => ev_scons (gasg (gown g c.c16 (gcons (gvar 0) (gcons (ev_if (gcmpT g .gt (gvar 1) (ev_int)) (ev_int) (ev_int)) (ev_nil)))) (gtn g 2)) (ev_scons (ev_sif (gcmpT g .eq (gvar 2) (ev_int)) (ev_scons (gret (ev_tup (gcons (ev_str) (gcons (gown g c.c20 (gcons (gvar 0) (ev_nil))) (ev_nil))))) (ev_snil)) (ev_snil)) (ev_scons (ev_sif (gcmpT g .in_ (gvar 2) (ev_tup (gcons (ev_int) (gcons (ev_int) (ev_nil))))) (ev_scons (gasg (ev_if (gcmpT g .gt (gown g c.c16 (gcons (gvar 0) (gcons (ev_int) (ev_nil)))) (ev_int)) (gown g c.c17 (gcons (gvar 0) (ev_nil))) (ev_tup (gcons (ev_str) (gcons (ev_tup (gcons (gown g c.c17 (gcons (gvar 0) (ev_nil))) (ev_nil))) (ev_nil))))) (gtn g 3)) (ev_scons (gret (ev_tup (gcons (ev_str) (gcons (gown g c.c20 (gcons (gvar 0) (ev_nil))) (gcons (gvar 3) (ev_nil)))))) (ev_snil))) (ev_snil)) (ev_scons (ev_sif (gcmpT g .in_ (gvar 2) (ev_tup (gcons (ev_int) (gcons (ev_int) (ev_nil))))) (ev_scons (gret (ev_tup (gcons (gix g (by exact fun _ _ => rfl) (ev_lst (gcons (ev_str) (gcons (ev_str) (ev_nil)))) (gsub g (gvar 2) (ev_int))) (gcons (gown g c.c20 (gcons (gvar 0) (ev_nil))) (gcons (gown g c.c17 (gcons (gvar 0) (ev_nil))) (ev_nil)))))) (ev_snil)) (ev_snil)) (ev_scons (ev_sif (gcmpT g .eq (gvar 2) (ev_int)) (ev_scons (gret (ev_tup (gcons (ev_str) (gcons (gown g c.c21 (gcons (gvar 0) (gcons (gsub g (gvar 1) (ev_int)) (ev_nil)))) (ev_nil))))) (ev_snil)) (ev_snil)) (ev_scons (gret (ev_tup (gcons (gix g (by exact fun _ _ => rfl) (ev_lst (gcons (ev_str) (gcons (ev_str) (ev_nil)))) (gsub g (gvar 2) (ev_int))) (gcons (gbty (bTup_ok g.K) fr.f_tuple (gcons (gcomp g false [("_law_k", 4)] (grng1 g fr.f_range (gown g c.c16 (gcons (gvar 0) (gcons (ev_int) (ev_nil))))) (fun _ _ _ _ _ g1 => gtn g1 4) (fun _ _ _ _ _ g1 => ev_yes) (fun _ _ _ _ _ g1 => gown g1 c.c21 (gcons (gvar 0) (gcons (gsub g1 (gvar 1) (ev_int)) (ev_nil))))) (ev_nil))) (ev_nil))))) (ev_snil))))))
theorem sc22 : FnScope N__law_sign ["_law_plain_here"] (defScope (top 49)) := ⟨rfl, rfl, rfl, by decide +kernel, rfl, by decide +kernel, by decide +kernel⟩
theorem bi22 (Fd : FnP K "_law_sign" (top 49) f fd) : Binds K fd ["_law_plain_here"] [] := Fd.bindsN fun _ _ _ _ _ _ us hl => match us, hl with | [_], _ => rfl
theorem ok22 (hK : F.K = K) (fr : Free K mg) (xs : Xs P w K mg base F) (DD : Defs K mg base F) (c0 : AllC P w K mg base F n r) (Fd : FnP K "_law_sign" (top 49) f fd) (hm : mg "_law_sign" = some (.ref f)) : CalleeP P w K mg base F (n + 3) "_law_sign" 1 (step r 22) :=
  have c := c0.mono (k := n + 2) (by omega); def_okX (ps := ["_law_plain_here"]) (m := (b__law_sign)) hK Fd sc22 hm (bi22 Fd) fun cdv A outer s H E g po hcd tk => ev_scons (ev_sif (gtru g (gisi g "bool" fr.f_isinstance fr.f_bool (gvar 0))) (ev_scons (gret (ev_tup (gcons (ev_int) (gcons (gvar 0) (ev_nil))))) (ev_snil)) (ev_snil)) (ev_scons (gret (ev_if (gtru g (gisi g "str" fr.f_isinstance fr.f_str (gvar 0))) (ev_tup (gcons (ev_int) (gcons (gvar 0) (ev_nil)))) (ev_tup (gcons (ev_int) (gcons (gvar 0) (ev_nil)))))) (ev_snil))
theorem sc23 : FnScope G4.N__law_slate ["_law_feed_here"] (defScope (top 50)) := ⟨rfl, rfl, rfl, by decide +kernel, rfl, by decide +kernel, by decide +kernel⟩
theorem bi23 (Fd : FnP K "_law_slate" (top 50) f fd) : Binds K fd ["_law_feed_here"] [] := Fd.bindsN fun _ _ _ _ _ _ us hl => match us, hl with | [_], _ => rfl
theorem ok23 (hK : F.K = K) (fr : Free K mg) (xs : Xs P w K mg base F) (DD : Defs K mg base F) (c0 : AllC P w K mg base F n r) (Fd : FnP K "_law_slate" (top 50) f fd) (hm : mg "_law_slate" = some (.ref f)) : CalleeP P w K mg base F (n + 3) "_law_slate" 1 (step r 23) :=
  have c := c0.mono (k := n + 2) (by omega); def_okX (ps := ["_law_feed_here"]) (m := (G4.b__law_slate (r 16) (r 20) (r 21))) hK Fd sc23 hm (bi23 Fd) fun cdv A outer s H E g po hcd tk => ev_scons (gasg (ev_if (gcmpT g .eq (gown g c.c16 (gcons (gvar 0) (gcons (ev_int) (ev_nil)))) (ev_int)) (gown g c.c21 (gcons (gvar 0) (gcons (ev_int) (ev_nil)))) (ev_non)) (gtn g 1)) (ev_scons (gret (ev_tup (gcons (gix g (by exact fun _ _ => rfl) (ev_lst (gcons (ev_str) (gcons (ev_str) (gcons (ev_str) (gcons (ev_str) (ev_nil)))))) (gown g c.c16 (gcons (gvar 0) (gcons (ev_int) (ev_nil))))) (gcons (gown g c.c20 (gcons (gvar 0) (ev_nil))) (gcons (gcmp g .eq (gown g c.c16 (gcons (gvar 0) (gcons (ev_int) (ev_nil)))) (ev_int)) (gcons (gvar 1) (ev_nil))))))) (ev_snil))
theorem sc24 : FnScope G4.N__law_bent ["_law_feed_here", "_law_what", "_law_deep"] (defScope (top 51)) := ⟨rfl, rfl, rfl, by decide +kernel, rfl, by decide +kernel, by decide +kernel⟩
theorem bi24 (Fd : FnP K "_law_bent" (top 51) f fd) : Binds K fd ["_law_feed_here", "_law_what", "_law_deep"] [] := Fd.bindsN fun _ _ _ _ _ _ us hl => match us, hl with | [_, _, _], _ => rfl
theorem ok24 (hK : F.K = K) (fr : Free K mg) (xs : Xs P w K mg base F) (DD : Defs K mg base F) (c0 : AllC P w K mg base F n r) (Fd : FnP K "_law_bent" (top 51) f fd) (hm : mg "_law_bent" = some (.ref f)) : CalleeP P w K mg base F (n + 3) "_law_bent" 3 (step r 24) :=
  have c := c0.mono (k := n + 2) (by omega); def_okX (ps := ["_law_feed_here", "_law_what", "_law_deep"]) (m := (G4.b__law_bent (r 24) (r 16))) hK Fd sc24 hm (bi24 Fd) fun cdv A outer s H E g po hcd tk => ev_scons (gasg (gown g c.c16 (gcons (gvar 0) (gcons (ev_int) (ev_nil)))) (gtn g 3)) (ev_scons (ev_sif (L2.PW.pt (ev_tand (gtru g (gisi g "tuple" fr.f_isinstance fr.f_tuple (gvar 1))) (ev_tand (gcmpT g .ne (gvar 1) (ev_tup (ev_nil))) (ev_tand (gcmpT g .gt (gvar 2) (ev_int)) (ev_tand1 (gcmpT g .gt (gvar 3) (ev_int))))))) (ev_scons (gasg (gown g c.c16 (gcons (gvar 0) (gcons (gblt (bLen_ok g.K) fr.f_len (gcons (gvar 1) (ev_nil))) (ev_nil)))) (gtn g 4)) (ev_scons (gret (gadd g (gadd g (gsl g (gvar 1) (ev_poN) (ev_poS (gvar 4))) (ev_tup (gcons (gown g c.c24 (gcons (gvar 0) (gcons (gix g (by exact fun _ _ => rfl) (gvar 1) (gvar 4)) (gcons (gsub g (gvar 2) (ev_int)) (ev_nil))))) (ev_nil)))) (gsl g (gvar 1) (ev_poS (gadd g (gvar 4) (ev_int))) (ev_poN)))) (ev_snil))) (ev_snil)) (ev_scons (ev_sif (gtru g (gisi g "tuple" fr.f_isinstance fr.f_tuple (gvar 1))) (ev_scons (gasg (gown g c.c16 (gcons (gvar 0) (gcons (gadd g (gblt (bLen_ok g.K) fr.f_len (gcons (gvar 1) (ev_nil))) (ev_int)) (ev_nil)))) (gtn g 4)) (ev_scons (gasg (gix g (by exact fun _ _ => rfl) (ev_lst (gcons (ev_int) (gcons (gneg g (ev_int)) (gcons (ev_tup (ev_nil)) (gcons (ev_non) (gcons (ev_bl) (gcons (ev_str) (gcons (ev_tup (gcons (ev_str) (gcons (ev_tup (ev_nil)) (ev_nil)))) (gcons (ev_tup (gcons (ev_str) (gcons (ev_tup (ev_nil)) (ev_nil)))) (ev_nil)))))))))) (gown g c.c16 (gcons (gvar 0) (gcons (ev_int) (ev_nil))))) (gtn g 5)) (ev_scons (gasg (ev_lst (gcons (gadd g (gadd g (gsl g (gvar 1) (ev_poN) (ev_poS (gvar 4))) (ev_tup (gcons (gvar 5) (ev_nil)))) (gsl g (gvar 1) (ev_poS (gvar 4)) (ev_poN))) (gcons (gadd g (gsl g (gvar 1) (ev_poN) (ev_poS (gvar 4))) (gsl g (gvar 1) (ev_poS (gadd g (gvar 4) (ev_int))) (ev_poN))) (gcons (gadd g (gadd g (gsl g (gvar 1) (ev_poN) (ev_poS (gvar 4))) (ev_tup (gcons (gvar 5) (ev_nil)))) (gsl g (gvar 1) (ev_poS (gadd g (gvar 4) (ev_int))) (ev_poN))) (ev_nil))))) (gtn g 6)) (ev_scons (gret (gix g (by exact fun _ _ => rfl) (gadd g (gvar 6) (ev_lst (gcons (gbty (bLst_ok g.K) fr.f_list (gcons (gvar 1) (ev_nil))) (gcons (gadd g (gvar 1) (gsl g (gvar 1) (ev_poS (gneg g (ev_int))) (ev_poN))) (gcons (grev g (gvar 1)) (ev_nil)))))) (gown g c.c16 (gcons (gvar 0) (gcons (ev_int) (ev_nil)))))) (ev_snil))))) (ev_snil)) (ev_scons (ev_sif (gtru g (gisi g "str" fr.f_isinstance fr.f_str (gvar 1))) (ev_scons (gret (gix g (by exact fun _ _ => rfl) (ev_lst (gcons (ev_str) (gcons (ev_str) (gcons (ev_str) (gcons (ev_str) (gcons (ev_str) (gcons (ev_str) (gcons (ev_str) (gcons (ev_str) (gcons (ev_int) (gcons (ev_str) (ev_nil)))))))))))) (gown g c.c16 (gcons (gvar 0) (gcons (ev_int) (ev_nil)))))) (ev_snil)) (ev_snil)) (ev_scons (ev_sif (L2.PW.pt (ev_tor (ev_tnot (gtru g (gisi g "int" fr.f_isinstance fr.f_int (gvar 1)))) (ev_tor1 (gtru g (gisi g "bool" fr.f_isinstance fr.f_bool (gvar 1)))))) (ev_scons (gret (gix g (by exact fun _ _ => rfl) (ev_lst (gcons (ev_int) (gcons (ev_tup (ev_nil)) (gcons (ev_str) (gcons (ev_int) (gcons (ev_bl) (gcons (ev_non) (gcons (ev_tup (gcons (ev_str) (gcons (ev_tup (gcons (ev_tup (gcons (ev_str) (gcons (ev_str) (ev_nil)))) (ev_nil))) (ev_nil)))) (ev_nil))))))))) (gown g c.c16 (gcons (gvar 0) (gcons (ev_int) (ev_nil)))))) (ev_snil)) (ev_snil)) (ev_scons (gret (gix g (by exact fun _ _ => rfl) (ev_lst (gcons (gadd g (gvar 1) (ev_int)) (gcons (gsub g (gvar 1) (ev_int)) (gcons (ev_int) (gcons (gcmp g .eq (gvar 1) (ev_int)) (gcons (gbty bStr_ok fr.f_str (gcons (gvar 1) (ev_nil))) (gcons (ev_non) (gcons (gsub g (ev_int) (gvar 1)) (gcons (gpow g (ev_int) (ev_int)) (ev_nil)))))))))) (gown g c.c16 (gcons (gvar 0) (gcons (ev_int) (ev_nil)))))) (ev_snil))))))
theorem sc25 : FnScope N__law_told ["_law_ask"] (defScope (top 52)) := ⟨rfl, rfl, rfl, by decide +kernel, rfl, by decide +kernel, by decide +kernel⟩
theorem bi25 (Fd : FnP K "_law_told" (top 52) f fd) : Binds K fd ["_law_ask"] [] := Fd.bindsN fun _ _ _ _ _ _ us hl => match us, hl with | [_], _ => rfl
theorem tl25 {X : Cx} (hK : F.K = X.K) (fr : Free X.K X.mg) (xs : Xs X.prog X.w X.K X.mg X.base F) (DD : Defs X.K X.mg X.base F) (un : X.A.units + 128 < cLine) : TellXL X F "_law_told" "_law_ask" "told" 1 5 2 1 1 2 (fun c => List.getD [true] c false) (fun c => List.getD [false] c false) (suL [su25_0_0]) := by
  obtain ⟨ga, fd, Fd, hm⟩ := DD.d25
  refine ⟨ga, fd, _, _, _, "odd", N__law_told, Fd, hm, bi25 Fd, sc25, rfl, vis_of (by kernel_rfl), rfl, by decide, by decide, exm_hL (t := th25) ⟨⟨rfl, ⟨xs.exm_NoPaper_FolioError, trivial⟩⟩, ⟨⟨rfl, ⟨xs.exm_NoPaper_LackError, trivial⟩⟩, trivial⟩⟩, by kernel_rfl, by kernel_rfl, by kernel_rfl, fun cdv q => ?_⟩
  refine tell_givesL (nf := "_law_found") (n := "e") rfl sc25.nd (by kernel_rfl) (by kernel_rfl) (by kernel_rfl) (by decide) (fun _ => rfl) (by decide) (fun _ => rfl) (fun _ => rfl) (fun _ => rfl) (fun _ => rfl) rfl (fun s H => by kernel_rfl) (fun s H => ⟨⟨glX, by kernel_rfl, .inl xs.m_FolioError⟩, ⟨glX, by kernel_rfl, .inl xs.m_LackError⟩⟩) fun s H => ?_
  have gz : GZ (tellCx X N__law_told "_law_told" (defScope (top 52)) ga cdv s H) F := ⟨hK, sc25.nd, show X.A.units + 3 + 64 < cLine by omega⟩
  exact fun a oe cls d pn hz hf => pss_suL rfl hz hf ⟨xs.e_NoPaper, trivial⟩ ⟨fun dd fs z => xv_scons (zasg 3 gz (xv_lst (zcons (zisi (Z := ⟨a, dd, 2, fs⟩) z fr.f_isinstance (nmOwn xs.m_NoPaper) xs.kit_NoPaper_NoPaper) (zcons (zisi (Z := ⟨a, dd, 2, fs⟩) z fr.f_isinstance (nmOwn xs.m_NoKey) xs.kit_NoPaper_NoKey) (zcons (zisi (Z := ⟨a, dd, 2, fs⟩) z fr.f_isinstance (nmOwn xs.m_NoLead) xs.kit_NoPaper_NoLead) (xv_nil)))))) (xv_scons (zasg 3 gz (zadd gz (zvar 3) (xv_lst (zcons (zisi (Z := ⟨a, dd, 2, fs⟩) z fr.f_isinstance (nmOwn xs.m_NoId) xs.kit_NoPaper_NoId) (zcons (zisi (Z := ⟨a, dd, 2, fs⟩) z fr.f_isinstance (nmOwn xs.m_NoMark) xs.kit_NoPaper_NoMark) (zcons (zisi (Z := ⟨a, dd, 2, fs⟩) z fr.f_isinstance (nmOwn xs.m_NoName) xs.kit_NoPaper_NoName) (xv_nil))))))) (xv_scons (zasg 4 gz (zisiT (Z := ⟨a, dd, 2, fs⟩) z fr.f_isinstance (.cons (nmOwn xs.m_NoChange) (.cons (nmOwn xs.m_NoTurn) (.cons (nmOwn xs.m_Behind) (.cons (nmOwn xs.m_NoText) (.cons (nmOwn xs.m_NoRow) (.cons (nmOwn xs.m_NoHouse) (.cons (nmOwn xs.m_NoStep) .nil))))))) xs.kitA_NoPaper_NoChange_NoTurn_Behind_NoText_NoRow_NoHouse_NoStep)) (xv_scons (xv_sif (L2.PW.pt (xv_tor (ztru gz (zvar 4)) (xv_tor (zneT gz (zcnt gz 3 ev_bl) (zint)) (xv_tor1 (zeqT gz (zisi (Z := ⟨a, dd, 2, fs⟩) z fr.f_isinstance (nmOwn xs.m_FolioError) xs.kit_NoPaper_FolioError) (zisi (Z := ⟨a, dd, 2, fs⟩) z fr.f_isinstance (nmOwn xs.m_LackError) xs.kit_NoPaper_LackError)))))) (xv_scons (zasg 3 gz (znev)) (xv_snil)) (xv_snil)) (xv_scons (xv_sif (L2.PW.pt (xv_tand (zinT gz (ev_bl) (vslv gz (vvar 3) (ev_poN) (ev_poS (ev_int)))) (xv_tand1 (ztru gz (zisi (Z := ⟨a, dd, 2, fs⟩) z fr.f_isinstance (nmBlt fr.f_ValueError) xs.kitT_NoPaper_ValueError))))) (xv_scons (zasg 1 gz (xv_if (ztru gz (zix gz (by exact fun _ _ => rfl) (zvar 3) (zint))) (xv_lst (zcons (zstr) (zcons (zfld (Z := ⟨a, dd, 2, fs⟩) z xs.no_NoPaper_word) (zcons (zfld (Z := ⟨a, dd, 2, fs⟩) z xs.no_NoPaper_at) (xv_nil))))) (xv_if (ztru gz (zix gz (by exact fun _ _ => rfl) (zvar 3) (zint))) (xv_lst (zcons (zstr) (zcons (znev) (zcons (znev) (xv_nil))))) (zvar 1)))) (xv_scons (zasg 1 gz (xv_if (ztru gz (zix gz (by exact fun _ _ => rfl) (zvar 3) (zint))) (xv_lst (zcons (zstr) (zcons (znev) (zcons (znev) (xv_nil))))) (zvar 1))) (xv_snil))) (xv_snil)) (xv_scons (xv_sif (L2.PW.pt (xv_tand (zinT gz (ev_bl) (vslv gz (vvar 3) (ev_poS (ev_int)) (ev_poN))) (xv_tand1 (ztru gz (zisi (Z := ⟨a, dd, 2, fs⟩) z fr.f_isinstance (nmBlt fr.f_LookupError) xs.kitT_NoPaper_LookupError))))) (xv_scons (zasg 1 gz (xv_if (ztru gz (zix gz (by exact fun _ _ => rfl) (zvar 3) (zint))) (xv_lst (zcons (zstr) (zcons (znev) (xv_nil)))) (xv_if (ztru gz (zix gz (by exact fun _ _ => rfl) (zvar 3) (zint))) (xv_lst (zcons (zstr) (zcons (znev) (xv_nil)))) (xv_lst (zcons (zstr) (zcons (znev) (xv_nil))))))) (xv_snil)) (xv_snil)) (xv_snil)))))), trivial⟩
theorem ok25 (Fd : FnP K "_law_told" (top 52) f fd) (hm : mg "_law_told" = some (.ref f)) : CalleeP P w K mg base F n "_law_told" 1 (step r 25) := callee_bad (ps := ["_law_ask"]) Fd hm (bi25 Fd)
theorem sc26 : FnScope N__law_conjuncts ["_law_wish_here"] (defScope (top 53)) := ⟨rfl, rfl, rfl, by decide +kernel, rfl, by decide +kernel, by decide +kernel⟩
theorem bi26 (Fd : FnP K "_law_conjuncts" (top 53) f fd) : Binds K fd ["_law_wish_here"] [] := Fd.bindsN fun _ _ _ _ _ _ us hl => match us, hl with | [_], _ => rfl
theorem ok26 (hK : F.K = K) (fr : Free K mg) (xs : Xs P w K mg base F) (DD : Defs K mg base F) (c0 : AllC P w K mg base F n r) (Fd : FnP K "_law_conjuncts" (top 53) f fd) (hm : mg "_law_conjuncts" = some (.ref f)) : CalleeP P w K mg base F (n + 3) "_law_conjuncts" 1 (step r 26) :=
  have c := c0.mono (k := n + 2) (by omega); def_okX (ps := ["_law_wish_here"]) (m := (b__law_conjuncts (r 26))) hK Fd sc26 hm (bi26 Fd) fun cdv A outer s H E g po hcd tk => ev_scons (gasg (ev_lst (gcons (gvar 0) (ev_nil))) (gtn g 1)) (ev_scons (gfor g po (gseq g (ev_if (gcmpT g .eq (gix g (by exact fun _ _ => rfl) (gvar 0) (ev_int)) (ev_str)) (gix g (by exact fun _ _ => rfl) (gvar 0) (ev_int)) (ev_tup (ev_nil)))) (gtn g 2) (ev_scons (gasg (gadd g (gvar 1) (gown g c.c26 (gcons (gvar 2) (ev_nil)))) (gtn g 1)) (ev_snil))) (ev_scons (gret (gvar 1)) (ev_snil)))
theorem sc27 : FnScope N__law_is_sign ["_law_what"] (defScope (top 54)) := ⟨rfl, rfl, rfl, by decide +kernel, rfl, by decide +kernel, by decide +kernel⟩
theorem bi27 (Fd : FnP K "_law_is_sign" (top 54) f fd) : Binds K fd ["_law_what"] [] := Fd.bindsN fun _ _ _ _ _ _ us hl => match us, hl with | [_], _ => rfl
theorem ok27 (hK : F.K = K) (fr : Free K mg) (xs : Xs P w K mg base F) (DD : Defs K mg base F) (c0 : AllC P w K mg base F n r) (Fd : FnP K "_law_is_sign" (top 54) f fd) (hm : mg "_law_is_sign" = some (.ref f)) : CalleeP P w K mg base F (n + 3) "_law_is_sign" 1 (step r 27) :=
  have c := c0.mono (k := n + 2) (by omega); def_okX (ps := ["_law_what"]) (m := (b__law_is_sign)) hK Fd sc27 hm (bi27 Fd) fun cdv A outer s H E g po hcd tk => ev_scons (ev_sif (L2.PW.pt (ev_tor (ev_tnot (gtru g (gisi g "tuple" fr.f_isinstance fr.f_tuple (gvar 0)))) (ev_tor (gcmpT g .ne (gblt (bLen_ok g.K) fr.f_len (gcons (gvar 0) (ev_nil))) (ev_int)) (ev_tor (ev_tnot (gtru g (gisi g "int" fr.f_isinstance fr.f_int (gix g (by exact fun _ _ => rfl) (gvar 0) (ev_int))))) (ev_tor1 (gtru g (gisi g "bool" fr.f_isinstance fr.f_bool (gix g (by exact fun _ _ => rfl) (gvar 0) (ev_int))))))))) (ev_scons (gret (ev_bl)) (ev_snil)) (ev_snil)) (ev_scons (ev_sif (gcmpT g .eq (gix g (by exact fun _ _ => rfl) (gvar 0) (ev_int)) (ev_int)) (ev_scons (gret (gisi g "bool" fr.f_isinstance fr.f_bool (gix g (by exact fun _ _ => rfl) (gvar 0) (ev_int)))) (ev_snil)) (ev_snil)) (ev_scons (ev_sif (gcmpT g .eq (gix g (by exact fun _ _ => rfl) (gvar 0) (ev_int)) (ev_int)) (ev_scons (gret (gand g (gisi g "int" fr.f_isinstance fr.f_int (gix g (by exact fun _ _ => rfl) (gvar 0) (ev_int))) (ev_one (gnot g (gisi g "bool" fr.f_isinstance fr.f_bool (gix g (by exact fun _ _ => rfl) (gvar 0) (ev_int))))))) (ev_snil)) (ev_snil)) (ev_scons (gret (gand g (gcmp g .eq (gix g (by exact fun _ _ => rfl) (gvar 0) (ev_int)) (ev_int)) (ev_one (gisi g "str" fr.f_isinstance fr.f_str (gix g (by exact fun _ _ => rfl) (gvar 0) (ev_int)))))) (ev_snil))))
theorem sc28 : FnScope N__law_is_road ["_law_what"] (defScope (top 55)) := ⟨rfl, rfl, rfl, by decide +kernel, rfl, by decide +kernel, by decide +kernel⟩
theorem bi28 (Fd : FnP K "_law_is_road" (top 55) f fd) : Binds K fd ["_law_what"] [] := Fd.bindsN fun _ _ _ _ _ _ us hl => match us, hl with | [_], _ => rfl
theorem ok28 (hK : F.K = K) (fr : Free K mg) (xs : Xs P w K mg base F) (DD : Defs K mg base F) (c0 : AllC P w K mg base F n r) (Fd : FnP K "_law_is_road" (top 55) f fd) (hm : mg "_law_is_road" = some (.ref f)) : CalleeP P w K mg base F (n + 3) "_law_is_road" 1 (step r 28) :=
  have c := c0.mono (k := n + 2) (by omega); def_okX (ps := ["_law_what"]) (m := (b__law_is_road (r 27))) hK Fd sc28 hm (bi28 Fd) fun cdv A outer s H E g po hcd tk => ev_scons (ev_sif (L2.PW.pt (ev_tor (ev_tnot (gtru g (gisi g "tuple" fr.f_isinstance fr.f_tuple (gvar 0)))) (ev_tor (gcmpT g .eq (gvar 0) (ev_tup (ev_nil))) (ev_tor1 (ev_tnot (gtru g (gisi g "str" fr.f_isinstance fr.f_str (gix g (by exact fun _ _ => rfl) (gvar 0) (ev_int))))))))) (ev_scons (gret (ev_bl)) (ev_snil)) (ev_snil)) (ev_scons (ev_sif (gcmpT g .eq (gix g (by exact fun _ _ => rfl) (gvar 0) (ev_int)) (ev_str)) (ev_scons (gret (gcmp g .eq (gblt (bLen_ok g.K) fr.f_len (gcons (gvar 0) (ev_nil))) (ev_int))) (ev_snil)) (ev_snil)) (ev_scons (ev_sif (L2.PW.pt (ev_tor (gcmpT g .ne (gix g (by exact fun _ _ => rfl) (gvar 0) (ev_int)) (ev_str)) (ev_tor (gcmpT g .ne (gblt (bLen_ok g.K) fr.f_len (gcons (gvar 0) (ev_nil))) (ev_int)) (ev_tor (ev_tnot (gtru g (gisi g "str" fr.f_isinstance fr.f_str (gix g (by exact fun _ _ => rfl) (gvar 0) (ev_int))))) (ev_tor1 (ev_tnot (gchnT g .le .le (ev_int) (gblt (bLen_ok g.K) fr.f_len (gcons (gix g (by exact fun _ _ => rfl) (gvar 0) (ev_int)) (ev_nil))) (ev_int)))))))) (ev_scons (gret (ev_bl)) (ev_snil)) (ev_snil)) (ev_scons (ev_sif (gcmpT g .ne (gcomp g false [("_law_letter", 1)] (gseq g (gix g (by exact fun _ _ => rfl) (gvar 0) (ev_int))) (fun _ _ _ _ _ g1 => gtn g1 1) (fun _ _ _ _ _ g1 => ev_if1 (ev_tnot (gchnT g1 .le .le (ev_str) (gvar 1) (ev_str)))) (fun _ _ _ _ _ g1 => gvar 1)) (ev_lst (ev_nil))) (ev_scons (gret (ev_bl)) (ev_snil)) (ev_snil)) (ev_scons (gret (gcmp g .eq (gcomp g false [("_law_one", 2)] (gseq g (gsl g (gvar 0) (ev_poS (ev_int)) (ev_poN))) (fun _ _ _ _ _ g1 => gtn g1 2) (fun _ _ _ _ _ g1 => ev_if1 (L2.PW.pt (ev_tand (gcmpT g1 .isnot (gvar 2) (ev_non)) (ev_tand1 (ev_tnot (gtru g1 (gown g1 c.c27 (gcons (gvar 2) (ev_nil))))))))) (fun _ _ _ _ _ g1 => gvar 2)) (ev_lst (ev_nil)))) (ev_snil)))))
theorem sc29 : FnScope N__law_goes_by ["_law_one", "_law_route_here"] (defScope (top 56)) := ⟨rfl, rfl, rfl, by decide +kernel, rfl, by decide +kernel, by decide +kernel⟩
theorem bi29 (Fd : FnP K "_law_goes_by" (top 56) f fd) : Binds K fd ["_law_one", "_law_route_here"] [] := Fd.bindsN fun _ _ _ _ _ _ us hl => match us, hl with | [_, _], _ => rfl
theorem ok29 (hK : F.K = K) (fr : Free K mg) (xs : Xs P w K mg base F) (DD : Defs K mg base F) (c0 : AllC P w K mg base F n r) (Fd : FnP K "_law_goes_by" (top 56) f fd) (hm : mg "_law_goes_by" = some (.ref f)) : CalleeP P w K mg base F (n + 3) "_law_goes_by" 2 (step r 29) :=
  have c := c0.mono (k := n + 2) (by omega); def_okX (ps := ["_law_one", "_law_route_here"]) (m := (b__law_goes_by)) hK Fd sc29 hm (bi29 Fd) fun cdv A outer s H E g po hcd tk => ev_scons (ev_sif (L2.PW.pt (ev_tor (gcmpT g .notin (gix g (by exact fun _ _ => rfl) (gvar 0) (ev_int)) (ev_tup (gcons (ev_str) (gcons (ev_str) (gcons (ev_str) (ev_nil)))))) (ev_tor1 (gtru g (gisi g "tuple" fr.f_isinstance fr.f_tuple (gix g (by exact fun _ _ => rfl) (gvar 0) (ev_int))))))) (ev_scons (gret (ev_bl)) (ev_snil)) (ev_snil)) (ev_scons (gret (gcmp g .eq (gblt (bRepr_ok g.K g.room g.gd) fr.f_repr (gcons (gix g (by exact fun _ _ => rfl) (gvar 0) (ev_int)) (ev_nil))) (gblt (bRepr_ok g.K g.room g.gd) fr.f_repr (gcons (gvar 1) (ev_nil))))) (ev_snil))
theorem sc30 : FnScope N__law_lets ["_law_one", "_law_low", "_law_high"] (defScope (top 57)) := ⟨rfl, rfl, rfl, by decide +kernel, rfl, by decide +kernel, by decide +kernel⟩
theorem bi30 (Fd : FnP K "_law_lets" (top 57) f fd) : Binds K fd ["_law_one", "_law_low", "_law_high"] [] := Fd.bindsN fun _ _ _ _ _ _ us hl => match us, hl with | [_, _, _], _ => rfl
theorem ok30 (hK : F.K = K) (fr : Free K mg) (xs : Xs P w K mg base F) (DD : Defs K mg base F) (c0 : AllC P w K mg base F n r) (Fd : FnP K "_law_lets" (top 57) f fd) (hm : mg "_law_lets" = some (.ref f)) : CalleeP P w K mg base F (n + 3) "_law_lets" 3 (step r 30) :=
  have c := c0.mono (k := n + 2) (by omega); def_okX (ps := ["_law_one", "_law_low", "_law_high"]) (m := (b__law_lets (r 22))) hK Fd sc30 hm (bi30 Fd) fun cdv A outer s H E g po hcd tk => ev_scons (gasg (gown g c.c22 (gcons (gix g (by exact fun _ _ => rfl) (gvar 0) (ev_int)) (ev_nil))) (gtn g 3)) (ev_scons (ev_sif (gcmpT g .eq (gix g (by exact fun _ _ => rfl) (gvar 0) (ev_int)) (ev_str)) (ev_scons (gret (gand g (gor g (gcmp g .is (gvar 1) (ev_non)) (ev_one (gcmpM g .le (gvar 1) (gvar 3)))) (ev_one (gor g (gcmp g .is (gvar 2) (ev_non)) (ev_one (gcmpM g .ge (gvar 2) (gvar 3))))))) (ev_snil)) (ev_snil)) (ev_scons (ev_sif (gcmpT g .eq (gix g (by exact fun _ _ => rfl) (gvar 0) (ev_int)) (ev_str)) (ev_scons (gret (gand g (gor g (gcmp g .is (gvar 1) (ev_non)) (ev_one (gcmpM g .lt (gix g (by exact fun _ _ => rfl) (gvar 1) (ev_int)) (gix g (by exact fun _ _ => rfl) (gvar 3) (ev_int))))) (ev_one (gor g (gcmp g .is (gvar 2) (ev_non)) (ev_one (gcmpM g .ge (gvar 2) (gvar 3))))))) (ev_snil)) (ev_snil)) (ev_scons (gret (gand g (gor g (gcmp g .is (gvar 1) (ev_non)) (ev_one (gcmpM g .le (gvar 1) (gvar 3)))) (ev_one (gor g (gcmp g .is (gvar 2) (ev_non)) (ev_one (gcmpM g .gt (gix g (by exact fun _ _ => rfl) (gvar 2) (ev_int)) (gix g (by exact fun _ _ => rfl) (gvar 3) (ev_int)))))))) (ev_snil))))
theorem sc31 : FnScope N__law_due ["_law_folder", "_law_wish_here", "_law_what"] (defScope (top 58)) := ⟨rfl, rfl, rfl, by decide +kernel, rfl, by decide +kernel, by decide +kernel⟩
theorem bi31 (Fd : FnP K "_law_due" (top 58) f fd) : Binds K fd ["_law_folder", "_law_wish_here", "_law_what"] [] := Fd.bindsN fun _ _ _ _ _ _ us hl => match us, hl with | [_, _, _], _ => rfl
theorem ok31 (hK : F.K = K) (fr : Free K mg) (xs : Xs P w K mg base F) (DD : Defs K mg base F) (c0 : AllC P w K mg base F n r) (Fd : FnP K "_law_due" (top 58) f fd) (hm : mg "_law_due" = some (.ref f)) : CalleeP P w K mg base F (n + 3) "_law_due" 3 (step r 31) :=
  have c := c0.mono (k := n + 2) (by omega); def_okX (ps := ["_law_folder", "_law_wish_here", "_law_what"]) (m := (b__law_due (r 26) (r 29) (r 28) (r 30))) hK Fd sc31 hm (bi31 Fd) fun cdv A outer s H E g po hcd tk => ev_scons (ev_sif (ev_tnot (gtru g (gown g c.c28 (gcons (gvar 2) (ev_nil))))) (ev_scons (gret (ev_lst (gcons (ev_str) (gcons (ev_str) (gcons (gneg g (ev_int)) (ev_nil)))))) (ev_snil)) (ev_snil)) (ev_scons (ev_sif (gcmpT g .eq (gix g (by exact fun _ _ => rfl) (gvar 2) (ev_int)) (ev_str)) (ev_scons (gret (ev_lst (gcons (ev_str) (gcons (ev_bl) (ev_nil))))) (ev_snil)) (ev_snil)) (ev_scons (gasgC g false 3 [("_law_slate_here", 6)] (gseq g (gix g (by exact fun _ _ => rfl) (gvar 0) (ev_int))) (fun _ _ _ _ _ g1 => gtn g1 6) (fun _ _ _ _ _ g1 => ev_if1 (gcmpT g1 .eq (gix g1 (by exact fun _ _ => rfl) (gvar 6) (ev_int)) (gix g1 (by exact fun _ _ => rfl) (gvar 2) (ev_int)))) (fun _ _ _ _ _ g1 => gvar 6)) (ev_scons (ev_sif (gcmpT g .eq (gvar 3) (ev_lst (ev_nil))) (ev_scons (gret (ev_lst (gcons (ev_str) (gcons (ev_str) (gcons (gneg g (ev_int)) (ev_nil)))))) (ev_snil)) (ev_snil)) (ev_scons (gasg (gown g c.c26 (gcons (gvar 1) (ev_nil))) (gtn g 4)) (ev_scons (ev_sif (L2.PW.pt (ev_tand (gcmpT g .isnot (gix g (by exact fun _ _ => rfl) (gix g (by exact fun _ _ => rfl) (gvar 3) (ev_int)) (ev_int)) (ev_non)) (ev_tand1 (gcmpT g .notin (gblt (bRepr_ok g.K g.room g.gd) fr.f_repr (gcons (gix g (by exact fun _ _ => rfl) (gix g (by exact fun _ _ => rfl) (gvar 3) (ev_int)) (ev_int)) (ev_nil))) (gcomp g false [("_law_one", 5)] (gseq g (gvar 4)) (fun _ _ _ _ _ g1 => gtn g1 5) (fun _ _ _ _ _ g1 => ev_yes) (fun _ _ _ _ _ g1 => gblt (bRepr_ok g1.K g1.room g1.gd) fr.f_repr (gcons (gvar 5) (ev_nil)))))))) (ev_scons (gret (ev_lst (gcons (ev_str) (gcons (ev_str) (gcons (gneg g (ev_int)) (ev_nil)))))) (ev_snil)) (ev_snil)) (ev_scons (gfor g po (gseq g (gvar 4)) (gtn g 5) (ev_scons (ev_sif (L2.PW.pt (ev_tand (gtru g (gown g c.c29 (gcons (gvar 5) (gcons (gix g (by exact fun _ _ => rfl) (gix g (by exact fun _ _ => rfl) (gvar 3) (ev_int)) (ev_int)) (ev_nil))))) (ev_tand1 (gtru g (gown g c.c30 (gcons (gvar 5) (gcons (gix g (by exact fun _ _ => rfl) (gvar 2) (ev_int)) (gcons (gix g (by exact fun _ _ => rfl) (gvar 2) (ev_int)) (ev_nil))))))))) (ev_scons (gret (ev_lst (gcons (ev_str) (gcons (ev_bl) (ev_nil))))) (ev_snil)) (ev_snil)) (ev_snil))) (ev_scons (gret (ev_lst (gcons (ev_str) (gcons (ev_str) (gcons (gneg g (ev_int)) (ev_nil)))))) (ev_snil))))))))
theorem sc32 : FnScope N__law_folders ["_law_feed_here"] (defScope (top 59)) := ⟨rfl, rfl, rfl, by decide +kernel, rfl, by decide +kernel, by decide +kernel⟩
theorem bi32 (Fd : FnP K "_law_folders" (top 59) f fd) : Binds K fd ["_law_feed_here"] [] := Fd.bindsN fun _ _ _ _ _ _ us hl => match us, hl with | [_], _ => rfl
theorem ok32 (hK : F.K = K) (fr : Free K mg) (xs : Xs P w K mg base F) (DD : Defs K mg base F) (c0 : AllC P w K mg base F n r) (Fd : FnP K "_law_folders" (top 59) f fd) (hm : mg "_law_folders" = some (.ref f)) : CalleeP P w K mg base F (n + 3) "_law_folders" 1 (step r 32) :=
  have c := c0.mono (k := n + 2) (by omega); def_okX (ps := ["_law_feed_here"]) (m := (b__law_folders (r 16) (r 19) (r 23))) hK Fd sc32 hm (bi32 Fd) fun cdv A outer s H E g po hcd tk => ev_scons (gasg (ev_tup (gcons (ev_str) (gcons (ev_tup (gcons (ev_tup (gcons (ev_str) (gcons (ev_str) (ev_nil)))) (ev_nil))) (gcons (gix g (by exact fun _ _ => rfl) (ev_lst (gcons (ev_int) (gcons (ev_bl) (ev_nil)))) (gown g c.c16 (gcons (gvar 0) (gcons (ev_int) (ev_nil))))) (ev_nil))))) (gtn g 1)) (ev_scons (gasg (ev_tup (gcons (ev_tup (gcons (ev_str) (gcons (ev_tup (gcons (ev_tup (gcons (ev_str) (gcons (ev_str) (ev_nil)))) (ev_nil))) (gcons (ev_bl) (gcons (ev_non) (ev_nil)))))) (gcons (ev_tup (gcons (ev_str) (gcons (ev_tup (gcons (ev_tup (gcons (ev_str) (gcons (ev_str) (ev_nil)))) (ev_nil))) (gcons (ev_bl) (gcons (gvar 1) (ev_nil)))))) (ev_nil)))) (gtn g 2)) (ev_scons (gasg (gdnew) (gtn g 3)) (ev_scons (gfor g po (grng1 g fr.f_range (ev_int)) (gtn g 4) (ev_scons (gasg (gown g c.c23 (gcons (gvar 0) (ev_nil))) (gtn g 6)) (ev_scons (gset g (fSetA_ok g.un1) (gadd g (gadd g (gsl g (gvar 6) (ev_poN) (ev_poS (ev_int))) (ev_tup (gcons (ev_bl) (ev_nil)))) (gsl g (gvar 6) (ev_poS (ev_int)) (ev_poN))) (gvar 3) (gix g (by exact fun _ _ => rfl) (gvar 6) (ev_int))) (ev_snil)))) (ev_scons (gasg (ev_tup (gcons (ev_tup (gcons (ev_str) (gcons (gown g c.c19 (gcons (gvar 0) (ev_nil))) (gcons (ev_int) (ev_nil))))) (gcons (ev_tup (gcons (ev_str) (gcons (gown g c.c19 (gcons (gvar 0) (ev_nil))) (gcons (ev_int) (ev_nil))))) (ev_nil)))) (gtn g 5)) (ev_scons (gret (ev_lst (gcons (ev_tup (gcons (gvar 5) (gcons (gbty (bTup_ok g.K) fr.f_tuple (gcons (gcomp g false [("_law_tag", 7)] (gseq g (gblt (bSortD_ok false g.calm) fr.f_sorted (gcons (gvar 3) (ev_nil)))) (fun _ _ _ _ _ g1 => gtn g1 7) (fun _ _ _ _ _ g1 => ev_yes) (fun _ _ _ _ _ g1 => gixA g1 (by exact fun _ _ => rfl) (gvar 3) (gvar 7))) (ev_nil))) (gcons (ev_tup (ev_nil)) (ev_nil))))) (gcons (ev_tup (gcons (gsl g (gvar 5) (ev_poN) (ev_poS (ev_int))) (gcons (gvar 2) (gcons (ev_tup (ev_nil)) (ev_nil))))) (ev_nil))))) (ev_snil))))))
theorem sc33 : FnScope N__law_things ["_law_feed_here", "_law_wish_here", "_law_folder"] (defScope (top 60)) := ⟨rfl, rfl, rfl, by decide +kernel, rfl, by decide +kernel, by decide +kernel⟩
theorem bi33 (Fd : FnP K "_law_things" (top 60) f fd) : Binds K fd ["_law_feed_here", "_law_wish_here", "_law_folder"] [] := Fd.bindsN fun _ _ _ _ _ _ us hl => match us, hl with | [_, _, _], _ => rfl
theorem ok33 (hK : F.K = K) (fr : Free K mg) (xs : Xs P w K mg base F) (DD : Defs K mg base F) (c0 : AllC P w K mg base F n r) (Fd : FnP K "_law_things" (top 60) f fd) (hm : mg "_law_things" = some (.ref f)) : CalleeP P w K mg base F (n + 3) "_law_things" 3 (step r 33) :=
  have c := c0.mono (k := n + 2) (by omega); def_okX (ps := ["_law_feed_here", "_law_wish_here", "_law_folder"]) (m := (b__law_things (r 24) (r 26) (r 16) (r 22))) hK Fd sc33 hm (bi33 Fd) fun cdv A outer s H E g po hcd tk => ev_scons (gasg (ev_lso (gcons (ev_tup (gcons (ev_str) (ev_nil))) (gcons (ev_tup (gcons (ev_str) (gcons (ev_int) (ev_nil)))) (gcons (ev_tup (gcons (ev_str) (gcons (ev_str) (gcons (ev_non) (gcons (ev_non) (ev_nil)))))) (gcons (ev_tup (gcons (ev_str) (gcons (ev_str) (ev_nil)))) (gcons (ev_non) (gcons (ev_tup (ev_nil)) (ev_nil)))))))) (gtn g 3)) (ev_scons (gexp (gmet g PySem.F.plainAttrs_list PySem.F.slot_list_append PySem.F.type_list_append fAppend_ok (gvar 3) (gcons (ev_tup (gcons (ev_str) (gcons (ev_str) (gcons (ev_non) (gcons (ev_non) (ev_nil)))))) (ev_nil)))) (ev_scons (gfor g po (gseq g (gadd g (gcomp g false [("_law_slate_here", 8)] (gseq g (gix g (by exact fun _ _ => rfl) (gvar 2) (ev_int))) (fun _ _ _ _ _ g1 => gtn g1 8) (fun _ _ _ _ _ g1 => ev_yes) (fun _ _ _ _ _ g1 => gix g1 (by exact fun _ _ => rfl) (gvar 8) (ev_int))) (ev_lst (gcons (ev_str) (ev_nil))))) (gtn g 4) (ev_scons (gasgC g false 5 [("_law_one", 9)] (gseq g (gown g c.c26 (gcons (gvar 1) (ev_nil)))) (fun _ _ _ _ _ g1 => gtn g1 9) (fun _ _ _ _ _ g1 => ev_if1 (gcmpT g1 .in_ (gix g1 (by exact fun _ _ => rfl) (gvar 9) (ev_int)) (ev_tup (gcons (ev_str) (gcons (ev_str) (gcons (ev_str) (ev_nil))))))) (fun _ _ _ _ _ g1 => gvar 9)) (ev_scons (gasg (gadd g (ev_lst (gcons (ev_non) (ev_nil))) (gcomp g false [("_law_one", 9)] (gseq g (gvar 5)) (fun _ _ _ _ _ g1 => gtn g1 9) (fun _ _ _ _ _ g1 => ev_if1 (ev_tnot (gtru g1 (gisi g1 "tuple" fr.f_isinstance fr.f_tuple (gix g1 (by exact fun _ _ => rfl) (gvar 9) (ev_int)))))) (fun _ _ _ _ _ g1 => gown g1 c.c22 (gcons (gix g1 (by exact fun _ _ => rfl) (gvar 9) (ev_int)) (ev_nil))))) (gtn g 6)) (ev_scons (gasg (gadd g (gvar 6) (ev_lst (gcons (ev_tup (gcons (ev_int) (gcons (ev_bl) (ev_nil)))) (gcons (ev_tup (gcons (ev_int) (gcons (ev_bl) (ev_nil)))) (gcons (ev_tup (gcons (ev_int) (gcons (ev_int) (ev_nil)))) (gcons (ev_tup (gcons (ev_int) (gcons (ev_int) (ev_nil)))) (gcons (ev_tup (gcons (ev_int) (gcons (ev_str) (ev_nil)))) (gcons (ev_tup (gcons (ev_int) (gcons (ev_str) (ev_nil)))) (gcons (ev_tup (gcons (ev_int) (gcons (ev_bl) (ev_nil)))) (gcons (ev_tup (gcons (ev_int) (gcons (ev_int) (ev_nil)))) (gcons (ev_tup (gcons (ev_int) (gcons (ev_str) (ev_nil)))) (ev_nil)))))))))))) (gtn g 6)) (ev_scons (gfor g po (grng1 g fr.f_range (ev_int)) (gtn g 7) (ev_scons (gexp (gmet g PySem.F.plainAttrs_list PySem.F.slot_list_append PySem.F.type_list_append fAppend_ok (gvar 3) (gcons (ev_tup (gcons (ev_str) (gcons (gvar 4) (gcons (gix g (by exact fun _ _ => rfl) (gvar 6) (gown g c.c16 (gcons (gvar 0) (gcons (gblt (bLen_ok g.K) fr.f_len (gcons (gvar 6) (ev_nil))) (ev_nil))))) (gcons (gix g (by exact fun _ _ => rfl) (gvar 6) (gown g c.c16 (gcons (gvar 0) (gcons (gblt (bLen_ok g.K) fr.f_len (gcons (gvar 6) (ev_nil))) (ev_nil))))) (ev_nil)))))) (ev_nil)))) (ev_snil))) (ev_snil)))))) (ev_scons (gret (gadd g (gvar 3) (gcomp g false [("_law_k", 7)] (grng1 g fr.f_range (ev_int)) (fun _ _ _ _ _ g1 => gtn g1 7) (fun _ _ _ _ _ g1 => ev_yes) (fun _ _ _ _ _ g1 => gown g1 c.c24 (gcons (gvar 0) (gcons (gix g1 (by exact fun _ _ => rfl) (gvar 3) (gown g1 c.c16 (gcons (gvar 0) (gcons (gblt (bLen_ok g1.K) fr.f_len (gcons (gvar 3) (ev_nil))) (ev_nil))))) (gcons (ev_int) (ev_nil)))))))) (ev_snil))))
theorem sc34 : FnScope N_law ["_law_script"] (defScope (top 61)) := ⟨rfl, rfl, rfl, by decide +kernel, rfl, by decide +kernel, by decide +kernel⟩
theorem bi34 (Fd : FnP K "law" (top 61) f fd) : Binds K fd ["_law_script"] [] := Fd.bindsN fun _ _ _ _ _ _ us hl => match us, hl with | [_], _ => rfl
theorem ok34 (hK : F.K = K) (fr : Free K mg) (xs : Xs P w K mg base F) (DD : Defs K mg base F) (c0 : AllC P w K mg base F n r) (Fd : FnP K "law" (top 61) f fd) (hm : mg "law" = some (.ref f)) (lam : LamD K mg base F f "law") : CalleeP P w K mg base F (n + 3) "law" 1 (step r 34) :=
  have c := c0.mono (k := n + 2) (by omega); def_okX (ps := ["_law_script"]) (m := (b_law (r 16) (r 31) (r 15) (r 32) (r 17) (r 33) (r 14))) hK Fd sc34 hm (bi34 Fd) fun cdv A outer s H E g po hcd tk => have lk := lamK_of lam hcd; ev_scons (gasg (gown g c.c15 (gcons (gvar 0) (ev_nil))) (gtn g 1)) (ev_scons (gasg (ev_tup (gcons (ev_tup (gcons (ev_tup (gcons (ev_str) (gcons (ev_str) (ev_nil)))) (ev_nil))) (gcons (ev_tup (gcons (ev_tup (gcons (ev_str) (gcons (ev_str) (ev_nil)))) (ev_nil))) (ev_nil)))) (gtt g 2 (gtc (gtn g 3) (gtc (gtn g 4) (ev_gnil))))) (ev_scons (gfor g po (gseq g (gown g c.c32 (gcons (gvar 1) (ev_nil)))) (gtn g 2) (ev_scons (gasgC g false 5 [("_law_slate_here", 9)] (gseq g (gix g (by exact fun _ _ => rfl) (gvar 2) (ev_int))) (fun _ _ _ _ _ g1 => gtn g1 9) (fun _ _ _ _ _ g1 => ev_yes) (fun _ _ _ _ _ g1 => ev_tup (gcons (gix g1 (by exact fun _ _ => rfl) (ev_lst (gcons (ev_str) (gcons (ev_str) (gcons (ev_str) (ev_nil))))) (gown g1 c.c16 (gcons (gvar 1) (gcons (ev_int) (ev_nil))))) (gcons (gix g1 (by exact fun _ _ => rfl) (gvar 9) (ev_int)) (gcons (gown g1 c.c17 (gcons (gvar 1) (ev_nil))) (ev_nil)))))) (ev_scons (gasg (gadd g (gvar 5) (gcomp g false [("_law_slate_here", 9)] (gseq g (gix g (by exact fun _ _ => rfl) (gvar 2) (ev_int))) (fun _ _ _ _ _ g1 => gtn g1 9) (fun _ _ _ _ _ g1 => ev_if1 (gcmpT g1 .isnot (gix g1 (by exact fun _ _ => rfl) (gvar 9) (ev_int)) (ev_non))) (fun _ _ _ _ _ g1 => gix g1 (by exact fun _ _ => rfl) (gvar 9) (ev_int)))) (gtn g 5)) (ev_scons (gasg (ev_lso (gcons (ev_tup (gcons (ev_str) (gcons (gbty (bTup_ok g.K) fr.f_tuple (gcons (gsl g (gvar 5) (ev_poN) (ev_poS (ev_int))) (ev_nil))) (ev_nil)))) (gcons (ev_tup (gcons (ev_str) (gcons (ev_tup (gcons (ev_tup (gcons (ev_str) (gcons (gvar 3) (gcons (ev_int) (ev_nil))))) (gcons (ev_tup (gcons (ev_str) (gcons (gvar 4) (gcons (ev_int) (ev_nil))))) (ev_nil)))) (ev_nil)))) (ev_nil)))) (gtn g 6)) (ev_scons (gexp (gmet g PySem.F.plainAttrs_list PySem.F.slot_list_append PySem.F.type_list_append fAppend_ok (gvar 6) (gcons (ev_tup (gcons (ev_str) (gcons (ev_tup (gcons (ev_tup (gcons (ev_str) (gcons (gvar 3) (gcons (ev_bl) (ev_nil))))) (gcons (ev_tup (gcons (ev_str) (gcons (gvar 4) (gcons (ev_bl) (ev_nil))))) (ev_nil)))) (ev_nil)))) (ev_nil)))) (ev_scons (gfor g po (gseq g (gadd g (gvar 6) (ev_lst (gcons (ev_tup (gcons (ev_str) (gcons (gvar 3) (gcons (ev_tup (gcons (ev_str) (gcons (ev_tup (gcons (ev_int) (ev_nil))) (ev_nil)))) (ev_nil))))) (gcons (ev_tup (gcons (ev_str) (gcons (gbty (bTup_ok g.K) fr.f_tuple (gcons (gsl g (gvar 5) (ev_poN) (ev_poS (ev_int))) (ev_nil))) (ev_nil)))) (gcons (ev_tup (gcons (ev_str) (gcons (gvar 3) (gcons (ev_str) (ev_nil))))) (gcons (ev_tup (gcons (ev_str) (gcons (gvar 3) (ev_nil)))) (ev_nil)))))))) (gtn g 7) (ev_scons (gfor g po (gseq g (gown g c.c33 (gcons (gvar 1) (gcons (gvar 7) (gcons (gvar 2) (ev_nil)))))) (gtn g 8) (ev_scons (gasg (gblt (bRepr_ok g.K g.room g.gd) fr.f_repr (gcons (ev_tup (gcons (gvar 2) (gcons (gvar 7) (gcons (gvar 8) (ev_nil))))) (ev_nil))) (gtn g 10)) (ev_scons (gasg (gtellL g lk (tl25 hK fr xs DD g.un2) (Nat.le_refl _) (fun _ _ _ _ _ _ _ g1 => gown g1 c0.c14 (gcons (gvar 2) (gcons (gvar 7) (gcons (gvar 8) (ev_nil)))))) (gtn g 11)) (ev_scons (ev_sif (L2.PW.pt (ev_tor (gcmpT g .ne (gblt (bRepr_ok g.K g.room g.gd) fr.f_repr (gcons (gvar 11) (ev_nil))) (gblt (bRepr_ok g.K g.room g.gd) fr.f_repr (gcons (gown g c.c31 (gcons (gvar 2) (gcons (gvar 7) (gcons (gvar 8) (ev_nil))))) (ev_nil)))) (ev_tor1 (gcmpT g .ne (gblt (bRepr_ok g.K g.room g.gd) fr.f_repr (gcons (ev_tup (gcons (gvar 2) (gcons (gvar 7) (gcons (gvar 8) (ev_nil))))) (ev_nil))) (gvar 10))))) (ev_scons (gret (ev_bl)) (ev_snil)) (ev_snil)) (ev_snil))))) (ev_snil))) (ev_snil))))))) (ev_scons (gret (ev_bl)) (ev_snil))))
theorem gate : ∀ n, gateB (prog n 99 [] []) = true → 3 ≤ n
  | 0, h => absurd (show false = true from h) Bool.false_ne_true
  | 1, h => absurd (show false = true from h) Bool.false_ne_true
  | 2, h => absurd (show false = true from h) Bool.false_ne_true
  | n + 3, _ => by omega
theorem mk_NoPaper {C D fI : Addr} (Fd : FunD K "__init__" "NoPaper.__init__" (defArgs (clsInit (top 3))) (defBody (clsInit (top 3))) (defScope (clsInit (top 3))) [] [] fI fd) (hm : mg "FolioError" = some (.ref D)) (B : XBase K D) (T : XCls K C fI ["word", "at"]) : XMk P w K mg base C ["word", "at"] :=
  .two T (init2 (k := 0) Fd ⟨rfl, rfl, rfl, by decide +kernel, rfl, by decide +kernel, by decide +kernel⟩ (by kernel_rfl) hm B T (fun _ => ⟨_, rfl⟩) (by kernel_rfl) (vis_of (by kernel_rfl)) (vis_of (by kernel_rfl)) (vis_of (by kernel_rfl)) (by kernel_rfl) (by kernel_rfl) (by kernel_rfl) (by kernel_rfl)) (Fd.bindsN fun _ _ _ _ _ _ us hl => match us, hl with | [_, _, _], _ => rfl)
theorem all (hK : F.K = K) (fr : Free K mg) (xs : Xs P w K mg base F) (D : Defs K mg base F) : ∀ n, AllC P w K mg base F (3 * n) (prog n)
  | 0 => ⟨(let ⟨_, _, h, g⟩ := D.d0; callee0 (ps := ["thing"]) h g (bi0 h)), (let ⟨_, _, h, g⟩ := D.d1; callee0 (ps := ["thing"]) h g (bi1 h)), (let ⟨_, _, h, g⟩ := D.d2; callee0 (ps := ["thing"]) h g (bi2 h)), (let ⟨_, _, h, g⟩ := D.d3; callee0 (ps := ["thing"]) h g (bi3 h)), (let ⟨_, _, h, g⟩ := D.d4; callee0 (ps := ["plain"]) h g (bi4 h)), (let ⟨_, _, h, g⟩ := D.d5; callee0 (ps := ["truth", "word", "at"]) h g (bi5 h)), (let ⟨_, _, h, g⟩ := D.d6; callee0 (ps := ["thing"]) h g (bi6 h)), (let ⟨_, _, h, g⟩ := D.d7; callee0 (ps := ["test"]) h g (bi7 h)), (let ⟨_, _, h, g⟩ := D.d8; callee0 (ps := ["one", "other"]) h g (bi8 h)), (let ⟨_, _, h, g⟩ := D.d9; callee0 (ps := ["index", "conjuncts"]) h g (bi9 h)), (let ⟨_, _, h, g⟩ := D.d10; callee0 (ps := ["conjunct"]) h g (bi10 h)), (let ⟨_, _, h, g⟩ := D.d11; callee0 (ps := ["index", "conjuncts"]) h g (bi11 h)), (let ⟨_, _, h, g⟩ := D.d12; callee0 (ps := ["thing"]) h g (bi12 h)), (let ⟨_, _, h, g⟩ := D.d13; callee0 (ps := ["conjunct", "low", "high"]) h g (bi13 h)), (let ⟨_, _, h, g⟩ := D.d14; callee0 (ps := ["stands", "test", "thing"]) h g (bi14 h)), (let ⟨_, _, h, g⟩ := D.d15; callee0 (ps := ["_law_script"]) h g (bi15 h)), (let ⟨_, _, h, g⟩ := D.d16; callee0 (ps := ["_law_feed_here", "_law_many"]) h g (bi16 h)), (let ⟨_, _, h, g⟩ := D.d17; callee0 (ps := ["_law_feed_here"]) h g (bi17 h)), (let ⟨_, _, h, g⟩ := D.d18; callee0 (ps := ["_law_parts"]) h g (bi18 h)), (let ⟨_, _, h, g⟩ := D.d19; callee0 (ps := ["_law_feed_here"]) h g (bi19 h)), (let ⟨_, _, h, g⟩ := D.d20; callee0 (ps := ["_law_feed_here"]) h g (bi20 h)), (let ⟨_, _, h, g⟩ := D.d21; callee0 (ps := ["_law_feed_here", "_law_deep"]) h g (bi21 h)), (let ⟨_, _, h, g⟩ := D.d22; callee0 (ps := ["_law_plain_here"]) h g (bi22 h)), (let ⟨_, _, h, g⟩ := D.d23; callee0 (ps := ["_law_feed_here"]) h g (bi23 h)), (let ⟨_, _, h, g⟩ := D.d24; callee0 (ps := ["_law_feed_here", "_law_what", "_law_deep"]) h g (bi24 h)), (let ⟨_, _, h, g⟩ := D.d25; callee0 (ps := ["_law_ask"]) h g (bi25 h)), (let ⟨_, _, h, g⟩ := D.d26; callee0 (ps := ["_law_wish_here"]) h g (bi26 h)), (let ⟨_, _, h, g⟩ := D.d27; callee0 (ps := ["_law_what"]) h g (bi27 h)), (let ⟨_, _, h, g⟩ := D.d28; callee0 (ps := ["_law_what"]) h g (bi28 h)), (let ⟨_, _, h, g⟩ := D.d29; callee0 (ps := ["_law_one", "_law_route_here"]) h g (bi29 h)), (let ⟨_, _, h, g⟩ := D.d30; callee0 (ps := ["_law_one", "_law_low", "_law_high"]) h g (bi30 h)), (let ⟨_, _, h, g⟩ := D.d31; callee0 (ps := ["_law_folder", "_law_wish_here", "_law_what"]) h g (bi31 h)), (let ⟨_, _, h, g⟩ := D.d32; callee0 (ps := ["_law_feed_here"]) h g (bi32 h)), (let ⟨_, _, h, g⟩ := D.d33; callee0 (ps := ["_law_feed_here", "_law_wish_here", "_law_folder"]) h g (bi33 h)), (let ⟨_, _, h, g, l⟩ := D.d34; callee0 (ps := ["_law_script"]) h g (bi34 h)), fun z => absurd z Bool.false_ne_true⟩
  | n + 1 => ⟨(let ⟨_, _, h, g⟩ := D.d0; ok0 hK fr xs D (all hK fr xs D n) h g), (let ⟨_, _, h, g⟩ := D.d1; ok1 hK fr xs D (all hK fr xs D n) h g), (let ⟨_, _, h, g⟩ := D.d2; ok2 hK fr xs D (all hK fr xs D n) h g), (let ⟨_, _, h, g⟩ := D.d3; ok3 hK fr xs D (all hK fr xs D n) h g), (let ⟨_, _, h, g⟩ := D.d4; ok4 hK fr xs D (all hK fr xs D n) h g), (let ⟨_, _, h, g⟩ := D.d5; ok5 hK fr xs D (all hK fr xs D n) h g), (let ⟨_, _, h, g⟩ := D.d6; ok6 hK fr xs D (all hK fr xs D n) h g), (let ⟨_, _, h, g⟩ := D.d7; ok7 hK fr xs D (all hK fr xs D n) h g), (let ⟨_, _, h, g⟩ := D.d8; ok8 hK fr xs D (all hK fr xs D n) h g), (let ⟨_, _, h, g⟩ := D.d9; ok9 hK fr xs D (all hK fr xs D n) h g), (let ⟨_, _, h, g⟩ := D.d10; ok10 hK fr xs D (all hK fr xs D n) h g), (let ⟨_, _, h, g⟩ := D.d11; ok11 hK fr xs D (all hK fr xs D n) h g), (let ⟨_, _, h, g⟩ := D.d12; ok12 hK fr xs D (all hK fr xs D n) h g), (let ⟨_, _, h, g⟩ := D.d13; ok13 hK fr xs D (all hK fr xs D n) h g), (let ⟨_, _, h, g⟩ := D.d14; ok14 hK fr xs D (all hK fr xs D n) h g), (let ⟨_, _, h, g⟩ := D.d15; ok15 hK fr xs D (all hK fr xs D n) h g), (let ⟨_, _, h, g⟩ := D.d16; ok16 hK fr xs D (all hK fr xs D n) h g), (let ⟨_, _, h, g⟩ := D.d17; ok17 hK fr xs D (all hK fr xs D n) h g), (let ⟨_, _, h, g⟩ := D.d18; ok18 hK fr xs D (all hK fr xs D n) h g), (let ⟨_, _, h, g⟩ := D.d19; ok19 hK fr xs D (all hK fr xs D n) h g), (let ⟨_, _, h, g⟩ := D.d20; ok20 hK fr xs D (all hK fr xs D n) h g), (let ⟨_, _, h, g⟩ := D.d21; ok21 hK fr xs D (all hK fr xs D n) h g), (let ⟨_, _, h, g⟩ := D.d22; ok22 hK fr xs D (all hK fr xs D n) h g), (let ⟨_, _, h, g⟩ := D.d23; ok23 hK fr xs D (all hK fr xs D n) h g), (let ⟨_, _, h, g⟩ := D.d24; ok24 hK fr xs D (all hK fr xs D n) h g), (let ⟨_, _, h, g⟩ := D.d25; ok25 h g), (let ⟨_, _, h, g⟩ := D.d26; ok26 hK fr xs D (all hK fr xs D n) h g), (let ⟨_, _, h, g⟩ := D.d27; ok27 hK fr xs D (all hK fr xs D n) h g), (let ⟨_, _, h, g⟩ := D.d28; ok28 hK fr xs D (all hK fr xs D n) h g), (let ⟨_, _, h, g⟩ := D.d29; ok29 hK fr xs D (all hK fr xs D n) h g), (let ⟨_, _, h, g⟩ := D.d30; ok30 hK fr xs D (all hK fr xs D n) h g), (let ⟨_, _, h, g⟩ := D.d31; ok31 hK fr xs D (all hK fr xs D n) h g), (let ⟨_, _, h, g⟩ := D.d32; ok32 hK fr xs D (all hK fr xs D n) h g), (let ⟨_, _, h, g⟩ := D.d33; ok33 hK fr xs D (all hK fr xs D n) h g), (let ⟨_, _, h, g, l⟩ := D.d34; ok34 hK fr xs D (all hK fr xs D n) h g l), fun z => by have := gate (n + 1) z; omega⟩
end
end K33
end
section
/-! U1: keys and plans by kind (k33). -/
set_option Elab.async false
set_option linter.all false
set_option maxRecDepth 100000
set_option maxHeartbeats 1000000
namespace EV.NV
open PySem PySem.Spec PyProof.Rows L2
@[simp] theorem is33 {x : PV} {G : GH} : Cop.is.f [x, .non] G = .ok (.bl (isNon x)) G := rfl
@[simp] theorem isnot33 {x : PV} {G : GH} : Cop.isnot.f [x, .non] G = .ok (.bl (!isNon x)) G := rfl
/-- a key -/
def sgnB : PV → Bool
  | .tup [.int i, x] => if i = 0 then isBl x else if i = 1 then numB x else decide (i = 2) && isStr x
  | _ => false
def optS (p : PV) : Bool := isNon p || sgnB p
/-- a plan -/
def planB : PV → Bool
  | .tup [.str w] => decide (w = "all")
  | .tup [.str w, n, a, b] => decide (w = "index") && (wordB n && (optS a && optS b))
  | _ => false
theorem key33_sp {w d m : Nat} {fn} (hn : SpB w d m numB fn) : SpB w (d + 1) m sgnB (defV 1 K33.N_is_key (K33.b_is_key fn)) := by
  intro p G h
  have it := isi_tup (G := G) h.dat
  cases p with
  | tup ps =>
    match ps, h, it with
    | [a, b], h, it =>
      have ha := Sm.tup h a (by simp)
      have hb := Sm.tup h b (by simp)
      have na := hn a G (ha.mono (by omega) (Nat.le_refl _) (Nat.le_refl _))
      have nb := hn b G (hb.mono (by omega) (Nat.le_refl _) (Nat.le_refl _))
      have ib := isi_bool (G := G) hb.dat
      have is_ := isi_str (G := G) hb.dat
      cases a with
      | int i =>
        by_cases h0 : i = 0
        · subst h0; simp [defV, K33.b_is_key, K33.N_is_key, env0, it, isTup, na, nb, ib, is_, sgnB, numB, trim_same]
        · by_cases h1 : i = 1
          · subst h1; simp [defV, K33.b_is_key, K33.N_is_key, env0, it, isTup, na, nb, ib, is_, sgnB, numB, trim_same]
          · by_cases h2 : i = 2
            · subst h2; simp [defV, K33.b_is_key, K33.N_is_key, env0, it, isTup, na, nb, ib, is_, sgnB, numB, trim_same]
            · simp [defV, K33.b_is_key, K33.N_is_key, env0, it, isTup, na, nb, ib, is_, sgnB, numB, trim_same, h0, h1, h2]
      | _ => simp [defV, K33.b_is_key, K33.N_is_key, env0, it, isTup, na, nb, ib, is_, sgnB, numB, trim_same]
    | [], h, it => simp [defV, K33.b_is_key, K33.N_is_key, env0, it, isTup, sgnB, trim_same]
    | [a], h, it => simp [defV, K33.b_is_key, K33.N_is_key, env0, it, isTup, sgnB, trim_same]
    | a :: b :: c :: r, h, it =>
      have e : ¬ ((r.length : Int) + 1 + 1 + 1 = 2) := by omega
      simp [defV, K33.b_is_key, K33.N_is_key, env0, it, isTup, sgnB, trim_same, e]
  | _ => simp [defV, K33.b_is_key, K33.N_is_key, env0, it, isTup, sgnB, trim_same]
theorem sign33_sp {w d m : Nat} : SpB w (d + 1) m sgnB (defV 1 K33.N__law_is_sign K33.b__law_is_sign) := by
  intro p G h
  have it := isi_tup (G := G) h.dat
  cases p with
  | tup ps =>
    match ps, h, it with
    | [a, b], h, it =>
      have ha := Sm.tup h a (by simp)
      have hb := Sm.tup h b (by simp)
      have ia := isi_int (G := G) ha.dat
      have ja := isi_bool (G := G) ha.dat
      have jb := isi_int (G := G) hb.dat
      have ib := isi_bool (G := G) hb.dat
      have is_ := isi_str (G := G) hb.dat
      cases a with
      | int i =>
        by_cases h0 : i = 0
        · subst h0; simp [defV, K33.b__law_is_sign, K33.N__law_is_sign, env0, it, isTup, ia, ja, jb, ib, is_, isInt, isBl, sgnB, trim_same]
        · by_cases h1 : i = 1
          · subst h1
            cases b <;> simp [defV, K33.b__law_is_sign, K33.N__law_is_sign, env0, it, isTup, ia, ja, jb, ib, is_, isInt, isBl, sgnB, numB, trim_same]
          · by_cases h2 : i = 2
            · subst h2; simp [defV, K33.b__law_is_sign, K33.N__law_is_sign, env0, it, isTup, ia, ja, jb, ib, is_, isInt, isBl, sgnB, trim_same]
            · simp [defV, K33.b__law_is_sign, K33.N__law_is_sign, env0, it, isTup, ia, ja, jb, ib, is_, isInt, isBl, sgnB, trim_same, h0, h1, h2]
      | _ => simp [defV, K33.b__law_is_sign, K33.N__law_is_sign, env0, it, isTup, ia, ja, jb, ib, is_, isInt, isBl, sgnB, trim_same]
    | [], h, it => simp [defV, K33.b__law_is_sign, K33.N__law_is_sign, env0, it, isTup, sgnB, trim_same]
    | [a], h, it => simp [defV, K33.b__law_is_sign, K33.N__law_is_sign, env0, it, isTup, sgnB, trim_same]
    | a :: b :: c :: r, h, it =>
      have e : ¬ ((r.length : Int) + 1 + 1 + 1 = 2) := by omega
      simp [defV, K33.b__law_is_sign, K33.N__law_is_sign, env0, it, isTup, sgnB, trim_same, e]
  | _ => simp [defV, K33.b__law_is_sign, K33.N__law_is_sign, env0, it, isTup, sgnB, trim_same]
theorem opt_loop {w d m : Nat} {fk} (hk : SpB w d m sgnB fk) {xs : List PV} (hx : ∀ x ∈ xs, Sm w d m x) {G : GH} {ρ : EV.Env} (hρ : ∀ i, ((wipeE ρ [3]).set 3 i)[3]? = some i) :
    loopC (compF (gN 3) mYes (mOr (m2 (mVar 3) (mCst .non) (Cop.f .is)) (mA (mCons (mVar 3) (mNil)) fk)) [3] ρ) (fun _ => true) xs G = .ok (xs.map fun x => .bl (optS x)) G := by
  rw [loop_pure (h := fun x => some (.bl (optS x))) rfl]
  · rw [fm_map]
  · intro x hx'
    have e := hk x G (hx x hx')
    cases hb : isNon x <;> simp [compF, noX, hρ, e, optS, hb]
theorem plan33_sp {w d m : Nat} {fk fw} (hd : d ≤ 50) (hk : SpB w d m sgnB fk) (hw : SpB w d m wordB fw) : SpB w (d + 1) m planB (defV 1 K33.N_is_plan (K33.b_is_plan fk fw)) := by
  intro p G h
  have it := isi_tup (G := G) h.dat
  cases p with
  | tup ps =>
    have hf : fitXs ps = true := by simpa only [fitX] using h.f
    have hdp : deps ps ≤ 50 := by have := h.d; simp only [dep] at this; omega
    have eq0 := fun G => eq_tnil (G := G) hf (by omega)
    have hx : ∀ x ∈ ps, Sm w d m x := fun x hx => (Sm.tup h x hx).mono (by omega) (Nat.le_refl _) (Nat.le_refl _)
    cases ps with
    | nil => simp [defV, K33.b_is_plan, K33.N_is_plan, env0, it, isTup, eq0, planB, trim_same, size_line]
    | cons a r =>
      have ha := hx a (List.mem_cons_self ..)
      have ia := isi_str (G := G) ha.dat
      cases a with
      | str s =>
        have hr : ∀ x ∈ r, Sm w d m x := fun x h => hx x (List.mem_cons_of_mem _ h)
        have fr : fitXs r = true := by simp only [fitXs, Bool.and_eq_true] at hf; exact hf.2
        have dr : deps r ≤ 60 := by simp only [deps] at hdp; omega
        have er := eq_nil (G := G) fr dr
        by_cases h1 : s = "all"
        · subst h1
          cases r with
          | nil => simp [defV, K33.b_is_plan, K33.N_is_plan, env0, it, isTup, eq0, ia, isStr, gStar_1, er, planB, trim_same, size_line]
          | cons b r => 
            have : planB (.tup (.str "all" :: b :: r)) = false := by
              unfold planB; split
              · rename_i e; simp at e
              · rename_i e; simp at e; obtain ⟨rfl, _⟩ := e; rfl
              · rfl
            simp [defV, K33.b_is_plan, K33.N_is_plan, env0, it, isTup, eq0, ia, isStr, gStar_1, er, this, trim_same, size_line]
        · by_cases h2 : s = "index"
          · subst h2
            match r, hr, er with
            | [n, a, b], hr, er =>
              have en := hw n G (hr n (by simp))
              have lp := opt_loop hk (xs := [a, b]) (fun x hx => hr x (by simp at hx ⊢; rcases hx with h | h <;> simp [h])) (G := G) (ρ := [some (.tup [.str "index", n, a, b]), some (.str "index"), some (.lst [n, a, b]), none]) (fun _ => rfl)
              have c1 : cutP [n, a, b] (some 1) none = [a, b] := rfl
              have al : bAll [.lst ([a, b].map fun x => PV.bl (optS x))] G = .ok (.bl ([a, b].all optS)) G := all_bl _ _
              simp only [List.map_cons, List.map_nil] at lp al
              cases hb : wordB n <;> simp [defV, K33.b_is_plan, K33.N_is_plan, env0, it, isTup, eq0, ia, isStr, gStar_1, er, en, hb, h1, mComp_ap, lp, c1, al, planB, trim_same, size_line]
            | [], hr, er => simp [defV, K33.b_is_plan, K33.N_is_plan, env0, it, isTup, eq0, ia, isStr, gStar_1, er, h1, planB, trim_same, size_line]
            | [n], hr, er => simp [defV, K33.b_is_plan, K33.N_is_plan, env0, it, isTup, eq0, ia, isStr, gStar_1, er, h1, planB, trim_same, size_line]
            | [n, a], hr, er => simp [defV, K33.b_is_plan, K33.N_is_plan, env0, it, isTup, eq0, ia, isStr, gStar_1, er, h1, planB, trim_same, size_line]
            | n :: a :: b :: c :: r, hr, er =>
              have e : ¬ ((r.length : Int) + 1 + 1 + 1 + 1 = 3) := by omega
              simp [defV, K33.b_is_plan, K33.N_is_plan, env0, it, isTup, eq0, ia, isStr, gStar_1, er, h1, planB, trim_same, size_line, e]
          · have : planB (.tup (.str s :: r)) = false := by
              unfold planB; split
              · rename_i e; simp at e; rw [← e.1]; exact decide_eq_false h1
              · rename_i e; simp at e; rw [← e.1, decide_eq_false h2]; rfl
              · rfl
            simp [defV, K33.b_is_plan, K33.N_is_plan, env0, it, isTup, eq0, ia, isStr, gStar_1, er, h1, h2, this, trim_same, size_line]
      | _ => simp [defV, K33.b_is_plan, K33.N_is_plan, env0, it, isTup, eq0, ia, isStr, planB, trim_same, size_line]
  | _ => simp [defV, K33.b_is_plan, K33.N_is_plan, env0, it, isTup, planB, trim_same]
theorem sg_deps (P : Nat → Bool) (l : List Nat) : deps (pick P l) ≤ 0 := deps_le fun y hy => by
  obtain ⟨c, hc, e⟩ := List.mem_filterMap.mp hy
  split at e
  · cases e; simp [sg, dep]
  · cases e
theorem let_loop {x : Str} {G : GH} {v : Nat} {ρ : EV.Env} (hρ : ∀ i, ((wipeE ρ [v]).set v i)[v]? = some i) :
    loopC (compF (gN v) (mtNot (mB (m3c (mCst (.str "a")) (mVar v) (mCst (.str "z")) (Cop.f .le) (Cop.f .le)))) (mVar v) [v] ρ) (fun _ => true) (signs x) G = .ok (pick (fun c => !letB c) x.cps.toList) G := loop_sg (h := fun c => if (!letB c) = true then some (sg c) else none) rfl x fun c _ => by
  have e1 : Cop.le.f [.str "a", sg c] G = .ok (.bl (decide (("a" : Str).cps.toList ≤ [c]))) G := congrArg (fun b => Res.ok (PV.bl b) G) (PySem.W.not_lt_str _ _)
  have e2 : Cop.le.f [sg c, .str "z"] G = .ok (.bl (decide ([c] ≤ ("z" : Str).cps.toList))) G := congrArg (fun b => Res.ok (PV.bl b) G) (PySem.W.not_lt_str _ _)
  have e3 := le_sg c
  cases h1 : decide (("a" : Str).cps.toList ≤ [c]) with
  | false =>
    rw [h1] at e1 e3
    have e3 : letB c = false := by rw [← e3]; rfl
    simp [compF, noX, hρ, e1, e3]
  | true =>
    rw [h1] at e1 e3
    rw [Bool.true_and] at e3
    rw [e3] at e2
    cases h2 : letB c <;> (rw [h2] at e2; simp [compF, noX, hρ, e1, e2])
theorem rest_loop {w d m : Nat} {fs} (hs : SpB w d m sgnB fs) {xs : List PV} (hx : ∀ x ∈ xs, Sm w d m x) {G : GH} {ρ : EV.Env} (hρ : ∀ i, ((wipeE ρ [2]).set 2 i)[2]? = some i) :
    loopC (compF (gN 2) (mtAnd (mB (m2 (mVar 2) (mCst .non) (Cop.f .isnot))) (mtNot (mT (mA (mCons (mVar 2) (mNil)) fs)))) (mVar 2) [2] ρ) (fun _ => true) xs G = .ok (xs.filter fun x => !optS x) G := by
  rw [loop_pure (h := fun x => if (!optS x) = true then some x else none) rfl]
  · rw [fm_filter]
  · intro x hx'
    have e := hs x G (hx x hx')
    cases hb : isNon x <;> cases hc : sgnB x <;> simp [compF, noX, hρ, e, optS, hb, hc]
theorem road33_sp {w d m : Nat} {fs} (hd : d ≤ 50) (hs : SpB w d m sgnB fs) : SpB w (d + 1) m planB (defV 1 K33.N__law_is_road (K33.b__law_is_road fs)) := by
  intro p G h
  have it := isi_tup (G := G) h.dat
  cases p with
  | tup ps =>
    have hf : fitXs ps = true := by simpa only [fitX] using h.f
    have hdp : deps ps ≤ 50 := by have := h.d; simp only [dep] at this; omega
    have eq0 := fun G => eq_tnil (G := G) hf (by omega)
    have hx : ∀ x ∈ ps, Sm w d m x := fun x hx => (Sm.tup h x hx).mono (by omega) (Nat.le_refl _) (Nat.le_refl _)
    cases ps with
    | nil => simp [defV, K33.b__law_is_road, K33.N__law_is_road, env0, it, isTup, eq0, planB, trim_same, size_line]
    | cons a r =>
      have ha := hx a (List.mem_cons_self ..)
      have ia := isi_str (G := G) ha.dat
      cases a with
      | str s =>
        have hr : ∀ x ∈ r, Sm w d m x := fun x h => hx x (List.mem_cons_of_mem _ h)
        by_cases h1 : s = "all"
        · subst h1
          cases r with
          | nil => simp [defV, K33.b__law_is_road, K33.N__law_is_road, env0, it, isTup, eq0, ia, isStr, planB, trim_same, size_line]
          | cons b r =>
            have : planB (.tup (.str "all" :: b :: r)) = false := by
              unfold planB; split
              · rename_i e; simp at e
              · rename_i e; simp at e; obtain ⟨rfl, _⟩ := e; rfl
              · rfl
            have e : ¬ ((r.length : Int) + 1 + 1 = 1) := by omega
            simp [defV, K33.b__law_is_road, K33.N__law_is_road, env0, it, isTup, eq0, ia, isStr, this, trim_same, size_line, e]
        · by_cases h2 : s = "index"
          · subst h2
            match r, hr with
            | [n, a, b], hr =>
              have hn := hr n (by simp)
              have jn := isi_str (G := G) hn.dat
              cases n with
              | str x =>
                have hz := sz_of hn
                have l1 := len_str (G := G) hz
                have s1 := seq_str (G := G) hz
                have c1 := let_loop (x := x) (G := G) (v := 1) (ρ := [some (.tup [.str "index", .str x, a, b]), none, none]) (fun _ => rfl)
                have q1 := ne_nilL (G := G) (fit_sg hn fun c => !letB c) (Nat.lt_of_le_of_lt (sg_deps (fun c => !letB c) _) (by decide))
                rw [show (pick _ _).isEmpty = _ from isEmpty_filter sg _ _] at q1
                have lp := rest_loop hs (xs := [a, b]) (fun x hx => hr x (by simp at hx ⊢; rcases hx with h | h <;> simp [h])) (G := G) (ρ := [some (.tup [.str "index", .str x, a, b]), none, none]) (fun _ => rfl)
                have c2 : cutP [.str "index", .str x, a, b] (some 2) none = [a, b] := rfl
                have ff : fitXs ([a, b].filter fun x => !optS x) = true := fitXs_of fun y hy => (hr y (by have := (List.mem_filter.mp hy).1; simp at this ⊢; rcases this with h | h <;> simp [h])).f
                have dd : deps ([a, b].filter fun x => !optS x) ≤ 60 := deps_le fun y hy => by
                  have := (hr y (by have := (List.mem_filter.mp hy).1; simp at this ⊢; rcases this with h | h <;> simp [h])).d
                  omega
                have q2 := eq_nil (G := G) ff dd
                have em : ([a, b].filter fun x => !optS x).isEmpty = (optS a && optS b) := by cases ea : optS a <;> cases eb : optS b <;> simp [ea, eb]
                rw [em] at q2
                generalize ([a, b].filter fun x => !optS x) = L at lp q2
                by_cases k1 : 1 ≤ x.cps.size
                · by_cases k2 : x.cps.size ≤ 8
                  · have k1' : (1 : Int) ≤ (x.cps.size : Int) := by omega
                    have k2' : (x.cps.size : Int) ≤ 8 := by omega
                    cases k3 : x.cps.toList.all letB <;> simp [defV, K33.b__law_is_road, K33.N__law_is_road, env0, it, isTup, eq0, ia, jn, isStr, h1, l1, k1, k2, k1', k2', mComp_ap, s1, c1, q1, k3, lp, c2, q2, planB, wordB, trim_same, size_line]
                  · have k1' : (1 : Int) ≤ (x.cps.size : Int) := by omega
                    have k2' : ¬ (x.cps.size : Int) ≤ 8 := by omega
                    simp [defV, K33.b__law_is_road, K33.N__law_is_road, env0, it, isTup, eq0, ia, jn, isStr, h1, l1, k1, k2, k1', k2', planB, wordB, trim_same, size_line]
                · have k1' : ¬ (1 : Int) ≤ (x.cps.size : Int) := by omega
                  simp [defV, K33.b__law_is_road, K33.N__law_is_road, env0, it, isTup, eq0, ia, jn, isStr, h1, l1, k1, k1', planB, wordB, trim_same, size_line]
              | _ => simp [defV, K33.b__law_is_road, K33.N__law_is_road, env0, it, isTup, eq0, ia, jn, isStr, h1, planB, wordB, trim_same, size_line]
            | [], hr => simp [defV, K33.b__law_is_road, K33.N__law_is_road, env0, it, isTup, eq0, ia, isStr, h1, planB, trim_same, size_line]
            | [n], hr => simp [defV, K33.b__law_is_road, K33.N__law_is_road, env0, it, isTup, eq0, ia, isStr, h1, planB, trim_same, size_line]
            | [n, a], hr => simp [defV, K33.b__law_is_road, K33.N__law_is_road, env0, it, isTup, eq0, ia, isStr, h1, planB, trim_same, size_line]
            | n :: a :: b :: c :: r, hr =>
              have e : ¬ ((r.length : Int) + 1 + 1 + 1 + 1 + 1 = 4) := by omega
              simp [defV, K33.b__law_is_road, K33.N__law_is_road, env0, it, isTup, eq0, ia, isStr, h1, planB, trim_same, size_line, e]
          · have : planB (.tup (.str s :: r)) = false := by
              unfold planB; split
              · rename_i e; simp at e; rw [← e.1]; exact decide_eq_false h1
              · rename_i e; simp at e; rw [← e.1, decide_eq_false h2]; rfl
              · rfl
            simp [defV, K33.b__law_is_road, K33.N__law_is_road, env0, it, isTup, eq0, ia, isStr, h1, h2, this, trim_same, size_line]
      | _ => simp [defV, K33.b__law_is_road, K33.N__law_is_road, env0, it, isTup, eq0, ia, isStr, planB, trim_same, size_line]
  | _ => simp [defV, K33.b__law_is_road, K33.N__law_is_road, env0, it, isTup, planB, trim_same]
end EV.NV
end
section
/-! SQ: stepping by equalities. -/
set_option Elab.async false
set_option linter.all false
set_option maxRecDepth 100000
namespace EV.NV
open PySem PySem.Spec PyProof.Rows L2
theorem sq_next {m n : EV.Env → GH → Res Fl} {ρ ρ' : EV.Env} {G G' : GH} (h : m ρ G = .ok (.next ρ') G') : sSeq m n ρ G = n ρ' G' := by
  simp only [sSeq, h, Res.bind_ok]
theorem sq_exc {m n : EV.Env → GH → Res Fl} {ρ : EV.Env} {G G' : GH} {c : Nat} {fs : List (Str × PV)} (h : m ρ G = .exc c fs G') : sSeq m n ρ G = .exc c fs G' := by
  simp only [sSeq, h]; rfl
theorem sq_ret {m n : EV.Env → GH → Res Fl} {ρ : EV.Env} {G G' : GH} {v : PV} (h : m ρ G = .ok (.ret v) G') : sSeq m n ρ G = .ok (.ret v) G' := by
  simp only [sSeq, h, Res.bind_ok]
theorem ifT {t : EV.Env → GH → Res Bool} {a b : EV.Env → GH → Res Fl} {ρ : EV.Env} {G G' : GH} (h : t ρ G = .ok true G') : sIf t a b ρ G = a ρ G' := by
  simp only [sIf, h, Res.bind_ok, if_true]
theorem ifF {t : EV.Env → GH → Res Bool} {a b : EV.Env → GH → Res Fl} {ρ : EV.Env} {G G' : GH} (h : t ρ G = .ok false G') : sIf t a b ρ G = b ρ G' := by
  simp only [sIf, h, Res.bind_ok, Bool.false_eq_true, if_false]
end EV.NV
end
section
/-! U2: orders of keys, conjuncts, what a test lets (k33). -/
set_option Elab.async false
set_option linter.all false
set_option maxRecDepth 100000
set_option maxHeartbeats 1000000
namespace EV.NV
open PySem PySem.Spec PyProof.Rows L2
/-! ### keys -/
theorem sgn_cases {p : PV} (h : sgnB p = true) : (∃ b, p = .tup [.int 0, .bl b]) ∨ (∃ i, p = .tup [.int 1, .int i]) ∨ ∃ s, p = .tup [.int 2, .str s] := by
  unfold sgnB at h
  split at h
  · rename_i i x
    by_cases h0 : i = 0
    · subst h0
      rw [if_pos rfl] at h
      cases x <;> first | (cases h; done) | exact .inl ⟨_, rfl⟩
    · rw [if_neg h0] at h
      by_cases h1 : i = 1
      · subst h1
        rw [if_pos rfl] at h
        cases x <;> first | (cases h; done) | exact .inr (.inl ⟨_, rfl⟩)
      · rw [if_neg h1, Bool.and_eq_true, decide_eq_true_eq] at h
        obtain ⟨rfl, h⟩ := h
        cases x <;> first | (cases h; done) | exact .inr (.inr ⟨_, rfl⟩)
  · cases h
/-- one key is not above another one -/
def leK (p q : PV) : Bool := !PySem.W.dataLt (dOf q) (dOf p)
theorem le_sgn {p q : PV} (hp : sgnB p = true) (hq : sgnB q = true) (G : GH) : cmpM .le [p, q] G = .ok (.bl (leK p q)) G := by
  rcases sgn_cases hp with ⟨b, rfl⟩ | ⟨i, rfl⟩ | ⟨s, rfl⟩ <;> rcases sgn_cases hq with ⟨b', rfl⟩ | ⟨i', rfl⟩ | ⟨s', rfl⟩ <;>
    simp [cmpM, Cop.f, opLe, ordD, cmpD, isOrd, fD, leD, toDG, toD, toDs, PySem.W.alike, PySem.W.alikeAll, someD, cmpB, cmpsB, PyData.eqv, PyData.plain, PyData.plainAll, PyData.depth, PyData.depthAll, leK, dOf, dOfs]
theorem ge_sgn {p q : PV} (hp : sgnB p = true) (hq : sgnB q = true) (G : GH) : cmpM .ge [p, q] G = .ok (.bl (leK q p)) G := by
  rcases sgn_cases hp with ⟨b, rfl⟩ | ⟨i, rfl⟩ | ⟨s, rfl⟩ <;> rcases sgn_cases hq with ⟨b', rfl⟩ | ⟨i', rfl⟩ | ⟨s', rfl⟩ <;>
    simp [cmpM, Cop.f, opGe, ordD, cmpD, isOrd, fD, geD, toDG, toD, toDs, PySem.W.alike, PySem.W.alikeAll, someD, cmpB, cmpsB, PyData.eqv, PyData.plain, PyData.plainAll, PyData.depth, PyData.depthAll, leK, dOf, dOfs]
def kN : PV → Int
  | .tup (.int i :: _) => i
  | _ => 0
theorem sgn_ix {p : PV} (h : sgnB p = true) (G : GH) : opIx [p, .int 0] G = .ok (.int (kN p)) G := by
  rcases sgn_cases h with ⟨b, rfl⟩ | ⟨i, rfl⟩ | ⟨s, rfl⟩ <;> simp [kN]
@[simp] theorem ltM_ii {i j : Int} {G : GH} : cmpM .lt [.int i, .int j] G = .ok (.bl (decide (i < j))) G := rfl
@[simp] theorem gtM_ii {i j : Int} {G : GH} : cmpM .gt [.int i, .int j] G = .ok (.bl (decide (j < i))) G := rfl
/-- a plain one, by its shape -/
def plnB (p : PV) : Bool := isInt p || isStr p
theorem sgn_key {p : PV} (h : plnB p = true) : sgnB (keyV p) = true := by
  cases p <;> first | (cases h; done) | rfl
theorem sign33_key {p : PV} (h : plnB p = true) (hd : datB p = true) (G : GH) : defV 1 K33.N__law_sign K33.b__law_sign [p] G = .ok (keyV p) G := by
  have i1 := isi_bool (G := G) hd
  have i2 := isi_str (G := G) hd
  cases p <;> first | (cases h; done) | simp [defV, K33.b__law_sign, K33.N__law_sign, env0, i1, i2, isBl, isStr, isInt, keyV, size_line, trim_same]
/-! ### tests, their conjuncts -/
def bndW : List Str := ["like", "below", "above"]
inductive WK : Nat → PV → Prop
  | cmp {n : Nat} {w : Str} {P v : PV} : w ∈ bndW → (plainB v = true ∨ isTup v = true) → WK n (.tup [.str w, P, v])
  | oth {n : Nat} {w : Str} {r : List PV} : w ∉ bndW → w ≠ "and" → WK n (.tup (.str w :: r))
  | con {n : Nat} {ts : List PV} : (∀ t ∈ ts, WK n t) → WK (n + 1) (.tup [.str "and", .tup ts])
def conjF : Nat → PV → List PV
  | 0, t => [t]
  | n + 1, t => match t with
    | .tup [.str w, .tup ts] => if w = "and" then t :: ts.flatMap (conjF n) else [t]
    | _ => [t]
/-- a conjunct that is no "and" with things, or is one -/
def CoK (c : PV) : Prop := (∃ w P v, c = .tup [.str w, P, v] ∧ w ∈ bndW ∧ (plainB v = true ∨ isTup v = true)) ∨ ∃ w r, c = .tup (.str w :: r) ∧ w ∉ bndW
theorem conj_oth {w : Str} {r : List PV} (h : w ≠ "and") : ∀ n, conjF n (.tup (.str w :: r)) = [.tup (.str w :: r)]
  | 0 => rfl
  | n + 1 => by
    unfold conjF
    split
    · rename_i e
      simp only [PV.tup.injEq, List.cons.injEq, PV.str.injEq] at e
      rw [← e.1, if_neg h]
    · rfl
theorem conj_con (n : Nat) (ts : List PV) : conjF (n + 1) (.tup [.str "and", .tup ts]) = .tup [.str "and", .tup ts] :: ts.flatMap (conjF n) := by
  rw [conjF, if_pos rfl]
theorem bnd_and {w : Str} (h : w ∈ bndW) : w ≠ "and" := by
  simp only [bndW, List.mem_cons, List.not_mem_nil, or_false] at h
  rcases h with rfl | rfl | rfl <;> decide
theorem and_bnd : ("and" : Str) ∉ bndW := by simp [bndW]; decide
theorem WK.co {n : Nat} {t : PV} (h : WK n t) : ∀ c ∈ conjF n t, CoK c := by
  induction h with
  | cmp h1 h2 =>
    intro c hc
    rw [conj_oth (bnd_and h1)] at hc
    rw [List.mem_singleton.mp hc]
    exact .inl ⟨_, _, _, rfl, h1, h2⟩
  | oth h1 h2 =>
    intro c hc
    rw [conj_oth h2] at hc
    rw [List.mem_singleton.mp hc]
    exact .inr ⟨_, _, rfl, h1⟩
  | con _ ih =>
    intro c hc
    rw [conj_con] at hc
    rcases List.mem_cons.mp hc with rfl | hc
    · exact .inr ⟨_, _, rfl, and_bnd⟩
    · obtain ⟨t, ht, hc⟩ := List.mem_flatMap.mp hc
      exact ih t ht c hc
/-- conjuncts are parts -/
theorem conj_sm {n : Nat} {t : PV} (h : WK n t) {w d m : Nat} (hs : Sm w d m t) : (∀ c ∈ conjF n t, Sm w d m c) ∧ (conjF n t).length ≤ wgt t + 1 := by
  induction h with
  | cmp h1 h2 =>
    rw [conj_oth (bnd_and h1)]
    exact ⟨fun c hc => by rw [List.mem_singleton.mp hc]; exact hs, by simp⟩
  | oth h1 h2 =>
    rw [conj_oth h2]
    exact ⟨fun c hc => by rw [List.mem_singleton.mp hc]; exact hs, by simp⟩
  | con hk ih =>
    rename_i n ts
    rw [conj_con]
    have h1 : Sm w d m (.tup ts) := Sm.tup' hs _ (by simp)
    have h2 : ∀ x ∈ ts, Sm w d m x := fun x hx => Sm.tup' h1 x hx
    refine ⟨fun c hc => ?_, ?_⟩
    · rcases List.mem_cons.mp hc with rfl | hc
      · exact hs
      · obtain ⟨t, ht, hc⟩ := List.mem_flatMap.mp hc
        exact (ih t ht (h2 t ht)).1 c hc
    · have : (ts.flatMap (conjF n)).length ≤ wgts ts := by
        clear hs h1
        induction ts with
        | nil => simp
        | cons x xs ih2 =>
          have a := (ih x (List.mem_cons_self ..) (h2 x (List.mem_cons_self ..))).2
          have b := ih2 (fun t ht => hk t (List.mem_cons_of_mem _ ht)) (fun t ht => ih t (List.mem_cons_of_mem _ ht)) fun t ht => h2 t (List.mem_cons_of_mem _ ht)
          rw [List.flatMap_cons, List.length_append, wgts]
          omega
      simp only [List.length_cons, wgt, wgts]
      omega
end EV.NV
end
section
/-! U3: conjuncts_of, the law's conjuncts; test_let, bounding_of, are_wide and the law's own (k33). -/
set_option Elab.async false
set_option linter.all false
set_option maxRecDepth 100000
set_option maxHeartbeats 1000000
namespace EV.NV
open PySem PySem.Spec PyProof.Rows L2
theorem mid_get (G R : GH) (o : GO) : (G ++ o :: R)[G.length]? = some o := by simp
theorem mid_set (G R : GH) (o u : GO) : (G ++ o :: R).set G.length u = G ++ u :: R := by simp
theorem mid_next (G R : GH) (o u : GO) (S : GH) : (G ++ o :: (R ++ u :: S))[(G ++ o :: R).length]? = some u := by
  have : G ++ o :: (R ++ u :: S) = (G ++ o :: R) ++ u :: S := by simp
  rw [this, mid_get]
theorem ext_mid {G R S : GH} {a b : List PV} (h : a.length + b.length ≤ 1000000) : fExtend (.obj G.length) [.obj (G ++ .lst a :: R).length] (G ++ .lst a :: (R ++ .lst b :: S)) = .ok .non (G ++ .lst (a ++ b) :: (R ++ .lst b :: S)) := by
  have e1 : asX (.obj (G ++ .lst a :: R).length) (G ++ .lst a :: (R ++ .lst b :: S)) = some b := by
    simp only [asX, mid_next]
  simp only [fExtend, mid_get]
  rw [e1]
  dsimp only
  rw [if_pos (by rw [size_line]; omega), mid_set]
theorem ty_mid {G R : GH} {a : List PV} : tyP (G ++ .lst a :: R) (.obj G.length) = some "list" := by simp [tyP]
/-- a new list of a test's conjuncts, ours -/
def SpCj (n : Nat) (f : List PV → GH → Res PV) : Prop := ∀ t G, WK n t → Sm 100000 50 4000 t → ∃ R, f [t] G = .ok (.obj G.length) (G ++ .lst (conjF n t) :: R)
def SpCjL (n : Nat) (f : List PV → GH → Res PV) : Prop := ∀ t G, WK n t → Sm 100000 50 4000 t → f [t] G = .ok (.lst (conjF n t)) G
def cjB (f : List PV → GH → Res PV) : EV.Env → GH → Res Fl := sSeq (sDrop (mMet "list" (mVar 1) (mCons (mA (mCons (mVar 2) (mNil)) f) (mNil)) fExtend)) (sNext)
theorem cj_loop {n : Nat} {f} (hf : SpCj n f) {t : PV} {G : GH} : ∀ (ts acc : List PV) (R : GH) (x2 : Option PV), (∀ t ∈ ts, WK n t) → (∀ t ∈ ts, Sm 100000 50 4000 t) → acc.length + wgts ts ≤ 1000000 →
    ∃ R' x2', loopF (forStep (gN 2) (cjB f)) (fun _ => true) ts [some t, some (.obj G.length), x2] (G ++ .lst acc :: R) = .ok (.next [some t, some (.obj G.length), x2']) (G ++ .lst (acc ++ ts.flatMap (conjF n)) :: R')
  | [], acc, R, x2, _, _, _ => ⟨R, x2, by rw [List.flatMap_nil, List.append_nil]; exact loopF_nil rfl⟩
  | x :: xs, acc, R, x2, h, hs, hl => by
    have wx := h x (List.mem_cons_self ..)
    have sx := hs x (List.mem_cons_self ..)
    obtain ⟨S, e⟩ := hf x (G ++ .lst acc :: R) wx sx
    have cl := (conj_sm wx sx).2
    rw [wgts] at hl
    have e2 : G ++ GO.lst acc :: R ++ GO.lst (conjF n x) :: S = G ++ GO.lst acc :: (R ++ GO.lst (conjF n x) :: S) := by simp
    rw [e2] at e
    have e3 := ext_mid (G := G) (R := R) (S := S) (a := acc) (b := conjF n x) (by omega)
    obtain ⟨R', x2', e4⟩ := cj_loop hf (t := t) (G := G) xs (acc ++ conjF n x) (R ++ GO.lst (conjF n x) :: S) (some x) (fun t ht => h t (List.mem_cons_of_mem _ ht)) (fun t ht => hs t (List.mem_cons_of_mem _ ht)) (by rw [List.length_append]; omega)
    refine ⟨R', x2', ?_⟩
    refine (loopF_next (f := forStep _ _) rfl (ρ1 := [some t, some (.obj G.length), some x]) (G1 := G ++ .lst (acc ++ conjF n x) :: (R ++ GO.lst (conjF n x) :: S)) ?_).trans ?_
    · simp only [List.length_append, List.length_cons] at e e3
      simp [forStep_ap, cjB, mMet, ty_mid, e, e3]
    · rw [e4, List.flatMap_cons, List.append_assoc]
theorem conj33_sp {n : Nat} {f} (hf : ∀ k, n = k + 1 → SpCj k f) : SpCj n (defV 1 K33.N_conjuncts_of (K33.b_conjuncts_of f)) := by
  intro t G ht hs
  have tn : ∀ T, trimR G (.ok (.obj G.length) T) = .ok (.obj G.length) T := fun T => trim_new (Nat.le_refl _)
  have oth : ∀ {w : Str} {r : List PV}, w ≠ "and" → ∃ R, defV 1 K33.N_conjuncts_of (K33.b_conjuncts_of f) [.tup (.str w :: r)] G = .ok (.obj G.length) (G ++ .lst (conjF n (.tup (.str w :: r))) :: R) := fun {w r} h => by
    refine ⟨[], ?_⟩
    rw [conj_oth h]
    simp [defV, K33.b_conjuncts_of, K33.N_conjuncts_of, env0, size_line, h, tn]
  cases ht with
  | cmp h1 h2 => exact oth (bnd_and h1)
  | oth h1 h2 => exact oth h2
  | con hk =>
    rename_i k ts
    have hs1 : Sm 100000 50 4000 (.tup ts) := Sm.tup' hs _ (by simp)
    have hs2 : ∀ x ∈ ts, Sm 100000 50 4000 x := fun x hx => Sm.tup' hs1 x hx
    have hw := hs1.w
    simp only [wgt] at hw
    obtain ⟨R', x2', e⟩ := cj_loop (hf k rfl) (t := .tup [.str "and", .tup ts]) (G := G) ts [.tup [.str "and", .tup ts]] [] none hk hs2 (by simp only [List.length_cons, List.length_nil]; omega)
    refine ⟨R', ?_⟩
    have ef : sSeq (sDrop (mMet "list" (mVar 1) (mCons (mA (mCons (mVar 2) (mNil)) f) (mNil)) fExtend)) (sNext) = cjB f := rfl
    simp only [defV, K33.b_conjuncts_of, ef]
    rw [conj_con]
    simp [K33.N_conjuncts_of, env0, size_line, e, tn]
def cjL (f : List PV → GH → Res PV) : EV.Env → GH → Res Fl := sSeq (sAsg (m2 (mVar 1) (mA (mCons (mVar 2) (mNil)) f) opAdd) (gN 1)) (sNext)
theorem cjL_loop {n : Nat} {f} (hf : SpCjL n f) {t : PV} {G : GH} : ∀ (ts acc : List PV) (x2 : Option PV), (∀ t ∈ ts, WK n t) → (∀ t ∈ ts, Sm 100000 50 4000 t) → acc.length + wgts ts ≤ 1000000 →
    ∃ x2', loopF (forStep (gN 2) (cjL f)) (fun _ => true) ts [some t, some (.lst acc), x2] G = .ok (.next [some t, some (.lst (acc ++ ts.flatMap (conjF n))), x2']) G
  | [], acc, x2, _, _, _ => ⟨x2, by rw [List.flatMap_nil, List.append_nil]; exact loopF_nil rfl⟩
  | x :: xs, acc, x2, h, hs, hl => by
    have wx := h x (List.mem_cons_self ..)
    have sx := hs x (List.mem_cons_self ..)
    have e := hf x G wx sx
    have cl := (conj_sm wx sx).2
    rw [wgts] at hl
    have e3 : opAdd [.lst acc, .lst (conjF n x)] G = .ok (.lst (acc ++ conjF n x)) G := by rw [opAdd_ll, size_line, if_pos (by omega)]
    obtain ⟨x2', e4⟩ := cjL_loop hf (t := t) (G := G) xs (acc ++ conjF n x) (some x) (fun t ht => h t (List.mem_cons_of_mem _ ht)) (fun t ht => hs t (List.mem_cons_of_mem _ ht)) (by rw [List.length_append]; omega)
    refine ⟨x2', ?_⟩
    refine (loopF_next (f := forStep _ _) rfl (ρ1 := [some t, some (.lst (acc ++ conjF n x)), some x]) (G1 := G) ?_).trans ?_
    · simp [forStep_ap, cjL, e, e3]
    · rw [e4, List.flatMap_cons, List.append_assoc]
theorem conj33L_sp {n : Nat} {f} (hf : ∀ k, n = k + 1 → SpCjL k f) : SpCjL n (defV 1 K33.N__law_conjuncts (K33.b__law_conjuncts f)) := by
  intro t G ht hs
  have oth : ∀ {w : Str} {r : List PV}, w ≠ "and" → defV 1 K33.N__law_conjuncts (K33.b__law_conjuncts f) [.tup (.str w :: r)] G = .ok (.lst (conjF n (.tup (.str w :: r)))) G := fun {w r} h => by
    rw [conj_oth h]
    have l0 : ∀ ρ, loopF (forStep (gN 2) (cjL f)) (fun _ => true) [] ρ G = .ok (.next ρ) G := fun ρ => loopF_nil rfl
    have ef : sSeq (sAsg (m2 (mVar 1) (mA (mCons (mVar 2) (mNil)) f) opAdd) (gN 1)) (sNext) = cjL f := rfl
    simp only [defV, K33.b__law_conjuncts, ef]
    simp [K33.N__law_conjuncts, env0, size_line, h, l0, trim_same]
  cases ht with
  | cmp h1 h2 => exact oth (bnd_and h1)
  | oth h1 h2 => exact oth h2
  | con hk =>
    rename_i k ts
    have hs1 : Sm 100000 50 4000 (.tup ts) := Sm.tup' hs _ (by simp)
    have hs2 : ∀ x ∈ ts, Sm 100000 50 4000 x := fun x hx => Sm.tup' hs1 x hx
    have hw := hs1.w
    simp only [wgt] at hw
    obtain ⟨x2', e⟩ := cjL_loop (hf k rfl) (t := .tup [.str "and", .tup ts]) (G := G) ts [.tup [.str "and", .tup ts]] none hk hs2 (by simp only [List.length_cons, List.length_nil]; omega)
    have ef : sSeq (sAsg (m2 (mVar 1) (mA (mCons (mVar 2) (mNil)) f) opAdd) (gN 1)) (sNext) = cjL f := rfl
    simp only [defV, K33.b__law_conjuncts, ef]
    rw [conj_con]
    simp [K33.N__law_conjuncts, env0, size_line, e, trim_same]
end EV.NV
end
section
/-! U4: the same, what an index's test and path let; how wide bounds are (k33). -/
set_option Elab.async false
set_option linter.all false
set_option maxRecDepth 100000
set_option maxHeartbeats 1000000
namespace EV.NV
open PySem PySem.Spec PyProof.Rows L2
abbrev Smn (p : PV) : Prop := Sm 100000 50 4000 p
theorem rep33 {p : PV} (h : Smn p) (G : GH) : bRepr [p] G = .ok (.str (rep p)) G := repr_sm G h (by decide) (by decide)
def SpSa (f : List PV → GH → Res PV) : Prop := ∀ a b G, Smn a → Smn b → f [a, b] G = .ok (.bl (decide (rep a = rep b))) G
theorem same33_sp : SpSa (defV 2 K33.N_are_same K33.b_are_same) := by
  intro a b G ha hb
  simp [defV, K33.b_are_same, K33.N_are_same, env0, rep33 ha, rep33 hb, trim_same]
def letT (T : PV) (L : List PV) : Bool := isNon T || L.any fun c => decide (rep T = rep c)
theorem any33 {α : Type} (g : α → Bool) (l : List α) (G : GH) : bAny [.lst (l.map fun c => .bl (g c))] G = .ok (.bl (l.any g)) G := by
  have := any_ap (bs := l.map g) (G := G)
  rw [List.map_map] at this
  rw [show (l.map fun c => PV.bl (g c)) = l.map (PV.bl ∘ g) from rfl, this, List.any_map]
  rfl
theorem seq_obj {k : Nat} {L : List PV} {G : GH} (h : G[k]? = some (.lst L)) : seqSrc (.obj k) G = .ok ⟨L, isLstAt k L⟩ G ∧ isLstAt k L G = true := ⟨by simp only [seqSrc, h], by simp [isLstAt, h, PV.sames_self]⟩
theorem tlet_sp {fs} (hs : SpSa fs) {n P u T : PV} (hT : T = .non ∨ Smn T) {L : List PV} (hL : ∀ c ∈ L, Smn c) {k : Nat} {G : GH} (hk : G[k]? = some (.lst L)) :
    defV 2 K33.N_test_let (K33.b_test_let fs) [.tup [n, P, u, T], .obj k] G = .ok (.bl (letT T L)) G := by
  obtain ⟨q1, q2⟩ := seq_obj hk
  rcases hT with rfl | hT
  · simp [defV, K33.b_test_let, K33.N_test_let, env0, letT, isNon, trim_same]
  · cases hn : isNon T with
    | true => simp [defV, K33.b_test_let, K33.N_test_let, env0, letT, hn, trim_same]
    | false =>
      have lp := loop_pure (f := compF (gN 2) mYes (mA (mCons (m2 (mVar 0) (mCst (.int 3)) opIx) (mCons (mVar 2) (mNil))) fs) [2] [some (.tup [n, P, u, T]), some (.obj k), none]) (h := fun c => some (.bl (decide (rep T = rep c)))) (gd := isLstAt k L) (G := G) q2 (xs := L) fun c hc => by
        simp [compF, wipeE, noX, hs T c G hT (hL c hc)]
      rw [fm_map] at lp
      have an := any33 (fun c => decide (rep T = rep c)) L G
      simp [defV, K33.b_test_let, K33.N_test_let, env0, letT, hn, mComp_ap, q1, lp, an, trim_same]
/-- a conjunct that bounds the keys of a path -/
def bndC : PV → Bool
  | .tup [.str w, _, v] => decide (w ∈ bndW) && !isTup v
  | _ => false
def bndP (P : PV) : PV → Bool
  | .tup [.str w, Q, v] => decide (w ∈ bndW) && (decide (rep Q = rep P) && !isTup v)
  | _ => false
theorem pl_tup {v : PV} (h : plainB v = true) : isTup v = false := by cases v <;> first | rfl | cases h
theorem tup_pl {v : PV} (h : isTup v = true) : plainB v = false := by cases v <;> first | rfl | cases h
theorem pl_pln {v : PV} (h : plainB v = true) : plnB v = true := by
  cases v <;> first | rfl | cases h
theorem nin_bnd {w : Str} {G : GH} : Cop.notin.f [.str w, .tup [.str "like", .str "below", .str "above"]] G = .ok (.bl (!decide (w ∈ bndW))) G := by
  rw [ni_s3]
  have : (decide (w = "like") || (decide (w = "below") || decide (w = "above"))) = decide (w ∈ bndW) := by simp [bndW]
  rw [this]
theorem in_bnd {w : Str} {G : GH} : Cop.in_.f [.str w, .tup [.str "like", .str "below", .str "above"]] G = .ok (.bl (decide (w ∈ bndW))) G := by
  have e : inP G (.str w) (.tup [.str "like", .str "below", .str "above"]) = some (decide (w ∈ bndW)) := by
    have : (([.str "like", .str "below", .str "above"] : List PV).any fun z => eqFl z (.str w)) = decide (w ∈ bndW) := by
      simp only [List.any_cons, List.any_nil, eqFl_str, Bool.or_false]
      simp [bndW, Bool.beq_eq_decide_eq, eq_comm]
    rw [← this]
    rfl
  simp only [Cop.f, opInN, e]
  rfl
def SpBo (f : List PV → GH → Res PV) : Prop := ∀ c G, CoK c → Smn c → ∃ v, f [c] G = .ok v G ∧ isNon v = !bndC c
theorem bndC_oth {w : Str} {r : List PV} (h : w ∉ bndW) : bndC (.tup (.str w :: r)) = false := by
  unfold bndC; split
  · rename_i e
    simp only [PV.tup.injEq, List.cons.injEq, PV.str.injEq] at e
    rw [← e.1, decide_eq_false h]; rfl
  · rfl
theorem bndP_oth {P : PV} {w : Str} {r : List PV} (h : w ∉ bndW) : bndP P (.tup (.str w :: r)) = false := by
  unfold bndP; split
  · rename_i e
    simp only [PV.tup.injEq, List.cons.injEq, PV.str.injEq] at e
    rw [← e.1, decide_eq_false h]; rfl
  · rfl
theorem bounds33_sp {fp fk} (hp : SpB 100000 50 4000 plainB fp) (hk : SpKey fk) : SpBo (defV 1 K33.N_bounds_of (K33.b_bounds_of fp fk)) := by
  intro c G hc hs
  rcases hc with ⟨w, P, v, rfl, hw, hv⟩ | ⟨w, r, rfl, hw⟩
  · have sv : Smn v := Sm.tup' hs v (by simp)
    have e1 := hp v G sv
    have e2 := hk v G sv.dat
    have nb := nin_bnd (w := w) (G := G)
    rw [decide_eq_true hw] at nb
    have td : ∀ a b : PV, trimR G (.ok (.tup [a, b]) G) = .ok (.tup [a, b]) G := fun a b => trim_same _ _
    rcases hv with hv | hv
    · rw [hv] at e1
      have ec : bndC (.tup [.str w, P, v]) = true := by simp [bndC, hw, pl_tup hv]
      by_cases h1 : w = "like"
      · subst h1
        exact ⟨.tup [keyV v, keyV v], by simp [defV, K33.b_bounds_of, K33.N_bounds_of, env0, nb, e1, e2, td, size_line], by rw [ec]; rfl⟩
      · by_cases h2 : w = "below"
        · subst h2
          exact ⟨.tup [.non, keyV v], by simp [defV, K33.b_bounds_of, K33.N_bounds_of, env0, nb, e1, e2, td, h1, size_line], by rw [ec]; rfl⟩
        · exact ⟨.tup [keyV v, .non], by simp [defV, K33.b_bounds_of, K33.N_bounds_of, env0, nb, e1, e2, td, h1, h2, size_line], by rw [ec]; rfl⟩
    · rw [tup_pl hv] at e1
      exact ⟨.non, by simp [defV, K33.b_bounds_of, K33.N_bounds_of, env0, nb, e1, trim_same], by simp [bndC, hw, hv, isNon]⟩
  · have nb := nin_bnd (w := w) (G := G)
    rw [decide_eq_false hw] at nb
    exact ⟨.non, by simp [defV, K33.b_bounds_of, K33.N_bounds_of, env0, nb, trim_same], by rw [bndC_oth hw]; rfl⟩
def bdB (fa fb : List PV → GH → Res PV) : EV.Env → GH → Res Fl := sSeq (sIf (mtAnd (mB (m2 (m2 (mVar 3) (mCst (.int 0)) opIx) (mCst (.tup [.str "like", .str "below", .str "above"])) (Cop.f .in_))) (mtAnd (mT (mA (mCons (m2 (mVar 3) (mCst (.int 1)) opIx) (mCons (m2 (mVar 0) (mCst (.int 1)) opIx) (mNil))) fa)) (mB (m2 (mA (mCons (mVar 3) (mNil)) fb) (mCst .non) (Cop.f .isnot))))) (sSeq (sDrop (mMet "list" (mVar 2) (mCons (mVar 3) (mNil)) fAppend)) (sNext)) (sNext)) (sNext)
theorem app_new {G : GH} {acc : List PV} {c : PV} (h : acc.length ≤ 1000000) : fAppend (.obj G.length) [c] (G ++ [.lst acc]) = .ok .non (G ++ [.lst (acc ++ [c])]) := by
  have e : (G ++ [GO.lst acc])[G.length]? = some (.lst acc) := by simp
  simp only [fAppend, e]
  rw [if_pos (by rw [size_line]; omega)]
  simp [List.set_append]
theorem bd_loop {fa fb} (ha : SpSa fa) (hb : SpBo fb) {n P u T : PV} (hP : Smn P) {G : GH} {gd : GH → Bool} (hg : ∀ acc, gd (G ++ [.lst acc]) = true) {x1 : Option PV} : ∀ (L acc : List PV) (x3 : Option PV), (∀ c ∈ L, CoK c ∧ Smn c) → acc.length + L.length ≤ 1000000 →
    ∃ x3', loopF (forStep (gN 3) (bdB fa fb)) gd L [some (.tup [n, P, u, T]), x1, some (.obj G.length), x3] (G ++ [.lst acc]) = .ok (.next [some (.tup [n, P, u, T]), x1, some (.obj G.length), x3']) (G ++ [.lst (acc ++ L.filter (bndP P))])
  | [], acc, x3, _, _ => ⟨x3, by rw [List.filter_nil, List.append_nil]; exact loopF_nil (hg _)⟩
  | c :: L, acc, x3, h, hl => by
    obtain ⟨hc, hs⟩ := h c (List.mem_cons_self ..)
    rw [List.length_cons] at hl
    obtain ⟨v, e1, e2⟩ := hb c (G ++ [.lst acc]) hc hs
    have key : forStep (gN 3) (bdB fa fb) c [some (.tup [n, P, u, T]), x1, some (.obj G.length), x3] (G ++ [.lst acc]) = .ok (.next [some (.tup [n, P, u, T]), x1, some (.obj G.length), some c]) (G ++ [.lst (if bndP P c = true then acc ++ [c] else acc)]) := by
      rcases hc with ⟨w, Q, z, rfl, hw, hv⟩ | ⟨w, r, rfl, hw⟩
      · have sQ : Smn Q := Sm.tup' hs Q (by simp)
        have e3 := ha Q P (G ++ [.lst acc]) sQ hP
        have nb := in_bnd (w := w) (G := G ++ [.lst acc])
        rw [decide_eq_true hw] at nb
        have e4 : bndC (.tup [.str w, Q, z]) = !isTup z := by simp [bndC, hw]
        have e5 : bndP P (.tup [.str w, Q, z]) = (decide (rep Q = rep P) && !isTup z) := by simp [bndP, hw]
        have ap := app_new (G := G) (acc := acc) (c := .tup [.str w, Q, z]) (by omega)
        rw [e4] at e2
        rw [e5]
        cases hq : decide (rep Q = rep P) with
        | false =>
          rw [hq] at e3
          simp [forStep_ap, bdB, nb, e3]
        | true =>
          rw [hq] at e3
          cases hz : isTup z <;> rw [hz] at e2 <;> simp [forStep_ap, bdB, nb, e3, e1, e2, mMet, ty_last, ap]
      · have nb := in_bnd (w := w) (G := G ++ [.lst acc])
        rw [decide_eq_false hw] at nb
        rw [bndP_oth hw]
        simp [forStep_ap, bdB, nb]
    have go : ∃ x3', loopF (forStep (gN 3) (bdB fa fb)) gd L [some (.tup [n, P, u, T]), x1, some (.obj G.length), some c] (G ++ [.lst (if bndP P c = true then acc ++ [c] else acc)]) = .ok (.next [some (.tup [n, P, u, T]), x1, some (.obj G.length), x3']) (G ++ [.lst ((if bndP P c = true then acc ++ [c] else acc) ++ L.filter (bndP P))]) :=
      bd_loop ha hb hP hg L _ (some c) (fun c hc => h c (List.mem_cons_of_mem _ hc)) (by cases bndP P c <;> simp <;> omega)
    obtain ⟨x3', e⟩ := go
    refine ⟨x3', (loopF_next (f := forStep _ _) (hg _) key).trans ?_⟩
    rw [e]
    cases hb : bndP P c <;> simp [hb]
theorem bounding_sp {fa fb} (ha : SpSa fa) (hb : SpBo fb) {n P u T : PV} (hP : Smn P) {L : List PV} (hL : ∀ c ∈ L, CoK c ∧ Smn c) (hl : L.length ≤ 900000) {k : Nat} {G : GH} (hk : G[k]? = some (.lst L)) :
    defV 2 K33.N_bounding_of (K33.b_bounding_of fa fb) [.tup [n, P, u, T], .obj k] G = .ok (.obj G.length) (G ++ [.lst (L.filter (bndP P))]) := by
  have kl : k < G.length := (List.getElem?_eq_some_iff.mp hk).1
  have gk : ∀ acc, (G ++ [GO.lst acc])[k]? = some (.lst L) := fun acc => by rw [List.getElem?_append_left kl]; exact hk
  obtain ⟨x3', e⟩ := bd_loop ha hb (n := n) (u := u) (T := T) hP (G := G) (gd := isLstAt k L) (fun acc => (seq_obj (gk acc)).2) (x1 := some (.obj k)) L [] none hL (by simp; omega)
  have q1 := (seq_obj (gk [])).1
  have tn : ∀ T, trimR G (.ok (.obj G.length) T) = .ok (.obj G.length) T := fun T => trim_new (Nat.le_refl _)
  have ef : sSeq (sIf (mtAnd (mB (m2 (m2 (mVar 3) (mCst (.int 0)) opIx) (mCst (.tup [.str "like", .str "below", .str "above"])) (Cop.f .in_))) (mtAnd (mT (mA (mCons (m2 (mVar 3) (mCst (.int 1)) opIx) (mCons (m2 (mVar 0) (mCst (.int 1)) opIx) (mNil))) fa)) (mB (m2 (mA (mCons (mVar 3) (mNil)) fb) (mCst .non) (Cop.f .isnot))))) (sSeq (sDrop (mMet "list" (mVar 2) (mCons (mVar 3) (mNil)) fAppend)) (sNext)) (sNext)) (sNext) = bdB fa fb := rfl
  simp only [defV, K33.b_bounding_of, ef]
  rw [List.nil_append] at e
  simp [K33.N_bounding_of, env0, size_line, q1, e, tn]
/-- whether bounds let all that a conjunct of a key lets -/
def wideB (w : Str) (k lo hi : PV) : Bool :=
  if w = "like" then (isNon lo || leK lo k) && (isNon hi || leK k hi)
  else if w = "below" then (isNon lo || decide (kN lo < kN k)) && (isNon hi || leK k hi)
  else (isNon lo || leK lo k) && (isNon hi || decide (kN k < kN hi))
theorem opt_sgn {p : PV} (h : optS p = true) (hn : isNon p = false) : sgnB p = true := by
  unfold optS at h; rw [hn, Bool.false_or] at h; exact h
theorem wide_sp {fk} (hk : SpKey fk) {w : Str} {P v lo hi : PV} (hv : plainB v = true) (hd : datB v = true) (hl : optS lo = true) (hh : optS hi = true) (G : GH) :
    defV 3 K33.N_are_wide (K33.b_are_wide fk) [.tup [.str w, P, v], lo, hi] G = .ok (.bl (wideB w (keyV v) lo hi)) G := by
  have e1 := hk v G hd
  have sk := sgn_key (pl_pln hv)
  have ik := sgn_ix sk G
  have g3 : ∀ ρ : EV.Env, gTupE 3 (gConsE (gN 4) (gConsE (gN 5) (gConsE (gN 6) (gNilE)))) (.tup [.str w, P, v]) ρ G = .ok (((ρ.set 4 (some (.str w))).set 5 (some P)).set 6 (some v)) G := fun ρ => by simp [gTupE, gConsE, gNilE, gN]
  unfold wideB
  generalize keyV v = k at e1 sk ik ⊢
  cases nl : isNon lo <;> cases nh : isNon hi
  · have sl := opt_sgn hl nl; have sh := opt_sgn hh nh
    have a1 := le_sgn sl sk G; have a2 := le_sgn sk sh G; have i1 := sgn_ix sl G; have i2 := sgn_ix sh G
    by_cases h1 : w = "like"
    · subst h1; cases hb : leK lo k <;> simp [defV, K33.b_are_wide, K33.N_are_wide, env0, g3, e1, nl, nh, a1, a2, hb, trim_same]
    · by_cases h2 : w = "below"
      · subst h2; by_cases hb : kN lo < kN k <;> simp [defV, K33.b_are_wide, K33.N_are_wide, env0, g3, e1, nl, nh, a1, a2, i1, i2, ik, hb, h1, trim_same]
      · cases hb : leK lo k <;> simp [defV, K33.b_are_wide, K33.N_are_wide, env0, g3, e1, nl, nh, a1, a2, i1, i2, ik, hb, h1, h2, trim_same]
  · have sl := opt_sgn hl nl
    have a1 := le_sgn sl sk G; have i1 := sgn_ix sl G
    by_cases h1 : w = "like"
    · subst h1; cases hb : leK lo k <;> simp [defV, K33.b_are_wide, K33.N_are_wide, env0, g3, e1, nl, nh, a1, hb, trim_same]
    · by_cases h2 : w = "below"
      · subst h2; by_cases hb : kN lo < kN k <;> simp [defV, K33.b_are_wide, K33.N_are_wide, env0, g3, e1, nl, nh, a1, i1, ik, hb, h1, trim_same]
      · cases hb : leK lo k <;> simp [defV, K33.b_are_wide, K33.N_are_wide, env0, g3, e1, nl, nh, a1, i1, ik, hb, h1, h2, trim_same]
  · have sh := opt_sgn hh nh
    have a2 := le_sgn sk sh G; have i2 := sgn_ix sh G
    by_cases h1 : w = "like"
    · subst h1; simp [defV, K33.b_are_wide, K33.N_are_wide, env0, g3, e1, nl, nh, a2, trim_same]
    · by_cases h2 : w = "below"
      · subst h2; simp [defV, K33.b_are_wide, K33.N_are_wide, env0, g3, e1, nl, nh, a2, i2, ik, h1, trim_same]
      · simp [defV, K33.b_are_wide, K33.N_are_wide, env0, g3, e1, nl, nh, a2, i2, ik, h1, h2, trim_same]
  · by_cases h1 : w = "like"
    · subst h1; simp [defV, K33.b_are_wide, K33.N_are_wide, env0, g3, e1, nl, nh, trim_same]
    · by_cases h2 : w = "below"
      · subst h2; simp [defV, K33.b_are_wide, K33.N_are_wide, env0, g3, e1, nl, nh, h1, trim_same]
      · simp [defV, K33.b_are_wide, K33.N_are_wide, env0, g3, e1, nl, nh, h1, h2, trim_same]
end EV.NV
end
section
/-! U5: what lets_plan answers, what the law finds due (k33). -/
set_option Elab.async false
set_option linter.all false
set_option maxRecDepth 100000
set_option maxHeartbeats 1000000
namespace EV.NV
open PySem PySem.Spec PyProof.Rows L2
def ndX33 (w : Str) (G : GH) : Res PV := .exc 0 [("at", .int (-1)), ("word", .str w)] G
def SpNd33 (f : List PV → GH → Res PV) : Prop := ∀ b w G, f [.bl b, .str w, .int (-1)] G = if b = true then .ok .non G else ndX33 w G
theorem need33_sp {fg} (hg : gateB (fg [] []) = true) : SpNd33 (defV 3 K33.N_ask_so (K33.b_ask_so fg)) := by
  intro b w G
  cases b with
  | true => simp [defV, K33.b_ask_so, K33.N_ask_so, env0, trim_same]
  | false =>
    have e : K33.b_ask_so fg (env0 K33.N_ask_so.length [.bl false, .str w, .int (-1)]) G = .exc 0 [("at", .int (-1)), ("word", .str w)] G := by
      unfold K33.b_ask_so sRaise
      rw [if_pos hg]
      rfl
    show trimR G ((K33.b_ask_so fg (env0 K33.N_ask_so.length [.bl false, .str w, .int (-1)]) G).bind bodyEnd) = _
    rw [e]
    rfl
theorem need33_st {fn} (hn : SpNd33 fn) {me : EV.Env → GH → Res PV} {w : Str} {b : Bool} {ρ : EV.Env} {G G' : GH} (e1 : me ρ G = .ok (.bl b) G') :
    sDrop (mA (mCons me (mCons (mCst (.str w)) (mCons (m1 (mCst (.int 1)) opNeg) mNil))) fn) ρ G = if b = true then .ok (.next ρ) G' else .exc 0 [("at", .int (-1)), ("word", .str w)] G' := by
  have h := hn b w G'
  have o : opNeg [.int 1] G' = .ok (.int (-1)) G' := rfl
  simp only [sDrop, mA, mCons, mNil, mCst, m1, e1, o, Res.bind_ok, h]
  cases b <;> rfl
/-- an index -/
def SlK (s : PV) : Prop := ∃ n P u T, s = .tup [.str n, P, u, T] ∧ Smn P ∧ (T = .non ∨ Smn T)
def nameIs (w : Str) : PV → Bool
  | .tup (.str n :: _) => decide (n = w)
  | _ => false
/-- whether a conjunct bounds, and the bounds are wide -/
def wideC (lo hi : PV) : PV → Bool
  | .tup [.str w, _, v] => wideB w (keyV v) lo hi
  | _ => false
/-- the word due of a plan of an index, none where it is let -/
def judI (n : Nat) (t : PV) (sl : List PV) (w : Str) (a b : PV) : Option Str := match sl.filter (nameIs w) with
  | [] => some "name"
  | s :: _ => match s with
    | .tup [_, P, _, T] => if letT T (conjF n t) = true then (if (conjF n t).any (fun c => bndP P c && wideC a b c) = true then none else some "bounds") else some "test"
    | _ => none
def judP (n : Nat) (t : PV) (sl : List PV) : PV → Option Str
  | .tup [.str w, .str nm, a, b] => if (planB (.tup [.str w, .str nm, a, b])) = true then judI n t sl nm a b else some "shape"
  | x => if planB x = true then none else some "shape"
def ansP : Option Str → PV
  | none => .lst [.str "told", .bl true]
  | some w => .lst [.str "paper", .str w, .int (-1)]
/-- what lets_plan tells: truth, or the refusal -/
def SpLp (f : List PV → GH → Res PV) (F t : PV) (x : PV) (q : Option Str) : Prop := ∀ G, match q with
  | none => f [F, t, x] G = .ok (.bl true) G
  | some w => ∃ S, f [F, t, x] G = .exc 0 [("at", .int (-1)), ("word", .str w)] (G ++ S)
section
variable {fa fn fb fc fi ft : List PV → GH → Res PV}
theorem name_loop {sl : List PV} (h : ∀ s ∈ sl, SlK s) {w : Str} {v i : Nat} {ρ : EV.Env} {G : GH} {me : EV.Env → GH → Res PV} (hρ : ∀ i, ((wipeE ρ [v]).set v i)[v]? = some i) (hm : ∀ i, me ((wipeE ρ [v]).set v i) G = .ok (.str w) G) :
    loopC (compF (gN v) (mB (m2 (m2 (mVar v) (mCst (.int 0)) opIx) me (Cop.f .eq))) (mVar v) [v] ρ) (fun _ => true) sl G = .ok (sl.filter (nameIs w)) G := by
  rw [loop_pure (h := fun x => if nameIs w x = true then some x else none) rfl]
  · rw [fm_filter]
  · intro s hs
    obtain ⟨n, P, u, T, rfl, _⟩ := h s hs
    by_cases e : n = w
    · simp [compF, noX, hρ, hm, nameIs, e]
    · simp [compF, noX, hρ, hm, nameIs, e]
theorem wide_loop {fa} (hk : ∀ {w : Str} {Q v lo hi : PV}, plainB v = true → datB v = true → optS lo = true → optS hi = true → ∀ G, fa [.tup [.str w, Q, v], lo, hi] G = .ok (.bl (wideB w (keyV v) lo hi)) G) {P lo hi : PV} (hl : optS lo = true) (hh : optS hi = true) {L : List PV} (hL : ∀ c ∈ L, CoK c ∧ Smn c) {ρ : EV.Env} {G : GH} {gd : GH → Bool} (hg : gd G = true) (hρ : ∀ i, ((wipeE ρ [11]).set 11 i)[11]? = some i) (h7 : ∀ i, ((wipeE ρ [11]).set 11 i)[7]? = some (some lo)) (h8 : ∀ i, ((wipeE ρ [11]).set 11 i)[8]? = some (some hi)) :
    loopC (compF (gN 11) mYes (mA (mCons (mVar 11) (mCons (mVar 7) (mCons (mVar 8) (mNil)))) fa) [11] ρ) gd (L.filter (bndP P)) G = .ok ((L.filter (bndP P)).map fun c => .bl (wideC lo hi c)) G := by
  rw [loop_pure (h := fun c => some (.bl (wideC lo hi c))) hg]
  · rw [fm_map]
  · intro c hc
    obtain ⟨hc1, hc2⟩ := List.mem_filter.mp hc
    obtain ⟨q1, q2⟩ := hL c hc1
    rcases q1 with ⟨w, Q, v, rfl, hw, hv⟩ | ⟨w, r, rfl, hw⟩
    · have hv2 : plainB v = true := by
        rcases hv with hv | hv
        · exact hv
        · simp [bndP, hv] at hc2
      have e := hk (w := w) (Q := Q) hv2 (Sm.tup' q2 v (by simp)).dat hl hh G
      simp [compF, noX, hρ, h7, h8, e, wideC]
    · rw [bndP_oth hw] at hc2
      cases hc2
theorem any_filter33 (P lo hi : PV) (L : List PV) : (L.filter (bndP P)).any (wideC lo hi) = L.any fun c => bndP P c && wideC lo hi c := by
  rw [List.any_filter]
theorem lp_index (hn : SpNd33 fn) (hi : SpB 100000 51 4000 planB fi) {n : Nat} (hc : SpCj n fc) (hs : ∀ {m P u T : PV}, (T = .non ∨ Smn T) → ∀ {L : List PV}, (∀ c ∈ L, Smn c) → ∀ {k : Nat} {G : GH}, G[k]? = some (.lst L) → ft [.tup [m, P, u, T], .obj k] G = .ok (.bl (letT T L)) G)
    (hb : ∀ {m P u T : PV}, Smn P → ∀ {L : List PV}, (∀ c ∈ L, CoK c ∧ Smn c) → L.length ≤ 900000 → ∀ {k : Nat} {G : GH}, G[k]? = some (.lst L) → fb [.tup [m, P, u, T], .obj k] G = .ok (.obj G.length) (G ++ [.lst (L.filter (bndP P))]))
    (hk : ∀ {w : Str} {Q v lo hi : PV}, plainB v = true → datB v = true → optS lo = true → optS hi = true → ∀ G, fa [.tup [.str w, Q, v], lo, hi] G = .ok (.bl (wideB w (keyV v) lo hi)) G)
    {d s t : PV} {sl : List PV} (hsl : ∀ s ∈ sl, SlK s ∧ Smn s) (ht : WK n t) (hts : Smn t) {w : Str} {a b : PV} (hx : Sm 100000 51 4000 (.tup [.str "index", .str w, a, b])) (ha : optS a = true) (hbb : optS b = true) (hp : planB (.tup [.str "index", .str w, a, b]) = true) :
    SpLp (defV 3 K33.N_lets_plan (K33.b_lets_plan fa fn fb fc fi ft)) (.tup [d, .tup sl, s]) t (.tup [.str "index", .str w, a, b]) (judI n t sl w a b) := by
  intro G
  have g3 : ∀ ρ : EV.Env, gTupE 3 (gConsE (gN 6) (gConsE (gN 7) (gConsE (gN 8) (gNilE)))) (.lst [.str w, a, b]) ρ G = .ok (((ρ.set 6 (some (.str w))).set 7 (some a)).set 8 (some b)) G := fun ρ => by simp [gTupE, gConsE, gNilE, gN]
  have e0 := need33_st hn (me := mA (mCons (mVar 2) mNil) fi) (w := "shape") (b := true) (ρ := env0 K33.N_lets_plan.length [.tup [d, .tup sl, s], t, .tup [.str "index", .str w, a, b]]) (G := G) (G' := G) (by simp [env0, K33.N_lets_plan, hi _ G hx, hp])
  rw [if_pos rfl] at e0
  have nl := name_loop (fun s hs => (hsl s hs).1) (w := w) (v := 10) (i := 0) (G := G) (me := mVar 6) (ρ := [some (.tup [d, .tup sl, s]), some t, some (.tup [.str "index", .str w, a, b]), none, none, some (.str "index"), some (.str w), some a, some b, some (.lst [.str w, a, b]), none, none]) (fun _ => rfl) (fun _ => rfl)
  have hf : ∀ s ∈ sl.filter (nameIs w), SlK s ∧ Smn s := fun s hs => hsl s (List.mem_filter.mp hs).1
  have stp : ∀ r : Res Fl, K33.b_lets_plan fa fn fb fc fi ft (env0 K33.N_lets_plan.length [.tup [d, .tup sl, s], t, .tup [.str "index", .str w, a, b]]) G = r → defV 3 K33.N_lets_plan (K33.b_lets_plan fa fn fb fc fi ft) [.tup [d, .tup sl, s], t, .tup [.str "index", .str w, a, b]] G = trimR G (r.bind bodyEnd) := fun r e => by
    show trimR G ((K33.b_lets_plan fa fn fb fc fi ft (env0 K33.N_lets_plan.length [.tup [d, .tup sl, s], t, .tup [.str "index", .str w, a, b]]) G).bind bodyEnd) = _
    rw [e]
  generalize hV : defV 3 K33.N_lets_plan (K33.b_lets_plan fa fn fb fc fi ft) [.tup [d, .tup sl, s], t, .tup [.str "index", .str w, a, b]] G = V at stp
  unfold K33.b_lets_plan at stp
  -- up to the indexes of the name
  rw [sq_next e0] at stp
  rw [sq_next (ρ' := [some (.tup [d, .tup sl, s]), some t, some (.tup [.str "index", .str w, a, b]), none, none, some (.str "index"), none, none, none, some (.lst [.str w, a, b]), none, none]) (G' := G) (by simp [env0, K33.N_lets_plan, gStar_1])] at stp
  rw [sq_next (ρ' := [some (.tup [d, .tup sl, s]), some t, some (.tup [.str "index", .str w, a, b]), none, none, some (.str "index"), none, none, none, some (.lst [.str w, a, b]), none, none]) (G' := G) (by
    have : ("index" : Str) ≠ "all" := by decide
    simp [this])] at stp
  rw [sq_next (ρ' := [some (.tup [d, .tup sl, s]), some t, some (.tup [.str "index", .str w, a, b]), none, none, some (.str "index"), some (.str w), some a, some b, some (.lst [.str w, a, b]), none, none]) (G' := G) (by simp [g3])] at stp
  rw [sq_next (ρ' := [some (.tup [d, .tup sl, s]), some t, some (.tup [.str "index", .str w, a, b]), some (.lst (sl.filter (nameIs w))), none, some (.str "index"), some (.str w), some a, some b, some (.lst [.str w, a, b]), none, none]) (G' := G) (by simp [mComp_ap, nl])] at stp
  have fL : fitXs (sl.filter (nameIs w)) = true := fitXs_of fun y hy => (hf y hy).2.f
  have dL : deps (sl.filter (nameIs w)) < 60 := Nat.lt_of_le_of_lt (deps_le fun y hy => (hf y hy).2.d) (by decide)
  have en := ne_nilL (G := G) fL dL
  have e1 := need33_st hn (me := m2 (mVar 3) (mA (mNil) mkLst) (Cop.f .ne)) (w := "name") (b := !(sl.filter (nameIs w)).isEmpty) (ρ := [some (.tup [d, .tup sl, s]), some t, some (.tup [.str "index", .str w, a, b]), some (.lst (sl.filter (nameIs w))), none, some (.str "index"), some (.str w), some a, some b, some (.lst [.str w, a, b]), none, none]) (G := G) (G' := G) (by simp [size_line, en])
  unfold judI
  cases hF : sl.filter (nameIs w) with
  | nil =>
    rw [hF] at stp e1
    rw [if_neg (by simp)] at e1
    refine ⟨[], ?_⟩
    rw [hV, stp _ (sq_exc e1), List.append_nil]
    rfl
  | cons i0 r =>
    rw [hF] at stp e1 hf
    rw [if_pos (by simp)] at e1
    obtain ⟨⟨m, P, u, T, rfl, hP, hT⟩, _⟩ := hf _ (List.mem_cons_self ..)
    rw [sq_next e1] at stp
    have cs := conj_sm ht hts
    have co := ht.co
    have cl : (conjF n t).length ≤ 900000 := by have := cs.2; have := hts.w; omega
    obtain ⟨R, ec⟩ := hc t G ht hts
    rw [sq_next (ρ' := [some (.tup [d, .tup sl, s]), some t, some (.tup [.str "index", .str w, a, b]), some (.lst (.tup [.str m, P, u, T] :: r)), some (.obj G.length), some (.str "index"), some (.str w), some a, some b, some (.lst [.str w, a, b]), none, none]) (G' := G ++ .lst (conjF n t) :: R) (by simp [ec])] at stp
    have gk : (G ++ .lst (conjF n t) :: R)[G.length]? = some (.lst (conjF n t)) := mid_get _ _ _
    have el := hs (m := .str m) (P := P) (u := u) hT cs.1 gk
    have e2 := need33_st hn (me := mA (mCons (m2 (mVar 3) (mCst (.int 0)) opIx) (mCons (mVar 4) (mNil))) ft) (w := "test") (b := letT T (conjF n t)) (ρ := [some (.tup [d, .tup sl, s]), some t, some (.tup [.str "index", .str w, a, b]), some (.lst (.tup [.str m, P, u, T] :: r)), some (.obj G.length), some (.str "index"), some (.str w), some a, some b, some (.lst [.str w, a, b]), none, none]) (G := G ++ .lst (conjF n t) :: R) (G' := G ++ .lst (conjF n t) :: R) (by simp [el])
    dsimp only
    cases hl : letT T (conjF n t) with
    | false =>
      rw [hl, if_neg Bool.false_ne_true] at e2
      rw [if_neg Bool.false_ne_true]
      refine ⟨.lst (conjF n t) :: R, ?_⟩
      rw [hV, stp _ (sq_exc e2)]
      rfl
    | true =>
      rw [hl, if_pos rfl] at e2
      rw [if_pos rfl]
      rw [sq_next e2] at stp
      have eb := hb (m := .str m) (u := u) (T := T) hP (fun c hc => ⟨co c hc, cs.1 c hc⟩) cl gk
      generalize hG' : G ++ .lst (conjF n t) :: R = G' at stp eb gk
      obtain ⟨q1, q2⟩ := seq_obj (k := G'.length) (L := (conjF n t).filter (bndP P)) (G := G' ++ [.lst ((conjF n t).filter (bndP P))]) (by simp)
      have wl := wide_loop hk (P := P) ha hbb (L := conjF n t) (fun c hc => ⟨co c hc, cs.1 c hc⟩) (G := G' ++ [.lst ((conjF n t).filter (bndP P))]) (gd := isLstAt G'.length ((conjF n t).filter (bndP P))) q2 (ρ := [some (.tup [d, .tup sl, s]), some t, some (.tup [.str "index", .str w, a, b]), some (.lst (.tup [.str m, P, u, T] :: r)), some (.obj G.length), some (.str "index"), some (.str w), some a, some b, some (.lst [.str w, a, b]), none, none]) (fun _ => rfl) (fun _ => rfl) (fun _ => rfl)
      have an := any33 (wideC a b) ((conjF n t).filter (bndP P)) (G' ++ [.lst ((conjF n t).filter (bndP P))])
      rw [any_filter33] at an
      have e3 := need33_st hn (me := mA (mCons (mComp false (mSeq (mA (mCons (m2 (mVar 3) (mCst (.int 0)) opIx) (mCons (mVar 4) (mNil))) fb)) (gN 11) (mYes) (mA (mCons (mVar 11) (mCons (mVar 7) (mCons (mVar 8) (mNil)))) fa) [11]) (mNil)) bAny) (w := "bounds") (b := (conjF n t).any fun c => bndP P c && wideC a b c) (ρ := [some (.tup [d, .tup sl, s]), some t, some (.tup [.str "index", .str w, a, b]), some (.lst (.tup [.str m, P, u, T] :: r)), some (.obj G.length), some (.str "index"), some (.str w), some a, some b, some (.lst [.str w, a, b]), none, none]) (G := G') (G' := G' ++ [.lst ((conjF n t).filter (bndP P))]) (by simp [mComp_ap, eb, q1, wl, an])
      cases hw : (conjF n t).any fun c => bndP P c && wideC a b c with
      | false =>
        rw [hw, if_neg Bool.false_ne_true] at e3
        rw [if_neg Bool.false_ne_true]
        refine ⟨.lst (conjF n t) :: (R ++ [.lst ((conjF n t).filter (bndP P))]), ?_⟩
        rw [hV, stp _ (sq_exc e3), ← hG']
        simp [trimR]
      | true =>
        rw [hw, if_pos rfl] at e3
        rw [if_pos rfl]
        rw [sq_next e3] at stp
        refine hV.trans ?_
        refine (stp (.ok (.ret (.bl true)) (G' ++ [.lst ((conjF n t).filter (bndP P))])) (by simp)).trans ?_
        rw [← hG', List.append_assoc]
        exact trim_back rfl
end
end EV.NV
end
section
/-! U6: of any small thing lets_plan tells what is due (k33). -/
set_option Elab.async false
set_option linter.all false
set_option maxRecDepth 100000
set_option maxHeartbeats 1000000
namespace EV.NV
open PySem PySem.Spec PyProof.Rows L2
theorem plan_cases {x : PV} (h : planB x = true) : x = .tup [.str "all"] ∨ ∃ (w : Str) (a b : PV), x = .tup [.str "index", .str w, a, b] ∧ optS a = true ∧ optS b = true := by
  unfold planB at h
  split at h
  · rw [of_decide_eq_true h]; exact .inl rfl
  · rename_i n a b
    simp only [Bool.and_eq_true, decide_eq_true_eq] at h
    obtain ⟨rfl, h1, h2, h3⟩ := h
    cases n <;> first | (cases h1; done) | exact .inr ⟨_, a, b, rfl, h2, h3⟩
  · cases h
theorem judP_bad {n : Nat} {t : PV} {sl : List PV} {x : PV} (h : planB x = false) : judP n t sl x = some "shape" := by
  unfold judP; split
  · rw [h]; rfl
  · rw [h]; rfl
section
variable {fa fn fb fc fi ft : List PV → GH → Res PV}
theorem lp_bad (hn : SpNd33 fn) (hi : SpB 100000 51 4000 planB fi) {F t x : PV} (hx : Sm 100000 51 4000 x) (hp : planB x = false) : SpLp (defV 3 K33.N_lets_plan (K33.b_lets_plan fa fn fb fc fi ft)) F t x (some "shape") := by
  intro G
  have e0 := need33_st hn (me := mA (mCons (mVar 2) mNil) fi) (w := "shape") (b := false) (ρ := env0 K33.N_lets_plan.length [F, t, x]) (G := G) (G' := G) (by simp [env0, K33.N_lets_plan, hi _ G hx, hp])
  rw [if_neg Bool.false_ne_true] at e0
  refine ⟨[], ?_⟩
  show trimR G ((K33.b_lets_plan fa fn fb fc fi ft (env0 K33.N_lets_plan.length [F, t, x]) G).bind bodyEnd) = _
  unfold K33.b_lets_plan
  rw [sq_exc e0, List.append_nil]
  rfl
theorem lp_all (hn : SpNd33 fn) (hi : SpB 100000 51 4000 planB fi) {F t : PV} (hx : Sm 100000 51 4000 (.tup [.str "all"])) : SpLp (defV 3 K33.N_lets_plan (K33.b_lets_plan fa fn fb fc fi ft)) F t (.tup [.str "all"]) none := by
  intro G
  have e0 := need33_st hn (me := mA (mCons (mVar 2) mNil) fi) (w := "shape") (b := true) (ρ := env0 K33.N_lets_plan.length [F, t, .tup [.str "all"]]) (G := G) (G' := G) (by
    have : planB (.tup [.str "all"]) = true := rfl
    simp [env0, K33.N_lets_plan, hi _ G hx, this])
  rw [if_pos rfl] at e0
  show trimR G ((K33.b_lets_plan fa fn fb fc fi ft (env0 K33.N_lets_plan.length [F, t, .tup [.str "all"]]) G).bind bodyEnd) = _
  unfold K33.b_lets_plan
  rw [sq_next e0]
  rw [sq_next (ρ' := [some F, some t, some (.tup [.str "all"]), none, none, some (.str "all"), none, none, none, some (.lst []), none, none]) (G' := G) (by simp [env0, K33.N_lets_plan, gStar_1])]
  rw [sq_ret (v := .bl true) (G' := G) (by simp)]
  exact trim_same _ _
end
/-! ### what the law finds due -/
theorem goes33_sp {c P : PV} (hc : CoK c) (hs : Smn c) (hP : Smn P) (G : GH) : defV 2 K33.N__law_goes_by K33.b__law_goes_by [c, P] G = .ok (.bl (bndP P c)) G := by
  rcases hc with ⟨w, Q, v, rfl, hw, hv⟩ | ⟨w, r, rfl, hw⟩
  · have nb := nin_bnd (w := w) (G := G)
    rw [decide_eq_true hw] at nb
    have iv := isi_tup (G := G) (Sm.tup' hs v (by simp)).dat
    have sQ : Smn Q := Sm.tup' hs Q (by simp)
    cases hz : isTup v <;> rw [hz] at iv <;> simp [defV, K33.b__law_goes_by, K33.N__law_goes_by, env0, nb, iv, bndP, hw, hz, rep33 sQ, rep33 hP, trim_same, size_line]
  · have nb := nin_bnd (w := w) (G := G)
    rw [decide_eq_false hw] at nb
    rw [bndP_oth hw]
    simp [defV, K33.b__law_goes_by, K33.N__law_goes_by, env0, nb, trim_same, size_line]
theorem lets33_sp {fs} (hs : ∀ {p : PV}, plnB p = true → datB p = true → ∀ G, fs [p] G = .ok (keyV p) G) {w : Str} {P v lo hi : PV} (hv : plainB v = true) (hd : datB v = true) (hl : optS lo = true) (hh : optS hi = true) (G : GH) :
    defV 3 K33.N__law_lets (K33.b__law_lets fs) [.tup [.str w, P, v], lo, hi] G = .ok (.bl (wideB w (keyV v) lo hi)) G := by
  have e1 := hs (pl_pln hv) hd G
  have sk := sgn_key (pl_pln hv)
  have ik := sgn_ix sk G
  unfold wideB
  generalize keyV v = k at e1 sk ik ⊢
  cases nl : isNon lo <;> cases nh : isNon hi
  · have sl := opt_sgn hl nl; have sh := opt_sgn hh nh
    have a1 := le_sgn sl sk G; have a2 := ge_sgn sh sk G; have i1 := sgn_ix sl G; have i2 := sgn_ix sh G
    by_cases h1 : w = "like"
    · subst h1; cases hb : leK lo k <;> simp [defV, K33.b__law_lets, K33.N__law_lets, env0, e1, nl, nh, a1, a2, hb, trim_same]
    · by_cases h2 : w = "below"
      · subst h2; by_cases hb : kN lo < kN k <;> simp [defV, K33.b__law_lets, K33.N__law_lets, env0, e1, nl, nh, a1, a2, i1, i2, ik, hb, h1, trim_same]
      · cases hb : leK lo k <;> simp [defV, K33.b__law_lets, K33.N__law_lets, env0, e1, nl, nh, a1, a2, i1, i2, ik, hb, h1, h2, trim_same]
  · have sl := opt_sgn hl nl
    have a1 := le_sgn sl sk G; have i1 := sgn_ix sl G
    by_cases h1 : w = "like"
    · subst h1; cases hb : leK lo k <;> simp [defV, K33.b__law_lets, K33.N__law_lets, env0, e1, nl, nh, a1, hb, trim_same]
    · by_cases h2 : w = "below"
      · subst h2; by_cases hb : kN lo < kN k <;> simp [defV, K33.b__law_lets, K33.N__law_lets, env0, e1, nl, nh, a1, i1, ik, hb, h1, trim_same]
      · cases hb : leK lo k <;> simp [defV, K33.b__law_lets, K33.N__law_lets, env0, e1, nl, nh, a1, i1, ik, hb, h1, h2, trim_same]
  · have sh := opt_sgn hh nh
    have a2 := ge_sgn sh sk G; have i2 := sgn_ix sh G
    by_cases h1 : w = "like"
    · subst h1; simp [defV, K33.b__law_lets, K33.N__law_lets, env0, e1, nl, nh, a2, trim_same]
    · by_cases h2 : w = "below"
      · subst h2; simp [defV, K33.b__law_lets, K33.N__law_lets, env0, e1, nl, nh, a2, i2, ik, h1, trim_same]
      · simp [defV, K33.b__law_lets, K33.N__law_lets, env0, e1, nl, nh, a2, i2, ik, h1, h2, trim_same]
  · by_cases h1 : w = "like"
    · subst h1; simp [defV, K33.b__law_lets, K33.N__law_lets, env0, e1, nl, nh, trim_same]
    · by_cases h2 : w = "below"
      · subst h2; simp [defV, K33.b__law_lets, K33.N__law_lets, env0, e1, nl, nh, h1, trim_same]
      · simp [defV, K33.b__law_lets, K33.N__law_lets, env0, e1, nl, nh, h1, h2, trim_same]
theorem notin_strs {G : GH} {s : Str} {ps : List Str} : Cop.notin.f [.str s, .lst (ps.map .str)] G = .ok (.bl (!ps.any fun t => decide (t = s))) G := by
  have e : (ps.map PV.str).all flatP = true := by simp [List.all_eq_true, flatP]
  have e2 : inP G (.str s) (.lst (ps.map .str)) = some ((ps.map PV.str).any fun z => eqFl z (.str s)) := by
    simp only [inP, asS, asL, e, flatP, Bool.and_self, if_true]
  simp only [Cop.f, opInN, e2]
  simp only [List.any_map]
  rfl
def tdV : PV := .lst [.str "told", .bl true]
def dueB (fg fl : List PV → GH → Res PV) : EV.Env → GH → Res Fl := sSeq (sIf (mtAnd (mT (mA (mCons (mVar 5) (mCons (m2 (m2 (mVar 3) (mCst (.int 0)) opIx) (mCst (.int 1)) opIx) (mNil))) fg)) (mT (mA (mCons (mVar 5) (mCons (m2 (mVar 2) (mCst (.int 2)) opIx) (mCons (m2 (mVar 2) (mCst (.int 3)) opIx) (mNil)))) fl))) (sSeq (sRet (mA (mCons (mCst (.str "told")) (mCons (mCst (.bl true)) (mNil))) mkLst)) (sNext)) (sNext)) (sNext)
section
variable {fc fg fl fr : List PV → GH → Res PV}
theorem due_loop (hg : ∀ {c P : PV}, CoK c → Smn c → Smn P → ∀ G, fg [c, P] G = .ok (.bl (bndP P c)) G)
    (hl : ∀ {w : Str} {P v lo hi : PV}, plainB v = true → datB v = true → optS lo = true → optS hi = true → ∀ G, fl [.tup [.str w, P, v], lo, hi] G = .ok (.bl (wideB w (keyV v) lo hi)) G)
    {m P u T a b : PV} {r : List PV} {w : Str} (hP : Smn P) (ha : optS a = true) (hb : optS b = true) {G : GH} {x0 x1 x4 x6 : Option PV} : ∀ (L : List PV) (x5 : Option PV), (∀ c ∈ L, CoK c ∧ Smn c) →
    (if L.any (fun c => bndP P c && wideC a b c) = true then loopF (forStep (gN 5) (dueB fg fl)) (fun _ => true) L [x0, x1, some (.tup [.str "index", .str w, a, b]), some (.lst (.tup [m, P, u, T] :: r)), x4, x5, x6] G = .ok (.ret tdV) G
      else ∃ x5', loopF (forStep (gN 5) (dueB fg fl)) (fun _ => true) L [x0, x1, some (.tup [.str "index", .str w, a, b]), some (.lst (.tup [m, P, u, T] :: r)), x4, x5, x6] G = .ok (.next [x0, x1, some (.tup [.str "index", .str w, a, b]), some (.lst (.tup [m, P, u, T] :: r)), x4, x5', x6]) G)
  | [], x5, _ => ⟨x5, loopF_nil rfl⟩
  | c :: L, x5, h => by
    obtain ⟨hc, hs⟩ := h c (List.mem_cons_self ..)
    have e1 := hg hc hs hP G
    have ih := due_loop hg hl (m := m) (P := P) (u := u) (T := T) (r := r) (w := w) hP ha hb (G := G) (x0 := x0) (x1 := x1) (x4 := x4) (x6 := x6) L (some c) fun c hc => h c (List.mem_cons_of_mem _ hc)
    have st : forStep (gN 5) (dueB fg fl) c [x0, x1, some (.tup [.str "index", .str w, a, b]), some (.lst (.tup [m, P, u, T] :: r)), x4, x5, x6] G = (if (bndP P c && wideC a b c) = true then .ok (.ret tdV) G else .ok (.next [x0, x1, some (.tup [.str "index", .str w, a, b]), some (.lst (.tup [m, P, u, T] :: r)), x4, some c, x6]) G) := by
      cases hb1 : bndP P c with
      | false =>
        rw [hb1] at e1
        simp [forStep_ap, dueB, e1]
      | true =>
        rw [hb1] at e1
        rcases hc with ⟨z, Q, v, rfl, hw, hv⟩ | ⟨z, q, rfl, hw⟩
        · have hv2 : plainB v = true := by
            rcases hv with hv | hv
            · exact hv
            · simp [bndP, hv] at hb1
          have e2 := hl (w := z) (P := Q) hv2 (Sm.tup' hs v (by simp)).dat ha hb G
          have e3 : wideC a b (.tup [.str z, Q, v]) = wideB z (keyV v) a b := rfl
          rw [e3]
          cases hw2 : wideB z (keyV v) a b <;> rw [hw2] at e2 <;> simp [forStep_ap, dueB, e1, e2, tdV, size_line]
        · rw [bndP_oth hw] at hb1
          cases hb1
    rw [List.any_cons]
    cases hcc : (bndP P c && wideC a b c) with
    | true =>
      rw [hcc, if_pos rfl] at st
      rw [Bool.true_or, if_pos rfl]
      exact loopF_ret rfl st
    | false =>
      rw [hcc, if_neg Bool.false_ne_true] at st
      rw [Bool.false_or]
      have e := loopF_next (f := forStep (gN 5) (dueB fg fl)) (gd := fun _ => true) (xs := L) rfl st
      split
      · rename_i hh
        rw [if_pos hh] at ih
        rw [e]; exact ih
      · rename_i hh
        rw [if_neg hh] at ih
        obtain ⟨x5', e2⟩ := ih
        exact ⟨x5', e.trans e2⟩
theorem due33_sp (hr : SpB 100000 51 4000 planB fr) {n : Nat} (hc : SpCjL n fc) (hg : ∀ {c P : PV}, CoK c → Smn c → Smn P → ∀ G, fg [c, P] G = .ok (.bl (bndP P c)) G)
    (hl : ∀ {w : Str} {P v lo hi : PV}, plainB v = true → datB v = true → optS lo = true → optS hi = true → ∀ G, fl [.tup [.str w, P, v], lo, hi] G = .ok (.bl (wideB w (keyV v) lo hi)) G)
    {d s t : PV} {sl : List PV} (hsl : ∀ s ∈ sl, SlK s ∧ Smn s) (ht : WK n t) (hts : Smn t) {x : PV} (hx : Sm 100000 51 4000 x) (G : GH) :
    defV 3 K33.N__law_due (K33.b__law_due fc fg fr fl) [.tup [d, .tup sl, s], t, x] G = .ok (ansP (judP n t sl x)) G := by
  have er := hr x G hx
  have ng : opNeg [.int 1] G = .ok (.int (-1)) G := rfl
  cases hp : planB x with
  | false =>
    rw [hp] at er
    rw [judP_bad hp]
    simp [defV, K33.b__law_due, K33.N__law_due, env0, er, ansP, size_line, ng, trim_same]
  | true =>
    rw [hp] at er
    rcases plan_cases hp with rfl | ⟨w, a, b, rfl, ha, hb⟩
    · have : judP n t sl (.tup [.str "all"]) = none := rfl
      rw [this]
      simp [defV, K33.b__law_due, K33.N__law_due, env0, er, ansP, size_line, trim_same]
    · have ej : judP n t sl (.tup [.str "index", .str w, a, b]) = judI n t sl w a b := by rw [judP, if_pos hp]
      rw [ej]
      have nl := name_loop (fun s hs => (hsl s hs).1) (w := w) (v := 6) (i := 0) (G := G) (me := m2 (mVar 2) (mCst (.int 1)) opIx) (ρ := [some (.tup [d, .tup sl, s]), some t, some (.tup [.str "index", .str w, a, b]), none, none, none, none]) (fun _ => rfl) (fun _ => by simp [wipeE])
      have hf : ∀ s ∈ sl.filter (nameIs w), SlK s ∧ Smn s := fun s hs => hsl s (List.mem_filter.mp hs).1
      have fL : fitXs (sl.filter (nameIs w)) = true := fitXs_of fun y hy => (hf y hy).2.f
      have dL : deps (sl.filter (nameIs w)) ≤ 60 := Nat.le_trans (deps_le fun y hy => (hf y hy).2.d) (by decide)
      have en := eq_nil (G := G) fL dL
      have ia : ("index" : Str) ≠ "all" := by decide
      have cs := conj_sm ht hts
      have co := ht.co
      have ec := hc t G ht hts
      show trimR G ((K33.b__law_due fc fg fr fl (env0 K33.N__law_due.length [.tup [d, .tup sl, s], t, .tup [.str "index", .str w, a, b]]) G).bind bodyEnd) = _
      unfold K33.b__law_due judI
      rw [sq_next (ρ' := [some (.tup [d, .tup sl, s]), some t, some (.tup [.str "index", .str w, a, b]), none, none, none, none]) (G' := G) (by simp [env0, K33.N__law_due, er])]
      rw [sq_next (ρ' := [some (.tup [d, .tup sl, s]), some t, some (.tup [.str "index", .str w, a, b]), none, none, none, none]) (G' := G) (by simp [ia])]
      rw [sq_next (ρ' := [some (.tup [d, .tup sl, s]), some t, some (.tup [.str "index", .str w, a, b]), some (.lst (sl.filter (nameIs w))), none, none, none]) (G' := G) (by simp [mComp_ap, nl])]
      cases hF : sl.filter (nameIs w) with
      | nil =>
        rw [hF] at en
        rw [sq_ret (v := ansP (some "name")) (G' := G) (by simp [size_line, en, ansP, ng])]
        exact trim_same _ _
      | cons i0 r =>
        rw [hF] at en hf
        obtain ⟨⟨m, P, u, T, rfl, hP, hT⟩, _⟩ := hf _ (List.mem_cons_self ..)
        rw [sq_next (ρ' := [some (.tup [d, .tup sl, s]), some t, some (.tup [.str "index", .str w, a, b]), some (.lst (.tup [.str m, P, u, T] :: r)), none, none, none]) (G' := G) (by simp [size_line, en])]
        rw [sq_next (ρ' := [some (.tup [d, .tup sl, s]), some t, some (.tup [.str "index", .str w, a, b]), some (.lst (.tup [.str m, P, u, T] :: r)), some (.lst (conjF n t)), none, none]) (G' := G) (by simp [ec])]
        have lr := loop_pure (f := compF (gN 5) mYes (mA (mCons (mVar 5) (mNil)) bRepr) [5] [some (.tup [d, .tup sl, s]), some t, some (.tup [.str "index", .str w, a, b]), some (.lst (.tup [.str m, P, u, T] :: r)), some (.lst (conjF n t)), none, none]) (h := fun c => some (.str (rep c))) (gd := fun _ => true) (G := G) rfl (xs := conjF n t) fun c hc => by
          simp [compF, wipeE, noX, rep33 (cs.1 c hc)]
        rw [fm_map] at lr
        have lr2 : ((conjF n t).map fun c => PV.str (rep c)) = ((conjF n t).map rep).map .str := by rw [List.map_map]; rfl
        rw [lr2] at lr
        have ni := notin_strs (G := G) (s := rep T) (ps := (conjF n t).map rep)
        rw [List.any_map] at ni
        have ea : ((conjF n t).any ((fun t => decide (t = rep T)) ∘ rep)) = (conjF n t).any fun c => decide (rep T = rep c) := by
          refine any_mem fun c _ => ?_
          show decide (rep c = rep T) = decide (rep T = rep c)
          exact decide_eq_decide.mpr eq_comm
        rw [ea] at ni
        dsimp only
        have tst : (mtAnd (mB (m2 (m2 (m2 (mVar 3) (mCst (.int 0)) opIx) (mCst (.int 3)) opIx) (mCst .non) (Cop.f .isnot))) (mB (m2 (mA (mCons (m2 (m2 (mVar 3) (mCst (.int 0)) opIx) (mCst (.int 3)) opIx) (mNil)) bRepr) (mComp false (mSeq (mVar 4)) (gN 5) (mYes) (mA (mCons (mVar 5) (mNil)) bRepr) [5]) (Cop.f .notin)))) [some (.tup [d, .tup sl, s]), some t, some (.tup [.str "index", .str w, a, b]), some (.lst (.tup [.str m, P, u, T] :: r)), some (.lst (conjF n t)), none, none] G = .ok (!letT T (conjF n t)) G := by
          unfold letT
          rcases hT with rfl | hT
          · simp [isNon]
          · cases hn : isNon T with
            | true => simp [hn]
            | false =>
              simp only [List.map_map] at lr ni
              simp [hn, rep33 hT, mComp_ap, lr, ni]
        cases hlt : letT T (conjF n t) with
        | false =>
          rw [hlt] at tst
          rw [if_neg Bool.false_ne_true]
          rw [sq_ret (v := ansP (some "test")) (G' := G) ((ifT tst).trans (by simp [size_line, ansP, ng]))]
          exact trim_same _ _
        | true =>
          rw [hlt] at tst
          rw [if_pos rfl]
          rw [sq_next (ρ' := [some (.tup [d, .tup sl, s]), some t, some (.tup [.str "index", .str w, a, b]), some (.lst (.tup [.str m, P, u, T] :: r)), some (.lst (conjF n t)), none, none]) (G' := G) ((ifF tst).trans (by simp))]
          have dl := due_loop hg hl (m := .str m) (P := P) (u := u) (T := T) (r := r) (w := w) hP ha hb (G := G) (x0 := some (.tup [d, .tup sl, s])) (x1 := some t) (x4 := some (.lst (conjF n t))) (x6 := none) (conjF n t) none fun c hc => ⟨co c hc, cs.1 c hc⟩
          have ef : sSeq (sIf (mtAnd (mT (mA (mCons (mVar 5) (mCons (m2 (m2 (mVar 3) (mCst (.int 0)) opIx) (mCst (.int 1)) opIx) (mNil))) fg)) (mT (mA (mCons (mVar 5) (mCons (m2 (mVar 2) (mCst (.int 2)) opIx) (mCons (m2 (mVar 2) (mCst (.int 3)) opIx) (mNil)))) fl))) (sSeq (sRet (mA (mCons (mCst (.str "told")) (mCons (mCst (.bl true)) (mNil))) mkLst)) (sNext)) (sNext)) (sNext) = dueB fg fl := rfl
          rw [ef]
          by_cases hany : (conjF n t).any (fun c => bndP P c && wideC a b c) = true
          · rw [if_pos hany] at dl
            rw [if_pos hany]
            rw [sq_ret (v := tdV) (G' := G) (by rw [sFor_ap]; simp [dl])]
            exact trim_same _ _
          · rw [if_neg hany] at dl
            obtain ⟨x5', dl⟩ := dl
            rw [if_neg hany]
            rw [sq_next (ρ' := [some (.tup [d, .tup sl, s]), some t, some (.tup [.str "index", .str w, a, b]), some (.lst (.tup [.str m, P, u, T] :: r)), some (.lst (conjF n t)), x5', none]) (G' := G) (by rw [sFor_ap]; simp [dl])]
            rw [sq_ret (v := ansP (some "bounds")) (G' := G) (by simp [size_line, ansP, ng])]
            exact trim_same _ _
end
/-! ### what is told -/
theorem su33_at (w : Str) (G : GH) : pickH 1 (hL K33.th25) 0 [("at", .int (-1)), ("word", .str w)] (List.replicate 5 none) G =
    .ok (.next [none, some (.lst [.str "paper", .str w, .int (-1)]), none, some (.lst [.bl true, .bl false, .bl false, .bl false, .bl false, .bl false]), some (.bl false)]) G := by
  have e : pickH 1 (hL K33.th25) 0 [("at", .int (-1)), ("word", .str w)] = K33.su25_0_0 [("at", .int (-1)), ("word", .str w)] := rfl
  rw [e]
  have l1 : List.lookup ("word" : Str) [(("at" : Str), PV.int (-1)), ("word", .str w)] = some (.str w) := rfl
  have l2 : List.lookup ("at" : Str) [(("at" : Str), PV.int (-1)), ("word", .str w)] = some (.int (-1)) := rfl
  have f1 : ∀ ρ G, mFld [("at", .int (-1)), ("word", .str w)] "word" ρ G = .ok (.str w) G := fun ρ G => by simp only [mFld, l1]
  have f2 : ∀ ρ G, mFld [("at", .int (-1)), ("word", .str w)] "at" ρ G = .ok (.int (-1)) G := fun ρ G => by simp only [mFld, l2]
  have c : ∀ G, fCntB (.lst [.bl true, .bl false, .bl false, .bl false, .bl false, .bl false]) [.bl true] G = .ok (.int 1) G := fun G => rfl
  have s1 : cutP [PV.bl true, .bl false, .bl false, .bl false, .bl false, .bl false] none (some 3) = [.bl true, .bl false, .bl false] := rfl
  have s2 : cutP [PV.bl true, .bl false, .bl false, .bl false, .bl false, .bl false] (some 3) none = [.bl false, .bl false, .bl false] := rfl
  have i1 : ∀ G, opIn [.bl true, .lst [.bl true, .bl false, .bl false]] G = .ok (.bl true) G := fun G => rfl
  have i2 : ∀ G, opIn [.bl true, .lst [.bl false, .bl false, .bl false]] G = .ok (.bl false) G := fun G => rfl
  have b1 : ∀ G, Cop.eq.f [.bl true, .bl false] G = .ok (.bl false) G := fun _ => rfl
  simp [K33.su25_0_0, size_line, mMet, tyP, c, f1, f2, s1, s2, i1, i2, b1]
theorem tell33_ok {m : EV.Env → GH → Res PV} {ρ : EV.Env} {G : GH} {q : Option Str} (h : match q with
    | none => m ρ G = .ok (.bl true) G
    | some w => ∃ S, m ρ G = .exc 0 [("at", .int (-1)), ("word", .str w)] (G ++ S)) : mTellL 5 1 "told" (pickH 1 (hL K33.th25)) m ρ G = .ok (ansP q) G := by
  unfold mTellL
  cases q with
  | none =>
    dsimp only at h
    rw [h]
    exact trim_same _ _
  | some w =>
    obtain ⟨S, h⟩ := h
    rw [h]
    have e : tellRL 5 1 "told" (pickH 1 (hL K33.th25)) (.exc 0 [("at", .int (-1)), ("word", .str w)] (G ++ S)) = .ok (.lst [.str "paper", .str w, .int (-1)]) (G ++ S) := by
      show (match pickH 1 (hL K33.th25) 0 [("at", .int (-1)), ("word", .str w)] (List.replicate 5 none) (G ++ S) with
        | .ok (.next ρ) G1 => (match ρ[1]? with
          | some (some p) => (.ok p G1 : Res PV)
          | _ => .bad)
        | .ok (.ret p) G1 => .ok p G1
        | _ => .bad) = _
      rw [su33_at]
      rfl
    rw [e]
    exact trim_back rfl
end EV.NV
end
section
/-! U7: tests, indexes by draws, with their shapes (k33); printed by mku7.py out of R9. -/
set_option Elab.async false
set_option linter.all false
set_option maxRecDepth 100000
set_option maxHeartbeats 1000000
namespace EV.NV
open PySem PySem.Spec PyProof.Rows L2
theorem pl4_pl {p : PV} (h : Pl4 p) : plainB p = true := by
  simp only [Pl4, plains4, List.mem_cons, List.not_mem_nil, or_false] at h
  rcases h with rfl | rfl | rfl | rfl | rfl | rfl | rfl | rfl | rfl | rfl | rfl <;> decide +kernel
abbrev SpWiK (n : Nat) (f : List PV → GH → Res PV) : Prop := SpG4 (cWi n) (fun p => SmI (wWi n) (3 + 2 * n) 3 p ∧ WK n p) f [.int n]
theorem wish_spK {fd fp fr fw} (hd : SpDraw4 fd) (hp : SpPl4 fp) (hr : SpRo4 fr) {n : Nat} (hrec : ∀ k, n = k + 1 → SpWiK k fw) : SpWiK n (defV 2 G4.N__law_wish (G4.b__law_wish fd fp fr fw)) := by
  intro D g R hg hD
  have sz := size_line
  have c10 := cWi10 n
  have w200 := wWi200 n
  have eN : env0 G4.N__law_wish.length [PV.obj 0, PV.int (n : Int)] = [some (.obj 0), some (.int n), none, none, none] := rfl
  refine wq_def rfl ?_
  rw [eN]
  have fin := fin4 (c := cWi n) (D := D) (g := g) (R := R) (P := fun p => SmI (wWi n) (3 + 2 * n) 3 p ∧ WK n p) fun p h => h.1.dat
  have wd : ∀ {s : Str} {d m : Nat}, s ∈ wordsL → SmI 8 d m (.str s) := fun h => smI_w h (by decide)
  unfold G4.b__law_wish
  refine wq_seq4 (fun ρ G' => ∃ r : Int, ∃ g', 0 ≤ r ∧ r < (if 0 < n then 8 else 5) ∧ ρ = [some (.obj 0), some (.int n), some (.int r), none, none] ∧ G' = g' :: R ∧ Fd4 (D + 1) g') ?_ fun ρ G' ⟨r, g1, r0, r1, e1, e2, hg1⟩ => ?_
  · by_cases hn : 0 < n
    · have h2 : (0 : Int) < n := by omega
      simp [h2, hn]
      refine wq_draw4 hd hg (by decide) (by decide) (by omega) fun r g1 r0 r1 hg1 => ?_
      simp
      exact ⟨r, r0, by rw [if_pos hn]; exact r1, rfl, hg1⟩
    · have h2 : ¬ (0 : Int) < n := by omega
      simp [h2, hn]
      refine wq_draw4 hd hg (by decide) (by decide) (by omega) fun r g1 r0 r1 hg1 => ?_
      simp
      exact ⟨r, r0, by rw [if_neg hn]; exact r1, rfl, hg1⟩
  subst e1 e2
  by_cases c0 : r = 0
  · refine wq_seq (wq_ifT (by simp [c0]) (wq_ret _ ?_ fun p G' h => goOn_ret (fin p G' h)))
    simp [sz]
    refine wq_G4 hr hg1 (by omega) fun p g2 hg2 h => ?_
    simp [sz]
    exact ⟨hg2.mono (by omega), (smI_t2 (wd (by simp [wordsL])) h (by decide)).mono (by omega) (by omega) (by omega), .oth (by simp [bndW]; decide) (by decide)⟩
  refine wq_seq (wq_ifF (by simp [c0]) (wq_next (goOn_next ?_)))
  by_cases c1 : r = 1 ∨ r = 2
  · refine wq_seq (wq_ifT (by
      rcases c1 with rfl | rfl <;> simp [in_i2, sz]) ?_)
    refine wq_seq4 (fun ρ G' => ∃ o g', (SmI 31 2 3 o ∧ (plainB o = true ∨ isTup o = true)) ∧ ρ = [some (.obj 0), some (.int n), some (.int r), some o, none] ∧ G' = g' :: R ∧ Fd4 (D + 3) g') ?_ fun ρ G' ⟨o, g2, ho, e1, e2, hg2⟩ => ?_
    · simp
      refine wq_draw4 hd hg1 (by decide) (by decide) (by omega) fun q g2 q0 q1 hg2 => ?_
      by_cases hq : 0 < q
      · simp [hq]
        refine wq_G4 hp hg2 (by omega) fun p g3 hg3 h => ?_
        simp
        exact ⟨p, ⟨(pl4_sm h).mono (by decide) (Nat.le_refl 2) (Nat.le_refl 3), .inl (pl4_pl h)⟩, rfl, hg3⟩
      · simp [hq]
        refine wq_G4 hp hg2 (by omega) fun p g3 hg3 h => ?_
        simp [sz]
        exact ⟨_, ⟨smI_t2 (u := 8) (v := 21) (wd (by simp [wordsL])) (smI_t1 (pl4_sm h) (by decide)) (by decide), .inr rfl⟩, rfl, hg3⟩
    · subst e1 e2
      refine wq_ret _ ?_ fun p G' h => goOn_ret (fin p G' h)
      simp [sz]
      refine wq_G4 hr hg2 (by omega) fun p g3 hg3 h => ?_
      simp [sz]
      exact ⟨hg3.mono (by omega), (smI_t3 (wd (by simp [wordsL])) h (ho.1) (by decide)).mono (by omega) (by omega) (by omega), .cmp (by simp [bndW]) ho.2⟩
  refine wq_seq (wq_ifF (by simp [in_i2, sz]; omega) (wq_next (goOn_next ?_)))
  by_cases c3 : r = 3 ∨ r = 4
  · refine wq_seq (wq_ifT (by
      rcases c3 with rfl | rfl <;> simp [in_i2, sz]) (wq_ret _ ?_ fun p G' h => goOn_ret (fin p G' h)))
    simp [sz]
    have wx : ∃ s : Str, (s ∈ wordsL ∧ s ∈ bndW) ∧ ∀ G, ixR [.str "below", .str "above"] (r - 3) G = .ok (.str s) G := by
      rcases c3 with rfl | rfl
      · exact ⟨"below", ⟨by simp [wordsL], by simp [bndW]⟩, fun _ => rfl⟩
      · exact ⟨"above", ⟨by simp [wordsL], by simp [bndW]⟩, fun _ => rfl⟩
    obtain ⟨s, hs, e⟩ := wx
    simp [e]
    refine wq_G4 hr hg1 (by omega) fun p g2 hg2 h => ?_
    simp [sz]
    refine wq_G4 hp hg2 (by omega) fun q g3 hg3 h3 => ?_
    simp [sz]
    exact ⟨hg3.mono (by omega), (smI_t3 (wd hs.1) h (pl4_sm h3) (by decide)).mono (by omega) (by omega) (by omega), .cmp hs.2 (.inl (pl4_pl h3))⟩
  refine wq_seq (wq_ifF (by simp [in_i2, sz]; omega) (wq_next (goOn_next ?_)))
  have npos : 0 < n := by
    by_cases h : 0 < n
    · exact h
    · rw [if_neg h] at r1; omega
  obtain ⟨k, rfl⟩ : ∃ k, n = k + 1 := ⟨n - 1, by omega⟩
  rw [if_pos npos] at r1
  have hk := hrec k rfl
  have eC : cWi (k + 1) = 14 + 2 * cWi k := rfl
  have eW : wWi (k + 1) = 20 + 2 * wWi k := rfl
  have ek : ((k + 1 : Nat) : Int) - 1 = k := by omega
  by_cases c5 : r = 5
  · refine wq_seq (wq_ifT (by simp [c5]) (wq_ret _ ?_ fun p G' h => goOn_ret (fin p G' h)))
    simp [sz]
    refine wq_G4 hk hg1 (by omega) fun p g2 hg2 h => ?_
    simp [sz]
    exact ⟨hg2.mono (by omega), (smI_t2 (wd (by simp [wordsL])) h.1 (by decide)).mono (by omega) (by omega) (by omega), .oth (by simp [bndW]; decide) (by decide)⟩
  refine wq_seq (wq_ifF (by simp [c5]) (wq_next (goOn_next ?_)))
  refine wq_ret _ ?_ fun p G' h => fin p G' h
  have wx : ∃ s : Str, (s ∈ wordsL ∧ s ∉ bndW ∧ (s = "and" ∨ s ≠ "and")) ∧ ∀ G, ixR [.str "and", .str "or"] (r - 6) G = .ok (.str s) G := by
    have : r = 6 ∨ r = 7 := by omega
    rcases this with rfl | rfl
    · exact ⟨"and", ⟨by simp [wordsL], and_bnd, .inl rfl⟩, fun _ => rfl⟩
    · exact ⟨"or", ⟨by simp [wordsL], by simp [bndW]; decide, .inr (by decide)⟩, fun _ => rfl⟩
  obtain ⟨s, hs, e⟩ := wx
  have key : @wq PV (mComp false (mRng (mCons (mA (mCons (mVar 0) (mCons (mCst (.int 3)) (mNil))) fd) (mNil))) (gN 4) (mYes) (mA (mCons (mVar 0) (mCons (m2 (mVar 1) (mCst (.int 1)) opSub) (mNil))) fw) [4] [some (.obj 0), some (.int ((k + 1 : Nat) : Int)), some (.int r), none, none] (g1 :: R)) ⟨fun p G' => ∃ g' ys, p = .lst ys ∧ G' = g' :: R ∧ Fd4 (D + 2 + 2 * cWi k) g' ∧ ys.length ≤ 2 ∧ ∀ y ∈ ys, SmI (wWi k) (3 + 2 * k) 3 y ∧ WK k y⟩ := by
    refine wq_compRg (B := 2) (fun j G => ∃ g', G = g' :: R ∧ Fd4 (D + 2 + j * cWi k) g') (fun y => SmI (wWi k) (3 + 2 * k) 3 y ∧ WK k y) (by decide) ?_ ?_ ?_
    · simp
      exact wq_draw4 hd hg1 (by decide) (by decide) (by omega) fun q g2 q0 q1 hg2 => ⟨q.toNat, by rw [Int.toNat_of_nonneg q0], by omega, g2, rfl, hg2.mono (by omega)⟩
    · intro i j G _ hj ⟨g2, e, h2⟩
      subst e
      have hj2 : j * cWi k ≤ 1 * cWi k := Nat.mul_le_mul_right _ (by omega)
      simp only [wipeE, List.set, mA_ap, mCons_ap, mNil_ap, mVar_ap, m2_ap, mCst_ap, List.getElem?_cons_succ, List.getElem?_cons_zero, Res.bind_ok, opSub_ii, ek]
      exact wq_use (hk _ _ _ h2 (by omega)) fun p G' ⟨g3, e, h3, h4⟩ => ⟨⟨g3, e, h3.mono (by rw [Nat.succ_mul]; omega)⟩, h4⟩
    · intro ys c G hc ⟨g2, e, h2⟩ hy hl
      have hk2 : c * cWi k ≤ 2 * cWi k := Nat.mul_le_mul_right _ hc
      exact ⟨g2, ys, rfl, e, h2.mono (by omega), by omega, hy⟩
  have e6 : ∀ G, (m2 (mA (mCons (mCst (.str "and")) (mCons (mCst (.str "or")) (mNil))) mkLst) (m2 (mVar 2) (mCst (.int 6)) opSub) opIx) [some (.obj 0), some (.int ((k + 1 : Nat) : Int)), some (.int r), none, none] G = .ok (.str s) G := fun G => by simp [e, sz]
  rw [mA_ap, mCons_ap, e6]
  simp only [mCons_ap, mA_ap, mNil_ap, Res.bind_ok, wq_bind]
  refine wq_use key fun p G' ⟨g2, ys, e1, e2, h1, h2, h3⟩ => ?_
  subst e1 e2
  simp [bTup, asS, asL, sz]
  refine ⟨h1.mono (by omega), (smI_t2 (wd hs.1) (smI_tup (c := 2) (fun y hy => (h3 y hy).1) h2 (by decide)) (by decide)).mono (by omega) (by omega) (by omega), ?_⟩
  rcases hs.2.2 with rfl | ho
  · exact .con fun y hy => (h3 y hy).2
  · exact .oth hs.2.1 ho
/-- an index that is made -/
def PK33 (p : PV) : Prop := SmI 610 6 4 p ∧ ∃ (s : Str) (a b c : PV), p = .tup [.str s, a, b, c] ∧ s ∈ wordsL ∧ (c = .non ∨ WK 1 c)
abbrev SpSlK (f : List PV → GH → Res PV) : Prop := SpG4 60 PK33 f []
theorem slate_spK {fd fr fw} (hd : SpDraw4 fd) (hr : SpRo4 fr) (hw : SpWiK 1 fw) : SpSlK (defV 1 G4.N__law_slate (G4.b__law_slate fd fr fw)) := by
  intro D g R hg hD
  have sz := size_line
  have eN : env0 G4.N__law_slate.length [PV.obj 0] = [some (.obj 0), none] := rfl
  have c1 : cWi 1 = 34 := rfl
  have w1 : wWi 1 = 420 := rfl
  refine wq_def rfl ?_
  rw [eN]
  unfold G4.b__law_slate
  refine wq_seq4 (fun ρ G' => ∃ o g', (SmI 420 5 4 o ∧ (o = .non ∨ WK 1 o)) ∧ ρ = [some (.obj 0), some o] ∧ G' = g' :: R ∧ Fd4 (D + 35) g') ?_ fun ρ G' ⟨o, g1, ho, e1, e2, hg1⟩ => ?_
  · simp
    refine wq_draw4 hd hg (by decide) (by decide) (by omega) fun r g1 r0 r1 hg1 => ?_
    by_cases h : r = 0
    · simp [h]
      refine wq_G4 (args := [.int 1]) hw hg1 (by omega) fun p g2 hg2 h => ?_
      simp
      exact ⟨p, ⟨h.1.mono (by omega) (by omega) (by omega), .inr h.2⟩, rfl, hg2.mono (by omega)⟩
    · simp [h]
      exact ⟨_, ⟨smI_non (by decide), .inl rfl⟩, rfl, hg1.mono (by omega)⟩
  subst e1 e2
  refine wq_ret (fun p G' => ∃ g' S, G' = g' :: (R ++ S) ∧ Fd4 (D + 60) g' ∧ PK33 p) ?_ (fin4 (P := PK33) fun p h => h.1.dat)
  simp [sz]
  refine wq_draw4 hd hg1 (by decide) (by decide) (by omega) fun r g2 r0 r1 hg2 => ?_
  simp
  refine wq_ix r0 (by simpa using r1) fun x hx => ?_
  have hx' : ∃ s : Str, x = .str s ∧ s ∈ wordsL := by
    simp only [List.mem_cons, List.not_mem_nil, or_false] at hx
    rcases hx with rfl | rfl | rfl | rfl <;> exact ⟨_, rfl, by simp [wordsL]⟩
  obtain ⟨s, rfl, hs⟩ := hx'
  simp [sz]
  refine wq_G4 hr hg2 (by omega) fun p g3 hg3 h => ?_
  simp [sz]
  refine wq_draw4 hd hg3 (by decide) (by decide) (by omega) fun q g4 q0 q1 hg4 => ?_
  simp [sz]
  exact ⟨hg4.mono (by omega), (smI_t4 (smI_w (w := 8) hs (by decide)) (h.mono (Nat.le_refl _) (by decide) (by decide)) (smI_bl (w := 1) (by decide)) ho.1 (by decide)).mono (by omega) (by omega) (by omega), _, _, _, _, rfl, hs, ho.2⟩
end EV.NV
end
section
/-! U8: what stands, made for plans (k33). -/
set_option Elab.async false
set_option linter.all false
set_option maxRecDepth 100000
set_option maxHeartbeats 1000000
namespace EV.NV
open PySem PySem.Spec PyProof.Rows L2
theorem sorted_at33 {k : Nat} {kv : List (Str × PV)} {G : GH} (e : G[k]? = some (.dic (kd kv))) (hl : kv.length ≤ 60) : ∃ ws : List Str, bSortD false [.obj k] G = .ok (.lst (ws.map .str)) G ∧ ws.length = kv.length ∧ ∀ w ∈ ws, ∃ v, (w, v) ∈ kv ∧ opIxA [.obj k, .str w] G = .ok v G := by
  have t : txtK (kd kv) = some kv := txtK_map kv
  have pm : (sortS (kv.map (·.1))).Perm (kv.map (·.1)) := List.mergeSort_perm _ _
  have ln : (sortS (kv.map (·.1))).length = kv.length := by rw [pm.length_eq, List.length_map]
  refine ⟨sortS (kv.map (·.1)), ?_, ln, fun w hw => ?_⟩
  · have l : ((sortS (kv.map (·.1))).map PV.str).length ≤ sizeLine := by rw [size_line, List.length_map, ln]; omega
    simp only [bSortD, e, t, if_pos (show kv.length < 64 by omega), mkL, if_pos l, Bool.false_eq_true, if_false]
    try rfl
  · have hm := pm.mem_iff.mp hw
    obtain ⟨q, hq, rfl⟩ := List.mem_map.mp hm
    have ex : ∃ v, getF kv q.1 = some v ∧ (q.1, v) ∈ kv := by
      unfold getF
      cases ef : kv.find? (fun p => decide (p.1 = q.1)) with
      | none =>
        have := List.find?_eq_none.mp ef q hq
        simp at this
      | some r =>
        have h1 := List.find?_some ef
        have h2 := List.mem_of_find?_eq_some ef
        have h3 : r.1 = q.1 := by simpa using h1
        exact ⟨r.2, rfl, by rw [← h3]; exact h2⟩
    obtain ⟨v, hv, hm⟩ := ex
    exact ⟨v, hm, by simp [opIxA, asD, e, keyP, get_kd, hv]⟩
theorem hide33 {α : Type} {r : Res α} {P : α → GH → Prop} (h : ∀ Q : α → GH → Prop, (∀ a G, P a G → Q a G) → @wq α r ⟨Q⟩) : @wq α r ⟨P⟩ := h P fun _ _ h => h
theorem forA33 {ms : EV.Env → GH → Res Src} {t : PV → EV.Env → GH → Res EV.Env} {b : EV.Env → GH → Res Fl} {ρ : EV.Env} {G G1 : GH} {Q : Fl → GH → Prop} (L : List PV) (I : Nat → EV.Env → GH → Prop) (e : ms ρ G = .ok ⟨L, fun _ => true⟩ G1) (h0 : I 0 ρ G1)
    (hs : ∀ x ∈ L, ∀ j ρ G, j < L.length → I j ρ G → @wq Fl (forStep t b x ρ G) ⟨fun fl G' => ∃ ρ', (fl = .next ρ' ∨ fl = .cont ρ') ∧ I (j + 1) ρ' G'⟩) (hq : ∀ ρ' G', I L.length ρ' G' → Q (.next ρ') G') : @wq Fl (sFor ms t b ρ G) ⟨Q⟩ := by
  refine wq_for e ?_
  refine wq_use (wq_loopF I L 0 h0 (fun _ _ _ _ => rfl) fun x hx j ρ G p1 p2 hj => hs x hx j ρ G (by omega) hj) fun fl G' ⟨ρ', e, h⟩ => ?_
  subst e
  rw [Nat.zero_add] at h
  exact hq ρ' G' h
/-- an index of a folder -/
def Ix33 (s : PV) : Prop := ∃ (w : Str) (P u T : PV), s = .tup [.str w, P, u, T] ∧ (T = .non ∨ WK 1 T) ∧ SmI 650 7 4 s
def Fol33 (p : PV) : Prop := ∃ (a c : PV) (sl : List PV), p = .tup [a, .tup sl, c] ∧ SmI 4500 11 4 p ∧ sl.length ≤ 4 ∧ ∀ s ∈ sl, Ix33 s
abbrev Fos33 (p : PV) : Prop := ∃ f1 f2, p = .lst [f1, f2] ∧ Fol33 f1 ∧ Fol33 f2
theorem field33 {c : Str} (h : c ∈ wordsL) {d m : Nat} (hm : 2 ≤ m) : SmI 19 (d + 2) m (.tup [.tup [.str "field", .str c]]) := smI_t1 (smI_t2 (smI_w (w := 8) (by simp [wordsL]) (by decide)) (smI_w (w := 8) h (by decide)) hm) (by omega)
theorem ix33_sm {s : PV} (h : Ix33 s) : SlK s ∧ Smn s := by
  obtain ⟨w, P, u, T, rfl, hT, hs⟩ := h
  have sm : Smn (.tup [.str w, P, u, T]) := hs.1.mono (by decide) (by decide) (by decide)
  exact ⟨⟨w, P, u, T, rfl, Sm.tup' sm P (by simp), .inr (Sm.tup' sm T (by simp))⟩, sm⟩
section
variable {fd fl fs : List PV → GH → Res PV}
theorem folders33_sp (hd : SpDraw4 fd) (hl : SpLf4 fl) (hs : SpSlK fs) {D : Nat} {g : GO} {R : GH} (hg : Fd4 D g) (hD : D + 400 ≤ 900000) :
    @wq PV (defV 1 K33.N__law_folders (K33.b__law_folders fd fl fs) [.obj 0] (g :: R)) ⟨fun q G' => ∃ g', G' = g' :: R ∧ Fd4 (D + 400) g' ∧ Fos33 q⟩ := by
  have sz := size_line
  have eN : env0 K33.N__law_folders.length [PV.obj 0] = [some (.obj 0), none, none, none, none, none, none, none] := rfl
  refine wq_def rfl ?_
  rw [eN]
  unfold K33.b__law_folders
  refine wq_seq4 (fun ρ G' => ∃ g' v, ρ = [some (.obj 0), some (.tup [.str "like", .tup [.tup [.str "field", .str "b"]], v]), none, none, none, none, none, none] ∧ G' = g' :: R ∧ Fd4 (D + 1) g' ∧ SmI 20 3 4 v ∧ plainB v = true) ?_ fun ρ G' ⟨g1, v, e1, e2, hg1, hv, hv2⟩ => ?_
  · refine hide33 fun Q hQ => ?_
    simp [sz]
    refine wq_draw4 hd hg (by decide) (by decide) (by omega) fun r g1 r0 r1 hg1 => ?_
    simp
    refine wq_ix r0 (by simpa using r1) fun x hx => ?_
    have hx' : SmI 20 3 4 x ∧ plainB x = true := by
      simp only [List.mem_cons, List.not_mem_nil, or_false] at hx
      rcases hx with rfl | rfl
      · exact ⟨smI_int (by decide) (by decide), rfl⟩
      · exact ⟨smI_bl (by decide), rfl⟩
    simp [sz]
    exact hQ _ _ ⟨_, rfl, g1, x, rfl, rfl, hg1, hx'⟩
  subst e1 e2
  have wW : SmI 60 4 4 (.tup [.str "like", .tup [.tup [.str "field", .str "b"]], v]) := (smI_t3 (smI_w (w := 8) (by simp [wordsL]) (by decide)) ((field33 (c := "b") (by simp [wordsL]) (d := 1) (m := 4) (by decide))) hv (by decide)).mono (by decide) (by decide) (by decide)
  have kW : WK 1 (.tup [.str "like", .tup [.tup [.str "field", .str "b"]], v]) := .cmp (by simp [bndW]) (.inl hv2)
  generalize PV.tup [.str "like", .tup [.tup [.str "field", .str "b"]], v] = W at wW kW ⊢
  refine wq_seq4 (fun ρ G' => ∃ sl, ρ = [some (.obj 0), some W, some (.tup sl), none, none, none, none, none] ∧ G' = g1 :: R ∧ sl.length ≤ 4 ∧ (∀ s ∈ sl, Ix33 s) ∧ SmI 1500 8 4 (.tup sl)) ?_ fun ρ G' ⟨s2, e1, e2, hsl, hsk, hs2⟩ => ?_
  · refine hide33 fun Q hQ => ?_
    simp [sz]
    have fA := field33 (c := "a") (by simp [wordsL]) (d := 2) (m := 4) (by decide)
    have a1 : SmI 650 7 4 (.tup [.str "by", .tup [.tup [.str "field", .str "a"]], .bl false, .non]) := (smI_t4 (smI_w (w := 8) (by simp [wordsL]) (by decide)) fA (smI_bl (w := 1) (by decide)) (smI_non (w := 1) (by decide)) (by decide)).mono (by decide) (by decide) (by decide)
    have a2 : SmI 650 7 4 (.tup [.str "far", .tup [.tup [.str "field", .str "a"]], .bl false, W]) := (smI_t4 (smI_w (w := 8) (by simp [wordsL]) (by decide)) fA (smI_bl (w := 1) (by decide)) wW (by decide)).mono (by decide) (by decide) (by decide)
    refine hQ _ _ ⟨_, rfl, _, rfl, rfl, by simp, fun s hs => ?_, (smI_t2 a1 a2 (by decide)).mono (by decide) (by decide) (by decide)⟩
    simp only [List.mem_cons, List.not_mem_nil, or_false] at hs
    rcases hs with rfl | rfl
    · exact ⟨_, _, _, _, rfl, .inl rfl, a1⟩
    · exact ⟨_, _, _, _, rfl, .inr kW, a2⟩
  subst e1 e2
  refine wq_seq4 (fun ρ G' => ρ = [some (.obj 0), some W, some (.tup s2), some (.obj (R.length + 1)), none, none, none, none] ∧ ∃ g2 kv, G' = g2 :: (R ++ .dic (kd kv) :: []) ∧ Fd4 (D + 1 + 0 * 60) g2 ∧ kv.length ≤ 0 ∧ ∀ q ∈ kv, (fun _ => True) q.1 ∧ Ix33 q.2) (by
    simp [sz, mDNew]
    exact ⟨g1, [], by simp [kd], by simpa using hg1, by simp⟩) fun ρ G' ⟨e1, hG⟩ => ?_
  subst e1
  refine wq_seq4 (fun ρ G' => ∃ o4 o6 g2 kv, ρ = [some (.obj 0), some W, some (.tup s2), some (.obj (R.length + 1)), o4, none, o6, none] ∧ G' = g2 :: (R ++ .dic (kd kv) :: []) ∧ Fd4 (D + 1 + 4 * 60) g2 ∧ kv.length ≤ 4 ∧ ∀ q ∈ kv, (fun _ => True) q.1 ∧ Ix33 q.2) ?_ fun ρ G' ⟨o4, o6, g2, kv, e1, e2, hg2, hl2, hk2⟩ => ?_
  · refine wq_forR (fun j ρ G' => ∃ o4 o6 g2 kv, ρ = [some (.obj 0), some W, some (.tup s2), some (.obj (R.length + 1)), o4, none, o6, none] ∧ G' = g2 :: (R ++ .dic (kd kv) :: []) ∧ Fd4 (D + 1 + j * 60) g2 ∧ kv.length ≤ j ∧ ∀ q ∈ kv, (fun _ => True) q.1 ∧ Ix33 q.2) 4 (by decide) (by decide) rfl ?_ ?_ ?_
    · obtain ⟨g2, kv, e, h1, h2, h3⟩ := hG
      exact ⟨none, none, g2, kv, rfl, e, h1, h2, h3⟩
    · intro i hi j ρ G hj ⟨o4, o6, g2, kv, e1, e2, hg2, hl2, hk2⟩
      subst e1 e2
      have hj2 : j * 60 ≤ 3 * 60 := Nat.mul_le_mul_right _ (by omega)
      rw [forStep_ap, gN_ap, wq_bind, wq_ok]
      refine wq_seq4 (fun ρ G' => ∃ g3 s a b c, ρ = [some (.obj 0), some W, some (.tup s2), some (.obj (R.length + 1)), some (.int i), none, some (.tup [.str s, a, b, c]), none] ∧ G' = g3 :: (R ++ .dic (kd kv) :: []) ∧ Fd4 (D + 1 + j * 60 + 60) g3 ∧ (c = .non ∨ WK 1 c) ∧ SmI 610 6 4 (.tup [.str s, a, b, c])) ?_ fun ρ G' ⟨g3, s, a, b, c, e1, e2, hg3, hc, hp⟩ => ?_
      · simp only [sAsg_ap, mA_ap, mCons_ap, mNil_ap, mVar_ap, List.set, List.getElem?_cons_succ, List.getElem?_cons_zero, Res.bind_ok, wq_bind, wq_ok]
        refine wq_G4 hs hg2 (by omega) fun p g3 hg3 ⟨hp, s, a, b, c, e, hw, hc⟩ => ?_
        subst e
        simp only [gN_ap, wq_ok, Res.bind_ok]
        exact ⟨_, rfl, g3, s, a, b, c, rfl, rfl, hg3, hc, hp⟩
      subst e1 e2
      have hx : Ix33 (.tup [.str s, a, .bl false, c]) := by
        refine ⟨s, a, .bl false, c, rfl, hc, ?_, ?_⟩
        · have f1 := hp.1.f
          have w1 := hp.1.w
          have d1 := hp.1.d
          have m1 := hp.1.m
          simp only [fitX, fitXs, Bool.and_eq_true, Bool.true_and, Bool.and_true, wgt, wgts, dep, deps, lnm, lnms, List.length_cons, List.length_nil] at f1 w1 d1 m1
          refine ⟨by simp [fitX, fitXs, f1], ?_, ?_, ?_⟩
          · simp only [wgt, wgts]; omega
          · simp only [dep, deps]; omega
          · simp only [lnm, lnms, List.length_cons, List.length_nil]; omega
        · have m1 := hp.2
          simp only [mxi, mxis] at m1 ⊢
          omega
      obtain ⟨kv', e, k1, k2⟩ := keys_put4 (w := s) (Pk := fun _ => True) (Pv := Ix33) hk2 trivial hx
      have c1 : cutP [PV.str s, a, b, c] none (some 2) = [.str s, a] := rfl
      have c2 : cutP [PV.str s, a, b, c] (some 3) none = [c] := rfl
      refine wq_seq4 (fun ρ G' => ρ = [some (.obj 0), some W, some (.tup s2), some (.obj (R.length + 1)), some (.int i), none, some (.tup [.str s, a, b, c]), none] ∧ G' = g3 :: (R ++ .dic (kd kv') :: [])) ?_ fun ρ G' ⟨e1, e2⟩ => ?_
      · simp [sz, c1, c2, setA_mid e (show kv.length ≤ 100 by omega)]
      subst e1 e2
      exact wq_next ⟨_, .inl rfl, _, _, g3, kv', rfl, rfl, hg3.mono (by rw [Nat.succ_mul]; omega), by omega, k1⟩
    · intro ρ G ⟨o4, o6, g2, kv, e1, e2, hg2, hl2, hk2⟩
      exact ⟨_, rfl, o4, o6, g2, kv, e1, e2, hg2, hl2, hk2⟩
  subst e1 e2
  generalize hT : R ++ .dic (kd kv) :: [] = T
  refine wq_seq4 (fun ρ G' => ∃ g3 x y, ρ = [some (.obj 0), some W, some (.tup s2), some (.obj (R.length + 1)), o4, some (.tup [x, y]), o6, none] ∧ G' = g3 :: T ∧ Fd4 (D + 330) g3 ∧ SmI 631 9 4 x ∧ SmI 631 9 4 y) ?_ fun ρ G' ⟨g3, x, y, e1, e2, hg3, hx, hy⟩ => ?_
  · refine hide33 fun Q hQ => ?_
    simp [sz]
    refine wq_G4 hl hg2 (by omega) fun p g3 hg3 hp => ?_
    simp [sz]
    refine wq_G4 hl hg3 (by omega) fun q g4 hg4 hq => ?_
    simp [sz]
    refine hQ _ _ ⟨_, rfl, g4, _, _, rfl, rfl, hg4.mono (by omega), (smI_t3 (smI_w (w := 8) (by simp [wordsL]) (by decide)) hp (smI_int (w := 20) (by decide) (by decide)) (by decide)).mono (by decide) (by decide) (by decide), (smI_t3 (smI_w (w := 8) (by simp [wordsL]) (by decide)) hq (smI_int (w := 20) (by decide) (by decide)) (by decide)).mono (by decide) (by decide) (by decide)⟩
  subst e1 e2
  have gs : (g3 :: T)[R.length + 1]? = some (.dic (kd kv)) := by rw [← hT]; exact get_mid _ _ _ _
  refine wq_ret (fun q G' => ∃ g' S, G' = g' :: (R ++ S) ∧ Fd4 (D + 400) g' ∧ Fos33 q) ?_ (fin4 (P := Fos33) fun p h => ?_)
  · refine hide33 fun Q hQ => ?_
    have key : @wq PV (mComp false (mSeq (mA (mCons (mVar 3) (mNil)) (bSortD false))) (gN 7) (mYes) (m2 (mVar 3) (mVar 7) opIxA) [7] [some (.obj 0), some W, some (.tup s2), some (.obj (R.length + 1)), o4, some (.tup [x, y]), o6, none] (g3 :: T)) ⟨fun p G' => ∃ zs, p = .lst zs ∧ G' = g3 :: T ∧ zs.length ≤ 4 ∧ ∀ y ∈ zs, Ix33 y⟩ := by
      obtain ⟨ws, e, hwl, hws⟩ := sorted_at33 gs (by omega)
      refine wq_compL (xs := ws.map .str) (fun j G => G = g3 :: T) Ix33 (by simp [e]) rfl ?_ ?_
      · intro x hx j G hj e3
        subst e3
        obtain ⟨w, hw, rfl⟩ := List.mem_map.mp hx
        obtain ⟨v, hv, ev⟩ := hws w hw
        simp only [wipeE, List.set, mVar_ap, m2_ap, List.getElem?_cons_succ, List.getElem?_cons_zero, Res.bind_ok, ev, wq_ok]
        exact ⟨trivial, (hk2 (w, v) hv).2⟩
      · intro zs G' e3 hy hl
        rw [List.length_map] at hl
        exact ⟨zs, rfl, e3, by omega, hy⟩
    have bt : ∀ (xs : List PV) G, bTup [.lst xs] G = .ok (.tup xs) G := fun xs G => by simp [bTup, asS, asL]
    have cx : cutP [x, y] none (some 1) = [x] := rfl

    simp only [mCons_ap, mA_ap, mNil_ap, mVar_ap, List.getElem?_cons_succ, List.getElem?_cons_zero, Res.bind_ok, wq_bind, wq_ok, bt]
    refine wq_use key fun p G' ⟨zs, e1, e2, hzl, hzs⟩ => ?_
    subst e1 e2
    simp [bt, sz, cx]
    have zI : ∀ s ∈ zs, SmI 650 7 4 s := fun s hs => by
      obtain ⟨_, _, _, _, _, _, h⟩ := hzs s hs
      exact h
    have nI : SmI 1 8 4 (.tup []) := ⟨⟨rfl, by decide, by decide, by decide⟩, by decide⟩
    refine hQ _ _ ⟨g3, .dic (kd kv) :: [], by rw [← hT], hg3.mono (by omega), _, _, rfl, ⟨_, _, zs, rfl, ?_, hzl, hzs⟩, ⟨_, _, s2, rfl, ?_, hsl, hsk⟩⟩
    · exact (smI_t3 (d := 10) (smI_t2 hx hy (by decide)) ((smI_tup (c := 4) zI hzl (by decide)).mono (Nat.le_refl _) (by decide) (Nat.le_refl _)) (nI.mono (Nat.le_refl _) (by decide) (Nat.le_refl _)) (by decide)).mono (by decide) (by decide) (by decide)
    · exact (smI_t3 (d := 10) (smI_t1 hx (by decide)) (hs2.mono (Nat.le_refl _) (by decide) (Nat.le_refl _)) (nI.mono (Nat.le_refl _) (by decide) (Nat.le_refl _)) (by decide)).mono (by decide) (by decide) (by decide)
  · obtain ⟨f1, f2, rfl, ⟨_, _, _, _, h1, _⟩, ⟨_, _, _, _, h2, _⟩⟩ := h
    simp [datB, datBs, h1.dat, h2.dat]
end
end EV.NV
end
section
/-! U9: the things asked of a plan (k33). -/
set_option Elab.async false
set_option linter.all false
set_option maxRecDepth 100000
set_option maxHeartbeats 1000000
namespace EV.NV
open PySem PySem.Spec PyProof.Rows L2
theorem conj_mxi {n : Nat} {t : PV} (h : WK n t) {b : Nat} (hs : mxi t ≤ b) : ∀ c ∈ conjF n t, mxi c ≤ b := by
  induction h with
  | cmp h1 h2 => rw [conj_oth (bnd_and h1)]; exact fun c hc => by rw [List.mem_singleton.mp hc]; exact hs
  | oth h1 h2 => rw [conj_oth h2]; exact fun c hc => by rw [List.mem_singleton.mp hc]; exact hs
  | con hk ih =>
    rename_i n ts
    rw [conj_con]
    intro c hc
    rcases List.mem_cons.mp hc with rfl | hc
    · exact hs
    · obtain ⟨t, ht, hc⟩ := List.mem_flatMap.mp hc
      have := mxis_each (mxis_each hs (.tup ts) (by simp)) t ht
      exact ih t ht this c hc
/-- a thing before it is bent -/
abbrev Tg33 (x : PV) : Prop := SmI 8000 12 4 x
/-- a sign, or none -/
abbrev Sg33 (x : PV) : Prop := SmI 3100 11 4 x
abbrev Th33 (x : PV) : Prop := Sm 90000 40 4000 x
theorem datL33 {L : List PV} (h : ∀ x ∈ L, Th33 x) : datB (.lst L) = true := by
  have : datBs L = true := by
    induction L with
    | nil => rfl
    | cons x xs ih => simp [datBs, (h x (List.mem_cons_self ..)).dat, ih fun y hy => h y (List.mem_cons_of_mem _ hy)]
  simpa [datB] using this
def hd33 : PV → PV
  | .tup (x :: _) => x
  | _ => .non
def isB33 : PV → Bool
  | .tup (.str w :: _) => decide (w ∈ bndW)
  | _ => false
def sg33 : PV → Option PV
  | .tup [_, _, v] => if isTup v = true then none else some (keyV v)
  | _ => none
theorem appE {g : GO} {R : GH} {xs : List PV} {v : PV} (h : xs.length ≤ 1000) : fAppend (.obj (R.length + 1)) [v] (g :: (R ++ [.lst xs])) = .ok .non (g :: (R ++ [.lst (xs ++ [v])])) := by
  have : xs.length < 16777216 := by omega
  simp [fAppend, size_line, this]
theorem tyE {g : GO} {R : GH} {xs : List PV} : tyP (g :: (R ++ [.lst xs])) (.obj (R.length + 1)) = some "list" := by simp [tyP]
theorem getE (g : GO) (R : GH) (xs : List PV) : (g :: (R ++ [GO.lst xs]))[R.length + 1]? = some (.lst xs) := by simp
theorem key33_sm {v : PV} (h : SmI 3000 10 4 v) (hv : plainB v = true) : Sg33 (keyV v) := by
  have q : ∀ i : Int, i.natAbs ≤ 9 → Sg33 (.tup [.int i, v]) := fun i hi => (smI_t2 (smI_int (w := 20) hi (by decide)) h (by decide)).mono (by decide) (by decide) (by decide)
  cases v <;> first | (cases hv; done) | exact q _ (by simp [isBl, isInt])
def nine33 : List PV := [.tup [.int 0, .bl false], .tup [.int 0, .bl true], .tup [.int 1, .int 0], .tup [.int 1, .int 2], .tup [.int 2, .str ""], .tup [.int 2, .str "z"], .tup [.int 1, .bl true], .tup [.int 0, .int 1], .tup [.int 2, .str "Z {"]]
theorem nine33_sm : ∀ x ∈ nine33, Sg33 x := by
  have h : nine33.all (fun x => fitX x && decide (wgt x ≤ 3100) && decide (dep x ≤ 11) && decide (lnm x ≤ 4) && decide (mxi x ≤ 9)) = true := by decide +kernel
  intro x hx
  have := List.all_eq_true.mp h x hx
  simp only [Bool.and_eq_true, decide_eq_true_eq] at this
  obtain ⟨⟨⟨⟨a, b⟩, c⟩, d⟩, e⟩ := this
  exact ⟨⟨a, b, c, d⟩, e⟩
def seven33 : List PV := [.tup [.str "all"], .tup [.str "all", .int 0], .tup [.str "index", .str "nobody", .non, .non], .tup [.str "index", .str "by"], .non, .tup [], .tup [.str "index", .str "B", .non, .non]]
theorem seven33_sm : ∀ x ∈ seven33, Tg33 x := by
  have h : seven33.all (fun x => fitX x && decide (wgt x ≤ 8000) && decide (dep x ≤ 12) && decide (lnm x ≤ 4) && decide (mxi x ≤ 9)) = true := by decide +kernel
  intro x hx
  have := List.all_eq_true.mp h x hx
  simp only [Bool.and_eq_true, decide_eq_true_eq] at this
  obtain ⟨⟨⟨⟨a, b⟩, c⟩, d⟩, e⟩ := this
  exact ⟨⟨a, b, c, d⟩, e⟩
abbrev envT (t F : PV) (k : Nat) (o4 o5 o6 o7 : Option PV) : EV.Env := [some (.obj 0), some t, some F, some (.obj (k + 1)), o4, o5, o6, o7, none, none]
abbrev tB33 (fc fd fs : List PV → GH → Res PV) : EV.Env → GH → Res Fl := (sSeq (sAsg (mComp false (mSeq (mA (mCons (mVar 1) (mNil)) fc)) (gN 9) (mB (m2 (m2 (mVar 9) (mCst (.int 0)) opIx) (mA (mCons (mCst (.str "like")) (mCons (mCst (.str "below")) (mCons (mCst (.str "above")) (mNil)))) mkTup) (Cop.f .in_))) (mVar 9) [9]) (gN 5)) (sSeq (sAsg (m2 (mA (mCons (mCst .non) (mNil)) mkLst) (mComp false (mSeq (mVar 5)) (gN 9) (mtNot (mT (m1 (m2 (mVar 9) (mCst (.int 2)) opIx) (bIsi "tuple")))) (mA (mCons (m2 (mVar 9) (mCst (.int 2)) opIx) (mNil)) fs) [9]) opAdd) (gN 6)) (sSeq (sAsg (m2 (mVar 6) (mA (mCons (mA (mCons (mCst (.int 0)) (mCons (mCst (.bl false)) (mNil))) mkTup) (mCons (mA (mCons (mCst (.int 0)) (mCons (mCst (.bl true)) (mNil))) mkTup) (mCons (mA (mCons (mCst (.int 1)) (mCons (mCst (.int 0)) (mNil))) mkTup) (mCons (mA (mCons (mCst (.int 1)) (mCons (mCst (.int 2)) (mNil))) mkTup) (mCons (mA (mCons (mCst (.int 2)) (mCons (mCst (.str "")) (mNil))) mkTup) (mCons (mA (mCons (mCst (.int 2)) (mCons (mCst (.str "z")) (mNil))) mkTup) (mCons (mA (mCons (mCst (.int 1)) (mCons (mCst (.bl true)) (mNil))) mkTup) (mCons (mA (mCons (mCst (.int 0)) (mCons (mCst (.int 1)) (mNil))) mkTup) (mCons (mA (mCons (mCst (.int 2)) (mCons (mCst (.str "Z {")) (mNil))) mkTup) (mNil)))))))))) mkLst) opAdd) (gN 6)) (sSeq (sFor (mRng (mCons (mCst (.int 14)) (mNil))) (gN 7) (sSeq (sDrop (mMet "list" (mVar 3) (mCons (mA (mCons (mCst (.str "index")) (mCons (mVar 4) (mCons (m2 (mVar 6) (mA (mCons (mVar 0) (mCons (mA (mCons (mVar 6) (mNil)) bLen) (mNil))) fd) opIx) (mCons (m2 (mVar 6) (mA (mCons (mVar 0) (mCons (mA (mCons (mVar 6) (mNil)) bLen) (mNil))) fd) opIx) (mNil))))) mkTup) (mNil)) fAppend)) (sNext))) (sNext)))))
theorem thingsE (fb fc fd fs : List PV → GH → Res PV) : K33.b__law_things fb fc fd fs = sSeq (sAsg (mA (mCons (mA (mCons (mCst (.str "all")) (mNil)) mkTup) (mCons (mA (mCons (mCst (.str "all")) (mCons (mCst (.int 0)) (mNil))) mkTup) (mCons (mA (mCons (mCst (.str "index")) (mCons (mCst (.str "nobody")) (mCons (mCst .non) (mCons (mCst .non) (mNil))))) mkTup) (mCons (mA (mCons (mCst (.str "index")) (mCons (mCst (.str "by")) (mNil))) mkTup) (mCons (mCst .non) (mCons (mA (mNil) mkTup) (mNil))))))) mkObj) (gN 3)) (sSeq (sDrop (mMet "list" (mVar 3) (mCons (mA (mCons (mCst (.str "index")) (mCons (mCst (.str "B")) (mCons (mCst .non) (mCons (mCst .non) (mNil))))) mkTup) (mNil)) fAppend)) (sSeq (sFor (mSeq (m2 (mComp false (mSeq (m2 (mVar 2) (mCst (.int 1)) opIx)) (gN 8) (mYes) (m2 (mVar 8) (mCst (.int 0)) opIx) [8]) (mA (mCons (mCst (.str "by")) (mNil)) mkLst) opAdd)) (gN 4) (tB33 fc fd fs)) (sSeq (sRet (m2 (mVar 3) (mComp false (mRng (mCons (mCst (.int 8)) (mNil))) (gN 7) (mYes) (mA (mCons (mVar 0) (mCons (m2 (mVar 3) (mA (mCons (mVar 0) (mCons (mA (mCons (mVar 3) (mNil)) bLen) (mNil))) fd) opIx) (mCons (mCst (.int 3)) (mNil)))) fb) [7]) opAdd)) (sNext)))) := rfl
section
variable {fb fc fd fs : List PV → GH → Res PV}
theorem tag33 (hd : SpDraw4 fd) (hc : SpCjL 2 fc) (hs : ∀ {p : PV}, plnB p = true → datB p = true → ∀ G, fs [p] G = .ok (keyV p) G) {t F : PV} (ht : WK 2 t) (hts : SmI 3000 10 4 t) {x : PV} (hx : SmI 650 6 4 x) {D : Nat} {g : GO} {R : GH} {L : List PV} {o4 o5 o6 o7 : Option PV} (hg : Fd4 D g) (hD : D + 28 ≤ 900000) (hL : ∀ y ∈ L, Tg33 y) (hl : L.length ≤ 900) :
    @wq Fl (forStep (gN 4) (tB33 fc fd fs) x (envT t F R.length o4 o5 o6 o7) (g :: (R ++ [.lst L]))) ⟨fun fl G' => ∃ ρ', (fl = .next ρ' ∨ fl = .cont ρ') ∧ ∃ (o4 o5 o6 o7 : Option PV) (g' : GO) (L' : List PV), ρ' = envT t F R.length o4 o5 o6 o7 ∧ G' = g' :: (R ++ [.lst L']) ∧ Fd4 (D + 28) g' ∧ (∀ y ∈ L', Tg33 y) ∧ L'.length ≤ L.length + 14 ∧ L.length ≤ L'.length⟩ := by
  have sz := size_line
  have sm1 : Smn t := hts.1.mono (by decide) (by decide) (by decide)
  have ct := fun G => hc t G ht sm1
  have co := ht.co
  have cs := conj_sm ht hts.1
  have ci := conj_mxi ht hts.2
  have cl : (conjF 2 t).length ≤ 3001 := by have := cs.2; have := hts.1.w; omega
  generalize conjF 2 t = C at ct co cs ci cl
  rw [forStep_ap, gN_ap, wq_bind, wq_ok]
  have l1 : ∀ G, loopC (compF (gN 9) (mB (m2 (m2 (mVar 9) (mCst (.int 0)) opIx) (mA (mCons (mCst (.str "like")) (mCons (mCst (.str "below")) (mCons (mCst (.str "above")) (mNil)))) mkTup) (Cop.f .in_))) (mVar 9) [9] (envT t F R.length (some x) o5 o6 o7)) (fun _ => true) C G = .ok (C.filter isB33) G := fun G => by
    rw [loop_pure (h := fun c => if isB33 c = true then some c else none) rfl, fm_filter]
    intro c hc
    rcases co c hc with ⟨w, P, v, rfl, hw, hv⟩ | ⟨w, r, rfl, hw⟩
    · have e := in_bnd (w := w) (G := G)
      rw [decide_eq_true hw] at e
      simp [compF, noX, wipeE, sz, e, isB33, hw]
    · have e := in_bnd (w := w) (G := G)
      rw [decide_eq_false hw] at e
      simp [compF, noX, wipeE, sz, e, isB33, hw]
  refine wq_seq4 (fun ρ G' => ρ = envT t F R.length (some x) (some (.lst (C.filter isB33))) o6 o7 ∧ G' = g :: (R ++ [.lst L])) ?_ fun ρ G' ⟨e1, e2⟩ => ?_
  · refine hide33 fun Q hQ => ?_
    have ce := ct (g :: (R ++ [.lst L]))
    have le := l1 (g :: (R ++ [.lst L]))
    simp only [envT] at le ⊢
    simp [mComp_ap, ce, le]
    exact hQ _ _ ⟨_, rfl, rfl, rfl⟩
  subst e1 e2
  have hB : ∀ c ∈ C.filter isB33, ∃ (w : Str) (P v : PV), c = .tup [.str w, P, v] ∧ (plainB v = true ∨ isTup v = true) ∧ SmI 3000 10 4 v := fun c hc => by
    obtain ⟨h1, h2⟩ := List.mem_filter.mp hc
    rcases co c h1 with ⟨w, P, v, rfl, hw, hv⟩ | ⟨w, r, rfl, hw⟩
    · exact ⟨w, P, v, rfl, hv, (Sm.tup' (cs.1 _ h1) v (by simp)), mxis_each (ci _ h1) v (by simp)⟩
    · simp [isB33, hw] at h2
  have bl : (C.filter isB33).length ≤ 3001 := Nat.le_trans (List.length_filter_le _ _) cl
  generalize C.filter isB33 = B at hB bl
  have l2 : ∀ G, loopC (compF (gN 9) (mtNot (mT (m1 (m2 (mVar 9) (mCst (.int 2)) opIx) (bIsi "tuple")))) (mA (mCons (m2 (mVar 9) (mCst (.int 2)) opIx) (mNil)) fs) [9] (envT t F R.length (some x) (some (.lst B)) o6 o7)) (fun _ => true) B G = .ok (B.filterMap sg33) G := fun G => by
    rw [loop_pure (h := sg33) rfl]
    intro c hc
    obtain ⟨w, P, v, rfl, hv, hsv⟩ := hB c hc
    have iv := isi_tup (G := G) hsv.dat
    cases hz : isTup v with
    | true => rw [hz] at iv; simp [compF, noX, wipeE, iv, sg33, hz]
    | false =>
      rw [hz] at iv
      have pv : plainB v = true := by
        rcases hv with h | h
        · exact h
        · rw [hz] at h; cases h
      have e := hs (pl_pln pv) hsv.dat G
      simp [compF, noX, wipeE, iv, sg33, hz, e]
  have hZ : ∀ z ∈ B.filterMap sg33, Sg33 z := fun z hz => by
    obtain ⟨c, hc, e⟩ := List.mem_filterMap.mp hz
    obtain ⟨w, P, v, rfl, hv, hsv⟩ := hB c hc
    have e' : (if isTup v = true then none else some (keyV v)) = some z := e
    by_cases htu : isTup v = true
    · rw [if_pos htu] at e'; cases e'
    · rw [if_neg htu] at e'
      injection e' with e'
      subst e'
      refine key33_sm hsv ?_
      rcases hv with h | h
      · exact h
      · exact absurd h htu
  have zl : (B.filterMap sg33).length ≤ 3001 := Nat.le_trans (List.length_filterMap_le _ _) bl
  refine wq_seq4 (fun ρ G' => ρ = envT t F R.length (some x) (some (.lst B)) (some (.lst (.non :: B.filterMap sg33))) o7 ∧ G' = g :: (R ++ [.lst L])) ?_ fun ρ G' ⟨e1, e2⟩ => ?_
  · refine hide33 fun Q hQ => ?_
    have le := l2 (g :: (R ++ [.lst L]))
    have ad : ∀ G, opAdd [.lst [.non], .lst (B.filterMap sg33)] G = .ok (.lst (.non :: B.filterMap sg33)) G := fun G => by
      rw [opAdd_ll, sz, if_pos (by simp only [List.length_cons, List.length_nil]; omega)]; rfl
    simp only [envT] at le ⊢
    simp [mComp_ap, le, sz, ad]
    exact hQ _ _ ⟨_, rfl, rfl, rfl⟩
  subst e1 e2
  generalize B.filterMap sg33 = Z at hZ zl
  refine wq_seq4 (fun ρ G' => ∃ S : List PV, 0 < S.length ∧ S.length ≤ 3100 ∧ (∀ z ∈ S, Sg33 z) ∧ ρ = envT t F R.length (some x) (some (.lst B)) (some (.lst S)) o7 ∧ G' = g :: (R ++ [.lst L])) ?_ fun ρ G' ⟨S, s0, s1, hS, e1, e2⟩ => ?_
  · refine hide33 fun Q hQ => ?_
    have ad : ∀ G, opAdd [.lst (.non :: Z), .lst nine33] G = .ok (.lst (.non :: Z ++ nine33)) G := fun G => by
      have : nine33.length = 9 := rfl
      rw [opAdd_ll, sz, if_pos (by simp only [List.length_cons]; omega)]
    simp only [nine33] at ad
    simp [sz, ad]
    refine hQ _ _ ⟨_, rfl, .non :: Z ++ nine33, by simp, by simp [nine33]; omega, fun z hz => ?_, rfl, rfl⟩
    rcases List.mem_append.mp hz with h | h
    · rcases List.mem_cons.mp h with rfl | h
      · exact smI_non (by decide)
      · exact hZ z h
    · exact nine33_sm z h
  subst e1 e2
  refine wq_seq4 (fun ρ G' => ∃ (o7 : Option PV) (g' : GO) (L' : List PV), ρ = envT t F R.length (some x) (some (.lst B)) (some (.lst S)) o7 ∧ G' = g' :: (R ++ [.lst L']) ∧ Fd4 (D + 28) g' ∧ (∀ y ∈ L', Tg33 y) ∧ L'.length ≤ L.length + 14 ∧ L.length ≤ L'.length) ?_ fun ρ G' ⟨o7, g', L', e1, e2, h1, h2, h3⟩ => ?_
  · refine wq_forR (fun j ρ G' => ∃ (o7 : Option PV) (g' : GO) (L' : List PV), ρ = envT t F R.length (some x) (some (.lst B)) (some (.lst S)) o7 ∧ G' = g' :: (R ++ [.lst L']) ∧ Fd4 (D + 2 * j) g' ∧ (∀ y ∈ L', Tg33 y) ∧ L'.length ≤ L.length + j ∧ L.length ≤ L'.length) 14 (by decide) (by decide) rfl ⟨o7, g, L, rfl, rfl, hg, hL, Nat.le_refl _, Nat.le_refl _⟩ ?_ ?_
    · intro i hi j ρ G hj ⟨p7, g1, L1, e1, e2, hg1, hL1, hl1⟩
      subst e1 e2
      rw [forStep_ap, gN_ap, wq_bind, wq_ok]
      refine hide33 fun Q hQ => ?_
      have ty := fun g => tyE (g := g) (R := R) (xs := L1)
      have bl : ∀ G, bLen [.lst S] G = .ok (.int S.length) G := fun G => by simp [bLen, asS, asL]
      have ap := fun (g : GO) (v : PV) => appE (g := g) (R := R) (xs := L1) (v := v) (by omega)
      simp [mMet, ty, bl]
      refine wq_draw4 hd hg1 (by omega) (by omega) (by omega) fun r g2 r0 r1 hg2 => ?_
      simp [bl]
      refine wq_ix r0 (by omega) fun a ha => ?_
      simp [bl]
      refine wq_draw4 hd hg2 (by omega) (by omega) (by omega) fun q g3 q0 q1 hg3 => ?_
      simp
      refine wq_ix q0 (by omega) fun b hb => ?_
      simp [sz, ty, ap]
      refine hQ _ _ ⟨_, .inl rfl, _, g3, _, rfl, rfl, hg3.mono (by omega), fun y hy => ?_, by simp; omega, by simp; omega⟩
      rcases List.mem_append.mp hy with h | h
      · exact hL1 y h
      · rw [List.mem_singleton.mp h]
        exact (smI_t4 (smI_w (w := 8) (by simp [wordsL]) (by decide)) (hx.mono (Nat.le_refl _) (by decide) (Nat.le_refl _)) (hS a ha) (hS b hb) (by decide)).mono (by decide) (by decide) (by decide)
    · intro ρ G ⟨p7, g1, L1, e1, e2, hg1, hL1, hl1⟩
      exact ⟨_, rfl, p7, g1, L1, e1, e2, hg1, hL1, hl1⟩
  subst e1 e2
  exact wq_next ⟨_, .inl rfl, _, _, _, _, g', L', rfl, rfl, h1, h2, h3⟩
theorem things33_sp (hb : SpBt4 3 fb) (hd : SpDraw4 fd) (hc : SpCjL 2 fc) (hs : ∀ {p : PV}, plnB p = true → datB p = true → ∀ G, fs [p] G = .ok (keyV p) G) {t F : PV} (ht : WK 2 t) (hts : SmI 3000 10 4 t) (hF : Fol33 F) {D : Nat} {g : GO} {R : GH} (hg : Fd4 D g) (hD : D + 500 ≤ 900000) :
    @wq PV (defV 3 K33.N__law_things (K33.b__law_things fb fc fd fs) [.obj 0, t, F] (g :: R)) ⟨fun q G' => ∃ (g' : GO) (L : List PV), q = .lst L ∧ G' = g' :: R ∧ Fd4 (D + 500) g' ∧ ∀ x ∈ L, Th33 x⟩ := by
  have sz := size_line
  obtain ⟨fa, fz, sl, rfl, hF1, hF2, hF3⟩ := hF
  generalize hFF : PV.tup [fa, .tup sl, fz] = F at hF1
  have eN : env0 K33.N__law_things.length [PV.obj 0, t, F] = [some (.obj 0), some t, some F, none, none, none, none, none, none, none] := rfl
  refine wq_def rfl ?_
  rw [eN, thingsE]
  refine wq_seq4 (fun ρ G' => ρ = envT t F R.length none none none none ∧ G' = g :: (R ++ [.lst (seven33.take 6)])) (by simp [sz, envT, seven33]) fun ρ G' ⟨e1, e2⟩ => ?_
  subst e1 e2
  refine wq_seq4 (fun ρ G' => ρ = envT t F R.length none none none none ∧ G' = g :: (R ++ [.lst seven33])) (by
    have ap := appE (g := g) (R := R) (xs := seven33.take 6) (v := .tup [.str "index", .str "B", .non, .non]) (by decide)
    have ty := tyE (g := g) (R := R) (xs := seven33.take 6)
    have e : seven33.take 6 ++ [.tup [.str "index", .str "B", .non, .non]] = seven33 := rfl
    rw [e] at ap
    generalize seven33.take 6 = Z at ap ty
    simp [mMet, sz, ty, ap]) fun ρ G' ⟨e1, e2⟩ => ?_
  subst e1 e2
  have l1 : ∀ G, loopC (compF (gN 8) (mYes) (m2 (mVar 8) (mCst (.int 0)) opIx) [8] (envT t F R.length none none none none)) (fun _ => true) sl G = .ok (sl.map hd33) G := fun G => by
    rw [loop_pure (h := fun c => some (hd33 c)) rfl, fm_map]
    intro c hc
    obtain ⟨w, P, u, T, rfl, _⟩ := hF3 c hc
    simp [compF, noX, wipeE, hd33]
  have hT : ∀ y ∈ sl.map hd33 ++ [.str "by"], SmI 650 6 4 y := fun y hy => by
    rcases List.mem_append.mp hy with h | h
    · obtain ⟨s, hs, rfl⟩ := List.mem_map.mp h
      obtain ⟨w, P, u, T, rfl, _, h2⟩ := hF3 s hs
      exact ⟨(Sm.tup h2.1 (.str w) (by simp)).mono (by decide) (by decide) (by decide), mxis_each h2.2 (.str w) (by simp)⟩
    · rw [List.mem_singleton.mp h]
      exact smI_w (by simp [wordsL]) (by decide)
  have ml : (sl.map hd33).length ≤ 4 := by rw [List.length_map]; exact hF2
  generalize sl.map hd33 = M at l1 hT ml
  have src : mSeq (m2 (mComp false (mSeq (m2 (mVar 2) (mCst (.int 1)) opIx)) (gN 8) (mYes) (m2 (mVar 8) (mCst (.int 0)) opIx) [8]) (mA (mCons (mCst (.str "by")) (mNil)) mkLst) opAdd) (envT t F R.length none none none none) (g :: (R ++ [.lst seven33])) = .ok ⟨M ++ [.str "by"], fun _ => true⟩ (g :: (R ++ [.lst seven33])) := by
    have le := l1 (g :: (R ++ [.lst seven33]))
    have ad : ∀ G, opAdd [.lst M, .lst [.str "by"]] G = .ok (.lst (M ++ [.str "by"])) G := fun G => by
      rw [opAdd_ll, sz, if_pos (by simp only [List.length_cons, List.length_nil]; omega)]
    subst hFF
    simp only [envT] at le ⊢
    simp [mComp_ap, le, sz, ad]
  refine wq_seq4 (fun ρ G' => ∃ (o4 o5 o6 o7 : Option PV) (g' : GO) (L' : List PV), ρ = envT t F R.length o4 o5 o6 o7 ∧ G' = g' :: (R ++ [.lst L']) ∧ Fd4 (D + 140) g' ∧ (∀ y ∈ L', Tg33 y) ∧ L'.length ≤ 77 ∧ 7 ≤ L'.length) ?_ fun ρ G' ⟨o4, o5, o6, o7, g', L, e1, e2, hg2, hL, hl, hl7⟩ => ?_
  · refine forA33 (M ++ [.str "by"]) (fun j ρ G' => ∃ (o4 o5 o6 o7 : Option PV) (g' : GO) (L' : List PV), ρ = envT t F R.length o4 o5 o6 o7 ∧ G' = g' :: (R ++ [.lst L']) ∧ Fd4 (D + 28 * j) g' ∧ (∀ y ∈ L', Tg33 y) ∧ L'.length ≤ 7 + 14 * j ∧ 7 ≤ L'.length) src ⟨none, none, none, none, g, seven33, rfl, rfl, hg, seven33_sm, by decide, by decide⟩ ?_ ?_
    · intro x hx j ρ G hj ⟨o4, o5, o6, o7, g1, L1, e1, e2, hg1, hL1, hl1, h71⟩
      subst e1 e2
      simp only [List.length_append, List.length_cons, List.length_nil] at hj
      refine wq_use (tag33 hd hc hs ht hts (hT x hx) hg1 (by omega) hL1 (by omega)) fun fl G' ⟨ρ', e, o4, o5, o6, o7, g', L', e1, e2, h1, h2, h3⟩ => ⟨ρ', e, o4, o5, o6, o7, g', L', e1, e2, h1.mono (by omega), h2, by omega, by omega⟩
    · intro ρ G ⟨o4, o5, o6, o7, g1, L1, e1, e2, hg1, hL1, hl1, h71⟩
      simp only [List.length_append, List.length_cons, List.length_nil] at hg1 hl1
      exact ⟨_, rfl, o4, o5, o6, o7, g1, L1, e1, e2, hg1.mono (by omega), hL1, by omega, h71⟩
  subst e1 e2
  refine wq_ret (fun q G' => ∃ g' S, G' = g' :: (R ++ S) ∧ Fd4 (D + 500) g' ∧ ∃ L : List PV, q = .lst L ∧ ∀ x ∈ L, Th33 x) ?_ fun p G' h => wq_use (fin4 (P := fun q => ∃ L : List PV, q = .lst L ∧ ∀ x ∈ L, Th33 x) (fun p ⟨L, e, h⟩ => by subst e; exact datL33 h) p G' h) fun v G2 h => wq_use h fun q G' ⟨g', e, h1, L, e2, h2⟩ => ⟨g', L, e2, e, h1, h2⟩
  have key : @wq PV (mComp false (mRng (mCons (mCst (.int 8)) (mNil))) (gN 7) (mYes) (mA (mCons (mVar 0) (mCons (m2 (mVar 3) (mA (mCons (mVar 0) (mCons (mA (mCons (mVar 3) (mNil)) bLen) (mNil))) fd) opIx) (mCons (mCst (.int 3)) (mNil)))) fb) [7] (envT t F R.length o4 o5 o6 o7) (g' :: (R ++ [.lst L]))) ⟨fun p G' => ∃ g' ys, p = .lst ys ∧ G' = g' :: (R ++ [.lst L]) ∧ Fd4 (D + 500) g' ∧ ys.length ≤ 8 ∧ ∀ y ∈ ys, Th33 y⟩ := by
    refine wq_compRg (B := 8) (fun j G => ∃ g', G = g' :: (R ++ [.lst L]) ∧ Fd4 (D + 140 + j * 41) g') Th33 (by decide) ?_ ?_ ?_
    · rw [mCst_ap, wq_ok]
      exact ⟨8, rfl, by decide, g', rfl, hg2⟩
    · intro i j G _ hj ⟨g2, e, h2⟩
      subst e
      have hj2 : j * 41 ≤ 7 * 41 := Nat.mul_le_mul_right _ (by omega)
      refine hide33 fun Q hQ => ?_
      have bl : ∀ g, bLen [.obj (R.length + 1)] (g :: (R ++ [.lst L])) = .ok (.int L.length) (g :: (R ++ [.lst L])) := fun g => bLen_obj (getE g R L)
      have ix : ∀ g i, opIx [.obj (R.length + 1), .int i] (g :: (R ++ [.lst L])) = ixR L i (g :: (R ++ [.lst L])) := fun g i => opIx_obj (getE g R L)
      simp only [envT]
      simp [wipeE, bl]
      refine wq_draw4 hd h2 (by omega) (by omega) (by omega) fun r g3 r0 r1 hg3 => ?_
      simp only [wq_bind, ix]
      refine wq_ix r0 r1 fun a ha => ?_
      simp
      refine wq_use (hb (D + 140 + j * 41 + 1) g3 (R ++ [.lst L]) a 8000 12 4 9 hg3 (by omega) (hL a ha).1 (hL a ha).2 (by decide) (by decide) (by decide)) fun q G' ⟨g4, e, h4, hq⟩ => ?_
      subst e
      exact hQ _ _ ⟨⟨g4, rfl, h4.mono (by rw [Nat.succ_mul]; omega)⟩, hq.1.mono (by decide) (by decide) (by decide)⟩
    · intro ys n G hn ⟨g2, e, h2⟩ hy hyl
      have hk2 : n * 41 ≤ 8 * 41 := Nat.mul_le_mul_right _ hn
      exact ⟨g2, ys, rfl, e, h2.mono (by omega), by omega, hy⟩
  rw [m2_ap]
  simp only [mVar_ap, List.getElem?_cons_succ, List.getElem?_cons_zero, Res.bind_ok, wq_bind, wq_ok]
  refine wq_use key fun p G' ⟨g3, ys, e1, e2, h3, hyl, hys⟩ => ?_
  subst e1 e2
  have e1 : asL (.obj (R.length + 1)) (g3 :: (R ++ [.lst L])) = some L := by simp only [asL, getE]
  have e2 : asL (.lst ys) (g3 :: (R ++ [.lst L])) = some ys := rfl
  have ad : opAdd [.obj (R.length + 1), .lst ys] (g3 :: (R ++ [.lst L])) = .ok (.lst (L ++ ys)) (g3 :: (R ++ [.lst L])) := by
    simp only [opAdd, e1, e2, sz, if_pos (show L.length + ys.length ≤ 16777216 by omega)]
  rw [ad, wq_ok]
  refine ⟨g3, [.lst L], rfl, h3, _, rfl, fun x hx => ?_⟩
  rcases List.mem_append.mp hx with h | h
  · exact (hL x h).1.mono (by decide) (by decide) (by decide)
  · exact hys x h
end
end EV.NV
end
section
/-! U10: the law k33. -/
set_option Elab.async false
set_option linter.all false
set_option maxRecDepth 100000
set_option maxHeartbeats 1000000
namespace EV.NV
open PySem PySem.Spec PyProof.Rows L2
def words33 : List Str := ["shape", "name", "test", "bounds"]
theorem judI_w {n : Nat} {t : PV} {sl : List PV} {w : Str} {a b : PV} {u : Str} (h : judI n t sl w a b = some u) : u ∈ words33 := by
  unfold judI at h
  split at h
  · injection h with h; subst h; simp [words33]
  · split at h
    · split at h
      · split at h
        · cases h
        · injection h with h; subst h; simp [words33]
      · injection h with h; subst h; simp [words33]
    · cases h
theorem judP_w {n : Nat} {t : PV} {sl : List PV} {x : PV} {u : Str} (h : judP n t sl x = some u) : u ∈ words33 := by
  unfold judP at h
  split at h
  · split at h
    · exact judI_w h
    · injection h with h; subst h; simp [words33]
  · split at h
    · cases h
    · injection h with h; subst h; simp [words33]
theorem ans33_sm {q : Option Str} (h : ∀ u, q = some u → u ∈ words33) : Smn (ansP q) := by
  have k : words33.all (fun u => fitX (ansP (some u)) && decide (wgt (ansP (some u)) ≤ 100000) && decide (dep (ansP (some u)) ≤ 50) && decide (lnm (ansP (some u)) ≤ 4000)) = true := by decide +kernel
  cases q with
  | none => exact ⟨by decide +kernel, by decide +kernel, by decide +kernel, by decide +kernel⟩
  | some u =>
    have := List.all_eq_true.mp k u (h u rfl)
    simp only [Bool.and_eq_true, decide_eq_true_eq] at this
    obtain ⟨⟨⟨a, b⟩, c⟩, d⟩ := this
    exact ⟨a, b, c, d⟩
/-- the program's word of a plan, the law's -/
abbrev SpAll33 (fl fdu : List PV → GH → Res PV) : Prop := ∀ (d s t x : PV) (sl : List PV), (∀ s ∈ sl, SlK s ∧ Smn s) → WK 2 t → Smn t → Smn x → ∃ q, (∀ u, q = some u → u ∈ words33) ∧ SpLp fl (.tup [d, .tup sl, s]) t x q ∧ ∀ G, fdu [.tup [d, .tup sl, s], t, x] G = .ok (ansP q) G
section
variable {fa fn fb fc fi ft fcl fg fr fll : List PV → GH → Res PV}
theorem all33_sp (hn : SpNd33 fn) (hi : SpB 100000 51 4000 planB fi) (hc : SpCj 2 fc) (hs : ∀ {m P u T : PV}, (T = .non ∨ Smn T) → ∀ {L : List PV}, (∀ c ∈ L, Smn c) → ∀ {k : Nat} {G : GH}, G[k]? = some (.lst L) → ft [.tup [m, P, u, T], .obj k] G = .ok (.bl (letT T L)) G)
    (hb : ∀ {m P u T : PV}, Smn P → ∀ {L : List PV}, (∀ c ∈ L, CoK c ∧ Smn c) → L.length ≤ 900000 → ∀ {k : Nat} {G : GH}, G[k]? = some (.lst L) → fb [.tup [m, P, u, T], .obj k] G = .ok (.obj G.length) (G ++ [.lst (L.filter (bndP P))]))
    (hk : ∀ {w : Str} {Q v lo hi : PV}, plainB v = true → datB v = true → optS lo = true → optS hi = true → ∀ G, fa [.tup [.str w, Q, v], lo, hi] G = .ok (.bl (wideB w (keyV v) lo hi)) G)
    (hr : SpB 100000 51 4000 planB fr) (hcl : SpCjL 2 fcl) (hg : ∀ {c P : PV}, CoK c → Smn c → Smn P → ∀ G, fg [c, P] G = .ok (.bl (bndP P c)) G)
    (hl : ∀ {w : Str} {P v lo hi : PV}, plainB v = true → datB v = true → optS lo = true → optS hi = true → ∀ G, fll [.tup [.str w, P, v], lo, hi] G = .ok (.bl (wideB w (keyV v) lo hi)) G) :
    SpAll33 (defV 3 K33.N_lets_plan (K33.b_lets_plan fa fn fb fc fi ft)) (defV 3 K33.N__law_due (K33.b__law_due fcl fg fr fll)) := by
  intro d s t x sl hsl ht hts hx
  have hx2 : Sm 100000 51 4000 x := hx.mono (Nat.le_refl _) (by decide) (Nat.le_refl _)
  refine ⟨judP 2 t sl x, fun u h => judP_w h, ?_, fun G => due33_sp hr hcl hg hl hsl ht hts hx2 G⟩
  cases hp : planB x with
  | false =>
    rw [judP_bad hp]
    exact lp_bad hn hi hx2 hp
  | true =>
    rcases plan_cases hp with rfl | ⟨w, a, b, rfl, ha, hb2⟩
    · have : judP 2 t sl (.tup [.str "all"]) = none := rfl
      rw [this]
      exact lp_all hn hi hx2
    · have ej : judP 2 t sl (.tup [.str "index", .str w, a, b]) = judI 2 t sl w a b := by rw [judP, if_pos hp]
      rw [ej]
      exact lp_index hn hi hc hs hb hk hsl ht hts hx2 ha hb2 hp
end
def fA33 : PV := .tup [.tup [.str "field", .str "a"]]
def fB33 : PV := .tup [.tup [.str "field", .str "b"]]
theorem fA33_sm {d : Nat} : SmI 19 (d + 2) 4 fA33 := field33 (by simp [wordsL]) (by decide)
theorem fB33_sm {d : Nat} : SmI 19 (d + 2) 4 fB33 := field33 (by simp [wordsL]) (by decide)
abbrev envL (x0 o2 o5 o6 o7 o8 o10 o11 : Option PV) : EV.Env := [x0, some (.obj 0), o2, some fA33, some fB33, o5, o6, o7, o8, none, o10, o11]
abbrev iB33 (fdu fl : List PV → GH → Res PV) : EV.Env → GH → Res Fl := (sSeq (sAsg (mA (mCons (mA (mCons (mVar 2) (mCons (mVar 7) (mCons (mVar 8) (mNil)))) mkTup) (mNil)) bRepr) (gN 10)) (sSeq (sAsg (mTellL 5 1 "told" (pickH 1 (hL K33.th25)) (mA (mCons (mVar 2) (mCons (mVar 7) (mCons (mVar 8) (mNil)))) fl)) (gN 11)) (sSeq (sIf (mtOr (mB (m2 (mA (mCons (mVar 11) (mNil)) bRepr) (mA (mCons (mA (mCons (mVar 2) (mCons (mVar 7) (mCons (mVar 8) (mNil)))) fdu) (mNil)) bRepr) (Cop.f .ne))) (mB (m2 (mA (mCons (mA (mCons (mVar 2) (mCons (mVar 7) (mCons (mVar 8) (mNil)))) mkTup) (mNil)) bRepr) (mVar 10) (Cop.f .ne)))) (sSeq (sRet (mCst (.bl false))) (sNext)) (sNext)) (sNext))))
abbrev wB33 (fdu fl fth : List PV → GH → Res PV) : EV.Env → GH → Res Fl := (sSeq (sFor (mSeq (mA (mCons (mVar 1) (mCons (mVar 7) (mCons (mVar 2) (mNil)))) fth)) (gN 8) (iB33 fdu fl)) (sNext))
theorem item33 {fdu fl} (hA : SpAll33 fl fdu) {F t x : PV} (hF : Fol33 F) (ht : WK 2 t) (hts : SmI 3000 10 4 t) (hx : Th33 x) {x0 o5 o6 o8 o10 o11 : Option PV} {G : GH} :
    ∃ y10 y11, forStep (gN 8) (iB33 fdu fl) x (envL x0 (some F) o5 o6 (some t) o8 o10 o11) G = .ok (.next (envL x0 (some F) o5 o6 (some t) (some x) y10 y11)) G := by
  obtain ⟨a, c, sl, rfl, hFs, hsl, hix⟩ := hF
  obtain ⟨q, hq, e1, e2⟩ := hA a c t x sl (fun s hs => ix33_sm (hix s hs)) ht (hts.1.mono (by decide) (by decide) (by decide)) (hx.mono (by decide) (by decide) (by decide))
  generalize PV.tup [a, .tup sl, c] = F at hFs e1 e2
  have sT : Smn (.tup [F, t, x]) := by
    have a := hFs.1
    have b := hts.1
    refine ⟨by simp [fitX, fitXs, a.f, b.f, hx.f], ?_, ?_, ?_⟩
    · have := a.w; have := b.w; have := hx.w
      simp only [wgt, wgts]; omega
    · have := a.d; have := b.d; have := hx.d
      simp only [dep, deps]; omega
    · have := a.m; have := b.m; have := hx.m
      simp only [lnm, lnms, List.length_cons, List.length_nil]; omega
  have r1 := fun G => rep33 sT G
  have r2 := fun G => rep33 (ans33_sm hq) G
  refine ⟨some (.str (rep (.tup [F, t, x]))), some (ansP q), ?_⟩
  have sz := size_line
  have e3 := e1 G
  have tl : mTellL 5 1 "told" (pickH 1 (hL K33.th25)) (mA (mCons (mVar 2) (mCons (mVar 7) (mCons (mVar 8) (mNil)))) fl) (envL x0 (some F) o5 o6 (some t) (some x) (some (.str (rep (.tup [F, t, x])))) o11) G = .ok (ansP q) G := tell33_ok (by
    have ev : (mA (mCons (mVar 2) (mCons (mVar 7) (mCons (mVar 8) (mNil)))) fl) (envL x0 (some F) o5 o6 (some t) (some x) (some (.str (rep (.tup [F, t, x])))) o11) G = fl [F, t, x] G := by simp
    rw [ev]
    cases q <;> exact e3)
  rw [forStep_ap, gN_ap, Res.bind_ok]
  unfold iB33
  rw [sq_next (ρ' := envL x0 (some F) o5 o6 (some t) (some x) (some (.str (rep (.tup [F, t, x])))) o11) (G' := G) (by simp [sz, r1])]
  generalize mTellL 5 1 "told" (pickH 1 (hL K33.th25)) (mA (mCons (mVar 2) (mCons (mVar 7) (mCons (mVar 8) (mNil)))) fl) = M at tl ⊢
  rw [sq_next (ρ' := envL x0 (some F) o5 o6 (some t) (some x) (some (.str (rep (.tup [F, t, x])))) (some (ansP q))) (G' := G) (by simp [tl])]
  simp [r1, r2, e2, sz]
abbrev SpThg (f : List PV → GH → Res PV) : Prop := ∀ {t F : PV}, WK 2 t → SmI 3000 10 4 t → Fol33 F → ∀ {D : Nat} {g : GO} {R : GH}, Fd4 D g → D + 500 ≤ 900000 →
    @wq PV (f [.obj 0, t, F] (g :: R)) ⟨fun q G' => ∃ (g' : GO) (L : List PV), q = .lst L ∧ G' = g' :: R ∧ Fd4 (D + 500) g' ∧ ∀ x ∈ L, Th33 x⟩
theorem wish33 {fdu fl fth} (hA : SpAll33 fl fdu) (hth : SpThg fth) {F t : PV} (hF : Fol33 F) (ht : WK 2 t) (hts : SmI 3000 10 4 t) {x0 o5 o6 o7 o8 o10 o11 : Option PV} {D : Nat} {g : GO} {S : GH} (hg : Fd4 D g) (hD : D + 500 ≤ 900000) :
    @wq Fl (forStep (gN 7) (wB33 fdu fl fth) t (envL x0 (some F) o5 o6 o7 o8 o10 o11) (g :: S)) ⟨fun fl G' => ∃ ρ', (fl = .next ρ' ∨ fl = .cont ρ') ∧ ∃ (o7 o8 o10 o11 : Option PV) (g' : GO), ρ' = envL x0 (some F) o5 o6 o7 o8 o10 o11 ∧ G' = g' :: S ∧ Fd4 (D + 500) g'⟩ := by
  rw [forStep_ap, gN_ap, wq_bind, wq_ok]
  obtain ⟨v, G1, e, g1, L, rfl, rfl, hg1, hL⟩ := wq_ex (hth ht hts hF (R := S) hg hD)
  have src : mSeq (mA (mCons (mVar 1) (mCons (mVar 7) (mCons (mVar 2) (mNil)))) fth) (envL x0 (some F) o5 o6 (some t) o8 o10 o11) (g :: S) = .ok ⟨L, fun _ => true⟩ (g1 :: S) := by
    simp [e]
  refine wq_seq4 (fun ρ' G' => ∃ (o8 o10 o11 : Option PV), ρ' = envL x0 (some F) o5 o6 (some t) o8 o10 o11 ∧ G' = g1 :: S) ?_ fun ρ' G' ⟨o8, o10, o11, e1, e2⟩ => ?_
  · refine forA33 L (fun _ ρ' G' => ∃ (o8 o10 o11 : Option PV), ρ' = envL x0 (some F) o5 o6 (some t) o8 o10 o11 ∧ G' = g1 :: S) src ⟨o8, o10, o11, rfl, rfl⟩ ?_ ?_
    · intro x hx j ρ G hj ⟨o8, o10, o11, e1, e2⟩
      subst e1 e2
      obtain ⟨y10, y11, e⟩ := item33 hA hF ht hts (hL x hx) (x0 := x0) (o5 := o5) (o6 := o6) (o8 := o8) (o10 := o10) (o11 := o11) (G := g1 :: S)
      rw [e, wq_ok]
      exact ⟨_, .inl rfl, _, _, _, rfl, rfl⟩
    · intro ρ G ⟨o8, o10, o11, e1, e2⟩
      exact ⟨_, rfl, o8, o10, o11, e1, e2⟩
  subst e1 e2
  exact wq_next ⟨_, .inl rfl, _, _, _, _, g1, rfl, rfl, hg1⟩
/-- a test that stands for an index -/
abbrev Ow33 (p : PV) : Prop := SmI 700 8 4 p ∧ WK 1 p
abbrev Wi33 (p : PV) : Prop := SmI 3000 10 4 p ∧ WK 2 p
theorem wk_up {n : Nat} {p : PV} (h : WK n p) : WK (n + 1) p := by
  induction h with
  | cmp h1 h2 => exact .cmp h1 h2
  | oth h1 h2 => exact .oth h1 h2
  | con _ ih => exact .con ih
theorem compS33 {ms : EV.Env → GH → Res Src} {el : EV.Env → GH → Res PV} {v : Nat} {own : List Nat} {ρ : EV.Env} {G : GH} {xs : List PV} {Q : PV → GH → Prop} (I : Nat → GH → Prop) (P : PV → Prop)
    (hm : ms ρ G = .ok ⟨xs, fun _ => true⟩ G) (h0 : I 0 G)
    (hs : ∀ x ∈ xs, ∀ j G, j < xs.length → I j G → @wq PV (el ((wipeE ρ own).set v (some x)) G) ⟨fun y G' => I (j + 1) G' ∧ P y⟩)
    (hq : ∀ ys G, I xs.length G → (∀ y ∈ ys, P y) → ys.length = xs.length → Q (.lst ys) G) :
    @wq PV (mComp false ms (gN v) mYes el own ρ G) ⟨Q⟩ := by
  have e : mComp false ms (gN v) mYes el own ρ G = (loopC (compF (gN v) mYes el own ρ) (fun _ => true) xs G).bind fun ys G5 => .ok (.lst ys) G5 := by
    unfold mComp
    rw [hm]
    rfl
  rw [e, wq_bind]
  refine wq_use (wq_loopC1 I P xs 0 h0 (fun _ _ _ => rfl) fun x hx j G p1 p2 hj => ?_) fun ys G' ⟨h1, h2, h3⟩ => ?_
  · unfold compF
    simp only [gN_ap, wq_bind, wq_noX, wq_ok, mYes_ap, if_true]
    exact wq_use (hs x hx j G (by omega) hj) fun y G' ⟨a, b⟩ => (wq_ok _ _ _).mpr ⟨a, y, rfl, b⟩
  · rw [wq_ok]
    rw [Nat.zero_add] at h1
    exact hq ys G' h1 h2 h3
abbrev own1 (fd fp : List PV → GH → Res PV) : EV.Env → GH → Res PV := (mComp false (mSeq (m2 (mVar 2) (mCst (.int 1)) opIx)) (gN 9) (mYes) (mA (mCons (m2 (mA (mCons (mCst (.str "like")) (mCons (mCst (.str "below")) (mCons (mCst (.str "above")) (mNil)))) mkLst) (mA (mCons (mVar 1) (mCons (mCst (.int 3)) (mNil))) fd) opIx) (mCons (m2 (mVar 9) (mCst (.int 1)) opIx) (mCons (mA (mCons (mVar 1) (mNil)) fp) (mNil)))) mkTup) [9])
abbrev own2 : EV.Env → GH → Res PV := (mComp false (mSeq (m2 (mVar 2) (mCst (.int 1)) opIx)) (gN 9) (mB (m2 (m2 (mVar 9) (mCst (.int 3)) opIx) (mCst .non) (Cop.f .isnot))) (m2 (mVar 9) (mCst (.int 3)) opIx) [9])
abbrev fB33w (fd fp fdu fl fth : List PV → GH → Res PV) : EV.Env → GH → Res Fl := (sSeq (sAsg (own1 fd fp) (gN 5)) (sSeq (sAsg (m2 (mVar 5) own2 opAdd) (gN 5)) (sSeq (sAsg (mA (mCons (mA (mCons (mCst (.str "and")) (mCons (mA (mCons (mSl (mVar 5) (mNoPart) (mPart (mCst (.int 3))) opSl) (mNil)) bTup) (mNil))) mkTup) (mCons (mA (mCons (mCst (.str "and")) (mCons (mA (mCons (mA (mCons (mCst (.str "like")) (mCons (mVar 3) (mCons (mCst (.int 1)) (mNil)))) mkTup) (mCons (mA (mCons (mCst (.str "like")) (mCons (mVar 4) (mCons (mCst (.int 1)) (mNil)))) mkTup) (mNil))) mkTup) (mNil))) mkTup) (mNil))) mkObj) (gN 6)) (sSeq (sDrop (mMet "list" (mVar 6) (mCons (mA (mCons (mCst (.str "and")) (mCons (mA (mCons (mA (mCons (mCst (.str "like")) (mCons (mVar 3) (mCons (mCst (.bl true)) (mNil)))) mkTup) (mCons (mA (mCons (mCst (.str "like")) (mCons (mVar 4) (mCons (mCst (.bl true)) (mNil)))) mkTup) (mNil))) mkTup) (mNil))) mkTup) (mNil)) fAppend)) (sSeq (sFor (mSeq (m2 (mVar 6) (mA (mCons (mA (mCons (mCst (.str "like")) (mCons (mVar 3) (mCons (mA (mCons (mCst (.str "row")) (mCons (mA (mCons (mCst (.int 1)) (mNil)) mkTup) (mNil))) mkTup) (mNil)))) mkTup) (mCons (mA (mCons (mCst (.str "or")) (mCons (mA (mCons (mSl (mVar 5) (mNoPart) (mPart (mCst (.int 2))) opSl) (mNil)) bTup) (mNil))) mkTup) (mCons (mA (mCons (mCst (.str "above")) (mCons (mVar 3) (mCons (mCst (.str "a1")) (mNil)))) mkTup) (mCons (mA (mCons (mCst (.str "there")) (mCons (mVar 3) (mNil))) mkTup) (mNil))))) mkLst) opAdd)) (gN 7) (wB33 fdu fl fth)) (sNext))))))
theorem lawE (fd fdu ff ffo fp fth fl : List PV → GH → Res PV) : K33.b_law fd fdu ff ffo fp fth fl = sSeq (sAsg (mA (mCons (mVar 0) (mNil)) ff) (gN 1)) (sSeq (sAsg (mA (mCons (mA (mCons (mA (mCons (mCst (.str "field")) (mCons (mCst (.str "a")) (mNil))) mkTup) (mNil)) mkTup) (mCons (mA (mCons (mA (mCons (mCst (.str "field")) (mCons (mCst (.str "b")) (mNil))) mkTup) (mNil)) mkTup) (mNil))) mkTup) (gTupE 2 (gConsE (gN 3) (gConsE (gN 4) (gNilE))))) (sSeq (sFor (mSeq (mA (mCons (mVar 1) (mNil)) ffo)) (gN 2) (fB33w fd fp fdu fl fth)) (sSeq (sRet (mCst (.bl true))) (sNext)))) := rfl
end EV.NV
end
section
/-! U11: the law k33, its folders. -/
set_option Elab.async false
set_option linter.all false
set_option maxRecDepth 100000
set_option maxHeartbeats 1000000
namespace EV.NV
open PySem PySem.Spec PyProof.Rows L2
def tst33 : PV → Option PV
  | .tup [_, _, _, T] => if isNon T = true then none else some T
  | _ => none
theorem lk33 {p v : PV} {w : Str} (hw : w ∈ bndW) (hwl : w ∈ wordsL) (hp : SmI 650 6 4 p) (hv : SmI 31 6 4 v) (k : plainB v = true ∨ isTup v = true) : Ow33 (.tup [.str w, p, v]) :=
  ⟨(smI_t3 (smI_w (w := 8) hwl (by decide)) hp hv (by decide)).mono (by decide) (by decide) (by decide), .cmp hw k⟩
theorem ow_wi {p : PV} (h : Ow33 p) : Wi33 p := ⟨h.1.mono (by decide) (by decide) (by decide), wk_up h.2⟩
theorem and33 {ps : List PV} (h : ∀ p ∈ ps, Ow33 p) (hl : ps.length ≤ 3) : Wi33 (.tup [.str "and", .tup ps]) :=
  ⟨(smI_t2 (smI_w (w := 8) (by simp [wordsL]) (by decide)) (smI_tup (c := 3) (fun p hp => (h p hp).1) hl (by decide)) (by decide)).mono (by decide) (by decide) (by decide), .con fun p hp => (h p hp).2⟩
theorem or33 {ps : List PV} (h : ∀ p ∈ ps, Ow33 p) (hl : ps.length ≤ 3) : Wi33 (.tup [.str "or", .tup ps]) :=
  ⟨(smI_t2 (smI_w (w := 8) (by simp [wordsL]) (by decide)) (smI_tup (c := 3) (fun p hp => (h p hp).1) hl (by decide)) (by decide)).mono (by decide) (by decide) (by decide), .oth (by simp [bndW]; decide) (by decide)⟩
theorem lA33 {v : PV} (hv : SmI 31 6 4 v) (k : plainB v = true ∨ isTup v = true) : Ow33 (.tup [.str "like", fA33, v]) := lk33 (by simp [bndW]) (by simp [wordsL]) ((fA33_sm (d := 4)).mono (by decide) (by decide) (by decide)) hv k
theorem lB33 {v : PV} (hv : SmI 31 6 4 v) (k : plainB v = true ∨ isTup v = true) : Ow33 (.tup [.str "like", fB33, v]) := lk33 (by simp [bndW]) (by simp [wordsL]) ((fB33_sm (d := 4)).mono (by decide) (by decide) (by decide)) hv k
section
variable {fd fp fdu fl fth ff ffo : List PV → GH → Res PV}
theorem own1_sp (hd : SpDraw4 fd) (hp : SpPl4 fp) {F : PV} {a c : PV} {sl : List PV} (eF : F = .tup [a, .tup sl, c]) (hsl : sl.length ≤ 4) (hix : ∀ s ∈ sl, Ix33 s) {x0 o5 o6 o7 o8 o10 o11 : Option PV} {D : Nat} {g : GO} {S : GH} (hg : Fd4 D g) (hD : D + 10 ≤ 900000) :
    @wq PV (own1 fd fp (envL x0 (some F) o5 o6 o7 o8 o10 o11) (g :: S)) ⟨fun v G' => ∃ (g' : GO) (os : List PV), v = .lst os ∧ G' = g' :: S ∧ Fd4 (D + 10) g' ∧ os.length ≤ 4 ∧ ∀ y ∈ os, Ow33 y⟩ := by
  have sz := size_line
  refine compS33 (xs := sl) (fun j G' => ∃ g', G' = g' :: S ∧ Fd4 (D + 2 * j) g') Ow33 (by subst eF; simp) ⟨g, rfl, hg⟩ ?_ ?_
  · intro s hs j G hj ⟨g1, e, hg1⟩
    subst e
    obtain ⟨w, P, u, T, rfl, _, hss⟩ := hix s hs
    have hP : SmI 650 6 4 P := ⟨(Sm.tup hss.1 P (by simp)).mono (by decide) (by decide) (by decide), mxis_each hss.2 P (by simp)⟩
    refine hide33 fun Q hQ => ?_
    simp only [envL]
    simp [wipeE, sz]
    refine wq_draw4 hd hg1 (by decide) (by decide) (by omega) fun r g2 r0 r1 hg2 => ?_
    simp
    refine wq_ix r0 (by simpa using r1) fun y hy => ?_
    have hy' : ∃ z : Str, y = .str z ∧ z ∈ bndW ∧ z ∈ wordsL := by
      simp only [List.mem_cons, List.not_mem_nil, or_false] at hy
      rcases hy with rfl | rfl | rfl <;> exact ⟨_, rfl, by simp [bndW], by simp [wordsL]⟩
    obtain ⟨z, rfl, hz1, hz2⟩ := hy'
    simp
    refine wq_G4 hp hg2 (by omega) fun p g3 hg3 h => ?_
    simp [sz]
    exact hQ _ _ ⟨⟨g3, rfl, hg3.mono (by omega)⟩, lk33 hz1 hz2 hP ((pl4_sm h (d := 6) (m := 4)).mono (by decide) (Nat.le_refl _) (Nat.le_refl _)) (.inl (pl4_pl h))⟩
  · intro ys G ⟨g1, e, hg1⟩ hy hl
    exact ⟨g1, ys, rfl, e, hg1.mono (by omega), by omega, hy⟩
theorem own2_eq {F : PV} {a c : PV} {sl : List PV} (eF : F = .tup [a, .tup sl, c]) (hix : ∀ s ∈ sl, Ix33 s) {x0 o5 o6 o7 o8 o10 o11 : Option PV} {G : GH} :
    own2 (envL x0 (some F) o5 o6 o7 o8 o10 o11) G = .ok (.lst (sl.filterMap tst33)) G := by
  have l1 : loopC (compF (gN 9) (mB (m2 (m2 (mVar 9) (mCst (.int 3)) opIx) (mCst .non) (Cop.f .isnot))) (m2 (mVar 9) (mCst (.int 3)) opIx) [9] (envL x0 (some F) o5 o6 o7 o8 o10 o11)) (fun _ => true) sl G = .ok (sl.filterMap tst33) G := by
    rw [loop_pure (h := tst33) rfl]
    intro s hs
    obtain ⟨w, P, u, T, rfl, _, hss⟩ := hix s hs
    cases hn : isNon T <;> simp [compF, noX, wipeE, tst33, hn]
  simp only [envL] at l1
  subst eF
  simp only [envL, own2]
  simp [mComp_ap, l1]
theorem tst33_ow {sl : List PV} (hix : ∀ s ∈ sl, Ix33 s) : ∀ y ∈ sl.filterMap tst33, Ow33 y := fun y hy => by
  obtain ⟨s, hs, e⟩ := List.mem_filterMap.mp hy
  obtain ⟨w, P, u, T, rfl, hT, hss⟩ := hix s hs
  have e' : (if isNon T = true then none else some T) = some y := e
  by_cases hn : isNon T = true
  · rw [if_pos hn] at e'; cases e'
  · rw [if_neg hn] at e'
    injection e' with e'
    subst e'
    refine ⟨⟨(Sm.tup hss.1 T (by simp)).mono (by decide) (by decide) (by decide), mxis_each hss.2 T (by simp)⟩, ?_⟩
    rcases hT with rfl | h
    · exact absurd rfl hn
    · exact h
theorem folder33 (hd : SpDraw4 fd) (hp : SpPl4 fp) (hA : SpAll33 fl fdu) (hth : SpThg fth) {F : PV} (hF : Fol33 F) {x0 o2 o5 o6 o7 o8 o10 o11 : Option PV} {D : Nat} {g : GO} {S : GH} (hg : Fd4 D g) (hD : D + 4000 ≤ 900000) :
    @wq Fl (forStep (gN 2) (fB33w fd fp fdu fl fth) F (envL x0 o2 o5 o6 o7 o8 o10 o11) (g :: S)) ⟨fun fl G' => ∃ ρ', (fl = .next ρ' ∨ fl = .cont ρ') ∧ ∃ (o2 o5 o6 o7 o8 o10 o11 : Option PV) (g' : GO) (S' : GH), ρ' = envL x0 o2 o5 o6 o7 o8 o10 o11 ∧ G' = g' :: S' ∧ Fd4 (D + 4000) g'⟩ := by
  have sz := size_line
  have hF0 := hF
  obtain ⟨a, c, sl, eF, hFs, hsl, hix⟩ := hF
  rw [forStep_ap, gN_ap, wq_bind, wq_ok]
  refine wq_seq4 (fun ρ' G' => ∃ (g' : GO) (os : List PV), ρ' = envL x0 (some F) (some (.lst os)) o6 o7 o8 o10 o11 ∧ G' = g' :: S ∧ Fd4 (D + 10) g' ∧ os.length ≤ 4 ∧ ∀ y ∈ os, Ow33 y) ?_ fun ρ' G' ⟨g1, os, e1, e2, hg1, hol, hos⟩ => ?_
  · rw [sAsg_ap, wq_bind]
    refine wq_use (own1_sp hd hp eF hsl hix (x0 := x0) (o5 := o5) (o6 := o6) (o7 := o7) (o8 := o8) (o10 := o10) (o11 := o11) hg (by omega)) fun v G' ⟨g1, os, e1, e2, h1, h2, h3⟩ => ?_
    subst e1 e2
    rw [gN_ap, wq_bind, wq_ok, wq_ok]
    exact ⟨_, rfl, g1, os, rfl, rfl, h1, h2, h3⟩
  subst e1 e2
  refine wq_seq4 (fun ρ' G' => ∃ os : List PV, ρ' = envL x0 (some F) (some (.lst os)) o6 o7 o8 o10 o11 ∧ G' = g1 :: S ∧ os.length ≤ 8 ∧ ∀ y ∈ os, Ow33 y) ?_ fun ρ' G' ⟨os2, e1, e2, hol2, hos2⟩ => ?_
  · have e := own2_eq eF hix (x0 := x0) (o5 := some (.lst os)) (o6 := o6) (o7 := o7) (o8 := o8) (o10 := o10) (o11 := o11) (G := g1 :: S)
    have hz := tst33_ow hix
    have zl : (sl.filterMap tst33).length ≤ 4 := Nat.le_trans (List.length_filterMap_le _ _) hsl
    generalize sl.filterMap tst33 = Z at e hz zl
    have ad : ∀ G, opAdd [.lst os, .lst Z] G = .ok (.lst (os ++ Z)) G := fun G => by
      rw [opAdd_ll, sz, if_pos (by omega)]
    refine hide33 fun Q hQ => ?_
    rw [sAsg_ap, m2_ap]
    generalize own2 (envL x0 (some F) (some (.lst os)) o6 o7 o8 o10 o11) = M at e
    simp [e, ad]
    refine hQ _ _ ⟨_, rfl, os ++ Z, rfl, rfl, by simp; omega, fun y hy => ?_⟩
    rcases List.mem_append.mp hy with h | h
    · exact hos y h
    · exact hz y h
  subst e1 e2
  have c3 : cutP os2 none (some 3) = os2.take 3 := cut_hi (by decide)
  have c2 : cutP os2 none (some 2) = os2.take 2 := cut_hi (by decide)
  have bt : ∀ (xs : List PV) G, bTup [.lst xs] G = .ok (.tup xs) G := fun xs G => by simp [bTup, asS, asL]
  have w0 : Wi33 (.tup [.str "and", .tup (os2.take 3)]) := and33 (fun p hp => hos2 p (List.mem_of_mem_take hp)) (List.length_take_le _ _)
  have w5 : Wi33 (.tup [.str "or", .tup (os2.take 2)]) := or33 (fun p hp => hos2 p (List.mem_of_mem_take hp)) (Nat.le_trans (List.length_take_le _ _) (by decide))
  generalize os2.take 3 = P3 at c3 w0
  generalize os2.take 2 = P2 at c2 w5
  have two : ∀ v : PV, SmI 31 6 4 v → plainB v = true → Wi33 (.tup [.str "and", .tup [.tup [.str "like", fA33, v], .tup [.str "like", fB33, v]]]) := fun v h1 h2 => and33 (fun p hp => by
    simp only [List.mem_cons, List.not_mem_nil, or_false] at hp
    rcases hp with rfl | rfl
    · exact lA33 h1 (.inl h2)
    · exact lB33 h1 (.inl h2)) (by simp)
  have w1 := two (.int 1) (smI_int (by decide) (by decide)) rfl
  have w2 := two (.bl true) (smI_bl (by decide)) rfl
  refine wq_seq4 (fun ρ' G' => ∃ W : List PV, ρ' = envL x0 (some F) (some (.lst os2)) (some (.obj (S.length + 1))) o7 o8 o10 o11 ∧ G' = g1 :: (S ++ [.lst W]) ∧ W.length = 2 ∧ ∀ y ∈ W, Wi33 y) ?_ fun ρ' G' ⟨W, e1, e2, hWl, hW⟩ => ?_
  · refine hide33 fun Q hQ => ?_
    simp [sz, c3, bt]
    refine hQ _ _ ⟨_, rfl, [.tup [.str "and", .tup P3], .tup [.str "and", .tup [.tup [.str "like", fA33, .int 1], .tup [.str "like", fB33, .int 1]]]], rfl, rfl, rfl, fun y hy => ?_⟩
    simp only [List.mem_cons, List.not_mem_nil, or_false] at hy
    rcases hy with rfl | rfl
    · exact w0
    · exact w1
  subst e1 e2
  refine wq_seq4 (fun ρ' G' => ∃ W : List PV, ρ' = envL x0 (some F) (some (.lst os2)) (some (.obj (S.length + 1))) o7 o8 o10 o11 ∧ G' = g1 :: (S ++ [.lst W]) ∧ W.length = 3 ∧ ∀ y ∈ W, Wi33 y) ?_ fun ρ' G' ⟨W3, e1, e2, hWl3, hW3⟩ => ?_
  · refine hide33 fun Q hQ => ?_
    have ty := tyE (g := g1) (R := S) (xs := W)
    have ap := fun v => appE (g := g1) (R := S) (xs := W) (v := v) (by omega)
    simp [sz, mMet, ty, ap]
    refine hQ _ _ ⟨_, rfl, _, rfl, rfl, by simp; omega, fun y hy => ?_⟩
    rcases List.mem_append.mp hy with h | h
    · exact hW y h
    · rw [List.mem_singleton.mp h]; exact w2
  subst e1 e2
  have src : ∃ W : List PV, mSeq (m2 (mVar 6) (mA (mCons (mA (mCons (mCst (.str "like")) (mCons (mVar 3) (mCons (mA (mCons (mCst (.str "row")) (mCons (mA (mCons (mCst (.int 1)) (mNil)) mkTup) (mNil))) mkTup) (mNil)))) mkTup) (mCons (mA (mCons (mCst (.str "or")) (mCons (mA (mCons (mSl (mVar 5) (mNoPart) (mPart (mCst (.int 2))) opSl) (mNil)) bTup) (mNil))) mkTup) (mCons (mA (mCons (mCst (.str "above")) (mCons (mVar 3) (mCons (mCst (.str "a1")) (mNil)))) mkTup) (mCons (mA (mCons (mCst (.str "there")) (mCons (mVar 3) (mNil))) mkTup) (mNil))))) mkLst) opAdd) (envL x0 (some F) (some (.lst os2)) (some (.obj (S.length + 1))) o7 o8 o10 o11) (g1 :: (S ++ [.lst W3])) = .ok ⟨W, fun _ => true⟩ (g1 :: (S ++ [.lst W3])) ∧ W.length = 7 ∧ ∀ y ∈ W, Wi33 y := by
    have ad : ∀ ys : List PV, ys.length ≤ 10 → opAdd [.obj (S.length + 1), .lst ys] (g1 :: (S ++ [.lst W3])) = .ok (.lst (W3 ++ ys)) (g1 :: (S ++ [.lst W3])) := fun ys hy => by
      have e1 : asL (.obj (S.length + 1)) (g1 :: (S ++ [.lst W3])) = some W3 := by simp only [asL, getE]
      have e2 : asL (.lst ys) (g1 :: (S ++ [.lst W3])) = some ys := rfl
      simp only [opAdd, e1, e2, sz, if_pos (show W3.length + ys.length ≤ 16777216 by omega)]
    have ad4 := ad [.tup [.str "like", fA33, .tup [.str "row", .tup [.int 1]]], .tup [.str "or", .tup P2], .tup [.str "above", fA33, .str "a1"], .tup [.str "there", fA33]] (by simp)
    refine ⟨W3 ++ [.tup [.str "like", fA33, .tup [.str "row", .tup [.int 1]]], .tup [.str "or", .tup P2], .tup [.str "above", fA33, .str "a1"], .tup [.str "there", fA33]], by simp [sz, c2, bt, ad4], by simp [hWl3], fun y hy => ?_⟩
    rcases List.mem_append.mp hy with h | h
    · exact hW3 y h
    · simp only [List.mem_cons, List.not_mem_nil, or_false] at h
      rcases h with rfl | rfl | rfl | rfl
      · exact ow_wi (lA33 ((smI_t2 (u := 8) (v := 21) (d := 1) (m := 4) (smI_w (by simp [wordsL]) (by decide)) (smI_t1 (d := 0) (smI_int (by decide) (by decide)) (by decide)) (by decide)).mono (by decide) (by decide) (by decide)) (.inr rfl))
      · exact w5
      · exact ow_wi (lk33 (by simp [bndW]) (by simp [wordsL]) ((fA33_sm (d := 4)).mono (by decide) (by decide) (by decide)) (smI_w (by simp [wordsL]) (by decide)) (.inl rfl))
      · exact ⟨(smI_t2 (smI_w (w := 8) (by simp [wordsL]) (by decide)) (fA33_sm (d := 0)) (by decide)).mono (by decide) (by decide) (by decide), .oth (by simp [bndW]; decide) (by decide)⟩
  obtain ⟨W, src, hWl7, hW7⟩ := src
  refine wq_seq4 (fun ρ' G' => ∃ (o7 o8 o10 o11 : Option PV) (g' : GO), ρ' = envL x0 (some F) (some (.lst os2)) (some (.obj (S.length + 1))) o7 o8 o10 o11 ∧ G' = g' :: (S ++ [.lst W3]) ∧ Fd4 (D + 4000) g') ?_ fun ρ' G' ⟨o7, o8, o10, o11, g', e1, e2, h1⟩ => ?_
  · refine forA33 W (fun j ρ' G' => ∃ (o7 o8 o10 o11 : Option PV) (g' : GO), ρ' = envL x0 (some F) (some (.lst os2)) (some (.obj (S.length + 1))) o7 o8 o10 o11 ∧ G' = g' :: (S ++ [.lst W3]) ∧ Fd4 (D + 10 + 500 * j) g') src ⟨o7, o8, o10, o11, g1, rfl, rfl, hg1⟩ ?_ ?_
    · intro t ht j ρ G hj ⟨o7, o8, o10, o11, g', e1, e2, h1⟩
      subst e1 e2
      obtain ⟨w1, w2⟩ := hW7 t ht
      refine wq_use (wish33 hA hth hF0 w2 w1 h1 (by omega)) fun fl G' ⟨ρ', e, o7, o8, o10, o11, g', e1, e2, h2⟩ => ⟨ρ', e, o7, o8, o10, o11, g', e1, e2, h2.mono (by omega)⟩
    · intro ρ G ⟨o7, o8, o10, o11, g', e1, e2, h1⟩
      exact ⟨_, rfl, o7, o8, o10, o11, g', e1, e2, h1.mono (by omega)⟩
  subst e1 e2
  exact wq_next ⟨_, .inl rfl, _, _, _, _, _, _, _, g', _, rfl, rfl, h1⟩
abbrev SpFos (f : List PV → GH → Res PV) : Prop := ∀ {D : Nat} {g : GO} {R : GH}, Fd4 D g → D + 400 ≤ 900000 → @wq PV (f [.obj 0] (g :: R)) ⟨fun q G' => ∃ g', G' = g' :: R ∧ Fd4 (D + 400) g' ∧ Fos33 q⟩
theorem k33_sp (hd : SpDraw4 fd) (hp : SpPl4 fp) (hA : SpAll33 fl fdu) (hth : SpThg fth) (hff : SpFeed ff) (hfo : SpFos ffo) (ns : List Int) (hns : ns.length ≤ 63) :
    @wq PV (defV 1 K33.N_law (K33.b_law fd fdu ff ffo fp fth fl) [.sls (ns.map .int)] []) ⟨fun v _ => v = .bl true⟩ := by
  have sz := size_line
  refine wq_def rfl ?_
  rw [lawE]
  refine wq_seq4 (fun ρ' G' => ρ' = [some (.sls (ns.map .int)), some (.obj 0), none, none, none, none, none, none, none, none, none, none] ∧ G' = [feedO ns 0 0 0]) ?_ fun ρ' G' ⟨e1, e2⟩ => ?_
  · have e := hff ns [] hns
    simp [env0, K33.N_law, e]
  subst e1 e2
  refine wq_seq4 (fun ρ' G' => ρ' = envL (some (.sls (ns.map .int))) none none none none none none none ∧ G' = [feedO ns 0 0 0]) ?_ fun ρ' G' ⟨e1, e2⟩ => ?_
  · simp [sz, gTupE, gConsE, gNilE, fA33, fB33]
  subst e1 e2
  have f0 : Fd4 0 (feedO ns 0 0 0) := ⟨ns, 0, 0, 0, rfl, by decide, by decide, by decide, by decide, hns⟩
  obtain ⟨v, G1, e, g1, rfl, hg1, f1, f2, rfl, hf1, hf2⟩ := wq_ex (hfo (R := []) f0 (by decide))
  have src : mSeq (mA (mCons (mVar 1) (mNil)) ffo) (envL (some (.sls (ns.map .int))) none none none none none none none) [feedO ns 0 0 0] = .ok ⟨[f1, f2], fun _ => true⟩ (g1 :: []) := by
    simp [e]
  refine wq_seq4 (fun ρ' G' => True) ?_ fun ρ' G' _ => ?_
  · refine forA33 [f1, f2] (fun j ρ' G' => ∃ (o2 o5 o6 o7 o8 o10 o11 : Option PV) (g' : GO) (S' : GH), ρ' = envL (some (.sls (ns.map .int))) o2 o5 o6 o7 o8 o10 o11 ∧ G' = g' :: S' ∧ Fd4 (0 + 400 + 4000 * j) g') src ⟨none, none, none, none, none, none, none, g1, [], rfl, rfl, hg1⟩ ?_ ?_
    · intro F hF j ρ G hj ⟨o2, o5, o6, o7, o8, o10, o11, g', S', e1, e2, h1⟩
      subst e1 e2
      have hF' : Fol33 F := by
        simp only [List.mem_cons, List.not_mem_nil, or_false] at hF
        rcases hF with rfl | rfl
        · exact hf1
        · exact hf2
      simp only [List.length_cons, List.length_nil] at hj
      refine wq_use (folder33 hd hp hA hth hF' h1 (by omega)) fun fl G' ⟨ρ', e, o2, o5, o6, o7, o8, o10, o11, g', S', e1, e2, h2⟩ => ⟨ρ', e, o2, o5, o6, o7, o8, o10, o11, g', S', e1, e2, h2.mono (by omega)⟩
    · intro ρ G _
      exact ⟨_, rfl, trivial⟩
  refine wq_ret (fun v _ => v = .bl true) (by rw [mCst_ap, wq_ok]) fun v G' h => ?_
  subst h
  show @wq PV (.ok (.bl true) G') ⟨fun v G2 => @wq PV (trimR [] (.ok v G2)) ⟨fun v _ => v = .bl true⟩⟩
  rw [wq_ok]
  show @wq PV (.ok (.bl true) _) ⟨_⟩
  rw [wq_ok]
end
end EV.NV
end
section
set_option Elab.async false
set_option linter.all false
set_option maxRecDepth 100000
set_option maxHeartbeats 0
namespace K33
open PySem PySem.Spec PyProof.Rows L2 EV
def D0 : He.DefD := ⟨("is_number", none), "is_number", "is_number", defArgs (top 21), defBody (top 21), defScope (top 21), [], []⟩
def D1 : He.DefD := ⟨("is_word", none), "is_word", "is_word", defArgs (top 22), defBody (top 22), defScope (top 22), [], []⟩
def D2 : He.DefD := ⟨("is_text", none), "is_text", "is_text", defArgs (top 23), defBody (top 23), defScope (top 23), [], []⟩
def D3 : He.DefD := ⟨("is_plain", none), "is_plain", "is_plain", defArgs (top 25), defBody (top 25), defScope (top 25), [], []⟩
def D4 : He.DefD := ⟨("key_of", none), "key_of", "key_of", defArgs (top 26), defBody (top 26), defScope (top 26), [], []⟩
def D5 : He.DefD := ⟨("ask_so", none), "ask_so", "ask_so", defArgs (top 28), defBody (top 28), defScope (top 28), [], []⟩
def D6 : He.DefD := ⟨("is_key", none), "is_key", "is_key", defArgs (top 29), defBody (top 29), defScope (top 29), [], []⟩
def D7 : He.DefD := ⟨("conjuncts_of", none), "conjuncts_of", "conjuncts_of", defArgs (top 32), defBody (top 32), defScope (top 32), [], []⟩
def D8 : He.DefD := ⟨("are_same", none), "are_same", "are_same", defArgs (top 33), defBody (top 33), defScope (top 33), [], []⟩
def D9 : He.DefD := ⟨("test_let", none), "test_let", "test_let", defArgs (top 34), defBody (top 34), defScope (top 34), [], []⟩
def D10 : He.DefD := ⟨("bounds_of", none), "bounds_of", "bounds_of", defArgs (top 35), defBody (top 35), defScope (top 35), [], []⟩
def D11 : He.DefD := ⟨("bounding_of", none), "bounding_of", "bounding_of", defArgs (top 36), defBody (top 36), defScope (top 36), [], []⟩
def D12 : He.DefD := ⟨("is_plan", none), "is_plan", "is_plan", defArgs (top 38), defBody (top 38), defScope (top 38), [], []⟩
def D13 : He.DefD := ⟨("are_wide", none), "are_wide", "are_wide", defArgs (top 39), defBody (top 39), defScope (top 39), [], []⟩
def D14 : He.DefD := ⟨("lets_plan", none), "lets_plan", "lets_plan", defArgs (top 40), defBody (top 40), defScope (top 40), [], []⟩
def D15 : He.DefD := ⟨("_law_feed", none), "_law_feed", "_law_feed", defArgs (top 42), defBody (top 42), defScope (top 42), [], []⟩
def D16 : He.DefD := ⟨("_law_draw", none), "_law_draw", "_law_draw", defArgs (top 43), defBody (top 43), defScope (top 43), [], []⟩
def D17 : He.DefD := ⟨("_law_plain", none), "_law_plain", "_law_plain", defArgs (top 44), defBody (top 44), defScope (top 44), [], []⟩
def D18 : He.DefD := ⟨("_law_tree", none), "_law_tree", "_law_tree", defArgs (top 45), defBody (top 45), defScope (top 45), [], []⟩
def D19 : He.DefD := ⟨("_law_leaf", none), "_law_leaf", "_law_leaf", defArgs (top 46), defBody (top 46), defScope (top 46), [], []⟩
def D20 : He.DefD := ⟨("_law_route", none), "_law_route", "_law_route", defArgs (top 47), defBody (top 47), defScope (top 47), [], []⟩
def D21 : He.DefD := ⟨("_law_wish", none), "_law_wish", "_law_wish", defArgs (top 48), defBody (top 48), defScope (top 48), [], []⟩
def D22 : He.DefD := ⟨("_law_sign", none), "_law_sign", "_law_sign", defArgs (top 49), defBody (top 49), defScope (top 49), [], []⟩
def D23 : He.DefD := ⟨("_law_slate", none), "_law_slate", "_law_slate", defArgs (top 50), defBody (top 50), defScope (top 50), [], []⟩
def D24 : He.DefD := ⟨("_law_bent", none), "_law_bent", "_law_bent", defArgs (top 51), defBody (top 51), defScope (top 51), [], []⟩
def D25 : He.DefD := ⟨("_law_told", none), "_law_told", "_law_told", defArgs (top 52), defBody (top 52), defScope (top 52), [], []⟩
def D26 : He.DefD := ⟨("_law_conjuncts", none), "_law_conjuncts", "_law_conjuncts", defArgs (top 53), defBody (top 53), defScope (top 53), [], []⟩
def D27 : He.DefD := ⟨("_law_is_sign", none), "_law_is_sign", "_law_is_sign", defArgs (top 54), defBody (top 54), defScope (top 54), [], []⟩
def D28 : He.DefD := ⟨("_law_is_road", none), "_law_is_road", "_law_is_road", defArgs (top 55), defBody (top 55), defScope (top 55), [], []⟩
def D29 : He.DefD := ⟨("_law_goes_by", none), "_law_goes_by", "_law_goes_by", defArgs (top 56), defBody (top 56), defScope (top 56), [], []⟩
def D30 : He.DefD := ⟨("_law_lets", none), "_law_lets", "_law_lets", defArgs (top 57), defBody (top 57), defScope (top 57), [], []⟩
def D31 : He.DefD := ⟨("_law_due", none), "_law_due", "_law_due", defArgs (top 58), defBody (top 58), defScope (top 58), [], []⟩
def D32 : He.DefD := ⟨("_law_folders", none), "_law_folders", "_law_folders", defArgs (top 59), defBody (top 59), defScope (top 59), [], []⟩
def D33 : He.DefD := ⟨("_law_things", none), "_law_things", "_law_things", defArgs (top 60), defBody (top 60), defScope (top 60), [], []⟩
def D34 : He.DefD := ⟨("law", none), "law", "law", defArgs (top 61), defBody (top 61), defScope (top 61), [], []⟩
def DI_NoPaper : He.DefD := ⟨("NoPaper", some "__init__"), "__init__", "NoPaper.__init__", defArgs (clsInit (top 3)), defBody (clsInit (top 3)), defScope (clsInit (top 3)), [], []⟩
def fn : List He.DefD := [D0, D1, D2, D3, D4, D5, D6, D7, D8, D9, D10, D11, D12, D13, D14, D15, D16, D17, D18, D19, D20, D21, D22, D23, D24, D25, D26, D27, D28, D29, D30, D31, D32, D33, D34, DI_NoPaper]
def fa : List He.Fa := [.glo "is_number", .glo "is_word", .glo "is_text", .glo "is_plain", .glo "key_of", .glo "ask_so", .glo "is_key", .glo "conjuncts_of", .glo "are_same", .glo "test_let", .glo "bounds_of", .glo "bounding_of", .glo "is_plan", .glo "are_wide", .glo "lets_plan", .glo "_law_feed", .glo "_law_draw", .glo "_law_plain", .glo "_law_tree", .glo "_law_leaf", .glo "_law_route", .glo "_law_wish", .glo "_law_sign", .glo "_law_slate", .glo "_law_bent", .glo "_law_told", .glo "_law_conjuncts", .glo "_law_is_sign", .glo "_law_is_road", .glo "_law_goes_by", .glo "_law_lets", .glo "_law_due", .glo "_law_folders", .glo "_law_things", .glo "law", .free "LookupError", .free "ValueError", .free "abs", .free "all", .free "any", .free "bool", .free "dict", .free "int", .free "isinstance", .free "len", .free "list", .free "range", .free "repr", .free "sorted", .free "str", .free "tuple", .glo "NoPaper", .glo "FolioError", .glo "LackError", .glo "NoKey", .glo "NoLead", .glo "NoId", .glo "NoMark", .glo "NoName", .glo "NoChange", .glo "NoTurn", .glo "Behind", .glo "NoText", .glo "NoRow", .glo "NoHouse", .glo "NoStep"]
def tf : List He.Defn := [("law", none)]
abbrev R : PySem.W.OpenRow := PySem.W.OpenLaw.row PySem.Challenge.rw_pathfolios_k33_plans_judged
def cs : List (Str × PV) := [("BOUNDING", .tup [.str "like", .str "below", .str "above"]), ("FIGURES", .str "0123456789"), ("LETTERS", .str "abcdefghijklmnopqrstuvwxyz"), ("LONGEST_TEXT", .int 16), ("LONGEST_WORD", .int 8)]
def cnm : List Str := ["NoPaper", "FolioError", "LackError", "NoKey", "NoLead", "NoId", "NoMark", "NoName", "NoChange", "NoTurn", "Behind", "NoText", "NoRow", "NoHouse", "NoStep"]
def xfs : List XFa := [.cls "NoPaper" ["word", "at"], .base "FolioError", .exm "NoPaper" "FolioError" true, .exm "NoPaper" "LackError" false, .exc "NoPaper", .kit "NoPaper" "NoPaper" true, .kit "NoPaper" "NoKey" false, .kit "NoPaper" "NoLead" false, .kit "NoPaper" "NoId" false, .kit "NoPaper" "NoMark" false, .kit "NoPaper" "NoName" false, .kitA "NoPaper" ["NoChange", "NoTurn", "Behind", "NoText", "NoRow", "NoHouse", "NoStep"] false, .kit "NoPaper" "FolioError" true, .kit "NoPaper" "LackError" false, .kitT "NoPaper" "ValueError" true, .noat "NoPaper" "word", .noat "NoPaper" "at", .kitT "NoPaper" "LookupError" false]
abbrev hk : PySem.W.Hook := EV.hookXS 5 fa fn [] tf (eachX xfs (eachC tf cs))
def ob (s : PySem.W.SharedT) : He.AlX := EV.obsXS 5 fa fn [] tf (eachX xfs (eachC tf cs)) (HandSHeadRun.getT s)
theorem ob_eq (s : PySem.W.SharedT) : ob s = hk.obs s.abs := EV.obsXS_eq (HandSHeadRun.getT_eq s)
def loose : List Str := (["Behind", "FolioError", "LackError", "NoChange", "NoHouse", "NoId", "NoKey", "NoLead", "NoMark", "NoName", "NoPaper", "NoRow", "NoStep", "NoText", "NoTurn", "_law_bent", "_law_conjuncts", "_law_draw", "_law_due", "_law_feed", "_law_folders", "_law_goes_by", "_law_is_road", "_law_is_sign", "_law_leaf", "_law_lets", "_law_plain", "_law_route", "_law_sign", "_law_slate"] : List Str) ++ (["_law_things", "_law_told", "_law_tree", "_law_wish", "are_same", "are_wide", "ask_so", "bounding_of", "bounds_of", "conjuncts_of", "is_key", "is_number", "is_plain", "is_plan", "is_text", "is_word", "key_of", "lets_plan", "test_let", "BOUNDING", "FIGURES", "LETTERS", "LONGEST_TEXT", "LONGEST_WORD"] : List Str)
theorem run (w : World) : HandSHeadRun.RunEq R (PySem.W.view R.prog [61]) hk ob 64120 loose w := by
  intro os
  kernel_rfl
theorem lawG (lv : Nat) {w : World} {h : Heap} {mg : Str → Option Value} {fa' : Addr} (hm : ∀ ns : List Int, ns.length ≤ 63 → (∀ z ∈ ns, Builtin.Int.intBits z ≤ 1048576) → ∃ G, prog lv 34 [.sls (ns.map PV.int)] [] = .ok (.bl true) G)
    (G : h.Ns mainGlobals mg) (c : hk.says w h) : LawG PySem.Challenge.rw_pathfolios_k33_plans_judged w (3 * lv) 63 "law" mg fa' h := by
  obtain ⟨K, KX, c⟩ := c
  have cd := c.t.d
  have fr : Free K mg := ⟨trivial, He.free_ok KX G (cd.fact 35 (f := .free "LookupError") rfl), He.free_ok KX G (cd.fact 36 (f := .free "ValueError") rfl), He.free_ok KX G (cd.fact 37 (f := .free "abs") rfl), He.free_ok KX G (cd.fact 38 (f := .free "all") rfl), He.free_ok KX G (cd.fact 39 (f := .free "any") rfl), He.free_ok KX G (cd.fact 40 (f := .free "bool") rfl), He.free_ok KX G (cd.fact 41 (f := .free "dict") rfl), He.free_ok KX G (cd.fact 42 (f := .free "int") rfl), He.free_ok KX G (cd.fact 43 (f := .free "isinstance") rfl), He.free_ok KX G (cd.fact 44 (f := .free "len") rfl), He.free_ok KX G (cd.fact 45 (f := .free "list") rfl), He.free_ok KX G (cd.fact 46 (f := .free "range") rfl), He.free_ok KX G (cd.fact 47 (f := .free "repr") rfl), He.free_ok KX G (cd.fact 48 (f := .free "sorted") rfl), He.free_ok KX G (cd.fact 49 (f := .free "str") rfl), He.free_ok KX G (cd.fact 50 (f := .free "tuple") rfl), eachC_cst KX G (eachX_c c.more) 0 rfl, eachC_cst KX G (eachX_c c.more) 1 rfl, eachC_cst KX G (eachX_c c.more) 2 rfl, eachC_cst KX G (eachX_c c.more) 3 rfl, eachC_cst KX G (eachX_c c.more) 4 rfl⟩
  obtain ⟨fd0, F0⟩ := cd.def_ 0 (d := D0) rfl
  obtain ⟨fd1, F1⟩ := cd.def_ 1 (d := D1) rfl
  obtain ⟨fd2, F2⟩ := cd.def_ 2 (d := D2) rfl
  obtain ⟨fd3, F3⟩ := cd.def_ 3 (d := D3) rfl
  obtain ⟨fd4, F4⟩ := cd.def_ 4 (d := D4) rfl
  obtain ⟨fd5, F5⟩ := cd.def_ 5 (d := D5) rfl
  obtain ⟨fd6, F6⟩ := cd.def_ 6 (d := D6) rfl
  obtain ⟨fd7, F7⟩ := cd.def_ 7 (d := D7) rfl
  obtain ⟨fd8, F8⟩ := cd.def_ 8 (d := D8) rfl
  obtain ⟨fd9, F9⟩ := cd.def_ 9 (d := D9) rfl
  obtain ⟨fd10, F10⟩ := cd.def_ 10 (d := D10) rfl
  obtain ⟨fd11, F11⟩ := cd.def_ 11 (d := D11) rfl
  obtain ⟨fd12, F12⟩ := cd.def_ 12 (d := D12) rfl
  obtain ⟨fd13, F13⟩ := cd.def_ 13 (d := D13) rfl
  obtain ⟨fd14, F14⟩ := cd.def_ 14 (d := D14) rfl
  obtain ⟨fd15, F15⟩ := cd.def_ 15 (d := D15) rfl
  obtain ⟨fd16, F16⟩ := cd.def_ 16 (d := D16) rfl
  obtain ⟨fd17, F17⟩ := cd.def_ 17 (d := D17) rfl
  obtain ⟨fd18, F18⟩ := cd.def_ 18 (d := D18) rfl
  obtain ⟨fd19, F19⟩ := cd.def_ 19 (d := D19) rfl
  obtain ⟨fd20, F20⟩ := cd.def_ 20 (d := D20) rfl
  obtain ⟨fd21, F21⟩ := cd.def_ 21 (d := D21) rfl
  obtain ⟨fd22, F22⟩ := cd.def_ 22 (d := D22) rfl
  obtain ⟨fd23, F23⟩ := cd.def_ 23 (d := D23) rfl
  obtain ⟨fd24, F24⟩ := cd.def_ 24 (d := D24) rfl
  obtain ⟨fd25, F25⟩ := cd.def_ 25 (d := D25) rfl
  obtain ⟨fd26, F26⟩ := cd.def_ 26 (d := D26) rfl
  obtain ⟨fd27, F27⟩ := cd.def_ 27 (d := D27) rfl
  obtain ⟨fd28, F28⟩ := cd.def_ 28 (d := D28) rfl
  obtain ⟨fd29, F29⟩ := cd.def_ 29 (d := D29) rfl
  obtain ⟨fd30, F30⟩ := cd.def_ 30 (d := D30) rfl
  obtain ⟨fd31, F31⟩ := cd.def_ 31 (d := D31) rfl
  obtain ⟨fd32, F32⟩ := cd.def_ 32 (d := D32) rfl
  obtain ⟨fd33, F33⟩ := cd.def_ 33 (d := D33) rfl
  obtain ⟨fd34, F34⟩ := cd.def_ 34 (d := D34) rfl
  obtain ⟨fi_NoPaper, FI_NoPaper⟩ := cd.def_ 35 (d := DI_NoPaper) rfl
  refine ⟨⟨K, fun i => He.ga K (cnm.getD i ""), lamT tf K⟩, tf.map (He.cT K), prog lv 34, KX, fun p hp => ?_, fun p hp => ?_, fun p hp => ?_, fun q hq => ?_, hm, fun base kB gB TB => ?_⟩
  · obtain ⟨p, h, rfl⟩ := List.mem_map.mp hp; exact c.empty p h
  · obtain ⟨p, h, rfl⟩ := List.mem_map.mp hp; exact c.out p h
  · obtain ⟨p, h, rfl⟩ := List.mem_map.mp hp; exact PySem.W.codeHd_of_K KX (c.hd p h)
  · obtain ⟨p, h, rfl⟩ := List.mem_map.mp hq; exact List.mem_map.mpr ⟨_, List.mem_map.mpr ⟨p, h, rfl⟩, rfl⟩
  · have TB' : ∀ p ∈ tf, LamX.TabB base mg (He.cT K p).1 (He.cT K p).2 := fun p hp => TB _ (List.mem_map.mpr ⟨p, hp, rfl⟩)
    have D : Defs K mg base ⟨K, fun i => He.ga K (cnm.getD i ""), lamT tf K⟩ := ⟨⟨_, fd0, F0, He.glo_ok KX G (cd.fact 0 (f := .glo "is_number") rfl)⟩, ⟨_, fd1, F1, He.glo_ok KX G (cd.fact 1 (f := .glo "is_word") rfl)⟩, ⟨_, fd2, F2, He.glo_ok KX G (cd.fact 2 (f := .glo "is_text") rfl)⟩, ⟨_, fd3, F3, He.glo_ok KX G (cd.fact 3 (f := .glo "is_plain") rfl)⟩, ⟨_, fd4, F4, He.glo_ok KX G (cd.fact 4 (f := .glo "key_of") rfl)⟩, ⟨_, fd5, F5, He.glo_ok KX G (cd.fact 5 (f := .glo "ask_so") rfl)⟩, ⟨_, fd6, F6, He.glo_ok KX G (cd.fact 6 (f := .glo "is_key") rfl)⟩, ⟨_, fd7, F7, He.glo_ok KX G (cd.fact 7 (f := .glo "conjuncts_of") rfl)⟩, ⟨_, fd8, F8, He.glo_ok KX G (cd.fact 8 (f := .glo "are_same") rfl)⟩, ⟨_, fd9, F9, He.glo_ok KX G (cd.fact 9 (f := .glo "test_let") rfl)⟩, ⟨_, fd10, F10, He.glo_ok KX G (cd.fact 10 (f := .glo "bounds_of") rfl)⟩, ⟨_, fd11, F11, He.glo_ok KX G (cd.fact 11 (f := .glo "bounding_of") rfl)⟩, ⟨_, fd12, F12, He.glo_ok KX G (cd.fact 12 (f := .glo "is_plan") rfl)⟩, ⟨_, fd13, F13, He.glo_ok KX G (cd.fact 13 (f := .glo "are_wide") rfl)⟩, ⟨_, fd14, F14, He.glo_ok KX G (cd.fact 14 (f := .glo "lets_plan") rfl)⟩, ⟨_, fd15, F15, He.glo_ok KX G (cd.fact 15 (f := .glo "_law_feed") rfl)⟩, ⟨_, fd16, F16, He.glo_ok KX G (cd.fact 16 (f := .glo "_law_draw") rfl)⟩, ⟨_, fd17, F17, He.glo_ok KX G (cd.fact 17 (f := .glo "_law_plain") rfl)⟩, ⟨_, fd18, F18, He.glo_ok KX G (cd.fact 18 (f := .glo "_law_tree") rfl)⟩, ⟨_, fd19, F19, He.glo_ok KX G (cd.fact 19 (f := .glo "_law_leaf") rfl)⟩, ⟨_, fd20, F20, He.glo_ok KX G (cd.fact 20 (f := .glo "_law_route") rfl)⟩, ⟨_, fd21, F21, He.glo_ok KX G (cd.fact 21 (f := .glo "_law_wish") rfl)⟩, ⟨_, fd22, F22, He.glo_ok KX G (cd.fact 22 (f := .glo "_law_sign") rfl)⟩, ⟨_, fd23, F23, He.glo_ok KX G (cd.fact 23 (f := .glo "_law_slate") rfl)⟩, ⟨_, fd24, F24, He.glo_ok KX G (cd.fact 24 (f := .glo "_law_bent") rfl)⟩, ⟨_, fd25, F25, He.glo_ok KX G (cd.fact 25 (f := .glo "_law_told") rfl)⟩, ⟨_, fd26, F26, He.glo_ok KX G (cd.fact 26 (f := .glo "_law_conjuncts") rfl)⟩, ⟨_, fd27, F27, He.glo_ok KX G (cd.fact 27 (f := .glo "_law_is_sign") rfl)⟩, ⟨_, fd28, F28, He.glo_ok KX G (cd.fact 28 (f := .glo "_law_is_road") rfl)⟩, ⟨_, fd29, F29, He.glo_ok KX G (cd.fact 29 (f := .glo "_law_goes_by") rfl)⟩, ⟨_, fd30, F30, He.glo_ok KX G (cd.fact 30 (f := .glo "_law_lets") rfl)⟩, ⟨_, fd31, F31, He.glo_ok KX G (cd.fact 31 (f := .glo "_law_due") rfl)⟩, ⟨_, fd32, F32, He.glo_ok KX G (cd.fact 32 (f := .glo "_law_folders") rfl)⟩, ⟨_, fd33, F33, He.glo_ok KX G (cd.fact 33 (f := .glo "_law_things") rfl)⟩, ⟨_, fd34, F34, He.glo_ok KX G (cd.fact 34 (f := .glo "law") rfl), lamD_of (p := ("law", none)) (tf := tf) (by simp [tf]) (eachC_one (eachX_c c.more)) rfl TB' F34⟩⟩
    have xs : Xs PySem.Challenge.rw_pathfolios_k33_plans_judged.prog w K mg base ⟨K, fun i => He.ga K (cnm.getD i ""), lamT tf K⟩ := ⟨trivial, mk_NoPaper FI_NoPaper (He.glo_ok KX G (cd.fact 52 (f := .glo "FolioError") rfl)) (xbaseB_ok (eachX_x c.more 1 rfl)) (xclsB_ok (eachX_x c.more 0 rfl)), (He.glo_ok KX G (cd.fact 51 (f := .glo "NoPaper") rfl)), of_decide_eq_true (eachX_x c.more 2 rfl), of_decide_eq_true (eachX_x c.more 3 rfl), excB_ok (eachX_x c.more 4 rfl), of_decide_eq_true (eachX_x c.more 5 rfl), of_decide_eq_true (eachX_x c.more 6 rfl), (He.glo_ok KX G (cd.fact 54 (f := .glo "NoKey") rfl)), of_decide_eq_true (eachX_x c.more 7 rfl), (He.glo_ok KX G (cd.fact 55 (f := .glo "NoLead") rfl)), of_decide_eq_true (eachX_x c.more 8 rfl), (He.glo_ok KX G (cd.fact 56 (f := .glo "NoId") rfl)), of_decide_eq_true (eachX_x c.more 9 rfl), (He.glo_ok KX G (cd.fact 57 (f := .glo "NoMark") rfl)), of_decide_eq_true (eachX_x c.more 10 rfl), (He.glo_ok KX G (cd.fact 58 (f := .glo "NoName") rfl)), of_decide_eq_true (eachX_x c.more 11 rfl), (He.glo_ok KX G (cd.fact 65 (f := .glo "NoStep") rfl)), (He.glo_ok KX G (cd.fact 64 (f := .glo "NoHouse") rfl)), (He.glo_ok KX G (cd.fact 63 (f := .glo "NoRow") rfl)), (He.glo_ok KX G (cd.fact 62 (f := .glo "NoText") rfl)), (He.glo_ok KX G (cd.fact 61 (f := .glo "Behind") rfl)), (He.glo_ok KX G (cd.fact 60 (f := .glo "NoTurn") rfl)), (He.glo_ok KX G (cd.fact 59 (f := .glo "NoChange") rfl)), of_decide_eq_true (eachX_x c.more 12 rfl), (He.glo_ok KX G (cd.fact 52 (f := .glo "FolioError") rfl)), of_decide_eq_true (eachX_x c.more 13 rfl), (He.glo_ok KX G (cd.fact 53 (f := .glo "LackError") rfl)), of_decide_eq_true (eachX_x c.more 14 rfl), of_decide_eq_true (eachX_x c.more 15 rfl), of_decide_eq_true (eachX_x c.more 16 rfl), of_decide_eq_true (eachX_x c.more 17 rfl)⟩
    exact (all rfl fr xs D lv).c34
end K33
open PySem PySem.W PySem.Calls PyProof.Rows
theorem k33_holds (lv : Nat) (hr : L2.Room (3 * lv) callerA) (hm : ∀ ns : List Int, ns.length ≤ 63 → (∀ z ∈ ns, Builtin.Int.intBits z ≤ 1048576) → ∃ G, K33.prog lv 34 [.sls (ns.map EV.PV.int)] [] = .ok (.bl true) G) : PySem.Challenge.rw_pathfolios_k33_plans_judged.Holds := by
  w_on; o_law
  refine HandSHeadRun.head_any (r := OpenLaw.row PySem.Challenge.rw_pathfolios_k33_plans_judged) (q := view (OpenLaw.row PySem.Challenge.rw_pathfolios_k33_plans_judged).prog [61]) (H := K33.hk) (ob := K33.ob) (M := 64120) (loose := K33.loose) (d := HandSHeadRun.topDef (OpenLaw.row PySem.Challenge.rw_pathfolios_k33_plans_judged).prog 61) (kwd := []) K33.ob_eq
    (by kernel_rfl) (fun s => by kernel_rfl) K33.run (by kernel_rfl) (by kernel_rfl) (by kernel_rfl) (by rfl) (by first | assumption | decide +kernel) (by decide +kernel) ⟨rfl, rfl, rfl, rfl, rfl, by decide +kernel⟩ ?hw ?hc
  case hw => w_witness2
  case hc =>
    refine EV.walk_G (l := PySem.Challenge.rw_pathfolios_k33_plans_judged) (n := 63) (k := (3 * lv)) rfl (by decide) (by kernel_rfl) hr ?F
    intro w mg fa h Y G hmg0
    have e : (HandSHeadRun.topDef (OpenLaw.row PySem.Challenge.rw_pathfolios_k33_plans_judged).prog 61).name = ("law" : PySem.Str) := by kernel_rfl
    rw [e]
    exact K33.lawG lv hm G Y
end
section
set_option Elab.async false
set_option linter.all false
set_option maxRecDepth 100000
namespace K33
open PySem PySem.Spec PyProof.Rows L2 EV EV.NV
theorem pNum (n w d m : Nat) : SpB w d m numB (prog (n + 1) 0) := EV.NV.num_sp
theorem pWord (n w d m : Nat) : SpB w d m wordB (prog (n + 1) 1) := EV.NV.word_sp
theorem pText (n w d m : Nat) : SpB w d m textB (prog (n + 1) 2) := EV.NV.text_sp
theorem pPln (n w d m : Nat) : SpB w d m plainB (prog (n + 2) 3) := EV.NV.plain_sp (pNum n w d m) (pText n w d m)
theorem pKey (n : Nat) : SpKey (prog (n + 1) 4) := key_sp
theorem pGate (n : Nat) : gateB (prog (n + 3) 99 [] []) = true := rfl
theorem pNeed (n : Nat) : SpNd33 (prog (n + 4) 5) := need33_sp (pGate n)
theorem pIsK (n w d m : Nat) : SpB w (d + 1) m sgnB (prog (n + 2) 6) := key33_sp (pNum n w d m)
theorem pCj (n : Nat) : ∀ k : Nat, SpCj k (prog (n + k + 1) 7)
  | 0 => conj33_sp fun k h => absurd h (by omega)
  | k + 1 => conj33_sp fun j h => by
    have : j = k := by omega
    subst this
    exact pCj n j
theorem pSame (n : Nat) : SpSa (prog (n + 1) 8) := same33_sp
theorem pBo (n : Nat) : SpBo (prog (n + 3) 10) := bounds33_sp (pPln n 100000 50 4000) (pKey (n + 1))
theorem pPlan (n : Nat) : SpB 100000 51 4000 planB (prog (n + 3) 12) := plan33_sp (d := 50) (by decide) (pIsK n 100000 49 4000) (pWord (n + 1) 100000 50 4000)
theorem pRoad (n : Nat) : SpB 100000 51 4000 planB (prog (n + 2) 28) := road33_sp (d := 50) (by decide) (show SpB 100000 50 4000 sgnB (prog (n + 1) 27) from sign33_sp)
theorem pCjL (n : Nat) : ∀ k : Nat, SpCjL k (prog (n + k + 1) 26)
  | 0 => conj33L_sp fun k h => absurd h (by omega)
  | k + 1 => conj33L_sp fun j h => by
    have : j = k := by omega
    subst this
    exact pCjL n j
theorem pSign (n : Nat) : ∀ {p : PV}, plnB p = true → datB p = true → ∀ G, prog (n + 1) 22 [p] G = .ok (keyV p) G := fun h hd G => sign33_key h hd G
theorem pAll : SpAll33 (prog 11 14) (prog 11 31) :=
  all33_sp (fa := prog 10 13) (fn := prog 10 5) (fb := prog 10 11) (fc := prog 10 7) (fi := prog 10 12) (ft := prog 10 9) (fcl := prog 10 26) (fg := prog 10 29) (fr := prog 10 28) (fll := prog 10 30)
    (pNeed 6) (pPlan 7) (pCj 7 2) (fun hT _ hL _ _ hk => tlet_sp (pSame 8) hT hL hk) (fun hP _ hL hl _ _ hk => bounding_sp (pSame 8) (pBo 6) hP hL hl hk)
    (fun hv hd hl hh G => wide_sp (pKey 8) hv hd hl hh G) (pRoad 8) (pCjL 7 2) (fun hc hs hP G => goes33_sp hc hs hP G) (fun hv hd hl hh G => lets33_sp (pSign 8) hv hd hl hh G)
theorem pFeed (n : Nat) : SpFeed (prog (n + 1) 15) := feed_sp4
theorem pDraw (n : Nat) : SpDraw4 (prog (n + 1) 16) := draw_sp4
theorem pPl (n : Nat) : SpPl4 (prog (n + 2) 17) := plain_sp4 (pDraw n)
theorem pTr (n : Nat) : SpTr4 (prog (n + 1) 18) := tree_sp4
theorem pLf (n : Nat) : SpLf4 (prog (n + 3) 19) := leaf_sp4 (pDraw (n + 1)) (pPl n) (pTr (n + 1))
theorem pRo (n : Nat) : SpRo4 (prog (n + 3) 20) := route_sp4 (pDraw (n + 1)) (pPl n)
theorem pWi0 (n : Nat) : SpWiK 0 (prog (n + 4) 21) := wish_spK (pDraw (n + 2)) (pPl (n + 1)) (pRo n) fun k h => absurd h (by omega)
theorem pWi1 (n : Nat) : SpWiK 1 (prog (n + 5) 21) := wish_spK (pDraw (n + 3)) (pPl (n + 2)) (pRo (n + 1)) fun k h => by
  have : k = 0 := by omega
  subst this
  exact pWi0 n
theorem pSl (n : Nat) : SpSlK (prog (n + 6) 23) := slate_spK (pDraw (n + 4)) (pRo (n + 2)) (pWi1 n)
theorem pBt (n : Nat) : ∀ k : Nat, SpBt4 k (prog (n + k + 2) 24)
  | 0 => bent_sp4 (pDraw n) fun k h => absurd h (by omega)
  | k + 1 => bent_sp4 (pDraw (n + k + 1)) fun j h => by
    have : j = k := by omega
    subst this
    exact pBt n j
theorem pFos : SpFos (prog 11 32) := fun hg hD => folders33_sp (fd := prog 10 16) (fl := prog 10 19) (fs := prog 10 23) (pDraw 9) (pLf 7) (pSl 4) hg hD
theorem pThg : SpThg (prog 11 33) := fun ht hts hF _ _ _ hg hD => things33_sp (fb := prog 10 24) (fc := prog 10 26) (fd := prog 10 16) (fs := prog 10 22) (pBt 5 3) (pDraw 9) (pCjL 7 2) (pSign 9) ht hts hF hg hD
theorem pLaw (ns : List Int) (hns : ns.length ≤ 63) : ∃ G, prog 12 34 [.sls (ns.map .int)] [] = .ok (.bl true) G := by
  have h := EV.NV.k33_sp (fd := prog 11 16) (fp := prog 11 17) (fdu := prog 11 31) (fl := prog 11 14) (fth := prog 11 33) (ff := prog 11 15) (ffo := prog 11 32) (pDraw 10) (pPl 9) pAll pThg (pFeed 10) pFos ns hns
  obtain ⟨v, G, e, rfl⟩ := wq_ex h
  exact ⟨G, e⟩
end K33
theorem PySem.Challenge.cw_pathfolios_k33_plans_judged_holds : PySem.Challenge.rw_pathfolios_k33_plans_judged.Holds :=
  k33_holds 12 ⟨by decide +kernel, by decide +kernel, by decide +kernel⟩ fun ns hns _ => K33.pLaw ns hns
end
