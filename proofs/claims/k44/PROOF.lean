import PyProof.Rows.All
import Wide.All
import OpenK.AllK
import Wide.FinOn
import PySem.Challenge.RW_pathfolios_k44_moved_and_led_told
import HandS.Base
import HandS.Call
import HandS.List
import HandS.Comp
import HandS.Exc
import HandS.Lambda
import HandS.Conv
import HandS.TupAny
import HandS.TupMul
import HandS.Flow
import HandS.Ends
import HandS.WordsExc
import HandS.Iter
import HandS.NoneIn
import HandS.Text
import HandS.IsInst
import KE.DataCmp
import PyProof.ReprRoads
import HandS.Defaults
import HandS.Zip
import KE.KDictZip
import KE.KItemsList
import PyProof.ListNew
import KE.GoesEnumKw
import HandS.ListItems
import KE.SortKeyHeap
import HandS.SortKw
import HandS.EndTab
import HandS.HeadHook4
import HandS.Head2
import HandS.Dict
import HandS.DictComp
import PyProof.WalksMore
import PyProof.CollectIter
import HandS.ExcValue
import HandS.ExcOwn
import KE.GoesEnum
import HandS.Set
import HandS.Strs
import HandS.TupSets
import HandS.Style
import KE.SortCalls
import HandS.DictTup
import HandS.WrittenGet
import HandS.HeadHook3
import PyProof.Rows.ListMulArg
import HandS.Sort
import HandS.More
import PyProof.DictUpdate
import KE.GoesMore
import KE.SortData
import HandS.ExcInit
import HandS.ClsMeth
import HandS.TryMany
import HandS.ExcField
import KE.KExcIs
import KE.KIsAll
import KE.DataFind
import HandS.ExcIs
import KE.DataEq
import PyProof.EnumMake
import KE.KSortAsk
import KE.KExcInit
import HandS.MakeKwOnly
section
set_option Elab.async false
set_option linter.all false
set_option maxRecDepth 100000
/-! Ev1: values and objects of the evaluator, how they stand in the abstract heap. -/
namespace EV
open PySem PySem.Spec PyProof.Rows L2

/-- a Python value; tuples, and lists that never change, are written out (sls: a list of the module's or the script); obj n: the n-th changing object -/
inductive PV where
  | non
  | bl (b : Bool)
  | int (i : Int)
  | str (x : Str)
  | tup (xs : List PV)
  | lst (xs : List PV)
  | sls (xs : List PV)
  | obj (n : Nat)

/-- a changing object -/
inductive GO where
  | lst (xs : List PV)
  | dic (kvs : List (Key × PV))
  | ins (c : Nat) (fs : List (Str × PV))
abbrev GH := List GO

/-- an end: a value, an exception of the class number c with its fields, or no word -/
inductive Res (α : Type) where
  | ok (a : α) (G : GH)
  | exc (c : Nat) (fs : List (Str × PV)) (G : GH)
  | bad
def Res.bind {α β : Type} (r : Res α) (f : α → GH → Res β) : Res β :=
  match r with
  | .ok a G => f a G
  | .exc c fs G => .exc c fs G
  | .bad => .bad
@[simp] theorem Res.bind_ok {α β : Type} (a : α) (G : GH) (f : α → GH → Res β) : (Res.ok a G).bind f = f a G := rfl
@[simp] theorem Res.bind_bad {α β : Type} (f : α → GH → Res β) : (Res.bad : Res α).bind f = .bad := rfl
@[simp] theorem Res.bind_exc {α β : Type} (c : Nat) (fs : List (Str × PV)) (G : GH) (f : α → GH → Res β) : (Res.exc c fs G : Res α).bind f = .exc c fs G := rfl

/-- what is fixed: the written part, where the classes stand -/
structure Fx where
  K : PySem.W.Frag
  ca : Nat → Addr
  T : List (Addr × Str)

/-- where our objects stand, and what is being made (nobody holds it yet) -/
structure Mu where
  ob : List Addr
  rs : List Addr
def Mu.free (μ : Mu) (a : Addr) : Prop := a ∉ μ.ob ∧ a ∉ μ.rs
section
variable (F : Fx) (μ : Mu) (H : Hp)
def KLst (K : PySem.W.Frag) (a : Addr) (xs : List V) : Prop :=
  ∃ (o : Obj) (its : Array Value) (n : Nat), K.lookup a = some o ∧ o.cls = .type "list" ∧ o.dict = none ∧ o.data = .seq its n ∧ its.size ≤ sizeLine ∧ Vals xs its.toList
def KTup (K : PySem.W.Frag) (a : Addr) (xs : List V) : Prop :=
  ∃ (o : Obj) (its : Array Value) (n : Nat), K.lookup a = some o ∧ o.cls = .type "tuple" ∧ o.dict = none ∧ o.data = .seq its n ∧ its.size ≤ sizeLine ∧ Vals xs its.toList
/-- a tuple, its very object known, which bears no dict -/
def Fz (H : Hp) (a : Addr) (xs : List V) : Prop := ∃ o : Obj, H a = some (.frz o (.tup xs)) ∧ o.dict = none
def StL (a : Addr) (xs : List V) : Prop := (μ.free a ∧ Rd H a (.lst xs)) ∨ KLst F.K a xs
def StX (a : Addr) (xs : List V) : Prop := μ.free a ∧ H a = some (.lst xs)
def StT (a : Addr) (xs : List V) : Prop := (μ.free a ∧ Fz H a xs) ∨ KTup F.K a xs
mutual
def Rep : PV → V → Prop
  | .non, v => v = .non
  | .bl b, v => v = .bl b
  | .int i, v => v = .int i
  | .str x, v => v = .str x
  | .tup ps, v => ∃ a vs, v = .ref a ∧ vs.length ≤ sizeLine ∧ StT F μ H a vs ∧ Reps ps vs
  | .lst ps, v => ∃ a vs, v = .ref a ∧ vs.length ≤ sizeLine ∧ StX μ H a vs ∧ Reps ps vs
  | .sls ps, v => ∃ a vs, v = .ref a ∧ vs.length ≤ sizeLine ∧ StL F μ H a vs ∧ Reps ps vs
  | .obj n, v => ∃ a, v = .ref a ∧ μ.ob[n]? = some a
def Reps : List PV → List V → Prop
  | [], vs => vs = []
  | p :: ps, vs => ∃ v r, vs = v :: r ∧ Rep p v ∧ Reps ps r
end
def RepK : List (Key × PV) → List (Key × V) → Prop := Paired fun p q => p.1 = q.1 ∧ Rep F μ H p.2 q.2
def RepF : List (Str × PV) → List (Str × V) → Prop := Paired fun p q => p.1 = q.1 ∧ Rep F μ H p.2 q.2
def RepO (a : Addr) : GO → Prop
  | .lst ps => ∃ vs, H a = some (.lst vs) ∧ vs.length ≤ sizeLine ∧ Reps F μ H ps vs
  | .dic kps => ∃ kvs, H a = some (.dK kvs) ∧ kvs.length ≤ sizeLine ∧ RepK F μ H kps kvs
  | .ins c fs => ∃ dx fvs, H a = some (.ins (F.ca c) dx fvs) ∧ H dx = some (.own a) ∧ μ.free dx ∧ RepF F μ H fs fvs
structure HRep (G : GH) : Prop where
  len : μ.ob.length = G.length
  nd : μ.ob.Nodup
  obj : ∀ (i : Nat) (a : Addr) (o : GO), μ.ob[i]? = some a → G[i]? = some o → RepO F μ H a o
  res : ∀ a ∈ μ.rs, a ∉ μ.ob ∧ ∃ xs, H a = some (.lst xs)
  tab : LamX.Tabs F.T H
end
/-- no table of code objects -/
def NoTbl (o : HO) : Prop := ∀ ps, o ≠ .tbl ps

/-- the heap has grown: what stands and isn't an object of ours is kept, new objects of ours are new -/
structure Ext (μ μ' : Mu) (H H' : Hp) : Prop where
  pre : ∃ r, μ'.ob = μ.ob ++ r
  rs : μ'.rs = μ.rs
  new : ∀ a ∈ μ'.ob, a ∉ μ.ob → ∀ o, H a = some o → NoTbl o → False
  keep : ∀ a o, H a = some o → NoTbl o → a ∉ μ.ob → H' a = some o
theorem Ext.refl (μ : Mu) (H : Hp) : Ext μ μ H H := ⟨⟨[], by simp⟩, rfl, fun a h n => absurd h n, fun _ _ h _ _ => h⟩
theorem Ext.sub {μ μ' : Mu} {H H' : Hp} (e : Ext μ μ' H H') : ∀ a ∈ μ.ob, a ∈ μ'.ob := fun a h => by
  obtain ⟨r, q⟩ := e.pre
  rw [q]
  exact List.mem_append_left _ h
theorem Ext.trans {μ μ1 μ2 : Mu} {H H1 H2 : Hp} (e : Ext μ μ1 H H1) (f : Ext μ1 μ2 H1 H2) : Ext μ μ2 H H2 where
  pre := by
    obtain ⟨r, h1⟩ := e.pre
    obtain ⟨q, h2⟩ := f.pre
    exact ⟨r ++ q, by rw [h2, h1]; simp⟩
  rs := f.rs.trans e.rs
  new := fun a h n o q nt => by
    by_cases h1 : a ∈ μ1.ob
    · exact e.new a h1 n o q nt
    · exact f.new a h h1 o (e.keep a o q nt n) nt
  keep := fun a o h nt n => by
    have h1 : a ∉ μ1.ob := fun m => e.new a m n o h nt
    exact f.keep a o (e.keep a o h nt n) nt h1
theorem Ext.get {μ μ' : Mu} {H H' : Hp} (e : Ext μ μ' H H') {i : Nat} {a : Addr} (h : μ.ob[i]? = some a) : μ'.ob[i]? = some a := by
  obtain ⟨r, q⟩ := e.pre
  rw [q]
  exact List.getElem?_append_left (List.getElem?_eq_some_iff.mp h).1 ▸ h
theorem Ext.outO {μ μ' : Mu} {H H' : Hp} (e : Ext μ μ' H H') {a : Addr} {o : HO} (nt : NoTbl o) (h : H a = some o) (n : a ∉ μ.ob) : a ∉ μ'.ob := fun m => e.new a m n o h nt
theorem Ext.out {μ μ' : Mu} {H H' : Hp} (e : Ext μ μ' H H') {a : Addr} {o : HO} (nt : NoTbl o) (h : H a = some o) (n : μ.free a) : μ'.free a := ⟨e.outO nt h n.1, by rw [e.rs]; exact n.2⟩
theorem Ext.rd {μ μ' : Mu} {H H' : Hp} (e : Ext μ μ' H H') {a : Addr} {o : HO} (nt : NoTbl o) (h : Rd H a o) (n : μ.free a) : μ'.free a ∧ Rd H' a o := by
  rcases h with h | ⟨ob, h⟩
  · exact ⟨e.out nt h n, .inl (e.keep _ _ h nt n.1)⟩
  · exact ⟨e.out (fun _ z => by cases z) h n, .inr ⟨ob, e.keep _ _ h (fun _ z => by cases z) n.1⟩⟩

section
variable {F : Fx} {μ μ' : Mu} {H H' : Hp}
theorem StL.mono (e : Ext μ μ' H H') {a : Addr} {xs : List V} (h : StL F μ H a xs) : StL F μ' H' a xs := by
  rcases h with ⟨n, r⟩ | h
  · exact .inl (e.rd (fun _ z => by cases z) r n)
  · exact .inr h
theorem StT.mono (e : Ext μ μ' H H') {a : Addr} {xs : List V} (h : StT F μ H a xs) : StT F μ' H' a xs := by
  rcases h with ⟨n, o, r, d⟩ | h
  · exact .inl ⟨e.out (fun _ z => by cases z) r n, o, e.keep _ _ r (fun _ z => by cases z) n.1, d⟩
  · exact .inr h
theorem StX.mono (e : Ext μ μ' H H') {a : Addr} {xs : List V} (h : StX μ H a xs) : StX μ' H' a xs := ⟨e.out (fun _ z => by cases z) h.2 h.1, e.keep _ _ h.2 (fun _ z => by cases z) h.1.1⟩
theorem StX.st {a : Addr} {xs : List V} (h : StX μ H a xs) : StL F μ H a xs := .inl ⟨h.1, .inl h.2⟩
theorem StL.sq {a : Addr} {xs : List V} (h : StL F μ H a xs) : SqL F.K H a xs := h.elim (fun q => .inl q.2) .inr
theorem StT.sq {a : Addr} {xs : List V} (h : StT F μ H a xs) : SqT F.K H a xs := h.elim (fun ⟨_, o, q, _⟩ => .inl (.inr ⟨o, q⟩)) fun ⟨o, its, n, h1, h2, _, h3⟩ => .inr ⟨o, its, n, h1, h2, h3⟩
mutual
theorem Rep.mono (e : Ext μ μ' H H') : ∀ {p : PV} {v : V}, Rep F μ H p v → Rep F μ' H' p v
  | .non, _, h => by simpa only [Rep] using h
  | .bl b, _, h => by simpa only [Rep] using h
  | .int i, _, h => by simpa only [Rep] using h
  | .str x, _, h => by simpa only [Rep] using h
  | .tup ps, v, h => by
    simp only [Rep] at h ⊢
    obtain ⟨a, vs, e1, z, s, r⟩ := h
    exact ⟨a, vs, e1, z, s.mono e, Reps.mono e r⟩
  | .lst ps, v, h => by
    simp only [Rep] at h ⊢
    obtain ⟨a, vs, e1, z, s, r⟩ := h
    exact ⟨a, vs, e1, z, s.mono e, Reps.mono e r⟩
  | .sls ps, v, h => by
    simp only [Rep] at h ⊢
    obtain ⟨a, vs, e1, z, s, r⟩ := h
    exact ⟨a, vs, e1, z, s.mono e, Reps.mono e r⟩
  | .obj n, v, h => by
    simp only [Rep] at h ⊢
    obtain ⟨a, e1, g⟩ := h
    exact ⟨a, e1, e.get g⟩
theorem Reps.mono (e : Ext μ μ' H H') : ∀ {ps : List PV} {vs : List V}, Reps F μ H ps vs → Reps F μ' H' ps vs
  | [], _, h => by simpa only [Reps] using h
  | p :: ps, vs, h => by
    simp only [Reps] at h ⊢
    obtain ⟨v, r, e1, h1, h2⟩ := h
    exact ⟨v, r, e1, Rep.mono e h1, Reps.mono e h2⟩
end
theorem Reps.nil : Reps F μ H [] [] := by simp only [Reps]
theorem Reps.cons {p : PV} {v : V} {ps : List PV} {vs : List V} (h : Rep F μ H p v) (t : Reps F μ H ps vs) : Reps F μ H (p :: ps) (v :: vs) := by
  simp only [Reps]
  exact ⟨v, vs, rfl, h, t⟩
theorem Reps.nil_inv {vs : List V} (h : Reps F μ H [] vs) : vs = [] := by simpa only [Reps] using h
theorem Reps.cons_inv {p : PV} {ps : List PV} {vs : List V} (h : Reps F μ H (p :: ps) vs) : ∃ v r, vs = v :: r ∧ Rep F μ H p v ∧ Reps F μ H ps r := by simpa only [Reps] using h
theorem Reps.length : ∀ {ps : List PV} {vs : List V}, Reps F μ H ps vs → ps.length = vs.length
  | [], _, h => by rw [h.nil_inv]; rfl
  | p :: ps, _, h => by
    obtain ⟨v, r, rfl, _, t⟩ := h.cons_inv
    simp [Reps.length t]
theorem Reps.get : ∀ {ps : List PV} {vs : List V} {i : Nat} {p : PV}, Reps F μ H ps vs → ps[i]? = some p → ∃ v, vs[i]? = some v ∧ Rep F μ H p v
  | [], _, i, _, _, e => by simp at e
  | q :: ps, _, 0, p, h, e => by
    obtain ⟨v, r, rfl, h1, _⟩ := h.cons_inv
    simp at e; subst e
    exact ⟨v, rfl, h1⟩
  | q :: ps, _, i + 1, p, h, e => by
    obtain ⟨v, r, rfl, _, t⟩ := h.cons_inv
    obtain ⟨u, h2, h3⟩ := Reps.get t (by simpa using e)
    exact ⟨u, by simpa using h2, h3⟩
theorem Reps.append : ∀ {ps qs : List PV} {vs ws : List V}, Reps F μ H ps vs → Reps F μ H qs ws → Reps F μ H (ps ++ qs) (vs ++ ws)
  | [], _, _, _, h, k => by rw [h.nil_inv]; simpa using k
  | p :: ps, _, _, _, h, k => by
    obtain ⟨v, r, rfl, h1, t⟩ := h.cons_inv
    exact .cons h1 (Reps.append t k)
theorem Reps.one {p : PV} {v : V} (h : Rep F μ H p v) : Reps F μ H [p] [v] := .cons h .nil
theorem Reps.one_inv {p : PV} {vs : List V} (h : Reps F μ H [p] vs) : ∃ v, vs = [v] ∧ Rep F μ H p v := by
  obtain ⟨v, r, rfl, h1, t⟩ := h.cons_inv
  rw [t.nil_inv]
  exact ⟨v, rfl, h1⟩
theorem Reps.two_inv {p q : PV} {vs : List V} (h : Reps F μ H [p, q] vs) : ∃ v w, vs = [v, w] ∧ Rep F μ H p v ∧ Rep F μ H q w := by
  obtain ⟨v, r, rfl, h1, t⟩ := h.cons_inv
  obtain ⟨w, rfl, h2⟩ := t.one_inv
  exact ⟨v, w, rfl, h1, h2⟩
theorem Reps.take : ∀ {ps : List PV} {vs : List V} (n : Nat), Reps F μ H ps vs → Reps F μ H (ps.take n) (vs.take n)
  | _, _, 0, _ => .nil
  | [], _, n + 1, h => by rw [h.nil_inv]; exact .nil
  | p :: ps, _, n + 1, h => by
    obtain ⟨v, r, rfl, h1, t⟩ := h.cons_inv
    exact .cons h1 (Reps.take n t)
theorem Reps.drop : ∀ {ps : List PV} {vs : List V} (n : Nat), Reps F μ H ps vs → Reps F μ H (ps.drop n) (vs.drop n)
  | _, _, 0, h => h
  | [], _, n + 1, h => by rw [h.nil_inv]; exact .nil
  | p :: ps, _, n + 1, h => by
    obtain ⟨v, r, rfl, h1, t⟩ := h.cons_inv
    exact Reps.drop n t
theorem Reps.set {p : PV} {v : V} (hp : Rep F μ H p v) : ∀ {ps : List PV} {vs : List V} (n : Nat), Reps F μ H ps vs → Reps F μ H (ps.set n p) (vs.set n v)
  | [], _, n, h => by rw [h.nil_inv]; exact .nil
  | q :: ps, _, 0, h => by
    obtain ⟨u, r, rfl, h1, t⟩ := h.cons_inv
    exact .cons hp t
  | q :: ps, _, n + 1, h => by
    obtain ⟨u, r, rfl, h1, t⟩ := h.cons_inv
    exact .cons h1 (Reps.set hp n t)
theorem Reps.erase : ∀ {ps : List PV} {vs : List V} (n : Nat), Reps F μ H ps vs → Reps F μ H (ps.eraseIdx n) (vs.eraseIdx n)
  | [], _, n, h => by rw [h.nil_inv]; exact .nil
  | q :: ps, _, 0, h => by
    obtain ⟨u, r, rfl, h1, t⟩ := h.cons_inv
    exact t
  | q :: ps, _, n + 1, h => by
    obtain ⟨u, r, rfl, h1, t⟩ := h.cons_inv
    exact .cons h1 (Reps.erase n t)
theorem RepK.mono (e : Ext μ μ' H H') {ps : List (Key × PV)} {vs : List (Key × V)} (h : RepK F μ H ps vs) : RepK F μ' H' ps vs := Paired.mapP h fun _ _ q => ⟨q.1, q.2.mono e⟩
theorem RepF.mono (e : Ext μ μ' H H') {ps : List (Str × PV)} {vs : List (Str × V)} (h : RepF F μ H ps vs) : RepF F μ' H' ps vs := Paired.mapP h fun _ _ q => ⟨q.1, q.2.mono e⟩

theorem HRep.there (h : HRep F μ H G) {a : Addr} (m : a ∈ μ.ob) : ∃ o, H a = some o := by
  obtain ⟨i, hi⟩ := List.mem_iff_getElem?.mp m
  have hl : i < G.length := by rw [← h.len]; exact (List.getElem?_eq_some_iff.mp hi).1
  have q := h.obj i a _ hi (List.getElem?_eq_getElem hl)
  cases e : G[i] with
  | lst ps => rw [e] at q; obtain ⟨vs, q, _⟩ := q; exact ⟨_, q⟩
  | dic ps => rw [e] at q; obtain ⟨vs, q, _⟩ := q; exact ⟨_, q⟩
  | ins c fs => rw [e] at q; obtain ⟨dx, vs, q, _⟩ := q; exact ⟨_, q⟩
theorem HRep.freshO (h : HRep F μ H G) {p : Addr} (n : H p = none) : p ∉ μ.ob := fun m => by
  obtain ⟨o, e⟩ := h.there m
  rw [n] at e; cases e
theorem HRep.fresh (h : HRep F μ H G) {p : Addr} (n : H p = none) : μ.free p := ⟨h.freshO n, fun m => by
  obtain ⟨_, o, e⟩ := h.res p m
  rw [n] at e; cases e⟩
/-- a new thing that is none of our objects -/
theorem Ext.upd_new (h : HRep F μ H G) {p : Addr} {o : HO} (n : H p = none) : Ext μ μ H (upd H p o) :=
  ⟨⟨[], by simp⟩, rfl, fun a m k => absurd m k, fun a u e _ _ => by rw [upd_ne (ne_of_none e n)]; exact e⟩
/-- all that stands is kept: our objects too -/
theorem Ext.same (s : ∀ a o, H a = some o → H' a = some o) : Ext μ μ H H' := ⟨⟨[], by simp⟩, rfl, fun a m k => absurd m k, fun a o e _ _ => s a o e⟩
theorem RepO.keep (e : Ext μ μ' H H') {a : Addr} {o : GO} (h : RepO F μ H a o) (ha : ∀ u, H a = some u → H' a = some u) : RepO F μ' H' a o := by
  cases o with
  | lst ps =>
    obtain ⟨vs, q, z, r⟩ := h
    exact ⟨vs, ha _ q, z, r.mono e⟩
  | dic ps =>
    obtain ⟨vs, q, z, r⟩ := h
    exact ⟨vs, ha _ q, z, r.mono e⟩
  | ins c fs =>
    obtain ⟨dx, vs, q, d, n, r⟩ := h
    exact ⟨dx, vs, ha _ q, e.keep _ _ d (fun _ z => by cases z) n.1, e.out (fun _ z => by cases z) d n, r.mono e⟩
theorem HRep.same (h : HRep F μ H G) (s : ∀ a o, H a = some o → H' a = some o) : HRep F μ H' G :=
  ⟨h.len, h.nd, fun i a o h1 h2 => (h.obj i a o h1 h2).keep (Ext.same s) (fun u q => s a u q), fun a m => let ⟨h1, o, h2⟩ := h.res a m; ⟨h1, o, s a _ h2⟩, h.tab.ext s⟩
theorem HRep.upd_new (h : HRep F μ H G) {p : Addr} {o : HO} (n : H p = none) : HRep F μ (upd H p o) G :=
  h.same fun a u e => by rw [upd_ne (ne_of_none e n)]; exact e
/-- a new object of ours -/
abbrev Mu.push (μ : Mu) (p : Addr) : Mu := ⟨μ.ob ++ [p], μ.rs⟩
theorem Ext.push (h : HRep F μ H G) {p : Addr} {o : HO} (n : H p = none) : Ext μ (μ.push p) H (upd H p o) :=
  ⟨⟨[p], rfl⟩, rfl, fun a m k => by
    rcases List.mem_append.mp m with q | q
    · exact absurd q k
    · exact fun o z _ => (by rw [List.mem_singleton.mp q, n] at z; cases z), fun a u e _ _ => by rw [upd_ne (ne_of_none e n)]; exact e⟩
theorem HRep.push (h : HRep F μ H G) {p : Addr} {o : HO} {g : GO} (n : H p = none) (r : RepO F (μ.push p) (upd H p o) p g) : HRep F (μ.push p) (upd H p o) (G ++ [g]) where
  len := by simp [Mu.push, h.len]
  nd := List.nodup_append.mpr ⟨h.nd, by simp, fun a ha b hb => by
    rw [List.mem_singleton.mp hb]
    intro e
    subst e
    exact h.freshO n ha⟩
  obj := fun i a u h1 h2 => by
    have h1 : (μ.ob ++ [p])[i]? = some a := h1
    by_cases hi : i < μ.ob.length
    · rw [List.getElem?_append_left hi] at h1
      rw [List.getElem?_append_left (by rw [← h.len]; exact hi)] at h2
      refine (h.obj i a u h1 h2).keep (Ext.push h n) fun v q => ?_
      rw [upd_ne (ne_of_none q n)]; exact q
    · have hi' : i = μ.ob.length := by
        have := (List.getElem?_eq_some_iff.mp h1).1
        simp at this; omega
      subst hi'
      rw [List.getElem?_append_right (Nat.le_refl _)] at h1
      rw [h.len, List.getElem?_append_right (Nat.le_refl _)] at h2
      simp at h1 h2
      subst h1 h2
      exact r
  res := fun a m => by
    obtain ⟨h1, u, h2⟩ := h.res a m
    refine ⟨fun k => ?_, u, by rw [upd_ne (ne_of_none h2 n)]; exact h2⟩
    rcases List.mem_append.mp k with q | q
    · exact h1 q
    · rw [List.mem_singleton.mp q, n] at h2; cases h2
  tab := h.tab.ext fun b o e => by rw [upd_ne (ne_of_none e n)]; exact e
theorem nodup_at {μ : List Addr} (nd : μ.Nodup) {i j : Nat} {a : Addr} (h1 : μ[i]? = some a) (h2 : μ[j]? = some a) : i = j := by
  obtain ⟨l1, e1⟩ := List.getElem?_eq_some_iff.mp h1
  obtain ⟨l2, e2⟩ := List.getElem?_eq_some_iff.mp h2
  exact (List.getElem_inj nd).mp (e1.trans e2.symm)
/-- an object of ours is changed -/
theorem Ext.write {p : Addr} {o : HO} (m : p ∈ μ.ob) : Ext μ μ H (upd H p o) :=
  ⟨⟨[], by simp⟩, rfl, fun a k n => absurd k n, fun a u e _ n => by
    rw [upd_ne (fun z => by subst z; exact n m)]; exact e⟩
/-- what a changing object of ours may be -/
def IsO : HO → Prop
  | .lst _ => True
  | .dK _ => True
  | .ins _ _ _ => True
  | _ => False
/-- the tables stand where another thing is changed -/
theorem tabs_upd {T : List (Addr × Str)} {p : Addr} {u o : HO} (hp : H p = some u) (hu : IsO u) (t : LamX.Tabs T H) : LamX.Tabs T (upd H p o) := fun q hq => by
  obtain ⟨ps, h1, h2, h3⟩ := t q hq
  have n1 : q.1 ≠ p := fun z => by
    rw [z, hp] at h1
    cases h1
    exact hu
  refine ⟨ps, by rw [upd_ne n1]; exact h1, h2, fun pos cv hc => ?_⟩
  obtain ⟨c, e1, e2⟩ := h3 pos cv hc
  have n2 : c ≠ p := fun z => by
    rw [z, hp] at e2
    have e3 := Option.some.inj e2
    rw [e3] at hu
    exact hu
  exact ⟨c, e1, by rw [upd_ne n2]; exact e2⟩
theorem HRep.isO (h : HRep F μ H G) {a : Addr} (m : a ∈ μ.ob) : ∃ o, H a = some o ∧ IsO o := by
  obtain ⟨i, hi⟩ := List.mem_iff_getElem?.mp m
  have hl : i < G.length := by rw [← h.len]; exact (List.getElem?_eq_some_iff.mp hi).1
  have q := h.obj i a _ hi (List.getElem?_eq_getElem hl)
  cases e : G[i] with
  | lst ps => rw [e] at q; obtain ⟨vs, q, _⟩ := q; exact ⟨_, q, trivial⟩
  | dic ps => rw [e] at q; obtain ⟨vs, q, _⟩ := q; exact ⟨_, q, trivial⟩
  | ins c fs => rw [e] at q; obtain ⟨dx, vs, q, _⟩ := q; exact ⟨_, q, trivial⟩
theorem HRep.write (h : HRep F μ H G) {n : Nat} {p : Addr} {o : HO} {g : GO} (hp : μ.ob[n]? = some p) (r : RepO F μ (upd H p o) p g) : HRep F μ (upd H p o) (G.set n g) where
  len := by simp [h.len]
  nd := h.nd
  obj := fun i a u h1 h2 => by
    have hm : p ∈ μ.ob := List.mem_of_getElem? hp
    by_cases hi : i = n
    · subst hi
      rw [hp] at h1; cases h1
      have hl : i < G.length := by rw [← h.len]; exact (List.getElem?_eq_some_iff.mp hp).1
      rw [List.getElem?_set_self hl] at h2
      cases h2
      exact r
    · rw [List.getElem?_set_ne (Ne.symm hi)] at h2
      refine (h.obj i a u h1 h2).keep (Ext.write hm) fun v q => ?_
      rw [upd_ne (fun z => by subst z; exact hi (nodup_at h.nd h1 hp))]; exact q
  res := fun a m => by
    obtain ⟨h1, u, h2⟩ := h.res a m
    exact ⟨h1, u, by rw [upd_ne (fun z => by subst z; exact h1 (List.mem_of_getElem? hp))]; exact h2⟩
  tab := by
    obtain ⟨u, h1, h2⟩ := h.isO (List.mem_of_getElem? hp)
    exact tabs_upd h1 h2 h.tab

/-! ### what is being made -/
abbrev Mu.mk1 (μ : Mu) (D : Addr) : Mu := ⟨μ.ob, D :: μ.rs⟩
theorem StL.other {D : Addr} {o : HO} {a : Addr} {xs : List V} (h : StL F (μ.mk1 D) H a xs) : StL F (μ.mk1 D) (upd H D o) a xs := by
  rcases h with ⟨n, r⟩ | h
  · have hne : a ≠ D := fun z => n.2 (by rw [z]; exact List.mem_cons_self)
    refine .inl ⟨n, ?_⟩
    rcases r with r | ⟨ob, r⟩
    · exact .inl (by rw [upd_ne hne]; exact r)
    · exact .inr ⟨ob, by rw [upd_ne hne]; exact r⟩
  · exact .inr h
theorem StT.other {D : Addr} {o : HO} {a : Addr} {xs : List V} (h : StT F (μ.mk1 D) H a xs) : StT F (μ.mk1 D) (upd H D o) a xs := by
  rcases h with ⟨n, ob, r, d⟩ | h
  · have hne : a ≠ D := fun z => n.2 (by rw [z]; exact List.mem_cons_self)
    exact .inl ⟨n, ob, by rw [upd_ne hne]; exact r, d⟩
  · exact .inr h
/-- a predicate on what stands that all of a value's parts bear -/
structure Chg (F : Fx) (μ μ' : Mu) (H H' : Hp) : Prop where
  l : ∀ a xs, StL F μ H a xs → StL F μ' H' a xs
  x : ∀ a xs, StX μ H a xs → StX μ' H' a xs
  t : ∀ a xs, StT F μ H a xs → StT F μ' H' a xs
  ob : ∀ (n : Nat) a, μ.ob[n]? = some a → μ'.ob[n]? = some a
mutual
theorem Rep.chg (c : Chg F μ μ' H H') : ∀ {p : PV} {v : V}, Rep F μ H p v → Rep F μ' H' p v
  | .non, _, h => by simpa only [Rep] using h
  | .bl b, _, h => by simpa only [Rep] using h
  | .int i, _, h => by simpa only [Rep] using h
  | .str x, _, h => by simpa only [Rep] using h
  | .tup ps, v, h => by
    simp only [Rep] at h ⊢
    obtain ⟨a, vs, e1, z, s, r⟩ := h
    exact ⟨a, vs, e1, z, c.t _ _ s, Reps.chg c r⟩
  | .lst ps, v, h => by
    simp only [Rep] at h ⊢
    obtain ⟨a, vs, e1, z, s, r⟩ := h
    exact ⟨a, vs, e1, z, c.x _ _ s, Reps.chg c r⟩
  | .sls ps, v, h => by
    simp only [Rep] at h ⊢
    obtain ⟨a, vs, e1, z, s, r⟩ := h
    exact ⟨a, vs, e1, z, c.l _ _ s, Reps.chg c r⟩
  | .obj n, v, h => by
    simp only [Rep] at h ⊢
    obtain ⟨a, e1, g⟩ := h
    exact ⟨a, e1, c.ob _ _ g⟩
theorem Reps.chg (c : Chg F μ μ' H H') : ∀ {ps : List PV} {vs : List V}, Reps F μ H ps vs → Reps F μ' H' ps vs
  | [], _, h => by simpa only [Reps] using h
  | p :: ps, vs, h => by
    simp only [Reps] at h ⊢
    obtain ⟨v, r, e1, h1, h2⟩ := h
    exact ⟨v, r, e1, Rep.chg c h1, Reps.chg c h2⟩
end
theorem Chg.trans {μ1 : Mu} {H1 : Hp} (c : Chg F μ μ1 H H1) (d : Chg F μ1 μ' H1 H') : Chg F μ μ' H H' := ⟨fun a xs h => d.l a xs (c.l a xs h), fun a xs h => d.x a xs (c.x a xs h), fun a xs h => d.t a xs (c.t a xs h), fun n a h => d.ob n a (c.ob n a h)⟩
theorem Ext.chg (e : Ext μ μ' H H') : Chg F μ μ' H H' := ⟨fun _ _ h => h.mono e, fun _ _ h => h.mono e, fun _ _ h => h.mono e, fun _ _ h => e.get h⟩
theorem Chg.refl : Chg F μ μ H H := ⟨fun _ _ h => h, fun _ _ h => h, fun _ _ h => h, fun _ _ h => h⟩
/-- one turn while D is being made -/
theorem Ext.step1 {l l3 rs : List Addr} {H1 H2 H3 : Hp} {D : Addr} {o : HO} (hD : H1 D = none) (e2 : Ext μ ⟨l, rs⟩ H1 H2) (e : Ext ((⟨l, rs⟩ : Mu).mk1 D) ((⟨l3, rs⟩ : Mu).mk1 D) H2 H3) : Ext μ ⟨l3, rs⟩ H1 (upd H3 D o) where
  pre := by
    obtain ⟨r, h1⟩ := e2.pre
    obtain ⟨q, h2⟩ := e.pre
    have h1 : l = μ.ob ++ r := h1
    have h2 : l3 = l ++ q := h2
    exact ⟨r ++ q, by show l3 = _; rw [h2, h1]; simp⟩
  rs := e2.rs
  new := fun a m n => by
    by_cases h : a ∈ l
    · exact e2.new a h n
    · exact fun o q nt => e.new a m h o (e2.keep a o q nt n) nt
  keep := fun a u h nt n => by
    have h2 := e2.keep a u h nt n
    have hl : a ∉ l := e2.outO nt h n
    rw [upd_ne (ne_of_none h hD)]
    exact e.keep a u h2 nt hl
theorem StX.other {D : Addr} {o : HO} {a : Addr} {xs : List V} (h : StX (μ.mk1 D) H a xs) : StX (μ.mk1 D) (upd H D o) a xs := ⟨h.1, by rw [upd_ne (fun z => h.1.2 (by rw [z]; exact List.mem_cons_self))]; exact h.2⟩
theorem Chg.other {D : Addr} {o : HO} : Chg F (μ.mk1 D) (μ.mk1 D) H (upd H D o) := ⟨fun _ _ h => h.other, fun _ _ h => h.other, fun _ _ h => h.other, fun _ _ h => h⟩
/-- D, new, is reserved -/
theorem Chg.start {D : Addr} {o : HO} (n : H D = none) : Chg F μ (μ.mk1 D) H (upd H D o) := by
  have aux : ∀ {a : Addr} {u : HO}, Rd H a u → μ.free a → (μ.mk1 D).free a ∧ Rd (upd H D o) a u := fun {a u} r f => by
    have hne : a ≠ D := fun z => by
      subst z
      rcases r with r | ⟨ob, r⟩ <;> (rw [n] at r; cases r)
    refine ⟨⟨f.1, fun m => (List.mem_cons.mp m).elim hne f.2⟩, ?_⟩
    rcases r with r | ⟨ob, r⟩
    · exact .inl (by rw [upd_ne hne]; exact r)
    · exact .inr ⟨ob, by rw [upd_ne hne]; exact r⟩
  refine ⟨fun a xs h => h.imp (fun q => aux q.2 q.1) id, fun a xs h => ?_, fun a xs h => h.imp (fun ⟨q, ob, r, d⟩ => ⟨(aux (.inl r) q).1, ob, by rw [upd_ne (ne_of_none r n)]; exact r, d⟩) id, fun _ _ h => h⟩
  have hne := ne_of_none h.2 n
  exact ⟨⟨h.1.1, fun m => (List.mem_cons.mp m).elim hne h.1.2⟩, by rw [upd_ne hne]; exact h.2⟩
/-- D is handed out: as a value, or as an object of ours -/
theorem Chg.stop {D : Addr} : Chg F (μ.mk1 D) μ H H :=
  ⟨fun a xs h => h.imp (fun q => ⟨⟨q.1.1, fun m => q.1.2 (List.mem_cons_of_mem _ m)⟩, q.2⟩) id, fun a xs h => ⟨⟨h.1.1, fun m => h.1.2 (List.mem_cons_of_mem _ m)⟩, h.2⟩, fun a xs h => h.imp (fun q => ⟨⟨q.1.1, fun m => q.1.2 (List.mem_cons_of_mem _ m)⟩, q.2⟩) id, fun _ _ h => h⟩
theorem Chg.stopO {D : Addr} : Chg F (μ.mk1 D) (μ.push D) H H := by
  have aux : ∀ {a : Addr}, (μ.mk1 D).free a → (μ.push D).free a := fun {a} f =>
    ⟨fun m => (List.mem_append.mp m).elim f.1 fun q => f.2 (by rw [List.mem_singleton.mp q]; exact List.mem_cons_self), fun m => f.2 (List.mem_cons_of_mem _ m)⟩
  exact ⟨fun a xs h => h.imp (fun q => ⟨aux q.1, q.2⟩) id, fun a xs h => ⟨aux h.1, h.2⟩, fun a xs h => h.imp (fun q => ⟨aux q.1, q.2⟩) id, fun n a h => by
    have hl := (List.getElem?_eq_some_iff.mp h).1
    exact (List.getElem?_append_left hl).trans h⟩
theorem RepO.chg (c : Chg F μ μ' H H') {a : Addr} {o : GO} (h : RepO F μ H a o) (ha : ∀ u, H a = some u → H' a = some u) (hd : ∀ d, H d = some (.own a) → μ.free d → H' d = some (.own a) ∧ μ'.free d) : RepO F μ' H' a o := by
  cases o with
  | lst ps =>
    obtain ⟨vs, q, z, r⟩ := h
    exact ⟨vs, ha _ q, z, r.chg c⟩
  | dic ps =>
    obtain ⟨vs, q, z, r⟩ := h
    exact ⟨vs, ha _ q, z, Paired.mapP r fun _ _ x => ⟨x.1, x.2.chg c⟩⟩
  | ins k fs =>
    obtain ⟨dx, vs, q, d, n, r⟩ := h
    obtain ⟨d', n'⟩ := hd dx d n
    exact ⟨dx, vs, ha _ q, d', n', Paired.mapP r fun _ _ x => ⟨x.1, x.2.chg c⟩⟩
theorem HRep.start (h : HRep F μ H G) {D : Addr} {xs : List V} (n : H D = none) : HRep F (μ.mk1 D) (upd H D (.lst xs)) G where
  len := h.len
  nd := h.nd
  obj := fun i a u h1 h2 => (h.obj i a u h1 h2).chg (Chg.start n) (fun v q => by rw [upd_ne (ne_of_none q n)]; exact q) fun d q f =>
    ⟨by rw [upd_ne (ne_of_none q n)]; exact q, f.1, fun m => (List.mem_cons.mp m).elim (ne_of_none q n) f.2⟩
  res := fun a m => by
    rcases List.mem_cons.mp m with q | q
    · subst q; exact ⟨h.freshO n, xs, upd_same⟩
    · obtain ⟨h1, u, h2⟩ := h.res a q
      exact ⟨h1, u, by rw [upd_ne (ne_of_none h2 n)]; exact h2⟩
  tab := h.tab.ext fun b o e => by rw [upd_ne (ne_of_none e n)]; exact e
theorem HRep.other (h : HRep F (μ.mk1 D) H G) {xs : List V} : HRep F (μ.mk1 D) (upd H D (.lst xs)) G where
  len := h.len
  nd := h.nd
  obj := fun i a u h1 h2 => (h.obj i a u h1 h2).chg Chg.other (fun v q => by
      have hne : a ≠ D := fun z => (h.res D List.mem_cons_self).1 (by rw [← z]; exact List.mem_of_getElem? h1)
      rw [upd_ne hne]; exact q) fun d q f => ⟨by rw [upd_ne (fun z => f.2 (by rw [z]; exact List.mem_cons_self))]; exact q, f⟩
  res := fun a m => by
    obtain ⟨h1, u, h2⟩ := h.res a m
    refine ⟨h1, ?_⟩
    by_cases z : a = D
    · exact ⟨xs, by rw [z]; exact upd_same⟩
    · exact ⟨u, by rw [upd_ne z]; exact h2⟩
  tab := by
    obtain ⟨_, ys, h2⟩ := h.res D List.mem_cons_self
    exact tabs_upd h2 trivial h.tab
theorem HRep.stop (h : HRep F (μ.mk1 D) H G) : HRep F μ H G where
  len := h.len
  nd := h.nd
  obj := fun i a u h1 h2 => (h.obj i a u h1 h2).chg Chg.stop (fun v q => q) fun d q f => ⟨q, f.1, fun m => f.2 (List.mem_cons_of_mem _ m)⟩
  res := fun a m => h.res a (List.mem_cons_of_mem _ m)
  tab := h.tab
theorem HRep.stopO (h : HRep F (μ.mk1 D) H G) (nr : D ∉ μ.rs) {g : GO} (r : RepO F (μ.push D) H D g) : HRep F (μ.push D) H (G ++ [g]) where
  len := by simp [Mu.push, h.len]
  nd := List.nodup_append.mpr ⟨h.nd, by simp, fun a ha b hb => by
    rw [List.mem_singleton.mp hb]
    intro e
    subst e
    exact (h.res a List.mem_cons_self).1 ha⟩
  obj := fun i a u h1 h2 => by
    have h1 : (μ.ob ++ [D])[i]? = some a := h1
    have hlen : μ.ob.length = G.length := h.len
    by_cases hi : i < μ.ob.length
    · rw [List.getElem?_append_left hi] at h1
      rw [List.getElem?_append_left (by rw [← hlen]; exact hi)] at h2
      refine (h.obj i a u h1 h2).chg Chg.stopO (fun v q => q) fun d q f => ⟨q, fun m => ?_, fun m => f.2 (List.mem_cons_of_mem _ m)⟩
      rcases List.mem_append.mp m with z | z
      · exact f.1 z
      · exact f.2 (by rw [List.mem_singleton.mp z]; exact List.mem_cons_self)
    · have hi' : i = μ.ob.length := by
        have := (List.getElem?_eq_some_iff.mp h1).1
        simp at this; omega
      subst hi'
      rw [List.getElem?_append_right (Nat.le_refl _)] at h1
      rw [hlen, List.getElem?_append_right (Nat.le_refl _)] at h2
      simp at h1 h2
      subst h1 h2
      exact r
  res := fun a m => by
    obtain ⟨h1, h2⟩ := h.res a (List.mem_cons_of_mem _ m)
    refine ⟨fun k => ?_, h2⟩
    rcases List.mem_append.mp k with q | q
    · exact h1 q
    · rw [List.mem_singleton.mp q] at m; exact nr m
  tab := h.tab
/-- from the start, D being made, to its end -/
theorem Ext.drop1 {μ2 : Mu} {D : Addr} (e : Ext (μ.mk1 D) μ2 H H') : ∃ ob, μ2 = (⟨ob, μ.rs⟩ : Mu).mk1 D := by
  obtain ⟨ob, rs⟩ := μ2
  exact ⟨ob, by rw [show rs = D :: μ.rs from e.rs]⟩
end
end EV
end
section
set_option Elab.async false
set_option linter.all false
set_option maxRecDepth 100000
/-! Ev2: readings that run the evaluator; how they are put together. -/
namespace EV
open PySem PySem.Spec PyProof.Rows L2
abbrev Env := List (Option PV)
/-- the slots hold what the evaluator's slots hold -/
structure SRel (F : Fx) (μ : Mu) (H : Hp) (ρ : Env) (σ : L2.St) : Prop where
  len : ρ.length = σ.length
  at' : ∀ (i : Nat) (p : PV), ρ[i]? = some (some p) → ∃ v, σ[i]? = some (some v) ∧ Rep F μ H p v
theorem SRel.mono {F : Fx} {μ μ' : Mu} {H H' : Hp} {ρ : Env} {σ : L2.St} (e : Ext μ μ' H H') (s : SRel F μ H ρ σ) : SRel F μ' H' ρ σ :=
  ⟨s.len, fun i p h => let ⟨v, h1, h2⟩ := s.at' i p h; ⟨v, h1, h2.mono e⟩⟩
theorem SRel.set {F : Fx} {μ : Mu} {H : Hp} {ρ : Env} {σ : L2.St} (s : SRel F μ H ρ σ) {p : PV} {v : V} (r : Rep F μ H p v) (i : Nat) : SRel F μ H (ρ.set i (some p)) (σ.set i (some v)) := by
  refine ⟨by simp [s.len], fun j q h => ?_⟩
  by_cases hj : i = j
  · subst hj
    have hl : i < ρ.length := by
      have := (List.getElem?_eq_some_iff.mp h).1
      simpa using this
    rw [List.getElem?_set_self hl] at h
    cases h
    exact ⟨v, by rw [List.getElem?_set_self (by rw [← s.len]; exact hl)], r⟩
  · rw [List.getElem?_set_ne hj] at h
    obtain ⟨u, h1, h2⟩ := s.at' j q h
    exact ⟨u, by rw [List.getElem?_set_ne hj]; exact h1, h2⟩

abbrev RelA (α β : Type) := Mu → Hp → α → β → Prop
/-- what is wanted behind an end of the evaluator -/
def Post {α β : Type} (F : Fx) (R : RelA α β) (Ex : XK) (μ : Mu) (H : Hp) (r : Res α) (Q : β → Hp → Prop) : Prop :=
  match r with
  | .ok a G => ∀ μ' b H', Ext μ μ' H H' → R μ' H' a b → HRep F μ' H' G → Q b H'
  | .exc c fs G => ∀ μ' d H' fvs, Ext μ μ' H H' → HRep F μ' H' G → H' d = some (.xd fvs) → μ'.free d → RepF F μ' H' fs fvs → Ex (.ref (F.ca c)) (some d) H'
  | .bad => False
section
variable {α β γ δ : Type} {F : Fx} {R : RelA α β} {R2 : RelA γ δ} {Ex : XK} {μ μ' : Mu} {H H' : Hp} {G : GH}
theorem Post.mono {r : Res α} {Q Q' : β → Hp → Prop} (h : Post F R Ex μ H r Q) (q : ∀ b H, Q b H → Q' b H) : Post F R Ex μ H r Q' := by
  cases r with
  | ok a G => exact fun μ' b H' e x y => q _ _ (h μ' b H' e x y)
  | exc c fs G => exact h
  | bad => exact h
theorem Post.shift {r : Res α} {Q : β → Hp → Prop} (e : Ext μ μ' H H') (h : Post F R Ex μ H r Q) : Post F R Ex μ' H' r Q := by
  cases r with
  | ok a G => exact fun μ2 b H2 f x y => h μ2 b H2 (e.trans f) x y
  | exc c fs G => exact fun μ2 d H2 fvs f x y n z => h μ2 d H2 fvs (e.trans f) x y n z
  | bad => exact h
theorem Post.bind {r : Res α} {f : α → GH → Res γ} {Q : δ → Hp → Prop} (h : Post F R2 Ex μ H (r.bind f) Q) :
    Post F R Ex μ H r (fun b H1 => ∃ μ1 a G1, r = .ok a G1 ∧ Ext μ μ1 H H1 ∧ R μ1 H1 a b ∧ HRep F μ1 H1 G1 ∧ Post F R2 Ex μ1 H1 (f a G1) Q) := by
  cases r with
  | ok a G => exact fun μ1 b H1 e x y => ⟨μ1, a, G, rfl, e, x, y, Post.shift e h⟩
  | exc c fs G => exact h
  | bad => exact h
theorem Post.ok {a : α} {b : β} {Q : β → Hp → Prop} (h : Post F R Ex μ H (.ok a G) Q) (e : Ext μ μ' H H') (r : R μ' H' a b) (g : HRep F μ' H' G) : Q b H' := h μ' b H' e r g
theorem Post.here {a : α} {b : β} {Q : β → Hp → Prop} (h : Post F R Ex μ H (.ok a G) Q) (r : R μ H a b) (g : HRep F μ H G) : Q b H := h μ b H (Ext.refl _ _) r g
end
def RV (F : Fx) : RelA PV V := fun μ H p v => Rep F μ H p v
def RVs (F : Fx) : RelA (List PV) (List V) := fun μ H ps vs => Reps F μ H ps vs
def RB : RelA Bool Bool := fun _ _ a b => a = b
/-- the readings -/
def TEv (F : Fx) (Ex : XK) (m : Env → GH → Res PV) : TE := fun σ H Q => ∃ μ ρ G, SRel F μ H ρ σ ∧ HRep F μ H G ∧ Post F (RV F) Ex μ H (m ρ G) Q
def TTv (F : Fx) (Ex : XK) (m : Env → GH → Res Bool) : TT := fun σ H Q => ∃ μ ρ G, SRel F μ H ρ σ ∧ HRep F μ H G ∧ Post F RB Ex μ H (m ρ G) Q
def TAv (F : Fx) (Ex : XK) (m : Env → GH → Res (List PV)) : TA := fun σ H Q => ∃ μ ρ G, SRel F μ H ρ σ ∧ HRep F μ H G ∧ Post F (RVs F) Ex μ H (m ρ G) Q
/-- a value's, by values -/
def RdV (F : Fx) (Ex : XK) (m : List PV → GH → Res PV) : List V → Hp → VK → Prop := fun vs H Q => ∃ μ ps G, Reps F μ H ps vs ∧ HRep F μ H G ∧ Post F (RV F) Ex μ H (m ps G) Q
theorem _root_.L2.PE.weak {X : Cx} {e : Expr} {t t' : TE} (h : PE X e t) (w : ∀ σ H Q, t' σ H Q → t σ H Q) : PE X e t' := ⟨fun pins s σ H Q I q => h.run pins s σ H Q I (w σ H Q q)⟩
theorem _root_.L2.PT.weak {X : Cx} {e : Expr} {t t' : TT} (h : PT X e t) (w : ∀ σ H Q, t' σ H Q → t σ H Q) : PT X e t' := ⟨fun pins s σ H Q I q => h.run pins s σ H Q I (w σ H Q q)⟩
theorem _root_.L2.PW.weak {X : Cx} {e : Expr} {t t' : TT} (h : PW X e t) (w : ∀ σ H Q, t' σ H Q → t σ H Q) : PW X e t' := ⟨fun wh pins s σ H Q I q => h.run wh pins s σ H Q I (w σ H Q q)⟩
theorem _root_.L2.PA.weak {X : Cx} {e : List Expr} {t t' : TA} (h : PA X e t) (w : ∀ σ H Q, t' σ H Q → t σ H Q) : PA X e t' := ⟨fun pos pins s σ H Q I q => h.run pos pins s σ H Q I (w σ H Q q)⟩
theorem _root_.L2.PS.weak {X : Cx} {e : Stmt} {t t' : TS} (h : PS X e t) (w : ∀ D σ H, t' D σ H → t D σ H) : PS X e t' := ⟨fun pins s σ H D I q => h.run pins s σ H D I (w D σ H q)⟩
theorem _root_.L2.PSs.weak {X : Cx} {e : List Stmt} {t t' : TS} (h : PSs X e t) (w : ∀ D σ H, t' D σ H → t D σ H) : PSs X e t' := ⟨fun pins s σ H D I q => h.run pins s σ H D I (w D σ H q)⟩

section
variable {X : Cx} {F : Fx} {Ex : XK}

/-- running m, then going on -/
theorem TEv.run {σ : L2.St} {H : Hp} {μ : Mu} {ρ : Env} {G : GH} {m : Env → GH → Res PV} {γ δ : Type} {R2 : RelA γ δ} {f : PV → GH → Res γ} {Q2 : δ → Hp → Prop} {Q : VK}
    (s : SRel F μ H ρ σ) (g : HRep F μ H G) (h : Post F R2 Ex μ H ((m ρ G).bind f) Q2)
    (k : ∀ μ1 a G1 v H1, Ext μ μ1 H H1 → Rep F μ1 H1 a v → HRep F μ1 H1 G1 → SRel F μ1 H1 ρ σ → Post F R2 Ex μ1 H1 (f a G1) Q2 → Q v H1) : TEv F Ex m σ H Q :=
  ⟨μ, ρ, G, s, g, (Post.bind (R := RV F) h).mono fun v H1 ⟨μ1, a, G1, _, e, r, g1, p⟩ => k μ1 a G1 v H1 e r g1 (s.mono e) p⟩
theorem TEv.runE {σ : L2.St} {H : Hp} {μ : Mu} {ρ : Env} {G : GH} {m : Env → GH → Res PV} {γ δ : Type} {R2 : RelA γ δ} {f : PV → GH → Res γ} {Q2 : δ → Hp → Prop} {Q : VK}
    (s : SRel F μ H ρ σ) (g : HRep F μ H G) (h : Post F R2 Ex μ H ((m ρ G).bind f) Q2)
    (k : ∀ μ1 a G1 v H1, m ρ G = .ok a G1 → Ext μ μ1 H H1 → Rep F μ1 H1 a v → HRep F μ1 H1 G1 → SRel F μ1 H1 ρ σ → Post F R2 Ex μ1 H1 (f a G1) Q2 → Q v H1) : TEv F Ex m σ H Q :=
  ⟨μ, ρ, G, s, g, (Post.bind (R := RV F) h).mono fun v H1 ⟨μ1, a, G1, em, e, r, g1, p⟩ => k μ1 a G1 v H1 em e r g1 (s.mono e) p⟩
theorem TAv.run {σ : L2.St} {H : Hp} {μ : Mu} {ρ : Env} {G : GH} {m : Env → GH → Res (List PV)} {γ δ : Type} {R2 : RelA γ δ} {f : List PV → GH → Res γ} {Q2 : δ → Hp → Prop} {Q : List V → Hp → Prop}
    (s : SRel F μ H ρ σ) (g : HRep F μ H G) (h : Post F R2 Ex μ H ((m ρ G).bind f) Q2)
    (k : ∀ μ1 a G1 v H1, Ext μ μ1 H H1 → Reps F μ1 H1 a v → HRep F μ1 H1 G1 → SRel F μ1 H1 ρ σ → Post F R2 Ex μ1 H1 (f a G1) Q2 → Q v H1) : TAv F Ex m σ H Q :=
  ⟨μ, ρ, G, s, g, (Post.bind (R := RVs F) h).mono fun v H1 ⟨μ1, a, G1, _, e, r, g1, p⟩ => k μ1 a G1 v H1 e r g1 (s.mono e) p⟩
theorem TTv.run {σ : L2.St} {H : Hp} {μ : Mu} {ρ : Env} {G : GH} {m : Env → GH → Res Bool} {γ δ : Type} {R2 : RelA γ δ} {f : Bool → GH → Res γ} {Q2 : δ → Hp → Prop} {Q : Bool → Hp → Prop}
    (s : SRel F μ H ρ σ) (g : HRep F μ H G) (h : Post F R2 Ex μ H ((m ρ G).bind f) Q2)
    (k : ∀ μ1 b G1 H1, Ext μ μ1 H H1 → HRep F μ1 H1 G1 → SRel F μ1 H1 ρ σ → Post F R2 Ex μ1 H1 (f b G1) Q2 → Q b H1) : TTv F Ex m σ H Q :=
  ⟨μ, ρ, G, s, g, (Post.bind (R := RB) h).mono fun v H1 ⟨μ1, a, G1, _, e, r, g1, p⟩ => by
    cases (show a = v from r)
    exact k μ1 _ G1 H1 e g1 (s.mono e) p⟩

/-! ### names and constants -/
def mVar (i : Nat) : Env → GH → Res PV := fun ρ G => match ρ[i]? with
  | some (some v) => .ok v G
  | _ => .bad
theorem ev_var {i : Nat} {x : Str} {pos : Pos} (hN : X.N[i]? = some x) (hv : Vis X.env.scope x) (hd : (x == ("__debug__" : Str)) = false) (hcd : (x == ("__classdict__" : Str)) = false) :
    PE X (.Name x pos) (TEv F Ex (mVar i)) := (pe_var hN hv hd hcd).weak fun σ H Q ⟨μ, ρ, G, s, g, p⟩ => by
  unfold mVar at p
  cases e : ρ[i]? with
  | none => rw [e] at p; exact p.elim
  | some o =>
    cases o with
    | none => rw [e] at p; exact p.elim
    | some a =>
      rw [e] at p
      obtain ⟨v, h1, h2⟩ := s.at' i a e
      exact ⟨v, h1, p.here h2 g⟩
def mCst (v : PV) : Env → GH → Res PV := fun _ G => .ok v G
theorem ev_cst {e : Expr} {p : PV} {v : V} (h : PE X e (tC v)) (r : ∀ μ H, Rep F μ H p v) : PE X e (TEv F Ex (mCst p)) :=
  h.weak fun σ H Q ⟨μ, ρ, G, s, g, q⟩ => q.here (r μ H) g
theorem ev_int {i j pos} : PE X (.Constant (.int i) j pos) (TEv F Ex (mCst (.int i))) := ev_cst pe_int fun _ _ => by simp only [Rep]
theorem ev_bl {i j pos} : PE X (.Constant (.bool i) j pos) (TEv F Ex (mCst (.bl i))) := ev_cst pe_bl fun _ _ => by simp only [Rep]
theorem ev_non {j pos} : PE X (.Constant .none j pos) (TEv F Ex (mCst .non)) := ev_cst pe_non fun _ _ => by simp only [Rep]
theorem ev_str {x j pos} : PE X (.Constant (.str x) j pos) (TEv F Ex (mCst (.str x))) := ev_cst pe_str fun _ _ => by simp only [Rep]

/-! ### operators -/
def m2 (ma mb : Env → GH → Res PV) (f : List PV → GH → Res PV) : Env → GH → Res PV := fun ρ G => (ma ρ G).bind fun x G1 => (mb ρ G1).bind fun y G2 => f [x, y] G2
def m1 (ma : Env → GH → Res PV) (f : List PV → GH → Res PV) : Env → GH → Res PV := fun ρ G => (ma ρ G).bind fun x G1 => f [x] G1
abbrev OpV (F : Fx) (Ex : XK) (m : List PV → GH → Res PV) : R2 := fun x y H Q => RdV F Ex m [x, y] H Q
theorem read2 {ta tb : TE} {ma mb : Env → GH → Res PV} {f : List PV → GH → Res PV} {σ : L2.St} {H : Hp} {Q : VK} (h : TEv F Ex (m2 ma mb f) σ H Q) : tOp (OpV F Ex f) (TEv F Ex ma) (TEv F Ex mb) σ H Q := by
  obtain ⟨μ, ρ, G, s, g, p⟩ := h
  refine TEv.run s g p fun μ1 a G1 v H1 e1 r1 g1 s1 p1 => ?_
  refine TEv.run s1 g1 p1 fun μ2 b G2 w H2 e2 r2 g2 s2 p2 => ?_
  exact ⟨μ2, [a, b], G2, .cons (r1.mono e2) (.one r2), g2, p2⟩
theorem ev_bin {op : Operator} {a b : Expr} {pos : Pos} {ma mb : Env → GH → Res PV} {f : List PV → GH → Res PV} (ho : OpR X (binaryOp op) (OpV F Ex f)) (ha : PE X a (TEv F Ex ma)) (hb : PE X b (TEv F Ex mb)) :
    PE X (.BinOp a op b pos) (TEv F Ex (m2 ma mb f)) := (pe_op ho ha hb).weak fun σ H Q h => read2 (ta := TEv F Ex ma) (tb := TEv F Ex mb) h
theorem ev_un {op : UnaryOp} {a : Expr} {pos : Pos} {ma : Env → GH → Res PV} {f : List PV → GH → Res PV} (ho : UnR X (unaryOp op) (fun x H Q => RdV F Ex f [x] H Q)) (ha : PE X a (TEv F Ex ma)) :
    PE X (.UnaryOp op a pos) (TEv F Ex (m1 ma f)) := (pe_un ho ha).weak fun σ H Q ⟨μ, ρ, G, s, g, p⟩ =>
  TEv.run s g p fun μ1 a G1 v H1 e1 r1 g1 s1 p1 => ⟨μ1, [a], G1, .one r1, g1, p1⟩
theorem ev_cmp {op : CmpOp} {a b : Expr} {pos : Pos} {ma mb : Env → GH → Res PV} {f : List PV → GH → Res PV} (ho : OpR X (compareOp op) (OpV F Ex f)) (ha : PE X a (TEv F Ex ma)) (hb : PE X b (TEv F Ex mb)) (hm : behindInMarks op b = false) :
    PE X (.Compare a [op] [b] pos) (TEv F Ex (m2 ma mb f)) := (pe_cmpR ho ha hb hm).weak fun σ H Q h => read2 (ta := TEv F Ex ma) (tb := TEv F Ex mb) h
theorem ev_ix {a b : Expr} {pos : Pos} {ma mb : Env → GH → Res PV} {f : List PV → GH → Res PV} (ho : IxR X (OpV F Ex f)) (ha : PE X a (TEv F Ex ma)) (hb : PE X b (TEv F Ex mb)) (hs : PlainIx b) :
    PE X (.Subscript a b pos) (TEv F Ex (m2 ma mb f)) := (pe_ix ho ha hb hs).weak fun σ H Q h => read2 (ta := TEv F Ex ma) (tb := TEv F Ex mb) h
/-- the end of a comparison, as a test -/
def asB (p : PV) (G : GH) : Res Bool := match p with
  | .bl b => .ok b G
  | _ => .bad
def mB (m : Env → GH → Res PV) : Env → GH → Res Bool := fun ρ G => (m ρ G).bind asB
theorem asB_use {μ : Mu} {H : Hp} {p : PV} {v : V} {G : GH} {Q : Bool → Hp → Prop} (r : Rep F μ H p v) (g : HRep F μ H G) (h : Post F RB Ex μ H (asB p G) Q) : ∃ k, v = .bl k ∧ Q k H := by
  cases p with
  | bl b => exact ⟨b, by simpa only [Rep] using r, h.here rfl g⟩
  | _ => exact (show False from h).elim
theorem ev_cmpT {op : CmpOp} {a b : Expr} {pos : Pos} {ma mb : Env → GH → Res PV} {f : List PV → GH → Res PV} (ho : OpR X (compareOp op) (OpV F Ex f)) (ha : PE X a (TEv F Ex ma)) (hb : PE X b (TEv F Ex mb)) (hm : behindInMarks op b = false) :
    PT X (.Compare a [op] [b] pos) (TTv F Ex (mB (m2 ma mb f))) := (pt_cmpR ho ha hb hm).weak fun σ H Q ⟨μ, ρ, G, s, g, p⟩ => by
  refine read2 (ta := TEv F Ex ma) (tb := TEv F Ex mb) ⟨μ, ρ, G, s, g, (Post.bind (R := RV F) p).mono fun v H1 ⟨μ1, a, G1, _, e, r, g1, q⟩ => asB_use r g1 q⟩
/-- two comparisons in a chain -/
def m3c (ma mb mc : Env → GH → Res PV) (f f' : List PV → GH → Res PV) : Env → GH → Res PV := fun ρ G => (ma ρ G).bind fun x G1 => (mb ρ G1).bind fun y G2 => (f [x, y] G2).bind fun z G3 => (asB z G3).bind fun k G4 =>
  if k = true then (mc ρ G4).bind fun c G5 => f' [y, c] G5 else .ok (.bl false) G4
/-! ### truth -/
def truth (p : PV) (G : GH) : Res Bool := match p with
  | .non => .ok false G
  | .bl b => .ok b G
  | .int i => .ok (i != 0) G
  | .str x => if x.length ≤ sizeLine then .ok ((x.length : Int) != 0) G else .bad
  | .tup ps => .ok (!ps.isEmpty) G
  | .lst ps => .ok (!ps.isEmpty) G
  | .sls ps => .ok (!ps.isEmpty) G
  | .obj n => match G[n]? with
    | some (.lst ps) => .ok (!ps.isEmpty) G
    | some (.dic ps) => .ok (!ps.isEmpty) G
    | _ => .bad
def mT (m : Env → GH → Res PV) : Env → GH → Res Bool := fun ρ G => (m ρ G).bind truth
theorem Reps.isEmpty {μ : Mu} {H : Hp} {ps : List PV} {vs : List V} (h : Reps F μ H ps vs) : ps.isEmpty = vs.isEmpty := by
  have := h.length
  cases ps <;> cases vs <;> simp_all
theorem truth_use {K : PySem.W.Frag} (hK : F.K = K) {μ : Mu} {H : Hp} {p : PV} {v : V} {G : GH} {Q : Bool → Hp → Prop} (r : Rep F μ H p v) (g : HRep F μ H G) (h : Post F RB Ex μ H (truth p G) Q) : ∃ k, TruV K v H k ∧ Q k H := by
  subst hK
  cases p with
  | non => simp only [Rep] at r; subst r; exact ⟨false, rfl, h.here rfl g⟩
  | bl b => simp only [Rep] at r; subst r; exact ⟨b, rfl, h.here rfl g⟩
  | int i => simp only [Rep] at r; subst r; exact ⟨_, rfl, h.here rfl g⟩
  | str x =>
    simp only [Rep] at r; subst r
    unfold truth at h
    by_cases hx : x.length ≤ sizeLine
    · simp only [hx, if_true] at h
      exact ⟨_, ⟨hx, rfl⟩, h.here rfl g⟩
    · simp only [hx, if_false] at h
      exact (show False from h).elim
  | tup ps =>
    simp only [Rep] at r
    obtain ⟨a, vs, rfl, z, st, rr⟩ := r
    exact ⟨_, .inr (.inl ⟨vs, st.sq, rfl⟩), h.here (congrArg (! ·) rr.isEmpty) g⟩
  | lst ps =>
    simp only [Rep] at r
    obtain ⟨a, vs, rfl, z, st, rr⟩ := r
    exact ⟨_, .inl ⟨vs, SqL.of st.2, rfl⟩, h.here (congrArg (! ·) rr.isEmpty) g⟩
  | sls ps =>
    simp only [Rep] at r
    obtain ⟨a, vs, rfl, z, st, rr⟩ := r
    exact ⟨_, .inl ⟨vs, st.sq, rfl⟩, h.here (congrArg (! ·) rr.isEmpty) g⟩
  | obj n =>
    simp only [Rep] at r
    obtain ⟨a, rfl, ha⟩ := r
    unfold truth at h
    cases e : G[n]? with
    | none => simp only [e] at h; exact (show False from h).elim
    | some o =>
      have q := g.obj n a o ha e
      cases o with
      | lst ps =>
        simp only [e] at h
        obtain ⟨vs, q, z, rr⟩ := q
        exact ⟨_, .inl ⟨vs, SqL.of q, rfl⟩, h.here (congrArg (! ·) rr.isEmpty) g⟩
      | dic ps =>
        simp only [e] at h
        obtain ⟨vs, q, z, rr⟩ := q
        have : ps.isEmpty = vs.isEmpty := by
          have := Paired.length rr
          cases ps <;> cases vs <;> simp_all
        exact ⟨_, .inr (.inr ⟨vs, q, rfl⟩), h.here (congrArg (! ·) this) g⟩
      | ins c fs => simp only [e] at h; exact (show False from h).elim
end
end EV
end
section
set_option Elab.async false
set_option linter.all false
set_option maxRecDepth 100000
set_option maxHeartbeats 1000000
/-! EvT: new tuples, their very objects known (no dict of their own). -/
namespace EV
open PySem PySem.Spec PyProof.Rows L2
/-- wherever a new tuple of these items lies -/
def NewT (H : Hp) (ys : List V) (Q : VK) : Prop := ∀ (p : Addr) (o : Obj), H p = none → o.dict = none → Q (.ref p) (upd H p (.frz o (.tup ys)))
section
variable {X : Cx} {pins : List (Addr × Obj)} {σ : L2.St} {H : Hp} {s : Shared}
theorem fz_laid {h' : Heap} {t' : Nat} {p : Addr} {ys : List V} {its : List Value} (I : Inv X pins σ H s) (k : ∀ b u, s.heap.get? b = some u → h'.get? b = some u) (hp : s.heap.objs.size ≤ p) (e : h'.get? p = some { cls := .type "tuple", data := .seq its.toArray }) (r : Vals ys its) (z : ys.length ≤ sizeLine) :
    Inv X pins σ (upd H p (.frz { cls := .type "tuple", data := .seq its.toArray } (.tup ys))) { s with heap := h', toks := t' } :=
  I.laid (t' := t') k hp ⟨e, z, its, r, ⟨_, e, rfl, _, rfl⟩⟩
theorem fz_new {Q : VK} {t' : Nat} {ys : List V} {its : List Value} (I : Inv X pins σ H s) (r : Vals ys its) (z : ys.length ≤ sizeLine) (q : NewT H ys Q) : EP X pins σ Q (.ref s.heap.objs.size) { s with heap := s.heap.push { cls := .type "tuple", data := .seq its.toArray }, toks := t' } :=
  ⟨.ref s.heap.objs.size, _, fz_laid I (fun b u e => Heap.get?_push_of_some _ e) (Nat.le_refl _) (Heap.get?_push_size _ rfl) r z, rfl, q _ _ (I.hok.fresh (Nat.le_refl _)) rfl⟩
end
section
variable {X : Cx} {es : List Expr} {t : TA} {pos : Pos}
theorem pe_tupF {x1 : Nat} (h : PA X es t) : PE X (.Tuple es x1 pos) (fun σ H Q => t σ H fun xs H1 => xs.length ≤ sizeLine ∧ NewT H1 xs Q) := by
  refine ⟨fun pins s σ H Q I hq => ?_⟩
  exact wpAny_Tuple_spliced (thn (h.run pos pins s σ H _ I hq) fun us s1 ⟨xs, H1, I1, r, z, q⟩ => ⟨by rw [← r.length]; exact z, fz_new (t' := s1.toks) I1 r z q⟩)
/-- tuple(xs), of a list or of a tuple -/
theorem call_tupleF : CallR X (.type "tuple") (fun xs H Q => ∃ a ys, xs = [.ref a] ∧ ((SqL X.K H a ys ∧ NewT H ys Q) ∨ (SqT X.K H a ys ∧ Q (.ref a) H))) := by
  intro pins s σ H xs us Q I r h
  obtain ⟨a, ys, rfl, h⟩ := h
  obtain ⟨u, rfl, ru⟩ := vals1 r
  cases ru
  rcases h with ⟨hs, q⟩ | ⟨hs, q⟩
  · obtain ⟨its, rv, pl, hz⟩ := I.list hs
    refine call_tuple_list pl.isList (fun h' hk => ?_) (by rw [List.size_toArray, ← rv.length]; exact hz)
    exact fz_new (t' := s.toks) (I.kept (t' := s.toks) hk) rv hz q
  · exact call_tupleT pins s σ H _ _ Q I r ⟨a, ys, rfl, hs, q⟩
theorem op_catF : OpR X (binaryOp .Add) (fun x y H Q => ∃ a b xs ys, x = .ref a ∧ y = .ref b ∧ SqT X.K H a xs ∧ SqT X.K H b ys ∧ xs.length + ys.length ≤ sizeLine ∧ (xs = [] → Q (.ref b) H) ∧ (xs ≠ [] → ys = [] → Q (.ref a) H) ∧ (xs ≠ [] → ys ≠ [] → NewT H (xs ++ ys) Q)) := by
  intro pins s σ H x y v u Q I rx ry h
  obtain ⟨a, b, xs, ys, rfl, rfl, ha, hb, hz, q0, q1, q2⟩ := h
  cases rx
  cases ry
  obtain ⟨its, r1, p1, _⟩ := I.tuple ha
  obtain ⟨its2, r2, p2, _⟩ := I.tuple hb
  by_cases hx : xs = []
  · subst hx
    cases r1
    exact cat_tup0 p1 p2 ⟨.ref b, H, I, rfl, q0 rfl⟩
  · refine HT.cat_tup p1 p2 (fun z => hx (r1.nil_iff.mp z)) (fun z => ⟨.ref a, H, I, rfl, q1 hx (r2.nil_iff.mp z)⟩) (fun z => ?_) (by rw [← r1.length, ← r2.length]; exact hz)
    exact fz_new (t' := s.toks) I (r1.append r2) (by rw [List.length_append]; exact hz) (q2 hx fun w => z (r2.nil_iff.mpr w))
theorem sl_tupF : SlR X (fun x lo hi H Q => ∃ a xs, x = .ref a ∧ SqT X.K H a xs ∧ (HT.sIx xs.length 0 lo = 0 ∧ HT.sIx xs.length xs.length hi = xs.length → Q (.ref a) H) ∧ (¬ (HT.sIx xs.length 0 lo = 0 ∧ HT.sIx xs.length xs.length hi = xs.length) → NewT H (cutV xs lo hi) Q)) := by
  intro pins s σ H x v vl vu lo hi sl Q I rx hs pl pu h
  obtain ⟨a, xs, rfl, hx, q1, q2⟩ := h
  by_cases hw : HT.sIx xs.length 0 lo = 0 ∧ HT.sIx xs.length xs.length hi = xs.length
  · exact sl_tupA pins s σ H _ v vl vu lo hi sl Q I rx hs pl pu ⟨a, xs, rfl, hx, q1, fun z => absurd hw z⟩
  · cases rx
    obtain ⟨its, r, ht, hz⟩ := I.tuple hx
    have hlen : its.toArray.size = xs.length := by rw [List.size_toArray]; exact r.length.symm
    refine ⟨"tuple", _, PyProof.Rows.slot_tuple_getitem.lookup, ht.typeIs, ?_⟩
    refine HT.getItem_tuple_cut ht hs pl pu (by rw [hlen]; exact hw) ?_ (by rw [hlen]; exact hz)
    rw [hlen]
    exact fz_new (t' := s.toks) I ((r.drop _).take _) (Nat.le_trans (cutV_length xs lo hi) hz) (q2 hw)
/-- xs * k, more than once -/
theorem op_repF : OpR X (binaryOp .Mult) (fun x y H Q => ∃ l k xs, x = .ref l ∧ y = .int k ∧ SqT X.K H l xs ∧ xs ≠ [] ∧ 2 ≤ k ∧ k ≤ 1000 ∧ xs.length ≤ 1000 ∧ NewT H (List.replicate k.toNat xs).flatten Q) := by
  intro pins s σ H x y v u Q I rx ry ⟨l, k, xs, ex, ey, hT, hne, h1, h2, hz, q⟩
  subst ex ey
  cases rx
  obtain ⟨t, rfl⟩ := ry
  obtain ⟨its, r, hp, _⟩ := I.tuple hT
  obtain ⟨⟨cls, dd, data, sl⟩, ho, hc, n, hd⟩ := hp
  dsimp only at hc hd
  subst hc hd
  have hle : xs.length = its.length := r.length
  have hn : its.isEmpty = false := by
    cases its with
    | nil => exact absurd (List.eq_nil_of_length_eq_zero hle) hne
    | cons a b => rfl
  have hm : k.toNat * its.length ≤ 1000 * 1000 := Nat.mul_le_mul (by omega) (by omega)
  have fl : (List.replicate k.toNat its).flatten.length ≤ sizeLine := by
    rw [PyProof.Rows.lm_len_rep_flat, sizeLine_eq]
    omega
  have e1 : (decide (k < -(2 ^ 63)) || decide (k ≥ 2 ^ 63)) = false := by simp; omega
  have e2 : (its.toArray.isEmpty || k == 1) = false := by simp [hn]; omega
  have e3 : (decide (k ≤ 0) || its.toArray.isEmpty) = false := by simp [hn]; omega
  have z : ((its.toArray.size : Nat) : Int) * k ≤ 1000 * 1000 := by
    have a1 : ((its.length : Nat) : Int) * k ≤ 1000 * k := Int.mul_le_mul_of_nonneg_right (by omega) (by omega)
    rw [List.size_toArray]
    omega
  have e4 : Builtin.Tuple.tupleTooMany (((its.toArray.size : Nat) : Int) * k) = false := by
    unfold Builtin.Tuple.tupleTooMany
    rw [sizeLine_eq]
    simp only [decide_eq_false_iff_not]
    omega
  refine wpAny_binaryOp_repeat_ref (T := "tuple") (U := "int") (by decide) ⟨_, ho, rfl⟩ (fun s' => typeIs_int s' k t) noFill_tuple_mul F.fills_int_mul F.slot_int_rmul repeat_tuple F.slot_int_index.lookup ?_
  refine call_meets F.slot_int_rmul (typeIs_int s k t) F.entry_int_rmul (F.args_int_rmul_2 _ _) (int_rmul_tuple k t l its.toArray n dd sl) ⟨ho, rfl, ⟨_, ho, rfl⟩, ?_⟩
  refine call_meets F.slot_tuple_mul ⟨_, ho, rfl⟩ F.entry_tuple_mul (F.args_tuple_mul_2 _ _) (tuple_mulW l its.toArray n dd sl k t e1 e2 e3 (by omega) e4 (by rw [size_rep, List.size_toArray]; exact fl)) ⟨ho, ?_⟩
  rw [size_rep]
  have z2 : (List.replicate k.toNat xs).flatten.length ≤ sizeLine := by
    rw [PyProof.Rows.lm_len_rep_flat, hle, sizeLine_eq]
    omega
  exact fz_new (t' := s.toks) I (r.rep k.toNat) z2 q
theorem tuple_mul0 (l : Addr) (n : Nat) (dd : Option Addr) (sl : Array (Option Value)) (x : Int) (u : Tok) (c0 : (decide (x < -(2 ^ 63)) || decide (x ≥ 2 ^ 63)) = false) :
    Meets (Builtin.«tuple.__mul__» ⟨[.ref l, .int x u], []⟩) (fun _ R s => s.heap.get? l = some { cls := .type "tuple", dict := dd, data := .seq #[] n, slots := sl } ∧
      R (.ok (.ret (Value.ref l))) s) :=
  .of_wp fun prog w A R s h => by
    obtain ⟨hp, g, d, tk, os⟩ := s
    obtain ⟨hl, h⟩ := h
    have f1 := AutoSeq1.idx_int
    wp_walk using wpAny_loadPart' hl
    refine wpAny_ite_false (decide_eq_false (by rw [c0]; exact Bool.false_ne_true)) ?_
    wp_walk using wpAny_loadPart' hl
    exact ⟨_, rfl, h⟩
/-- () * k -/
theorem op_rep0 : OpR X (binaryOp .Mult) (fun x y H Q => ∃ l k, x = .ref l ∧ y = .int k ∧ SqT X.K H l [] ∧ 2 ≤ k ∧ k ≤ 1000 ∧ Q (.ref l) H) := by
  intro pins s σ H x y v u Q I rx ry ⟨l, k, ex, ey, hT, h1, h2, q⟩
  subst ex ey
  cases rx
  obtain ⟨t, rfl⟩ := ry
  obtain ⟨its, r, hp, _⟩ := I.tuple hT
  obtain ⟨⟨cls, dd, data, sl⟩, ho, hc, n, hd⟩ := hp
  dsimp only at hc hd
  subst hc hd
  cases r
  have e1 : (decide (k < -(2 ^ 63)) || decide (k ≥ 2 ^ 63)) = false := by simp; omega
  refine wpAny_binaryOp_repeat_ref (T := "tuple") (U := "int") (by decide) ⟨_, ho, rfl⟩ (fun s' => typeIs_int s' k t) noFill_tuple_mul F.fills_int_mul F.slot_int_rmul repeat_tuple F.slot_int_index.lookup ?_
  refine call_meets F.slot_int_rmul (typeIs_int s k t) F.entry_int_rmul (F.args_int_rmul_2 _ _) (int_rmul_tuple k t l _ n dd sl) ⟨ho, rfl, ⟨_, ho, rfl⟩, ?_⟩
  refine call_meets F.slot_tuple_mul ⟨_, ho, rfl⟩ F.entry_tuple_mul (F.args_tuple_mul_2 _ _) (tuple_mul0 l n dd sl k t e1) ⟨ho, ?_⟩
  exact ⟨.ref l, H, I, rfl, q⟩
end
end EV
end
section
set_option Elab.async false
set_option linter.all false
set_option maxRecDepth 100000
/-! Ev3: and, or, not, tests, conditional expressions, argument lists, displays, slices, chains. -/
namespace EV
open PySem PySem.Spec PyProof.Rows L2
section
variable {X : Cx} {F : Fx} {Ex : XK}

/-! ### and, or, not as values -/
def mOr (ma mb : Env → GH → Res PV) : Env → GH → Res PV := fun ρ G => (ma ρ G).bind fun x G1 => (truth x G1).bind fun k G2 => if k = true then .ok x G2 else mb ρ G2
theorem truth_ok {p : PV} {G G' : GH} {k : Bool} (h : truth p G = .ok k G') : G' = G := by
  unfold truth at h
  split at h
  all_goals first | (cases h; rfl) | (split at h <;> first | (cases h; rfl) | cases h)
theorem truth_noexc {p : PV} {G G' : GH} {c : Nat} {fs : List (Str × PV)} (h : truth p G = .exc c fs G') : False := by
  unfold truth at h
  split at h
  all_goals first | cases h | (split at h <;> cases h)
theorem truth_go {γ δ : Type} {R2 : RelA γ δ} {K : PySem.W.Frag} (hK : F.K = K) {μ : Mu} {H : Hp} {p : PV} {v : V} {G : GH} {f : Bool → GH → Res γ} {Q : δ → Hp → Prop} (r : Rep F μ H p v) (g : HRep F μ H G)
    (h : Post F R2 Ex μ H ((truth p G).bind f) Q) : ∃ k, TruV K v H k ∧ Post F R2 Ex μ H (f k G) Q := by
  have q := (Post.bind (R := RB) h)
  cases e : truth p G with
  | ok k G' =>
    have eG := truth_ok e
    subst eG
    rw [e] at h
    have hk : ∃ k', TruV K v H k' ∧ k' = k := by
      refine truth_use (Ex := Ex) (Q := fun k' _ => k' = k) hK r g ?_
      rw [e]
      exact fun μ' b H' _ rr _ => (show k = b from rr).symm
    obtain ⟨k', h1, rfl⟩ := hk
    exact ⟨k', h1, h⟩
  | exc c fs G' => exact (truth_noexc e).elim
  | bad => rw [e] at h; exact (show False from h).elim
def mNot (m : Env → GH → Res PV) : Env → GH → Res PV := fun ρ G => (m ρ G).bind fun x G1 => (truth x G1).bind fun k G2 => .ok (.bl (!k)) G2
theorem ev_not {a : Expr} {pos : Pos} {ma : Env → GH → Res PV} (hK : F.K = X.K) (ha : PE X a (TEv F Ex ma)) : PE X (.UnaryOp .Not a pos) (TEv F Ex (mNot ma)) :=
  (pe_notT ha).weak fun σ H Q ⟨μ, ρ, G, s, g, p⟩ => TEv.run s g p fun μ1 a G1 v H1 e1 r1 g1 s1 p1 => by
    obtain ⟨k, t, p2⟩ := truth_go hK r1 g1 p1
    exact ⟨k, t, p2.here (show Rep F μ1 H1 _ _ by simp only [Rep]) g1⟩

/-! ### tests -/
theorem ev_truth {a : Expr} {ma : Env → GH → Res PV} (hK : F.K = X.K) (ha : PE X a (TEv F Ex ma)) (he : ∀ whole, isTrue a X.env whole = (do let v ← whole; standAt a.pos; holding [v] (truthy v))) : PT X a (TTv F Ex (mT ma)) :=
  (pt_truth ha he).weak fun σ H Q ⟨μ, ρ, G, s, g, p⟩ => TEv.run s g p fun μ1 a G1 v H1 e1 r1 g1 s1 p1 => truth_use hK r1 g1 p1
def mtNot (m : Env → GH → Res Bool) : Env → GH → Res Bool := fun ρ G => (m ρ G).bind fun k G1 => .ok (!k) G1
theorem ev_tnot {a : Expr} {pos : Pos} {m : Env → GH → Res Bool} (ha : PT X a (TTv F Ex m)) : PT X (.UnaryOp .Not a pos) (TTv F Ex (mtNot m)) :=
  (pt_not ha).weak fun σ H Q ⟨μ, ρ, G, s, g, p⟩ => TTv.run s g p fun μ1 b G1 H1 e1 g1 s1 p1 => p1.here rfl g1
def mtAnd (ma mb : Env → GH → Res Bool) : Env → GH → Res Bool := fun ρ G => (ma ρ G).bind fun k G1 => if k = true then mb ρ G1 else .ok false G1
def mtOr (ma mb : Env → GH → Res Bool) : Env → GH → Res Bool := fun ρ G => (ma ρ G).bind fun k G1 => if k = true then .ok true G1 else mb ρ G1
theorem ev_tand1 {a : Expr} {pos : Pos} {t : TT} (h : PT X a t) : PW X (.BoolOp .And [a] pos) t := pw_and1 h
theorem ev_tor1 {a : Expr} {pos : Pos} {t : TT} (h : PT X a t) : PW X (.BoolOp .Or [a] pos) t := pw_or1 h
theorem ev_tand {a b : Expr} {rest : List Expr} {pos : Pos} {ma mb : Env → GH → Res Bool} (ha : PT X a (TTv F Ex ma)) (hb : PW X (.BoolOp .And (b :: rest) pos) (TTv F Ex mb)) :
    PW X (.BoolOp .And (a :: b :: rest) pos) (TTv F Ex (mtAnd ma mb)) := (pw_and ha hb).weak fun σ H Q ⟨μ, ρ, G, s, g, p⟩ => TTv.run s g p fun μ1 b G1 H1 e1 g1 s1 p1 => by
  cases b with
  | true => exact ⟨μ1, ρ, G1, s1, g1, p1⟩
  | false => exact p1.here rfl g1
theorem ev_tor {a b : Expr} {rest : List Expr} {pos : Pos} {ma mb : Env → GH → Res Bool} (ha : PT X a (TTv F Ex ma)) (hb : PW X (.BoolOp .Or (b :: rest) pos) (TTv F Ex mb)) :
    PW X (.BoolOp .Or (a :: b :: rest) pos) (TTv F Ex (mtOr ma mb)) := (pw_or ha hb).weak fun σ H Q ⟨μ, ρ, G, s, g, p⟩ => TTv.run s g p fun μ1 b G1 H1 e1 g1 s1 p1 => by
  cases b with
  | true => exact p1.here rfl g1
  | false => exact ⟨μ1, ρ, G1, s1, g1, p1⟩
def mIf (mc : Env → GH → Res Bool) (ma mb : Env → GH → Res PV) : Env → GH → Res PV := fun ρ G => (mc ρ G).bind fun k G1 => if k = true then ma ρ G1 else mb ρ G1
theorem ev_if {c a b : Expr} {pos : Pos} {mc : Env → GH → Res Bool} {ma mb : Env → GH → Res PV} (hc : PT X c (TTv F Ex mc)) (ha : PE X a (TEv F Ex ma)) (hb : PE X b (TEv F Ex mb)) :
    PE X (.IfExp c a b pos) (TEv F Ex (mIf mc ma mb)) := (pe_ifExp hc ha hb).weak fun σ H Q ⟨μ, ρ, G, s, g, p⟩ => TTv.run s g p fun μ1 b G1 H1 e1 g1 s1 p1 => by
  cases b with
  | true => exact ⟨μ1, ρ, G1, s1, g1, p1⟩
  | false => exact ⟨μ1, ρ, G1, s1, g1, p1⟩

/-! ### a chain of two comparisons -/
theorem asB_go {γ δ : Type} {R2 : RelA γ δ} {μ : Mu} {H : Hp} {p : PV} {v : V} {G : GH} {f : Bool → GH → Res γ} {Q : δ → Hp → Prop} (r : Rep F μ H p v) (h : Post F R2 Ex μ H ((asB p G).bind f) Q) :
    ∃ k, v = .bl k ∧ Post F R2 Ex μ H (f k G) Q := by
  cases p with
  | bl b => exact ⟨b, by simpa only [Rep] using r, h⟩
  | _ => exact (show False from h).elim
theorem chain_read {ma mb mc : Env → GH → Res PV} {f f' : List PV → GH → Res PV} {σ : L2.St} {H : Hp} {Q : VK} (h : TEv F Ex (m3c ma mb mc f f') σ H Q) :
    tChain (OpV F Ex f) (OpV F Ex f') (TEv F Ex ma) (TEv F Ex mb) (TEv F Ex mc) σ H Q := by
  obtain ⟨μ, ρ, G, s, g, p⟩ := h
  refine TEv.run s g p fun μ1 a G1 v H1 e1 r1 g1 s1 p1 => ?_
  refine TEv.run s1 g1 p1 fun μ2 b G2 w H2 e2 r2 g2 s2 p2 => ?_
  refine ⟨μ2, [a, b], G2, .cons (r1.mono e2) (.one r2), g2, (Post.bind (R := RV F) p2).mono fun z H3 ⟨μ3, z', G3, _, e3, r3, g3, p3⟩ => ?_⟩
  obtain ⟨k, e, p4⟩ := asB_go r3 p3
  refine ⟨k, e, ?_⟩
  cases k with
  | true =>
    refine TEv.run (s2.mono e3) g3 p4 fun μ4 c G4 u H4 e4 r4 g4 s4 p5 => ?_
    exact ⟨μ4, [b, c], G4, .cons ((r2.mono e3).mono e4) (.one r4), g4, p5⟩
  | false => exact p4.here (show Rep F μ3 H3 _ _ by simp only [Rep]) g3
theorem ev_chainT {op op' : CmpOp} {a b c : Expr} {pos : Pos} {ma mb mc : Env → GH → Res PV} {f f' : List PV → GH → Res PV} (ho : OpR X (compareOp op) (OpV F Ex f)) (ho' : OpR X (compareOp op') (OpV F Ex f'))
    (ha : PE X a (TEv F Ex ma)) (hb : PE X b (TEv F Ex mb)) (hc : PE X c (TEv F Ex mc)) (hm : lastMarks [op, op'] [b, c] = false) : PT X (.Compare a [op, op'] [b, c] pos) (TTv F Ex (mB (m3c ma mb mc f f'))) :=
  (pt_chain ho ho' ha hb hc hm).weak fun σ H Q ⟨μ, ρ, G, s, g, p⟩ => chain_read ⟨μ, ρ, G, s, g, (Post.bind (R := RV F) p).mono fun v H1 ⟨μ1, a, G1, _, e, r, g1, q⟩ => asB_use r g1 q⟩

/-! ### argument lists, displays -/
def mNil : Env → GH → Res (List PV) := fun _ G => .ok [] G
def mCons (m : Env → GH → Res PV) (ms : Env → GH → Res (List PV)) : Env → GH → Res (List PV) := fun ρ G => (m ρ G).bind fun x G1 => (ms ρ G1).bind fun xs G2 => .ok (x :: xs) G2
theorem ev_nil : PA X [] (TAv F Ex mNil) := pa_nil.weak fun σ H Q ⟨μ, ρ, G, s, g, p⟩ => p.here (show Reps F μ H [] [] from .nil) g
def plainE : Expr → Bool
  | .Starred _ _ => false
  | _ => true
theorem star_plain {e : Expr} {es : List Expr} {env : PySem.Env} (h : plainE e = true) : starEach (e :: es) env = (false, eval e env) :: starEach es env := by
  cases e <;> first | rfl | cases h
theorem ev_cons {e : Expr} {es : List Expr} {m : Env → GH → Res PV} {ms : Env → GH → Res (List PV)} (hp : plainE e = true) (he : PE X e (TEv F Ex m)) (hs : PA X es (TAv F Ex ms)) : PA X (e :: es) (TAv F Ex (mCons m ms)) :=
  (pa_cons he hs (star_plain hp)).weak fun σ H Q ⟨μ, ρ, G, s, g, p⟩ => by
    refine TEv.run s g p fun μ1 a G1 v H1 e1 r1 g1 s1 p1 => ?_
    refine TAv.run s1 g1 p1 fun μ2 b G2 w H2 e2 r2 g2 s2 p2 => ?_
    exact p2.here (show Reps F μ2 H2 _ _ from .cons (r1.mono e2) r2) g2
def mkTup (ps : List PV) (G : GH) : Res PV := if ps.length ≤ sizeLine then .ok (.tup ps) G else .bad
def mkLst (ps : List PV) (G : GH) : Res PV := if ps.length ≤ sizeLine then .ok (.lst ps) G else .bad
def mkObj (ps : List PV) (G : GH) : Res PV := if ps.length ≤ sizeLine then .ok (.obj G.length) (G ++ [.lst ps]) else .bad
def mA (ms : Env → GH → Res (List PV)) (f : List PV → GH → Res PV) : Env → GH → Res PV := fun ρ G => (ms ρ G).bind f
/-- a new tuple, a new list (a value, or an object of ours) at p -/
theorem new_tup {μ : Mu} {H : Hp} {ps : List PV} {vs : List V} {G : GH} {Q : VK} (r : Reps F μ H ps vs) (g : HRep F μ H G) (h : Post F (RV F) Ex μ H (mkTup ps G) Q) :
    vs.length ≤ sizeLine ∧ NewT H vs Q := by
  unfold mkTup at h
  by_cases z : ps.length ≤ sizeLine
  · rw [if_pos z] at h
    have z' : vs.length ≤ sizeLine := by rw [← r.length]; exact z
    refine ⟨z', fun p o n d => h.ok (Ext.upd_new g n) ?_ (g.upd_new n)⟩
    show Rep F μ _ _ _
    simp only [Rep]
    exact ⟨p, vs, rfl, z', .inl ⟨g.fresh n, o, upd_same, d⟩, r.mono (Ext.upd_new g n)⟩
  · rw [if_neg z] at h; exact (show False from h).elim
theorem new_lst {μ : Mu} {H : Hp} {ps : List PV} {vs : List V} {G : GH} {Q : VK} (r : Reps F μ H ps vs) (g : HRep F μ H G) (h : Post F (RV F) Ex μ H (mkLst ps G) Q) :
    vs.length ≤ sizeLine ∧ ∀ p, H p = none → Q (.ref p) (upd H p (.lst vs)) := by
  unfold mkLst at h
  by_cases z : ps.length ≤ sizeLine
  · rw [if_pos z] at h
    have z' : vs.length ≤ sizeLine := by rw [← r.length]; exact z
    refine ⟨z', fun p n => h.ok (Ext.upd_new g n) ?_ (g.upd_new n)⟩
    show Rep F μ _ _ _
    simp only [Rep]
    exact ⟨p, vs, rfl, z', ⟨g.fresh n, upd_same⟩, r.mono (Ext.upd_new g n)⟩
  · rw [if_neg z] at h; exact (show False from h).elim
theorem new_obj {μ : Mu} {H : Hp} {ps : List PV} {vs : List V} {G : GH} {Q : VK} (r : Reps F μ H ps vs) (g : HRep F μ H G) (h : Post F (RV F) Ex μ H (mkObj ps G) Q) :
    vs.length ≤ sizeLine ∧ ∀ p, H p = none → Q (.ref p) (upd H p (.lst vs)) := by
  unfold mkObj at h
  by_cases z : ps.length ≤ sizeLine
  · rw [if_pos z] at h
    have z' : vs.length ≤ sizeLine := by rw [← r.length]; exact z
    refine ⟨z', fun p n => h.ok (Ext.push g n) ?_ (g.push n ⟨vs, upd_same, z', r.mono (Ext.push g n)⟩)⟩
    show Rep F _ _ _ _
    simp only [Rep]
    exact ⟨p, rfl, by rw [← g.len]; simp⟩
  · rw [if_neg z] at h; exact (show False from h).elim
theorem ev_tup {es : List Expr} {k : Nat} {pos : Pos} {ms : Env → GH → Res (List PV)} (h : PA X es (TAv F Ex ms)) : PE X (.Tuple es k pos) (TEv F Ex (mA ms mkTup)) :=
  (pe_tupF h).weak fun σ H Q ⟨μ, ρ, G, s, g, p⟩ => TAv.run s g p fun μ1 a G1 v H1 e1 r1 g1 s1 p1 => new_tup r1 g1 p1
theorem ev_lst {es : List Expr} {pos : Pos} {ms : Env → GH → Res (List PV)} (h : PA X es (TAv F Ex ms)) : PE X (.List es pos) (TEv F Ex (mA ms mkLst)) :=
  (pe_lst h).weak fun σ H Q ⟨μ, ρ, G, s, g, p⟩ => TAv.run s g p fun μ1 a G1 v H1 e1 r1 g1 s1 p1 => new_lst r1 g1 p1
theorem ev_lso {es : List Expr} {pos : Pos} {ms : Env → GH → Res (List PV)} (h : PA X es (TAv F Ex ms)) : PE X (.List es pos) (TEv F Ex (mA ms mkObj)) :=
  (pe_lst h).weak fun σ H Q ⟨μ, ρ, G, s, g, p⟩ => TAv.run s g p fun μ1 a G1 v H1 e1 r1 g1 s1 p1 => new_obj r1 g1 p1

/-! ### built-ins by name -/
theorem any_star {e : Expr} {es : List Expr} {env : PySem.Env} {pos : Pos} (h : es.all plainE = true) : (backTo pos (starEach es env)).any (·.1) = false := by
  induction es with
  | nil => rfl
  | cons a r ih =>
    simp only [List.all_cons, Bool.and_eq_true] at h
    rw [star_plain h.1]
    exact ih h.2
theorem ev_blt {id : String} {x : Str} {e : Expr} {es : List Expr} {p pos : Pos} {ms : Env → GH → Res (List PV)} {f : List PV → GH → Res PV} (hc : CallR X (.builtin id) (RdV F Ex f)) (hg : Gl X x) (hm : X.mg x = none) (hv : bootBuiltins x = some (.builtin id))
    (ha : PA X (e :: es) (TAv F Ex ms)) (hn : x ≠ "__name__") (hdb : (x == ("__debug__" : Str)) = false) (h1 : plainE e = true) (h2 : es.all plainE = true) : PE X (.Call (.Name x p) (e :: es) [] pos) (TEv F Ex (mA ms f)) :=
  (pe_callB hc hg hm hv ha hn hdb (star_plain h1) (any_star (e := e) h2)).weak fun σ H Q ⟨μ, ρ, G, s, g, p⟩ => TAv.run s g p fun μ1 a G1 v H1 e1 r1 g1 s1 p1 => ⟨μ1, a, G1, r1, g1, p1⟩
theorem ev_bty {T : String} {x : Str} {e : Expr} {es : List Expr} {p pos : Pos} {ms : Env → GH → Res (List PV)} {f : List PV → GH → Res PV} (hc : CallR X (.type T) (RdV F Ex f)) (hg : Gl X x) (hm : X.mg x = none) (hv : bootBuiltins x = some (.type T))
    (ha : PA X (e :: es) (TAv F Ex ms)) (hn : x ≠ "__name__") (hdb : (x == ("__debug__" : Str)) = false) (h1 : plainE e = true) (h2 : es.all plainE = true) : PE X (.Call (.Name x p) (e :: es) [] pos) (TEv F Ex (mA ms f)) :=
  (pe_callTy hc hg hm hv ha hn hdb (star_plain h1) (any_star (e := e) h2)).weak fun σ H Q ⟨μ, ρ, G, s, g, p⟩ => TAv.run s g p fun μ1 a G1 v H1 e1 r1 g1 s1 p1 => ⟨μ1, a, G1, r1, g1, p1⟩

/-! ### slices -/
def mPart (m : Env → GH → Res PV) : Env → GH → Res (Option Int) := fun ρ G => (m ρ G).bind fun x G1 => match x with
  | .int i => .ok (some i) G1
  | _ => .bad
def mNoPart : Env → GH → Res (Option Int) := fun _ G => .ok none G
def RO : RelA (Option Int) (Option Int) := fun _ _ a b => a = b
def TOv (F : Fx) (Ex : XK) (m : Env → GH → Res (Option Int)) : TO := fun σ H Q => ∃ μ ρ G, SRel F μ H ρ σ ∧ HRep F μ H G ∧ Post F RO Ex μ H (m ρ G) Q
theorem _root_.L2.PO.weak {e : Option Expr} {t t' : TO} (h : PO X e t) (w : ∀ σ H Q, t' σ H Q → t σ H Q) : PO X e t' := ⟨fun pins s σ H Q I q => h.run pins s σ H Q I (w σ H Q q)⟩
theorem ev_poN : PO X none (TOv F Ex mNoPart) := po_none.weak fun σ H Q ⟨μ, ρ, G, s, g, p⟩ => p.here rfl g
theorem ev_poS {e : Expr} {m : Env → GH → Res PV} (h : PE X e (TEv F Ex m)) : PO X (some e) (TOv F Ex (mPart m)) := (po_some h).weak fun σ H Q ⟨μ, ρ, G, s, g, p⟩ => TEv.run s g p fun μ1 a G1 v H1 e1 r1 g1 s1 p1 => by
  cases a with
  | int i => exact ⟨i, by simpa only [Rep] using r1, p1.here rfl g1⟩
  | _ => exact (show False from p1).elim
def mSl (m : Env → GH → Res PV) (l h : Env → GH → Res (Option Int)) (f : PV → Option Int → Option Int → GH → Res PV) : Env → GH → Res PV := fun ρ G => (m ρ G).bind fun x G1 => (l ρ G1).bind fun i G2 => (h ρ G2).bind fun j G3 => f x i j G3
theorem TOv.run {σ : L2.St} {H : Hp} {μ : Mu} {ρ : Env} {G : GH} {m : Env → GH → Res (Option Int)} {γ δ : Type} {R2 : RelA γ δ} {f : Option Int → GH → Res γ} {Q2 : δ → Hp → Prop} {Q : Option Int → Hp → Prop}
    (s : SRel F μ H ρ σ) (g : HRep F μ H G) (h : Post F R2 Ex μ H ((m ρ G).bind f) Q2)
    (k : ∀ μ1 b G1 H1, Ext μ μ1 H H1 → HRep F μ1 H1 G1 → SRel F μ1 H1 ρ σ → Post F R2 Ex μ1 H1 (f b G1) Q2 → Q b H1) : TOv F Ex m σ H Q :=
  ⟨μ, ρ, G, s, g, (Post.bind (R := RO) h).mono fun v H1 ⟨μ1, a, G1, _, e, r, g1, p⟩ => by
    cases (show a = v from r)
    exact k μ1 _ G1 H1 e g1 (s.mono e) p⟩
def RdS (F : Fx) (Ex : XK) (f : PV → Option Int → Option Int → GH → Res PV) : V → Option Int → Option Int → Hp → VK → Prop := fun v lo hi H Q => ∃ μ p G, Rep F μ H p v ∧ HRep F μ H G ∧ Post F (RV F) Ex μ H (f p lo hi G) Q
theorem ev_sl {e : Expr} {lo hi : Option Expr} {p2 pos : Pos} {m : Env → GH → Res PV} {l h : Env → GH → Res (Option Int)} {f : PV → Option Int → Option Int → GH → Res PV} (hr : SlR X (RdS F Ex f)) (he : PE X e (TEv F Ex m)) (hl : PO X lo (TOv F Ex l)) (hu : PO X hi (TOv F Ex h)) :
    PE X (.Subscript e (.Slice lo hi none p2) pos) (TEv F Ex (mSl m l h f)) := (pe_slice hr he hl hu).weak fun σ H Q ⟨μ, ρ, G, s, g, p⟩ => by
  refine TEv.run s g p fun μ1 a G1 v H1 e1 r1 g1 s1 p1 => ?_
  refine TOv.run s1 g1 p1 fun μ2 i G2 H2 e2 g2 s2 p2 => ?_
  refine TOv.run s2 g2 p2 fun μ3 j G3 H3 e3 g3 s3 p3 => ?_
  exact ⟨μ3, a, G3, (r1.mono e2).mono e3, g3, p3⟩
end
end EV
end
section
set_option Elab.async false
set_option linter.all false
set_option maxRecDepth 100000
/-! Ev4: defs and their calls; comprehensions; loops. -/
namespace EV
open PySem PySem.Spec PyProof.Rows L2

/-- a def keeps a promise wherever no repr is under way -/
structure FnG (P : Program) (w : World) (K : PySem.W.Frag) (mg : Str → Option Value) (base : Heap) (k : Nat) (f : Addr) (fd : FuncData) (ps : List Str) (sp : Sp) : Prop where
  len : ∀ vs H Q E, sp vs H Q E → vs.length = ps.length
  run : ∀ (A : Around) (outer : List PySem.Env) (s : Shared) (H : Hp) (args : Args) (us : List Value) (vs : List V) (Q : VK) (E : XK), Room k A → A.guards = some [] → Env0 P w K mg base A outer s H →
    BindsTo s fd args (ps.zip us) → Vals vs us → sp vs H Q E → codeAny (model P w) A (.call (.ref f) args) (CR (L2.CX P w) outer P w H s Q E) s
theorem FnG.mono {P : Program} {w : World} {K : PySem.W.Frag} {mg : Str → Option Value} {base : Heap} {j k : Nat} {f : Addr} {fd : FuncData} {ps : List Str} {sp : Sp} (F : FnG P w K mg base j f fd ps sp) (h : j ≤ k) : FnG P w K mg base k f fd ps sp :=
  ⟨F.len, fun A outer s H args us vs Q E hr => F.run A outer s H args us vs Q E (hr.mono h)⟩

/-- a def of the text, by its body -/
theorem fnG_of {P : Program} {w : World} {K : PySem.W.Frag} {mg : Str → Option Value} {base : Heap} {k : Nat} {f : Addr} {name qual : Str} {params : Arguments} {body : List Stmt} {scope : Scope} {dV kV doc pm cdv ct oc : Value} {an od : Option Addr}
    {osl : Array (Option Value)} {N ps : List Str} {sp : Sp} (lk : K.lookup f = some ⟨oc, od, .func (PySem.W.fnOf name qual params body scope dV kV doc pm an cdv ct), osl⟩) (hcd : PySem.W.codeIn K cdv qual = true) (S : FnScope N ps scope)
    (len : ∀ vs H Q E, sp vs H Q E → vs.length = ps.length)
    (hbody : ∀ (A : Around) (outer : List PySem.Env) (s : Shared) (H : Hp) (vs : List V) (Q : VK) (E : XK), Room k (A.deeper (envOfC qual scope s.heap.objs.size f cdv)) → A.guards = some [] → sp vs H Q E →
      ∃ t, PSs (cxOf (L2.CX P w) P w K mg base N qual scope f cdv A outer s H E) body t ∧ t { nx := fun _ H' => Q .non H', rt := Q } (start N vs) H) :
    FnG P w K mg base (k + 1) f (PySem.W.fnOf name qual params body scope dV kV doc pm an cdv ct) ps sp where
  len := len
  run := fun A outer s H args us vs Q E hr hgd e0 hb r hsp => by
    have hlen := len _ _ _ _ hsp
    have stays : ∀ b o, base.get? b = some o → s.heap.get? b = some o := fun b o e => (e0.bs b o e).1
    have KX : K.In s.heap := e0.mod.kin.keeps stays
    have lim : s.heap.NoLimit := e0.mod.nolimit.keeps stays
    have kinds : ∀ y ∈ ps.zip us, scope.names.lookup y.1 = some .local ∨ (scope.names.lookup y.1 = some .cell ∧ ((cellsFrom (s.heap.objs.size + 1) scope.names []).lookup y.1).isSome = true) := fun y hy =>
      (S.par y.1 (List.of_mem_zip hy).1).imp id fun q => ⟨q, PySem.W.cellsFrom_some _ _ _ (.inl q)⟩
    refine codeAny_call_function hr.depth (KX _ _ lk) rfl S.co S.gen rfl (PySem.W.codeRec_of KX hcd) (hb _ _ _ _ ?_)
    refine wpAny_newFunctionEnv_cells S.kind kinds fun env he s1 x => ?_
    subst he
    refine ⟨lim.keeps x.toInCall.keep, codeAny_func ?_⟩
    obtain ⟨t, ht, hq⟩ := hbody A outer s H vs Q E (hr.deeper _) hgd hsp
    have I := inv_start (CX := L2.CX P w) (E := E) (cd := cdv) S hr.hd e0 hlen r x
    refine wpAny_mono (ht.run [] s1 (start N vs) H _ I hq) (fun fl s' hs => ?_) fun e s' hs => hs
    cases fl with
    | ret u =>
      obtain ⟨v, σ', H', J, rv, q⟩ := hs
      exact ⟨v, H', J.os, J.bare, J.base, J.hok, rv, q⟩
    | next =>
      obtain ⟨σ', H', J, q⟩ := hs
      exact ⟨V.non, H', J.os, J.bare, J.base, J.hok, rfl, q⟩
    | brk => obtain ⟨_, _, _, q⟩ := hs; exact False.elim q
    | cont => obtain ⟨_, _, _, q⟩ := hs; exact False.elim q

section
variable {X : Cx} {F : Fx} {Ex : XK} {k : Nat} {f : Addr} {fd : FuncData} {ps : List Str} {sp : Sp} {ds : List Value} {dvs : List V} {x : Str} {p pos : Pos} {e : Expr} {es : List Expr} {t : TA}
theorem run_fnG {pins : List (Addr × Obj)} {σ : L2.St} {H : Hp} {s : Shared} {Q : VK} {us : List Value} {vs : List V} (Fn : FnG X.prog X.w X.K X.mg X.base k f fd ps sp) (hr : Room k X.A) (hgd : X.A.guards = some []) (hb : Binds X.K fd ps ds) (hd : Vals dvs ds)
    (hx : Passes (L2.CX X.prog X.w) X Ex) (I : Inv X pins σ H s) (r : Vals vs us) (h : sp (vs ++ dvs) H Q Ex) : wpAny (model X.prog X.w) X.A (call (.ref f) us) (EP X pins σ Q) X.xe s := by
  have r2 : Vals (vs ++ dvs) (us ++ ds) := r.append hd
  have hlen : (us ++ ds).length = ps.length := r2.length.symm.trans (Fn.len _ _ _ _ h)
  refine wpAny_call (codeAny_mono (Fn.run X.A X.stack s H ⟨us, []⟩ (us ++ ds) (vs ++ dvs) Q Ex hr hgd I.env0 (hb s us I.kIn hlen) r2 h) fun r s' hq => ?_)
  match r, hq with
  | .error e, hq => exact hx pins σ H s e s' I hq
  | .ok (.ret u), hq => exact I.after hq
  | .ok .next, hq => exact False.elim hq
  | .ok .brk, hq => exact False.elim hq
  | .ok .cont, hq => exact False.elim hq
theorem pe_callG (Fn : FnG X.prog X.w X.K X.mg X.base k f fd ps sp) (hr : Room k X.A) (hgd : X.A.guards = some []) (hg : Gl X x) (hm : X.mg x = some (.ref f)) (hk : PySem.W.keepIn X.K (.ref f) = true) (hb : Binds X.K fd ps ds) (hd : Vals dvs ds)
    (hx : Passes (L2.CX X.prog X.w) X Ex) (ha : PA X (e :: es) t) (hdb : (x == ("__debug__" : Str)) = false) (h1 : plainE e = true) (h2 : es.all plainE = true) : PE X (.Call (.Name x p) (e :: es) [] pos) (tCall sp dvs Ex t) :=
  ⟨fun pins s σ H Q I h => wpAny_Call_Name_kw (ld_glob I hg hm (PySem.W.callWith_K (h₀ := X.base) I.ok.mod.kin hk
    (thn (ha.run pos pins s σ H _ I h) fun us s1 ⟨vs, H1, I1, r, q⟩ => ⟨I1.kIn, run_fnG Fn hr hgd hb hd hx I1 r q⟩) (star_plain h1) (any_star (e := e) h2)) hdb)⟩
/-- an own def's promise, by the evaluator -/
def SpV (F : Fx) (n : Nat) (m : List PV → GH → Res PV) : Sp := fun vs H Q E => vs.length = n ∧ RdV F E m vs H Q
theorem ev_call {n : Nat} {m : List PV → GH → Res PV} {ms : Env → GH → Res (List PV)} (Fn : FnG X.prog X.w X.K X.mg X.base k f fd ps (SpV F n m)) (hr : Room k X.A) (hgd : X.A.guards = some []) (hg : Gl X x) (hm : X.mg x = some (.ref f)) (hk : PySem.W.keepIn X.K (.ref f) = true)
    (hb : Binds X.K fd ps []) (hx : Passes (L2.CX X.prog X.w) X Ex) (ha : PA X (e :: es) (TAv F Ex ms)) (hdb : (x == ("__debug__" : Str)) = false) (h1 : plainE e = true) (h2 : es.all plainE = true)
    (hn : ∀ qs G, qs.length ≠ n → m qs G = .bad) : PE X (.Call (.Name x p) (e :: es) [] pos) (TEv F Ex (mA ms m)) :=
  (pe_callG Fn hr hgd hg hm hk hb .nil hx ha hdb h1 h2).weak fun σ H Q ⟨μ, ρ, G, s, g, q⟩ => TAv.run s g q fun μ1 a G1 v H1 e1 r1 g1 s1 p1 => by
    refine ⟨?_, μ1, a, G1, by rw [List.append_nil]; exact r1, g1, p1⟩
    rw [List.append_nil]
    by_cases z : a.length = n
    · rw [← r1.length]; exact z
    · rw [hn a G1 z] at p1; exact (show False from p1).elim
end
end EV
end
section
set_option Elab.async false
set_option linter.all false
set_option maxRecDepth 100000
/-! Ev5: targets, what is walked, comprehensions, statements. -/
namespace EV
open PySem PySem.Spec PyProof.Rows L2

/-! ### data that is the same -/
mutual
def PV.same : PV → PV → Bool
  | .non, .non => true
  | .bl a, .bl b => a == b
  | .int a, .int b => a == b
  | .str a, .str b => decide (a = b)
  | .tup a, .tup b => PV.sames a b
  | .lst a, .lst b => PV.sames a b
  | .sls a, .sls b => PV.sames a b
  | .obj a, .obj b => a == b
  | _, _ => false
def PV.sames : List PV → List PV → Bool
  | [], [] => true
  | a :: as, b :: bs => PV.same a b && PV.sames as bs
  | _, _ => false
end
mutual
theorem PV.same_eq : ∀ {a b : PV}, PV.same a b = true → a = b
  | .non, b, h => by cases b <;> simp [PV.same] at h; rfl
  | .bl x, b, h => by cases b <;> simp [PV.same] at h; rw [h]
  | .int x, b, h => by cases b <;> simp [PV.same] at h; rw [h]
  | .str x, b, h => by cases b <;> simp [PV.same] at h; rw [h]
  | .tup x, b, h => by
    cases b <;> simp [PV.same] at h
    rw [PV.sames_eq h]
  | .lst x, b, h => by
    cases b <;> simp [PV.same] at h
    rw [PV.sames_eq h]
  | .sls x, b, h => by
    cases b <;> simp [PV.same] at h
    rw [PV.sames_eq h]
  | .obj x, b, h => by cases b <;> simp [PV.same] at h; rw [h]
theorem PV.sames_eq : ∀ {a b : List PV}, PV.sames a b = true → a = b
  | [], b, h => by cases b <;> simp [PV.sames] at h; rfl
  | a :: as, [], h => by simp [PV.sames] at h
  | a :: as, b :: bs, h => by
    simp only [PV.sames, Bool.and_eq_true] at h
    rw [PV.same_eq h.1, PV.sames_eq h.2]
end
mutual
theorem PV.same_self : ∀ a : PV, PV.same a a = true
  | .non => by simp [PV.same]
  | .bl x => by simp [PV.same]
  | .int x => by simp [PV.same]
  | .str x => by simp [PV.same]
  | .tup x => by simp only [PV.same]; exact PV.sames_self x
  | .lst x => by simp only [PV.same]; exact PV.sames_self x
  | .sls x => by simp only [PV.same]; exact PV.sames_self x
  | .obj x => by simp [PV.same]
theorem PV.sames_self : ∀ a : List PV, PV.sames a a = true
  | [] => by simp [PV.sames]
  | a :: as => by simp only [PV.sames, Bool.and_eq_true]; exact ⟨PV.same_self a, PV.sames_self as⟩
end

/-! ### what is walked -/
/-- the items, and what has to stay so that they do -/
structure Src where
  its : List PV
  gd : GH → Bool
def JOk (F : Fx) (J : It) (μ0 : Mu) (H0 : Hp) (S : Src) : Prop :=
  ∀ μ H G, Chg F μ0 μ H0 H → HRep F μ H G → S.gd G = true →
    (∀ (i : Nat) (p : PV), S.its[i]? = some p → J.go i H ∧ ∀ x H', J.yld i H x H' → (∀ a o, H a = some o → H' a = some o) ∧ Rep F μ H' p x) ∧ J.stop S.its.length H
def RI (F : Fx) : RelA Src It := fun μ H S J => S.its.length ≤ sizeLine ∧ JOk F J μ H S
def TIv (F : Fx) (Ex : XK) (m : Env → GH → Res Src) : TI := fun σ H R => ∃ μ ρ G, SRel F μ H ρ σ ∧ HRep F μ H G ∧ Post F (RI F) Ex μ H (m ρ G) R
theorem _root_.L2.PI.weak {X : Cx} {tg e : Expr} {t t' : TI} (h : PI X tg e t) (w : ∀ σ H Q, t' σ H Q → t σ H Q) : PI X tg e t' := ⟨fun pins s σ H Q I q => h.run pins s σ H Q I (w σ H Q q)⟩
theorem _root_.L2.PI.or {X : Cx} {tg e : Expr} {t t' : TI} (h : PI X tg e t) (h' : PI X tg e t') : PI X tg e (fun σ H R => t σ H R ∨ t' σ H R) := ⟨fun pins s σ H Q I q => q.elim (h.run pins s σ H Q I) (h'.run pins s σ H Q I)⟩
def isLstAt (n : Nat) (ps : List PV) (G : GH) : Bool := match G[n]? with
  | some (.lst qs) => PV.sames qs ps
  | _ => false
theorem isLstAt_eq {n : Nat} {ps : List PV} {G : GH} (h : isLstAt n ps G = true) : G[n]? = some (.lst ps) := by
  unfold isLstAt at h
  split at h
  · rename_i qs e; rw [e, PV.sames_eq h]
  · cases h
def signs (x : Str) : List PV := x.cps.toList.map fun c => .str ⟨#[c]⟩
def seqSrc (p : PV) (G : GH) : Res Src := match p with
  | .tup ps => .ok ⟨ps, fun _ => true⟩ G
  | .lst ps => .ok ⟨ps, fun _ => true⟩ G
  | .sls ps => .ok ⟨ps, fun _ => true⟩ G
  | .str x => if x.length ≤ sizeLine then .ok ⟨signs x, fun _ => true⟩ G else .bad
  | .obj n => match G[n]? with
    | some (.lst ps) => .ok ⟨ps, isLstAt n ps⟩ G
    | _ => .bad
  | _ => .bad
def mSeq (m : Env → GH → Res PV) : Env → GH → Res Src := fun ρ G => (m ρ G).bind seqSrc
section
variable {X : Cx} {F : Fx} {Ex : XK}
theorem JOk.tup {K : PySem.W.Frag} (hK : F.K = K) {μ : Mu} {H : Hp} {a : Addr} {vs : List V} {ps : List PV} (st : StT F μ H a vs) (r : Reps F μ H ps vs) : JOk F (Itt K a) μ H ⟨ps, fun _ => true⟩ := by
  subst hK
  intro μ1 H1 G1 e g _
  have sq : SqT F.K H1 a vs := (e.t _ _ st).sq
  refine ⟨fun i p hp => ?_, vs, sq, by rw [← r.length]; exact Nat.le_refl _⟩
  obtain ⟨v, h1, h2⟩ := r.get hp
  refine ⟨⟨vs, v, sq, h1⟩, fun x H' hy => ?_⟩
  obtain ⟨rfl, hy⟩ := hy
  refine ⟨fun _ _ h => h, ?_⟩
  have := hy vs sq
  rw [h1] at this; cases this
  exact h2.chg e
theorem JOk.lst {K : PySem.W.Frag} (hK : F.K = K) {μ : Mu} {H : Hp} {a : Addr} {vs : List V} {ps : List PV} (st : StL F μ H a vs) (r : Reps F μ H ps vs) : JOk F (Itl K a) μ H ⟨ps, fun _ => true⟩ := by
  subst hK
  intro μ1 H1 G1 e g _
  have sq : SqL F.K H1 a vs := (e.l _ _ st).sq
  refine ⟨fun i p hp => ?_, vs, sq, by rw [← r.length]; exact Nat.le_refl _⟩
  obtain ⟨v, h1, h2⟩ := r.get hp
  refine ⟨⟨vs, v, sq, h1⟩, fun x H' hy => ?_⟩
  obtain ⟨rfl, hy⟩ := hy
  refine ⟨fun _ _ h => h, ?_⟩
  have := hy vs sq
  rw [h1] at this; cases this
  exact h2.chg e
theorem JOk.obj {K : PySem.W.Frag} (hK : F.K = K) {μ : Mu} {H : Hp} {n : Nat} {a : Addr} {ps : List PV} (ha : μ.ob[n]? = some a) : JOk F (Itl K a) μ H ⟨ps, isLstAt n ps⟩ := by
  subst hK
  intro μ1 H1 G1 e g hgd
  obtain ⟨vs, q, z, r⟩ := g.obj n a _ (e.ob _ _ ha) (isLstAt_eq hgd)
  have sq : SqL F.K H1 a vs := SqL.of q
  refine ⟨fun i p hp => ?_, vs, sq, by rw [← r.length]; exact Nat.le_refl _⟩
  obtain ⟨v, h1, h2⟩ := r.get hp
  refine ⟨⟨vs, v, sq, h1⟩, fun x H' hy => ?_⟩
  obtain ⟨rfl, hy⟩ := hy
  refine ⟨fun _ _ h => h, ?_⟩
  have := hy vs sq
  rw [h1] at this; cases this
  exact h2
theorem JOk.str {μ : Mu} {H : Hp} {x : Str} : JOk F (Its x) μ H ⟨signs x, fun _ => true⟩ := by
  intro μ1 H1 G1 e g _
  refine ⟨fun i p hp => ?_, by show x.cps.size ≤ (signs x).length; unfold signs; simp⟩
  unfold signs at hp
  rw [List.getElem?_map] at hp
  cases hc : x.cps.toList[i]? with
  | none => rw [hc] at hp; cases hp
  | some c =>
    rw [hc] at hp
    have ep : p = .str ⟨#[c]⟩ := (Option.some.inj hp).symm
    subst ep
    have hc' : x.cps[i]? = some c := by simpa using hc
    refine ⟨(Array.getElem?_eq_some_iff.mp hc').1, fun v H' hy => ?_⟩
    obtain ⟨rfl, d, hd, rfl⟩ := hy
    rw [hc'] at hd; cases hd
    exact ⟨fun _ _ h => h, by simp only [Rep]⟩
theorem ev_seq {tg e : Expr} {m : Env → GH → Res PV} (hK : F.K = X.K) (h : PE X e (TEv F Ex m)) : PI X tg e (TIv F Ex (mSeq m)) := by
  refine ((pi_tup h).or ((pi_list h).or (pi_str h))).weak fun σ H R ⟨μ, ρ, G, s, g, p⟩ => ?_
  cases em : m ρ G with
  | bad => unfold mSeq at p; rw [em] at p; exact (show False from p).elim
  | exc c fs G' =>
    refine .inl (TEv.runE s g p fun μ1 a G1 v H1 em' _ _ _ _ _ => ?_)
    rw [em] at em'; cases em'
  | ok q G' =>
    cases q with
    | tup ps =>
      refine .inl (TEv.runE s g p fun μ1 a G1 v H1 em' e1 r1 g1 s1 p1 => ?_)
      rw [em] at em'; cases em'
      obtain ⟨b, vs, rfl, z, st, rr⟩ := (show ∃ a vs, v = .ref a ∧ _ from by simpa only [Rep] using r1)
      exact ⟨b, rfl, ⟨vs, by rw [← hK]; exact st.sq⟩, p1.here ⟨by rw [rr.length]; exact z, JOk.tup hK st rr⟩ g1⟩
    | lst ps =>
      refine .inr (.inl (TEv.runE s g p fun μ1 a G1 v H1 em' e1 r1 g1 s1 p1 => ?_))
      rw [em] at em'; cases em'
      obtain ⟨b, vs, rfl, z, st, rr⟩ := (show ∃ a vs, v = .ref a ∧ _ from by simpa only [Rep] using r1)
      exact ⟨b, rfl, ⟨vs, SqL.of st.2⟩, p1.here ⟨by rw [rr.length]; exact z, JOk.lst hK st.st rr⟩ g1⟩
    | sls ps =>
      refine .inr (.inl (TEv.runE s g p fun μ1 a G1 v H1 em' e1 r1 g1 s1 p1 => ?_))
      rw [em] at em'; cases em'
      obtain ⟨b, vs, rfl, z, st, rr⟩ := (show ∃ a vs, v = .ref a ∧ _ from by simpa only [Rep] using r1)
      exact ⟨b, rfl, ⟨vs, by rw [← hK]; exact st.sq⟩, p1.here ⟨by rw [rr.length]; exact z, JOk.lst hK st rr⟩ g1⟩
    | str x =>
      refine .inr (.inr (TEv.runE s g p fun μ1 a G1 v H1 em' e1 r1 g1 s1 p1 => ?_))
      rw [em] at em'; cases em'
      have ev : v = .str x := by simpa only [Rep, RV] using r1
      unfold seqSrc at p1
      by_cases hx : x.length ≤ sizeLine
      · simp only [hx, if_true] at p1
        exact ⟨x, ev, p1.here ⟨by unfold signs; rw [List.length_map]; simpa using (show x.cps.size ≤ sizeLine from hx), JOk.str⟩ g1⟩
      · simp only [hx, if_false] at p1; exact (show False from p1).elim
    | obj n =>
      refine .inr (.inl (TEv.runE s g p fun μ1 a G1 v H1 em' e1 r1 g1 s1 p1 => ?_))
      rw [em] at em'; cases em'
      obtain ⟨b, rfl, hb⟩ := (show ∃ a, v = .ref a ∧ μ1.ob[n]? = some a from by simpa only [Rep] using r1)
      unfold seqSrc at p1
      cases eo : G'[n]? with
      | none => simp only [eo] at p1; exact (show False from p1).elim
      | some o =>
        cases o with
        | lst ps =>
          simp only [eo] at p1
          obtain ⟨vs, q, z, rr⟩ := g1.obj n b _ hb eo
          exact ⟨b, rfl, ⟨vs, SqL.of q⟩, p1.here ⟨by rw [rr.length]; exact z, JOk.obj hK hb⟩ g1⟩
        | _ => simp only [eo] at p1; exact (show False from p1).elim
    | _ => unfold mSeq at p; rw [em] at p; exact (show False from p).elim
/-! ### range -/
def rgIts (lo : Int) (n : Nat) : List PV := (List.range n).map fun (i : Nat) => .int (lo + (i : Int))
theorem JOk.rng {μ : Mu} {H : Hp} {lo : Int} {n : Nat} : JOk F (Itr lo n) μ H ⟨rgIts lo n, fun _ => true⟩ := by
  intro μ1 H1 G1 e g _
  refine ⟨fun i p hp => ?_, by show n ≤ (rgIts lo n).length; simp [rgIts]⟩
  have hi : i < n := by
    have := (List.getElem?_eq_some_iff.mp hp).1
    simpa [rgIts] using this
  have ep : p = .int (lo + (i : Int)) := by
    unfold rgIts at hp
    rw [List.getElem?_map, List.getElem?_range hi] at hp
    exact (Option.some.inj hp).symm
  subst ep
  refine ⟨hi, fun v H' hy => ?_⟩
  obtain ⟨rfl, rfl⟩ := hy
  exact ⟨fun _ _ h => h, by simp only [Rep]⟩
def rgSrc (ps : List PV) (G : GH) : Res Src := match ps with
  | [.int j] => if -(2 ^ 62) ≤ j ∧ j < 2 ^ 62 ∧ j.toNat ≤ sizeLine then .ok ⟨rgIts 0 j.toNat, fun _ => true⟩ G else .bad
  | [.int i, .int j] => if (-(2 ^ 62) ≤ i ∧ i < 2 ^ 62 ∧ -(2 ^ 62) ≤ j ∧ j < 2 ^ 62) ∧ (j - i).toNat ≤ sizeLine then .ok ⟨rgIts i (j - i).toNat, fun _ => true⟩ G else .bad
  | _ => .bad
def mRng (ms : Env → GH → Res (List PV)) : Env → GH → Res Src := fun ρ G => (ms ρ G).bind rgSrc
theorem int_rep {μ : Mu} {H : Hp} {i : Int} {v : V} (r : Rep F μ H (.int i) v) : v = .int i := by simpa only [Rep] using r
theorem ev_rng1 {tg a : Expr} {ms : Env → GH → Res (List PV)} {p pos : Pos} (hg : Gl X "range") (hm : X.mg "range" = none) (ha : PA X [a] (TAv F Ex ms)) (h1 : plainE a = true)
    (hb : ∀ ρ G qs G', ms ρ G = .ok qs G' → qs.length = 1) : PI X tg (.Call (.Name "range" p) [a] [] pos) (TIv F Ex (mRng ms)) :=
  (pi_range1 hg hm ha (star_plain h1)).weak fun σ H R ⟨μ, ρ, G, s, g, q⟩ => by
    refine ⟨μ, ρ, G, s, g, (Post.bind (R := RVs F) q).mono fun vs H1 ⟨μ1, qs, G1, em, e, r, g1, p1⟩ => ?_⟩
    have hl := hb _ _ _ _ em
    match qs, hl, r, p1 with
    | [q1], _, r, p1 =>
      obtain ⟨v, rfl, r1⟩ := Reps.one_inv r
      cases q1 with
      | int j =>
        rw [int_rep r1]
        simp only [rgSrc] at p1
        split at p1
        · rename_i c
          exact ⟨j, rfl, c.1, c.2.1, p1.here ⟨by simpa [rgIts] using c.2.2, JOk.rng⟩ g1⟩
        · exact (show False from p1).elim
      | _ => exact (show False from p1).elim
theorem ev_rng2 {tg a b : Expr} {ms : Env → GH → Res (List PV)} {p pos : Pos} (hg : Gl X "range") (hm : X.mg "range" = none) (ha : PA X [a, b] (TAv F Ex ms)) (h1 : plainE a = true) (h2 : plainE b = true)
    (hb : ∀ ρ G qs G', ms ρ G = .ok qs G' → qs.length = 2) : PI X tg (.Call (.Name "range" p) [a, b] [] pos) (TIv F Ex (mRng ms)) :=
  (pi_range2 hg hm ha (by rw [star_plain h1, star_plain h2]; rfl) (star_plain h2)).weak fun σ H R ⟨μ, ρ, G, s, g, q⟩ => by
    refine ⟨μ, ρ, G, s, g, (Post.bind (R := RVs F) q).mono fun vs H1 ⟨μ1, qs, G1, em, e, r, g1, p1⟩ => ?_⟩
    have hl := hb _ _ _ _ em
    match qs, hl, r, p1 with
    | [q1, q2], _, r, p1 =>
      obtain ⟨v, w, rfl, r1, r2⟩ := Reps.two_inv r
      cases q1 with
      | int i =>
        cases q2 with
        | int j =>
          rw [int_rep r1, int_rep r2]
          simp only [rgSrc] at p1
          split at p1
          · rename_i c
            exact ⟨i, j, rfl, c.1, p1.here ⟨by simpa [rgIts] using c.2, JOk.rng⟩ g1⟩
          · exact (show False from p1).elim
        | _ => exact (show False from p1).elim
      | _ => exact (show False from p1).elim
end
end EV
end
section
set_option Elab.async false
set_option linter.all false
set_option maxRecDepth 100000
/-! Ev6: targets, comprehensions, statements, loops. -/
namespace EV
open PySem PySem.Spec PyProof.Rows L2

theorem Res.bind_assoc {α β γ : Type} (r : Res α) (f : α → GH → Res β) (g : β → GH → Res γ) : (r.bind f).bind g = r.bind fun a G => (f a G).bind g := by cases r <;> rfl
/-- nothing may be raised -/
def noX {α : Type} (r : Res α) : Res α := match r with
  | .exc _ _ _ => .bad
  | r => r
@[simp] theorem noX_ok {α : Type} (a : α) (G : GH) : noX (.ok a G) = .ok a G := rfl
@[simp] theorem noX_bad {α : Type} : noX (.bad : Res α) = .bad := rfl

section
variable {α β γ δ : Type} {F : Fx} {R : RelA α β} {R2 : RelA γ δ} {Ex : XK} {μ μ1 μ2 : Mu} {H H1 H2 : Hp} {G : GH}
theorem Post.bindX {r : Res α} {f : α → GH → Res γ} {Q : δ → Hp → Prop} (h : Post F R2 Ex μ1 H1 ((noX r).bind f) Q) :
    Post F R E0 μ2 H2 r (fun b H3 => ∃ μ3 a G3, r = .ok a G3 ∧ Ext μ2 μ3 H2 H3 ∧ R μ3 H3 a b ∧ HRep F μ3 H3 G3 ∧ Post F R2 Ex μ1 H1 (f a G3) Q) := by
  cases r with
  | ok a G => exact fun μ3 b H3 e x y => ⟨μ3, a, G, rfl, e, x, y, h⟩
  | exc c fs G => exact (show False from h).elim
  | bad => exact h
theorem Post.rel {R' : RelA α β} {r : Res α} {Q : β → Hp → Prop} (w : ∀ μ H a b, R' μ H a b → R μ H a b) (h : Post F R Ex μ H r Q) : Post F R' Ex μ H r Q := by
  cases r with
  | ok a G => exact fun μ' b H' e x y => h μ' b H' e (w _ _ _ _ x) y
  | exc c fs G => exact h
  | bad => exact h
end
theorem SRel.chg {F : Fx} {μ μ' : Mu} {H H' : Hp} {ρ : Env} {σ : L2.St} (c : Chg F μ μ' H H') (s : SRel F μ H ρ σ) : SRel F μ' H' ρ σ :=
  ⟨s.len, fun i p h => let ⟨v, h1, h2⟩ := s.at' i p h; ⟨v, h1, h2.chg c⟩⟩

/-! ### targets -/
def RS (F : Fx) (sl : List Nat) (σ0 : L2.St) : RelA Env L2.St := fun μ H ρ σ => SRel F μ H ρ σ ∧ σ.length = σ0.length ∧ ∀ i, i ∉ sl → σ[i]? = σ0[i]?
def TGv (F : Fx) (Ex : XK) (sl : List Nat) (m : PV → Env → GH → Res Env) : TG := fun v σ H Q => ∃ μ p ρ G, Rep F μ H p v ∧ SRel F μ H ρ σ ∧ HRep F μ H G ∧ Post F (RS F sl σ) Ex μ H (m p ρ G) Q
def TGvs (F : Fx) (Ex : XK) (sl : List Nat) (m : List PV → Env → GH → Res Env) : TGs := fun vs σ H Q => ∃ μ ps ρ G, Reps F μ H ps vs ∧ SRel F μ H ρ σ ∧ HRep F μ H G ∧ Post F (RS F sl σ) Ex μ H (m ps ρ G) Q
theorem _root_.L2.PG.weak {X : Cx} {e : Expr} {t t' : TG} (h : PG X e t) (w : ∀ v σ H Q, t' v σ H Q → t v σ H Q) : PG X e t' := ⟨fun pins s σ H v u Q I r q => h.run pins s σ H v u Q I r (w v σ H Q q)⟩
theorem _root_.L2.PGs.weak {X : Cx} {e : List Expr} {t t' : TGs} (h : PGs X e t) (w : ∀ v σ H Q, t' v σ H Q → t v σ H Q) : PGs X e t' := ⟨fun pins s σ H v u Q I r q => h.run pins s σ H v u Q I r (w v σ H Q q)⟩
theorem _root_.L2.PG.or {X : Cx} {e : Expr} {t t' : TG} (h : PG X e t) (h' : PG X e t') : PG X e (fun v σ H Q => t v σ H Q ∨ t' v σ H Q) := ⟨fun pins s σ H v u Q I r q => q.elim (h.run pins s σ H v u Q I r) (h'.run pins s σ H v u Q I r)⟩
section
variable {X : Cx} {F : Fx} {Ex : XK}
def gN (i : Nat) : PV → Env → GH → Res Env := fun p ρ G => .ok (ρ.set i (some p)) G
theorem ev_gname {i : Nat} {x : Str} {pos : Pos} (hN : X.N.Nodup) (hi : X.N[i]? = some x) (hx : Loc X.env.scope x) (hf : X.fn x = true ∨ X.env.scope.names.lookup x = some .local) : PG X (.Name x pos) (TGv F Ex [i] (gN i)) :=
  (pg_name hN hi hx hf).weak fun v σ H Q ⟨μ, p, ρ, G, r, s, g, q⟩ => q.here ⟨s.set r i, by simp, fun j hj => by
    rw [List.getElem?_set_ne]
    intro e; subst e; exact hj (by simp)⟩ g
def gNilE : List PV → Env → GH → Res Env := fun ps ρ G => match ps with
  | [] => .ok ρ G
  | _ => .bad
def gConsE (m : PV → Env → GH → Res Env) (ms : List PV → Env → GH → Res Env) : List PV → Env → GH → Res Env := fun ps ρ G => match ps with
  | p :: ps => (m p ρ G).bind fun ρ1 G1 => ms ps ρ1 G1
  | [] => .bad
theorem ev_gnil : PGs X [] (TGvs F Ex [] gNilE) := pgs_nil.weak fun vs σ H Q ⟨μ, ps, ρ, G, r, s, g, q⟩ => by
  cases ps with
  | nil => exact ⟨r.nil_inv, q.here ⟨s, rfl, fun _ _ => rfl⟩ g⟩
  | cons _ _ => exact (show False from q).elim
theorem plain_target {e : Expr} {es : List Expr} {env : PySem.Env} (h : plainE e = true) : (assignEach (e :: es) env).map (·.2) = assign e env :: (assignEach es env).map (·.2) := by
  cases e <;> first | rfl | cases h
theorem ev_gcons {e : Expr} {es : List Expr} {sl sl' : List Nat} {m : PV → Env → GH → Res Env} {ms : List PV → Env → GH → Res Env} (hp : plainE e = true) (h1 : PG X e (TGv F Ex sl m)) (h2 : PGs X es (TGvs F Ex sl' ms)) :
    PGs X (e :: es) (TGvs F Ex (sl ++ sl') (gConsE m ms)) := (pgs_cons h1 h2 (plain_target hp)).weak fun vs σ H Q ⟨μ, ps, ρ, G, r, s, g, q⟩ => by
  cases ps with
  | nil => exact (show False from q).elim
  | cons p ps =>
    obtain ⟨v, vr, rfl, r1, rr⟩ := r.cons_inv
    refine ⟨v, vr, rfl, μ, p, ρ, G, r1, s, g, (Post.bind (R := RS F sl σ) q).mono fun σ1 H1 ⟨μ1, ρ1, G1, _, e1, ⟨s1, l1, o1⟩, g1, q1⟩ => ?_⟩
    refine ⟨μ1, ps, ρ1, G1, rr.mono e1, s1, g1, Post.rel (fun μ2 H2 ρ2 σ2 ⟨s2, l2, o2⟩ => ⟨s2, l2.trans l1, fun i hi => ?_⟩) q1⟩
    exact (o2 i fun z => hi (List.mem_append_right _ z)).trans (o1 i fun z => hi (List.mem_append_left _ z))
def gTupE (n : Nat) (ms : List PV → Env → GH → Res Env) : PV → Env → GH → Res Env := fun p ρ G => match p with
  | .tup ps => if ps.length = n then ms ps ρ G else .bad
  | .lst ps => if ps.length = n then ms ps ρ G else .bad
  | .obj k => match G[k]? with
    | some (.lst ps) => if ps.length = n then ms ps ρ G else .bad
    | _ => .bad
  | _ => .bad
theorem assign_len {es : List Expr} {env : PySem.Env} : (assignEach es env).length = es.length := by
  induction es with
  | nil => rfl
  | cons a r ih => cases a <;> (first | (show (assignEach r env).length + 1 = _; rw [ih]; rfl))
theorem assign_nostar {es : List Expr} {env : PySem.Env} (h : es.all plainE = true) : (assignEach es env).findIdx? (·.1) = none := by
  rw [List.findIdx?_eq_none_iff]
  intro x hx
  induction es with
  | nil => cases hx
  | cons a r ih =>
    simp only [List.all_cons, Bool.and_eq_true] at h
    cases a <;> first | (cases h.1; done) | (rcases List.mem_cons.mp hx with rfl | hx <;> first | rfl | exact ih h.2 hx)
theorem ev_gtup {es : List Expr} {k : Nat} {pos : Pos} {sl : List Nat} {ms : List PV → Env → GH → Res Env} (hK : F.K = X.K) (hc : X.calm = true) (hp : es.all plainE = true) (h : PGs X es (TGvs F Ex sl ms)) : PG X (.Tuple es k pos) (TGv F Ex sl (gTupE es.length ms)) :=
  ((pg_tup hc h assign_len (assign_nostar hp)).or (pg_unl hc h assign_len (assign_nostar hp))).weak fun v σ H Q ⟨μ, p, ρ, G, r, s, g, q⟩ => by
    unfold gTupE at q
    cases p with
    | tup ps =>
      simp only [Rep] at r
      obtain ⟨a, vs, rfl, z, st, rr⟩ := r
      by_cases hl : ps.length = es.length
      · simp only [hl, if_true] at q
        exact .inl ⟨a, vs, rfl, by rw [← hK]; exact st.sq, rr.length.symm.trans hl, μ, ps, ρ, G, rr, s, g, q⟩
      · simp only [hl, if_false] at q; exact (show False from q).elim
    | lst ps =>
      simp only [Rep] at r
      obtain ⟨a, vs, rfl, z, st, rr⟩ := r
      by_cases hl : ps.length = es.length
      · simp only [hl, if_true] at q
        exact .inr ⟨a, vs, rfl, SqL.of st.2, rr.length.symm.trans hl, μ, ps, ρ, G, rr, s, g, q⟩
      · simp only [hl, if_false] at q; exact (show False from q).elim
    | obj n =>
      simp only [Rep] at r
      obtain ⟨a, rfl, ha⟩ := r
      cases eo : G[n]? with
      | none => simp only [eo] at q; exact (show False from q).elim
      | some o =>
        cases o with
        | lst ps =>
          simp only [eo] at q
          obtain ⟨vs, q1, z, rr⟩ := g.obj n a _ ha eo
          by_cases hl : ps.length = es.length
          · simp only [hl, if_true] at q
            exact .inr ⟨a, vs, rfl, SqL.of q1, rr.length.symm.trans hl, μ, ps, ρ, G, rr, s, g, q⟩
          · simp only [hl, if_false] at q; exact (show False from q).elim
        | _ => simp only [eo] at q; exact (show False from q).elim
    | _ => exact (show False from q).elim

/-! ### comprehensions -/
def wipeE (ρ : Env) : List Nat → Env
  | [] => ρ
  | v :: vs => (wipeE ρ vs).set v none
theorem SRel.wipe {μ : Mu} {H : Hp} {ρ : Env} {σ : L2.St} (s : SRel F μ H ρ σ) : ∀ vs : List Nat, SRel F μ H (wipeE ρ vs) (wipe σ vs)
  | [] => s
  | v :: vs => by
    have ih := SRel.wipe s vs
    refine ⟨by unfold wipeE L2.wipe; simp [ih.len], fun j q h => ?_⟩
    unfold wipeE at h
    unfold L2.wipe
    by_cases hj : v = j
    · subst hj
      have hl : v < (wipeE ρ vs).length := by
        have := (List.getElem?_eq_some_iff.mp h).1
        simpa using this
      rw [List.getElem?_set_self hl] at h; cases h
    · rw [List.getElem?_set_ne hj] at h
      rw [List.getElem?_set_ne hj]
      exact ih.at' j q h
theorem wipe_in {σ : L2.St} {i : Nat} : ∀ {vs : List Nat}, i ∈ vs → i < σ.length → (wipe σ vs)[i]? = some none
  | [], h, _ => by cases h
  | v :: vs, h, hl => by
    unfold wipe
    by_cases e : v = i
    · subst e
      rw [List.getElem?_set_self (by rw [wipe_length]; exact hl)]
    · rw [List.getElem?_set_ne e]
      exact wipe_in ((List.mem_cons.mp h).resolve_left fun z => e z.symm) hl
theorem wipe_same {σ σ' : L2.St} {vs sl : List Nat} (hl : σ.length = σ'.length) (hs : ∀ i ∈ sl, i ∈ vs) (ho : ∀ i, i ∉ sl → σ[i]? = σ'[i]?) : wipe σ vs = wipe σ' vs := by
  apply List.ext_getElem?
  intro i
  by_cases hi : i ∈ vs
  · by_cases h : i < σ.length
    · rw [wipe_in hi h, wipe_in hi (by rw [← hl]; exact h)]
    · rw [List.getElem?_eq_none (by rw [wipe_length]; omega), List.getElem?_eq_none (by rw [wipe_length]; omega)]
  · rw [wipe_out hi, wipe_out hi]
    exact ho i fun z => hi (hs i z)
theorem wipe_wipe {σ : L2.St} {vs : List Nat} : wipe (wipe σ vs) vs = wipe σ vs := by
  refine wipe_same (sl := vs) (by rw [wipe_length]) (fun _ h => h) fun i hi => wipe_out hi

def loopC (f : PV → GH → Res (Option PV)) (gd : GH → Bool) : List PV → GH → Res (List PV)
  | [], G => if gd G = true then .ok [] G else .bad
  | x :: xs, G => if gd G = true then (f x G).bind fun o G1 => (loopC f gd xs G1).bind fun r G2 => .ok (o.toList ++ r) G2 else .bad
def compF (tg : PV → Env → GH → Res Env) (tt : Env → GH → Res Bool) (el : Env → GH → Res PV) (own : List Nat) (ρ : Env) : PV → GH → Res (Option PV) := fun x G =>
  (noX (tg x (wipeE ρ own) G)).bind fun ρ1 G2 => (noX (tt ρ1 G2)).bind fun b G3 => if b = true then (noX (el ρ1 G3)).bind fun y G4 => .ok (some y) G4 else .ok none G3
def mComp (ob : Bool) (ms : Env → GH → Res Src) (tg : PV → Env → GH → Res Env) (tt : Env → GH → Res Bool) (el : Env → GH → Res PV) (own : List Nat) : Env → GH → Res PV := fun ρ G =>
  (ms ρ G).bind fun S G1 => (loopC (compF tg tt el own ρ) S.gd S.its G1).bind fun ys G5 => if ob = true then .ok (.obj G5.length) (G5 ++ [.lst ys]) else .ok (.lst ys) G5
def mYes : Env → GH → Res Bool := fun _ G => .ok true G
theorem _root_.L2.PTs.weak {X : Cx} {e : List Expr} {t t' : TT} (h : PTs X e t) (w : ∀ σ H Q, t' σ H Q → t σ H Q) : PTs X e t' := ⟨fun pins s σ H Q I q => h.run pins s σ H Q I (w σ H Q q)⟩
theorem ev_yes : PTs X [] (TTv F Ex mYes) := pts_nil.weak fun σ H Q ⟨μ, ρ, G, s, g, p⟩ => p.here rfl g
theorem ev_if1 {c : Expr} {m : Env → GH → Res Bool} (h : PT X c (TTv F Ex m)) : PTs X [c] (TTv F Ex m) := pts_one h

theorem comp_read {ob : Bool} {ms : Env → GH → Res Src} {tg : PV → Env → GH → Res Env} {tt : Env → GH → Res Bool} {el : Env → GH → Res PV} {own sl : List Nat} (hsl : ∀ i ∈ sl, i ∈ own) {σ : L2.St} {H : Hp} {Q : VK}
    (h : TEv F Ex (mComp ob ms tg tt el own) σ H Q) : tLc (TIv F Ex ms) (TGv F E0 sl tg) (TTv F E0 tt) (TEv F E0 el) own σ H Q := by
  obtain ⟨μ, ρ, G, s, g, p⟩ := h
  refine ⟨μ, ρ, G, s, g, (Post.bind (R := RI F) p).mono fun J H1 ⟨μ1, S, G1, _, e1, ⟨hsz, jok⟩, g1, p1⟩ D hD => ?_⟩
  have s1 : SRel F μ1 H1 ρ σ := s.mono e1
  let f := compF tg tt el own ρ
  let fin : List PV → GH → Res PV := fun ys G5 => if ob = true then .ok (.obj G5.length) (G5 ++ [.lst ys]) else .ok (.lst ys) G5
  refine ⟨fun i m H2 => m = S.its.length - i ∧ i ≤ S.its.length ∧ ∃ l G2 accP acc, Ext μ1 ⟨l, μ1.rs⟩ H1 H2 ∧ HRep F ((⟨l, μ1.rs⟩ : Mu).mk1 D) H2 G2 ∧ SRel F ((⟨l, μ1.rs⟩ : Mu).mk1 D) H2 ρ σ ∧ Chg F μ1 ((⟨l, μ1.rs⟩ : Mu).mk1 D) H1 H2 ∧
      H2 D = some (.lst acc) ∧ Reps F ((⟨l, μ1.rs⟩ : Mu).mk1 D) H2 accP acc ∧ acc.length ≤ i ∧ Post F (RV F) Ex μ1 H1 ((loopC f S.gd (S.its.drop i) G2).bind fun ys G5 => fin (accP ++ ys) G5) Q, ?_, ?_⟩
  · refine ⟨S.its.length, by simp, Nat.zero_le _, μ1.ob, G1, [], [], ?_, g1.start hD, s1.chg (Chg.start hD), Chg.start hD, upd_same, .nil, Nat.le_refl _, p1⟩
    exact Ext.upd_new g1 hD
  · rintro i m H2 ⟨rfl, hi, l, G2, accP, acc, e2, g2, s2, c2, hacc, racc, hal, p2⟩
    have hDl : D ∉ l := (g2.res D List.mem_cons_self).1
    have hDr : D ∉ μ1.rs := (g1.fresh hD).2
    have jk := jok ((⟨l, μ1.rs⟩ : Mu).mk1 D) H2 G2 c2 g2
    by_cases hlt : i < S.its.length
    · have hdr : S.its.drop i = S.its[i] :: S.its.drop (i + 1) := List.drop_eq_getElem_cons hlt
      rw [hdr] at p2
      unfold loopC at p2
      by_cases hgd : S.gd G2 = true
      · simp only [hgd, if_true] at p2
        obtain ⟨jgo, jy⟩ := (jk hgd).1 i S.its[i] (List.getElem?_eq_getElem hlt)
        refine .inr ⟨jgo, fun H' => i + 1 ≤ S.its.length ∧ ∃ l G2 accP acc, Ext μ1 ⟨l, μ1.rs⟩ H1 H' ∧ HRep F ((⟨l, μ1.rs⟩ : Mu).mk1 D) H' G2 ∧ SRel F ((⟨l, μ1.rs⟩ : Mu).mk1 D) H' ρ σ ∧ Chg F μ1 ((⟨l, μ1.rs⟩ : Mu).mk1 D) H1 H' ∧
          H' D = some (.lst acc) ∧ Reps F ((⟨l, μ1.rs⟩ : Mu).mk1 D) H' accP acc ∧ acc.length ≤ i + 1 ∧ Post F (RV F) Ex μ1 H1 ((loopC f S.gd (S.its.drop (i + 1)) G2).bind fun ys G5 => fin (accP ++ ys) G5) Q, fun H' q => ⟨S.its.length - (i + 1), by omega, rfl, q.1, q.2⟩, fun x H3 hy => ?_⟩
        obtain ⟨same, rx⟩ := jy x H3 hy
        have e3 : Ext ((⟨l, μ1.rs⟩ : Mu).mk1 D) ((⟨l, μ1.rs⟩ : Mu).mk1 D) H2 H3 := Ext.same same
        have g3 := g2.same same
        rw [Res.bind_assoc] at p2
        have p2' : Post F (RV F) Ex μ1 H1 ((noX (tg S.its[i] (wipeE ρ own) G2)).bind fun ρ1 Ga => ((noX (tt ρ1 Ga)).bind fun b Gb => if b = true then (noX (el ρ1 Gb)).bind fun y Gc => .ok (some y) Gc else .ok none Gb).bind fun o Gd =>
            ((loopC f S.gd (S.its.drop (i + 1)) Gd).bind fun r Ge => .ok (o.toList ++ r) Ge).bind fun ys G5 => fin (accP ++ ys) G5) Q := by
          rw [← Res.bind_assoc]; exact p2
        refine ⟨(⟨l, μ1.rs⟩ : Mu).mk1 D, S.its[i], wipeE ρ own, G2, rx, (s2.mono e3).wipe own, g3, (Post.bindX (R := RS F sl (wipe σ own)) p2').mono fun σ4 H4 ⟨μ4, ρ4, G4, _, e4, ⟨s4, l4, o4⟩, g4, p4⟩ => ⟨?_, ?_⟩⟩
        · have q : wipe σ4 own = wipe (wipe σ own) own := wipe_same l4 hsl o4
          rw [q, wipe_wipe]
        · obtain ⟨ob4, rfl⟩ := Ext.drop1 (μ := ⟨l, μ1.rs⟩) e4
          rw [Res.bind_assoc] at p4
          refine ⟨_, ρ4, G4, s4, g4, (Post.bindX (R := RB) p4).mono fun b H5 ⟨μ5, b', G5, _, e5, rb, g5, p5⟩ => ?_⟩
          cases (show b' = b from rb)
          obtain ⟨ob5, rfl⟩ := Ext.drop1 (μ := ⟨ob4, μ1.rs⟩) e5
          have e25 := (e3.trans e4).trans e5
          cases b with
          | false =>
            rw [if_neg Bool.false_ne_true]
            simp only [Bool.false_eq_true, if_false] at p5
            have hD5 : H5 D = some (.lst acc) := e25.keep D _ hacc (fun _ z => by cases z) hDl
            have c5 : Chg F ((⟨l, μ1.rs⟩ : Mu).mk1 D) ((⟨ob5, μ1.rs⟩ : Mu).mk1 D) H2 H5 := e25.chg
            have u5 : upd H5 D (.lst acc) = H5 := by
              funext b; unfold upd; split
              · rename_i z; rw [z, hD5]
              · rfl
            have st := Ext.step1 (o := .lst acc) hD e2 e25
            rw [u5] at st
            refine ⟨hlt, ob5, G5, accP, acc, st, g5, s2.chg c5, c2.trans c5, hD5, racc.chg c5, by omega, ?_⟩
            simp only [Res.bind_ok] at p5
            rw [Res.bind_assoc] at p5
            exact p5
          | true =>
            rw [if_pos rfl]
            simp only [if_true] at p5
            rw [Res.bind_assoc] at p5
            refine ⟨_, ρ4, G5, s4.mono e5, g5, (Post.bindX (R := RV F) p5).mono fun y H6 ⟨μ6, yp, G6, _, e6, ry, g6, p6⟩ => ?_⟩
            obtain ⟨ob6, rfl⟩ := Ext.drop1 (μ := ⟨ob5, μ1.rs⟩) e6
            have e26 := e25.trans e6
            have hD6 : H6 D = some (.lst acc) := e26.keep D _ hacc (fun _ z => by cases z) hDl
            have c6 : Chg F ((⟨l, μ1.rs⟩ : Mu).mk1 D) ((⟨ob6, μ1.rs⟩ : Mu).mk1 D) H2 (upd H6 D (.lst (acc ++ [y]))) := e26.chg.trans Chg.other
            refine ⟨acc, hD6, by omega, hlt, ob6, G6, accP ++ [yp], acc ++ [y], Ext.step1 hD e2 e26, g6.other, s2.chg c6, c2.trans c6, upd_same, (racc.chg c6).append (.one (Rep.chg Chg.other ry)), by simp; omega, ?_⟩
            simp only [Res.bind_ok] at p6
            rw [Res.bind_assoc] at p6
            have q : ∀ ys, accP ++ (([yp] : List PV) ++ ys) = accP ++ [yp] ++ ys := fun ys => by simp
            simp only [Res.bind_ok, Option.toList, q] at p6
            exact p6
      · simp only [hgd] at p2
        exact (show False from p2).elim
    · have ei : i = S.its.length := by omega
      subst ei
      rw [List.drop_length] at p2
      unfold loopC at p2
      by_cases hgd : S.gd G2 = true
      · simp only [hgd, if_true] at p2
        refine .inl ⟨(jk hgd).2, ?_⟩
        have p3 : Post F (RV F) Ex μ1 H1 (fin (accP ++ []) G2) Q := p2
        rw [List.append_nil] at p3
        have hz : acc.length ≤ sizeLine := Nat.le_trans hal hsz
        cases ob with
        | false =>
          refine (show Post F (RV F) Ex μ1 H1 (.ok (.lst accP) G2) Q from p3).ok e2 ?_ g2.stop
          show Rep F _ _ _ _
          simp only [Rep]
          exact ⟨D, acc, rfl, hz, ⟨⟨hDl, hDr⟩, hacc⟩, racc.chg Chg.stop⟩
        | true =>
          refine (show Post F (RV F) Ex μ1 H1 (.ok (.obj G2.length) (G2 ++ [.lst accP])) Q from p3).ok (μ' := (⟨l, μ1.rs⟩ : Mu).push D) ?_ ?_ (g2.stopO hDr ⟨acc, hacc, hz, racc.chg Chg.stopO⟩)
          · obtain ⟨⟨r, hr⟩, h2, h3, h4⟩ := e2
            have hr : l = μ1.ob ++ r := hr
            refine ⟨⟨r ++ [D], by show l ++ [D] = _; rw [hr]; simp⟩, h2, fun a m n => ?_, h4⟩
            rcases List.mem_append.mp m with q | q
            · exact h3 a q n
            · intro o z _; rw [List.mem_singleton.mp q, hD] at z; cases z
          · show Rep F _ _ _ _
            simp only [Rep]
            refine ⟨D, rfl, ?_⟩
            have : l.length = G2.length := g2.len
            show (l ++ [D])[G2.length]? = some D
            rw [← this]; simp
      · simp only [hgd] at p2
        exact (show False from p2).elim
end
end EV
end
section
set_option Elab.async false
set_option linter.all false
set_option maxRecDepth 100000
/-! Ev7: statements, loops, a def's body. -/
namespace EV
open PySem PySem.Spec PyProof.Rows L2

inductive Fl where
  | next (ρ : Env)
  | ret (p : PV)
  | brk (ρ : Env)
  | cont (ρ : Env)
inductive FlV where
  | next (σ : L2.St)
  | ret (v : V)
  | brk (σ : L2.St)
  | cont (σ : L2.St)
def RF (F : Fx) : RelA Fl FlV := fun μ H f g => match f, g with
  | .next ρ, .next σ => SRel F μ H ρ σ
  | .ret p, .ret v => Rep F μ H p v
  | .brk ρ, .brk σ => SRel F μ H ρ σ
  | .cont ρ, .cont σ => SRel F μ H ρ σ
  | _, _ => False
def SQ (D : Ends) : FlV → Hp → Prop := fun g H => match g with
  | .next σ => D.nx σ H
  | .ret v => D.rt v H
  | .brk σ => D.bk σ H
  | .cont σ => D.ct σ H
def TSv (F : Fx) (Ex : XK) (m : Env → GH → Res Fl) : TS := fun D σ H => ∃ μ ρ G, SRel F μ H ρ σ ∧ HRep F μ H G ∧ Post F (RF F) Ex μ H (m ρ G) (SQ D)
section
variable {X : Cx} {F : Fx} {Ex : XK}
def sNext : Env → GH → Res Fl := fun ρ G => .ok (.next ρ) G
def sSeq (m n : Env → GH → Res Fl) : Env → GH → Res Fl := fun ρ G => (m ρ G).bind fun f G1 => match f with
  | .next ρ1 => n ρ1 G1
  | f => .ok f G1
theorem ev_snil : PSs X [] (TSv F Ex sNext) := pss_nil.weak fun D σ H ⟨μ, ρ, G, s, g, p⟩ => p.here (b := FlV.next σ) s g
theorem ev_scons {st : Stmt} {rest : List Stmt} {m n : Env → GH → Res Fl} (h1 : PS X st (TSv F Ex m)) (h2 : PSs X rest (TSv F Ex n)) : PSs X (st :: rest) (TSv F Ex (sSeq m n)) :=
  (pss_cons h1 h2).weak fun D σ H ⟨μ, ρ, G, s, g, p⟩ => ⟨μ, ρ, G, s, g, (Post.bind (R := RF F) p).mono fun f H1 ⟨μ1, e, G1, _, e1, r, g1, p1⟩ => by
    cases e <;> cases f <;> first | exact (show False from r).elim | exact ⟨μ1, _, G1, r, g1, p1⟩ | exact p1.here (b := FlV.ret _) r g1 | exact p1.here (b := FlV.brk _) r g1 | exact p1.here (b := FlV.cont _) r g1⟩
def sDrop (m : Env → GH → Res PV) : Env → GH → Res Fl := fun ρ G => (m ρ G).bind fun _ G1 => .ok (.next ρ) G1
theorem ev_expr {e : Expr} {pos : Pos} {m : Env → GH → Res PV} (he : PE X e (TEv F Ex m)) (hs : swapsWith e none pos.line X.env = pure false) : PS X (.Expr e pos) (TSv F Ex (sDrop m)) :=
  (ps_expr he hs).weak fun D σ H ⟨μ, ρ, G, s, g, p⟩ => TEv.run s g p fun μ1 a G1 v H1 e1 r1 g1 s1 p1 => p1.here (b := FlV.next σ) s1 g1
def sRet (m : Env → GH → Res PV) : Env → GH → Res Fl := fun ρ G => (m ρ G).bind fun v G1 => .ok (.ret v) G1
theorem ev_ret {e : Expr} {pos : Pos} {m : Env → GH → Res PV} (he : PE X e (TEv F Ex m)) : PS X (.Return (some e) pos) (TSv F Ex (sRet m)) :=
  (ps_ret he).weak fun D σ H ⟨μ, ρ, G, s, g, p⟩ => TEv.run s g p fun μ1 a G1 v H1 e1 r1 g1 s1 p1 => p1.here (b := FlV.ret v) r1 g1
def sIf (c : Env → GH → Res Bool) (m n : Env → GH → Res Fl) : Env → GH → Res Fl := fun ρ G => (c ρ G).bind fun b G1 => if b = true then m ρ G1 else n ρ G1
theorem ev_sif {c : Expr} {a b : List Stmt} {pos : Pos} {mc : Env → GH → Res Bool} {m n : Env → GH → Res Fl} (hc : PT X c (TTv F Ex mc)) (ha : PSs X a (TSv F Ex m)) (hb : PSs X b (TSv F Ex n)) : PS X (.If c a b pos) (TSv F Ex (sIf mc m n)) :=
  (ps_if hc ha hb).weak fun D σ H ⟨μ, ρ, G, s, g, p⟩ => TTv.run s g p fun μ1 b G1 H1 e1 g1 s1 p1 => by
    cases b with
    | true => exact ⟨μ1, ρ, G1, s1, g1, p1⟩
    | false => exact ⟨μ1, ρ, G1, s1, g1, p1⟩
def sAsg (m : Env → GH → Res PV) (t : PV → Env → GH → Res Env) : Env → GH → Res Fl := fun ρ G => (m ρ G).bind fun v G1 => (t v ρ G1).bind fun ρ1 G2 => .ok (.next ρ1) G2
theorem asg_read {te : TE} {m : Env → GH → Res PV} {t : PV → Env → GH → Res Env} {sl : List Nat} {D : Ends} {σ : L2.St} {H : Hp} (w : ∀ Q, TEv F Ex m σ H Q → te σ H Q) (h : TSv F Ex (sAsg m t) D σ H) : tAsg te (TGv F Ex sl t) D σ H := by
  obtain ⟨μ, ρ, G, s, g, p⟩ := h
  refine w _ (TEv.run s g p fun μ1 a G1 v H1 e1 r1 g1 s1 p1 => ⟨μ1, a, ρ, G1, r1, s1, g1, (Post.bind (R := RS F sl σ) p1).mono fun σ2 H2 ⟨μ2, ρ2, G2, _, e2, rs, g2, p2⟩ => ?_⟩)
  exact p2.here (b := FlV.next σ2) rs.1 g2
theorem ev_asg {tg e : Expr} {pos : Pos} {m : Env → GH → Res PV} {t : PV → Env → GH → Res Env} {sl : List Nat} (he : PE X e (TEv F Ex m)) (hg : PG X tg (TGv F Ex sl t)) (hs : swapsWithSole [tg] e pos.line X.env = pure false) (hw : swappedStores [tg] e X.env = pure none)
    (h1 : plainE tg = true) : PS X (.Assign [tg] e pos) (TSv F Ex (sAsg m t)) := (ps_asg he hg hs hw (plain_target h1)).weak fun D σ H h => asg_read (fun Q q => q) h
/-- name = [.. for ..] on one line -/
theorem ev_asgC {i : Nat} {y : Str} {py : Pos} {elt tg iter : Expr} {ifs : List Expr} {scope : Scope} {own : List (Str × Nat)} {pos spos : Pos} {sl : List Nat} {ob : Bool} {ms : Env → GH → Res Src} {t : PV → Env → GH → Res Env} {tt : Env → GH → Res Bool} {el : Env → GH → Res PV}
    (hc : X.calm = true) (hN : X.N.Nodup) (hy : X.N[i]? = some y) (hyl : X.env.scope.names.lookup y = some .local) (hsw : swapsWith (.ListComp elt [⟨tg, iter, ifs, 0⟩] scope pos) (some (.Name y py)) spos.line X.env = pure true)
    (hi : PI X tg iter (TIv F Ex ms)) (ok : BlkOk X.N X.env.scope scope own) (hsl : ∀ i ∈ sl, i ∈ own.map (·.2))
    (hg : ∀ (s : Shared) (H : Hp) (C : Addr) (cl : List (Str × Addr)) (fp : List Addr), PG (X.blk s H scope (compEnvC scope cl C X.env) fp) tg (TGv F E0 sl t))
    (ht : ∀ (s : Shared) (H : Hp) (C : Addr) (cl : List (Str × Addr)) (fp : List Addr), PTs (X.blk s H scope (compEnvC scope cl C X.env) fp) ifs (TTv F E0 tt))
    (he : ∀ (s : Shared) (H : Hp) (C : Addr) (cl : List (Str × Addr)) (fp : List Addr), PE (X.blk s H scope (compEnvC scope cl C X.env) fp) elt (TEv F E0 el)) (hs : ∀ x, foldedSetIterable iter X.env x = pure x) :
    PS X (.Assign [.Name y py] (.ListComp elt [⟨tg, iter, ifs, 0⟩] scope pos) spos) (TSv F Ex (sAsg (mComp ob ms t tt el (own.map (·.2))) (gN i))) :=
  (ps_setLc hc hN hy hyl hsw hi ok hg ht he hs).weak fun D σ H h => by
    obtain ⟨μ, ρ, G, s, g, p⟩ := h
    refine comp_read (ob := ob) hsl (Q := fun x H1 => gName i x σ H1 D.nx) ?_
    exact TEv.run s g p fun μ1 a G1 v H1 e1 r1 g1 s1 p1 => p1.here (b := FlV.next _) (s1.set r1 i) g1
theorem ev_comp {elt tg iter : Expr} {ifs : List Expr} {scope : Scope} {own : List (Str × Nat)} {pos : Pos} {sl : List Nat} {ob : Bool} {ms : Env → GH → Res Src} {t : PV → Env → GH → Res Env} {tt : Env → GH → Res Bool} {el : Env → GH → Res PV}
    (hc : X.calm = true) (hN : X.N.Nodup) (hi : PI X tg iter (TIv F Ex ms)) (ok : BlkOk X.N X.env.scope scope own) (hsl : ∀ i ∈ sl, i ∈ own.map (·.2))
    (hg : ∀ (s : Shared) (H : Hp) (C : Addr) (cl : List (Str × Addr)) (fp : List Addr), PG (X.blk s H scope (compEnvC scope cl C X.env) fp) tg (TGv F E0 sl t))
    (ht : ∀ (s : Shared) (H : Hp) (C : Addr) (cl : List (Str × Addr)) (fp : List Addr), PTs (X.blk s H scope (compEnvC scope cl C X.env) fp) ifs (TTv F E0 tt))
    (he : ∀ (s : Shared) (H : Hp) (C : Addr) (cl : List (Str × Addr)) (fp : List Addr), PE (X.blk s H scope (compEnvC scope cl C X.env) fp) elt (TEv F E0 el)) (hs : ∀ x, foldedSetIterable iter X.env x = pure x) :
    PE X (.ListComp elt [⟨tg, iter, ifs, 0⟩] scope pos) (TEv F Ex (mComp ob ms t tt el (own.map (·.2)))) := (pe_lc hc hN hi ok hg ht he hs).weak fun σ H Q h => comp_read hsl h

/-! ### for -/
def loopF (f : PV → Env → GH → Res Fl) (gd : GH → Bool) : List PV → Env → GH → Res Fl
  | [], ρ, G => if gd G = true then .ok (.next ρ) G else .bad
  | x :: xs, ρ, G => if gd G = true then (f x ρ G).bind fun fl G1 => match fl with
    | .next ρ1 => loopF f gd xs ρ1 G1
    | .cont ρ1 => loopF f gd xs ρ1 G1
    | .brk ρ1 => .ok (.next ρ1) G1
    | .ret v => .ok (.ret v) G1
    else .bad
def sFor (ms : Env → GH → Res Src) (t : PV → Env → GH → Res Env) (b : Env → GH → Res Fl) : Env → GH → Res Fl := fun ρ G => (ms ρ G).bind fun S G1 => loopF (fun x ρ G => (t x ρ G).bind b) S.gd S.its ρ G1
theorem ev_for {tg iter : Expr} {body : List Stmt} {pos : Pos} {sl : List Nat} {ms : Env → GH → Res Src} {t : PV → Env → GH → Res Env} {b : Env → GH → Res Fl} (hp : PassesOwn (model X.prog X.w) X.A X.env X.xe) (hc : X.calm = true)
    (hi : PI X tg iter (TIv F Ex ms)) (hg : PG X tg (TGv F Ex sl t)) (hb : PSs X body (TSv F Ex b)) (hs : ∀ x, foldedSetIterable iter X.env x = pure x) : PS X (.For tg iter body [] pos) (TSv F Ex (sFor ms t b)) :=
  (ps_for hp hc hi hg hb hs).weak fun D σ H ⟨μ, ρ, G, s, g, p⟩ => by
    refine ⟨μ, ρ, G, s, g, (Post.bind (R := RI F) p).mono fun J H1 ⟨μ1, S, G1, _, e1, ⟨hsz, jok⟩, g1, p1⟩ => ?_⟩
    let f : PV → Env → GH → Res Fl := fun x ρ G => (t x ρ G).bind b
    refine ⟨fun i m σ2 H2 => m = S.its.length - i ∧ i ≤ S.its.length ∧ ∃ μ2 ρ2 G2, Chg F μ1 μ2 H1 H2 ∧ SRel F μ2 H2 ρ2 σ2 ∧ HRep F μ2 H2 G2 ∧ Post F (RF F) Ex μ2 H2 (loopF f S.gd (S.its.drop i) ρ2 G2) (SQ D), ?_, ?_⟩
    · exact ⟨S.its.length, by simp, Nat.zero_le _, μ1, ρ, G1, Chg.refl, s.mono e1, g1, p1⟩
    · rintro i m σ2 H2 ⟨rfl, hi, μ2, ρ2, G2, c2, s2, g2, p2⟩
      have jk := jok μ2 H2 G2 c2 g2
      by_cases hlt : i < S.its.length
      · have hdr : S.its.drop i = S.its[i] :: S.its.drop (i + 1) := List.drop_eq_getElem_cons hlt
        rw [hdr] at p2
        unfold loopF at p2
        by_cases hgd : S.gd G2 = true
        · simp only [hgd, if_true] at p2
          obtain ⟨jgo, jy⟩ := (jk hgd).1 i S.its[i] (List.getElem?_eq_getElem hlt)
          refine .inr ⟨jgo, fun σ' H' => i + 1 ≤ S.its.length ∧ ∃ μ2 ρ2 G2, Chg F μ1 μ2 H1 H' ∧ SRel F μ2 H' ρ2 σ' ∧ HRep F μ2 H' G2 ∧ Post F (RF F) Ex μ2 H' (loopF f S.gd (S.its.drop (i + 1)) ρ2 G2) (SQ D), fun σ' H' q => ⟨S.its.length - (i + 1), by omega, rfl, q.1, q.2⟩, fun x H3 hy => ?_⟩
          obtain ⟨same, rx⟩ := jy x H3 hy
          have e3 : Ext μ2 μ2 H2 H3 := Ext.same same
          have p3 : Post F (RF F) Ex μ2 H3 (((t S.its[i] ρ2 G2).bind b).bind fun fl G1 => match fl with
            | .next ρ1 => loopF f S.gd (S.its.drop (i + 1)) ρ1 G1
            | .cont ρ1 => loopF f S.gd (S.its.drop (i + 1)) ρ1 G1
            | .brk ρ1 => .ok (.next ρ1) G1
            | .ret v => .ok (.ret v) G1) (SQ D) := Post.shift e3 p2
          rw [Res.bind_assoc] at p3
          refine ⟨μ2, S.its[i], ρ2, G2, rx, s2.mono e3, g2.same same, (Post.bind (R := RS F sl σ2) p3).mono fun σ4 H4 ⟨μ4, ρ4, G4, _, e4, rs, g4, p4⟩ => ?_⟩
          refine ⟨μ4, ρ4, G4, rs.1, g4, (Post.bind (R := RF F) p4).mono fun fl H5 ⟨μ5, ev, G5, _, e5, r5, g5, p5⟩ => ?_⟩
          have c5 : Chg F μ1 μ5 H1 H5 := c2.trans ((e3.trans e4).trans e5).chg
          cases ev <;> cases fl <;> first | exact (show False from r5).elim | exact ⟨hlt, μ5, _, G5, c5, r5, g5, p5⟩ | exact p5.here (b := FlV.ret _) r5 g5 | exact p5.here (b := FlV.next _) r5 g5
        · simp only [hgd] at p2
          exact (show False from p2).elim
      · have ei : i = S.its.length := by omega
        subst ei
        rw [List.drop_length] at p2
        unfold loopF at p2
        by_cases hgd : S.gd G2 = true
        · simp only [hgd, if_true] at p2
          exact .inl ⟨(jk hgd).2, p2.here (b := FlV.next σ2) s2 g2⟩
        · simp only [hgd] at p2
          exact (show False from p2).elim
/-! ### while, at most n turns -/
def loopW (c : Env → GH → Res Bool) (b : Env → GH → Res Fl) : Nat → Env → GH → Res Fl
  | 0, _, _ => .bad
  | n + 1, ρ, G => (c ρ G).bind fun k G1 => if k = true then (b ρ G1).bind fun fl G2 => match fl with
    | .next ρ1 => loopW c b n ρ1 G2
    | .cont ρ1 => loopW c b n ρ1 G2
    | .brk ρ1 => .ok (.next ρ1) G2
    | .ret v => .ok (.ret v) G2
    else .ok (.next ρ) G1
/-! ### o[i] = e -/
def sSet (me mo mi : Env → GH → Res PV) (f : List PV → GH → Res Unit) : Env → GH → Res Fl := fun ρ G => (me ρ G).bind fun v G1 => (mo ρ G1).bind fun o G2 => (mi ρ G2).bind fun i G3 => (f [o, i, v] G3).bind fun _ G4 => .ok (.next ρ) G4
def RdSet (F : Fx) (Ex : XK) (f : List PV → GH → Res Unit) : TSet := fun o i v H Q => ∃ μ ps G, Reps F μ H ps [o, i, v] ∧ HRep F μ H G ∧ Post F (R := fun (_ : Mu) (_ : Hp) (_ : Unit) (_ : Unit) => True) Ex μ H (f ps G) (fun _ H' => Q H')
theorem ev_set {o i e : Expr} {tpos pos : Pos} {me mo mi : Env → GH → Res PV} {f : List PV → GH → Res Unit} (he : PE X e (TEv F Ex me)) (ho : PE X o (TEv F Ex mo)) (hi : PE X i (TEv F Ex mi)) (hf : PSet X (RdSet F Ex f))
    (hs : swapsWithSole [.Subscript o i tpos] e pos.line X.env = pure false) (hw : swappedStores [.Subscript o i tpos] e X.env = pure none)
    (ha : ∀ v, assign (.Subscript o i tpos) X.env v = (do
      let ov ← holding [v] (eval o X.env)
      let iv ← holding [v, ov] (eval i X.env)
      standAt tpos
      holding [v, ov, iv] (setItem ov iv v)
      release [v, ov, iv] [])) : PS X (.Assign [.Subscript o i tpos] e pos) (TSv F Ex (sSet me mo mi f)) :=
  (ps_asg he (pg_sub ho hi hf ha) hs hw).weak fun D σ H ⟨μ, ρ, G, s, g, p⟩ => by
    refine TEv.run s g p fun μ1 a G1 v H1 e1 r1 g1 s1 p1 => ?_
    refine TEv.run s1 g1 p1 fun μ2 b G2 w H2 e2 r2 g2 s2 p2 => ?_
    refine TEv.run s2 g2 p2 fun μ3 c G3 u H3 e3 r3 g3 s3 p3 => ?_
    refine ⟨μ3, [b, c, a], G3, .cons (r2.mono e3) (.cons r3 (.one ((r1.mono e2).mono e3))), g3, (Post.bind (R := fun (_ : Mu) (_ : Hp) (_ : Unit) (_ : Unit) => True) p3).mono fun _ H4 ⟨μ4, _, G4, _, e4, _, g4, p4⟩ => ?_⟩
    exact p4.here (b := FlV.next σ) (s3.mono e4) g4
/-- x, y = a, b with plain locals -/
def sPar (i j : Nat) (ms : Env → GH → Res (List PV)) : Env → GH → Res Fl := fun ρ G => (ms ρ G).bind fun ps G1 => match ps with
  | [p, q] => .ok (.next ((ρ.set i (some p)).set j (some q))) G1
  | _ => .bad
theorem ev_par {i j : Nat} {x y : Str} {a b : Expr} {ms : Env → GH → Res (List PV)} {px py pt pos : Pos} {kt k2 : Nat} {pt2 : Pos} (hc : X.calm = true) (hN : X.N.Nodup) (hi : X.N[i]? = some x) (hj : X.N[j]? = some y) (hij : i ≠ j)
    (hx : X.env.scope.names.lookup x = some .local) (hy : X.env.scope.names.lookup y = some .local) (ha : PA X [a, b] (TAv F Ex ms)) (hw : swappedStores [.Tuple [.Name x px, .Name y py] kt pt] (.Tuple [a, b] k2 pt2) X.env = pure (some [x, y]))
    (hs : swapsWithSole [.Tuple [.Name x px, .Name y py] kt pt] (.Tuple [a, b] k2 pt2) pos.line X.env = pure false) : PS X (.Assign [.Tuple [.Name x px, .Name y py] kt pt] (.Tuple [a, b] k2 pt2) pos) (TSv F Ex (sPar i j ms)) :=
  (ps_par hc hN hi hj hij hx hy ha hw hs).weak fun D σ H ⟨μ, ρ, G, s, g, p⟩ => TAv.run s g p fun μ1 ps G1 vs H1 e1 r1 g1 s1 p1 => by
    match ps, r1, p1 with
    | [p, q], r1, p1 =>
      obtain ⟨v, w, rfl, ra, rb⟩ := Reps.two_inv r1
      exact ⟨v, w, rfl, p1.here (b := FlV.next _) ((s1.set ra i).set rb j) g1⟩
    | [], r1, p1 => exact (show False from p1).elim
    | [_], r1, p1 => exact (show False from p1).elim
    | _ :: _ :: _ :: _, r1, p1 => exact (show False from p1).elim

/-! ### a def's body -/
/-- what a body gives back -/
def bodyEnd (f : Fl) (G : GH) : Res PV := match f with
  | .ret p => .ok p G
  | .next _ => .ok .non G
  | _ => .bad
def env0 (n : Nat) (ps : List PV) : Env := ps.map some ++ List.replicate (n - ps.length) none
theorem srel0 {μ : Mu} {H : Hp} {ps : List PV} {vs : List V} (r : Reps F μ H ps vs) (N : List Str) : SRel F μ H (env0 N.length ps) (start N vs) := by
  refine ⟨by unfold env0 L2.start; simp [r.length], fun i p h => ?_⟩
  unfold env0 at h
  unfold L2.start
  by_cases hi : i < ps.length
  · rw [List.getElem?_append_left (by simpa using hi), List.getElem?_map] at h
    cases e : ps[i]? with
    | none => rw [e] at h; cases h
    | some q =>
      rw [e] at h
      cases h
      obtain ⟨v, h1, h2⟩ := r.get e
      refine ⟨v, ?_, h2⟩
      rw [List.getElem?_append_left (by rw [List.length_map, ← r.length]; exact hi), List.getElem?_map, h1]
      rfl
  · rw [List.getElem?_append_right (by simpa using hi), List.getElem?_replicate] at h
    split at h <;> cases h
theorem body_read {m : Env → GH → Res Fl} {N : List Str} {vs : List V} {H : Hp} {Q : VK} (h : RdV F Ex (fun ps G => (m (env0 N.length ps) G).bind bodyEnd) vs H Q) : TSv F Ex m { nx := fun _ H' => Q .non H', rt := Q } (start N vs) H := by
  obtain ⟨μ, ps, G, r, g, p⟩ := h
  refine ⟨μ, env0 N.length ps, G, srel0 r N, g, (Post.bind (R := RF F) p).mono fun fl H1 ⟨μ1, ev, G1, _, e1, r1, g1, p1⟩ => ?_⟩
  cases ev <;> cases fl <;> first | exact (show False from r1).elim | exact p1.here r1 g1 | exact p1.here (show Rep F μ1 H1 .non .non by simp only [Rep]) g1 | exact (show False from p1).elim
end
end EV
end
section
set_option Elab.async false
set_option linter.all false
set_option maxRecDepth 100000
/-! Ev8: operators by values. -/
namespace EV
open PySem PySem.Spec PyProof.Rows L2
section
variable {X : Cx} {F : Fx} {Ex : XK} {μ : Mu} {H : Hp} {G : GH}
/-- one more tuple, one more list (values) -/
theorem Post.tup {ps : List PV} {vs : List V} {Q : VK} (h : Post F (RV F) Ex μ H (.ok (.tup ps) G) Q) (g : HRep F μ H G) (r : Reps F μ H ps vs) (z : vs.length ≤ sizeLine) : NewT H vs Q := fun p o n d => by
  refine h.ok (Ext.upd_new g n) ?_ (g.upd_new n)
  show Rep F μ _ _ _
  simp only [Rep]
  exact ⟨p, vs, rfl, z, .inl ⟨g.fresh n, o, upd_same, d⟩, r.mono (Ext.upd_new g n)⟩
theorem Post.lst {ps : List PV} {vs : List V} {Q : VK} (h : Post F (RV F) Ex μ H (.ok (.lst ps) G) Q) (g : HRep F μ H G) (r : Reps F μ H ps vs) (z : vs.length ≤ sizeLine) : ∀ p, H p = none → Q (.ref p) (upd H p (.lst vs)) := fun p n => by
  refine h.ok (Ext.upd_new g n) ?_ (g.upd_new n)
  show Rep F μ _ _ _
  simp only [Rep]
  exact ⟨p, vs, rfl, z, ⟨g.fresh n, upd_same⟩, r.mono (Ext.upd_new g n)⟩
theorem rep_int {i : Int} {v : V} (r : Rep F μ H (.int i) v) : v = .int i := by simpa only [Rep] using r
theorem rep_bl {i : Bool} {v : V} (r : Rep F μ H (.bl i) v) : v = .bl i := by simpa only [Rep] using r
theorem rep_str {i : Str} {v : V} (r : Rep F μ H (.str i) v) : v = .str i := by simpa only [Rep] using r
theorem rep_non {v : V} (r : Rep F μ H .non v) : v = .non := by simpa only [Rep] using r
theorem rep_tup {ps : List PV} {v : V} (r : Rep F μ H (.tup ps) v) : ∃ a vs, v = .ref a ∧ vs.length ≤ sizeLine ∧ StT F μ H a vs ∧ Reps F μ H ps vs := by simpa only [Rep] using r
theorem rep_lst {ps : List PV} {v : V} (r : Rep F μ H (.lst ps) v) : ∃ a vs, v = .ref a ∧ vs.length ≤ sizeLine ∧ StX μ H a vs ∧ Reps F μ H ps vs := by simpa only [Rep] using r
theorem rep_sls {ps : List PV} {v : V} (r : Rep F μ H (.sls ps) v) : ∃ a vs, v = .ref a ∧ vs.length ≤ sizeLine ∧ StL F μ H a vs ∧ Reps F μ H ps vs := by simpa only [Rep] using r
theorem rep_obj {n : Nat} {v : V} (r : Rep F μ H (.obj n) v) : ∃ a, v = .ref a ∧ μ.ob[n]? = some a := by simpa only [Rep] using r
theorem RV.int {i : Int} : RV F μ H (.int i) (.int i) := by simp only [RV, Rep]
theorem RV.bl {i : Bool} : RV F μ H (.bl i) (.bl i) := by simp only [RV, Rep]
theorem RV.str {i : Str} : RV F μ H (.str i) (.str i) := by simp only [RV, Rep]
theorem RV.non : RV F μ H .non .non := by simp only [RV, Rep]
/-- a list of ours, or a list value: what stands there -/
def asL (p : PV) (G : GH) : Option (List PV) := match p with
  | .lst ps => some ps
  | .sls ps => some ps
  | .obj n => match G[n]? with
    | some (.lst ps) => some ps
    | _ => none
  | _ => none
theorem asL_rep {p : PV} {ps : List PV} {v : V} (e : asL p G = some ps) (r : Rep F μ H p v) (g : HRep F μ H G) : ∃ a vs, v = .ref a ∧ vs.length ≤ sizeLine ∧ SqL F.K H a vs ∧ Reps F μ H ps vs := by
  unfold asL at e
  split at e
  · cases e
    obtain ⟨a, vs, e1, z, st, rr⟩ := rep_lst r
    exact ⟨a, vs, e1, z, SqL.of st.2, rr⟩
  · cases e
    obtain ⟨a, vs, e1, z, st, rr⟩ := rep_sls r
    exact ⟨a, vs, e1, z, st.sq, rr⟩
  · rename_i n
    obtain ⟨a, e1, ha⟩ := rep_obj r
    split at e
    · rename_i qs eo
      cases e
      obtain ⟨vs, q, z, rr⟩ := g.obj n a _ ha eo
      exact ⟨a, vs, e1, z, SqL.of q, rr⟩
    · cases e
  · cases e

/-! ### + -/
def opAdd (ps : List PV) (G : GH) : Res PV := match ps with
  | [.int i, .int j] => .ok (.int (i + j)) G
  | [.str x, .str y] => if x.length + y.length ≤ sizeLine then .ok (.str (x ++ y)) G else .bad
  | [.tup a, .tup b] => if a.length + b.length ≤ sizeLine then .ok (.tup (a ++ b)) G else .bad
  | [x, y] => match asL x G, asL y G with
    | some a, some b => if a.length + b.length ≤ sizeLine then .ok (.lst (a ++ b)) G else .bad
    | _, _ => .bad
  | _ => .bad
theorem cat_lists {prog : Program} {w : World} {A : Around} {E : Value → Shared → Prop} {s : Shared} {l b : Addr} {vs ws : List Value} {Q : Value → Shared → Prop} (hl : s.heap.IsList l vs.toArray) (hb : s.heap.IsList b ws.toArray)
    (h : Q (.ref s.heap.objs.size) { s with heap := s.heap.push { cls := .type "list", data := .seq (vs ++ ws).toArray } }) (hz : vs.length + ws.length ≤ sizeLine) : wpAny (model prog w) A (binaryOp .Add (.ref l) (.ref b)) Q E s := by
  obtain ⟨⟨c1, d1, x1, s1⟩, ho, hc, n, hd⟩ := id hl
  obtain ⟨⟨c2, d2, x2, s2⟩, ho2, hc2, n2, hd2⟩ := id hb
  simp only at hc hd hc2 hd2
  subst hc hd hc2 hd2
  have e : vs.toArray ++ ws.toArray = (vs ++ ws).toArray := by simp
  refine concat_meets ⟨_, ho, rfl⟩ ⟨_, ho2, rfl⟩ noFill_list_add seq_list_add PySem.F.slot_list_add PySem.F.entry_list_add (PySem.F.args_list_add_2 _ _) (list_addW l b vs.toArray ws.toArray n n2 d1 d2 s1 s2 (by simpa using hz)) ⟨ho, ho2, ?_⟩
  rw [e]
  exact h
theorem op_catS : OpR X (binaryOp .Add) (fun x y H Q => ∃ a b xs ys, x = .ref a ∧ y = .ref b ∧ SqL X.K H a xs ∧ SqL X.K H b ys ∧ xs.length + ys.length ≤ sizeLine ∧ ∀ p, H p = none → Q (.ref p) (upd H p (.lst (xs ++ ys)))) := by
  intro pins s σ H x y v u Q I rx ry h
  obtain ⟨a, b, xs, ys, rfl, rfl, ha, hb, hz, q⟩ := h
  cases rx
  cases ry
  obtain ⟨its, r1, p1, _⟩ := I.list ha
  obtain ⟨its2, r2, p2, _⟩ := I.list hb
  refine cat_lists p1.isList p2.isList ?_ (by rw [← r1.length, ← r2.length]; exact hz)
  exact ⟨.ref _, _, I.lnew (t' := s.toks) (r1.append r2) (by rw [List.length_append]; exact hz), rfl, q _ I.fresh⟩
theorem opAdd_ok (hK : F.K = X.K) : OpR X (binaryOp .Add) (OpV F Ex opAdd) := by
  intro pins s σ H x y v u Q I rx ry ⟨μ, ps, G, r, g, p⟩
  unfold opAdd at p
  split at p
  · obtain ⟨_, _, e, r1, r2⟩ := Reps.two_inv r
    cases e
    exact op_add pins s σ H _ _ v u Q I rx ry ⟨_, _, rep_int r1, rep_int r2, p.here RV.int g⟩
  · obtain ⟨_, _, e, r1, r2⟩ := Reps.two_inv r
    cases e
    split at p
    · rename_i hz
      exact op_add_str pins s σ H _ _ v u Q I rx ry ⟨_, _, rep_str r1, rep_str r2, hz, p.here RV.str g⟩
    · exact (show False from p).elim
  · obtain ⟨_, _, e, r1, r2⟩ := Reps.two_inv r
    cases e
    split at p
    · rename_i hz
      obtain ⟨a, vs, e1, z1, st1, rr1⟩ := rep_tup r1
      obtain ⟨b, ws, e2, z2, st2, rr2⟩ := rep_tup r2
      have l1 := rr1.length
      have l2 := rr2.length
      refine op_catF pins s σ H _ _ v u Q I rx ry ⟨a, b, vs, ws, e1, e2, by rw [← hK]; exact st1.sq, by rw [← hK]; exact st2.sq, by omega, fun h0 => ?_, fun _ h0 => ?_, fun _ _ => p.tup g (rr1.append rr2) (by rw [List.length_append]; omega)⟩
      · rw [h0] at l1
        have := List.eq_nil_of_length_eq_zero l1
        rw [this, List.nil_append] at p
        rw [← e2]
        exact p.here r2 g
      · rw [h0] at l2
        have := List.eq_nil_of_length_eq_zero l2
        rw [this, List.append_nil] at p
        rw [← e1]
        exact p.here r1 g
    · exact (show False from p).elim
  · obtain ⟨_, _, e, r1, r2⟩ := Reps.two_inv r
    cases e
    split at p
    · rename_i ea eb
      split at p
      · rename_i hz
        obtain ⟨a, vs, e1, z1, st1, rr1⟩ := asL_rep ea r1 g
        obtain ⟨b, ws, e2, z2, st2, rr2⟩ := asL_rep eb r2 g
        have l1 := rr1.length
        have l2 := rr2.length
        exact op_catS pins s σ H _ _ v u Q I rx ry ⟨a, b, vs, ws, e1, e2, by rw [← hK]; exact st1, by rw [← hK]; exact st2, by omega, p.lst g (rr1.append rr2) (by rw [List.length_append]; omega)⟩
      · exact (show False from p).elim
    · exact (show False from p).elim
  · exact (show False from p).elim
/-! ### the other operators on ints -/
def opII (C : Int → Int → Bool) (f : Int → Int → PV) (ps : List PV) (G : GH) : Res PV := match ps with
  | [.int i, .int j] => if C i j = true then .ok (f i j) G else .bad
  | _ => .bad
theorem opII_ok {op : Value → Value → Sem Value} {C : Int → Int → Bool} {D : Int → Int → Prop} {f : Int → Int → PV} {fv : Int → Int → V} (ho : OpR X op (rI D fv)) (hD : ∀ i j, C i j = true → D i j) (hf : ∀ i j μ H, RV F μ H (f i j) (fv i j)) : OpR X op (OpV F Ex (opII C f)) := by
  intro pins s σ H x y v u Q I rx ry ⟨μ, ps, G, r, g, p⟩
  unfold opII at p
  split at p
  · obtain ⟨_, _, e, r1, r2⟩ := Reps.two_inv r
    cases e
    split at p
    · rename_i hc
      exact ho pins s σ H _ _ v u Q I rx ry ⟨_, _, rep_int r1, rep_int r2, hD _ _ hc, p.here (hf _ _ _ _) g⟩
    · exact (show False from p).elim
  · exact (show False from p).elim
theorem rI_of {op : Value → Value → Sem Value} {fv : Int → Int → V} (ho : OpR X op (rI0 fv)) : OpR X op (rI (fun _ _ => True) fv) := fun pins s σ H x y v u Q I rx ry ⟨i, j, e1, e2, _, q⟩ => ho pins s σ H x y v u Q I rx ry ⟨i, j, e1, e2, q⟩
def opSub := opII (fun _ _ => true) fun i j => .int (i - j)
def opMod := opII (fun _ j => decide (j ≠ 0)) fun i j => .int (i.fmod j)
def opDiv := opII (fun _ j => decide (j ≠ 0 ∧ j.natAbs < 1073741824)) fun i j => .int (i.fdiv j)
def opPow := opII (fun i j => decide (0 ≤ j ∧ j ≤ 1000000 ∧ i.natAbs < 2 ^ 64)) fun i j => .int (i ^ j.toNat)
theorem opSub_ok : OpR X (binaryOp .Sub) (OpV F Ex opSub) := opII_ok (rI_of op_sub) (fun _ _ _ => trivial) fun _ _ _ _ => RV.int
theorem opMod_ok : OpR X (binaryOp .Mod) (OpV F Ex opMod) := opII_ok op_modN (fun _ _ h => of_decide_eq_true h) fun _ _ _ _ => RV.int
theorem opDiv_ok : OpR X (binaryOp .FloorDiv) (OpV F Ex opDiv) := opII_ok op_fdivN (fun i j h => (show j ≠ 0 ∧ j.natAbs < 1073741824 from of_decide_eq_true h)) fun _ _ _ _ => RV.int
theorem opPow_ok : OpR X (binaryOp .Pow) (OpV F Ex opPow) := opII_ok op_pow (fun i j h => (show 0 ≤ j ∧ j ≤ 1000000 ∧ i.natAbs < 2 ^ 64 from of_decide_eq_true h)) fun _ _ _ _ => RV.int
/-! ### times -/
def repS (x : Str) (k : Nat) : Str := ⟨(List.replicate k x.cps).foldl (· ++ ·) #[]⟩
def opMul (ps : List PV) (G : GH) : Res PV := match ps with
  | [.int i, .int j] => if (-(2 ^ 64) < i ∧ i < 2 ^ 64) ∨ (-(2 ^ 64) < j ∧ j < 2 ^ 64) then .ok (.int (i * j)) G else .bad
  | [.str x, .int j] => if 2 ≤ j ∧ j ≤ 1000 ∧ 0 < x.length ∧ x.length ≤ 1000 then .ok (.str (repS x j.toNat)) G else .bad
  | [.tup a, .int j] => if 2 ≤ j ∧ j ≤ 1000 ∧ a.length ≤ 1000 then .ok (.tup (List.replicate j.toNat a).flatten) G else .bad
  | _ => .bad
theorem Reps.rep {ps : List PV} {vs : List V} (r : Reps F μ H ps vs) : ∀ k : Nat, Reps F μ H (List.replicate k ps).flatten (List.replicate k vs).flatten
  | 0 => .nil
  | k + 1 => by
    rw [List.replicate_succ, List.flatten_cons, List.replicate_succ, List.flatten_cons]
    exact r.append (Reps.rep r k)
theorem foldl_app_size (x : Array Nat) : ∀ (k : Nat) (a : Array Nat), ((List.replicate k x).foldl (· ++ ·) a).size = a.size + k * x.size
  | 0, a => by simp
  | k + 1, a => by
    rw [List.replicate_succ, List.foldl_cons, foldl_app_size x k]
    rw [Array.size_append, Nat.succ_mul]; omega
theorem op_mul_str : OpR X (binaryOp .Mult) (fun x y H Q => ∃ z j, x = .str z ∧ y = .int j ∧ (2 ≤ j ∧ j ≤ 1000 ∧ 0 < z.length ∧ z.length ≤ 1000) ∧ Q (.str (repS z j.toNat)) H) := by
  intro pins s σ H x y v u Q I rx ry h
  obtain ⟨z, j, rfl, rfl, ⟨h1, h2, h3, h4⟩, q⟩ := h
  obtain ⟨t, rfl⟩ := rx
  obtain ⟨t', rfl⟩ := ry
  have hm : z.length * j.toNat ≤ 1000 * 1000 := Nat.mul_le_mul h4 (by omega)
  refine PySem.P.mul_str ?_ (fun _ _ => ?_) (fun _ _ => ?_) ?_
  · have a1 : ¬ j < -(2 ^ 63 : Int) := by omega
    have a2 : ¬ j ≥ 2 ^ 63 := by omega
    rw [decide_eq_false a1, decide_eq_false a2]; rfl
  · have : (1000 : Int) ≤ (2 ^ 63 - 1) / j := by
      apply Int.le_ediv_of_mul_le (by omega)
      have : 1000 * j ≤ 1000 * 1000 := by omega
      omega
    omega
  · have : sizeLine = 16777216 := sizeLine_eq
    show decide _ = false
    apply decide_eq_false
    omega
  · have c1 : ¬ j < 1 := by omega
    have c2 : ¬ (j == 1 || z.length == 0) = true := by
      simp only [Bool.or_eq_true, beq_iff_eq]
      omega
    rw [if_neg c1, if_neg c2]
    refine ⟨?_, .str _, H, I.tok _, ⟨_, rfl⟩, q⟩
    show ((List.replicate j.toNat z.cps).foldl (· ++ ·) #[]).size ≤ sizeLine
    rw [foldl_app_size]
    have : sizeLine = 16777216 := sizeLine_eq
    have e : z.cps.size = z.length := rfl
    rw [e, Nat.mul_comm]
    simp
    omega
theorem opMul_ok (hK : F.K = X.K) : OpR X (binaryOp .Mult) (OpV F Ex opMul) := by
  intro pins s σ H x y v u Q I rx ry ⟨μ, ps, G, r, g, p⟩
  unfold opMul at p
  split at p
  · obtain ⟨_, _, e, r1, r2⟩ := Reps.two_inv r
    cases e
    split at p
    · rename_i hc
      exact op_mul pins s σ H _ _ v u Q I rx ry ⟨_, _, rep_int r1, rep_int r2, hc, p.here RV.int g⟩
    · exact (show False from p).elim
  · obtain ⟨_, _, e, r1, r2⟩ := Reps.two_inv r
    cases e
    split at p
    · rename_i hc
      exact op_mul_str pins s σ H _ _ v u Q I rx ry ⟨_, _, rep_str r1, rep_int r2, hc, p.here RV.str g⟩
    · exact (show False from p).elim
  · obtain ⟨_, _, e, r1, r2⟩ := Reps.two_inv r
    cases e
    split at p
    · rename_i a0 j hc
      obtain ⟨a, vs, e1, z1, st1, rr1⟩ := rep_tup r1
      have l1 := rr1.length
      by_cases h0 : a0 = []
      · subst h0
        cases rr1
        have e0 : (List.replicate j.toNat ([] : List PV)).flatten = [] := by
          induction j.toNat with
          | zero => rfl
          | succ k ih => rw [List.replicate_succ, List.flatten_cons, ih]; rfl
        rw [e0] at p
        exact op_rep0 pins s σ H _ _ v u Q I rx ry ⟨a, _, e1, rep_int r2, by rw [← hK]; exact st1.sq, hc.1, hc.2.1, by rw [← e1]; exact p.here r1 g⟩
      refine op_repF pins s σ H _ _ v u Q I rx ry ⟨a, _, vs, e1, rep_int r2, by rw [← hK]; exact st1.sq, fun h1 => h0 (List.eq_nil_of_length_eq_zero (by rw [l1, h1]; rfl)), hc.1, hc.2.1, by omega, p.tup g (rr1.rep _) ?_⟩
      rw [PyProof.Rows.lm_len_rep_flat]
      have : sizeLine = 16777216 := sizeLine_eq
      have a1 : j.toNat * vs.length ≤ 1000 * 1000 := Nat.mul_le_mul (by omega) (by omega)
      omega
    · exact (show False from p).elim
  · exact (show False from p).elim
def opNeg (ps : List PV) (G : GH) : Res PV := match ps with
  | [.int i] => .ok (.int (-i)) G
  | _ => .bad
theorem opNeg_ok : UnR X (unaryOp .USub) (fun x H Q => RdV F Ex opNeg [x] H Q) := by
  intro pins s σ H x v Q I rx ⟨μ, ps, G, r, g, p⟩
  unfold opNeg at p
  split at p
  · obtain ⟨_, e, r1⟩ := Reps.one_inv r
    cases e
    exact un_neg pins s σ H _ v Q I rx ⟨_, rep_int r1, p.here RV.int g⟩
  · exact (show False from p).elim
end
end EV
end
section
set_option Elab.async false
set_option linter.all false
set_option maxRecDepth 100000
/-! Ev9: comparisons, places, slices, built-ins by values. -/
namespace EV
open PySem PySem.Spec PyProof.Rows L2
/-! ### data -/
mutual
def toD : PV → Option PyData
  | .non => some .none
  | .bl b => some (.bool b)
  | .int i => some (.int i)
  | .str x => some (.str x)
  | .tup ps => (toDs ps).map .tuple
  | .lst ps => (toDs ps).map .list
  | .sls ps => (toDs ps).map .list
  | .obj _ => none
def toDs : List PV → Option (List PyData)
  | [] => some []
  | p :: ps => match toD p, toDs ps with
    | some d, some ds => some (d :: ds)
    | _, _ => none
end
/-- .. where an object of ours may stand on top -/
def toDG (G : GH) (p : PV) : Option PyData := match p with
  | .obj n => match G[n]? with
    | some (.lst ps) => (toDs ps).map .list
    | _ => none
  | p => toD p
section
variable {X : Cx} {F : Fx} {Ex : XK} {μ : Mu} {H : Hp} {G : GH}
mutual
theorem toD_dp : ∀ {p : PV} {v : V} {d : PyData}, toD p = some d → Rep F μ H p v → Dp F.K H v d
  | .non, v, d, e, r => by simp only [toD, Option.some.injEq] at e; subst e; rw [rep_non r]; exact .non
  | .bl b, v, d, e, r => by simp only [toD, Option.some.injEq] at e; subst e; rw [rep_bl r]; exact .bl b
  | .int i, v, d, e, r => by simp only [toD, Option.some.injEq] at e; subst e; rw [rep_int r]; exact .int i
  | .str x, v, d, e, r => by simp only [toD, Option.some.injEq] at e; subst e; rw [rep_str r]; exact .str x
  | .tup ps, v, d, e, r => by
    simp only [toD, Option.map_eq_some_iff] at e
    obtain ⟨ds, e1, rfl⟩ := e
    obtain ⟨a, vs, rfl, _, st, rr⟩ := rep_tup r
    exact .tup st.sq (toDs_dp e1 rr)
  | .lst ps, v, d, e, r => by
    simp only [toD, Option.map_eq_some_iff] at e
    obtain ⟨ds, e1, rfl⟩ := e
    obtain ⟨a, vs, rfl, _, st, rr⟩ := rep_lst r
    exact .lst (SqL.of st.2) (toDs_dp e1 rr)
  | .sls ps, v, d, e, r => by
    simp only [toD, Option.map_eq_some_iff] at e
    obtain ⟨ds, e1, rfl⟩ := e
    obtain ⟨a, vs, rfl, _, st, rr⟩ := rep_sls r
    exact .lst st.sq (toDs_dp e1 rr)
  | .obj n, v, d, e, r => by simp only [toD] at e; cases e
theorem toDs_dp : ∀ {ps : List PV} {vs : List V} {ds : List PyData}, toDs ps = some ds → Reps F μ H ps vs → DpAll F.K H vs ds
  | [], vs, ds, e, r => by simp only [toDs, Option.some.injEq] at e; subst e; rw [r.nil_inv]; exact .nil
  | p :: ps, vs, ds, e, r => by
    obtain ⟨v, w, rfl, r1, rr⟩ := r.cons_inv
    simp only [toDs] at e
    split at e
    · rename_i d ds' e1 e2
      cases e
      exact .cons (toD_dp e1 r1) (toDs_dp e2 rr)
    · cases e
end
theorem toDG_dp {p : PV} {v : V} {d : PyData} (e : toDG G p = some d) (r : Rep F μ H p v) (g : HRep F μ H G) : Dp F.K H v d := by
  unfold toDG at e
  split at e
  · rename_i n
    split at e
    · rename_i ps eo
      rw [Option.map_eq_some_iff] at e
      obtain ⟨ds, e1, rfl⟩ := e
      obtain ⟨a, rfl, ha⟩ := rep_obj r
      obtain ⟨vs, q, z, rr⟩ := g.obj n a _ ha eo
      exact .lst (SqL.of q) (toDs_dp e1 rr)
    · cases e
  · exact toD_dp e r
/-! ### == and != -/
def scalP : PV → PV → Option Bool
  | .non, .non => some true
  | .int a, .int b => some (decide (a = b))
  | .bl a, .bl b => some (decide (a = b))
  | .str a, .str b => some (decide (a = b))
  | .non, .int _ => some false | .int _, .non => some false | .non, .bl _ => some false | .bl _, .non => some false | .non, .str _ => some false | .str _, .non => some false
  | .int _, .str _ => some false | .str _, .int _ => some false | .bl _, .str _ => some false | .str _, .bl _ => some false
  | _, _ => none
def eqD (a b : PyData) : Option Bool := if SeqAt.shaped a = true ∧ SeqAt.shaped b = true then some (PyData.eqv a b) else none
def eqP (G : GH) (x y : PV) : Option Bool := match scalP x y with
  | some b => some b
  | none => match toDG G x, toDG G y with
    | some a, some b => eqD a b
    | _, _ => none
def opEqN (neg : Bool) (ps : List PV) (G : GH) : Res PV := match ps with
  | [x, y] => match eqP G x y with
    | some b => .ok (.bl (if neg = true then !b else b)) G
    | none => .bad
  | _ => .bad
theorem scalP_rep {x y : PV} {v w : V} {b : Bool} (e : scalP x y = some b) (rx : Rep F μ H x v) (ry : Rep F μ H y w) : scal v w = true ∧ decide (v = w) = b := by
  cases x <;> cases y <;> simp only [scalP, Option.some.injEq] at e <;> first | (cases e; done) | skip
  all_goals simp only [Rep] at rx ry
  all_goals subst rx ry e
  all_goals simp [scal]
theorem opEq_gen (neg : Bool) {op : Value → Value → Sem Value} (h1 : OpR X op (fun x y H Q => scal x y = true ∧ Q (.bl (if neg = true then !decide (x = y) else decide (x = y))) H))
    (h2 : OpR X op (fun x y H Q => ∃ d e, Dp X.K H x d ∧ Dp X.K H y e ∧ SeqAt.shaped d = true ∧ SeqAt.shaped e = true ∧ Q (.bl (if neg = true then !PyData.eqv d e else PyData.eqv d e)) H)) (hK : F.K = X.K) : OpR X op (OpV F Ex (opEqN neg)) := by
  intro pins s σ H x y v u Q I rx ry ⟨μ, ps, G, r, g, p⟩
  unfold opEqN at p
  split at p
  · obtain ⟨_, _, e, r1, r2⟩ := Reps.two_inv r
    cases e
    split at p
    · rename_i b eb
      unfold eqP at eb
      split at eb
      · rename_i b' es
        cases eb
        obtain ⟨s1, s2⟩ := scalP_rep es r1 r2
        refine h1 pins s σ H _ _ v u Q I rx ry ⟨s1, ?_⟩
        rw [s2]
        exact p.here RV.bl g
      · split at eb
        · rename_i d1 d2 e1 e2
          unfold eqD at eb
          split at eb
          · rename_i hs
            cases eb
            exact h2 pins s σ H _ _ v u Q I rx ry ⟨d1, d2, by rw [← hK]; exact toDG_dp e1 r1 g, by rw [← hK]; exact toDG_dp e2 r2 g, hs.1, hs.2, p.here RV.bl g⟩
          · cases eb
        · cases eb
    · exact (show False from p).elim
  · exact (show False from p).elim
abbrev opEq := opEqN false
abbrev opNe := opEqN true
theorem opEq_ok (hK : F.K = X.K) (hu : X.A.units + 64 < cLine) : OpR X (compareOp .Eq) (OpV F Ex opEq) := opEq_gen false op_eq (op_eqD hu) hK
theorem opNe_ok (hK : F.K = X.K) (hu : X.A.units + 64 < cLine) : OpR X (compareOp .NotEq) (OpV F Ex opNe) := opEq_gen true op_ne (op_neD hu) hK
/-! ### is None, is not None -/
def isNon : PV → Bool
  | .non => true
  | _ => false
def opIsN (neg : Bool) (ps : List PV) (G : GH) : Res PV := match ps with
  | [x, .non] => .ok (.bl (if neg = true then !isNon x else isNon x)) G
  | _ => .bad
theorem rep_isnon {x : PV} {v : V} (r : Rep F μ H x v) : decide (v = .non) = isNon x := by
  cases x <;> simp only [Rep] at r
  · subst r; rfl
  · subst r; rfl
  · subst r; rfl
  · subst r; rfl
  · obtain ⟨a, vs, rfl, _⟩ := r; rfl
  · obtain ⟨a, vs, rfl, _⟩ := r; rfl
  · obtain ⟨a, vs, rfl, _⟩ := r; rfl
  · obtain ⟨a, rfl, _⟩ := r; rfl
theorem opIs_ok : OpR X (compareOp .Is) (OpV F Ex (opIsN false)) := by
  intro pins s σ H x y v u Q I rx ry ⟨μ, ps, G, r, g, p⟩
  unfold opIsN at p
  split at p
  · obtain ⟨_, _, e, r1, r2⟩ := Reps.two_inv r
    cases e
    refine op_isN pins s σ H _ _ v u Q I rx ry ⟨rep_non r2, ?_⟩
    rw [rep_isnon r1]
    exact p.here RV.bl g
  · exact (show False from p).elim
theorem opIsNot_ok : OpR X (compareOp .IsNot) (OpV F Ex (opIsN true)) := by
  intro pins s σ H x y v u Q I rx ry ⟨μ, ps, G, r, g, p⟩
  unfold opIsN at p
  split at p
  · obtain ⟨_, _, e, r1, r2⟩ := Reps.two_inv r
    cases e
    refine op_notN pins s σ H _ _ v u Q I rx ry ⟨rep_non r2, ?_⟩
    rw [rep_isnon r1]
    exact p.here RV.bl g
  · exact (show False from p).elim
/-! ### order -/
def cltS (x y : Str) : Bool := decide (x.cps.toList < y.cps.toList)
def someD : PyData → Bool
  | .none => false
  | _ => true
/-- an order of data alike, place by place -/
def ordD (G : GH) (x y : PV) (f : PyData → PyData → Bool) : Res PV := match toDG G x, toDG G y with
  | some d, some e => if (PySem.W.alike d e && someD d && decide (d.depth ≤ 60)) = true then .ok (.bl (f d e)) G else .bad
  | _, _ => .bad
def ltD (d e : PyData) : Bool := PySem.W.dataLt d e
def gtD (d e : PyData) : Bool := PySem.W.dataLt e d
def leD (d e : PyData) : Bool := !PySem.W.dataLt e d
def geD (d e : PyData) : Bool := !PySem.W.dataLt d e
def opLt (ps : List PV) (G : GH) : Res PV := match ps with
  | [.int i, .int j] => .ok (.bl (decide (i < j))) G
  | [.str x, .str y] => .ok (.bl (cltS x y)) G
  | [x, y] => ordD G x y ltD
  | _ => .bad
def opLe (ps : List PV) (G : GH) : Res PV := match ps with
  | [.int i, .int j] => .ok (.bl (decide (i ≤ j))) G
  | [.str x, .str y] => .ok (.bl (!cltS y x)) G
  | [x, y] => ordD G x y leD
  | _ => .bad
def opGt (ps : List PV) (G : GH) : Res PV := match ps with
  | [.int i, .int j] => .ok (.bl (decide (j < i))) G
  | [.str x, .str y] => .ok (.bl (cltS y x)) G
  | [x, y] => ordD G x y gtD
  | _ => .bad
def opGe (ps : List PV) (G : GH) : Res PV := match ps with
  | [.int i, .int j] => .ok (.bl (decide (j ≤ i))) G
  | [.str x, .str y] => .ok (.bl (!cltS x y)) G
  | [x, y] => ordD G x y geD
  | _ => .bad
def rOrdD (K : PySem.W.Frag) (f : PyData → PyData → Bool) : R2 := fun x y H Q => ∃ d e, Dp K H x d ∧ Dp K H y e ∧ PySem.W.alike d e = true ∧ d ≠ .none ∧ d.depth ≤ 60 ∧ Q (.bl (f d e)) H
theorem op_ltD (hu : X.A.units + 64 < cLine) : OpR X (compareOp .Lt) (rOrdD X.K ltD) := by
  intro pins s σ H x y v u Q I rx ry ⟨d, e, hd, he, ha, hn, hp, q⟩
  obtain ⟨as, r1⟩ := Dp.reads I d x v hd rx
  obtain ⟨bs, r2⟩ := Dp.reads I e y u he ry
  exact PySem.W.lt_data r1 r2 ha hn (by omega) ⟨.bl _, H, I, rfl, q⟩
theorem op_gtD (hu : X.A.units + 64 < cLine) : OpR X (compareOp .Gt) (rOrdD X.K gtD) := by
  intro pins s σ H x y v u Q I rx ry ⟨d, e, hd, he, ha, hn, hp, q⟩
  obtain ⟨as, r1⟩ := Dp.reads I d x v hd rx
  obtain ⟨bs, r2⟩ := Dp.reads I e y u he ry
  exact PySem.W.gt_data r1 r2 ha hn (by omega) ⟨.bl _, H, I, rfl, q⟩
theorem op_leD (hu : X.A.units + 64 < cLine) : OpR X (compareOp .LtE) (rOrdD X.K leD) := by
  intro pins s σ H x y v u Q I rx ry ⟨d, e, hd, he, ha, hn, hp, q⟩
  obtain ⟨as, r1⟩ := Dp.reads I d x v hd rx
  obtain ⟨bs, r2⟩ := Dp.reads I e y u he ry
  exact PySem.W.le_data r1 r2 ha hn (by omega) ⟨.bl _, H, I, rfl, q⟩
theorem op_geD (hu : X.A.units + 64 < cLine) : OpR X (compareOp .GtE) (rOrdD X.K geD) := by
  intro pins s σ H x y v u Q I rx ry ⟨d, e, hd, he, ha, hn, hp, q⟩
  obtain ⟨as, r1⟩ := Dp.reads I d x v hd rx
  obtain ⟨bs, r2⟩ := Dp.reads I e y u he ry
  exact PySem.W.ge_data r1 r2 ha hn (by omega) ⟨.bl _, H, I, rfl, q⟩
theorem ord_gen {op : Value → Value → Sem Value} {fi : Int → Int → Bool} {fs : Str → Str → Bool} {fd : PyData → PyData → Bool} {m : List PV → GH → Res PV} (hK : F.K = X.K) (hi : OpR X op (rI0 fun i j => .bl (fi i j))) (hs : OpR X op (fun x y H Q => ∃ i j, x = .str i ∧ y = .str j ∧ Q (.bl (fs i j)) H)) (hd : OpR X op (rOrdD X.K fd))
    (hm : m = fun ps G => match ps with
      | [.int i, .int j] => .ok (.bl (fi i j)) G
      | [.str x, .str y] => .ok (.bl (fs x y)) G
      | [x, y] => ordD G x y fd
      | _ => .bad) : OpR X op (OpV F Ex m) := by
  subst hm
  intro pins s σ H x y v u Q I rx ry ⟨μ, ps, G, r, g, p⟩
  dsimp only at p
  split at p
  · obtain ⟨_, _, e, r1, r2⟩ := Reps.two_inv r
    cases e
    exact hi pins s σ H _ _ v u Q I rx ry ⟨_, _, rep_int r1, rep_int r2, p.here RV.bl g⟩
  · obtain ⟨_, _, e, r1, r2⟩ := Reps.two_inv r
    cases e
    exact hs pins s σ H _ _ v u Q I rx ry ⟨_, _, rep_str r1, rep_str r2, p.here RV.bl g⟩
  · obtain ⟨_, _, e, r1, r2⟩ := Reps.two_inv r
    cases e
    unfold ordD at p
    split at p
    · rename_i d e e1 e2
      split at p
      · rename_i hc
        simp only [Bool.and_eq_true, decide_eq_true_eq] at hc
        refine hd pins s σ H _ _ v u Q I rx ry ⟨d, e, by rw [← hK]; exact toDG_dp e1 r1 g, by rw [← hK]; exact toDG_dp e2 r2 g, hc.1.1, fun h => ?_, hc.2, p.here RV.bl g⟩
        rw [h] at hc
        exact absurd hc.1.2 (by decide)
      · exact (show False from p).elim
    · exact (show False from p).elim
  · exact (show False from p).elim
theorem opLt_ok (hK : F.K = X.K) (hu : X.A.units + 64 < cLine) : OpR X (compareOp .Lt) (OpV F Ex opLt) := ord_gen hK op_lt op_lt_str (op_ltD hu) rfl
theorem opLe_ok (hK : F.K = X.K) (hu : X.A.units + 64 < cLine) : OpR X (compareOp .LtE) (OpV F Ex opLe) := ord_gen hK op_le op_le_str (op_leD hu) rfl
theorem opGt_ok (hK : F.K = X.K) (hu : X.A.units + 64 < cLine) : OpR X (compareOp .Gt) (OpV F Ex opGt) := ord_gen hK op_gt op_gt_str (op_gtD hu) rfl
theorem opGe_ok (hK : F.K = X.K) (hu : X.A.units + 64 < cLine) : OpR X (compareOp .GtE) (OpV F Ex opGe) := ord_gen hK op_ge op_ge_str (op_geD hu) rfl
/-! ### in: signs in texts, scalars in lists and tuples -/
def flatP : PV → Bool
  | .non => true
  | .bl _ => true
  | .int _ => true
  | .str _ => true
  | _ => false
def eqFl : PV → PV → Bool
  | .non, .non => true
  | .bl a, .bl b => a == b
  | .bl a, .int b => (if a then 1 else 0) == b
  | .int a, .bl b => a == (if b then 1 else 0)
  | .int a, .int b => a == b
  | .str a, .str b => a == b
  | _, _ => false
/-- what a list or a tuple holds -/
def asS (p : PV) (G : GH) : Option (List PV) := match p with
  | .tup ps => some ps
  | p => asL p G
def inP (G : GH) (x y : PV) : Option Bool := match x, y with
  | .str a, .str b => if a.cps.size = 1 then some (decide (a.cps.getD 0 0 ∈ b.cps.toList)) else none
  | x, y => match asS y G with
    | some ps => if (flatP x && ps.all flatP) = true then some (ps.any fun z => eqFl z x) else none
    | none => none
def opInN (neg : Bool) (ps : List PV) (G : GH) : Res PV := match ps with
  | [x, y] => match inP G x y with
    | some b => .ok (.bl (if neg = true then !b else b)) G
    | none => .bad
  | _ => .bad
theorem flat_rep {x : PV} {v : V} (rx : Rep F μ H x v) (e : flatP x = true) : flatV v = true := by
  cases x <;> simp only [flatP] at e <;> first | (cases e; done) | skip
  all_goals (simp only [Rep] at rx; subst rx; rfl)
theorem eqFl_rep {x y : PV} {v w : V} (rx : Rep F μ H x v) (ry : Rep F μ H y w) (ex : flatP x = true) (ey : flatP y = true) : eqV v w = eqFl x y := by
  cases x <;> simp only [flatP] at ex <;> first | (cases ex; done) | skip
  all_goals (cases y <;> simp only [flatP] at ey <;> first | (cases ey; done) | skip)
  all_goals (simp only [Rep] at rx ry; subst rx ry; simp [eqV, eqFl])
theorem any_flat {x : PV} {v : V} (rx : Rep F μ H x v) (ex : flatP x = true) : ∀ {ps : List PV} {vs : List V}, ps.all flatP = true → Reps F μ H ps vs → vs.all flatV = true ∧ inV v vs = ps.any fun z => eqFl z x
  | [], vs, _, r => by rw [r.nil_inv]; exact ⟨rfl, rfl⟩
  | y :: ps, vs, e, r => by
    obtain ⟨w, ws, rfl, r1, rr⟩ := r.cons_inv
    simp only [List.all_cons, Bool.and_eq_true] at e
    obtain ⟨h1, h2⟩ := any_flat rx ex e.2 rr
    refine ⟨by simp only [List.all_cons, Bool.and_eq_true]; exact ⟨flat_rep r1 e.1, h1⟩, ?_⟩
    unfold inV at h2 ⊢
    rw [List.any_cons, List.any_cons, h2, eqFl_rep r1 rx e.1 ex]
theorem asS_rep {p : PV} {ps : List PV} {v : V} (e : asS p G = some ps) (r : Rep F μ H p v) (g : HRep F μ H G) : ∃ a vs, v = .ref a ∧ vs.length ≤ sizeLine ∧ (SqL F.K H a vs ∨ SqT F.K H a vs) ∧ Reps F μ H ps vs := by
  unfold asS at e
  split at e
  · cases e
    obtain ⟨a, vs, e1, z, st, rr⟩ := rep_tup r
    exact ⟨a, vs, e1, z, .inr st.sq, rr⟩
  · obtain ⟨a, vs, e1, z, st, rr⟩ := asL_rep e r g
    exact ⟨a, vs, e1, z, .inl st, rr⟩
theorem one_sign {a : Str} (h : a.cps.size = 1) : a = ⟨#[a.cps.getD 0 0]⟩ := by
  obtain ⟨⟨l⟩⟩ := a
  have h : l.length = 1 := h
  match l, h with
  | [c], _ => rfl
theorem opIn_gen (neg : Bool) {op : Value → Value → Sem Value} (h1 : OpR X op (fun x y H Q => ∃ (c : Nat) (z : Str), x = .str ⟨#[c]⟩ ∧ y = .str z ∧ Q (.bl (if neg = true then !decide (c ∈ z.cps.toList) else decide (c ∈ z.cps.toList))) H))
    (h2 : OpR X op (rIn X.K neg)) (hK : F.K = X.K) : OpR X op (OpV F Ex (opInN neg)) := by
  intro pins s σ H x y v u Q I rx ry ⟨μ, ps, G, r, g, p⟩
  unfold opInN at p
  split at p
  · obtain ⟨_, _, e, r1, r2⟩ := Reps.two_inv r
    cases e
    split at p
    · rename_i b eb
      unfold inP at eb
      split at eb
      · split at eb
        · rename_i hc
          cases eb
          exact h1 pins s σ H _ _ v u Q I rx ry ⟨_, _, by rw [rep_str r1]; exact congrArg V.str (one_sign hc), rep_str r2, p.here RV.bl g⟩
        · cases eb
      · split at eb
        · rename_i ps es
          split at eb
          · rename_i hf
            cases eb
            simp only [Bool.and_eq_true] at hf
            obtain ⟨a, vs, rfl, z, st, rr⟩ := asS_rep es r2 g
            obtain ⟨k1, k2⟩ := any_flat r1 hf.1 hf.2 rr
            refine h2 pins s σ H _ _ v u Q I rx ry ⟨a, vs, rfl, by rw [← hK]; exact st, flat_rep r1 hf.1, k1, ?_⟩
            rw [k2]
            exact p.here RV.bl g
          · cases eb
        · cases eb
    · exact (show False from p).elim
  · exact (show False from p).elim
abbrev opIn := opInN false
abbrev opNotIn := opInN true
theorem opIn_ok (hK : F.K = X.K) : OpR X (compareOp .In) (OpV F Ex opIn) := opIn_gen false op_in_sign op_in_seq hK
theorem opNotIn_ok (hK : F.K = X.K) : OpR X (compareOp .NotIn) (OpV F Ex opNotIn) := opIn_gen true op_notIn_sign op_notIn_seq hK

/-! ### places and slices -/
def opIx (ps : List PV) (G : GH) : Res PV := match ps with
  | [.str z, .int i] => if z.length ≤ sizeLine then (match atI z.cps.toList i with
    | some c => .ok (.str ⟨#[c]⟩) G
    | none => .bad) else .bad
  | [x, .int i] => match asS x G with
    | some ps => (match atI ps i with
      | some p => .ok p G
      | none => .bad)
    | none => .bad
  | _ => .bad
theorem Reps.atI {ps : List PV} {vs : List V} {i : Int} {p : PV} (r : Reps F μ H ps vs) (e : L2.atI ps i = some p) : ∃ v, L2.atI vs i = some v ∧ Rep F μ H p v := by
  unfold L2.atI at e ⊢
  rw [← r.length]
  cases z : ixN ps.length i with
  | none => rw [z] at e; cases e
  | some j =>
    rw [z] at e
    obtain ⟨v, h1, h2⟩ := r.get (show ps[j]? = some p from e)
    exact ⟨v, h1, h2⟩
theorem opIx_ok (hK : F.K = X.K) : IxR X (OpV F Ex opIx) := by
  intro value slice pins s σ H x y v u Q I rx ry ⟨μ, ps, G, r, g, p⟩ hsub
  unfold opIx at p
  split at p
  · obtain ⟨_, _, e, r1, r2⟩ := Reps.two_inv r
    cases e
    split at p
    · rename_i hz
      split at p
      · rename_i c ec
        exact ix_str value slice pins s σ H _ _ v u Q I rx ry ⟨_, _, c, rep_str r1, rep_int r2, hz, ec, p.here RV.str g⟩ hsub
      · exact (show False from p).elim
    · exact (show False from p).elim
  · obtain ⟨_, _, e, r1, r2⟩ := Reps.two_inv r
    cases e
    split at p
    · rename_i ps es
      split at p
      · rename_i q eq
        obtain ⟨a, vs, rfl, z, st, rr⟩ := asS_rep es r1 g
        obtain ⟨w, h1, h2⟩ := rr.atI eq
        rw [hK] at st
        rcases st with st | st
        · exact ix_list value slice pins s σ H _ _ v u Q I rx ry ⟨a, vs, _, w, rfl, rep_int r2, st, h1, p.here h2 g⟩ hsub
        · exact ix_tup value slice pins s σ H _ _ v u Q I rx ry ⟨a, vs, _, w, rfl, rep_int r2, st, h1, p.here h2 g⟩ hsub
      · exact (show False from p).elim
    · exact (show False from p).elim
  · exact (show False from p).elim
def cutP (xs : List PV) (lo hi : Option Int) : List PV := (xs.drop (HT.sIx xs.length 0 lo)).take (HT.sIx xs.length xs.length hi - HT.sIx xs.length 0 lo)
theorem Reps.cut {ps : List PV} {vs : List V} (r : Reps F μ H ps vs) (lo hi : Option Int) : Reps F μ H (cutP ps lo hi) (cutV vs lo hi) := by
  unfold cutP cutV
  rw [r.length]
  exact (r.drop _).take _
def opSl (x : PV) (lo hi : Option Int) (G : GH) : Res PV := match x with
  | .tup ps => .ok (.tup (cutP ps lo hi)) G
  | .str z => if z.length ≤ sizeLine then .ok (.str (cutS z lo hi)) G else .bad
  | x => match asL x G with
    | some ps => .ok (.lst (cutP ps lo hi)) G
    | none => .bad
theorem opSl_ok (hK : F.K = X.K) : SlR X (RdS F Ex opSl) := by
  intro pins s σ H x v vl vu lo hi sl Q I rx hs pl pu ⟨μ, q, G, r, g, p⟩
  unfold opSl at p
  split at p
  · obtain ⟨a, vs, rfl, z, st, rr⟩ := rep_tup r
    have hl := cutV_length vs lo hi
    refine sl_tupF pins s σ H _ v vl vu lo hi sl Q I rx hs pl pu ⟨a, vs, rfl, by rw [← hK]; exact st.sq, fun hw => ?_, fun _ => p.tup g (rr.cut lo hi) (Nat.le_trans hl z)⟩
    have e : cutV vs lo hi = vs := by
      unfold cutV
      rw [hw.1, hw.2]
      simp
    refine p.here ?_ g
    show Rep F μ H _ _
    simp only [Rep]
    refine ⟨a, vs, rfl, z, st, ?_⟩
    have := rr.cut lo hi
    rw [e] at this
    exact this
  · split at p
    · rename_i hz
      exact sl_str pins s σ H _ v vl vu lo hi sl Q I rx hs pl pu ⟨_, rep_str r, hz, p.here RV.str g⟩
    · exact (show False from p).elim
  · split at p
    · rename_i ps es
      obtain ⟨a, vs, rfl, z, st, rr⟩ := asL_rep es r g
      have hl := cutV_length vs lo hi
      exact sl_list pins s σ H _ v vl vu lo hi sl Q I rx hs pl pu ⟨a, vs, rfl, by rw [← hK]; exact st, p.lst g (rr.cut lo hi) (Nat.le_trans hl z)⟩
    · exact (show False from p).elim
end
end EV
end
section
set_option Elab.async false
set_option linter.all false
set_option maxRecDepth 100000
/-! Ev10: built-ins called by name, methods, isinstance, stores into lists. -/
namespace EV
open PySem PySem.Spec PyProof.Rows L2
section
variable {X : Cx} {F : Fx} {Ex : XK} {μ : Mu} {H : Hp} {G : GH}
def bLen (ps : List PV) (G : GH) : Res PV := match ps with
  | [.str z] => if z.length ≤ sizeLine then .ok (.int z.length) G else .bad
  | [x] => match asS x G with
    | some qs => .ok (.int qs.length) G
    | none => .bad
  | _ => .bad
theorem bLen_ok (hK : F.K = X.K) : CallR X (.builtin "len") (RdV F Ex bLen) := by
  intro pins s σ H xs us Q I rs ⟨μ, ps, G, r, g, p⟩
  unfold bLen at p
  split at p
  · obtain ⟨v, rfl, r1⟩ := Reps.one_inv r
    split at p
    · rename_i hz
      exact call_len_str pins s σ H _ us Q I rs ⟨_, by rw [rep_str r1], hz, p.here RV.int g⟩
    · exact (show False from p).elim
  · obtain ⟨v, rfl, r1⟩ := Reps.one_inv r
    split at p
    · rename_i qs es
      obtain ⟨a, vs, rfl, z, st, rr⟩ := asS_rep es r1 g
      rw [hK] at st
      refine call_len_seq pins s σ H _ us Q I rs ⟨a, vs, rfl, st, ?_⟩
      rw [← rr.length]
      exact p.here RV.int g
    · exact (show False from p).elim
  · exact (show False from p).elim
def bTup (ps : List PV) (G : GH) : Res PV := match ps with
  | [x] => match asS x G with
    | some qs => .ok (.tup qs) G
    | none => .bad
  | _ => .bad
theorem bTup_ok (hK : F.K = X.K) : CallR X (.type "tuple") (RdV F Ex bTup) := by
  intro pins s σ H xs us Q I rs ⟨μ, ps, G, r, g, p⟩
  unfold bTup at p
  split at p
  · obtain ⟨v, rfl, r1⟩ := Reps.one_inv r
    split at p
    · rename_i x qs es
      unfold asS at es
      split at es
      · cases es
        obtain ⟨a, vs, rfl, z, st, rr⟩ := rep_tup r1
        exact call_tupleF pins s σ H _ us Q I rs ⟨a, vs, rfl, .inr ⟨by rw [← hK]; exact st.sq, p.here r1 g⟩⟩
      · obtain ⟨a, vs, rfl, z, st, rr⟩ := asL_rep es r1 g
        exact call_tupleF pins s σ H _ us Q I rs ⟨a, vs, rfl, .inl ⟨by rw [← hK]; exact st, p.tup g rr z⟩⟩
    · exact (show False from p).elim
  · exact (show False from p).elim
/-- a new list at p, as a value or as an object of ours -/
theorem Post.newL {ob : Bool} {ps : List PV} {vs : List V} {Q : VK} (h : Post F (RV F) Ex μ H (if ob = true then .ok (.obj G.length) (G ++ [.lst ps]) else .ok (.lst ps) G) Q) (g : HRep F μ H G) (r : Reps F μ H ps vs) (z : vs.length ≤ sizeLine) :
    ∀ p, H p = none → Q (.ref p) (upd H p (.lst vs)) := by
  cases ob with
  | false => exact Post.lst h g r z
  | true =>
    intro p n
    refine (show Post F (RV F) Ex μ H (.ok (.obj G.length) (G ++ [.lst ps])) Q from h).ok (Ext.push g n) ?_ (g.push n ⟨vs, upd_same, z, r.mono (Ext.push g n)⟩)
    show Rep F _ _ _ _
    simp only [Rep]
    exact ⟨p, rfl, by rw [← g.len]; simp⟩
def bInt (ps : List PV) (G : GH) : Res PV := match ps with
  | [.int i] => .ok (.int i) G
  | [.bl k] => .ok (.int (if k = true then 1 else 0)) G
  | _ => .bad
/-! ### repr -/
def reprOk (d : PyData) : Bool := d.showable && !d.hasDict && decide (d.depth ≤ 150) && decide (d.shown.length ≤ sizeLine)
def bRepr (ps : List PV) (G : GH) : Res PV := match ps with
  | [x] => match toDG G x with
    | some d => if reprOk d = true then .ok (.str d.shown) G else .bad
    | none => .bad
  | _ => .bad
theorem bRepr_ok {k : Nat} (hK : F.K = X.K) (hr : Room k X.A) (hg : X.A.guards = some []) : CallR X (.builtin "repr") (RdV F Ex bRepr) := by
  intro pins s σ H xs us Q I rs ⟨μ, ps, G, r, g, p⟩
  unfold bRepr at p
  split at p
  · obtain ⟨v, rfl, r1⟩ := Reps.one_inv r
    obtain ⟨u, rfl, ru⟩ := vals1 rs
    split at p
    · rename_i d ed
      split at p
      · rename_i ho
        unfold reprOk at ho
        simp only [Bool.and_eq_true, Bool.not_eq_true', decide_eq_true_eq] at ho
        obtain ⟨⟨⟨h1, h2⟩, h3⟩, h4⟩ := ho
        have dp := toDG_dp ed r1 g
        rw [hK] at dp
        obtain ⟨as, rd⟩ := Dp.reads I d v u dp ru
        have hd : d.hasDict = true → sysModules ∉ as := fun e => by rw [h2] at e; cases e
        have hun := hr.un
        have fin : ∀ (h' : Heap) (t : Tok) (tk : Nat), (∀ b o, s.heap.get? b = some o → h'.get? b = some o) → EP X pins σ Q (.str d.shown t) { s with heap := h', toks := tk } := fun h' t tk hk =>
          ⟨.str d.shown, H, I.kept hk, ⟨_, rfl⟩, p.here RV.str g⟩
        cases rd with
        | none => exact PySem.P.repr_of_none (fin s.heap _ _ fun _ _ e => e)
        | bool b =>
          refine PySem.P.repr_of_bool ?_
          cases b
          · exact fin s.heap _ _ fun _ _ e => e
          · exact fin s.heap _ _ fun _ _ e => e
        | int i t => exact PySem.P.repr_of_int (of_decide_eq_true h1) (fin s.heap _ _ fun _ _ e => e)
        | str x t => exact PySem.P.repr_of_str (fin s.heap _ _ fun _ _ e => e) h4
        | list a1 a2 a3 a4 => exact repr_of_reads' (.list a1 a2 a3 a4) h1 hd hg (by omega) (fun _ _ e => e) (fun h' t tk hk => fin h' t tk hk) h4
        | tuple a1 a2 a3 a4 => exact repr_of_reads' (.tuple a1 a2 a3 a4) h1 hd hg (by omega) (fun _ _ e => e) (fun h' t tk hk => fin h' t tk hk) h4
        | dict a1 a2 a3 a4 a5 => exact absurd h2 (by simp [PyData.hasDict])
      · exact (show False from p).elim
    · exact (show False from p).elim
  · exact (show False from p).elim
end
end EV
end
section
set_option Elab.async false
set_option linter.all false
set_option maxRecDepth 100000
/-! Ev11: isinstance, methods, stores into lists, own defs as the evaluator has them. -/
namespace EV
open PySem PySem.Spec PyProof.Rows L2
section
variable {X : Cx} {F : Fx} {Ex : XK} {μ : Mu} {H : Hp} {G : GH}
/-! ### isinstance(x, T) -/
def tyP (G : GH) : PV → Option String
  | .non => some "NoneType"
  | .bl _ => some "bool"
  | .int _ => some "int"
  | .str _ => some "str"
  | .tup _ => some "tuple"
  | .lst _ => some "list"
  | .sls _ => some "list"
  | .obj n => match G[n]? with
    | some (.lst _) => some "list"
    | some (.dic _) => some "dict"
    | _ => none
theorem tyP_rep {p : PV} {v : V} {T : String} (e : tyP G p = some T) (r : Rep F μ H p v) (g : HRep F μ H G) : TyX F.K H v (.type T) := by
  cases p with
  | non => simp only [tyP, Option.some.injEq] at e; subst e; rw [rep_non r]; exact .base .non
  | bl b => simp only [tyP, Option.some.injEq] at e; subst e; rw [rep_bl r]; exact .base (.bl b)
  | int b => simp only [tyP, Option.some.injEq] at e; subst e; rw [rep_int r]; exact .base (.int b)
  | str b => simp only [tyP, Option.some.injEq] at e; subst e; rw [rep_str r]; exact .base (.str b)
  | tup ps =>
    simp only [tyP, Option.some.injEq] at e; subst e
    obtain ⟨a, vs, rfl, z, st, rr⟩ := rep_tup r
    rcases st with ⟨_, o, h, _⟩ | ⟨o, its, n, h1, h2, _⟩
    · exact .fTuple h
    · exact .kTuple h1 h2
  | lst ps =>
    simp only [tyP, Option.some.injEq] at e; subst e
    obtain ⟨a, vs, rfl, z, st, rr⟩ := rep_lst r
    exact .base (.lst st.2)
  | sls ps =>
    simp only [tyP, Option.some.injEq] at e; subst e
    obtain ⟨a, vs, rfl, z, st, rr⟩ := rep_sls r
    rcases st with ⟨_, h | ⟨o, h⟩⟩ | ⟨o, its, n, h1, h2, _⟩
    · exact .base (.lst h)
    · exact .base (.frz h)
    · exact .kList h1 h2
  | obj n =>
    obtain ⟨a, rfl, ha⟩ := rep_obj r
    simp only [tyP] at e
    split at e
    · rename_i ps eo
      cases e
      obtain ⟨vs, q, _⟩ := g.obj n a _ ha eo
      exact .base (.lst q)
    · rename_i ps eo
      cases e
      obtain ⟨vs, q, _⟩ := g.obj n a _ ha eo
      exact .base (.dK q)
    · cases e
def bIsi (T : String) (ps : List PV) (G : GH) : Res PV := match ps with
  | [x] => match (tyP G x).bind fun t => kitB t T with
    | some b => .ok (.bl b) G
    | none => .bad
  | _ => .bad
theorem ev_isi {e : Expr} {x y : Str} {T : String} {p p2 pos : Pos} {m : Env → GH → Res PV} (hK : F.K = X.K) (he : PE X e (TEv F Ex m)) (hg : Gl X x) (hm : X.mg x = none) (hv : bootBuiltins x = some (.builtin "isinstance")) (hn : x ≠ "__name__") (hdb : (x == ("__debug__" : Str)) = false)
    (hg2 : Gl X y) (hm2 : X.mg y = none) (hv2 : bootBuiltins y = some (.type T)) (hn2 : y ≠ "__name__") (hdb2 : (y == ("__debug__" : Str)) = false) (h1 : plainE e = true) : PE X (.Call (.Name x p) [e, .Name y p2] [] pos) (TEv F Ex (m1 m (bIsi T))) :=
  (pe_callB call_isi hg hm hv (pa_cons he (pa_cons (pe_bltn (v := .ty T) hg2 hm2 hv2 rfl hn2 hdb2) pa_nil rfl) (star_plain h1)) hn hdb (star_plain h1) rfl).weak fun σ H Q ⟨μ, ρ, G, s, g, q⟩ => by
    refine TEv.run s g q fun μ1 a G1 v H1 e1 r1 g1 s1 p1 => ?_
    unfold bIsi at p1
    simp only at p1
    split at p1
    · rename_i b eb
      obtain ⟨t, et, ek⟩ := Option.bind_eq_some_iff.mp eb
      have ty := tyP_rep et r1 g1
      rw [hK] at ty
      exact ⟨v, .ty T, .type t, .type T, b, rfl, .ty T, ty, kit_ty ek, p1.here RV.bl g1⟩
    · exact (show False from p1).elim

/-! ### methods -/
/-- the built-in type of a value, for its methods -/
def mMet (T : String) (mo : Env → GH → Res PV) (ms : Env → GH → Res (List PV)) (f : PV → List PV → GH → Res PV) : Env → GH → Res PV := fun ρ G => (mo ρ G).bind fun o G1 => if tyP G1 o = some T then (ms ρ G1).bind fun xs G2 => f o xs G2 else .bad
def RdM (F : Fx) (Ex : XK) (f : PV → List PV → GH → Res PV) : V → List V → Hp → VK → Prop := fun x vs H Q => ∃ μ p ps G, Rep F μ H p x ∧ Reps F μ H ps vs ∧ HRep F μ H G ∧ Post F (RV F) Ex μ H (f p ps G) Q
def mTy (T : String) : Bool := T == "str" || T == "list" || T == "dict"
theorem tyV_of {T : String} {K : PySem.W.Frag} {p : PV} {v : V} (hK : F.K = K) (e : tyP G p = some T) (hT : mTy T = true) (r : Rep F μ H p v) (g : HRep F μ H G) : tyV K T v H := by
  subst hK
  cases p with
  | non => simp only [tyP, Option.some.injEq] at e; subst e; cases hT
  | bl b => simp only [tyP, Option.some.injEq] at e; subst e; cases hT
  | int b => simp only [tyP, Option.some.injEq] at e; subst e; cases hT
  | str b => simp only [tyP, Option.some.injEq] at e; subst e; rw [rep_str r]; rfl
  | tup ps => simp only [tyP, Option.some.injEq] at e; subst e; cases hT
  | lst ps =>
    simp only [tyP, Option.some.injEq] at e; subst e
    obtain ⟨a, vs, rfl, z, st, rr⟩ := rep_lst r
    exact .inl ⟨rfl, vs, SqL.of st.2⟩
  | sls ps =>
    simp only [tyP, Option.some.injEq] at e; subst e
    obtain ⟨a, vs, rfl, z, st, rr⟩ := rep_sls r
    exact .inl ⟨rfl, vs, st.sq⟩
  | obj n =>
    obtain ⟨a, rfl, ha⟩ := rep_obj r
    simp only [tyP] at e
    split at e
    · rename_i ps eo
      cases e
      obtain ⟨vs, q, _⟩ := g.obj n a _ ha eo
      exact .inl ⟨rfl, vs, SqL.of q⟩
    · rename_i ps eo
      cases e
      obtain ⟨vs, q, _⟩ := g.obj n a _ ha eo
      exact .inr (.inr (.inl ⟨rfl, .inl ⟨vs, q⟩⟩))
    · cases e
theorem ev_met {o e : Expr} {es : List Expr} {name : Str} {apos cpos : Pos} {T id : String} {mo : Env → GH → Res PV} {ms : Env → GH → Res (List PV)} {f : PV → List PV → GH → Res PV} (hK : F.K = X.K) (hT : mTy T = true)
    (pa : PlainAttrs T) (slot : Slot T name id) (hty : typeOf (.builtin id) = pure (.type "method_descriptor")) (hm : MtR X id (RdM F Ex f)) (ho : PE X o (TEv F Ex mo)) (ha : PA X (e :: es) (TAv F Ex ms))
    (h1 : plainE e = true) (h2 : es.all plainE = true) (hbase : attributeBase o name X.env (eval o X.env) = eval o X.env)
    (hfew : ((backTo cpos (starEach (e :: es) X.env)).all (fun x => !x.1) && (backToKw cpos (keywordEach [] X.env)).all (fun x => x.1.isSome)
      && decide ((e :: es).length + ([] : List Keyword).length + (if ([] : List Keyword).isEmpty then 0 else 1) < 30)) = true)
    (hline : (apos.endLine == cpos.line) = true) : PE X (.Call (.Attribute o name apos) (e :: es) [] cpos) (TEv F Ex (mMet T mo ms f)) :=
  (pe_bm pa slot hty hm ho ha hbase hfew hline (star_plain h1) (any_star (e := e) h2)).weak fun σ H Q ⟨μ, ρ, G, s, g, p⟩ => by
    refine TEv.run s g p fun μ1 a G1 v H1 e1 r1 g1 s1 p1 => ?_
    split at p1
    · rename_i ht
      refine ⟨tyV_of hK ht hT r1 g1, TAv.run s1 g1 p1 fun μ2 b G2 w H2 e2 r2 g2 s2 p2 => ⟨μ2, a, b, G2, r1.mono e2, r2, g2, p2⟩⟩
    · exact (show False from p1).elim
def fAppend (o : PV) (xs : List PV) (G : GH) : Res PV := match o, xs with
  | .obj n, [y] => match G[n]? with
    | some (.lst ps) => if ps.length < sizeLine then .ok .non (G.set n (.lst (ps ++ [y]))) else .bad
    | _ => .bad
  | _, _ => .bad
/-- a list of ours is written -/
theorem Post.wrL {n : Nat} {p : PV} {ps : List PV} {vs : List V} {a : Addr} {v : V} {Q : VK} (h : Post F (RV F) Ex μ H (.ok p (G.set n (.lst ps))) Q) (g : HRep F μ H G) (ha : μ.ob[n]? = some a) (r : Reps F μ H ps vs) (z : vs.length ≤ sizeLine) (rp : Rep F μ H p v) : Q v (upd H a (.lst vs)) := by
  have m := List.mem_of_getElem? ha
  have e : Ext μ μ H (upd H a (.lst vs)) := Ext.write m
  exact h.ok e (show Rep F μ _ p v from rp.mono e) (g.write ha ⟨vs, upd_same, z, r.mono e⟩)
theorem fAppend_ok : MtR X "list.append" (RdM F Ex fAppend) := by
  intro pins s σ H x xs v us Q I rx rs ⟨μ, o, ps, G, r, rr, g, p⟩
  unfold fAppend at p
  split at p
  · obtain ⟨a, rfl, ha⟩ := rep_obj r
    obtain ⟨w, rfl, r1⟩ := Reps.one_inv rr
    split at p
    · rename_i qs eo
      split at p
      · rename_i hz
        obtain ⟨vs, q, z, r2⟩ := g.obj _ a _ ha eo
        have l := r2.length
        exact mt_append pins s σ H _ _ v us Q I rx rs ⟨a, vs, w, rfl, rfl, q, by omega, p.wrL g ha (r2.append (.one r1)) (by simp; omega) (by simp only [Rep])⟩
      · exact (show False from p).elim
    · exact (show False from p).elim
  · exact (show False from p).elim
/-! ### xs[i] = e -/
def fSetL (ps : List PV) (G : GH) : Res Unit := match ps with
  | [.obj n, .int k, v] => match G[n]? with
    | some (.lst qs) => match ixN qs.length k with
      | some j => .ok () (G.set n (.lst (qs.set j v)))
      | none => .bad
    | _ => .bad
  | _ => .bad
theorem fSetL_ok : PSet X (RdSet F Ex fSetL) := by
  intro pins s σ H o i v ov iv u Q I ro ri rv ⟨μ, ps, G, r, g, p⟩
  unfold fSetL at p
  split at p
  · obtain ⟨x1, t1, e1, r1, rr⟩ := r.cons_inv
    obtain ⟨x2, t2, e2, r2, rr⟩ := rr.cons_inv
    obtain ⟨x3, e3, r3⟩ := rr.one_inv
    subst e3
    subst e2
    cases e1
    obtain ⟨a, rfl, ha⟩ := rep_obj r1
    split at p
    · rename_i qs eo
      split at p
      · rename_i j ej
        obtain ⟨vs, q, z, r4⟩ := g.obj _ a _ ha eo
        have m := List.mem_of_getElem? ha
        refine set_list pins s σ H _ _ _ ov iv u Q I ro ri rv ⟨a, vs, _, j, rfl, rep_int r2, q, by rw [← r4.length]; exact ej, ?_⟩
        have e : Ext μ μ H (upd H a (.lst (vs.set j v))) := Ext.write m
        exact p.ok (b := ()) e trivial (g.write ha ⟨_, upd_same, by rw [List.length_set]; exact z, (Reps.set r3 j r4).mono e⟩)
      · exact (show False from p).elim
    · exact (show False from p).elim
  · exact (show False from p).elim
end

/-! ### own defs -/
structure Callee (X : Cx) (F : Fx) (n : Nat) (x : Str) (np : Nat) (m : List PV → GH → Res PV) : Prop where
  ex : ∃ (f : Addr) (fd : FuncData) (ps : List Str), FnG X.prog X.w X.K X.mg X.base n f fd ps (SpV F np m) ∧ X.mg x = some (.ref f) ∧ PySem.W.keepIn X.K (.ref f) = true ∧ Binds X.K fd ps []
/-- what a body's (or a block's) context is known to be -/
structure GX (X : Cx) (F : Fx) (Ex : XK) (n : Nat) : Prop where
  K : F.K = X.K
  calm : X.calm = true
  nd : X.N.Nodup
  room : Room n X.A
  gd : X.A.guards = some []
  pas : Passes (L2.CX X.prog X.w) X Ex
theorem GX.blk {X : Cx} {F : Fx} {Ex : XK} {n : Nat} (g : GX X F Ex n) (s : Shared) (H : Hp) (scope : Scope) (cenv : PySem.Env) (fp : List Addr) : GX (X.blk s H scope cenv fp) F E0 n := ⟨g.K, g.calm, g.nd, g.room, g.gd, passL⟩
theorem GX.un {X : Cx} {F : Fx} {Ex : XK} {n : Nat} (g : GX X F Ex n) : X.A.units + 64 < cLine := g.room.units
theorem ev_own {X : Cx} {F : Fx} {Ex : XK} {n np : Nat} {x : Str} {m : List PV → GH → Res PV} {ms : Env → GH → Res (List PV)} {e : Expr} {es : List Expr} {p pos : Pos} (g : GX X F Ex n) (c : Callee X F n x np m) (hg : Gl X x) (ha : PA X (e :: es) (TAv F Ex ms))
    (hdb : (x == ("__debug__" : Str)) = false) (h1 : plainE e = true) (h2 : es.all plainE = true) (hn : ∀ qs G, qs.length ≠ np → m qs G = .bad) : PE X (.Call (.Name x p) (e :: es) [] pos) (TEv F Ex (mA ms m)) := by
  obtain ⟨f, fd, ps, h3, h4, h5, h6⟩ := c.ex
  exact ev_call h3 g.room g.gd hg h4 h5 h6 g.pas ha hdb h1 h2 hn

/-! ### what a call leaves behind: new objects that nobody can reach are forgotten -/
mutual
def PV.refsB (n : Nat) : PV → Bool
  | .obj k => decide (k < n)
  | .tup ps => PV.refsBs n ps
  | .lst ps => PV.refsBs n ps
  | .sls ps => PV.refsBs n ps
  | _ => true
def PV.refsBs (n : Nat) : List PV → Bool
  | [] => true
  | p :: ps => PV.refsB n p && PV.refsBs n ps
end
def GO.refsB (n : Nat) : GO → Bool
  | .lst ps => PV.refsBs n ps
  | .dic kps => kps.all fun q => PV.refsB n q.2
  | .ins _ fs => fs.all fun q => PV.refsB n q.2
theorem Chg.take {F : Fx} {μ : Mu} {H : Hp} (n : Nat) : (∀ a xs, StL F μ H a xs → StL F ⟨μ.ob.take n, μ.rs⟩ H a xs) ∧ (∀ a xs, StX μ H a xs → StX ⟨μ.ob.take n, μ.rs⟩ H a xs) ∧ (∀ a xs, StT F μ H a xs → StT F ⟨μ.ob.take n, μ.rs⟩ H a xs) := by
  have aux : ∀ {a : Addr}, μ.free a → (⟨μ.ob.take n, μ.rs⟩ : Mu).free a := fun {a} f => ⟨fun m => f.1 (List.mem_of_mem_take m), f.2⟩
  exact ⟨fun a xs h => h.imp (fun q => ⟨aux q.1, q.2⟩) id, fun a xs h => ⟨aux h.1, h.2⟩, fun a xs h => h.imp (fun q => ⟨aux q.1, q.2⟩) id⟩
mutual
theorem Rep.take {F : Fx} {μ : Mu} {H : Hp} (n : Nat) : ∀ {p : PV} {v : V}, PV.refsB n p = true → Rep F μ H p v → Rep F ⟨μ.ob.take n, μ.rs⟩ H p v
  | .non, _, _, h => by simpa only [Rep] using h
  | .bl b, _, _, h => by simpa only [Rep] using h
  | .int i, _, _, h => by simpa only [Rep] using h
  | .str x, _, _, h => by simpa only [Rep] using h
  | .tup ps, v, e, h => by
    simp only [Rep] at h ⊢
    simp only [PV.refsB] at e
    obtain ⟨a, vs, e1, z, s, r⟩ := h
    exact ⟨a, vs, e1, z, (Chg.take n).2.2 _ _ s, Reps.take' n e r⟩
  | .lst ps, v, e, h => by
    simp only [Rep] at h ⊢
    simp only [PV.refsB] at e
    obtain ⟨a, vs, e1, z, s, r⟩ := h
    exact ⟨a, vs, e1, z, (Chg.take (F := F) n).2.1 _ _ s, Reps.take' n e r⟩
  | .sls ps, v, e, h => by
    simp only [Rep] at h ⊢
    simp only [PV.refsB] at e
    obtain ⟨a, vs, e1, z, s, r⟩ := h
    exact ⟨a, vs, e1, z, (Chg.take n).1 _ _ s, Reps.take' n e r⟩
  | .obj k, v, e, h => by
    simp only [Rep] at h ⊢
    simp only [PV.refsB, decide_eq_true_eq] at e
    obtain ⟨a, e1, g⟩ := h
    exact ⟨a, e1, by show (μ.ob.take n)[k]? = some a; rw [List.getElem?_take_of_lt e]; exact g⟩
theorem Reps.take' {F : Fx} {μ : Mu} {H : Hp} (n : Nat) : ∀ {ps : List PV} {vs : List V}, PV.refsBs n ps = true → Reps F μ H ps vs → Reps F ⟨μ.ob.take n, μ.rs⟩ H ps vs
  | [], _, _, h => by simpa only [Reps] using h
  | p :: ps, vs, e, h => by
    simp only [Reps] at h ⊢
    simp only [PV.refsBs, Bool.and_eq_true] at e
    obtain ⟨v, r, e1, h1, h2⟩ := h
    exact ⟨v, r, e1, Rep.take n e.1 h1, Reps.take' n e.2 h2⟩
end
end EV
end
section
set_option Elab.async false
set_option linter.all false
set_option maxRecDepth 100000
/-! Ev12: what a def leaves behind; a def, by its body. -/
namespace EV
open PySem PySem.Spec PyProof.Rows L2
section
variable {X : Cx} {F : Fx} {Ex : XK} {μ : Mu} {H : Hp} {G : GH}
mutual
theorem Rep.refs : ∀ {p : PV} {v : V}, Rep F μ H p v → PV.refsB μ.ob.length p = true
  | .non, _, h => by simp only [PV.refsB]
  | .bl b, _, h => by simp only [PV.refsB]
  | .int i, _, h => by simp only [PV.refsB]
  | .str x, _, h => by simp only [PV.refsB]
  | .tup ps, v, h => by
    simp only [Rep] at h
    simp only [PV.refsB]
    obtain ⟨a, vs, e1, z, s, r⟩ := h
    exact Reps.refs r
  | .lst ps, v, h => by
    simp only [Rep] at h
    simp only [PV.refsB]
    obtain ⟨a, vs, e1, z, s, r⟩ := h
    exact Reps.refs r
  | .sls ps, v, h => by
    simp only [Rep] at h
    simp only [PV.refsB]
    obtain ⟨a, vs, e1, z, s, r⟩ := h
    exact Reps.refs r
  | .obj k, v, h => by
    simp only [Rep] at h
    simp only [PV.refsB, decide_eq_true_eq]
    obtain ⟨a, e1, g⟩ := h
    exact (List.getElem?_eq_some_iff.mp g).1
theorem Reps.refs : ∀ {ps : List PV} {vs : List V}, Reps F μ H ps vs → PV.refsBs μ.ob.length ps = true
  | [], _, h => by simp only [PV.refsBs]
  | p :: ps, vs, h => by
    simp only [Reps] at h
    simp only [PV.refsBs, Bool.and_eq_true]
    obtain ⟨v, r, e1, h1, h2⟩ := h
    exact ⟨Rep.refs h1, Reps.refs h2⟩
end
theorem paired_in {α β : Type} {R : α → β → Prop} {l : List α} {m : List β} (h : Paired R l m) {x : α} (hx : x ∈ l) : ∃ y, R x y := by
  induction h with
  | nil => cases hx
  | cons h1 _ ih =>
    rcases List.mem_cons.mp hx with e | e
    · exact ⟨_, e ▸ h1⟩
    · exact ih e
theorem paired_map {α β : Type} {R S : α → β → Prop} {l : List α} {m : List β} (h : Paired R l m) (w : ∀ a ∈ l, ∀ b, R a b → S a b) : Paired S l m := by
  induction h with
  | nil => exact .nil
  | cons h1 _ ih => exact .cons (w _ List.mem_cons_self _ h1) (ih fun a ha => w a (List.mem_cons_of_mem _ ha))
theorem RepO.refs {a : Addr} {o : GO} (h : RepO F μ H a o) : GO.refsB μ.ob.length o = true := by
  cases o with
  | lst ps => obtain ⟨vs, q, z, r⟩ := h; exact r.refs
  | dic ps =>
    obtain ⟨vs, q, z, r⟩ := h
    refine List.all_eq_true.mpr fun x hx => ?_
    obtain ⟨y, hy⟩ := paired_in r hx
    exact hy.2.refs
  | ins c fs =>
    obtain ⟨dx, vs, q, d, n, r⟩ := h
    refine List.all_eq_true.mpr fun x hx => ?_
    obtain ⟨y, hy⟩ := paired_in r hx
    exact hy.2.refs
theorem RepO.take' (n : Nat) {a : Addr} {o : GO} (e : GO.refsB n o = true) (h : RepO F μ H a o) : RepO F ⟨μ.ob.take n, μ.rs⟩ H a o := by
  cases o with
  | lst ps => obtain ⟨vs, q, z, r⟩ := h; exact ⟨vs, q, z, r.take' n e⟩
  | dic ps =>
    obtain ⟨vs, q, z, r⟩ := h
    exact ⟨vs, q, z, paired_map r fun x hx y hy => ⟨hy.1, hy.2.take n (List.all_eq_true.mp e x hx)⟩⟩
  | ins c fs =>
    obtain ⟨dx, vs, q, d, f, r⟩ := h
    exact ⟨dx, vs, q, d, ⟨fun m => f.1 (List.mem_of_mem_take m), f.2⟩, paired_map r fun x hx y hy => ⟨hy.1, hy.2.take n (List.all_eq_true.mp e x hx)⟩⟩
/-! ### the same objects -/
def sameK : List (Key × PV) → List (Key × PV) → Bool
  | [], [] => true
  | a :: as, b :: bs => decide (a.1 = b.1) && (PV.same a.2 b.2 && sameK as bs)
  | _, _ => false
theorem sameK_eq : ∀ {a b : List (Key × PV)}, sameK a b = true → a = b
  | [], b, h => by cases b <;> simp [sameK] at h; rfl
  | a :: as, [], h => by simp [sameK] at h
  | (a, p) :: as, (b, q) :: bs, h => by
    simp only [sameK, Bool.and_eq_true, decide_eq_true_eq] at h
    rw [show a = b from h.1, PV.same_eq h.2.1, sameK_eq h.2.2]
theorem sameK_self : ∀ a : List (Key × PV), sameK a a = true
  | [] => rfl
  | a :: as => by unfold sameK; rw [decide_eq_true rfl, PV.same_self, sameK_self as]; rfl
def sameF : List (Str × PV) → List (Str × PV) → Bool
  | [], [] => true
  | a :: as, b :: bs => decide (a.1 = b.1) && (PV.same a.2 b.2 && sameF as bs)
  | _, _ => false
theorem sameF_eq : ∀ {a b : List (Str × PV)}, sameF a b = true → a = b
  | [], b, h => by cases b <;> simp [sameF] at h; rfl
  | a :: as, [], h => by simp [sameF] at h
  | (a, p) :: as, (b, q) :: bs, h => by
    simp only [sameF, Bool.and_eq_true, decide_eq_true_eq] at h
    rw [show a = b from h.1, PV.same_eq h.2.1, sameF_eq h.2.2]
theorem sameF_self : ∀ a : List (Str × PV), sameF a a = true
  | [] => rfl
  | a :: as => by unfold sameF; rw [decide_eq_true rfl, PV.same_self, sameF_self as]; rfl
def GO.same : GO → GO → Bool
  | .lst a, .lst b => PV.sames a b
  | .dic a, .dic b => sameK a b
  | .ins c a, .ins d b => c == d && sameF a b
  | _, _ => false
theorem GO.same_eq {a b : GO} (h : GO.same a b = true) : a = b := by
  cases a <;> cases b <;> first
    | (cases h; done)
    | (rw [PV.sames_eq (show PV.sames _ _ = true from h)]; done)
    | (rw [sameK_eq (show sameK _ _ = true from h)]; done)
    | skip
  rename_i c x d y
  have h' : (c == d && sameF x y) = true := h
  simp only [Bool.and_eq_true, beq_iff_eq] at h'
  rw [h'.1, sameF_eq h'.2]
theorem GO.same_self (a : GO) : GO.same a a = true := by
  cases a with
  | lst a => exact PV.sames_self a
  | dic a => exact sameK_self a
  | ins c a => show (c == c && sameF a a) = true; rw [sameF_self]; simp
/-- the object is as it was, or names old ones alone -/
def okB (n : Nat) : GH → GH → Bool
  | _, [] => true
  | [], o :: G1 => GO.refsB n o && okB n [] G1
  | p :: G0, o :: G1 => (GO.same o p || GO.refsB n o) && okB n G0 G1
theorem okB_at {n : Nat} : ∀ {G0 G1 : GH} {i : Nat} {o : GO}, okB n G0 G1 = true → G1[i]? = some o → G0[i]? = some o ∨ GO.refsB n o = true
  | _, [], _, _, _, h => by simp at h
  | [], u :: G1, 0, o, e, h => by
    simp only [okB, Bool.and_eq_true] at e
    simp at h; subst h; exact .inr e.1
  | [], u :: G1, i + 1, o, e, h => by
    simp only [okB, Bool.and_eq_true] at e
    rcases okB_at e.2 (by simpa using h) with q | q
    · simp at q
    · exact .inr q
  | p :: G0, u :: G1, 0, o, e, h => by
    simp only [okB, Bool.and_eq_true, Bool.or_eq_true] at e
    simp at h; subst h
    rcases e.1 with q | q
    · rw [GO.same_eq q]; exact .inl rfl
    · exact .inr q
  | p :: G0, u :: G1, i + 1, o, e, h => by
    simp only [okB, Bool.and_eq_true] at e
    rcases okB_at e.2 (by simpa using h) with q | q
    · exact .inl (by simpa using q)
    · exact .inr q
theorem okB_self {n : Nat} : ∀ G : GH, okB n G G = true
  | [] => rfl
  | p :: G => by simp only [okB, Bool.and_eq_true, Bool.or_eq_true]; exact ⟨.inl (GO.same_self p), okB_self G⟩
/-- new objects that nobody can reach are forgotten -/
def trimR (G0 : GH) (r : Res PV) : Res PV := match r with
  | .ok a G1 => if (PV.refsB G0.length a && okB G0.length G0 (G1.take G0.length)) = true ∧ G0.length ≤ G1.length then .ok a (G1.take G0.length) else .ok a G1
  | r => r
theorem HRep.take (h : HRep F μ H G) (n : Nat) (e : ∀ (i : Nat) o, i < n → G[i]? = some o → GO.refsB n o = true) : HRep F ⟨μ.ob.take n, μ.rs⟩ H (G.take n) where
  len := by simp [h.len]
  nd := (List.take_sublist n μ.ob).nodup h.nd
  obj := fun i a o h1 h2 => by
    have h1 : (μ.ob.take n)[i]? = some a := h1
    have hi : i < n := by
      have := (List.getElem?_eq_some_iff.mp h1).1
      simp at this; omega
    rw [List.getElem?_take_of_lt hi] at h1 h2
    exact (h.obj i a o h1 h2).take' n (e i o hi h2)
  res := fun a m => let ⟨h1, h2⟩ := h.res a m; ⟨fun k => h1 (List.mem_of_mem_take k), h2⟩
  tab := h.tab
theorem trim_post {r : Res PV} {Q : VK} (g : HRep F μ H G) (h : Post F (RV F) Ex μ H (trimR G r) Q) : Post F (RV F) Ex μ H r Q := by
  cases r with
  | bad => exact h
  | exc c fs G1 => exact h
  | ok a G1 =>
    unfold trimR at h
    simp only at h
    split at h
    · rename_i c
      obtain ⟨c1, c3⟩ := c
      rw [Bool.and_eq_true] at c1
      obtain ⟨c1, c2⟩ := c1
      intro μ' b H' e x y
      obtain ⟨r, hr⟩ := e.pre
      have hl : G.length = μ.ob.length := g.len.symm
      have ht : μ'.ob.take G.length = μ.ob := by rw [hr, hl]; simp
      have em : (⟨μ'.ob.take G.length, μ'.rs⟩ : Mu) = μ := by rw [ht, e.rs]
      have y2 := y.take G.length fun i o hi ho => by
        have ho2 : (G1.take G.length)[i]? = some o := by rw [List.getElem?_take_of_lt hi]; exact ho
        rcases okB_at c2 ho2 with q | q
        · have ha : ∃ a, μ.ob[i]? = some a := ⟨_, List.getElem?_eq_getElem (by rw [← hl]; exact hi)⟩
          obtain ⟨a', ha⟩ := ha
          rw [hl]
          exact (g.obj i a' o ha q).refs
        · exact q
      have x2 : Rep F ⟨μ'.ob.take G.length, μ'.rs⟩ H' a b := Rep.take G.length c1 x
      rw [em] at y2 x2
      exact h μ b H' ⟨⟨[], by simp⟩, rfl, fun a m k => absurd m k, e.keep⟩ x2 y2
    · exact h
theorem trim_same (a : PV) (G : GH) : trimR G (.ok a G) = .ok a G := by
  unfold trimR
  simp only [List.take_length]
  split <;> rfl
end

/-! ### a def, by its body -/
/-- what a def computes -/
def defV (np : Nat) (N : List Str) (m : Env → GH → Res Fl) (ps : List PV) (G : GH) : Res PV := if ps.length = np then trimR G ((m (env0 N.length ps) G).bind bodyEnd) else .bad
structure CalleeP (P : Program) (w : World) (K : PySem.W.Frag) (mg : Str → Option Value) (base : Heap) (F : Fx) (n : Nat) (x : Str) (np : Nat) (m : List PV → GH → Res PV) : Prop where
  ex : ∃ (f : Addr) (fd : FuncData) (ps : List Str), FnG P w K mg base n f fd ps (SpV F np m) ∧ mg x = some (.ref f) ∧ PySem.W.keepIn K (.ref f) = true ∧ Binds K fd ps []
  ar : ∀ qs G, qs.length ≠ np → m qs G = .bad
theorem CalleeP.at {X : Cx} {F : Fx} {n : Nat} {x : Str} {np : Nat} {m : List PV → GH → Res PV} (c : CalleeP X.prog X.w X.K X.mg X.base F n x np m) : Callee X F n x np m := ⟨c.ex⟩
section
variable {P : Program} {w : World} {K : PySem.W.Frag} {mg : Str → Option Value} {base : Heap} {F : Fx} {n : Nat}
abbrev CXo (P : Program) (w : World) (K : PySem.W.Frag) (mg : Str → Option Value) (base : Heap) (N : List Str) (qual : Str) (scope : Scope) (f : Addr) (cdv : Value) (A : Around) (outer : List PySem.Env) (s : Shared) (H : Hp) (E : XK) : Cx := cxOf (L2.CX P w) P w K mg base N qual scope f cdv A outer s H E
/-- the code object of the def at f -/
def CodeAt (K : PySem.W.Frag) (f : Addr) (cdv : Value) : Prop := ∃ oc od osl fd, K.lookup f = some ⟨oc, od, .func fd, osl⟩ ∧ fd.code = cdv
theorem def_ok {name qual : Str} {params : Arguments} {body : List Stmt} {scope : Scope} {f : Addr} {fd : FuncData} {N ps : List Str} {m : Env → GH → Res Fl} (hK : F.K = K) (Fd : FunD K name qual params body scope [] [] f fd) (S : FnScope N ps scope)
    (hm : mg name = some (.ref f)) (hb : Binds K fd ps []) (hbody : ∀ (cdv : Value) (A : Around) (outer : List PySem.Env) (s : Shared) (H : Hp) (E : XK), GX (CXo P w K mg base N qual scope f cdv A outer s H E) F E n →
      PassesOwn (model P w) (CXo P w K mg base N qual scope f cdv A outer s H E).A (CXo P w K mg base N qual scope f cdv A outer s H E).env (CXo P w K mg base N qual scope f cdv A outer s H E).xe → CodeAt K f cdv → PSs (CXo P w K mg base N qual scope f cdv A outer s H E) body (TSv F E m)) :
    CalleeP P w K mg base F (n + 1) name ps.length (defV ps.length N m) where
  ex := by
    obtain ⟨oc, od, dV, kV, doc, pm, an, cdv, ct, osl, e, lk, hcd, _, _⟩ := Fd.ex
    subst e
    refine ⟨f, _, ps, fnG_of lk hcd S (fun vs H Q E h => h.1) (fun A outer s H vs Q E hr hgd h => ?_), hm, Fd.kp, hb⟩
    refine ⟨_, hbody cdv A outer s H E ⟨hK, rfl, S.nd, hr, hgd, passes_call (takes_of rfl rfl rfl rfl) fun _ _ _ _ z => z⟩ (passes_of rfl) ⟨_, _, _, _, lk, rfl⟩, body_read (N := N) ?_⟩
    obtain ⟨h1, μ, qs, G, r, g, p⟩ := h
    unfold defV at p
    rw [if_pos (r.length.trans h1)] at p
    exact ⟨μ, qs, G, r, g, trim_post g p⟩
  ar := fun qs G h => by unfold defV; rw [if_neg h]
theorem callee0 {name qual : Str} {params : Arguments} {body : List Stmt} {scope : Scope} {f : Addr} {fd : FuncData} {ps : List Str} (Fd : FunD K name qual params body scope [] [] f fd) (hm : mg name = some (.ref f)) (hb : Binds K fd ps []) : CalleeP P w K mg base F 0 name ps.length (fun _ _ => .bad) where
  ex := ⟨f, fd, ps, ⟨fun vs H Q E h => h.1, fun A outer s H args us vs Q E _ _ _ _ _ h => by
    obtain ⟨_, μ, qs, G, r, g, p⟩ := h
    exact (show False from p).elim⟩, hm, Fd.kp, hb⟩
  ar := fun _ _ _ => rfl
end
section
variable {X : Cx} {F : Fx} {Ex : XK}
theorem ev_ownP {n np : Nat} {x : Str} {m : List PV → GH → Res PV} {ms : Env → GH → Res (List PV)} {e : Expr} {es : List Expr} {p pos : Pos} (g : GX X F Ex n) (c : CalleeP X.prog X.w X.K X.mg X.base F n x np m) (hg : Gl X x) (hdb : (x == ("__debug__" : Str)) = false)
    (h1 : plainE e = true) (h2 : es.all plainE = true) (ha : PA X (e :: es) (TAv F Ex ms)) : PE X (.Call (.Name x p) (e :: es) [] pos) (TEv F Ex (mA ms m)) := ev_own g c.at hg ha hdb h1 h2 c.ar
end
end EV
end
section
set_option Elab.async false
set_option linter.all false
set_option maxRecDepth 100000
/-! Ev13: the rules as the printed proofs name them: side conditions by running. -/
namespace EV
open PySem PySem.Spec PyProof.Rows L2
def visB (sc : Scope) (x : Str) : Bool := sc.names.lookup x == some .local || (sc.names.lookup x == some .cell || sc.names.lookup x == some .free)
theorem vis_of {sc : Scope} {x : Str} (h : visB sc x = true) : Vis sc x := by
  unfold visB at h
  simp only [Bool.or_eq_true, beq_iff_eq] at h
  exact h
def nmB (x : Str) : Bool := !(x == ("__debug__" : Str)) && !(x == ("__classdict__" : Str))
theorem nm1 {x : Str} (h : nmB x = true) : (x == ("__debug__" : Str)) = false := by
  unfold nmB at h
  simp only [Bool.and_eq_true, Bool.not_eq_true'] at h
  exact h.1
theorem nm2 {x : Str} (h : nmB x = true) : (x == ("__classdict__" : Str)) = false := by
  unfold nmB at h
  simp only [Bool.and_eq_true, Bool.not_eq_true'] at h
  exact h.2
def locB (X : Cx) (x : Str) : Bool := X.env.scope.names.lookup x == some .local || (X.env.scope.names.lookup x == some .cell && X.fn x)
theorem loc_of {X : Cx} {x : Str} (h : locB X x = true) : Loc X.env.scope x ∧ (X.fn x = true ∨ X.env.scope.names.lookup x = some .local) := by
  unfold locB at h
  simp only [Bool.or_eq_true, Bool.and_eq_true, beq_iff_eq] at h
  rcases h with h | h
  · exact ⟨.inl h, .inr h⟩
  · exact ⟨.inr h.1, .inl h.2⟩
def blkB (N : List Str) (sc scope : Scope) (own : List (Str × Nat)) : Bool :=
  scope.kind == .function && (scope.names.all (fun y => scope.names.lookup y.1 == some y.2) && (own.all (fun p => N[p.2]? == some p.1) && (scope.names.all (fun y => !(y.2 == .free) || (sc.names.lookup y.1 == some .cell || sc.names.lookup y.1 == some .free)) &&
    scope.names.all (fun y => !(y.2 == .local || y.2 == .cell) || ((own.map (·.1)).contains y.1 || !(N.contains y.1))))))
theorem blk_of {N : List Str} {sc scope : Scope} {own : List (Str × Nat)} (h : blkB N sc scope own = true) : BlkOk N sc scope own := by
  unfold blkB at h
  simp only [Bool.and_eq_true] at h
  obtain ⟨h1, h2, h3, h4, h5⟩ := h
  refine ⟨by simpa using h1, fun y hy => by simpa using List.all_eq_true.mp h2 y hy, fun p hp => by simpa using List.all_eq_true.mp h3 p hp, fun y hy e => ?_, fun y hy e => ?_⟩
  · have q := List.all_eq_true.mp h4 y hy
    rw [e] at q
    simpa using q
  · have q := List.all_eq_true.mp h5 y hy
    have q2 : ((own.map (·.1)).contains y.1 || !(N.contains y.1)) = true := by
      rcases e with e | e <;> (rw [e] at q; simpa using q)
    rw [Bool.or_eq_true] at q2
    rcases q2 with q2 | q2
    · exact .inl (by simpa using q2)
    · exact .inr (by simpa using q2)
section
variable {X : Cx} {F : Fx} {Ex : XK} {n : Nat}
theorem gvar (i : Nat) {x : Str} {pos : Pos} (hN : X.N[i]? = some x := by kernel_rfl) (hv : visB X.env.scope x = true := by kernel_rfl) (hd : nmB x = true := by kernel_rfl) : PE X (.Name x pos) (TEv F Ex (mVar i)) := ev_var hN (vis_of hv) (nm1 hd) (nm2 hd)
theorem gadd (g : GX X F Ex n) {a b : Expr} {pos : Pos} {ma mb : Env → GH → Res PV} (ha : PE X a (TEv F Ex ma)) (hb : PE X b (TEv F Ex mb)) : PE X (.BinOp a .Add b pos) (TEv F Ex (m2 ma mb opAdd)) := ev_bin (opAdd_ok g.K) ha hb
theorem gsub (g : GX X F Ex n) {a b : Expr} {pos : Pos} {ma mb : Env → GH → Res PV} (ha : PE X a (TEv F Ex ma)) (hb : PE X b (TEv F Ex mb)) : PE X (.BinOp a .Sub b pos) (TEv F Ex (m2 ma mb opSub)) := ev_bin opSub_ok ha hb
theorem gmul (g : GX X F Ex n) {a b : Expr} {pos : Pos} {ma mb : Env → GH → Res PV} (ha : PE X a (TEv F Ex ma)) (hb : PE X b (TEv F Ex mb)) : PE X (.BinOp a .Mult b pos) (TEv F Ex (m2 ma mb opMul)) := ev_bin (opMul_ok g.K) ha hb
theorem gmod (g : GX X F Ex n) {a b : Expr} {pos : Pos} {ma mb : Env → GH → Res PV} (ha : PE X a (TEv F Ex ma)) (hb : PE X b (TEv F Ex mb)) : PE X (.BinOp a .Mod b pos) (TEv F Ex (m2 ma mb opMod)) := ev_bin opMod_ok ha hb
theorem gdiv (g : GX X F Ex n) {a b : Expr} {pos : Pos} {ma mb : Env → GH → Res PV} (ha : PE X a (TEv F Ex ma)) (hb : PE X b (TEv F Ex mb)) : PE X (.BinOp a .FloorDiv b pos) (TEv F Ex (m2 ma mb opDiv)) := ev_bin opDiv_ok ha hb
theorem gpow (g : GX X F Ex n) {a b : Expr} {pos : Pos} {ma mb : Env → GH → Res PV} (ha : PE X a (TEv F Ex ma)) (hb : PE X b (TEv F Ex mb)) : PE X (.BinOp a .Pow b pos) (TEv F Ex (m2 ma mb opPow)) := ev_bin opPow_ok ha hb
theorem gneg (g : GX X F Ex n) {a : Expr} {pos : Pos} {ma : Env → GH → Res PV} (ha : PE X a (TEv F Ex ma)) : PE X (.UnaryOp .USub a pos) (TEv F Ex (m1 ma opNeg)) := ev_un opNeg_ok ha
end
section
variable {X : Cx} {F : Fx} {Ex : XK} {n : Nat} {a b c : Expr} {pos : Pos} {ma mb mc : Env → GH → Res PV}
/-- the comparisons -/
inductive Cop where
  | eq | ne | lt | le | gt | ge | is | isnot | in_ | notin
def Cop.op : Cop → CmpOp
  | .eq => .Eq
  | .ne => .NotEq
  | .lt => .Lt
  | .le => .LtE
  | .gt => .Gt
  | .ge => .GtE
  | .is => .Is
  | .isnot => .IsNot
  | .in_ => .In
  | .notin => .NotIn
def Cop.f : Cop → List PV → GH → Res PV
  | .eq => opEq
  | .ne => opNe
  | .lt => opLt
  | .le => opLe
  | .gt => opGt
  | .ge => opGe
  | .is => opIsN false
  | .isnot => opIsN true
  | .in_ => opIn
  | .notin => opNotIn
theorem Cop.ok (g : GX X F Ex n) : ∀ o : Cop, OpR X (compareOp o.op) (OpV F Ex o.f)
  | .eq => opEq_ok g.K g.un
  | .ne => opNe_ok g.K g.un
  | .lt => opLt_ok g.K g.un
  | .le => opLe_ok g.K g.un
  | .gt => opGt_ok g.K g.un
  | .ge => opGe_ok g.K g.un
  | .is => opIs_ok
  | .isnot => opIsNot_ok
  | .in_ => opIn_ok g.K
  | .notin => opNotIn_ok g.K
theorem gcmp (g : GX X F Ex n) (o : Cop) (ha : PE X a (TEv F Ex ma)) (hb : PE X b (TEv F Ex mb)) (hm : behindInMarks o.op b = false := by kernel_rfl) : PE X (.Compare a [o.op] [b] pos) (TEv F Ex (m2 ma mb o.f)) := ev_cmp (o.ok g) ha hb hm
theorem gcmpT (g : GX X F Ex n) (o : Cop) (ha : PE X a (TEv F Ex ma)) (hb : PE X b (TEv F Ex mb)) (hm : behindInMarks o.op b = false := by kernel_rfl) : PT X (.Compare a [o.op] [b] pos) (TTv F Ex (mB (m2 ma mb o.f))) := ev_cmpT (o.ok g) ha hb hm
theorem gchnT (g : GX X F Ex n) (o o' : Cop) (ha : PE X a (TEv F Ex ma)) (hb : PE X b (TEv F Ex mb)) (hc : PE X c (TEv F Ex mc)) (hm : lastMarks [o.op, o'.op] [b, c] = false := by kernel_rfl) : PT X (.Compare a [o.op, o'.op] [b, c] pos) (TTv F Ex (mB (m3c ma mb mc o.f o'.f))) := ev_chainT (o.ok g) (o'.ok g) ha hb hc hm
theorem gix (g : GX X F Ex n) (hs : PlainIx b) (ha : PE X a (TEv F Ex ma)) (hb : PE X b (TEv F Ex mb)) : PE X (.Subscript a b pos) (TEv F Ex (m2 ma mb opIx)) := ev_ix (opIx_ok g.K) ha hb hs
theorem gsl (g : GX X F Ex n) {lo hi : Option Expr} {p2 : Pos} {l h : Env → GH → Res (Option Int)} (he : PE X a (TEv F Ex ma)) (hl : PO X lo (TOv F Ex l)) (hu : PO X hi (TOv F Ex h)) : PE X (.Subscript a (.Slice lo hi none p2) pos) (TEv F Ex (mSl ma l h opSl)) := ev_sl (opSl_ok g.K) he hl hu
theorem gnot (g : GX X F Ex n) (ha : PE X a (TEv F Ex ma)) : PE X (.UnaryOp .Not a pos) (TEv F Ex (mNot ma)) := ev_not g.K ha
theorem gtru (g : GX X F Ex n) (ha : PE X a (TEv F Ex ma)) (he : ∀ whole, isTrue a X.env whole = (do let v ← whole; standAt a.pos; holding [v] (truthy v)) := by intro _; rfl) : PT X a (TTv F Ex (mT ma)) := ev_truth g.K ha he
theorem gisi (g : GX X F Ex n) {x y : Str} {p p2 : Pos} (T : String) (hm : X.mg x = none) (hm2 : X.mg y = none) (ha : PE X a (TEv F Ex ma)) (hg : X.env.kindOf x = some .globalImplicit := by kernel_rfl) (hv : bootBuiltins x = some (.builtin "isinstance") := by kernel_rfl) (hn : x ≠ "__name__" := by decide) (hd : nmB x = true := by kernel_rfl)
    (hg2 : X.env.kindOf y = some .globalImplicit := by kernel_rfl) (hv2 : bootBuiltins y = some (.type T) := by kernel_rfl) (hn2 : y ≠ "__name__" := by decide) (hd2 : nmB y = true := by kernel_rfl) (h1 : plainE a = true := by kernel_rfl) : PE X (.Call (.Name x p) [a, .Name y p2] [] pos) (TEv F Ex (m1 ma (bIsi T))) :=
  ev_isi g.K ha hg hm hv hn (nm1 hd) hg2 hm2 hv2 hn2 (nm1 hd2) h1
theorem gblt {id : String} {x : Str} {es : List Expr} {p : Pos} {ms : Env → GH → Res (List PV)} {f : List PV → GH → Res PV} (hc : CallR X (.builtin id) (RdV F Ex f)) (hm : X.mg x = none) (ha : PA X (a :: es) (TAv F Ex ms)) (hv : bootBuiltins x = some (.builtin id) := by kernel_rfl) (hg : X.env.kindOf x = some .globalImplicit := by kernel_rfl)
    (hn : x ≠ "__name__" := by decide) (hd : nmB x = true := by kernel_rfl) (h1 : plainE a = true := by kernel_rfl) (h2 : es.all plainE = true := by kernel_rfl) : PE X (.Call (.Name x p) (a :: es) [] pos) (TEv F Ex (mA ms f)) := ev_blt hc hg hm hv ha hn (nm1 hd) h1 h2
theorem gbty {T : String} {x : Str} {es : List Expr} {p : Pos} {ms : Env → GH → Res (List PV)} {f : List PV → GH → Res PV} (hc : CallR X (.type T) (RdV F Ex f)) (hm : X.mg x = none) (ha : PA X (a :: es) (TAv F Ex ms)) (hv : bootBuiltins x = some (.type T) := by kernel_rfl) (hg : X.env.kindOf x = some .globalImplicit := by kernel_rfl)
    (hn : x ≠ "__name__" := by decide) (hd : nmB x = true := by kernel_rfl) (h1 : plainE a = true := by kernel_rfl) (h2 : es.all plainE = true := by kernel_rfl) : PE X (.Call (.Name x p) (a :: es) [] pos) (TEv F Ex (mA ms f)) := ev_bty hc hg hm hv ha hn (nm1 hd) h1 h2
theorem gown (g : GX X F Ex n) {x : Str} {np : Nat} {m : List PV → GH → Res PV} {es : List Expr} {p : Pos} {ms : Env → GH → Res (List PV)} (c : CalleeP X.prog X.w X.K X.mg X.base F n x np m) (ha : PA X (a :: es) (TAv F Ex ms)) (hg : X.env.kindOf x = some .globalImplicit := by kernel_rfl) (hd : nmB x = true := by kernel_rfl)
    (h1 : plainE a = true := by kernel_rfl) (h2 : es.all plainE = true := by kernel_rfl) : PE X (.Call (.Name x p) (a :: es) [] pos) (TEv F Ex (mA ms m)) := ev_ownP g c hg (nm1 hd) h1 h2 ha
theorem gcons {es : List Expr} {ms : Env → GH → Res (List PV)} (he : PE X a (TEv F Ex ma)) (hs : PA X es (TAv F Ex ms)) (hp : plainE a = true := by kernel_rfl) : PA X (a :: es) (TAv F Ex (mCons ma ms)) := ev_cons hp he hs
theorem gtn (g : GX X F Ex n) (i : Nat) {x : Str} {p : Pos} (hi : X.N[i]? = some x := by kernel_rfl) (hx : locB X x = true := by kernel_rfl) : PG X (.Name x p) (TGv F Ex [i] (gN i)) := ev_gname g.nd hi (loc_of hx).1 (loc_of hx).2
theorem gtc {sl sl' : List Nat} {m : PV → Env → GH → Res Env} {es : List Expr} {ms : List PV → Env → GH → Res Env} (h1 : PG X a (TGv F Ex sl m)) (h2 : PGs X es (TGvs F Ex sl' ms)) (hp : plainE a = true := by kernel_rfl) : PGs X (a :: es) (TGvs F Ex (sl ++ sl') (gConsE m ms)) := ev_gcons hp h1 h2
theorem gtt (g : GX X F Ex n) {es : List Expr} {k : Nat} {sl : List Nat} {ms : List PV → Env → GH → Res Env} (len : Nat) (h : PGs X es (TGvs F Ex sl ms)) (hp : es.all plainE = true := by kernel_rfl) (hl : es.length = len := by kernel_rfl) : PG X (.Tuple es k pos) (TGv F Ex sl (gTupE len ms)) := by
  subst hl
  exact ev_gtup g.K g.calm hp h
theorem gret {e : Expr} (he : PE X e (TEv F Ex ma)) : PS X (.Return (some e) pos) (TSv F Ex (sRet ma)) := ev_ret he
theorem gasg {t : Expr} {tt : PV → Env → GH → Res Env} {sl : List Nat} (he : PE X a (TEv F Ex ma)) (hg : PG X t (TGv F Ex sl tt)) (hs : swapsWithSole [t] a pos.line X.env = pure false := by rfl) (hw : swappedStores [t] a X.env = pure none := by rfl)
    (h1 : plainE t = true := by kernel_rfl) : PS X (.Assign [t] a pos) (TSv F Ex (sAsg ma tt)) := ev_asg he hg hs hw h1
theorem gexp (he : PE X a (TEv F Ex ma)) (hs : swapsWith a none pos.line X.env = pure false := by rfl) : PS X (.Expr a pos) (TSv F Ex (sDrop ma)) := ev_expr he hs
theorem gset (g : GX X F Ex n) {tp : Pos} {e o i : Expr} {me mo mi : Env → GH → Res PV} {f : List PV → GH → Res Unit} (hf : PSet X (RdSet F Ex f)) (he : PE X e (TEv F Ex me)) (ho : PE X o (TEv F Ex mo)) (hi : PE X i (TEv F Ex mi))
    (hs : swapsWithSole [.Subscript o i tp] e pos.line X.env = pure false := by rfl) (hw : swappedStores [.Subscript o i tp] e X.env = pure none := by rfl)
    (hA : ∀ v, assign (.Subscript o i tp) X.env v = (do
      let ov ← holding [v] (eval o X.env)
      let iv ← holding [v, ov] (eval i X.env)
      standAt tp
      holding [v, ov, iv] (setItem ov iv v)
      release [v, ov, iv] []) := by intro _; rfl) : PS X (.Assign [.Subscript o i tp] e pos) (TSv F Ex (sSet me mo mi f)) := ev_set he ho hi hf hs hw hA
theorem gpar (g : GX X F Ex n) (i j : Nat) {x y : Str} {ms : Env → GH → Res (List PV)} {px py pt : Pos} {kt k2 : Nat} {pt2 : Pos} (ha : PA X [a, b] (TAv F Ex ms)) (hij : i ≠ j := by decide) (hi : X.N[i]? = some x := by kernel_rfl) (hj : X.N[j]? = some y := by kernel_rfl)
    (hx : X.env.scope.names.lookup x = some .local := by kernel_rfl) (hy : X.env.scope.names.lookup y = some .local := by kernel_rfl) (hw : swappedStores [.Tuple [.Name x px, .Name y py] kt pt] (.Tuple [a, b] k2 pt2) X.env = pure (some [x, y]) := by rfl)
    (hs : swapsWithSole [.Tuple [.Name x px, .Name y py] kt pt] (.Tuple [a, b] k2 pt2) pos.line X.env = pure false := by rfl) : PS X (.Assign [.Tuple [.Name x px, .Name y py] kt pt] (.Tuple [a, b] k2 pt2) pos) (TSv F Ex (sPar i j ms)) := ev_par g.calm g.nd hi hj hij hx hy ha hw hs
theorem gfor (g : GX X F Ex n) (po : PassesOwn (model X.prog X.w) X.A X.env X.xe) {tg iter : Expr} {body : List Stmt} {sl : List Nat} {ms : Env → GH → Res Src} {t : PV → Env → GH → Res Env} {bb : Env → GH → Res Fl}
    (hi : PI X tg iter (TIv F Ex ms)) (hg : PG X tg (TGv F Ex sl t)) (hb : PSs X body (TSv F Ex bb)) (hs : ∀ x, foldedSetIterable iter X.env x = pure x := by intro _; rfl) : PS X (.For tg iter body [] pos) (TSv F Ex (sFor ms t bb)) := ev_for po g.calm hi hg hb hs
theorem gseq (g : GX X F Ex n) {tg : Expr} (h : PE X a (TEv F Ex ma)) : PI X tg a (TIv F Ex (mSeq ma)) := ev_seq g.K h
theorem cons_len {es : Nat} {m : Env → GH → Res PV} {ms : Env → GH → Res (List PV)} (h : ∀ ρ G qs G', ms ρ G = .ok qs G' → qs.length = es) : ∀ ρ G qs G', mCons m ms ρ G = .ok qs G' → qs.length = es + 1 := by
  intro ρ G qs G' e
  unfold mCons at e
  cases h1 : m ρ G with
  | ok x G1 =>
    rw [h1] at e
    cases h2 : ms ρ G1 with
    | ok xs G2 =>
      simp only [Res.bind_ok, h2] at e
      cases e
      simp [h _ _ _ _ h2]
    | exc c fs G2 => simp only [Res.bind_ok, h2] at e; cases e
    | bad => simp only [Res.bind_ok, h2] at e; cases e
  | exc c fs G2 => rw [h1] at e; cases e
  | bad => rw [h1] at e; cases e
theorem nil_len : ∀ ρ G qs G', mNil ρ G = .ok qs G' → qs.length = 0 := by
  intro ρ G qs G' e
  cases e
  rfl
theorem grng1 (g : GX X F Ex n) {tg : Expr} {p : Pos} (hm : X.mg "range" = none) (ha : PE X a (TEv F Ex ma)) (hg : X.env.kindOf "range" = some .globalImplicit := by kernel_rfl) (h1 : plainE a = true := by kernel_rfl) : PI X tg (.Call (.Name "range" p) [a] [] pos) (TIv F Ex (mRng (mCons ma mNil))) :=
  ev_rng1 hg hm (ev_cons h1 ha ev_nil) h1 (cons_len nil_len)
theorem grng2 (g : GX X F Ex n) {tg : Expr} {p : Pos} (hm : X.mg "range" = none) (ha : PE X a (TEv F Ex ma)) (hb : PE X b (TEv F Ex mb)) (hg : X.env.kindOf "range" = some .globalImplicit := by kernel_rfl) (h1 : plainE a = true := by kernel_rfl) (h2 : plainE b = true := by kernel_rfl) : PI X tg (.Call (.Name "range" p) [a, b] [] pos) (TIv F Ex (mRng (mCons ma (mCons mb mNil)))) :=
  ev_rng2 hg hm (ev_cons h1 ha (ev_cons h2 hb ev_nil)) h1 h2 (cons_len (cons_len nil_len))
theorem gcomp (g : GX X F Ex n) (ob : Bool) (own : List (Str × Nat)) {elt tg iter : Expr} {ifs : List Expr} {scope : Scope} {sl : List Nat} {ms : Env → GH → Res Src} {t : PV → Env → GH → Res Env} {tt : Env → GH → Res Bool} {el : Env → GH → Res PV}
    (hi : PI X tg iter (TIv F Ex ms))
    (hg : ∀ (s : Shared) (H : Hp) (C : Addr) (cl : List (Str × Addr)) (fp : List Addr), GX (X.blk s H scope (compEnvC scope cl C X.env) fp) F E0 n → PG (X.blk s H scope (compEnvC scope cl C X.env) fp) tg (TGv F E0 sl t))
    (ht : ∀ (s : Shared) (H : Hp) (C : Addr) (cl : List (Str × Addr)) (fp : List Addr), GX (X.blk s H scope (compEnvC scope cl C X.env) fp) F E0 n → PTs (X.blk s H scope (compEnvC scope cl C X.env) fp) ifs (TTv F E0 tt))
    (he : ∀ (s : Shared) (H : Hp) (C : Addr) (cl : List (Str × Addr)) (fp : List Addr), GX (X.blk s H scope (compEnvC scope cl C X.env) fp) F E0 n → PE (X.blk s H scope (compEnvC scope cl C X.env) fp) elt (TEv F E0 el))
    (hsl : sl.all (fun i => (own.map (·.2)).contains i) = true := by kernel_rfl) (ok : blkB X.N X.env.scope scope own = true := by kernel_rfl) (hs : ∀ x, foldedSetIterable iter X.env x = pure x := by intro _; rfl) :
    PE X (.ListComp elt [⟨tg, iter, ifs, 0⟩] scope pos) (TEv F Ex (mComp ob ms t tt el (own.map (·.2)))) :=
  ev_comp g.calm g.nd hi (blk_of ok) (fun i h => by simpa using List.all_eq_true.mp hsl i h) (fun s H C cl fp => hg s H C cl fp (g.blk ..)) (fun s H C cl fp => ht s H C cl fp (g.blk ..)) (fun s H C cl fp => he s H C cl fp (g.blk ..)) hs
theorem gasgC (g : GX X F Ex n) (ob : Bool) (k : Nat) (own : List (Str × Nat)) {y : Str} {py spos : Pos} {elt tg iter : Expr} {ifs : List Expr} {scope : Scope} {sl : List Nat} {ms : Env → GH → Res Src} {t : PV → Env → GH → Res Env} {tt : Env → GH → Res Bool} {el : Env → GH → Res PV}
    (hi : PI X tg iter (TIv F Ex ms))
    (hg : ∀ (s : Shared) (H : Hp) (C : Addr) (cl : List (Str × Addr)) (fp : List Addr), GX (X.blk s H scope (compEnvC scope cl C X.env) fp) F E0 n → PG (X.blk s H scope (compEnvC scope cl C X.env) fp) tg (TGv F E0 sl t))
    (ht : ∀ (s : Shared) (H : Hp) (C : Addr) (cl : List (Str × Addr)) (fp : List Addr), GX (X.blk s H scope (compEnvC scope cl C X.env) fp) F E0 n → PTs (X.blk s H scope (compEnvC scope cl C X.env) fp) ifs (TTv F E0 tt))
    (he : ∀ (s : Shared) (H : Hp) (C : Addr) (cl : List (Str × Addr)) (fp : List Addr), GX (X.blk s H scope (compEnvC scope cl C X.env) fp) F E0 n → PE (X.blk s H scope (compEnvC scope cl C X.env) fp) elt (TEv F E0 el))
    (hy : X.N[k]? = some y := by kernel_rfl) (hyl : X.env.scope.names.lookup y = some .local := by kernel_rfl) (hsw : swapsWith (.ListComp elt [⟨tg, iter, ifs, 0⟩] scope pos) (some (.Name y py)) spos.line X.env = pure true := by rfl)
    (hsl : sl.all (fun i => (own.map (·.2)).contains i) = true := by kernel_rfl) (ok : blkB X.N X.env.scope scope own = true := by kernel_rfl) (hs : ∀ x, foldedSetIterable iter X.env x = pure x := by intro _; rfl) :
    PS X (.Assign [.Name y py] (.ListComp elt [⟨tg, iter, ifs, 0⟩] scope pos) spos) (TSv F Ex (sAsg (mComp ob ms t tt el (own.map (·.2))) (gN k))) :=
  ev_asgC g.calm g.nd hy hyl hsw hi (blk_of ok) (fun i h => by simpa using List.all_eq_true.mp hsl i h) (fun s H C cl fp => hg s H C cl fp (g.blk ..)) (fun s H C cl fp => ht s H C cl fp (g.blk ..)) (fun s H C cl fp => he s H C cl fp (g.blk ..)) hs
theorem gmet (g : GX X F Ex n) {T id : String} {name : Str} {o e : Expr} {es : List Expr} {apos : Pos} {mo : Env → GH → Res PV} {ms : Env → GH → Res (List PV)} {f : PV → List PV → GH → Res PV} (pa : PlainAttrs T) (slot : Slot T name id) (hty : typeOf (.builtin id) = pure (.type "method_descriptor")) (hm : MtR X id (RdM F Ex f))
    (ho : PE X o (TEv F Ex mo)) (ha : PA X (e :: es) (TAv F Ex ms)) (hT : mTy T = true := by kernel_rfl) (h1 : plainE e = true := by kernel_rfl) (h2 : es.all plainE = true := by kernel_rfl) (hbase : attributeBase o name X.env (eval o X.env) = eval o X.env := by rfl)
    (hfew : ((backTo pos (starEach (e :: es) X.env)).all (fun x => !x.1) && (backToKw pos (keywordEach [] X.env)).all (fun x => x.1.isSome) && decide ((e :: es).length + ([] : List Keyword).length + (if ([] : List Keyword).isEmpty then 0 else 1) < 30)) = true := by rfl)
    (hline : (apos.endLine == pos.line) = true := by kernel_rfl) : PE X (.Call (.Attribute o name apos) (e :: es) [] pos) (TEv F Ex (mMet T mo ms f)) :=
  ev_met g.K hT pa slot hty hm ho ha h1 h2 hbase hfew hline
end
end EV
end
section
set_option Elab.async false
set_option linter.all false
set_option maxRecDepth 100000
set_option maxHeartbeats 2000000
/-! Zs: zip(a, b, strict=True) of two tuples of one length: walked by a loop, listed. -/
namespace Zs
open PySem
open PySem.Sem (wp)
open PySem.W (kdx_alive)
open RZ
abbrev IsZs (h : Heap) (z TI TO : Addr) (f0 : Value) (b : Bool) : Prop :=
  h.get? z = some { cls := .type "zip", dict := none, data := .fields #[f0, .bool b, .bool true, .ref TI, .ref TO], slots := #[] }
section
variable {prog : Program} {w : World} {A : Around} {E : Value → Shared → Prop} {s : Shared}
end
end Zs
end
section
set_option Elab.async false
set_option linter.all false
set_option maxRecDepth 100000
set_option maxHeartbeats 2000000
/-! Zs2: the call zip(a, b, strict=True); pairs made one by one, listed. -/
namespace Zs
open PySem
open PySem.Sem (wp)
open RZ
section
variable {prog : Program} {w : World} {A : Around} {E : Value → Shared → Prop} {s : Shared}
/-! ### a list of pairs that are made one by one -/
/-- the pairs, new, as they stand -/
structure Prs (Pr : Nat → Value → Value → Prop) (lo : Nat) (h : Heap) (as : List Addr) : Prop where
  above : ∀ a ∈ as, lo ≤ a
  nodup : as.Pairwise (· < ·)
  pairs : ∀ (j : Nat) (a : Addr), as[j]? = some a → ∃ x y, Pr j x y ∧ h.get? a = some { cls := .type "tuple", data := .seq #[x, y] }
theorem Prs.there {Pr : Nat → Value → Value → Prop} {lo : Nat} {h : Heap} {as : List Addr} (g : Prs Pr lo h as) {a : Addr} (ha : a ∈ as) : a < h.objs.size := by
  obtain ⟨j, hj⟩ := List.mem_iff_getElem?.mp ha
  obtain ⟨_, _, _, e⟩ := g.pairs j a hj
  exact Heap.lt_size e
theorem Prs.keep {Pr : Nat → Value → Value → Prop} {lo : Nat} {h h' : Heap} {as : List Addr} (g : Prs Pr lo h as) (k : ∀ b o, lo ≤ b → h.get? b = some o → h'.get? b = some o) : Prs Pr lo h' as :=
  ⟨g.above, g.nodup, fun j a hj => let ⟨x, y, p, e⟩ := g.pairs j a hj; ⟨x, y, p, k a _ (g.above a (List.mem_of_getElem? hj)) e⟩⟩
/-- an iterator that gives a new pair at each turn; lo: below it stands what it writes -/
structure Mkr (prog : Program) (w : World) (A : Around) (I S : Addr) (lo : Nat) (wr : List Addr) (n : Nat) (Pr : Nat → Value → Value → Prop) (St : Nat → Heap → Prop) : Prop where
  low : ∀ b ∈ wr, b < lo
  nS : S ∉ wr
  frame : ∀ i h h', St i h → (∀ b o, b ≠ S → h.get? b = some o → h'.get? b = some o) → St i h'
  item : ∀ i (s : Shared) (Q : Option Value → Shared → Prop) (E : Value → Shared → Prop), i < n → St i s.heap → S < s.heap.objs.size → lo ≤ s.heap.objs.size →
    (∀ x y h' tk, Pr i x y → St (i + 1) h' → h'.get? s.heap.objs.size = some { cls := .type "tuple", data := .seq #[x, y] } → (∀ b o, b ∉ wr → s.heap.get? b = some o → h'.get? b = some o) → Q (some (.ref s.heap.objs.size)) { s with heap := h', toks := tk }) →
    wpAny (model prog w) A (pyNext (.ref I)) Q E s
  done : ∀ (s : Shared) (Q : Option Value → Shared → Prop) (E : Value → Shared → Prop), St n s.heap → (∀ h' tk, (∀ b o, b ∉ wr → s.heap.get? b = some o → h'.get? b = some o) → Q none { s with heap := h', toks := tk }) → wpAny (model prog w) A (pyNext (.ref I)) Q E s
end
end Zs
end
section
set_option Elab.async false
set_option linter.all false
set_option maxRecDepth 100000
set_option maxHeartbeats 1000000
/-! Ev14: zip(a, b, strict=True) of two tuples of one length, walked, listed. -/
namespace EV
open PySem PySem.Spec PyProof.Rows L2 RZ Zs
/-- the tuples at a and b, of one length, the items in new pairs -/
def ItzS (K : PySem.W.Frag) (a b : Addr) : It :=
  ⟨fun i H => ∃ (xs ys : List V) (x y : V), SqT K H a xs ∧ SqT K H b ys ∧ xs[i]? = some x ∧ ys[i]? = some y,
    fun i H v H' => ∃ T x y, ∃ o : Obj, v = .ref T ∧ H T = none ∧ o.dict = none ∧ H' = upd H T (.frz o (.tup [x, y])) ∧ (∀ xs, SqT K H a xs → xs[i]? = some x) ∧ ∀ ys, SqT K H b ys → ys[i]? = some y,
    fun i H => ∃ xs ys : List V, SqT K H a xs ∧ SqT K H b ys ∧ xs.length ≤ i ∧ ys.length ≤ i⟩
section
variable {M : Model} {A : Around} {E : Value → Shared → Prop} {s : Shared} {env : PySem.Env}
end
section
variable {X : Cx} {F : Fx} {Ex : XK} {n : Nat}
def zipP (ps qs : List PV) : List PV := (ps.zip qs).map fun q => .tup [q.1, q.2]
theorem zipP_at {ps qs : List PV} {i : Nat} {p : PV} (h : (zipP ps qs)[i]? = some p) : ∃ a b, ps[i]? = some a ∧ qs[i]? = some b ∧ p = .tup [a, b] := by
  unfold zipP at h
  rw [List.getElem?_map] at h
  cases e : (ps.zip qs)[i]? with
  | none => rw [e] at h; cases h
  | some q =>
    rw [e] at h
    obtain ⟨h1, h2⟩ := List.getElem?_zip_eq_some.mp e
    exact ⟨q.1, q.2, h1, h2, (Option.some.inj h).symm⟩
theorem zipP_len {ps qs : List PV} (h : ps.length = qs.length) : (zipP ps qs).length = ps.length := by
  unfold zipP
  rw [List.length_map, List.length_zip]
  omega
theorem JOk.zs {K : PySem.W.Frag} (hK : F.K = K) {μ : Mu} {H : Hp} {a b : Addr} {vs ws : List V} {ps qs : List PV} (st : StT F μ H a vs) (st2 : StT F μ H b ws) (r : Reps F μ H ps vs) (r2 : Reps F μ H qs ws) (hl : ps.length = qs.length) : JOk F (ItzS K a b) μ H ⟨zipP ps qs, fun _ => true⟩ := by
  subst hK
  intro μ1 H1 G1 e g _
  have sq : SqT F.K H1 a vs := (e.t _ _ st).sq
  have sq2 : SqT F.K H1 b ws := (e.t _ _ st2).sq
  have l1 := r.length
  have l2 := r2.length
  refine ⟨fun i p hp => ?_, vs, ws, sq, sq2, by show vs.length ≤ (zipP ps qs).length; rw [zipP_len hl]; omega, by show ws.length ≤ (zipP ps qs).length; rw [zipP_len hl]; omega⟩
  obtain ⟨x, y, hx, hy, rfl⟩ := zipP_at hp
  obtain ⟨v, h1, h2⟩ := r.get hx
  obtain ⟨u, h3, h4⟩ := r2.get hy
  refine ⟨⟨vs, ws, v, u, sq, sq2, h1, h3⟩, fun z H' hy => ?_⟩
  obtain ⟨T, v', u', o, rfl, hT, hd, rfl, e1, e2⟩ := hy
  have := e1 vs sq
  rw [h1] at this; cases this
  have := e2 ws sq2
  rw [h3] at this; cases this
  refine ⟨fun c o q => by rw [upd_ne (ne_of_none q hT)]; exact q, ?_⟩
  show Rep F μ1 _ _ _
  simp only [Rep]
  exact ⟨T, [v, u], rfl, by show 2 ≤ sizeLine; decide, .inl ⟨g.fresh hT, o, upd_same, hd⟩, (Reps.cons (h2.chg e) (.one (h4.chg e))).mono (Ext.upd_new g hT)⟩
end
end EV
end
section
set_option Elab.async false
set_option linter.all false
set_option maxRecDepth 100000
namespace EV
open PySem PySem.Spec PyProof.Rows L2 RZ Zs
def mkL (ob : Bool) (ps : List PV) (G : GH) : Res PV := if ps.length ≤ sizeLine then (if ob = true then .ok (.obj G.length) (G ++ [.lst ps]) else .ok (.lst ps) G) else .bad
/-- the first of a pair, as data: a text or an int -/
def key0 : PV → PyData
  | .tup (.str x :: _) => .str x
  | .tup (.int i :: _) => .int i
  | _ => .none
def strs0 : PV → Bool
  | .tup (.str _ :: _) => true
  | _ => false
def ints0 : PV → Bool
  | .tup (.int _ :: _) => true
  | _ => false
def bSort0 (ob : Bool) (ps : List PV) (G : GH) : Res PV := match ps with
  | [x] => match asL x G with
    | some qs => if (qs.all strs0 || qs.all ints0) = true then mkL ob (qs.mergeSort (PySem.W.dataLe false key0)) G else .bad
    | none => .bad
  | _ => .bad
section
variable {X : Cx} {F : Fx} {Ex : XK} {n : Nat} {μ : Mu} {H : Hp} {G : GH}
/-- a new list is handed out: as a value or as an object of ours -/
theorem mkL_new {ob : Bool} {ps : List PV} {vs : List V} {H' : Hp} {p : Addr} {Q : VK} (h : Post F (RV F) Ex μ H (mkL ob ps G) Q) (g : HRep F μ H G) (k : ∀ b o, H b = some o → H' b = some o) (hp : H p = none) (hp' : H' p = some (.lst vs)) (r : ∀ μ', (∀ a, μ.free a → a ≠ p → μ'.free a) → (∀ a, H a = none → a ≠ p → μ'.free a) → (∀ (n : Nat) a, μ.ob[n]? = some a → μ'.ob[n]? = some a) → Reps F μ' H' ps vs) : Q (.ref p) H' := by
  unfold mkL at h
  split at h
  · rename_i z
    have dm : ∀ a, H' a = none → H a = none := fun a e => by
      cases q : H a with
      | none => rfl
      | some o => rw [k a o q] at e; cases e
    have fr := g.fresh hp
    cases ob with
    | false =>
      simp only [Bool.false_eq_true, if_false] at h
      have r0 := r μ (fun a f _ => f) (fun a e _ => g.fresh e) fun n a e => e
      refine h.ok (Ext.same k) ?_ (g.same k)
      show Rep F μ _ _ _
      simp only [Rep]
      exact ⟨p, vs, rfl, by rw [← r0.length]; exact z, ⟨fr, hp'⟩, r0⟩
    | true =>
      simp only [if_true] at h
      have ff : ∀ a, μ.free a → a ≠ p → (μ.push p).free a := fun a f n => ⟨fun m => (List.mem_append.mp m).elim f.1 fun q => n (List.mem_singleton.mp q), f.2⟩
      have r0 := r (μ.push p) ff (fun a e n => ff a (g.fresh e) n) fun n a e => (List.getElem?_append_left (List.getElem?_eq_some_iff.mp e).1).trans e
      have ex : Ext μ (μ.push p) H H' := ⟨⟨[p], rfl⟩, rfl, fun a m n => by
        rcases List.mem_append.mp m with q | q
        · exact absurd q n
        · exact fun o z _ => (by rw [List.mem_singleton.mp q, hp] at z; cases z), fun a o e _ _ => k a o e⟩
      refine h.ok ex ?_ ?_
      · show Rep F _ _ _ _
        simp only [Rep]
        exact ⟨p, rfl, by rw [← g.len]; simp⟩
      · have g2 := g.same k
        refine ⟨by simp [Mu.push, g.len], List.nodup_append.mpr ⟨g.nd, by simp, fun a ha b hb => ?_⟩, fun i a u h1 h2 => ?_, fun a m => ?_, g2.tab⟩
        · rw [List.mem_singleton.mp hb]
          intro e
          subst e
          exact g.freshO hp ha
        · have h1 : (μ.ob ++ [p])[i]? = some a := h1
          by_cases hi : i < μ.ob.length
          · rw [List.getElem?_append_left hi] at h1
            rw [List.getElem?_append_left (by rw [← g.len]; exact hi)] at h2
            exact (g.obj i a u h1 h2).keep ex fun v q => k a v q
          · have hi' : i = μ.ob.length := by
              have := (List.getElem?_eq_some_iff.mp h1).1
              simp at this; omega
            subst hi'
            rw [List.getElem?_append_right (Nat.le_refl _)] at h1
            rw [g.len, List.getElem?_append_right (Nat.le_refl _)] at h2
            simp at h1 h2
            subst h1 h2
            exact ⟨vs, hp', by rw [← r0.length]; exact z, r0⟩
        · obtain ⟨h1, u, h2⟩ := g2.res a m
          refine ⟨fun q => ?_, u, h2⟩
          rcases List.mem_append.mp q with q | q
          · exact h1 q
          · exact fr.2 (by rw [← List.mem_singleton.mp q]; exact m)
  · exact (show False from h).elim
end
/-! ### pairs laid -/
def putP (ob : Addr → Obj) : Hp → List Addr → List (V × V) → Hp
  | H, a :: as, p :: ps => putP ob (upd H a (.frz (ob a) (.tup [p.1, p.2]))) as ps
  | H, _, _ => H
theorem putP_off {ob : Addr → Obj} {b : Addr} : ∀ (as : List Addr) (ps : List (V × V)) (H : Hp), b ∉ as → putP ob H as ps b = H b
  | [], _, _, _ => rfl
  | _ :: _, [], _, _ => rfl
  | a :: as, p :: ps, H, h => by
    unfold putP
    rw [putP_off as ps _ (fun z => h (List.mem_cons_of_mem _ z)), upd_ne (fun z => h (by rw [z]; exact List.mem_cons_self))]
theorem putP_at {ob : Addr → Obj} : ∀ (as : List Addr) (ps : List (V × V)) (H : Hp), as.length = ps.length → as.Nodup → Paired (fun (t : Addr) (p : V × V) => putP ob H as ps t = some (.frz (ob t) (.tup [p.1, p.2]))) as ps
  | [], [], _, _, _ => .nil
  | [], _ :: _, _, h, _ => by cases h
  | _ :: _, [], _, h, _ => by cases h
  | a :: as, p :: ps, H, h, hn => by
    have hn' := List.nodup_cons.mp hn
    refine .cons ?_ (putP_at as ps _ (Nat.succ.inj h) hn'.2)
    unfold putP
    rw [putP_off as ps _ hn'.1, upd_same]
/-- the tuple at t, new, its object known -/
def FzP (H : Hp) (t : Addr) (q : V × V) : Prop := Fz H t [q.1, q.2]
section
variable {X : Cx}
end
end EV
end
section
set_option Elab.async false
set_option linter.all false
set_option maxRecDepth 100000
/-! Ev16: list(zip(a, b, strict=True)). -/
namespace EV
open PySem PySem.Spec PyProof.Rows L2 RZ Zs
structure ZsSt (z TI TO i1 i2 a b : Addr) (lo : Nat) (xs ys : Array Value) (i : Nat) (h : Heap) : Prop where
  ti : IsPair h TI (.ref i1) (.ref i2)
  it1 : h.IsTupleIter i1 a i
  it2 : h.IsTupleIter i2 b i
  l1 : h.IsTuple a xs
  l2 : h.IsTuple b ys
  zz : ∃ f0 bb, IsZs h z TI TO f0 bb ∧ ((f0 = .none ∧ ∃ x y, IsPair h TO x y) ∨ ∃ (T : Addr) (oT : Obj), f0 = rawInt T ∧ h.get? T = some oT ∧ lo ≤ T)
theorem tup_keep {h h' : Heap} {a : Addr} {xs : Array Value} (x : h.IsTuple a xs) (k : ∀ o, h.get? a = some o → h'.get? a = some o) : h'.IsTuple a xs := by
  obtain ⟨o, e, q⟩ := x
  exact ⟨o, k o e, q⟩
section
variable {X : Cx} {F : Fx} {Ex : XK} {n : Nat}
theorem chg_new {μ μ' : Mu} {H H' : Hp} {p : Addr} (k : ∀ b o, H b = some o → H' b = some o) (hp : H p = none) (f : ∀ a, μ.free a → a ≠ p → μ'.free a) (ob : ∀ (n : Nat) a, μ.ob[n]? = some a → μ'.ob[n]? = some a) : Chg F μ μ' H H' := by
  have aux : ∀ {a : Addr} {u : HO}, Rd H a u → a ≠ p ∧ Rd H' a u := fun {a u} r => by
    rcases r with r | ⟨o, r⟩
    · exact ⟨ne_of_none r hp, .inl (k _ _ r)⟩
    · exact ⟨ne_of_none r hp, .inr ⟨o, k _ _ r⟩⟩
  refine ⟨fun a xs h => h.imp (fun q => ⟨f a q.1 (aux q.2).1, (aux q.2).2⟩) id, fun a xs h => ⟨f a h.1 (ne_of_none h.2 hp), k _ _ h.2⟩, fun a xs h => h.imp (fun ⟨q, o, r, d⟩ => ⟨f a q (aux (.inl r)).1, o, k _ _ r, d⟩) id, ob⟩
end
end EV
end
section
set_option Elab.async false
set_option linter.all false
set_option maxRecDepth 100000
/-! Ev17: sorted(xs, key=lambda x: x[0]). -/
namespace EV
open PySem PySem.Spec PyProof.Rows L2 RZ Zs
section
variable {F : Fx} {μ : Mu} {H H' : Hp} {G : GH}
theorem Ext.extN (e : LamX.ExtN H H') : Ext μ μ H H' := ⟨⟨[], by simp⟩, rfl, fun a m k => absurd m k, fun a o q nt _ => e a o q nt⟩
theorem HRep.extN (h : HRep F μ H G) (e : LamX.ExtN H H') (t : LamX.Tabs F.T H') : HRep F μ H' G where
  len := h.len
  nd := h.nd
  obj := fun i a o h1 h2 => (h.obj i a o h1 h2).keep (Ext.extN e) fun u q => e a u q fun ps z => by
    obtain ⟨v, q2, q3⟩ := h.isO (List.mem_of_getElem? h1)
    rw [q, z] at q2
    cases q2
    exact q3
  res := fun a m => let ⟨h1, xs, h2⟩ := h.res a m; ⟨h1, xs, e a _ h2 fun _ z => by cases z⟩
  tab := t
end
section
variable {prog : Program} {w : World} {A : Around} {E : Value → Shared → Prop} {s : Shared}
theorem lam0_call {f c' t : Addr} {qual x : Str} {params : Arguments} {scope : Scope} {cl : List (Str × Addr)} {pm ctv : Value} {j : Nat} {p2 p3 p4 : Pos} {items : Array Value} {y : Value} {Q : Value → Shared → Prop} (hroom : A.depth < recursionLimit)
    (of1 : s.heap.get? f = some (PySem.W.kla_obj "<lambda>" qual params (.Subscript (.Name x p3) (.Constant (.int 0) j p4) p2) scope cl pm c' ctv)) (hk : scope.kind = .function) (co : scope.isCoroutine = false) (gen : scope.isGenerator = false)
    (hrec : ∃ (oc : Obj) (vs : Array Value) (t : Tok), s.heap.get? c' = some oc ∧ oc.data = .fields vs ∧ vs[1]? = some (.str qual t)) (lim : s.heap.NoLimit)
    (hbind : ∀ v, bindArgs (PySem.W.kla_fn "<lambda>" qual params (.Subscript (.Name x p3) (.Constant (.int 0) j p4) p2) scope cl pm (.ref c') ctv) ⟨[v], []⟩ = pure [(x, v)]) (hloc : scope.names.lookup x = some .local) (hnc : ∀ y ∈ scope.names, y.2 ≠ .cell) (hd : (x == ("__debug__" : Str)) = false)
    (ht : IsTup s.heap t items) (hz : items.size < 2 ^ 63) (hy : items[0]? = some y) (hQ : ∀ h' tk, (∀ b o, s.heap.get? b = some o → h'.get? b = some o) → Q y { s with heap := h', toks := tk }) :
    wpAny (model prog w) A (call (.ref f) [.ref t]) Q E s := by
  obtain ⟨oc, vs, tq, hoc, hdc, hvc⟩ := hrec
  refine wpAny_call ?_
  refine PySem.W.kla_callFunE hroom of1 rfl co gen rfl ⟨c', oc, vs, tq, rfl, hoc, hdc, hvc⟩ ?_
  rw [hbind]
  refine wpAny_pure (wpAny_newFunctionEnv hnc (fun q hq => ?_) (fun h₁ hns hsb => ⟨lim.fresh _ hsb, ?_⟩) hk)
  · rw [List.mem_singleton.mp hq]
    exact hloc
  · have kp : ∀ b o, s.heap.get? b = some o → h₁.get? b = some o := fun b o e => hsb.extBut b o (Nat.ne_of_lt (Heap.lt_size e)) (Heap.get?_push_of_some _ e)
    show codeAny _ _ (.expr (.Subscript (.Name x p3) (.Constant (.int 0) j p4) p2) _) _ _
    refine PySem.W.kla_codeExpr ?_
    refine Subscript_ (wpAny_Name (wpAny_loadName_local hk hloc hns (v := .ref t) (by simp [List.lookup]) ?_) hd)
    refine wpAny_Constant_int ?_
    refine subscriptTail_builtinR (x := y) (T := "tuple") (IsTup.typeIs (tup_keep ht fun o e => kp _ o e)) slot_tuple_getitem.lookup (PyProof.Rows.getItem_tuple (j := 0) (tup_keep ht fun o e => kp _ o e) (by omega) (by omega) ?_ hy ⟨rfl, ?_⟩) rfl
    · have hs : 0 < items.size := (Array.getElem?_eq_some_iff.mp hy).1
      show seqIndex? 0 items.size = some 0
      rw [seqIndex_of (by omega) (by omega)]
      rfl
    · exact hQ _ _ kp
end
/-- the code object and the table by which a def makes its lambdas -/
structure LamK (X : Cx) (F : Fx) : Prop where
  ex : ∃ c P, LamX.TabB X.base X.mg c P ∧ X.env.code = .ref c ∧ (P, X.env.qual ++ "<lambda>") ∈ F.T ∧ ∀ p ∈ F.T, p.1 = P → p.2 = X.env.qual ++ "<lambda>"
section
variable {X : Cx} {F : Fx} {Ex : XK} {n : Nat} {μ : Mu} {H : Hp} {G : GH}
theorem alike0 {qs : List PV} (h : (qs.all strs0 || qs.all ints0) = true) : PySem.W.AllAlike (qs.map key0) ∧ PySem.W.Sortable (qs.map key0) := by
  have key : ∀ d ∈ qs.map key0, (qs.all strs0 = true → ∃ x, d = .str x) ∧ (qs.all ints0 = true → ∃ i, d = .int i) := fun d hd => by
    obtain ⟨p, hp, rfl⟩ := List.mem_map.mp hd
    refine ⟨fun a => ?_, fun a => ?_⟩
    · have := List.all_eq_true.mp a p hp
      unfold strs0 at this
      split at this
      · exact ⟨_, rfl⟩
      · cases this
    · have := List.all_eq_true.mp a p hp
      unfold ints0 at this
      split at this
      · exact ⟨_, rfl⟩
      · cases this
  rw [Bool.or_eq_true] at h
  rcases h with h | h
  · refine ⟨fun d hd d' hd' => ?_, .inr fun d hd => ?_⟩
    · obtain ⟨x, rfl⟩ := (key d hd).1 h
      obtain ⟨y, rfl⟩ := (key d' hd').1 h
      rfl
    · obtain ⟨x, rfl⟩ := (key d hd).1 h
      exact ⟨nofun, nofun⟩
  · refine ⟨fun d hd d' hd' => ?_, .inr fun d hd => ?_⟩
    · obtain ⟨x, rfl⟩ := (key d hd).2 h
      obtain ⟨y, rfl⟩ := (key d' hd').2 h
      rfl
    · obtain ⟨x, rfl⟩ := (key d hd).2 h
      exact ⟨nofun, nofun⟩
theorem key0_depth (p : PV) : (key0 p).depth = 0 := by
  unfold key0
  split <;> rfl
/-- the first item of a pair, as the heap has it -/
theorem head0 {p : PV} {x : V} (h : (strs0 p || ints0 p) = true) (r : Rep F μ H p x) : ∃ a y ys, x = .ref a ∧ SqT F.K H a (y :: ys) ∧ ((∃ z, y = .str z ∧ key0 p = .str z) ∨ ∃ i, y = .int i ∧ key0 p = .int i) := by
  cases p with
  | tup ps =>
    obtain ⟨a, vs, rfl, z, st, rr⟩ := rep_tup r
    cases ps with
    | nil => cases h
    | cons q qs =>
      obtain ⟨y, ys, rfl, r1, _⟩ := rr.cons_inv
      refine ⟨a, y, ys, rfl, st.sq, ?_⟩
      cases q with
      | str z => exact .inl ⟨z, rep_str r1, rfl⟩
      | int i => exact .inr ⟨i, rep_int r1, rfl⟩
      | _ => cases h
  | _ => cases h
theorem each_of {ps : List PV} {xs : List V} {us : List Value} (r : Reps F μ H ps xs) (v : Vals xs us) : PySem.W.EachIs (fun u p => ∃ x, Rep F μ H p x ∧ RelV x u) us ps := by
  induction v generalizing ps with
  | nil =>
    cases ps with
    | nil => exact .nil
    | cons p ps => obtain ⟨_, _, e, _⟩ := r.cons_inv; cases e
  | cons rx rr ih =>
    cases ps with
    | nil => cases r.nil_inv
    | cons p ps =>
      obtain ⟨x, xr, e, r1, r2⟩ := r.cons_inv
      cases e
      exact .cons ⟨_, r1, rx⟩ (ih r2)
theorem each_to {ps : List PV} {us : List Value} (e : PySem.W.EachIs (fun u p => ∃ x, Rep F μ H p x ∧ RelV x u) us ps) : ∃ xs, Reps F μ H ps xs ∧ Vals xs us := by
  induction e with
  | nil => exact ⟨[], .nil, .nil⟩
  | cons h _ ih =>
    obtain ⟨x, h1, h2⟩ := h
    obtain ⟨xs, h3, h4⟩ := ih
    exact ⟨x :: xs, .cons h1 h3, .cons h2 h4⟩
theorem gsort0 (g : GX X F Ex n) (L : LamK X F) (ob : Bool) {e : Expr} {p p2 p3 p4 pos kp lp : Pos} {j : Nat} {m : Env → GH → Res PV} {x : Str} {args : Arguments} {sc : Scope} (hm : X.mg "sorted" = none) (ha : PE X e (TEv F Ex m)) (hg : X.env.kindOf "sorted" = some .globalImplicit := by kernel_rfl) (h1 : plainE e = true := by kernel_rfl)
    (hk : sc.kind = .function := by rfl) (co : sc.isCoroutine = false := by rfl) (gen : sc.isGenerator = false := by rfl) (hloc : sc.names.lookup x = some .local := by rfl) (hnc : (sc.names.all fun y => y.2 == .local) = true := by rfl) (hd : nmB x = true := by kernel_rfl) (hdef : defaultsOf args X.env = ([], []) := by rfl)
    (hbind : ∀ (c' : Addr) (pm ctv : Value) (cl : List (Str × Addr)) (q : Str) (v : Value), bindArgs (PySem.W.kla_fn "<lambda>" q args (.Subscript (.Name x p3) (.Constant (.int 0) j p4) p2) sc cl pm (.ref c') ctv) ⟨[v], []⟩ = pure [(x, v)] := by intro _ _ _ _ _ _; rfl) :
    PE X (.Call (.Name "sorted" p) [e] [⟨some "key", .Lambda args (.Subscript (.Name x p3) (.Constant (.int 0) j p4) p2) sc lp, kp⟩] pos) (TEv F Ex (mA (mCons m mNil) (bSort0 ob))) := by
  refine ⟨fun pins s σ H Q I ⟨μ, ρ, G, sr, gr, q⟩ => ?_⟩
  obtain ⟨c, P, TB, hcode, hmT, hu⟩ := L.ex
  have hall : ∀ y ∈ sc.names, y.2 = .local := fun y hy => by simpa using List.all_eq_true.mp hnc y hy
  have ra : TEv F Ex m σ H (fun x H1 => ∃ μ1 a G1, Rep F μ1 H1 a x ∧ HRep F μ1 H1 G1 ∧ Post F (RV F) Ex μ1 H1 (bSort0 ob [a] G1) Q) := by
    unfold mA mCons mNil at q
    rw [Res.bind_assoc] at q
    exact TEv.run sr gr q fun μ1 a G1 v H1 e1 r1 g1 s1 p1 => ⟨μ1, a, G1, r1, g1, p1⟩
  have na : starEach [e] X.env = (false, eval e X.env) :: starEach [] X.env := star_plain h1
  refine wpAny_Call_Name_kw (ld_blt I hg hm (u := .builtin "sorted") (by kernel_rfl) ?_)
  refine PyProof.Rows.callWith_kw (args_cons (thn (ha.run pins s σ H _ I ra) fun v s1 ⟨x1, H1, I1, rx1, μ1, a, G1, r1, g1, p1⟩ => args_nil ?_) na) (by rw [na]; rfl) (by rw [na]; rfl) rfl rfl
  refine kws_cons (LamX.lam_make2 I1 TB hcode hmT hu g1.tab hdef (fun y hy e => by rw [hall y hy] at e; cases e) fun f c' pm ctv H2 s2 I2 eN T2 of1 hfn hfr hco => kws_nil ?_)
  show wpAny _ _ (call (.builtin "sorted") [v] [(Str.ofString "key", .ref f)]) _ _ _
  unfold bSort0 at p1
  simp only at p1
  split at p1
  · rename_i qs es
    split at p1
    · rename_i hal
      obtain ⟨al, vs, rfl, z, st, rr⟩ := asL_rep es r1 g1
      obtain rfl : v = .ref al := rx1
      have e2 : Ext μ1 μ1 H1 H2 := Ext.extN eN
      have g2 := g1.extN eN T2
      have rr2 := rr.mono e2
      have st2 : SqL X.K H2 al vs := by
        rw [← g.K]
        rcases st with h | h
        · rcases h with h | ⟨o, h⟩
          · exact .inl (.inl (eN _ _ h fun _ z => by cases z))
          · exact .inl (.inr ⟨o, eN _ _ h fun _ z => by cases z⟩)
        · exact .inr h
      obtain ⟨its, rv, pl, hz⟩ := I2.list st2
      obtain ⟨hA, hS⟩ := alike0 hal
      have heads : ∀ p' ∈ qs, (strs0 p' || ints0 p') = true := fun p' hp => by
        rw [Bool.or_eq_true] at hal ⊢
        exact hal.imp (fun h => List.all_eq_true.mp h p' hp) fun h => List.all_eq_true.mp h p' hp
      have un : X.A.units + 64 < cLine := g.un
      refine PySem.W.sorted_key_data (b := false) (R := fun u p => ∃ x, Rep F μ1 H2 p x ∧ RelV x u) key0 pl.isList (each_of rr2 rv) hA hS (by rw [rr.length]; exact z) (fun y _ => by rw [key0_depth]; omega) (ksk_s1 _ _) (fun _ => ksk_l1 _ _) (fun _ => ksk_t1 _ _)
        (fun u p' ⟨xx, rp, ru⟩ hp h tk kp => ?_) fun out cc h' tk kp nS hS hlen eo => ?_
      · obtain ⟨t, y, ys, rfl, sq, hy⟩ := head0 (heads p' hp) rp
        obtain rfl : u = .ref t := ru
        rw [g.K] at sq
        obtain ⟨its', rv', p1', hz'⟩ := I2.tuple sq
        obtain ⟨w, hw, rw'⟩ := rv'.get (i := 0) (x := y) rfl
        obtain ⟨⟨oc, vs', tq, hoc, hdc, hvc⟩, _, _⟩ := I2.hok c' _ hco
        have dp := g.room.depth
        refine lam0_call (s := { s2 with heap := h, toks := tk }) (by show X.A.in1.in1.depth < _; exact dp) (kp _ _ of1) hk co gen ⟨oc, vs', tq, kp _ _ hoc, hdc, hvc⟩ (I2.nolimit.keeps kp) (fun v => hbind _ _ _ _ _ v) hloc (fun y hy e => by rw [hall y hy] at e; cases e) (nm1 hd)
          (tup_keep (show s2.heap.IsTuple t its'.toArray from p1') fun o e => kp _ o e) (by have := line63; have := rv'.length; simp; omega) (by simpa using hw) fun h2 tk2 kp2 => ⟨h2, tk2, rfl, kp2, ?_⟩
        rcases hy with ⟨zz, rfl, e3⟩ | ⟨ii, rfl, e3⟩
        · obtain ⟨t', rfl⟩ := rw'
          rw [e3]
          exact .str zz t'
        · obtain ⟨t', rfl⟩ := rw'
          rw [e3]
          exact .int ii t'
      · obtain ⟨ys, ry, vy⟩ := each_to eo
        have fr : H2 (s2.heap.objs.size + 1) = none := I2.hok.fresh (Nat.le_succ _)
        have ll : ys.length ≤ sizeLine := by rw [vy.length, hlen, rr.length]; exact z
        refine ⟨.ref _, upd H2 (s2.heap.objs.size + 1) (.lst ys), I2.laid (t' := tk) kp (Nat.le_succ _) ⟨ll, out, cc, vy, hS⟩, rfl, ?_⟩
        refine mkL_new (p1.shift e2) g2 (fun b o e => by rw [upd_ne (ne_of_none e fr)]; exact e) fr upd_same fun μ' f1 f2 f3 => ?_
        exact ry.chg (chg_new (fun b o e => by rw [upd_ne (ne_of_none e fr)]; exact e) fr f1 f3)
    · exact (show False from p1).elim
  · exact (show False from p1).elim
end
/-- a def that makes lambdas -/
def LamD (K : PySem.W.Frag) (mg : Str → Option Value) (base : Heap) (F : Fx) (f : Addr) (qual : Str) : Prop := ∀ cdv, CodeAt K f cdv → ∃ c P, LamX.TabB base mg c P ∧ cdv = .ref c ∧ (P, qual ++ ".<locals>." ++ "<lambda>") ∈ F.T ∧ ∀ p ∈ F.T, p.1 = P → p.2 = qual ++ ".<locals>." ++ "<lambda>"
theorem lamK_of {P : Program} {w : World} {K : PySem.W.Frag} {mg : Str → Option Value} {base : Heap} {F : Fx} {N : List Str} {qual : Str} {scope : Scope} {f : Addr} {cdv : Value} {A : Around} {outer : List PySem.Env} {s : Shared} {H : Hp} {E : XK} (h : LamD K mg base F f qual) (hc : CodeAt K f cdv) : LamK (CXo P w K mg base N qual scope f cdv A outer s H E) F := by
  obtain ⟨c, P', h1, h2, h3, h4⟩ := h cdv hc
  exact ⟨c, P', h1, h2, h3, h4⟩
end EV
end
section
set_option Elab.async false
set_option linter.all false
set_option maxRecDepth 100000
/-! Ev18: a law's end: the script comes in, True goes out. -/
namespace EV
open PySem PySem.Spec PyProof.Rows L2 PySem.Calls
/-- what is tracked at a law's call: the empty tables, the script's list where it is none of the written part -/
def H0 (tb : List Addr) (K : PySem.W.Frag) (a : Addr) (o : Obj) (ns : List Int) : Hp := fun b => if b ∈ tb then some (.tbl #[]) else if b = a ∧ K.lookup a = none then some (.frz o (.lst (ns.map V.int))) else none
section
variable {P : Program} {w : World} {K : PySem.W.Frag} {mg mb : Str → Option Value} {F : Fx} {k : Nat} {fa a : Addr} {cs : List (Addr × Addr)} {x : Str} {s₁ : Shared} {vs : List Value} {ns : List Int} {m : List PV → GH → Res PV}
theorem h0_cases {tb : List Addr} {o : Obj} {b : Addr} {u : HO} (e : H0 tb K a o ns b = some u) : (b ∈ tb ∧ u = .tbl #[]) ∨ (b ∉ tb ∧ b = a ∧ K.lookup a = none ∧ u = .frz o (.lst (ns.map V.int))) := by
  unfold H0 at e
  split at e
  · cases e; exact .inl ⟨by assumption, rfl⟩
  · split at e
    · rename_i h1 h2
      cases e
      exact .inr ⟨h1, h2.1, h2.2, rfl⟩
    · cases e
theorem ints_rep {μ : Mu} {H : Hp} : ∀ ns : List Int, Reps F μ H (ns.map PV.int) (ns.map V.int)
  | [] => .nil
  | n :: ns => .cons (by simp only [Rep]) (ints_rep ns)
theorem law_callG (hFK : F.K = K) (KX : K.In s₁.heap) (hns : s₁.heap.Ns mainGlobals mg) (hb : s₁.heap.Ns builtinsNs mb) (hbb : ∀ x : Str, x ≠ "__name__" → mb x = bootBuiltins x) (hlim : s₁.heap.NoLimit) (hg : s₁.gens = #[])
    (hT : ∀ p ∈ cs, s₁.heap.get? p.2 = some { cls := .none, data := .fields #[] }) (nT : ∀ p ∈ cs, K.lookup p.2 = none) (C : ∀ p ∈ cs, PySem.W.CodeHd s₁.heap p.1 p.2) (hFT : ∀ q ∈ F.T, q.1 ∈ cs.map (·.2))
    (hbm : ∃ (bm : Addr) (ob : Obj), mg "__builtins__" = some (.ref bm) ∧ bm ≠ builtinsNs ∧ s₁.heap.get? bm = some ob ∧ ob.cls = .type "module" ∧ ob.dict = some builtinsNs ∧ ob.data = .plain) (hmg : mg x = some (.ref fa))
    (ha : s₁.heap.get? a = some { cls := .type "list", data := .seq vs.toArray }) (hi : IntsAre vs ns) (hl : ns.length ≤ sizeLine) (hr : Room k callerA) (hm : ∃ G, m [.sls (ns.map PV.int)] [] = .ok (.bl true) G)
    (hF : ∀ base : Heap, K.In base → base.Ns mainGlobals mg → (∀ p ∈ cs, LamX.TabB base mg p.1 p.2) → CalleeP P w K mg base F k x 1 m) :
    codeAny (model P w) callerA (.call (.ref fa) ⟨[.ref a], []⟩) (fun r s' => r = .ok (.ret (.bool true)) ∧ OldK s₁.heap s'.heap ∧ s'.os = s₁.os ∧ AllBare s'.gens) s₁ := by
  let tb := cs.map (·.2)
  let H := H0 tb K a { cls := .type "list", data := .seq vs.toArray } ns
  have rv := vals_ints hi
  have lenV := hi.length
  have atT : ∀ b ∈ tb, s₁.heap.get? b = some { cls := .none, data := .fields #[] } ∧ K.lookup b = none ∧ H b = some (.tbl #[]) := fun b hb => by
    obtain ⟨p, hp, rfl⟩ := List.mem_map.mp hb
    exact ⟨hT p hp, nT p hp, if_pos hb⟩
  have aT : a ∉ tb := fun z => by
    have q := (atT a z).1
    rw [ha] at q
    cases congrArg Obj.data (Option.some.inj q)
  have cases_ : ∀ {b u}, H b = some u → (b ∈ tb ∧ u = .tbl #[]) ∨ (b ∉ tb ∧ b = a ∧ K.lookup a = none ∧ u = .frz { cls := .type "list", data := .seq vs.toArray } (.lst (ns.map V.int))) := h0_cases
  have hok : HOk P w H s₁.heap := fun b u e => by
    rcases cases_ e with ⟨h1, rfl⟩ | ⟨_, rfl, _, rfl⟩
    · exact (atT b h1).1
    · exact ⟨ha, by rw [List.length_map]; exact hl, vs, _, rv, ha⟩
  -- what is neither a list nor an empty record isn't hidden
  have seen : ∀ {b o}, s₁.heap.get? b = some o → (∀ us n, o.data ≠ .seq us n) → o.data ≠ .fields #[] → H b = none := fun {b o} e h1 h2 => by
    cases q : H b with
    | none => rfl
    | some u =>
      rcases cases_ q with ⟨q1, _⟩ | ⟨_, rfl, _, _⟩
      · rw [(atT b q1).1] at e; cases e; exact (h2 rfl).elim
      · rw [ha] at e; cases e; exact (h1 _ _ rfl).elim
  have inB : ∀ {b o}, s₁.heap.get? b = some o → H b = none → (hidT s₁.heap H).get? b = some o := fun e q => hidT_get e q
  have nsB : ∀ {b m}, s₁.heap.Ns b m → (hidT s₁.heap H).Ns b m := fun {b m} ⟨o, es, ep, e, d, r⟩ => ⟨o, es, ep, inB e (seen e (fun us n z => by rw [d] at z; cases z) fun z => by rw [d] at z; cases z), d, r⟩
  have kB : K.In (hidT s₁.heap H) := fun b o e => inB (KX b o e) (by
    cases q : H b with
    | none => rfl
    | some u =>
      rcases cases_ q with ⟨q1, _⟩ | ⟨_, rfl, q2, _⟩
      · rw [(atT b q1).2.1] at e; cases e
      · rw [q2] at e; cases e)
  have TB : ∀ p ∈ cs, LamX.TabB (hidT s₁.heap H) mg p.1 p.2 := fun p hp => by
    have gP : mainGlobals ≠ p.2 := fun z => by
      obtain ⟨o, es, ep, e, hd, _⟩ := hns
      rw [z, hT p hp] at e
      cases e
      cases hd
    refine ⟨?_, ?_, gP⟩
    · obtain ⟨o, us, file, tf, flags, tg, inF, text, tt, e1, e2, e3, e4, e5⟩ := C p hp
      exact ⟨o, us, file, tf, flags, tg, inF, text, tt, inB e1 (seen e1 (fun us' n z => by rw [e3] at z; cases z) fun z => by rw [e3] at z; cases z; simp at e4), e2, e3, e4, e5⟩
    · obtain ⟨bm, ob, b1, b2, b3, b4, b5, b6⟩ := hbm
      refine ⟨bm, ob, b1, b2, fun q => ?_, fun q => ?_, inB b3 (seen b3 (fun us n z => by rw [b6] at z; cases z) fun z => by rw [b6] at z; cases z), b4, b5, b6⟩
      · obtain ⟨o, es, ep, e, hd, _⟩ := hns
        rw [q, e] at b3
        cases b3
        rw [hd] at b6
        cases b6
      · rw [q, hT p hp] at b3
        cases b3
        cases b6
  have e0 : Env0 P w K mg (hidT s₁.heap H) callerA [] s₁ H := ⟨rfl, ⟨kB, nsB hns, ⟨mb, nsB hb, hbb⟩, let ⟨mc, h1, h2⟩ := hlim; ⟨mc, nsB h1, h2⟩⟩, fun b o e => of_hidT e, Nat.le_of_eq (hidT_size _ _), trivial, fun b hb => absurd hb (by simp [frs]), hok, .of_eq hg⟩
  obtain ⟨f, fd, ps, Fn, hf, _, hbd⟩ := (hF _ kB (nsB hns) TB).ex
  rw [hmg] at hf
  cases hf
  obtain ⟨G, hG⟩ := hm
  have sp : SpV F 1 m [.ref a] H (fun v _ => v = .bl true) fun _ _ _ => False := by
    refine ⟨rfl, ⟨[], []⟩, [.sls (ns.map PV.int)], [], .one ?_, ⟨rfl, List.nodup_nil, fun i b o h => by simp at h, fun b h => by simp at h, fun q hq => .nil (atT _ (hFT q hq)).2.2⟩, ?_⟩
    · simp only [Rep]
      refine ⟨a, ns.map V.int, rfl, by rw [List.length_map]; exact hl, ?_, ints_rep ns⟩
      cases hk : K.lookup a with
      | none => exact .inl ⟨⟨by simp, by simp⟩, .inr ⟨_, by show H a = _; unfold H H0; rw [if_neg aT, if_pos ⟨rfl, hk⟩]⟩⟩
      | some o =>
        have e := KX a o hk
        rw [ha] at e
        cases e
        exact .inr ⟨_, vs.toArray, _, by rw [hFK]; exact hk, rfl, rfl, rfl, by rw [List.size_toArray, lenV]; exact hl, by simpa using rv⟩
    · rw [hG]
      exact fun μ' b H' _ r _ => rep_bl r
  have hlen : ps.length = 1 := (Fn.len _ _ _ _ sp).symm
  refine codeAny_mono (Fn.run callerA [] s₁ H ⟨[.ref a], []⟩ [.ref a] [.ref a] _ _ hr rfl e0 (hbd s₁ [.ref a] KX (by rw [hlen]; rfl)) (.cons rfl .nil) sp) fun r s' h => ?_
  cases r with
  | error e =>
    obtain ⟨_, _, _, _, _, _, _, _, _, _, _, _, z⟩ := (show L2.CX P w [] H s₁ (fun _ _ _ => False) e s' from h)
    exact z.elim
  | ok fl =>
    cases fl with
    | next => exact False.elim h
    | brk => exact False.elim h
    | cont => exact False.elim h
    | ret u =>
      obtain ⟨v, H', os, bare, un, hok', r', q⟩ := h
      obtain rfl : v = .bl true := q
      obtain rfl : u = Value.bool true := r'
      have kept : ∀ b o, b ∉ tb → s₁.heap.get? b = some o → s'.heap.get? b = some o := fun b o nb e => by
        cases q : H b with
        | none => exact un.keep b o e q (by simp [frs]) (by simp)
        | some u =>
          rcases cases_ q with ⟨z, _⟩ | ⟨_, rfl, _, rfl⟩
          · exact absurd z nb
          · have z2 := hok' b _ (un.frzs b _ _ q)
            rw [ha] at e
            cases e
            exact z2.1
      have grown : ∀ b ∈ tb, ∃ more : Array Value, s'.heap.get? b = some { cls := .none, data := .fields more } := fun b hb => by
        obtain ⟨more, z⟩ := un.tbls b #[] (atT b hb).2.2
        exact ⟨_, hok' b _ z⟩
      refine ⟨rfl, ⟨fun b o e => ?_, fun b o e => ?_⟩, os, bare⟩
      · by_cases hb : b ∈ tb
        · obtain ⟨p, hp, rfl⟩ := List.mem_map.mp hb
          obtain ⟨more, hm⟩ := grown _ hb
          rw [hT p hp] at e
          cases e
          exact .inr (.inl ⟨((C p hp).tab (hT p hp)).isCodeTable, rfl, #[], more, rfl, by rw [Array.empty_append]; exact hm⟩)
        · exact .inl (kept b o hb e)
      · by_cases hb : b ∈ tb
        · obtain ⟨more, hm⟩ := grown b hb
          exact ⟨_, hm⟩
        · exact ⟨o, kept b o hb e⟩
end
/-- what is known of a law at the head's heap h -/
def LawG (l : PySem.W.OpenLaw) (w : World) (k n : Nat) (x : Str) (mg : Str → Option Value) (fa : Addr) (h : Heap) : Prop :=
  ∃ (F : Fx) (cs : List (Addr × Addr)) (m : List PV → GH → Res PV), F.K.In h ∧ (∀ p ∈ cs, h.get? p.2 = some { cls := .none, data := .fields #[] }) ∧ (∀ p ∈ cs, F.K.lookup p.2 = none) ∧ (∀ p ∈ cs, PySem.W.CodeHd h p.1 p.2) ∧ (∀ q ∈ F.T, q.1 ∈ cs.map (·.2)) ∧
    (∀ ns : List Int, ns.length ≤ n → (∀ z ∈ ns, Builtin.Int.intBits z ≤ 1048576) → ∃ G, m [.sls (ns.map PV.int)] [] = .ok (.bl true) G) ∧
    ∀ base : Heap, F.K.In base → base.Ns mainGlobals mg → (∀ p ∈ cs, LamX.TabB base mg p.1 p.2) → CalleeP l.prog w F.K mg base F k x 1 m
theorem walk_G {l : PySem.W.OpenLaw} {n k : Nat} {q : Program} {loose : List Str} {XP : (Str → Option Value) → Heap → Prop} {YP : World → Heap → Prop} {d : DefRec} (hn : l.most = some n) (hn2 : n ≤ sizeLine) (hdf : d.params.defaults = []) (hr : Room k callerA)
    (hF : ∀ (w : World) (mg : Str → Option Value) (fa : Addr) (h : Heap), YP w h → h.Ns mainGlobals mg → mg d.name = some (.ref fa) → LawG l w k n d.name mg fa h) : PySem.W.WalkO q loose XP YP l.row.toRowW d [] (fun f vs => PySem.call f vs) := by
  refine Att.attach_callB hn hdf fun w s₀ s₁ mg mb fa o pm cd doc a vs ns G Y ho hd hcd hmg hobj hints hlen hbits hg => ?_
  obtain ⟨F, cs, m, KX, hT, nT, C, hFT, hm, hC⟩ := hF w mg fa _ Y G.T.g hmg
  exact law_callG rfl KX G.T.g G.T.b G.T.builtins G.T.nolimit hg hT nT C hFT G.T.bmain hmg hobj hints (Nat.le_trans hlen hn2) hr (hm ns hlen hbits) hC
end EV
end
section
set_option Elab.async false
set_option linter.all false
set_option maxRecDepth 100000
/-! Ev19: what the head tells, for the defs. -/
namespace EV
open PySem PySem.Spec PyProof.Rows L2
/-- the tables of the defs that make lambdas are of one each -/
def oneEach (tf : List He.Defn) (K : PySem.W.Frag) : Bool := decide ((tf.map fun p => (He.cT K p).2).Nodup)
/-- their names -/
def lamT (tf : List He.Defn) (K : PySem.W.Frag) : List (Addr × Str) := tf.map fun p => ((He.cT K p).2, p.1 ++ ".<locals>." ++ "<lambda>")
theorem nodup_map_eq {α β : Type} {f : α → β} : ∀ {l : List α}, (l.map f).Nodup → ∀ {a b : α}, a ∈ l → b ∈ l → f a = f b → a = b
  | x :: l, h, a, b, ha, hb, e => by
    rw [List.map_cons, List.nodup_cons] at h
    rcases List.mem_cons.mp ha with ha | ha <;> rcases List.mem_cons.mp hb with hb | hb
    · rw [ha, hb]
    · exact absurd (List.mem_map.mpr ⟨b, hb, by rw [← e, ha]⟩) h.1
    · exact absurd (List.mem_map.mpr ⟨a, ha, by rw [e, hb]⟩) h.1
    · exact nodup_map_eq h.2 ha hb e
theorem lamD_of {K : PySem.W.Frag} {mg : Str → Option Value} {base : Heap} {F : Fx} {tf : List He.Defn} {p : He.Defn} {params : Arguments} {body : List Stmt} {scope : Scope} {dvs : List V} {kws : List (Str × V)} {fd : FuncData} (hp : p ∈ tf) (h1 : oneEach tf K = true) (hT : F.T = lamT tf K)
    (TB : ∀ p ∈ tf, LamX.TabB base mg (He.cT K p).1 (He.cT K p).2) (Fd : FunD K p.1 p.1 params body scope dvs kws (He.fAd K p) fd) : LamD K mg base F (He.fAd K p) p.1 := by
  intro cdv ⟨oc, od, osl, fd', lk, e⟩
  obtain ⟨oc2, od2, dV, kV, doc, pm, an, cdv2, ct, osl2, e2, lk2, hc, _⟩ := Fd.ex
  rw [lk] at lk2
  cases lk2
  subst e2
  have e' : cdv2 = cdv := e
  subst e'
  obtain ⟨c, rfl⟩ := He.codeIn_ref hc
  have hco : He.codeOf K p = c := He.codeOf_eq lk rfl
  refine ⟨(He.cT K p).1, (He.cT K p).2, TB p hp, by show Value.ref c = .ref (He.codeOf K p); rw [hco], ?_, fun r hr e => ?_⟩
  · rw [hT]
    exact List.mem_map.mpr ⟨p, hp, rfl⟩
  · rw [hT] at hr
    obtain ⟨p', hp', rfl⟩ := List.mem_map.mp hr
    rw [nodup_map_eq (of_decide_eq_true h1) hp' hp e]
end EV
end
section
set_option Elab.async false
set_option linter.all false
set_option maxRecDepth 100000
/-! Ev20: dicts: dict(pairs), {}, k in d, d[k], d[k] = v. -/
namespace EV
open PySem PySem.Spec PyProof.Rows L2
def keyP : PV → Option Key
  | .str x => some (.inr x)
  | .int i => some (.inl i)
  | _ => none
def pairP : PV → Option (Key × PV)
  | .tup [k, v] => (keyP k).map fun k => (k, v)
  | _ => none
def pairsP : List PV → Option (List (Key × PV))
  | [] => some []
  | p :: ps => match pairP p, pairsP ps with
    | some q, some qs => some (q :: qs)
    | _, _ => none
def getP (kps : List (Key × PV)) (k : Key) : Option PV := (kps.find? fun q => decide (q.1 = k)).map (·.2)
def hasP (kps : List (Key × PV)) (k : Key) : Bool := kps.any fun q => decide (q.1 = k)
def putD (kps : List (Key × PV)) (k : Key) (v : PV) : List (Key × PV) := if hasP kps k = true then kps.map (fun q => if q.1 = k then (q.1, v) else q) else kps ++ [(k, v)]
def mergeP (kps more : List (Key × PV)) : List (Key × PV) := more.foldl (fun acc q => putD acc q.1 q.2) kps
section
variable {F : Fx} {μ : Mu} {H : Hp} {G : GH}
theorem keyP_rep {p : PV} {k : Key} {v : V} (e : keyP p = some k) (r : Rep F μ H p v) : v = kV k := by
  cases p with
  | str x => cases e; exact rep_str r
  | int i => cases e; exact rep_int r
  | _ => cases e
theorem RepK.length {kps : List (Key × PV)} {kvs : List (Key × V)} (r : RepK F μ H kps kvs) : kps.length = kvs.length := Paired.length r
theorem RepK.get {kps : List (Key × PV)} {kvs : List (Key × V)} {k : Key} (r : RepK F μ H kps kvs) : (∀ p, getP kps k = some p → ∃ v, valV kvs k = some v ∧ Rep F μ H p v) ∧ (getP kps k = none → valV kvs k = none) := by
  replace r : Paired _ kps kvs := r
  induction r with
  | nil => exact ⟨fun p h => by simp [getP] at h, fun _ => rfl⟩
  | cons h t ih =>
    rename_i q w kps kvs
    by_cases e : q.1 = k
    · refine ⟨fun p hp => ?_, fun hn => by simp [getP, List.find?_cons, e] at hn⟩
      have : q.2 = p := by simpa [getP, List.find?_cons, e] using hp
      subst this
      exact ⟨w.2, valV_pos (by rw [← h.1]; exact e), h.2⟩
    · have e1 : getP (q :: kps) k = getP kps k := by simp [getP, List.find?_cons, e]
      have e2 : valV (w :: kvs) k = valV kvs k := valV_neg (by rw [← h.1]; exact e)
      rw [e1, e2]
      exact ih
theorem RepK.put {kps : List (Key × PV)} {kvs : List (Key × V)} {k : Key} {p : PV} {v : V} (r : RepK F μ H kps kvs) (rp : Rep F μ H p v) : RepK F μ H (putD kps k p) (putK kvs k v) := by
  replace r : Paired _ kps kvs := r
  have e : hasP kps k = kvs.any fun kv => decide (kv.1 = k) := by
    unfold hasP
    induction r with
    | nil => rfl
    | cons h t ih => simp only [List.any_cons, ih, h.1]
  unfold putD putK
  rw [e]
  split
  · show Paired _ _ _
    clear e
    rename_i z
    clear z
    induction r with
    | nil => exact .nil
    | cons h t ih =>
      rename_i q w _ _
      refine .cons ?_ ih
      show (if q.1 = k then (q.1, p) else q).1 = (if w.1 = k then (w.1, v) else w).1 ∧ Rep F μ H (if q.1 = k then (q.1, p) else q).2 (if w.1 = k then (w.1, v) else w).2
      by_cases z : q.1 = k
      · rw [if_pos z, if_pos (by rw [← h.1]; exact z)]
        exact ⟨h.1, rp⟩
      · rw [if_neg z, if_neg (by rw [← h.1]; exact z)]
        exact h
  · show Paired _ _ _
    clear e
    rename_i z
    clear z
    induction r with
    | nil => exact .cons ⟨rfl, rp⟩ .nil
    | cons h t ih => exact .cons h ih
theorem RepK.merge {more : List (Key × PV)} {ws : List (Key × V)} (r : RepK F μ H more ws) : ∀ {kps : List (Key × PV)} {kvs : List (Key × V)}, RepK F μ H kps kvs → RepK F μ H (mergeP kps more) (mergeK kvs ws) := by
  replace r : Paired _ more ws := r
  induction r with
  | nil => intro kps kvs q; exact q
  | cons h t ih =>
    rename_i q w _ _
    intro kps kvs r0
    have := ih (RepK.put (k := q.1) r0 h.2)
    unfold mergeP mergeK
    simp only [List.foldl_cons]
    rw [← h.1]
    exact this
/-- pairs, as the heap has them -/
theorem pairs_rep {ps : List PV} {kps : List (Key × PV)} {vs : List V} (e : pairsP ps = some kps) (r : Reps F μ H ps vs) : ∃ (ts : List Addr) (kvs : List (Key × V)), vs = ts.map V.ref ∧ Paired (fun p kv => SqT F.K H p [kV kv.1, kv.2]) ts kvs ∧ RepK F μ H kps kvs := by
  induction ps generalizing kps vs with
  | nil =>
    cases e
    rw [r.nil_inv]
    exact ⟨[], [], rfl, .nil, .nil⟩
  | cons p ps ih =>
    unfold pairsP at e
    split at e
    · rename_i q qs e1 e2
      cases e
      obtain ⟨v, vr, rfl, r1, rr⟩ := r.cons_inv
      obtain ⟨ts, kvs, rfl, h1, h2⟩ := ih e2 rr
      unfold pairP at e1
      split at e1
      · rename_i k x
        obtain ⟨kk, ek, rfl⟩ := Option.map_eq_some_iff.mp e1
        obtain ⟨a, ws, rfl, z, st, r2⟩ := rep_tup r1
        obtain ⟨y, w, rfl, r3, r4⟩ := Reps.two_inv r2
        refine ⟨a :: ts, (kk, w) :: kvs, rfl, .cons ?_ h1, .cons ⟨rfl, r4⟩ h2⟩
        rw [← keyP_rep ek r3]
        exact st.sq
      · cases e1
    · cases e
end
section
variable {X : Cx}
theorem pair_vals {pins : List (Addr × Obj)} {σ : L2.St} {H : Hp} {s : Shared} (I : Inv X pins σ H s) {ts : List Addr} {kvs : List (Key × V)} (h : Paired (fun p kv => SqT X.K H p [kV kv.1, kv.2]) ts kvs) :
    ∃ (prs : List (Key × Value)) (us : List (Value × Value)), KV kvs prs ∧ prs.length = ts.length ∧ us.length = ts.length ∧ ∀ (j : Nat) (q : Value × Value), us[j]? = some q → ∃ (b : Addr) (k : Key), ts[j]? = some b ∧ prs[j]? = some (k, q.2) ∧ IsTup s.heap b #[q.1, q.2] ∧ keyIs k q.1 = true := by
  induction h with
  | nil => exact ⟨[], [], .nil, rfl, rfl, fun j q e => by simp at e⟩
  | cons h t ih =>
    rename_i p kv ts kvs
    obtain ⟨prs, us, h1, h2, h3, h4⟩ := ih
    obtain ⟨its, rv, ht, _⟩ := I.tuple h
    obtain ⟨u, y, ei, ru, ry⟩ := vals2 rv
    subst ei
    refine ⟨(kv.1, y) :: prs, (u, y) :: us, .cons ⟨rfl, ry⟩ h1, by simp [h2], by simp [h3], fun j q e => ?_⟩
    cases j with
    | zero =>
      simp at e
      subst e
      exact ⟨p, kv.1, rfl, rfl, ht, kV_is (P := X.prog) (w := X.w) ru⟩
    | succ j =>
      obtain ⟨b, k, e1, e2, e3⟩ := h4 j q (by simpa using e)
      exact ⟨b, k, by simpa using e1, by simpa using e2, e3⟩
/-- dict(t), a tuple of pairs -/
theorem call_dictT {F : Fx} {μ : Mu} (hK : F.K = X.K) (hcalm : X.calm = true) : CallR X (.type "dict") (fun xs H Q => ∃ (a : Addr) (ts : List Addr) (kvs : List (Key × V)), xs = [.ref a] ∧ StT F μ H a (ts.map V.ref) ∧ Paired (fun p kv => SqT X.K H p [kV kv.1, kv.2]) ts kvs ∧
    ∀ p, H p = none → Q (.ref p) (upd H p (.dK (mergeK [] kvs)))) := by
  intro pins s σ H xs us Q I r ⟨a, ts, kvs, ex, st, hp, q⟩
  subst ex
  obtain ⟨u, eu, rx⟩ := vals1 r
  subst eu
  cases rx
  obtain ⟨its, o, rv, hz, ho, hc, hd, n, hdat⟩ : ∃ (its : List Value) (o : Obj), Vals (ts.map V.ref) its ∧ ts.length ≤ sizeLine ∧ s.heap.get? a = some o ∧ o.cls = .type "tuple" ∧ o.dict = none ∧ ∃ n, o.data = .seq its.toArray n := by
    rcases st with ⟨_, o, h, d⟩ | ⟨o, its, n, h1, h2, h3, h4, h5, h6⟩
    · obtain ⟨ho, z, its, rv, o', ho', c, n, dt⟩ := I.hok a _ h
      rw [ho] at ho'
      cases ho'
      exact ⟨its, o, rv, by rw [List.length_map] at z; exact z, ho, c, d, n, dt⟩
    · rw [hK] at h1
      have := h6.length
      refine ⟨its.toList, o, h6, ?_, I.kIn a o h1, h2, h3, n, by simpa using h4⟩
      rw [List.length_map] at this
      rw [this]
      simpa using h5
  have ei := refs_at rv
  subst ei
  obtain ⟨prs, vps, rel, hl, hl2, hpr⟩ := pair_vals I hp
  have hT : PySem.PairItems s.heap (ts.map Value.ref).toArray (fun j => ts.getD j 0) vps := by
    refine ⟨by simp [hl2], fun j k v hj => ?_⟩
    obtain ⟨b, kk, e1, _, e3, _⟩ := hpr j (k, v) hj
    refine ⟨by simp [e1, List.getD], ?_⟩
    obtain ⟨ob, hb, cb, nb, db⟩ := e3
    have eb : ts.getD j 0 = b := by rw [List.getD_eq_getElem?_getD, e1]; rfl
    show PairAt s.heap (ts.getD j 0) k v
    rw [eb]
    exact .inl ⟨ob, hb, cb, nb, db⟩
  refine PySem.call_dict_pairs (knd := mixKind X.prog X.w) (kvs := prs) (PySem.PairArg.tuple a _ (fun j => ts.getD j 0) vps) (I.ok.hd hcalm) ⟨⟨o, n, ho, hc, hd, hdat⟩, hT⟩ ⟨by omega, fun i key v e => ?_⟩ (by omega) fun h' tk hd' k => ?_
  · obtain ⟨b, kk, _, e2, _, e4⟩ := hpr i (key, v) e
    exact ⟨kk, e2, e4⟩
  · have hm : (s.heap.objs.size == sysModules) = false := beq_eq_false_iff_ne.mpr (Nat.ne_of_gt I.big)
    have hlen : (mergeK [] kvs).length ≤ sizeLine := by
      refine Nat.le_trans (length_mergeK kvs []) ?_
      have := rel.length
      simp
      omega
    exact ⟨.ref s.heap.objs.size, upd H s.heap.objs.size (.dK (mergeK [] kvs)), I.laid (t' := tk) (fun b o e => k b o (by simp) e) (Nat.le_refl _) (show ObjOk X.prog X.w _ _ _ (.dK (mergeK [] kvs)) from ⟨hlen, hm, merged [] prs, KV.merge rel .nil, hd'⟩), rfl, q _ (I.hok.fresh (Nat.le_refl _))⟩
end
section
variable {X : Cx} {F : Fx} {Ex : XK} {n : Nat} {μ : Mu} {H : Hp} {G : GH}
/-- a new dict is handed out -/
theorem new_dic {kps : List (Key × PV)} {kvs : List (Key × V)} {Q : VK} (h : Post F (RV F) Ex μ H (.ok (.obj G.length) (G ++ [.dic kps])) Q) (g : HRep F μ H G) (r : RepK F μ H kps kvs) (z : kvs.length ≤ sizeLine) : ∀ p, H p = none → Q (.ref p) (upd H p (.dK kvs)) := fun p n => by
  refine h.ok (Ext.push g n) ?_ (g.push n ⟨kvs, upd_same, z, r.mono (Ext.push g n)⟩)
  show Rep F _ _ _ _
  simp only [Rep]
  exact ⟨p, rfl, by rw [← g.len]; simp⟩
def bDict (ps : List PV) (G : GH) : Res PV := match ps with
  | [.tup qs] => match pairsP qs with
    | some kps => .ok (.obj G.length) (G ++ [.dic (mergeP [] kps)])
    | none => .bad
  | [x] => match (asL x G).bind pairsP with
    | some kps => .ok (.obj G.length) (G ++ [.dic (mergeP [] kps)])
    | none => .bad
  | _ => .bad
theorem bDict_ok (hK : F.K = X.K) (hc : X.calm = true) : CallR X (.type "dict") (RdV F Ex bDict) := by
  intro pins s σ H xs us Q I rs ⟨μ, ps, G, r, g, p⟩
  unfold bDict at p
  split at p
  · rename_i qs
    obtain ⟨v, rfl, r1⟩ := Reps.one_inv r
    obtain ⟨a, vs, rfl, z, st, rr⟩ := rep_tup r1
    split at p
    · rename_i kps ek
      obtain ⟨ts, kvs, rfl, h1, h2⟩ := pairs_rep ek rr
      rw [hK] at h1
      have hz : (mergeK [] kvs).length ≤ sizeLine := by
        have a1 := Paired.length h1
        have a2 := length_mergeK kvs []
        rw [List.length_map] at z
        simp at a2
        omega
      exact call_dictT hK hc pins s σ H _ us Q I rs ⟨a, ts, kvs, rfl, st, h1, new_dic p g (RepK.merge h2 .nil) hz⟩
    · exact (show False from p).elim
  · rename_i x hx
    obtain ⟨v, rfl, r1⟩ := Reps.one_inv r
    split at p
    · rename_i kps ek
      obtain ⟨qs, es, e2⟩ := Option.bind_eq_some_iff.mp ek
      obtain ⟨a, vs, rfl, z, st, rr⟩ := asL_rep es r1 g
      obtain ⟨ts, kvs, rfl, h1, h2⟩ := pairs_rep e2 rr
      rw [hK] at h1 st
      have hz : (mergeK [] kvs).length ≤ sizeLine := by
        have a1 := Paired.length h1
        have a2 := length_mergeK kvs []
        rw [List.length_map] at z
        simp at a2
        omega
      exact call_dictP hc pins s σ H _ us Q I rs ⟨a, ts, kvs, rfl, st, h1, new_dic p g (RepK.merge h2 .nil) hz⟩
    · exact (show False from p).elim
  · exact (show False from p).elim
def mDNew : Env → GH → Res PV := fun _ G => .ok (.obj G.length) (G ++ [.dic []])
theorem gdnew {pos : Pos} : PE X (.Dict [] [] pos) (TEv F Ex mDNew) := pe_dnewK.weak fun σ H Q ⟨μ, ρ, G, s, g, p⟩ => new_dic (show Post F (RV F) Ex μ H (.ok (.obj G.length) (G ++ [.dic []])) Q from p) g .nil (by decide)
/-- a dict of ours, with what it holds at a key -/
def asD (G : GH) : PV → Option (List (Key × PV))
  | .obj n => match G[n]? with
    | some (.dic kps) => some kps
    | _ => none
  | _ => none
theorem asD_rep {x : PV} {kps : List (Key × PV)} {v : V} (e : asD G x = some kps) (r : Rep F μ H x v) (g : HRep F μ H G) : ∃ n a kvs, x = .obj n ∧ G[n]? = some (.dic kps) ∧ v = .ref a ∧ μ.ob[n]? = some a ∧ H a = some (.dK kvs) ∧ kvs.length ≤ sizeLine ∧ RepK F μ H kps kvs := by
  cases x with
  | obj n =>
    obtain ⟨a, rfl, ha⟩ := rep_obj r
    unfold asD at e
    simp only at e
    split at e
    · rename_i ks eo
      cases e
      obtain ⟨kvs, q, z, rk⟩ := g.obj n a _ ha eo
      exact ⟨n, a, kvs, rfl, eo, rfl, ha, q, z, rk⟩
    · cases e
  | _ => cases e
/-- k in x: of a dict too -/
def opInA (neg : Bool) (ps : List PV) (G : GH) : Res PV := match ps with
  | [k, x] => match asD G x with
    | some kps => match keyP k with
      | some kk => .ok (.bl (neg != (getP kps kk).isSome)) G
      | none => .bad
    | none => opInN neg [k, x] G
  | _ => .bad
theorem opInA_ok (hK : F.K = X.K) (hu : X.A.units + 1 < cLine) : OpR X (compareOp .In) (OpV F Ex (opInA false)) := by
  intro pins s σ H x y v u Q I rx ry ⟨μ, ps, G, r, g, p⟩
  unfold opInA at p
  split at p
  · obtain ⟨vk, vx, e, r2, r1⟩ := Reps.two_inv r
    cases e
    split at p
    · rename_i kps ed
      obtain ⟨n, a, kvs, rfl, _, rfl, ha, q, z, rk⟩ := asD_rep ed r1 g
      split at p
      · rename_i kk ek
        obtain rfl : u = .ref a := ry
        refine d_in (o := valV kvs kk) hu I (.inl ⟨kvs, kk, .inl q, keyP_rep ek r2, rfl⟩) rx fun s' I' => ⟨.bl _, H, I', rfl, ?_⟩
        have e1 : (getP kps kk).isSome = (valV kvs kk).isSome := by
          cases eg : getP kps kk with
          | none => rw [(RepK.get rk).2 eg]; rfl
          | some w => obtain ⟨v', hv, _⟩ := (RepK.get rk).1 w eg; rw [hv]; rfl
        rw [← e1]
        have : (false != (getP kps kk).isSome) = (getP kps kk).isSome := by cases (getP kps kk).isSome <;> rfl
        rw [this] at p
        exact p.here RV.bl g
      · exact (show False from p).elim
    · exact opIn_ok hK pins s σ H _ _ v u Q I rx ry ⟨μ, _, G, r, g, p⟩
  · exact (show False from p).elim
/-- o[i] = e: of a dict too -/
def fSetA (ps : List PV) (G : GH) : Res Unit := match ps with
  | [.obj n, k, v] => match G[n]? with
    | some (.dic kps) => match keyP k with
      | some kk => if kps.length < sizeLine then .ok () (G.set n (.dic (putD kps kk v))) else .bad
      | none => .bad
    | _ => fSetL ps G
  | _ => .bad
theorem fSetA_ok (hu : X.A.units + 1 < cLine) : PSet X (RdSet F Ex fSetA) := by
  intro pins s σ H o i v ov iv u Q I ro ri rv ⟨μ, ps, G, r, g, p⟩
  unfold fSetA at p
  split at p
  · rename_i n k w
    split at p
    · rename_i kps eo
      obtain ⟨x1, t1, e1, r1, rr⟩ := r.cons_inv
      obtain ⟨x2, t2, e2, r2, rr⟩ := rr.cons_inv
      obtain ⟨x3, e3, r3⟩ := rr.one_inv
      subst e3
      subst e2
      cases e1
      obtain ⟨a, rfl, ha⟩ := rep_obj r1
      split at p
      · rename_i kk ek
        split at p
        · rename_i hz
          obtain ⟨kvs, q, z, rk⟩ := g.obj _ a _ ha eo
          obtain rfl : ov = .ref a := ro
          have m := List.mem_of_getElem? ha
          have l := RepK.length rk
          refine d_setItem hu I (DPut.k (k := kk) (v := v) q (by omega)) (by rw [← keyP_rep ek r2]; exact ri) rv fun s' I' => ⟨_, I', ?_⟩
          have ex : Ext μ μ H (upd H a (.dK (putK kvs kk v))) := Ext.write m
          refine p.ok (b := ()) ex trivial (g.write ha ⟨_, upd_same, ?_, (RepK.put rk r3).mono ex⟩)
          have := length_putK kvs kk v
          omega
        · exact (show False from p).elim
      · exact (show False from p).elim
    · exact fSetL_ok pins s σ H o i v ov iv u Q I ro ri rv ⟨μ, _, G, r, g, p⟩
  · exact (show False from p).elim
end
end EV
end
section
set_option Elab.async false
set_option linter.all false
set_option maxRecDepth 100000
/-! Ev21: comprehensions of two clauses. -/
namespace EV
open PySem PySem.Spec PyProof.Rows L2
section
variable {X : Cx} {F : Fx} {Ex : XK}
/-- the list D is being made: what it holds so far -/
structure Mk2 (F : Fx) (μ1 : Mu) (H1 : Hp) (D : Addr) (l : List Addr) (H2 : Hp) (G2 : GH) (accP : List PV) (acc : List V) : Prop where
  e : Ext μ1 ⟨l, μ1.rs⟩ H1 H2
  g : HRep F ((⟨l, μ1.rs⟩ : Mu).mk1 D) H2 G2
  c : Chg F μ1 ((⟨l, μ1.rs⟩ : Mu).mk1 D) H1 H2
  at_ : H2 D = some (.lst acc)
  r : Reps F ((⟨l, μ1.rs⟩ : Mu).mk1 D) H2 accP acc
  z : acc.length ≤ sizeLine
theorem Mk2.step {μ1 : Mu} {H1 H2 H3 : Hp} {D : Addr} {l : List Addr} {G2 G3 : GH} {accP : List PV} {acc : List V} {μ3 : Mu} (hD : H1 D = none) (m : Mk2 F μ1 H1 D l H2 G2 accP acc) (e : Ext ((⟨l, μ1.rs⟩ : Mu).mk1 D) μ3 H2 H3) (g : HRep F μ3 H3 G3) : ∃ l3, μ3 = (⟨l3, μ1.rs⟩ : Mu).mk1 D ∧ Mk2 F μ1 H1 D l3 H3 G3 accP acc := by
  obtain ⟨l3, rfl⟩ := Ext.drop1 (μ := ⟨l, μ1.rs⟩) e
  have hDl : D ∉ l := (m.g.res D List.mem_cons_self).1
  have h3 : H3 D = some (.lst acc) := e.keep D _ m.at_ (fun _ z => by cases z) hDl
  have u : upd H3 D (.lst acc) = H3 := by
    funext b; unfold upd; split
    · rename_i z; rw [z, h3]
    · rfl
  have st := Ext.step1 (o := .lst acc) hD m.e e
  rw [u] at st
  exact ⟨l3, rfl, st, g, m.c.trans e.chg, h3, m.r.mono e, m.z⟩
end
end EV
end
section
set_option Elab.async false
set_option linter.all false
set_option maxRecDepth 100000
set_option maxHeartbeats 1000000
/-! Ev22: a, *b = t, of a tuple; the rest is a new list. -/
namespace EV
open PySem PySem.Spec PyProof.Rows L2
section
variable {prog : Program} {w : World} {A : Around} {E : Value → Shared → Prop} {s : Shared}
theorem walks_from (hh : A.handled = none) (it t : Addr) (k : Nat) (items : Array Value) (hne : t ≠ it) : Walks prog w A it [it, t] [it] (items.size - k) (fun i v => items[k + i]? = some v) (fun i h => h.IsTupleIter it t (k + i) ∧ h.IsTuple t items) where
  sub := fun b hb => by simp at hb; simp [hb]
  frame := fun i h h' st hk => ⟨st.1.at fun o e => hk it (by simp) o e, tup_keep st.2 fun o e => hk t (by simp) o e⟩
  item := fun i s Q E hi st hQ => by
    have hx : items[k + i]? = some (items[k + i]'(by omega)) := Array.getElem?_eq_getElem (by omega)
    refine next_tuple_item (show IsTupIter s.heap it t (k + i) from st.1) st.2 hx fun h' hit' sb => ?_
    exact hQ _ h' s.toks hx ⟨hit', tup_keep st.2 fun o e => sb.extBut t o hne e⟩ fun b o hb e => sb.extBut b o (fun z => hb (by simp [z])) e
  done := fun s Q E st hQ => by
    have hx : items[k + (items.size - k)]? = none := Array.getElem?_eq_none (by omega)
    refine next_tuple_end hh (show IsTupIter s.heap it t _ from st.1) st.2 hx fun h' he => ?_
    exact hQ h' s.toks fun b o hb e => he b o (fun z => hb (by simp [z])) e
  self := fun i s Q E st hQ => by
    refine wpAny_pyIter_slot st.1.typeIs F.slot_tuple_iterator_iter (wpAny_call_entry F.slot_tuple_iterator_iter st.1.typeIs F.entry_tuple_iterator_iter ?_ (F.args_tuple_iterator_iter_1 _))
    show wpAny _ _ (ret (.ref it)) _ _ s
    exact wpAny_pure ⟨_, rfl, "tuple_iterator", _, st.1.typeIs, F.slot_tuple_iterator_next.lookup, hQ⟩
theorem unpack_star {t : Addr} {items : Array Value} {k : Nat} {Q : List Value → Shared → Prop} (hh : A.handled = none) (ht : IsTup s.heap t items) (hk : k ≤ items.size) (hz : items.size ≤ sizeLine)
    (hQ : ∀ (L : Addr) h' tk, (∀ b o, s.heap.get? b = some o → h'.get? b = some o) → s.heap.get? L = none → h'.get? L = some { cls := .type "list", data := .seq (items.toList.drop k).toArray } → Q (items.toList.take k ++ [.ref L]) { s with heap := h', toks := tk }) :
    wpAny (model prog w) A (unpackItems (.ref t) (k + 1) (some k)) Q E s := by
  have hlt : t ≠ s.heap.objs.size := by obtain ⟨o, ho, _⟩ := ht; exact Nat.ne_of_lt (Heap.lt_size ho)
  unfold unpackItems
  refine wpAny_bind ?_
  unfold notIterableAtAll
  refine wpAny_bind (wpAny_specialOf ht.typeIs slot_tuple_iter.lookup ?_)
  refine wpAny_pure ?_
  simp only [Bool.false_eq_true, if_false]
  refine wpAny_bind (wpAny_holding (iter_tuple ht ?_))
  refine wpAny_bind (wpAny_holding (draw_tuple hlt k 0 _ _ ⟨_, Heap.get?_push_size _ rfl, rfl, rfl⟩ (ht.push _) (by omega) fun h₁ hit₁ hs₁ => ?_))
  rw [List.drop_zero]
  have hlen : (items.toList.take k).length = k := by simp; omega
  rw [if_neg (by rw [hlen]; omega)]
  have ht₁ : IsTup h₁ t items := (ht.push _).extBut hs₁.extBut hlt
  have hI : s.heap.objs.size < h₁.objs.size := by obtain ⟨o, e, _⟩ := hit₁; exact Heap.lt_size e
  have htl : t < h₁.objs.size := by obtain ⟨o, e, _⟩ := ht₁; exact Heap.lt_size e
  have hit₁' : h₁.IsTupleIter s.heap.objs.size t (k + 0) := by
    have := hit₁
    rw [Nat.zero_add] at this
    exact this
  refine wpAny_bind (wpAny_holding (wpAny_collect_iter (s := { s with heap := h₁ }) (T := "tuple_iterator") (.inr (.inr (.inr rfl))) (walks_from (A := A.in1) hh _ t k items hlt).toS (fun i s' st => st.1.typeIs) ⟨hit₁', ht₁⟩ (fun b hb => ?_) (by simp) (fun s' acc mv it => ?_) (by omega)))
  · have e : b = s.heap.objs.size ∨ b = t := by simpa using hb
    rcases e with e | e <;> (rw [e]; assumption)
  · have ea : acc.toList = items.toList.drop k := by
      apply List.ext_getElem?
      intro j
      rw [List.getElem?_drop]
      by_cases hj : j < acc.size
      · have h1 := it.2 j acc[j] (Array.getElem?_eq_getElem hj)
        rw [Array.getElem?_toList, Array.getElem?_toList, h1, Array.getElem?_eq_getElem hj]
      · have h0 := it.1
        rw [List.getElem?_eq_none (by simp; omega), List.getElem?_eq_none (by simp; omega)]
    rw [ea]
    have e1 : k + 1 - 1 - k = 0 := by omega
    rw [if_neg (by rw [e1]; omega)]
    rw [e1, Nat.sub_zero, List.take_length, List.drop_length]
    have kp : ∀ b o, s.heap.get? b = some o → s'.heap.get? b = some o := fun b o e => by
      have hb : b ≠ s.heap.objs.size := Nat.ne_of_lt (Heap.lt_size e)
      exact mv.heap b o (fun z => hb (by simpa using z)) (hs₁.extBut b o hb (Heap.get?_push_of_some _ e))
    refine wpAny_bind (wpAny_newList ?_ (by simp; omega))
    refine wpAny_pure ?_
    have es := Moved.eq_with mv
    rw [es, List.append_nil]
    refine hQ s'.heap.objs.size _ s'.toks (fun b o e => Heap.get?_push_of_some _ (kp b o e)) ?_ (Heap.get?_push_size _ rfl)
    cases q : s.heap.get? s'.heap.objs.size with
    | none => rfl
    | some o => exact absurd (Heap.lt_size (kp _ o q)) (Nat.lt_irrefl _)
end
section
variable {X : Cx} {F : Fx} {Ex : XK} {n : Nat}
theorem pgs_last {e : Expr} {p : Pos} {t : TGs} (h : PGs X [e] t) (hp : plainE e = true) : PGs X [.Starred e p] t := by
  refine ⟨fun pins s σ H vs us Q I r q => ?_⟩
  have := h.run pins s σ H vs us Q I r q
  rw [plain_target hp] at this
  exact this
/-- a, .., *b = a tuple -/
theorem pg_star {es : List Expr} {k j : Nat} {pos : Pos} {t : TGs} (hc : X.calm = true) (h : PGs X es t) (hn : (assignEach es X.env).length = k + 1) (hst : (assignEach es X.env).findIdx? (·.1) = some k) :
    PG X (.Tuple es j pos) (fun v σ H Q => ∃ a xs, v = .ref a ∧ SqT X.K H a xs ∧ k ≤ xs.length ∧ ∀ L, H L = none → t (xs.take k ++ [.ref L]) σ (upd H L (.lst (xs.drop k))) Q) := by
  refine ⟨fun pins s σ H v u Q I r hw => ?_⟩
  obtain ⟨a, xs, e1, hq, hl, hw⟩ := hw
  subst e1
  cases r
  obtain ⟨its, rv, ht, hz⟩ := I.tuple hq
  have hle := rv.length
  rw [assign_Tuple]
  refine wpAny_bind (wpAny_standAt ?_)
  unfold unpack
  rw [hn, hst]
  refine wpAny_bind (wpAny_holding (unpack_star (I.ok.hd hc) ht (by simp; omega) (by simp; omega) fun L h' tk kp hL hLo => ?_))
  have hn' : H L = none := I.hok.gone hL
  have I1 : Inv X pins σ (upd H L (.lst (xs.drop k))) { s with heap := h', toks := tk } := I.laidN (t' := tk) kp hL hn' ⟨by rw [List.length_drop]; omega, its.drop k, _, rv.drop k, by simpa using hLo⟩
  refine h.run pins _ σ _ (xs.take k ++ [.ref L]) _ Q I1 ?_ (hw L hn')
  have := (rv.take k).append (show Vals [V.ref L] [Value.ref L] from .cons (show RelV (.ref L) (Value.ref L) from rfl) .nil)
  simpa using this
def gStarE (k : Nat) (ms : List PV → Env → GH → Res Env) : PV → Env → GH → Res Env := fun p ρ G => match p with
  | .tup ps => if k ≤ ps.length then ms (ps.take k ++ [.lst (ps.drop k)]) ρ G else .bad
  | _ => .bad
theorem gts (g : GX X F Ex n) {es : List Expr} {j : Nat} {pos : Pos} {sl : List Nat} {ms : List PV → Env → GH → Res Env} (k : Nat) (h : PGs X es (TGvs F Ex sl ms)) (hn : (assignEach es X.env).length = k + 1 := by rfl) (hst : (assignEach es X.env).findIdx? (·.1) = some k := by rfl) :
    PG X (.Tuple es j pos) (TGv F Ex sl (gStarE k ms)) := (pg_star g.calm h hn hst).weak fun v σ H Q ⟨μ, p, ρ, G, r, s, gr, q⟩ => by
  unfold gStarE at q
  split at q
  · rename_i ps
    obtain ⟨a, vs, rfl, z, st, rr⟩ := rep_tup r
    split at q
    · rename_i hk
      have hl := rr.length
      refine ⟨a, vs, rfl, by rw [← g.K]; exact st.sq, by omega, fun L hL => ?_⟩
      have ex := Ext.upd_new gr (o := .lst (vs.drop k)) hL
      refine ⟨μ, _, ρ, G, (rr.mono ex).take k |>.append (.one ?_), s.mono ex, gr.upd_new hL, q.shift ex⟩
      simp only [Rep]
      exact ⟨L, vs.drop k, rfl, by rw [List.length_drop]; omega, ⟨gr.fresh hL, upd_same⟩, (rr.mono ex).drop k⟩
    · exact (show False from q).elim
  · exact (show False from q).elim
theorem gtl {a : Expr} {p : Pos} {sl : List Nat} {m : PV → Env → GH → Res Env} (h1 : PG X a (TGv F Ex sl m)) (hp : plainE a = true := by kernel_rfl) : PGs X [.Starred a p] (TGvs F Ex (sl ++ []) (gConsE m gNilE)) := pgs_last (ev_gcons hp h1 ev_gnil) hp
end
end EV
end
section
set_option Elab.async false
set_option linter.all false
set_option maxRecDepth 100000
set_option maxHeartbeats 2000000
/-! Zs3: enumerate of a tuple, turn by turn. -/
namespace Zs
open PySem
open PySem.Sem (wp)
open RZ
section
variable {prog : Program} {w : World} {A : Around} {E : Value → Shared → Prop} {s : Shared}
end
end Zs
end
section
set_option Elab.async false
set_option linter.all false
set_option maxRecDepth 100000
set_option maxHeartbeats 2000000
/-! Ev23: list(enumerate(t)), t a tuple. -/
namespace Zs
open PySem
section
variable {prog : Program} {w : World} {A : Around} {E : Value → Shared → Prop} {s : Shared}
/-- where the walk stands -/
structure EnSt (e it l : Addr) (lo : Nat) (xs : Array Value) (i : Nat) (h : Heap) : Prop where
  hit : h.IsTupleIter it l i
  hl : h.IsTuple l xs
  en : (∃ old, IsEnum h e it i old) ∨ ∃ (T : Addr) (oT : Obj) (f : Bool) (old : Value), IsEnumHeld h e it i old T f ∧ h.get? T = some oT ∧ lo ≤ T
end
end Zs
namespace EV
open PySem PySem.Spec PyProof.Rows L2 RZ Zs
section
variable {X : Cx} {F : Fx} {Ex : XK} {n : Nat}
def enP (ps : List PV) : List PV := ((List.range ps.length).zip ps).map fun q => .tup [.int (q.1 : Nat), q.2]
variable {a b : Expr} {pos : Pos} {ma mb : Env → GH → Res PV}
theorem GX.un1 (g : GX X F Ex n) : X.A.units + 1 < cLine := by have := g.un; omega
theorem ginAT (g : GX X F Ex n) (ha : PE X a (TEv F Ex ma)) (hb : PE X b (TEv F Ex mb)) (hm : behindInMarks .In b = false := by kernel_rfl) : PT X (.Compare a [.In] [b] pos) (TTv F Ex (mB (m2 ma mb (opInA false)))) := ev_cmpT (opInA_ok g.K g.un1) ha hb hm
end
end EV
end
section
set_option Elab.async false
set_option linter.all false
set_option maxRecDepth 100000
/-! Ev24: a module's constants: numbers, texts, tuples of these. -/
namespace EV
open PySem PySem.Spec PyProof.Rows L2
mutual
/-- a written value reads so -/
def readB (K : PySem.W.Frag) : PV → Value → Bool
  | .non, v => decide (v = .none)
  | .bl b, v => decide (v = .bool b)
  | .int i, .int j _ => decide (i = j)
  | .str x, .str y _ => decide (x = y)
  | .tup ps, .ref a => (match K.lookup a with
    | some o => decide (o.cls = .type "tuple") && (o.dict.isNone && (match o.data with
      | .seq its _ => decide (its.size ≤ sizeLine) && readsB K ps its.toList
      | _ => false))
    | none => false)
  | _, _ => false
def readsB (K : PySem.W.Frag) : List PV → List Value → Bool
  | [], [] => true
  | p :: ps, v :: vs => readB K p v && readsB K ps vs
  | _, _ => false
end
section
variable {K : PySem.W.Frag}
/-- a module's constant -/
def cstB (K : PySem.W.Frag) (q : Str × PV) : Bool := match PySem.W.nsIn K mainGlobals q.1 with
  | some (some v) => readB K q.2 v
  | _ => false
end
def eachC (tf : List He.Defn) (cs : List (Str × PV)) (K : PySem.W.Frag) : Bool := oneEach tf K && cs.all (cstB K)
theorem eachC_one {tf : List He.Defn} {cs : List (Str × PV)} {K : PySem.W.Frag} (h : eachC tf cs K = true) : oneEach tf K = true := (Bool.and_eq_true_iff.mp h).1
/-! ### a if c else b, as a test -/
section
variable {X : Cx} {F : Fx} {Ex : XK}
end
section
variable {X : Cx} {F : Fx} {Ex : XK} {n : Nat}
end
end EV
end
section
/-! Gn: the bodies of defs that several laws share, as the evaluator has them (printed by gen.py). -/
set_option Elab.async false
set_option linter.all false
set_option maxRecDepth 100000
namespace GN
open PySem PySem.Spec PyProof.Rows L2 EV
/-- _law_draw(_law_feed_here, _law_many) -/
def N__law_draw : List Str := ["_law_feed_here", "_law_many", "_law_cell", "_law_mixed", "_law_found"]
def b__law_draw : EV.Env → GH → Res Fl := sSeq (sSet (m2 (m2 (mVar 0) (mCst (.int 3)) opIx) (mCst (.int 1)) opAdd) (mVar 0) (mCst (.int 3)) fSetL) (sSeq (sIf (mB (m2 (m2 (mVar 0) (mCst (.int 2)) opIx) (mCst (.int 0)) (Cop.f .gt))) (sSeq (sAsg (m2 (m2 (mVar 0) (mCst (.int 2)) opIx) (mVar 1) opMod) (gN 4)) (sSeq (sSet (m2 (m2 (mVar 0) (mCst (.int 2)) opIx) (mVar 1) opDiv) (mVar 0) (mCst (.int 2)) fSetL) (sSeq (sRet (mVar 4)) (sNext)))) (sNext)) (sSeq (sAsg (mCst (.int 5)) (gN 2)) (sSeq (sIf (mB (m2 (m2 (mVar 0) (mCst (.int 0)) opIx) (mA (mNil) mkLst) (Cop.f .ne))) (sSeq (sAsg (m2 (m2 (mVar 0) (mCst (.int 0)) opIx) (m2 (m2 (mVar 0) (mCst (.int 1)) opIx) (mA (mCons (m2 (mVar 0) (mCst (.int 0)) opIx) (mNil)) bLen) opMod) opIx) (gN 2)) (sNext)) (sNext)) (sSeq (sSet (m2 (m2 (mVar 0) (mCst (.int 1)) opIx) (mCst (.int 1)) opAdd) (mVar 0) (mCst (.int 1)) fSetL) (sSeq (sIf (mtAnd (mB (m2 (mVar 2) (m2 (mCst (.int 10)) (mCst (.int 18)) opPow) (Cop.f .ge))) (mB (m2 (m2 (mVar 0) (mCst (.int 1)) opIx) (mA (mCons (m2 (mVar 0) (mCst (.int 0)) opIx) (mNil)) bLen) (Cop.f .le)))) (sSeq (sSet (m2 (mVar 2) (mVar 1) opDiv) (mVar 0) (mCst (.int 2)) fSetL) (sSeq (sRet (m2 (mVar 2) (mVar 1) opMod)) (sNext))) (sNext)) (sSeq (sAsg (m2 (m2 (m2 (m2 (m2 (mVar 2) (mCst (.int 2147483629)) opMod) (m2 (mCst (.int 7919)) (m2 (mVar 0) (mCst (.int 3)) opIx) opMul) opAdd) (mCst (.int 1)) opAdd) (mCst (.int 5)) opPow) (mCst (.int 2147483647)) opMod) (gN 3)) (sSeq (sRet (m2 (m2 (m2 (m2 (m2 (mVar 3) (m2 (mCst (.int 104729)) (m2 (mVar 0) (mCst (.int 3)) opIx) opMul) opAdd) (mCst (.int 5)) opPow) (mCst (.int 2147483587)) opMod) (mCst (.int 64)) opDiv) (mVar 1) opMod)) (sNext))))))))
end GN
end
section
/-! M0: how the evaluator runs on data: what the simplifier needs, and the small defs that all laws share. -/
set_option Elab.async false
set_option linter.all false
set_option maxRecDepth 100000
namespace EV
open PySem PySem.Spec PyProof.Rows L2

/-! ### data: no changing object within -/
mutual
def datB : PV → Bool
  | .obj _ => false
  | .tup ps => datBs ps
  | .lst ps => datBs ps
  | .sls ps => datBs ps
  | _ => true
def datBs : List PV → Bool
  | [] => true
  | p :: ps => datB p && datBs ps
end
theorem datBs_all : ∀ ps : List PV, datBs ps = ps.all datB
  | [] => rfl
  | p :: ps => by rw [datBs, List.all_cons, datBs_all ps]
theorem datBs_of {ps : List PV} (h : ∀ p ∈ ps, datB p = true) : datBs ps = true := by
  rw [datBs_all, List.all_eq_true]; exact h
mutual
theorem refs_of_dat (n : Nat) : ∀ {p : PV}, datB p = true → PV.refsB n p = true
  | .obj _, h => by simp [datB] at h
  | .tup ps, h => by simp only [PV.refsB]; exact refss_of_dat n (by simpa only [datB] using h)
  | .lst ps, h => by simp only [PV.refsB]; exact refss_of_dat n (by simpa only [datB] using h)
  | .sls ps, h => by simp only [PV.refsB]; exact refss_of_dat n (by simpa only [datB] using h)
  | .non, _ => by simp only [PV.refsB]
  | .bl _, _ => by simp only [PV.refsB]
  | .int _, _ => by simp only [PV.refsB]
  | .str _, _ => by simp only [PV.refsB]
theorem refss_of_dat (n : Nat) : ∀ {ps : List PV}, datBs ps = true → PV.refsBs n ps = true
  | [], _ => by simp only [PV.refsBs]
  | p :: ps, h => by
    simp only [datBs, Bool.and_eq_true] at h
    simp only [PV.refsBs, Bool.and_eq_true]
    exact ⟨refs_of_dat n h.1, refss_of_dat n h.2⟩
end
mutual
def dOf : PV → PyData
  | .bl b => .bool b
  | .int i => .int i
  | .str x => .str x
  | .tup ps => .tuple (dOfs ps)
  | .lst ps => .list (dOfs ps)
  | .sls ps => .list (dOfs ps)
  | _ => .none
def dOfs : List PV → List PyData
  | [] => []
  | p :: ps => dOf p :: dOfs ps
end
mutual
theorem toD_dat : ∀ {p : PV}, datB p = true → toD p = some (dOf p)
  | .obj _, h => by simp [datB] at h
  | .tup ps, h => by simp only [toD, dOf, toDs_dat (ps := ps) (by simpa only [datB] using h)]; rfl
  | .lst ps, h => by simp only [toD, dOf, toDs_dat (ps := ps) (by simpa only [datB] using h)]; rfl
  | .sls ps, h => by simp only [toD, dOf, toDs_dat (ps := ps) (by simpa only [datB] using h)]; rfl
  | .non, _ => by simp only [toD, dOf]
  | .bl _, _ => by simp only [toD, dOf]
  | .int _, _ => by simp only [toD, dOf]
  | .str _, _ => by simp only [toD, dOf]
theorem toDs_dat : ∀ {ps : List PV}, datBs ps = true → toDs ps = some (dOfs ps)
  | [], _ => by simp only [toDs, dOfs]
  | p :: ps, h => by
    simp only [datBs, Bool.and_eq_true] at h
    simp only [toDs, dOfs, toD_dat h.1, toDs_dat h.2]
end
theorem toDG_dat {p : PV} (G : GH) (h : datB p = true) : toDG G p = some (dOf p) := by
  cases p with
  | obj n => simp [datB] at h
  | _ => simp only [toDG]; exact toD_dat h
/-! ### small data: what repr and == can take -/
mutual
def fitB : PV → Bool
  | .obj _ => false
  | .int i => decide (i.natAbs < 1000000000000)
  | .str x => PyData.strOk x
  | .tup ps => fitBs ps
  | .lst ps => fitBs ps
  | .sls ps => fitBs ps
  | _ => true
def fitBs : List PV → Bool
  | [] => true
  | p :: ps => fitB p && fitBs ps
end
mutual
def wgt : PV → Nat
  | .int i => i.natAbs.log2 + 1
  | .str x => x.cps.size
  | .tup ps => wgts ps
  | .lst ps => wgts ps
  | .sls ps => wgts ps
  | _ => 0
def wgts : List PV → Nat
  | [] => 0
  | p :: ps => wgt p + 1 + wgts ps
end
mutual
def dep : PV → Nat
  | .tup ps => deps ps + 1
  | .lst ps => deps ps + 1
  | .sls ps => deps ps + 1
  | _ => 0
def deps : List PV → Nat
  | [] => 0
  | p :: ps => max (dep p) (deps ps)
end
mutual
theorem dat_of_fit : ∀ {p : PV}, fitB p = true → datB p = true
  | .obj _, h => by simp [fitB] at h
  | .tup ps, h => by simp only [datB]; exact dats_of_fit (by simpa only [fitB] using h)
  | .lst ps, h => by simp only [datB]; exact dats_of_fit (by simpa only [fitB] using h)
  | .sls ps, h => by simp only [datB]; exact dats_of_fit (by simpa only [fitB] using h)
  | .non, _ => by simp only [datB]
  | .bl _, _ => by simp only [datB]
  | .int _, _ => by simp only [datB]
  | .str _, _ => by simp only [datB]
theorem dats_of_fit : ∀ {ps : List PV}, fitBs ps = true → datBs ps = true
  | [], _ => by simp only [datBs]
  | p :: ps, h => by
    simp only [fitBs, Bool.and_eq_true] at h
    simp only [datBs, Bool.and_eq_true]
    exact ⟨dat_of_fit h.1, dats_of_fit h.2⟩
end
/-- what repr tells of data -/
def rep (p : PV) : Str := (dOf p).shown
end EV
end
section
/-! M1: what the evaluator's parts come to, for the simplifier; the feed and the draw. -/
set_option Elab.async false
set_option linter.all false
set_option maxRecDepth 100000
namespace EV
open PySem PySem.Spec PyProof.Rows L2
section
variable {m ma mb n : Env → GH → Res PV} {ms : Env → GH → Res (List PV)} {f : List PV → GH → Res PV} {ρ : Env} {G : GH}
@[simp] theorem mVar_ap (i : Nat) : mVar i ρ G = match ρ[i]? with
  | some (some v) => .ok v G
  | _ => .bad := rfl
@[simp] theorem mCst_ap (v : PV) : mCst v ρ G = .ok v G := rfl
@[simp] theorem m2_ap : m2 ma mb f ρ G = (ma ρ G).bind fun x G1 => (mb ρ G1).bind fun y G2 => f [x, y] G2 := rfl
@[simp] theorem m1_ap : m1 ma f ρ G = (ma ρ G).bind fun x G1 => f [x] G1 := rfl
@[simp] theorem mA_ap : mA ms f ρ G = (ms ρ G).bind f := rfl
@[simp] theorem mNil_ap : mNil ρ G = .ok [] G := rfl
@[simp] theorem mCons_ap : mCons m ms ρ G = (m ρ G).bind fun x G1 => (ms ρ G1).bind fun xs G2 => .ok (x :: xs) G2 := rfl
@[simp] theorem mkTup_ap {ps : List PV} : mkTup ps G = if ps.length ≤ sizeLine then .ok (.tup ps) G else .bad := rfl
@[simp] theorem mkLst_ap {ps : List PV} : mkLst ps G = if ps.length ≤ sizeLine then .ok (.lst ps) G else .bad := rfl
@[simp] theorem mkObj_ap {ps : List PV} : mkObj ps G = if ps.length ≤ sizeLine then .ok (.obj G.length) (G ++ [.lst ps]) else .bad := rfl
@[simp] theorem mOr_ap : mOr ma mb ρ G = (ma ρ G).bind fun x G1 => (truth x G1).bind fun k G2 => if k = true then .ok x G2 else mb ρ G2 := rfl
@[simp] theorem mNot_ap : mNot m ρ G = (m ρ G).bind fun x G1 => (truth x G1).bind fun k G2 => .ok (.bl (!k)) G2 := rfl
@[simp] theorem mtNot_ap {c : Env → GH → Res Bool} : mtNot c ρ G = (c ρ G).bind fun k G1 => .ok (!k) G1 := rfl
@[simp] theorem mtAnd_ap {c d : Env → GH → Res Bool} : mtAnd c d ρ G = (c ρ G).bind fun k G1 => if k = true then d ρ G1 else .ok false G1 := rfl
@[simp] theorem mtOr_ap {c d : Env → GH → Res Bool} : mtOr c d ρ G = (c ρ G).bind fun k G1 => if k = true then .ok true G1 else d ρ G1 := rfl
@[simp] theorem mIf_ap {c : Env → GH → Res Bool} : mIf c ma mb ρ G = (c ρ G).bind fun k G1 => if k = true then ma ρ G1 else mb ρ G1 := rfl
@[simp] theorem mB_ap : mB m ρ G = (m ρ G).bind asB := rfl
@[simp] theorem mT_ap : mT m ρ G = (m ρ G).bind truth := rfl
@[simp] theorem asB_bl {b : Bool} : asB (.bl b) G = .ok b G := rfl
@[simp] theorem truth_bl {b : Bool} : truth (.bl b) G = .ok b G := rfl
@[simp] theorem truth_int {i : Int} : truth (.int i) G = .ok (i != 0) G := rfl
@[simp] theorem sSeq_ap {s t : Env → GH → Res Fl} : sSeq s t ρ G = (s ρ G).bind fun f G1 => match f with
  | .next ρ1 => t ρ1 G1
  | f => .ok f G1 := rfl
@[simp] theorem sNext_ap : sNext ρ G = .ok (.next ρ) G := rfl
@[simp] theorem sRet_ap : sRet m ρ G = (m ρ G).bind fun v G1 => .ok (.ret v) G1 := rfl
@[simp] theorem sDrop_ap : sDrop m ρ G = (m ρ G).bind fun _ G1 => .ok (.next ρ) G1 := rfl
@[simp] theorem sIf_ap {c : Env → GH → Res Bool} {s t : Env → GH → Res Fl} : sIf c s t ρ G = (c ρ G).bind fun b G1 => if b = true then s ρ G1 else t ρ G1 := rfl
@[simp] theorem sAsg_ap {t : PV → Env → GH → Res Env} : sAsg m t ρ G = (m ρ G).bind fun v G1 => (t v ρ G1).bind fun ρ1 G2 => .ok (.next ρ1) G2 := rfl
@[simp] theorem sSet_ap {f : List PV → GH → Res Unit} : sSet m ma mb f ρ G = (m ρ G).bind fun v G1 => (ma ρ G1).bind fun o G2 => (mb ρ G2).bind fun i G3 => (f [o, i, v] G3).bind fun _ G4 => .ok (.next ρ) G4 := rfl
@[simp] theorem gN_ap {i : Nat} {p : PV} : gN i p ρ G = .ok (ρ.set i (some p)) G := rfl
@[simp] theorem end_ret {p : PV} : bodyEnd (.ret p) G = .ok p G := rfl
@[simp] theorem end_next : bodyEnd (.next ρ) G = .ok .non G := rfl
@[simp] theorem mPart_ap : mPart m ρ G = (m ρ G).bind fun x G1 => match x with
  | .int i => .ok (some i) G1
  | _ => .bad := rfl
@[simp] theorem mNoPart_ap : mNoPart ρ G = .ok none G := rfl
@[simp] theorem mSl_ap {l h : Env → GH → Res (Option Int)} {f : PV → Option Int → Option Int → GH → Res PV} : mSl m l h f ρ G = (m ρ G).bind fun x G1 => (l ρ G1).bind fun i G2 => (h ρ G2).bind fun j G3 => f x i j G3 := rfl
end
/-- a continuation, kept out of the simplifier's sight as an instance -/
class Ctn (α β : Type) where
  k : α → GH → Res β
section
variable {G : GH} {ps qs : List PV} {i j : Int} {k : Nat} {x y z : PV}
theorem ixN_ok {n : Nat} {i : Int} (h : 0 ≤ i) (k : i < n) : ixN n i = some i.toNat := by unfold ixN; rw [if_pos h, if_pos k]
@[simp] theorem atI_0 : atI (x :: ps) 0 = some x := by unfold atI; rw [ixN_ok (by omega) (by simp only [List.length_cons]; omega)]; rfl
@[simp] theorem atI_1 : atI (x :: y :: ps) 1 = some y := by unfold atI; rw [ixN_ok (by omega) (by simp only [List.length_cons]; omega)]; rfl
@[simp] theorem atI_2 {z} : atI (x :: y :: z :: ps) 2 = some z := by unfold atI; rw [ixN_ok (by omega) (by simp only [List.length_cons]; omega)]; rfl
@[simp] theorem atI_3 {z u} : atI (x :: y :: z :: u :: ps) 3 = some u := by unfold atI; rw [ixN_ok (by omega) (by simp only [List.length_cons]; omega)]; rfl
/-- an item -/
def ixR (ps : List PV) (i : Int) (G : GH) : Res PV := match atI ps i with
  | some p => .ok p G
  | none => .bad
theorem ixR_some (h : atI ps i = some x) : ixR ps i G = .ok x G := by unfold ixR; rw [h]
@[simp] theorem ixR_0 : ixR (x :: ps) 0 G = .ok x G := ixR_some atI_0
@[simp] theorem ixR_1 : ixR (x :: y :: ps) 1 G = .ok y G := ixR_some atI_1
@[simp] theorem ixR_2 : ixR (x :: y :: z :: ps) 2 G = .ok z G := ixR_some atI_2
@[simp] theorem ixR_3 {u} : ixR (x :: y :: z :: u :: ps) 3 G = .ok u G := ixR_some atI_3
@[simp] theorem opIx_tup : opIx [.tup ps, .int i] G = ixR ps i G := rfl
@[simp] theorem opIx_lst : opIx [.lst ps, .int i] G = ixR ps i G := rfl
@[simp] theorem opIx_sls : opIx [.sls ps, .int i] G = ixR ps i G := rfl
theorem opIx_obj (h : G[k]? = some (.lst ps)) : opIx [.obj k, .int i] G = ixR ps i G := by simp only [opIx, asS, asL, h]; rfl
@[simp] theorem opIx_obj0 {R : GH} : opIx [.obj 0, .int i] (.lst ps :: R) = ixR ps i (.lst ps :: R) := rfl
@[simp] theorem opIx_obj1 {R : GH} {o} : opIx [.obj 1, .int i] (o :: .lst ps :: R) = ixR ps i (o :: .lst ps :: R) := rfl
@[simp] theorem opAdd_ii : opAdd [.int i, .int j] G = .ok (.int (i + j)) G := rfl
@[simp] theorem opSub_ii : opSub [.int i, .int j] G = .ok (.int (i - j)) G := rfl
theorem opMod_ii (h : j ≠ 0) : opMod [.int i, .int j] G = .ok (.int (i.fmod j)) G := by simp only [opMod, opII, decide_eq_true h, if_true]
theorem opDiv_ii (h : j ≠ 0) (h2 : j.natAbs < 1073741824) : opDiv [.int i, .int j] G = .ok (.int (i.fdiv j)) G := by simp only [opDiv, opII, decide_eq_true (And.intro h h2), if_true]
theorem opPow_ii (h : 0 ≤ j) (h2 : j ≤ 1000000) (h3 : i.natAbs < 2 ^ 64) : opPow [.int i, .int j] G = .ok (.int (i ^ j.toNat)) G := by simp only [opPow, opII, decide_eq_true (And.intro h (And.intro h2 h3)), if_true]
theorem opMul_ii (h : -(2 ^ 64) < i ∧ i < 2 ^ 64) : opMul [.int i, .int j] G = .ok (.int (i * j)) G := by simp only [opMul, if_pos (Or.inl h : (-(2 ^ 64) < i ∧ i < 2 ^ 64) ∨ (-(2 ^ 64) < j ∧ j < 2 ^ 64))]
@[simp] theorem opNeg_i : opNeg [.int i] G = .ok (.int (-i)) G := rfl
@[simp] theorem opLt_ii : Cop.lt.f [.int i, .int j] G = .ok (.bl (decide (i < j))) G := rfl
@[simp] theorem opLe_ii : Cop.le.f [.int i, .int j] G = .ok (.bl (decide (i ≤ j))) G := rfl
@[simp] theorem opGt_ii : Cop.gt.f [.int i, .int j] G = .ok (.bl (decide (j < i))) G := rfl
@[simp] theorem opGe_ii : Cop.ge.f [.int i, .int j] G = .ok (.bl (decide (j ≤ i))) G := rfl
@[simp] theorem opEq_ii : Cop.eq.f [.int i, .int j] G = .ok (.bl (decide (i = j))) G := rfl
@[simp] theorem opNe_ii : Cop.ne.f [.int i, .int j] G = .ok (.bl (!decide (i = j))) G := rfl
@[simp] theorem opEq_ss {s t : Str} : Cop.eq.f [.str s, .str t] G = .ok (.bl (decide (s = t))) G := rfl
@[simp] theorem opNe_ss {s t : Str} : Cop.ne.f [.str s, .str t] G = .ok (.bl (!decide (s = t))) G := rfl
@[simp] theorem bLen_tup : bLen [.tup ps] G = .ok (.int ps.length) G := rfl
@[simp] theorem bLen_lst : bLen [.lst ps] G = .ok (.int ps.length) G := rfl
@[simp] theorem bLen_sls : bLen [.sls ps] G = .ok (.int ps.length) G := rfl
theorem fSetL_obj (h : G[k]? = some (.lst ps)) (h0 : 0 ≤ i) (h1 : i < ps.length) : fSetL [.obj k, .int i, x] G = .ok () (G.set k (.lst (ps.set i.toNat x))) := by simp only [fSetL, h, ixN_ok h0 h1]
@[simp] theorem fSetL_00 {R : GH} : fSetL [.obj 0, .int 0, x] (.lst (y :: ps) :: R) = .ok () (.lst (x :: ps) :: R) := fSetL_obj (i := 0) (ps := y :: ps) rfl (by decide) (by simp only [List.length_cons]; omega)
@[simp] theorem fSetL_01 {R : GH} : fSetL [.obj 0, .int 1, x] (.lst (y :: z :: ps) :: R) = .ok () (.lst (y :: x :: ps) :: R) := fSetL_obj (i := 1) (ps := y :: z :: ps) rfl (by decide) (by simp only [List.length_cons]; omega)
@[simp] theorem fSetL_02 {R : GH} {u} : fSetL [.obj 0, .int 2, x] (.lst (y :: z :: u :: ps) :: R) = .ok () (.lst (y :: z :: x :: ps) :: R) := fSetL_obj (i := 2) (ps := y :: z :: u :: ps) rfl (by decide) (by simp only [List.length_cons]; omega)
@[simp] theorem fSetL_03 {R : GH} {u w} : fSetL [.obj 0, .int 3, x] (.lst (y :: z :: u :: w :: ps) :: R) = .ok () (.lst (y :: z :: u :: x :: ps) :: R) := fSetL_obj (i := 3) (ps := y :: z :: u :: w :: ps) rfl (by decide) (by simp only [List.length_cons]; omega)
@[simp] theorem fSetL_10 {R : GH} {o} : fSetL [.obj 1, .int 0, x] (o :: .lst (y :: ps) :: R) = .ok () (o :: .lst (x :: ps) :: R) := fSetL_obj (i := 0) (ps := y :: ps) rfl (by decide) (by simp only [List.length_cons]; omega)
end
theorem size_line : sizeLine = 16777216 := by decide
/-- the feed: the numbers, how many were taken, what is left of a great one, how many draws -/
def feedO (cs : List Int) (a b d : Int) : GO := .lst [.lst (cs.map .int), .int a, .int b, .int d]
theorem dOfs_ints : ∀ cs : List Int, dOfs (cs.map .int) = cs.map .int
  | [] => rfl
  | c :: cs => by simp only [List.map_cons, dOfs, dOf, dOfs_ints cs]
theorem dat_ints : ∀ cs : List Int, datBs (cs.map .int) = true
  | [] => rfl
  | c :: cs => by simp only [List.map_cons, datBs, datB, dat_ints cs, Bool.and_self]
theorem lay_ints : ∀ cs : List Int, PyData.canLayAll0 (cs.map PyData.int) = true
  | [] => by simp [PyData.canLayAll0]
  | c :: cs => by simp [PyData.canLayAll0, PyData.canLay0, lay_ints cs]
theorem dep_ints : ∀ cs : List Int, PyData.depthAll (cs.map PyData.int) ≤ 1
  | [] => by simp [PyData.depthAll]
  | c :: cs => by
    have := dep_ints cs
    rw [List.map_cons, PyData.depthAll, PyData.depth]; exact Nat.max_le.mpr ⟨by decide, this⟩
theorem eqP_ints (G : GH) (cs : List Int) : eqP G (.lst (cs.map .int)) (.lst []) = some (decide (cs = [])) := by
  have d := dep_ints cs
  simp only [eqP, scalP, toDG, toD, toDs_dat (dat_ints cs), toDs, Option.map_some, dOfs_ints, eqD]
  have h1 : SeqAt.shaped (.list (cs.map .int)) = true := by
    simp only [SeqAt.shaped, PyData.canLay0, PyData.depth, lay_ints, Bool.true_and]; apply decide_eq_true; omega
  have h2 : SeqAt.shaped (.list []) = true := by decide
  rw [if_pos ⟨h1, h2⟩]
  cases cs with
  | nil => simp [PyData.eqv, PyData.eqvAll]
  | cons c cs => simp [PyData.eqv, PyData.eqvAll]
@[simp] theorem ne_ints {G : GH} {cs : List Int} : Cop.ne.f [.lst (cs.map .int), .lst []] G = .ok (.bl (!decide (cs = []))) G := by
  simp only [Cop.f, opNe, opEqN, eqP_ints, if_true]
@[simp] theorem ne_nil {G : GH} : Cop.ne.f [.lst [], .lst []] G = .ok (.bl false) G := ne_ints (cs := [])
def SpFeed (f : List PV → GH → Res PV) : Prop := ∀ (ns : List Int) (G : GH), ns.length ≤ 63 → f [.sls (ns.map .int)] G = .ok (.obj G.length) (G ++ [feedO ns 0 0 0])
end EV
end
section
/-! M2: the draw. -/
set_option Elab.async false
set_option linter.all false
set_option maxRecDepth 100000
namespace EV
open PySem PySem.Spec PyProof.Rows L2
theorem trim_len {G0 G1 : GH} (a : PV) (h : G1.length = G0.length) : trimR G0 (.ok a G1) = .ok a G1 := by
  unfold trimR
  simp only
  rw [← h, List.take_length]
  split <;> rfl
@[simp] theorem trim_cons (g g' : GO) (R : GH) (a : PV) : trimR (g :: R) (.ok a (g' :: R)) = .ok a (g' :: R) := trim_len a rfl
theorem atI_map {cs : List Int} {i : Int} (h : 0 ≤ i) (k : i < cs.length) : ∃ c, atI (cs.map PV.int) i = some (.int c) := by
  unfold atI
  rw [ixN_ok h (by simpa using k)]
  have : i.toNat < cs.length := by omega
  exact ⟨cs[i.toNat], by simp [List.getElem?_map, List.getElem?_eq_getElem this]⟩
/-- what a draw tells -/
def SpDraw (f : List PV → GH → Res PV) : Prop := ∀ (cs : List Int) (a b d n : Int) (R : GH), 0 < n → n ≤ 1000000 → 0 ≤ a → 0 ≤ b → 0 ≤ d → d ≤ 1099511627776 → 
  ∃ r a' b', 0 ≤ r ∧ r < n ∧ 0 ≤ a' ∧ 0 ≤ b' ∧ f [.obj 0, .int n] (feedO cs a b d :: R) = .ok (.int r) (feedO cs a' b' (d + 1) :: R)
theorem fmod_lt' {a n : Int} (h : 0 < n) : 0 ≤ a.fmod n ∧ a.fmod n < n := ⟨Int.fmod_nonneg_of_pos a h, Int.fmod_lt_of_pos a h⟩
theorem fdiv_nn {a n : Int} (ha : 0 ≤ a) (h : 0 < n) : 0 ≤ a.fdiv n := Int.fdiv_nonneg ha (Int.le_of_lt h)
end EV
end
section
/-! M3: the small defs: is_long, has_head, is_row, is_tree, key_of; plains. -/
set_option Elab.async false
set_option linter.all false
set_option maxRecDepth 100000
namespace EV
open PySem PySem.Spec PyProof.Rows L2
def isTup : PV → Bool
  | .tup _ => true
  | _ => false
@[simp] theorem isi_tup {p : PV} {G : GH} (h : datB p = true) : bIsi "tuple" [p] G = .ok (.bl (isTup p)) G := by
  cases p <;> first | rfl | (simp [datB] at h)
def isInt : PV → Bool
  | .bl _ => true
  | .int _ => true
  | _ => false
@[simp] theorem isi_int {p : PV} {G : GH} (h : datB p = true) : bIsi "int" [p] G = .ok (.bl (isInt p)) G := by
  cases p <;> first | rfl | (simp [datB] at h)
/-- the things of a ("row", things), of a ("tree", fields) -/
def headed (w : Str) : PV → Option (List PV)
  | .tup [.str s, .tup xs] => if s = w then some xs else none
  | _ => none
end EV
end
section
/-! M4: plains, fields, trees as the laws make them. -/
set_option Elab.async false
set_option linter.all false
set_option maxRecDepth 100000
namespace EV
open PySem PySem.Spec PyProof.Rows L2
theorem refs_ints (n : Nat) (cs : List Int) : PV.refsBs n (cs.map .int) = true := refss_of_dat n (dat_ints cs)
theorem refs_feed (n : Nat) (cs : List Int) (a b d : Int) : GO.refsB n (feedO cs a b d) = true := by
  simp [feedO, GO.refsB, PV.refsBs, PV.refsB, refs_ints]
theorem trim_feed {g : GO} {R S : GH} {p : PV} {cs : List Int} {a b d : Int} (h : datB p = true) : trimR (g :: R) (.ok p (feedO cs a b d :: (R ++ S))) = .ok p (feedO cs a b d :: R) := by
  have e : (feedO cs a b d :: (R ++ S)).take (g :: R).length = feedO cs a b d :: R := by simp
  simp only [trimR, e]
  rw [if_pos ⟨by rw [refs_of_dat _ h]; simp only [okB, refs_feed, Bool.or_true, Bool.true_and, okB_self], by simp⟩]
def plains : List PV := [.int 0, .int 1, .int 2, .int (-1), .bl true, .bl false, .str "a", .str "", .str "1", .str "yes", .str "b2", .int 999999, .int (-40), .int 1]
theorem atI_mem {ps : List PV} {i : Int} (h : 0 ≤ i) (k : i < ps.length) : ∃ p, atI ps i = some p ∧ p ∈ ps := by
  have z : i.toNat < ps.length := by omega
  exact ⟨ps[i.toNat], by unfold atI; rw [ixN_ok h k]; simp [List.getElem?_eq_getElem z], List.getElem_mem z⟩
/-- a field -/
abbrev fldV (q : Str × PV) : PV := .tup [.str q.1, q.2]
theorem dat_flds {kv : List (Str × PV)} (h : ∀ q ∈ kv, datB q.2 = true) : datBs (kv.map fldV) = true := by
  refine datBs_of fun p hp => ?_
  obtain ⟨q, hq, rfl⟩ := List.mem_map.mp hp
  simp [datB, datBs, h q hq]
def pool6 : List Str := ["a", "b", "k", "kk", "x", "yes"]
theorem get_last {G : GH} {o : GO} : (G ++ [o])[G.length]? = some o := by simp
theorem set_last {G : GH} {o u : GO} : (G ++ [o]).set G.length u = G ++ [u] := by simp
end EV
end
section
/-! M5: trees, values, documents as the laws make them. -/
set_option Elab.async false
set_option linter.all false
set_option maxRecDepth 100000
namespace EV
open PySem PySem.Spec PyProof.Rows L2
abbrev treeV (kv : List (Str × PV)) : PV := .tup [.str "tree", .tup (kv.map fldV)]
abbrev rowV (xs : List PV) : PV := .tup [.str "row", .tup xs]
/-- the values of documents, by their depth -/
def Doc : Nat → PV → Prop
  | 0, p => p ∈ plains
  | n + 1, p => p ∈ plains ∨ (∃ xs, p = rowV xs ∧ xs.length ≤ 3 ∧ ∀ x ∈ xs, Doc n x) ∨ (∃ kv : List (Str × PV), p = treeV kv ∧ kv.length ≤ 3 ∧ (kv.map (·.1)).Nodup ∧ (∀ q ∈ kv, q.1 ∈ pool6) ∧ ∀ q ∈ kv, Doc n q.2)
theorem plain_dat {p : PV} (h : p ∈ plains) : datB p = true := by
  have : plains.all datB = true := by decide +kernel
  exact List.all_eq_true.mp this p h
theorem Doc.plain {p : PV} (h : p ∈ plains) : ∀ n, Doc n p
  | 0 => h
  | n + 1 => .inl h
theorem Doc.dat : ∀ {n : Nat} {p : PV}, Doc n p → datB p = true
  | 0, p, h => plain_dat h
  | n + 1, p, h => by
    rcases h with h | ⟨xs, rfl, _, h⟩ | ⟨kv, rfl, _, _, _, h⟩
    · exact plain_dat h
    · simp [rowV, datB, datBs, datBs_of fun x hx => Doc.dat (h x hx)]
    · simp [treeV, datB, datBs, dat_flds fun q hq => Doc.dat (h q hq)]
/-- how many draws a value takes at most -/
def most : Nat → Nat
  | 0 => 2
  | n + 1 => 5 + 3 * most n
section
variable {G R1 R2 : GH} {ps : List PV} {i : Int} {o : GO} {x y : PV}
@[simp] theorem opIx_mid : opIx [.obj (R1.length + 1), .int i] (o :: (R1 ++ .lst ps :: R2)) = ixR ps i (o :: (R1 ++ .lst ps :: R2)) := opIx_obj (by simp)
@[simp] theorem fSetL_mid : fSetL [.obj (R1.length + 1), .int 0, x] (o :: (R1 ++ .lst (y :: ps) :: R2)) = .ok () (o :: (R1 ++ .lst (x :: ps) :: R2)) := by
  rw [fSetL_obj (ps := y :: ps) (by simp) (by decide) (by simp only [List.length_cons]; omega)]; simp
end
end EV
end
section
/-! M6: values deeper, documents. -/
set_option Elab.async false
set_option linter.all false
set_option maxRecDepth 100000
namespace EV
open PySem PySem.Spec PyProof.Rows L2
end EV
end
section
/-! M7: documents. -/
set_option Elab.async false
set_option linter.all false
set_option maxRecDepth 100000
namespace EV
open PySem PySem.Spec PyProof.Rows L2
/-- a document: a tree of up to five fields -/
def DocT (p : PV) : Prop := ∃ kv : List (Str × PV), p = treeV kv ∧ kv.length ≤ 5 ∧ (kv.map (·.1)).Nodup ∧ (∀ q ∈ kv, q.1 ∈ pool6) ∧ ∀ q ∈ kv, Doc 3 q.2
def forStep (t : PV → Env → GH → Res Env) (b : Env → GH → Res Fl) : PV → Env → GH → Res Fl := fun x ρ G => (t x ρ G).bind b
theorem forStep_ap {t : PV → Env → GH → Res Env} {b : Env → GH → Res Fl} {x : PV} {ρ : Env} {G : GH} : forStep t b x ρ G = (t x ρ G).bind b := rfl
@[simp] theorem sFor_ap {ms : Env → GH → Res Src} {t : PV → Env → GH → Res Env} {b : Env → GH → Res Fl} {ρ : Env} {G : GH} : sFor ms t b ρ G = (ms ρ G).bind fun S G1 => loopF (forStep t b) S.gd S.its ρ G1 := rfl
theorem loopF_next {f : PV → Env → GH → Res Fl} {gd : GH → Bool} {x : PV} {xs : List PV} {ρ ρ1 : Env} {G G1 : GH} (hg : gd G = true) (h : f x ρ G = .ok (.next ρ1) G1) : loopF f gd (x :: xs) ρ G = loopF f gd xs ρ1 G1 := by
  simp only [loopF, if_pos hg, h, Res.bind_ok]
theorem loopF_nil {f : PV → Env → GH → Res Fl} {gd : GH → Bool} {ρ : Env} {G : GH} (hg : gd G = true) : loopF f gd [] ρ G = .ok (.next ρ) G := by
  simp only [loopF, if_pos hg]
end EV
end
section
/-! M8: fields as dicts; alike values. -/
set_option Elab.async false
set_option linter.all false
set_option maxRecDepth 100000
namespace EV
open PySem PySem.Spec PyProof.Rows L2
def kd (kv : List (Str × PV)) : List (Key × PV) := kv.map fun q => (.inr q.1, q.2)
theorem pairs_kd : ∀ kv : List (Str × PV), pairsP (kv.map fldV) = some (kd kv)
  | [] => rfl
  | q :: kv => by simp only [List.map_cons, pairsP, pairs_kd kv]; rfl
theorem has_kd {kv : List (Str × PV)} {w : Str} (h : w ∉ kv.map (·.1)) : hasP (kd kv) (.inr w) = false := by
  simp only [hasP, kd, List.any_map, List.any_eq_false]
  intro q hq
  simp only [Function.comp, decide_eq_true_eq]
  intro e
  have : q.1 = w := by injection e
  exact h (List.mem_map.mpr ⟨q, hq, this⟩)
theorem merge_kd : ∀ (kv acc : List (Str × PV)), ((acc ++ kv).map (·.1)).Nodup → mergeP (kd acc) (kd kv) = kd (acc ++ kv)
  | [], acc, _ => by simp [mergeP, kd]
  | q :: kv, acc, h => by
    have hq : q.1 ∉ acc.map (·.1) := by
      simp only [List.map_append, List.map_cons] at h
      intro m
      exact (List.nodup_append.mp h).2.2 _ m _ (List.mem_cons_self ..) rfl
    have e : putD (kd acc) (.inr q.1) q.2 = kd (acc ++ [q]) := by
      unfold putD
      rw [has_kd hq]
      simp [kd]
    have : mergeP (kd acc) (kd (q :: kv)) = mergeP (putD (kd acc) (.inr q.1) q.2) (kd kv) := rfl
    rw [this, e, merge_kd kv (acc ++ [q]) (by simpa using h)]
    simp
theorem dict_tree {kv : List (Str × PV)} (G : GH) (h : (kv.map (·.1)).Nodup) : bDict [.tup (kv.map fldV)] G = .ok (.obj G.length) (G ++ [.dic (kd kv)]) := by
  have e := merge_kd kv [] (by simpa using h)
  have e2 : kd [] = [] := rfl
  rw [e2] at e
  simp only [bDict, pairs_kd, e, List.nil_append]
def getF (kv : List (Str × PV)) (w : Str) : Option PV := (kv.find? fun q => decide (q.1 = w)).map (·.2)
theorem get_kd : ∀ (kv : List (Str × PV)) (w : Str), getP (kd kv) (.inr w) = getF kv w
  | [], w => rfl
  | q :: kv, w => by
    have ih := get_kd kv w
    unfold getP kd getF at *
    simp only [List.map_cons, List.find?_cons]
    by_cases e : q.1 = w
    · simp [e]
    · have e2 : ¬ ((Sum.inr q.1 : Key) = .inr w) := fun h => e (by injection h)
      simp only [decide_eq_false e, decide_eq_false e2]
      exact ih
end EV
end
section
/-! M9: a value like a plain. -/
set_option Elab.async false
set_option linter.all false
set_option maxRecDepth 100000
namespace EV
open PySem PySem.Spec PyProof.Rows L2
/-- plains, and the numbers of a wide row -/
def leafs : List PV := plains ++ rgIts 0 25 ++ [.str "k", .str "b"]
theorem leaf_tup {p : PV} (h : p ∈ leafs) : isTup p = false := by
  have t : leafs.all (fun p => !isTup p) = true := by decide +kernel
  simpa using List.all_eq_true.mp t p h
theorem leaf_of {p : PV} (h : p ∈ plains) : p ∈ leafs := List.mem_append_left _ (List.mem_append_left _ h)
theorem leaf_fit {p : PV} (h : p ∈ leafs) : fitB p = true := by
  have t : leafs.all fitB = true := by decide +kernel
  exact List.all_eq_true.mp t p h
theorem leaf_dat {p : PV} (h : p ∈ leafs) : datB p = true := dat_of_fit (leaf_fit h)
end EV
end
section
/-! M10: what repr tells of fields. -/
set_option Elab.async false
set_option linter.all false
set_option maxRecDepth 100000
namespace EV
open PySem PySem.Spec PyProof.Rows L2
def pool7 : List Str := ["a", "b", "k", "kk", "x", "yes", "q"]
def sg (x : Str) : List Nat := x.cps.toList
def pre (w : Str) : List Nat := sg (reprText w) ++ sg ", "
end EV
end
section
/-! M11: steps, what comes by a step. -/
set_option Elab.async false
set_option linter.all false
set_option maxRecDepth 100000
namespace EV
open PySem PySem.Spec PyProof.Rows L2
/-- values: plains, rows, trees whose words differ -/
inductive Val : PV → Prop where
  | plain {p : PV} : p ∈ leafs → Val p
  | row {xs : List PV} : (∀ x ∈ xs, Val x) → Val (rowV xs)
  | tree {kv : List (Str × PV)} : (kv.map (·.1)).Nodup → (∀ q ∈ kv, q.1 ∈ pool7) → (∀ q ∈ kv, Val q.2) → Val (treeV kv)
theorem pool67 {w : Str} (h : w ∈ pool6) : w ∈ pool7 := by
  simp only [pool6, pool7, List.mem_cons, List.not_mem_nil, or_false] at *
  rcases h with h | h | h | h | h | h <;> simp [h]
theorem Doc.val : ∀ {n : Nat} {p : PV}, Doc n p → Val p
  | 0, p, h => .plain (leaf_of h)
  | n + 1, p, h => by
    rcases h with h | ⟨xs, rfl, _, h⟩ | ⟨kv, rfl, _, h1, h2, h⟩
    · exact .plain (leaf_of h)
    · exact .row fun x hx => (h x hx).val
    · exact .tree h1 (fun q hq => pool67 (h2 q hq)) fun q hq => (h q hq).val
theorem DocT.val {p : PV} (h : DocT p) : Val p := by
  obtain ⟨kv, rfl, _, h1, h2, h⟩ := h
  exact .tree h1 (fun q hq => pool67 (h2 q hq)) fun q hq => (h q hq).val
theorem Val.dat {p : PV} (h : Val p) : datB p = true := by
  induction h with
  | plain h => exact leaf_dat h
  | row _ ih => simp [rowV, datB, datBs, datBs_of ih]
  | tree _ _ _ ih => simp [treeV, datB, datBs, dat_flds ih]
theorem Val.tup {p : PV} (h : Val p) : isTup p = true ∨ p ∈ leafs := by
  cases h with
  | plain h => exact .inr h
  | row _ => exact .inl rfl
  | tree _ _ _ => exact .inl rfl
abbrev fieldS (w : Str) : PV := .tup [.str "field", .str w]
abbrev atS (i : Int) : PV := .tup [.str "at", .int i]
abbrev eachS : PV := .tup [.str "each"]
abbrev whereS (w : Str) (p : PV) : PV := .tup [.str "where", .str w, p]
def rowsOf (V : PV) : List PV := (headed "row" V).getD []
def fldsOf (V : PV) : List PV := (headed "tree" V).getD []
def keyIs (w : Str) : PV → Bool
  | .tup [.str k, _] => decide (k = w)
  | _ => false
def sndV : PV → PV
  | .tup [_, v] => v
  | _ => .non
def fieldC (w : Str) (V : PV) : List PV := (fldsOf V).filter (keyIs w)
def atC (i : Int) (V : PV) : List PV := cutP (enP (rowsOf V)) (some i) (some (i + 1))
def eachM (V : PV) : List PV := enP (rowsOf V)
def fitsP (w : Str) (p V : PV) : Bool := (fldsOf V).any fun t => decide (rep t = rep (.tup [.str w, p]))
def whereC (w : Str) (p V : PV) : List PV := (enP (rowsOf V)).filter fun t => fitsP w p (sndV t)
/-- steps -/
inductive Stp where
  | field (w : Str)
  | at (i : Int)
  | each
  | wh (w : Str) (p : PV)
def Stp.pv : Stp → PV
  | .field w => fieldS w
  | .at i => atS i
  | .each => eachS
  | .wh w p => whereS w p
def Stp.c : Stp → PV → List PV
  | .field w => fieldC w
  | .at i => atC i
  | .each => eachM
  | .wh w p => whereC w p
def Stp.ok : Stp → Prop
  | .wh w p => w ∈ pool7 ∧ p ∈ leafs
  | _ => True
theorem trim_back {G S : GH} {p : PV} (h : datB p = true) : trimR G (.ok p (G ++ S)) = .ok p G := by
  have e : (G ++ S).take G.length = G := by simp
  simp only [trimR, e]
  rw [if_pos ⟨by rw [refs_of_dat _ h, okB_self]; rfl, by simp⟩]
end EV
end
section
/-! M12: loops that turn nothing; what comes by a step. -/
set_option Elab.async false
set_option linter.all false
set_option maxRecDepth 100000
namespace EV
open PySem PySem.Spec PyProof.Rows L2
@[simp] theorem wne1 : (("field" : Str) = "at") = False := by decide
@[simp] theorem wne2 : (("field" : Str) = "each") = False := by decide
@[simp] theorem wne3 : (("field" : Str) = "where") = False := by decide
@[simp] theorem wne4 : (("field" : Str) = "row") = False := by decide
@[simp] theorem wne5 : (("field" : Str) = "tree") = False := by decide
@[simp] theorem wne6 : (("at" : Str) = "field") = False := by decide
@[simp] theorem wne7 : (("at" : Str) = "each") = False := by decide
@[simp] theorem wne8 : (("at" : Str) = "where") = False := by decide
@[simp] theorem wne9 : (("at" : Str) = "row") = False := by decide
@[simp] theorem wne10 : (("at" : Str) = "tree") = False := by decide
@[simp] theorem wne11 : (("each" : Str) = "field") = False := by decide
@[simp] theorem wne12 : (("each" : Str) = "at") = False := by decide
@[simp] theorem wne13 : (("each" : Str) = "where") = False := by decide
@[simp] theorem wne14 : (("each" : Str) = "row") = False := by decide
@[simp] theorem wne15 : (("each" : Str) = "tree") = False := by decide
@[simp] theorem wne16 : (("where" : Str) = "field") = False := by decide
@[simp] theorem wne17 : (("where" : Str) = "at") = False := by decide
@[simp] theorem wne18 : (("where" : Str) = "each") = False := by decide
@[simp] theorem wne19 : (("where" : Str) = "row") = False := by decide
@[simp] theorem wne20 : (("where" : Str) = "tree") = False := by decide
@[simp] theorem wne21 : (("row" : Str) = "field") = False := by decide
@[simp] theorem wne22 : (("row" : Str) = "at") = False := by decide
@[simp] theorem wne23 : (("row" : Str) = "each") = False := by decide
@[simp] theorem wne24 : (("row" : Str) = "where") = False := by decide
@[simp] theorem wne25 : (("row" : Str) = "tree") = False := by decide
@[simp] theorem wne26 : (("tree" : Str) = "field") = False := by decide
@[simp] theorem wne27 : (("tree" : Str) = "at") = False := by decide
@[simp] theorem wne28 : (("tree" : Str) = "each") = False := by decide
@[simp] theorem wne29 : (("tree" : Str) = "where") = False := by decide
@[simp] theorem wne30 : (("tree" : Str) = "row") = False := by decide
theorem loop_pure {f : PV → GH → Res (Option PV)} {h : PV → Option PV} {gd : GH → Bool} {G : GH} (hg : gd G = true) : ∀ {xs : List PV}, (∀ x ∈ xs, f x G = .ok (h x) G) → loopC f gd xs G = .ok (xs.filterMap h) G
  | [], _ => by simp [loopC, hg]
  | x :: xs, e => by
    have e1 := e x (List.mem_cons_self ..)
    have e2 := loop_pure (f := f) (h := h) hg (xs := xs) fun y hy => e y (List.mem_cons_of_mem _ hy)
    simp only [loopC, hg, if_true, e1, e2, Res.bind_ok, List.filterMap_cons]
    cases h x <;> rfl
/-- small values -/
structure Sm (V : PV) : Prop where
  val : Val V
  w : wgt V ≤ 100000
  d : dep V ≤ 40
theorem wgts_mem {ps : List PV} {p : PV} (h : p ∈ ps) : wgt p + 1 ≤ wgts ps := by
  induction ps with
  | nil => cases h
  | cons q ps ih =>
    simp only [wgts]
    rcases List.mem_cons.mp h with rfl | h
    · omega
    · have := ih h; omega
theorem deps_mem {ps : List PV} {p : PV} (h : p ∈ ps) : dep p ≤ deps ps := by
  induction ps with
  | nil => cases h
  | cons q ps ih =>
    simp only [deps]
    rcases List.mem_cons.mp h with rfl | h
    · exact Nat.le_max_left _ _
    · exact Nat.le_trans (ih h) (Nat.le_max_right _ _)
theorem wgt_row (xs : List PV) : wgts xs ≤ wgt (rowV xs) := by simp only [rowV, wgt, wgts]; omega
theorem wgt_tree (kv : List (Str × PV)) : wgts (kv.map fldV) ≤ wgt (treeV kv) := by simp only [treeV, wgt, wgts]; omega
theorem dep_row (xs : List PV) : deps xs + 2 ≤ dep (rowV xs) := by simp only [rowV, dep, deps]; omega
theorem dep_tree (kv : List (Str × PV)) : deps (kv.map fldV) + 2 ≤ dep (treeV kv) := by simp only [treeV, dep, deps]; omega
theorem Sm.row {xs : List PV} (h : Sm (rowV xs)) : ∀ x ∈ xs, Sm x := fun x hx => by
  have v : ∀ x ∈ xs, Val x := by
    have := h.val
    generalize hV : rowV xs = V at this
    cases this with
    | plain h => rw [← hV] at h; exact absurd (leaf_tup h) (by simp [rowV, isTup])
    | row h => simp only [rowV, PV.tup.injEq, List.cons.injEq, and_true, true_and] at hV; subst hV; exact h
    | tree _ _ _ =>
      simp [rowV, treeV] at hV
  have h1 := wgts_mem hx
  have h2 := deps_mem hx
  have h3 := wgt_row xs
  have h4 := dep_row xs
  have h5 := h.w
  have h6 := h.d
  exact ⟨v x hx, by omega, by omega⟩
theorem Sm.tree {kv : List (Str × PV)} (h : Sm (treeV kv)) (h2 : ∀ q ∈ kv, Val q.2) : ∀ q ∈ kv, Sm q.2 := fun q hq => by
  have h1 := wgts_mem (List.mem_map.mpr ⟨q, hq, rfl⟩ : fldV q ∈ kv.map fldV)
  have h2' := deps_mem (List.mem_map.mpr ⟨q, hq, rfl⟩ : fldV q ∈ kv.map fldV)
  have h3 := wgt_tree kv
  have h4 := dep_tree kv
  have h5 := h.w
  have h6 := h.d
  simp only [fldV, wgt, wgts, dep, deps] at h1 h2'
  exact ⟨h2 q hq, by omega, by omega⟩
section
variable {G : GH} {ρ : Env}
@[simp] theorem opSl_lst {ps : List PV} {lo hi : Option Int} : opSl (.lst ps) lo hi G = .ok (.lst (cutP ps lo hi)) G := rfl
@[simp] theorem opSl_tup {ps : List PV} {lo hi : Option Int} : opSl (.tup ps) lo hi G = .ok (.tup (cutP ps lo hi)) G := rfl
@[simp] theorem gTup2_ap {i j : Nat} {x y : PV} : gTupE 2 (gConsE (gN i) (gConsE (gN j) gNilE)) (.tup [x, y]) ρ G = .ok ((ρ.set i (some x)).set j (some y)) G := by
  simp [gTupE, gConsE, gNilE]
@[simp] theorem mDNew_ap : mDNew ρ G = .ok (.obj G.length) (G ++ [.dic []]) := rfl
@[simp] theorem mSeq_ap {m : Env → GH → Res PV} : mSeq m ρ G = (m ρ G).bind seqSrc := rfl
@[simp] theorem seqSrc_tup {ps : List PV} : seqSrc (.tup ps) G = .ok ⟨ps, fun _ => true⟩ G := rfl
@[simp] theorem seqSrc_lst {ps : List PV} : seqSrc (.lst ps) G = .ok ⟨ps, fun _ => true⟩ G := rfl
end
end EV
end
section
/-! M13: what comes by a step, in the program. -/
set_option Elab.async false
set_option linter.all false
set_option maxRecDepth 100000
namespace EV
open PySem PySem.Spec PyProof.Rows L2
end EV
end
section
/-! M14: what comes by a step, as the law goes. -/
set_option Elab.async false
set_option linter.all false
set_option maxRecDepth 100000
namespace EV
open PySem PySem.Spec PyProof.Rows L2
theorem fld_mem {kv : List (Str × PV)} {t : PV} (h : t ∈ kv.map fldV) : ∃ q ∈ kv, t = fldV q := by
  obtain ⟨q, hq, rfl⟩ := List.mem_map.mp h
  exact ⟨q, hq, rfl⟩
theorem word_w {w : Str} (h : w ∈ pool7) : w.cps.size ≤ 10 := by
  have t : pool7.all (fun w => decide (w.cps.size ≤ 10)) = true := by decide +kernel
  simpa using List.all_eq_true.mp t w h
end EV
end
section
/-! M15: what is found, its weight. -/
set_option Elab.async false
set_option linter.all false
set_option maxRecDepth 100000
namespace EV
open PySem PySem.Spec PyProof.Rows L2
/-- markers -/
def mk (m : PV) : Prop := (∃ w, m = .str w ∧ w ∈ pool7) ∨ (∃ i : Int, m = .int i ∧ 0 ≤ i ∧ i < 1000000)
theorem wgts_app : ∀ xs ys : List PV, wgts (xs ++ ys) = wgts xs + wgts ys
  | [], ys => by simp [wgts]
  | x :: xs, ys => by simp only [List.cons_append, wgts, wgts_app xs ys]; omega
theorem deps_le {ps : List PV} {n : Nat} (h : ∀ p ∈ ps, dep p ≤ n) : deps ps ≤ n := by
  induction ps with
  | nil => simp [deps]
  | cons p ps ih =>
    simp only [deps]
    exact Nat.max_le.mpr ⟨h p (List.mem_cons_self ..), ih fun q hq => h q (List.mem_cons_of_mem _ hq)⟩
def kids (V : PV) : List PV := fldsOf V ++ enP (rowsOf V)
theorem kids_row (xs : List PV) : kids (rowV xs) = enP xs := rfl
theorem kids_tree (kv : List (Str × PV)) : kids (treeV kv) = kv.map fldV := by
  have : kids (treeV kv) = kv.map fldV ++ [] := rfl
  rw [this, List.append_nil]
def fstV : PV → PV
  | .tup [m, _] => m
  | _ => .non
def mk1 (pl : List PV) (t : PV) : List PV × PV := (pl ++ [fstV t], sndV t)
structure okQ (n : Nat) (q : List PV × PV) : Prop where
  l : q.1.length = n
  m : ∀ m ∈ q.1, mk m
  s : Sm q.2
end EV
end
section
/-! M25: repr of values is one to one. -/
set_option Elab.async false
set_option linter.all false
set_option maxRecDepth 100000
namespace EV
open PySem PySem.Spec PyProof.Rows L2
/-- plains and the words of values -/
def atoms : List PV := leafs ++ [.str "row", .str "tree"] ++ pool7.map .str
inductive Cd : PV → Prop where
  | atom {p : PV} : p ∈ atoms → Cd p
  | tup {ps : List PV} : (∀ p ∈ ps, Cd p) → Cd (.tup ps)
theorem Val.cd {p : PV} (h : Val p) : Cd p := by
  induction h with
  | plain h => exact .atom (List.mem_append_left _ (List.mem_append_left _ h))
  | row _ ih =>
    refine .tup fun p hp => ?_
    simp only [List.mem_cons, List.not_mem_nil, or_false] at hp
    rcases hp with rfl | rfl
    · exact .atom (by simp [atoms])
    · exact .tup ih
  | tree h1 h2 _ ih =>
    refine .tup fun p hp => ?_
    simp only [List.mem_cons, List.not_mem_nil, or_false] at hp
    rcases hp with rfl | rfl
    · exact .atom (by simp [atoms])
    · refine .tup fun p hp => ?_
      obtain ⟨q, hq, rfl⟩ := fld_mem hp
      refine .tup fun p hp => ?_
      simp only [List.mem_cons, List.not_mem_nil, or_false] at hp
      rcases hp with rfl | rfl
      · exact .atom (List.mem_append_right _ (List.mem_map.mpr ⟨_, h2 q hq, rfl⟩))
      · exact ih q hq
/-- the first ends in the second, or they part -/
def parts : List Nat → List Nat → Bool
  | a :: as, b :: bs => a != b || parts as bs
  | [], b :: _ => b != 44 && b != 41
  | a :: _, [] => a != 44 && a != 41
  | [], [] => false
def samePlain : PV → PV → Bool
  | .non, .non => true
  | .bl a, .bl b => a == b
  | .int a, .int b => a == b
  | .str a, .str b => decide (a = b)
  | _, _ => false
/-- how a text begins: not by brackets, not by commas -/
def begB : Option Nat → Bool
  | none => false
  | some x => x != 40 && (x != 41 && x != 44)
/-- a tuple's texts behind the first -/
def tl : List PV → List Nat
  | [] => [41]
  | p :: ps => 44 :: 32 :: (sg (rep p) ++ tl ps)
end EV
end
section
/-! M16: found_in, _law_found. -/
set_option Elab.async false
set_option linter.all false
set_option maxRecDepth 100000
namespace EV
open PySem PySem.Spec PyProof.Rows L2
@[simp] theorem bTup_lst {ps : List PV} {G : GH} : bTup [.lst ps] G = .ok (.tup ps) G := rfl
@[simp] theorem mYes_ap {ρ : Env} {G : GH} : mYes ρ G = .ok true G := rfl
@[simp] theorem opAdd_tt {a b : List PV} {G : GH} : opAdd [.tup a, .tup b] G = if a.length + b.length ≤ sizeLine then .ok (.tup (a ++ b)) G else .bad := rfl
end EV
end
section
/-! M26: two values alike. -/
set_option Elab.async false
set_option linter.all false
set_option maxRecDepth 100000
namespace EV
open PySem PySem.Spec PyProof.Rows L2
section
variable {fl fr ft fk : List PV → GH → Res PV} {n : Nat}
end
end EV
end
section
/-! M33: any values, alike; the same. -/
set_option Elab.async false
set_option linter.all false
set_option maxRecDepth 100000
namespace EV
open PySem PySem.Spec PyProof.Rows L2
/-- truths, numbers, texts -/
def scB : PV → Bool
  | .bl _ => true
  | .int i => decide (i.natAbs < 10 ^ 41)
  | .str x => PyData.strOk x
  | _ => false
inductive V3 : PV → Prop where
  | leaf {p : PV} : scB p = true → V3 p
  | row {xs : List PV} : (∀ x ∈ xs, V3 x) → V3 (rowV xs)
  | tree {kv : List (Str × PV)} : (∀ q ∈ kv, PyData.strOk q.1 = true) → (∀ q ∈ kv, V3 q.2) → V3 (treeV kv)
theorem sc_dat {p : PV} (h : scB p = true) : datB p = true := by cases p <;> first | rfl | cases h
theorem V3.dat {p : PV} (h : V3 p) : datB p = true := by
  induction h with
  | leaf h => exact sc_dat h
  | row _ ih => simp [rowV, datB, datBs, datBs_of ih]
  | tree _ _ ih => simp [treeV, datB, datBs, dat_flds ih]
/-- what is_like looks at: of bounded weight -/
structure G3 (V : PV) : Prop where
  v : V3 V
  w : wgt V ≤ 100000
theorem G3.row {xs : List PV} (h : G3 (rowV xs)) : ∀ x ∈ xs, G3 x := fun x hx => by
  have v : ∀ x ∈ xs, V3 x := by
    have := h.v
    generalize hV : rowV xs = V at this
    cases this with
    | leaf h => rw [← hV] at h; cases h
    | row h => simp only [rowV, PV.tup.injEq, List.cons.injEq, and_true, true_and] at hV; subst hV; exact h
    | tree _ _ => simp [rowV, treeV] at hV
  have h1 := wgts_mem hx
  have h3 := wgt_row xs
  have h5 := h.w
  exact ⟨v x hx, by omega⟩
theorem G3.tree {kv : List (Str × PV)} (h : G3 (treeV kv)) (h2 : ∀ q ∈ kv, V3 q.2) : ∀ q ∈ kv, G3 q.2 := fun q hq => by
  have h1 := wgts_mem (List.mem_map.mpr ⟨q, hq, rfl⟩ : fldV q ∈ kv.map fldV)
  have h3 := wgt_tree kv
  have h5 := h.w
  simp only [fldV, wgt, wgts] at h1
  exact ⟨h2 q hq, by omega⟩
section
variable {fl fr ft fk : List PV → GH → Res PV} {n : Nat}
end
end EV
end
section
/-! J1: repr is one to one over any stock of atoms (turned from M25). -/
set_option Elab.async false
set_option linter.all false
set_option maxRecDepth 100000
namespace EV
open PySem PySem.Spec PyProof.Rows L2
inductive CdA (A : List PV) : PV → Prop where
  | atom {p : PV} : p ∈ A → CdA A p
  | tup {ps : List PV} : (∀ p ∈ ps, CdA A p) → CdA A (.tup ps)
section
variable {A : List PV} (hA1 : (A.all fun p => A.all fun q => samePlain p q || parts (sg (rep p)) (sg (rep q))) = true) (hA2 : (A.all fun p => begB (sg (rep p)).head?) = true)
include hA1 hA2
end
end EV
end
section
set_option Elab.async false
set_option linter.all false
set_option maxRecDepth 100000
/-! Ev30: sets of texts: one more text. -/
namespace EV
open PySem PySem.Spec PyProof.Rows L2
abbrev KT (P : Program) (w : World) := PySem.strKind P w
def keyT (e : Int × Value) : Str := match e.2 with
  | .str k _ => k
  | _ => Str.empty
def TxtE (P : Program) (w : World) (e : Int × Value) : Prop := ∃ k tk, e.2 = Value.str k tk ∧ e.1 = (KT P w).hash k
/-- the set at a holds the texts of L, in some order -/
structure SetT (P : Program) (w : World) (h : Heap) (a : Addr) (L : List Str) : Prop where
  ex : ∃ o es ep t, h.get? a = some o ∧ o.ExactSet ∧ o.data = .set es ep t ∧ (∀ e ∈ es.toList, TxtE P w e) ∧ (es.toList.map keyT).Perm L ∧ es.size < scanBound ∧ t.fits es.size = true ∧ Ris t.place.toList ∧ (w.params.followText "set-order" = true ∨ t.led = true)
  nd : L.Nodup
/-- one more -/
def insT (L : List Str) (k : Str) : List Str := if k ∈ L then L else k :: L
section
variable {P : Program} {w : World} {h h' : Heap} {a : Addr} {L : List Str}
theorem SetT.at (R : SetT P w h a L) (k : ∀ o, h.get? a = some o → h'.get? a = some o) : SetT P w h' a L := by
  obtain ⟨⟨o, es, ep, t, ho, r⟩, nd⟩ := R
  exact ⟨⟨o, es, ep, t, k o ho, r⟩, nd⟩
end
section
variable {P : Program} {w : World} {A : Around} {E : Value → Shared → Prop} {s : Shared} {a : Addr} {L : List Str}
end
end EV
end
section
set_option Elab.async false
set_option linter.all false
set_option maxRecDepth 100000
/-! Ev31: sorted(set(texts)). -/
namespace EV
open PySem PySem.Spec PyProof.Rows L2
theorem insT_mem {L : List Str} {k x : Str} : x ∈ insT L k ↔ x = k ∨ x ∈ L := by
  unfold insT; split
  · rename_i h; exact ⟨.inr, fun h' => h'.elim (fun e => e ▸ h) id⟩
  · exact List.mem_cons
section
variable {P : Program} {w : World} {A : Around} {E : Value → Shared → Prop} {s : Shared}
/-! ### sorted -/
end
/-! ### over the layer -/
section
variable {X : Cx}
end
end EV
end
section
set_option Elab.async false
set_option linter.all false
set_option maxRecDepth 100000
/-! Ev32: the rule of sorted(set(texts)). -/
namespace EV
open PySem PySem.Spec PyProof.Rows L2
def leT (x y : Str) : Bool := decide (x.cps.toList ≤ y.cps.toList)
def dedT : List Str → List Str
  | [] => []
  | x :: r => insT (dedT r) x
/-- texts, each once, rising -/
def sortT (xs : List Str) : List Str := (dedT xs).mergeSort leT
theorem dedT_mem : ∀ {xs : List Str} {x : Str}, x ∈ dedT xs ↔ x ∈ xs
  | [], x => Iff.rfl
  | y :: r, x => by rw [dedT, insT_mem, dedT_mem (xs := r), List.mem_cons]
theorem insT_nodup {L : List Str} {k : Str} (h : L.Nodup) : (insT L k).Nodup := by
  unfold insT; split
  · exact h
  · rename_i n; exact List.nodup_cons.mpr ⟨n, h⟩
theorem dedT_nodup : ∀ xs : List Str, (dedT xs).Nodup
  | [] => List.nodup_nil
  | x :: r => insT_nodup (dedT_nodup r)
theorem leT_trans (a b c : Str) (h : leT a b = true) (k : leT b c = true) : leT a c = true := by
  simp only [leT, decide_eq_true_eq] at *; exact List.le_trans h k
theorem leT_total (a b : Str) : (leT a b || leT b a) = true := by
  simp only [leT, Bool.or_eq_true, decide_eq_true_eq]; exact List.le_total _ _
theorem str_ext {x y : Str} (h : x.cps.toList = y.cps.toList) : x = y := by
  cases x; cases y
  simp only [Str.mk.injEq]
  exact Array.toList_inj.mp h
theorem leT_anti {a b : Str} (h : leT a b = true) (k : leT b a = true) : a = b := by
  simp only [leT, decide_eq_true_eq] at *; exact str_ext (List.le_antisymm h k)
theorem sortT_pw (xs : List Str) : (sortT xs).Pairwise fun a b => leT a b = true := List.pairwise_mergeSort leT_trans leT_total _
theorem sortT_mem {xs : List Str} {x : Str} : x ∈ sortT xs ↔ x ∈ xs := by rw [sortT, (List.mergeSort_perm _ _).mem_iff, dedT_mem]
theorem sortT_nodup (xs : List Str) : (sortT xs).Nodup := (List.mergeSort_perm _ _).nodup_iff.mpr (dedT_nodup xs)
section
variable {F : Fx} {μ : Mu} {H : Hp} {G : GH}
end
section
variable {X : Cx} {F : Fx} {Ex : XK} {n : Nat}
end
end EV
end
section
set_option Elab.async false
set_option linter.all false
set_option maxRecDepth 100000
/-! Ev33: xs[::-1], sep.join(texts), o[i] as a target, sum(numbers). -/
namespace EV
open PySem PySem.Spec PyProof.Rows L2 HT
section
variable {prog : Program} {w : World} {A : Around} {E : Value → Shared → Prop} {s : Shared}
end
section
variable {X : Cx} {F : Fx} {Ex : XK} {n : Nat}
theorem Reps.reverse {μ : Mu} {H : Hp} : ∀ {ps : List PV} {vs : List V}, Reps F μ H ps vs → Reps F μ H ps.reverse vs.reverse
  | [], _, h => by rw [h.nil_inv]; exact .nil
  | p :: ps, _, h => by
    obtain ⟨v, r, rfl, h1, t⟩ := h.cons_inv
    rw [List.reverse_cons, List.reverse_cons]
    exact (Reps.reverse t).append (.one h1)
/-! ### sep.join(texts) -/
/-! ### o[i] as a target -/
/-! ### sum(numbers) -/
end
end EV
end
section
set_option Elab.async false
set_option linter.all false
set_option maxRecDepth 100000
set_option maxHeartbeats 1000000
/-! Ev34: zip(a, b) of two tuples, walked. -/
namespace EV
open PySem PySem.Spec PyProof.Rows L2 RZ Zs
section
variable {X : Cx} {F : Fx} {Ex : XK} {n : Nat}
end
end EV
end
section
set_option Elab.async false
set_option linter.all false
set_option maxRecDepth 100000
/-! Ev35: list + list as an object that changes; abs. -/
namespace EV
open PySem PySem.Spec PyProof.Rows L2
def opAddO (ps : List PV) (G : GH) : Res PV := match ps with
  | [x, y] => match asL x G, asL y G with
    | some a, some b => if a.length + b.length ≤ sizeLine then .ok (.obj G.length) (G ++ [.lst (a ++ b)]) else .bad
    | _, _ => .bad
  | _ => .bad
def bAbs (ps : List PV) (G : GH) : Res PV := match ps with
  | [.int i] => .ok (.int (if i < 0 then -i else i)) G
  | _ => .bad
section
variable {X : Cx} {F : Fx} {Ex : XK} {n : Nat}
theorem opAddO_ok (hK : F.K = X.K) : OpR X (binaryOp .Add) (OpV F Ex opAddO) := by
  intro pins s σ H x y v u Q I rx ry ⟨μ, ps, G, r, g, p⟩
  unfold opAddO at p
  split at p
  · obtain ⟨_, _, e, r1, r2⟩ := Reps.two_inv r
    cases e
    split at p
    · rename_i ea eb
      split at p
      · rename_i hz
        obtain ⟨a, vs, e1, z1, st1, rr1⟩ := asL_rep ea r1 g
        obtain ⟨b, ws, e2, z2, st2, rr2⟩ := asL_rep eb r2 g
        have l1 := rr1.length
        have l2 := rr2.length
        exact op_catS pins s σ H _ _ v u Q I rx ry ⟨a, b, vs, ws, e1, e2, by rw [← hK]; exact st1, by rw [← hK]; exact st2, by omega, Post.newL (ob := true) (by simpa using p) g (rr1.append rr2) (by rw [List.length_append]; omega)⟩
      · exact (show False from p).elim
    · exact (show False from p).elim
  · exact (show False from p).elim
theorem gaddO (g : GX X F Ex n) {a b : Expr} {pos : Pos} {ma mb : Env → GH → Res PV} (ha : PE X a (TEv F Ex ma)) (hb : PE X b (TEv F Ex mb)) : PE X (.BinOp a .Add b pos) (TEv F Ex (m2 ma mb opAddO)) := ev_bin (opAddO_ok g.K) ha hb
end
end EV
end
section
set_option Elab.async false
set_option linter.all false
set_option maxRecDepth 100000
/-! Ev36: sorted(d.items()) of a dict with texts as keys. -/
namespace EV
open PySem PySem.Spec PySem.W PySem.Calls PyProof.Rows L2
/-! ### pairs that begin with texts, all unlike -/
def PairT (h : PySem.Heap) (v : Value) (x : Str) : Prop := ∃ (a : Addr) (o : Obj) (y : Value) (t : Tok) (n : Nat), v = .ref a ∧ h.get? a = some o ∧ o.cls = .type "tuple" ∧ o.data = .seq #[.str x t, y] n
theorem PairT.unique {h : PySem.Heap} {v : Value} {x x' : Str} (p : PairT h v x) (q : PairT h v x') : x = x' := by
  obtain ⟨a, o, y, t, n, rfl, h1, _, h2⟩ := p
  obtain ⟨a', o', y', t', n', e, k1, _, k2⟩ := q
  cases e
  rw [h1] at k1; cases k1
  rw [h2] at k2
  have e := (Data.seq.inj k2).1
  have e2 := congrArg Array.toList e
  simp only [List.cons.injEq] at e2
  have := e2.1
  cases this
  rfl
noncomputable def pairKind (h : PySem.Heap) (vs : List Value) : PyProof.Rows.KeyKind where
  toKeyOrd := PyProof.Rows.strKind.toKeyOrd
  keyOf v := open Classical in if q : ∃ x, v ∈ vs ∧ PairT h v x then some q.choose.cps.toList else none
  dflt := ([] : List Nat)
theorem pairKind_some {h : PySem.Heap} {vs : List Value} {v : Value} {x : Str} (hv : v ∈ vs) (p : PairT h v x) : (pairKind h vs).keyOf v = some x.cps.toList := by
  have q : ∃ x, v ∈ vs ∧ PairT h v x := ⟨x, hv, p⟩
  show (open Classical in if q : ∃ x, v ∈ vs ∧ PairT h v x then some q.choose.cps.toList else none) = _
  rw [dif_pos q, q.choose_spec.2.unique p]
theorem pairKind_inv {h : PySem.Heap} {vs : List Value} {v : Value} {k : List Nat} (e : (pairKind h vs).keyOf v = some k) : ∃ x, v ∈ vs ∧ PairT h v x ∧ k = x.cps.toList := by
  by_cases q : ∃ x, v ∈ vs ∧ PairT h v x
  · have e' : (pairKind h vs).keyOf v = some q.choose.cps.toList := by
      show (open Classical in if q : ∃ x, v ∈ vs ∧ PairT h v x then some q.choose.cps.toList else none) = _
      rw [dif_pos q]
    rw [e'] at e
    exact ⟨q.choose, q.choose_spec.1, q.choose_spec.2, (Option.some.inj e).symm⟩
  · have e' : (pairKind h vs).keyOf v = none := by
      show (open Classical in if q : ∃ x, v ∈ vs ∧ PairT h v x then some q.choose.cps.toList else none) = _
      rw [dif_neg q]
      rfl
    rw [e'] at e
    exact absurd e (by simp)
section
variable {prog : Program} {w : World} {A : Around} {E : Value → Shared → Prop} {s : Shared}
theorem eqBool_self {p : Value} {Q : Bool → Shared → Prop} (h : Q true s) : wpAny (model prog w) A (eqBool p p) Q E s := by
  unfold eqBool
  refine wpAny_holding ?_
  show wpAny _ _ (if (p == p) = true then _ else _) Q E s
  rw [if_pos (beq_self_eq_true p)]
  exact wpAny_bind (wpAny_rule (wpAny_pure h))
theorem firsts_pair {h : PySem.Heap} : ∀ {vs : List Value} {xs : List Str}, EachIs (fun v x => PairT h v x) vs xs → ∃ fs, KatTups h vs fs ∧ fs.length = vs.length ∧ ∀ f ∈ fs, ∃ k t, f = .str k t
  | _, _, .nil => ⟨[], KatTups.nil, rfl, fun f hf => by cases hf⟩
  | _, _, .cons r rest => by
    obtain ⟨fs, h1, h2, h3⟩ := firsts_pair rest
    obtain ⟨a, o, y, t, n, rfl, g1, g2, g3⟩ := r
    rename_i x _ _
    refine ⟨.str x t :: fs, KatTups.cons g1 g2 g3 rfl h1, by rw [List.length_cons, List.length_cons, h2], fun g hg => ?_⟩
    rcases List.mem_cons.mp hg with rfl | hg
    · exact ⟨_, _, rfl⟩
    · exact h3 g hg
theorem each_get {α β : Type} {R : α → β → Prop} : ∀ {as : List α} {bs : List β}, EachIs R as bs → ∀ {a}, a ∈ as → ∃ (i : Nat) (b : β), as[i]? = some a ∧ bs[i]? = some b ∧ R a b
  | _, _, .nil, _, h => by cases h
  | _, _, .cons (a := a0) (b := b0) r t, a, h => by
    rcases List.mem_cons.mp h with rfl | h
    · exact ⟨0, b0, rfl, rfl, r⟩
    · obtain ⟨i, b, h1, h2, h3⟩ := each_get t h
      exact ⟨i + 1, b, by simpa using h1, by simpa using h2, h3⟩
theorem sortsAt_pair {vs : List Value} {xs : List Str} (e : EachIs (fun v x => PairT s.heap v x) vs xs) (nd : xs.Nodup) : SortsAt prog w A s (pairKind s.heap vs) vs := by
  refine ⟨fun v hv => ?_, tuples' true, ?_, fun h2 E Q hq => ?_⟩
  · obtain ⟨i, x, _, _, p⟩ := each_get e hv
    exact ⟨_, pairKind_some hv p⟩
  · intro E x y a b Q ha hb hq
    obtain ⟨nx, mx, px, rfl⟩ := pairKind_inv ha
    obtain ⟨ny, my, py, rfl⟩ := pairKind_inv hb
    have hq' : Q (decide (nx.cps.toList < ny.cps.toList)) s := hq
    by_cases en : nx = ny
    · subst en
      have exy : x = y := by
        obtain ⟨i, z, h1, h2, h3⟩ := each_get e mx
        obtain ⟨j, z', k1, k2, k3⟩ := each_get e my
        have := h3.unique px
        have := k3.unique py
        subst z z'
        have hij : i = j := by
          obtain ⟨l1, g1⟩ := List.getElem?_eq_some_iff.mp h2
          obtain ⟨l2, g2⟩ := List.getElem?_eq_some_iff.mp k2
          exact (List.getElem_inj nd).mp (g1.trans g2.symm)
        subst hij
        rw [h1] at k1
        exact Option.some.inj k1
      subst exy
      obtain ⟨l, o, u, t, n, rfl, h1, _, h3⟩ := px
      rw [show decide (nx.cps.toList < nx.cps.toList) = false from decide_eq_false (List.lt_irrefl _)] at hq'
      refine kat_lt h1 h3 h1 h3 ?_
      refine kat_cons (eqBool_self (kat_go (fun _ => ?_) fun z => by cases z))
      refine kat_yes (kat_cons (eqBool_self (kat_go (fun _ => ?_) fun z => by cases z)))
      exact kat_yes (kat_nil (by simpa using hq'))
    · obtain ⟨l, o, u, t, n, rfl, h1, _, h3⟩ := px
      obtain ⟨l', o', u', t', n', rfl, k1, _, k3⟩ := py
      refine kat_lt h1 h3 k1 k3 ?_
      refine kat_cons (PyProof.Rows.eqBool_str (kat_go (fun e1 => ?_) fun e1 => ?_))
      · exact absurd (by simpa using e1) en
      · exact kat_no (PyProof.Rows.oneLt_str hq')
  · obtain ⟨fs, t1, t2, t3⟩ := firsts_pair e
    refine kat_kind (T := .type "str") t1 (by omega) (fun f hf => ?_) (beq_self_eq_true _) ?_
    · obtain ⟨k, t, rfl⟩ := t3 f hf
      exact Looks.of_pure rfl
    · have e : (Value.type "str" != Value.type "tuple") = true := by first | decide +kernel | rfl | decide
      rw [e]; exact hq
end
end EV
end
section
set_option Elab.async false
set_option linter.all false
set_option maxRecDepth 100000
/-! Ev37: the rule of sorted(d.items()). -/
namespace EV
open PySem PySem.Spec PySem.W PySem.Calls PyProof.Rows L2
section
variable {X : Cx}
/-- new pairs at as, a new list of them in another order at S -/
theorem pairs_laidP {pins : List (Addr × Obj)} {σ : L2.St} {H : Hp} {s : Shared} {h' : PySem.Heap} {tk : Nat} {ps : List (V × V)} {S : Nat} {acc : Array Value} {c : Nat} {as as' : List Addr} (I : Inv X pins σ H s) (hz : ps.length ≤ sizeLine) (hSs : s.heap.objs.size ≤ S) (ab : ∀ t ∈ as, s.heap.objs.size ≤ t) (hSn : S ∉ as) (nd : as.Nodup)
    (hk : ∀ b o, s.heap.get? b = some o → h'.get? b = some o) (hS : h'.get? S = some { cls := .type "list", dict := none, data := .seq acc c, slots := #[] }) (hl : as.length = ps.length) (hG : ∀ (j : Nat) (t : Addr), as[j]? = some t → ∃ x y, (∃ p, ps[j]? = some p ∧ RelV p.1 x ∧ RelV p.2 y) ∧ h'.get? t = some { cls := .type "tuple", data := .seq #[x, y] }) (hacc : acc.toList = as'.map Value.ref) (hl' : as'.length = as.length) :
    ∃ H' : Hp, (∀ b o, H b = some o → H' b = some o) ∧ H S = none ∧ (∀ t ∈ as, H t = none) ∧ S ∉ as ∧ H' S = some (.lst (as'.map V.ref)) ∧ Paired (FzP H') as ps ∧ Inv X pins σ H' { s with heap := h', toks := tk } := by
  have new : ∀ t ∈ as, H t = none := fun t ht => I.hok.fresh (ab t ht)
  have newS : H S = none := I.hok.fresh hSs
  let ob : Addr → Obj := fun a => (h'.get? a).getD default
  have atP := putP_at (ob := ob) as ps (upd H S (.lst (as'.map V.ref))) hl nd
  have off : ∀ b, b ∉ as → b ≠ S → putP ob (upd H S (.lst (as'.map V.ref))) as ps b = H b := fun b h1 h2 => by rw [putP_off as ps _ h1, upd_ne h2]
  have low : ∀ b o, s.heap.get? b = some o → b ∉ as ∧ b ≠ S := fun b o e => ⟨fun z => absurd (Heap.lt_size e) (Nat.not_lt.mpr (ab b z)), Nat.ne_of_lt (Nat.lt_of_lt_of_le (Heap.lt_size e) hSs)⟩
  have kp : ∀ b u, H b = some u → (putP ob (upd H S (.lst (as'.map V.ref))) as ps) b = some u := fun b u e => by
    rw [off b (fun z => by rw [new b z] at e; cases e) (fun z => by rw [z, newS] at e; cases e)]
    exact e
  have eS : putP ob (upd H S (.lst (as'.map V.ref))) as ps S = some (.lst (as'.map V.ref)) := by rw [putP_off as ps _ hSn, upd_same]
  refine ⟨putP ob (upd H S (.lst (as'.map V.ref))) as ps, kp, newS, new, hSn, eS, ?_, ?_⟩
  · have ga : ∀ t ∈ as, (ob t).dict = none := fun t ht => by
      obtain ⟨j, hj⟩ := List.mem_iff_getElem?.mp ht
      obtain ⟨x, y, _, f4⟩ := hG j t hj
      show ((h'.get? t).getD default).dict = none
      rw [f4]
      rfl
    have : ∀ {as' : List Addr} {ps' : List (V × V)} {P : Addr → V × V → Prop} {H2 : Hp}, Paired P as' ps' → (∀ t ∈ as', ∀ q, P t q → FzP H2 t q) → Paired (FzP H2) as' ps' := fun h w => paired_map h w
    exact this atP fun t ht q e => ⟨ob t, e, ga t ht⟩
  refine I.call' (ch := []) rfl ⟨fun b o q _ _ _ => hk b o q, fun b o q _ _ _ => ⟨o.slots, hk b o q⟩, fun b o q n _ => ?_, fun b o q _ => ⟨o, hk b o q⟩, fun b xs q => kp b _ q, fun b o u q => kp b _ q, fun b ps q => ⟨#[], by rw [kp b _ q]; simp⟩⟩ (fun b u q => ?_) I.bare fun b z => by simp at z
  · obtain ⟨z1, z2⟩ := low b o q
    rw [off b z1 z2]
    exact n
  · by_cases hb : b ∈ as
    · obtain ⟨j, pk, e1, e2, e3⟩ := LiI.paired_ix atP hb
      rw [e3] at q
      cases q
      obtain ⟨x, y, ⟨p', f1, f2, f3⟩, f4⟩ := hG j b e1
      rw [e2] at f1
      cases f1
      have eo : ob b = { cls := .type "tuple", data := .seq #[x, y] } := by show (h'.get? b).getD default = _; rw [f4]; rfl
      rw [eo]
      exact ⟨f4, by show 2 ≤ sizeLine; decide, [x, y], .cons f2 (.cons f3 .nil), ⟨_, f4, rfl, _, rfl⟩⟩
    · by_cases hb2 : b = S
      · rw [hb2] at q ⊢
        rw [eS] at q
        cases q
        refine ⟨by rw [List.length_map]; omega, acc.toList, c, by rw [hacc]; exact LiI.vals_refs as', ?_⟩
        rw [Array.toArray_toList]
        exact hS
      · rw [off b hb hb2] at q
        exact (I.hok b u q).stay (fun d v _ y => hk d v y) (fun d y => kp d _ y) fun d xs y => kp d _ y
/-- what sorted(d.items()) wants of a dict -/
def rItemsS : V → Hp → VK → Prop := fun x H Q => ∃ (d : Addr) (kvs : List (Key × V)) (ks : List Str), x = .ref d ∧ H d = some (.dK kvs) ∧ kvs.map (·.1) = ks.map Sum.inr ∧
  ∀ (H' : Hp) (p : Addr) (ts : List Addr), ts.length = kvs.length → (∀ b o, H b = some o → H' b = some o) → H p = none → (∀ t ∈ ts, H t = none) → p ∉ ts → H' p = some (.lst (((ts.zip ks).mergeSort fun a b => leT a.2 b.2).map fun z => V.ref z.1)) → Paired (FzP H') ts (kvs.map fun q => (kV q.1, q.2)) → Q (.ref p) H'
theorem leT_sort : (fun (a b : Addr × Str) => leT a.2 b.2) = sortLe PyProof.Rows.strKind.toKeyOrd false fun z : Addr × Str => z.2.cps.toList := by
  funext a b
  exact (PySem.W.not_lt_str _ _).symm
theorem pe_sortItems {e : Expr} {te : TE} {p apos cpos pos : Pos} (hc : X.calm = true) (he : PE X e te) (hg : Gl X "sorted") (hm : X.mg "sorted" = none) (hbase : attributeBase e "items" X.env (eval e X.env) = eval e X.env) (hline : (apos.endLine == cpos.line) = true) :
    PE X (.Call (.Name "sorted" p) [.Call (.Attribute e "items" apos) [] [] cpos] [] pos) (fun σ H Q => te σ H fun x H1 => rItemsS x H1 Q) := by
  refine ⟨fun pins s σ H Q I hq => ?_⟩
  have hs : starEach [.Call (.Attribute e "items" apos) [] [] cpos] X.env = (false, eval (.Call (.Attribute e "items" apos) [] [] cpos) X.env) :: starEach [] X.env := rfl
  refine wpAny_Call_Name_kw (ld_blt I hg hm (u := .builtin "sorted") (by kernel_rfl) ?_)
  refine PyProof.Rows.callWith_builtin1 ?_ hs rfl
  rw [hs]
  show wpAny _ _ (spliced ((false, eval (.Call (.Attribute e "items" apos) [] [] cpos) X.env) :: backTo pos (starEach [] X.env))) _ _ s
  refine Calls.spliced_cons ?_
  refine wpAny_Call_method (T := "dict") (id := "dict.items") hbase rfl hline F.plainAttrs_dict F.slot_dict_items F.type_dict_items (thn (he.run pins s σ H _ I hq) fun u s1 ⟨x, H1, I1, rx, d, kvs, ks, ex, hd, hks, q⟩ => ?_)
  subst ex
  obtain rfl : u = Value.ref d := rx
  obtain ⟨hz, hs0, vs, kv, hdo⟩ := I1.hok d _ hd
  obtain ⟨ep, hat⟩ := hdo.dictAt
  have lk : kvs.length = vs.length := Paired.length kv
  have I2 : Inv X pins σ H1 { s1 with heap := s1.heap.push { cls := .type "dict_items", data := .fields #[.ref d] } } := I1.kept (t' := s1.toks) fun b ob q => Heap.get?_push_of_some _ q
  refine ⟨hdo.typeIs, hdo.mapOf.noDict, ?_⟩
  show wpAny _ _ (callWith cpos (.builtin "dict.items") [.ref d] [] []) _ X.xe s1
  refine method_meetsIn F.slot_dict_items F.entry_dict_items rfl (PySem.evalArgs_none ⟨rfl, hdo.typeIs, F.args_dict_items_1 _, _, meets_dict_items (mixKind X.prog X.w) d hs0, ⟨vs, hdo⟩, ?_⟩)
  refine Calls.spliced_nil ?_
  obtain ⟨o, es, ho, hx, hdat, hkeys, hpairs, hnd⟩ := id hat
  have esz : es.size = vs.length := by rw [← Array.length_toList]; exact hpairs.length
  have rawP : DT.Raw (s1.heap.push { cls := .type "dict_items", data := .fields #[.ref d] }) d es ep := ⟨o, Heap.get?_push_of_some _ ho, hx, hdat⟩
  refine DT.sortedI (s := { s1 with heap := s1.heap.push { cls := .type "dict_items", data := .fields #[.ref d] } }) (es := es) (ep := ep) (r := s1.heap.objs.size) (I1.ok.hd hc) ⟨_, Heap.get?_push_size _ rfl, rfl, rfl⟩ rawP (by omega) fun h' tk as hk hlt hl hG => ?_
  have lkk : ks.length = kvs.length := by
    have := congrArg List.length hks
    simpa using this.symm
  have pw : as.Pairwise (· < ·) := hG.rise
  have nd : as.Nodup := pw.imp fun h => Nat.ne_of_lt h
  -- the pairs
  have pr : ∀ (j : Nat) (t : Addr), as[j]? = some t → ∃ (x : Str) (tk : Tok) (y : Value) (qv : Key × V), ks[j]? = some x ∧ kvs[j]? = some qv ∧ qv.1 = Sum.inr x ∧ RelV qv.2 y ∧ h'.get? t = some { cls := .type "tuple", data := .seq #[.str x tk, y] } := by
    intro j t hj
    obtain ⟨en, he2, hg2⟩ := hG.pairs j t hj
    have hjl : j < kvs.length := by
      have := (List.getElem?_eq_some_iff.mp hj).1
      omega
    obtain ⟨kv1, hkv1⟩ : ∃ z, vs[j]? = some z := ⟨_, List.getElem?_eq_getElem (by omega)⟩
    obtain ⟨qv, hqv⟩ : ∃ z, kvs[j]? = some z := ⟨_, List.getElem?_eq_getElem hjl⟩
    obtain ⟨x, hxx⟩ : ∃ z, ks[j]? = some z := ⟨_, List.getElem?_eq_getElem (by omega)⟩
    have e1 : (kvs.map (·.1))[j]? = some qv.1 := by rw [List.getElem?_map, hqv]; rfl
    rw [hks, List.getElem?_map, hxx] at e1
    have e1 : Sum.inr x = qv.1 := Option.some.inj e1
    obtain ⟨qv', g1, g2, g3⟩ := LiI.paired_get kv hqv
    rw [hkv1] at g1
    cases g1
    have pk := Pairs.get? hpairs (i := j) (e := en) (k := kv1.1) (v := kv1.2) (by rw [Array.getElem?_toList]; exact he2) hkv1
    have rk : RelV (kV qv.1) en.key := by
      rw [g2]
      exact relV_key (show L2.keyIs kv1.1 en.key = true from pk.1)
    rw [← e1] at rk
    obtain ⟨tk1, ek⟩ := rk
    refine ⟨x, tk1, en.val, qv, hxx, hqv, e1.symm, ?_, ?_⟩
    · rw [pk.2]; exact g3
    · rw [hg2, ek]
  -- the sort
  have hoL : (h'.push { cls := .type "list", data := .seq (as.map Value.ref).toArray }).get? h'.objs.size = some (seqObj "list" (as.map Value.ref).toArray 0) := Heap.get?_push_size _ rfl
  have ka : ∀ b o, h'.get? b = some o → (h'.push { cls := .type "list", data := .seq (as.map Value.ref).toArray }).get? b = some o := fun b o e => Heap.get?_push_of_some _ e
  have kz : (as.map Value.ref).length ≤ sizeLine := by rw [List.length_map]; omega
  have lt0 : ∀ b o, h'.get? b = some o → b ≠ h'.objs.size := fun b o e => Nat.ne_of_lt (Heap.lt_size e)
  have each : ∀ (as0 : List Addr) (ks0 : List Str), as0.length = ks0.length → (∀ (j : Nat) (t : Addr) (x : Str), as0[j]? = some t → ks0[j]? = some x → PairT (sortingHeap (h'.push { cls := .type "list", data := .seq (as.map Value.ref).toArray }) h'.objs.size (as.map Value.ref)) (.ref t) x) →
      EachIs (fun v x => PairT (sortingHeap (h'.push { cls := .type "list", data := .seq (as.map Value.ref).toArray }) h'.objs.size (as.map Value.ref)) v x) (as0.map Value.ref) ks0 := by
    intro as0
    induction as0 with
    | nil => intro ks0 h _; cases ks0 with
      | nil => exact .nil
      | cons _ _ => cases h
    | cons a as0 ih => intro ks0 h w; cases ks0 with
      | nil => cases h
      | cons k ks0 => exact .cons (w 0 a k rfl rfl) (ih ks0 (Nat.succ.inj h) fun j t x h1 h2 => w (j + 1) t x (by simpa using h1) (by simpa using h2))
  have eI := each as ks (by omega) fun j t x h1 h2 => by
    obtain ⟨x', tk1, y, qv, k1, _, _, _, k5⟩ := pr j t h1
    rw [h2] at k1
    cases k1
    exact ⟨t, _, y, tk1, 0, rfl, sortingHeap_old (lt0 _ _ k5) (ka _ _ k5), rfl, rfl⟩
  have kn : ks.Nodup := by
    have h1 : (kvs.map (·.1)).Nodup := by
      have e : kvs.map (·.1) = vs.map (·.1) := by
        apply List.ext_getElem?
        intro j
        rw [List.getElem?_map, List.getElem?_map]
        cases hj : kvs[j]? with
        | none =>
          have : vs[j]? = none := List.getElem?_eq_none_iff.mpr (by have := List.getElem?_eq_none_iff.mp hj; omega)
          rw [this]; rfl
        | some qv =>
          obtain ⟨qv', g1, g2, _⟩ := LiI.paired_get kv hj
          rw [g1]
          exact congrArg some g2
      rw [e]; exact hnd
    rw [hks] at h1
    exact List.Pairwise.of_map (Sum.inr : Str → Key) (fun a b hne e => hne (congrArg _ e)) h1
  refine wpAny_call_entry slot_list_sort ⟨_, hoL, rfl⟩ entry_list_sort (list_sort_vals hoL (sortsAt_pair eI kn) kz ⟨_, rfl, ?_⟩) (args_list_sort _)
  have zr : ∀ (as0 : List Addr) (ks0 : List Str), as0.length = ks0.length → EachIs (fun (v : Value) (z : Addr × Str) => v = .ref z.1) (as0.map Value.ref) (as0.zip ks0) := by
    intro as0
    induction as0 with
    | nil => intro ks0 _; exact .nil
    | cons a as0 ih => intro ks0 h; cases ks0 with
      | nil => cases h
      | cons k ks0 => exact .cons rfl (ih ks0 (Nat.succ.inj h))
  have zk : ∀ (vs0 : List Value) (as0 : List Addr) (ks0 : List Str), as0.length = ks0.length → EachIs (fun v x => (pairKind (sortingHeap (h'.push { cls := .type "list", data := .seq (as.map Value.ref).toArray }) h'.objs.size (as.map Value.ref)) (as.map Value.ref)).keyOf v = some x.cps.toList) vs0 ks0 → EachIs (fun (v : Value) (z : Addr × Str) => (pairKind (sortingHeap (h'.push { cls := .type "list", data := .seq (as.map Value.ref).toArray }) h'.objs.size (as.map Value.ref)) (as.map Value.ref)).keyOf v = some z.2.cps.toList) vs0 (as0.zip ks0) := by
    intro vs0
    induction vs0 with
    | nil => intro as0 ks0 h e
             cases e
             cases as0 with
             | nil => exact .nil
             | cons _ _ => cases h
    | cons v vs0 ih => intro as0 ks0 h e
                       cases e with
                       | cons r t =>
                         cases as0 with
                         | nil => cases h
                         | cons a as0 => exact .cons r (ih as0 _ (Nat.succ.inj h) t)
  have keys : ∀ (vs0 : List Value) (ks0 : List Str), (∀ v ∈ vs0, v ∈ as.map Value.ref) → EachIs (fun v x => PairT (sortingHeap (h'.push { cls := .type "list", data := .seq (as.map Value.ref).toArray }) h'.objs.size (as.map Value.ref)) v x) vs0 ks0 → EachIs (fun v x => (pairKind (sortingHeap (h'.push { cls := .type "list", data := .seq (as.map Value.ref).toArray }) h'.objs.size (as.map Value.ref)) (as.map Value.ref)).keyOf v = some x.cps.toList) vs0 ks0 := by
    intro vs0 ks0 hm e
    induction e with
    | nil => exact .nil
    | cons r t ih => exact .cons (pairKind_some (hm _ (List.mem_cons_self ..)) r) (ih fun v hv => hm v (List.mem_cons_of_mem _ hv))
  have eS := sortVals_each (κ := pairKind (sortingHeap (h'.push { cls := .type "list", data := .seq (as.map Value.ref).toArray }) h'.objs.size (as.map Value.ref)) (as.map Value.ref)) (rev := false) (fun z : Addr × Str => z.2.cps.toList) (zr as ks (by omega)) (zk (as.map Value.ref) as ks (by omega) (keys _ _ (fun v hv => hv) eI))
  have eR : ∀ {us : List Value} {zs : List (Addr × Str)}, EachIs (fun (v : Value) (z : Addr × Str) => v = .ref z.1) us zs → us = (zs.map (·.1)).map Value.ref := by
    intro us zs e
    induction e with
    | nil => rfl
    | cons r t ih => rw [List.map_cons, List.map_cons, r, ih]
  have eL := eR eS
  rw [show (sortLe (pairKind (sortingHeap (h'.push { cls := .type "list", data := .seq (as.map Value.ref).toArray }) h'.objs.size (as.map Value.ref)) (as.map Value.ref)).toKeyOrd false fun z : Addr × Str => z.2.cps.toList) = (fun (a b : Addr × Str) => leT a.2 b.2) from leT_sort.symm] at eL
  generalize sortVals (pairKind (sortingHeap (h'.push { cls := .type "list", data := .seq (as.map Value.ref).toArray }) h'.objs.size (as.map Value.ref)) (as.map Value.ref)) false (as.map Value.ref) (as.map Value.ref) = out at eL
  obtain ⟨c, hc⟩ := sortedHeap_at (vs := as.map Value.ref) (out := out.toArray) hoL
  have old : ∀ b o, h'.get? b = some o → (sortedHeap (h'.push { cls := .type "list", data := .seq (as.map Value.ref).toArray }) h'.objs.size (as.map Value.ref) out.toArray).get? b = some o := fun b o e => by
    have hlt := Heap.lt_size e
    rw [sortedHeap_old (Nat.ne_of_lt hlt) (by rw [size_push']; exact Nat.lt_succ_of_lt hlt)]
    exact Heap.get?_push_of_some _ e
  have hlen : (((as.zip ks).mergeSort fun a b => leT a.2 b.2).map (·.1)).length = as.length := by
    rw [List.length_map, List.length_mergeSort, List.length_zip]; omega
  obtain ⟨H', k1, k2, k3, k4, k5, k6, J⟩ := pairs_laidP (tk := tk) (ps := kvs.map fun q => (kV q.1, q.2)) (as := as) (as' := ((as.zip ks).mergeSort fun a b => leT a.2 b.2).map (·.1)) I2 (by rw [List.length_map]; exact hz) (Nat.le_of_lt hlt) (fun t ht => Nat.le_of_lt (hG.above t ht)) (fun z => by
      obtain ⟨j, hj⟩ := List.mem_iff_getElem?.mp z
      obtain ⟨_, _, _, _, _, _, _, _, h5⟩ := pr j _ hj
      exact Nat.lt_irrefl _ (Heap.lt_size h5)) nd (fun b o e => old b o (hk b o e)) hc (by rw [List.length_map]; omega) (fun j t hj => by
      obtain ⟨x, tk1, y, qv, g1, g2, g3, g4, g5⟩ := pr j t hj
      refine ⟨_, _, ⟨(kV qv.1, qv.2), by rw [List.getElem?_map, g2]; rfl, ?_, g4⟩, old _ _ g5⟩
      rw [g3]
      exact ⟨tk1, rfl⟩) (by simpa using eL) hlen
  refine ⟨.ref _, H', J, rfl, q H' _ as (by omega) k1 k2 k3 k4 ?_ k6⟩
  rw [k5, List.map_map]
  rfl
end
end EV
end
section
set_option Elab.async false
set_option linter.all false
set_option maxRecDepth 100000
/-! Ev38: sorted(d.items()), as the evaluator has it. -/
namespace EV
open PySem PySem.Spec PyProof.Rows L2
def txtK : List (Key × PV) → Option (List (Str × PV))
  | [] => some []
  | (.inr x, v) :: r => (txtK r).map ((x, v) :: ·)
  | _ => none
theorem txtK_inv : ∀ {kps : List (Key × PV)} {l : List (Str × PV)}, txtK kps = some l → kps = l.map fun q => (Sum.inr q.1, q.2)
  | [], _, h => by cases h; rfl
  | (k, v) :: r, l, h => by
    cases k with
    | inl i => cases h
    | inr x =>
      simp only [txtK] at h
      cases e : txtK r with
      | none => rw [e] at h; cases h
      | some zs => rw [e] at h; cases h; rw [txtK_inv e]; rfl
theorem txtK_map : ∀ l : List (Str × PV), txtK (l.map fun q => ((Sum.inr q.1 : Key), q.2)) = some l
  | [] => rfl
  | x :: r => by simp [txtK, txtK_map r]
/-- pairs, rising by their texts -/
def sortK (l : List (Str × PV)) : List (Str × PV) := l.mergeSort fun a b => leT a.1 b.1
def bSortItems (ob : Bool) (ps : List PV) (G : GH) : Res PV := match ps with
  | [.obj n] => match G[n]? with
    | some (.dic kps) => match txtK kps with
      | some l => mkL ob ((sortK l).map fun q => .tup [.str q.1, q.2]) G
      | none => .bad
    | _ => .bad
  | _ => .bad
section
variable {X : Cx} {F : Fx} {Ex : XK} {n : Nat}
theorem reps_maps {α : Type} {μ : Mu} {H : Hp} (f : α → PV) (h : α → V) : ∀ {bs : List α}, (∀ b ∈ bs, Rep F μ H (f b) (h b)) → Reps F μ H (bs.map f) (bs.map h)
  | [], _ => .nil
  | b :: bs, w => .cons (w b (List.mem_cons_self ..)) (reps_maps f h fun c hc => w c (List.mem_cons_of_mem _ hc))
theorem pairs_each {μ' : Mu} {H' : Hp} : ∀ {ts : List Addr} {l : List (Str × PV)} {kvs : List (Key × V)}, Paired (fun (p : Key × PV) (q : Key × V) => p.1 = q.1 ∧ Rep F μ' H' p.2 q.2) (l.map fun q => ((Sum.inr q.1 : Key), q.2)) kvs → (∀ t ∈ ts, μ'.free t) → Paired (FzP H') ts (kvs.map fun q => (kV q.1, q.2)) →
    ∀ b ∈ ts.zip l, Rep F μ' H' (.tup [.str b.2.1, b.2.2]) (.ref b.1)
  | [], l, kvs, _, _, _, b, hb => by cases hb
  | t :: ts, [], kvs, _, _, _, b, hb => by cases hb
  | t :: ts, (x, v) :: l, kvs, r, f, pr, b, hb => by
    cases r with
    | cons r1 rr =>
      rename_i q1 qs
      rw [List.map_cons] at pr
      cases pr with
      | cons h1 hh =>
        rw [List.zip_cons_cons] at hb
        rcases List.mem_cons.mp hb with rfl | hb
        · obtain ⟨e1, r2⟩ := r1
          have e1 : Sum.inr x = q1.1 := e1
          simp only [Rep]
          refine ⟨t, [kV q1.1, q1.2], rfl, by show 2 ≤ sizeLine; decide, .inl ⟨f t (List.mem_cons_self ..), h1⟩, .cons ?_ (.one r2)⟩
          rw [← e1]
          simp only [Rep]
          rfl
        · exact pairs_each rr (fun u hu => f u (List.mem_cons_of_mem _ hu)) hh b hb
theorem gsortItems (g : GX X F Ex n) (ob : Bool) {e : Expr} {p apos cpos pos : Pos} {m : Env → GH → Res PV} (hm : X.mg "sorted" = none) (ha : PE X e (TEv F Ex m)) (hg : X.env.kindOf "sorted" = some .globalImplicit := by kernel_rfl)
    (hbase : attributeBase e "items" X.env (eval e X.env) = eval e X.env := by rfl) (hline : (apos.endLine == cpos.line) = true := by kernel_rfl) :
    PE X (.Call (.Name "sorted" p) [.Call (.Attribute e "items" apos) [] [] cpos] [] pos) (TEv F Ex (mA (mCons m mNil) (bSortItems ob))) := by
  refine (pe_sortItems g.calm ha hg hm hbase hline).weak fun σ H Q ⟨μ, ρ, G, sr, gr, q⟩ => ?_
  unfold mA mCons mNil at q
  rw [Res.bind_assoc] at q
  refine TEv.run sr gr q fun μ1 a G1 v H1 e1 r1 g1 s1 p1 => ?_
  simp only [Res.bind_ok] at p1
  unfold bSortItems at p1
  split at p1
  · rename_i k hk
    cases hk
    split at p1
    · rename_i kps hkps
      split at p1
      · rename_i l hl
        have el := txtK_inv hl
        subst el
        simp only [Rep] at r1
        obtain ⟨d, rfl, hd⟩ := r1
        obtain ⟨kvs, hH, hz, rk⟩ := g1.obj _ d _ hd hkps
        have len : (l.map fun q => ((Sum.inr q.1 : Key), q.2)).length = kvs.length := Paired.length rk
        rw [List.length_map] at len
        have keys : kvs.map (·.1) = (l.map (·.1)).map Sum.inr := by
          have : ∀ {l : List (Str × PV)} {kvs : List (Key × V)}, Paired (fun (p : Key × PV) (q : Key × V) => p.1 = q.1 ∧ Rep F μ1 H1 p.2 q.2) (l.map fun q => ((Sum.inr q.1 : Key), q.2)) kvs → kvs.map (·.1) = (l.map (·.1)).map Sum.inr := by
            intro l
            induction l with
            | nil => intro kvs h; cases h; rfl
            | cons x l ih =>
              intro kvs h
              cases h with
              | cons r t =>
                have e := r.1
                rw [List.map_cons, List.map_cons, List.map_cons, ih t, ← e]
          exact this rk
        refine ⟨d, kvs, l.map (·.1), rfl, hH, keys, fun H' pp ts hlen k1 h3 h4 h5 h6 h7 => mkL_new p1 g1 k1 h3 h6 fun μ' f1 f2 f3 => ?_⟩
        have c := chg_new (F := F) (μ := μ1) k1 h3 f1 f3
        have rk' : Paired (fun (p : Key × PV) (q : Key × V) => p.1 = q.1 ∧ Rep F μ' H' p.2 q.2) (l.map fun q => ((Sum.inr q.1 : Key), q.2)) kvs := Paired.mapP rk fun _ _ x => ⟨x.1, x.2.chg c⟩
        have each := pairs_each rk' (fun t ht => f2 t (h4 t ht) fun z => h5 (z ▸ ht)) h7
        have z1 : ts.zip (l.map (·.1)) = (ts.zip l).map fun b => (b.1, b.2.1) := by
          rw [List.zip_map_right]
          rfl
        have z2 : l = (ts.zip l).map (·.2) := by
          rw [List.map_snd_zip (by omega)]
        have w1 : (ts.zip (l.map (·.1))).mergeSort (fun a b => leT a.2 b.2) = ((ts.zip l).mergeSort fun a b => leT a.2.1 b.2.1).map fun b => (b.1, b.2.1) := by
          rw [z1]
          exact (List.map_mergeSort (f := fun b : Addr × Str × PV => (b.1, b.2.1)) (r := fun a b => leT a.2.1 b.2.1) (s := fun a b => leT a.2 b.2) (fun _ _ _ _ => rfl)).symm
        have w2 : sortK l = ((ts.zip l).mergeSort fun a b => leT a.2.1 b.2.1).map (·.2) := by
          unfold sortK
          conv => lhs; rw [z2]
          exact (List.map_mergeSort (f := fun b : Addr × Str × PV => b.2) (r := fun a b => leT a.2.1 b.2.1) (s := fun a b => leT a.1 b.1) (fun _ _ _ _ => rfl)).symm
        rw [w1, w2, List.map_map, List.map_map]
        exact reps_maps _ _ fun b hb => each b ((List.mergeSort_perm _ _).mem_iff.mp hb)
      · exact (show False from p1).elim
    · exact (show False from p1).elim
  · exact (show False from p1).elim
end
end EV
end
section
set_option Elab.async false
set_option linter.all false
set_option maxRecDepth 100000
/-! Ev39: a written dict with texts as keys: x in D, D[x]. -/
namespace EV
open PySem PySem.Spec PyProof.Rows L2
def getS (kvs : List (Str × PV)) (z : Str) : Option PV := (kvs.find? fun q => decide (q.1 = z)).map (·.2)
/-- a written dict, known by its name -/
structure DctOf (K : PySem.W.Frag) (w : World) (mg : Str → Option Value) (x : Str) (kvs : List (Str × PV)) : Prop where
  ex : ∃ d es n, mg x = some (.ref d) ∧ KDict K w d es n ∧ ∀ z, match getS kvs z with
    | some p => ∃ u, PySem.W.nsIn K d z = some (some u) ∧ readB K p u = true
    | none => PySem.W.nsIn K d z = some none
section
variable {X : Cx} {F : Fx} {Ex : XK} {n : Nat}
end
end EV
end
section
set_option Elab.async false
set_option linter.all false
set_option maxRecDepth 100000
/-! Ev40: list * number. -/
namespace EV
open PySem PySem.Spec PyProof.Rows L2
section
variable {X : Cx} {F : Fx} {Ex : XK} {n : Nat}
end
end EV
end
section
/-! Ev41: sum(numbers, start=k). The loop's proof is the library's own on sum, turned to another start. -/
set_option Elab.async false
set_option linter.all false
set_option maxRecDepth 100000
set_option maxHeartbeats 1000000
namespace EV.SumS
open PySem PySem.Spec PyProof.Rows
open Sem (wp)
section
variable {prog : Program} {w : World} {A : Around} {R : Result → Shared → Prop} {I : Addr} {fp wr : List Addr} {n : Nat} {P : Nat → Value → Prop} {St : Nat → Heap → Prop}
end
section
variable {prog : Program} {w : World} {A : Around} {E : Value → Shared → Prop} {s : Shared}
end
end EV.SumS
namespace EV
open PySem PySem.Spec PyProof.Rows L2
section
variable {X : Cx} {F : Fx} {Ex : XK} {n : Nat}
end
end EV
end
section
set_option Elab.async false
set_option linter.all false
set_option maxRecDepth 100000
/-! Ev42: x, y, z = a, b, c with plain locals. -/
namespace EV
open PySem PySem.Spec PyProof.Rows L2
section
variable {X : Cx} {F : Fx} {Ex : XK} {n : Nat} {a b c : Expr}
end
end EV
end
section
set_option Elab.async false
set_option linter.all false
set_option maxRecDepth 100000
/-! Ev43: sorted(d) of a small dict of texts; {text: value, ..}. -/
namespace EV
open PySem PySem.Spec PyProof.Rows L2
section
variable {X : Cx} {F : Fx} {Ex : XK} {n : Nat}
/-! ### {text: value, ..} -/
def dkeys {α : Type} (ks : List Str) (vs : List α) : List (Key × α) := (ks.zip vs).map fun q => (Sum.inr q.1, q.2)
structure DPs (X : Cx) (F : Fx) (Ex : XK) (pos : Pos) (keys : List (Option Expr)) (values : List Expr) (ks : List Str) (ms : Env → GH → Res (List PV)) : Prop where
  ex : ∃ trs, PPs X pos keys values trs ∧ ∀ {σ : L2.St} {H : Hp} {μ : Mu} {ρ : Env} {G : GH} {Q : List (V × V) → Hp → Prop} {f : List PV → GH → Res PV} {Q2 : V → Hp → Prop},
    SRel F μ H ρ σ → HRep F μ H G → Post F (RV F) Ex μ H ((ms ρ G).bind f) Q2 →
    (∀ μ1 vs G1 ws H1, Ext μ μ1 H H1 → Reps F μ1 H1 vs ws → HRep F μ1 H1 G1 → ws.length = ks.length → Post F (RV F) Ex μ1 H1 (f vs G1) Q2 → Q ((dkeys ks ws).map fun kv => (kV kv.1, kv.2)) H1) → tPairs trs σ H Q
end
end EV
end
section
set_option Elab.async false
set_option linter.all false
set_option maxRecDepth 100000
/-! Ev44: x = f if c else g; return a and b and x(e): an own def by a local name. -/
namespace EV
open PySem PySem.Spec PyProof.Rows L2
section
variable {X : Cx} {F : Fx} {Ex : XK} {n : Nat}
end
end EV
end
section
set_option Elab.async false
set_option linter.all false
set_option maxRecDepth 100000
set_option maxHeartbeats 1000000
/-! Ev45: zip(a, b) of two lists, walked. -/
namespace EV
open PySem PySem.Spec PyProof.Rows L2 RZ Zs
section
variable {X : Cx} {F : Fx} {Ex : XK} {n : Nat}
end
end EV
end
section
set_option Elab.async false
set_option linter.all false
set_option maxRecDepth 100000
set_option maxHeartbeats 1000000
/-! Ev46: enumerate(list) walked; d.get, d.pop, d.update. -/
namespace EV
open PySem PySem.Spec PyProof.Rows L2 RZ Zs
/-! ### enumerate(list) -/
section
variable {X : Cx} {F : Fx} {Ex : XK} {n : Nat}
end
end EV
end
section
set_option Elab.async false
set_option linter.all false
set_option maxRecDepth 100000
set_option maxHeartbeats 1000000
/-! Ev47: d.get(k), d.get(k, x), d.pop(k), d.pop(k, x), d.update(e). -/
namespace EV
open PySem PySem.Spec PyProof.Rows L2
def fGet (o : PV) (xs : List PV) (G : GH) : Res PV := match o, xs with
  | .obj n, [k] => match G[n]? with
    | some (.dic kps) => match keyP k with
      | some kk => .ok ((getP kps kk).getD .non) G
      | none => .bad
    | _ => .bad
  | .obj n, [k, x] => match G[n]? with
    | some (.dic kps) => match keyP k with
      | some kk => .ok ((getP kps kk).getD x) G
      | none => .bad
    | _ => .bad
  | _, _ => .bad
def dropD (kps : List (Key × PV)) (k : Key) : List (Key × PV) := kps.filter fun q => decide (q.1 ≠ k)
def fPopD (o : PV) (xs : List PV) (G : GH) : Res PV := match o, xs with
  | .obj n, [k] => match G[n]? with
    | some (.dic kps) => match keyP k with
      | some kk => match getP kps kk with
        | some v => .ok v (G.set n (.dic (dropD kps kk)))
        | none => .bad
      | none => .bad
    | _ => .bad
  | .obj n, [k, x] => match G[n]? with
    | some (.dic kps) => match keyP k with
      | some kk => match getP kps kk with
        | some v => .ok v (G.set n (.dic (dropD kps kk)))
        | none => .ok x G
      | none => .bad
    | _ => .bad
  | _, _ => .bad
section
variable {X : Cx} {F : Fx} {Ex : XK} {n : Nat} {μ : Mu} {H : Hp} {G : GH}
theorem getD_rep {kps : List (Key × PV)} {kvs : List (Key × V)} {k : Key} {x : PV} {d : V} (r : RepK F μ H kps kvs) (rx : Rep F μ H x d) : Rep F μ H ((getP kps k).getD x) ((valV kvs k).getD d) := by
  cases e : getP kps k with
  | none => rw [(RepK.get r).2 e]; exact rx
  | some p =>
    obtain ⟨v, h1, h2⟩ := (RepK.get r).1 p e
    rw [h1]; exact h2
theorem rep_nonR : Rep F μ H .non .non := by simp only [Rep]
theorem fGet_ok (hu : X.A.units + 1 < cLine) : MtR X "dict.get" (RdM F Ex fGet) := by
  intro pins s σ H x xs v us Q I rx rs ⟨μ, o, ps, G, r, rr, g, p⟩
  unfold fGet at p
  split at p
  · obtain ⟨a, rfl, ha⟩ := rep_obj r
    obtain ⟨w, rfl, r1⟩ := Reps.one_inv rr
    split at p
    · rename_i kps eo
      split at p
      · rename_i kk ek
        obtain ⟨kvs, q, z, rk⟩ := g.obj _ a _ ha eo
        obtain rfl : v = .ref a := rx
        cases rs with
        | cons r0 r00 =>
          cases r00
          refine d_get1 (o := valV kvs kk) hu I (.inl ⟨kvs, kk, .inl q, keyP_rep ek r1, rfl⟩) r0 fun w' s' I' rw' => ⟨_, H, I', rw', ?_⟩
          exact p.here (getD_rep rk rep_nonR) g
      · exact (show False from p).elim
    · exact (show False from p).elim
  · obtain ⟨a, rfl, ha⟩ := rep_obj r
    obtain ⟨w, w2, rfl, r1, r2⟩ := Reps.two_inv rr
    split at p
    · rename_i kps eo
      split at p
      · rename_i kk ek
        obtain ⟨kvs, q, z, rk⟩ := g.obj _ a _ ha eo
        obtain rfl : v = .ref a := rx
        cases rs with
        | cons r0 r00 =>
          cases r00 with
          | cons r3 r30 =>
            cases r30
            refine d_get2 (o := valV kvs kk) hu I (.inl ⟨kvs, kk, .inl q, keyP_rep ek r1, rfl⟩) r0 r3 fun w' s' I' rw' => ⟨_, H, I', rw', ?_⟩
            exact p.here (getD_rep rk r2) g
      · exact (show False from p).elim
    · exact (show False from p).elim
  · exact (show False from p).elim
theorem RepK.drop {k : Key} : ∀ {kps : List (Key × PV)} {kvs : List (Key × V)}, RepK F μ H kps kvs → RepK F μ H (dropD kps k) (dropK kvs k)
  | [], kvs, r => by
    have r : Paired _ _ _ := r
    cases r; exact Paired.nil
  | q :: kps, kvs, r => by
    have r : Paired _ _ _ := r
    cases r with
    | cons h t =>
      rename_i w kvs
      have ih := RepK.drop (k := k) (kps := kps) (kvs := kvs) t
      unfold dropD dropK at *
      rw [List.filter_cons, List.filter_cons]
      by_cases e : q.1 = k
      · have e2 : w.1 = k := by rw [← h.1]; exact e
        simp only [e, e2, ne_eq, not_true_eq_false, decide_false, Bool.false_eq_true, if_false]
        exact ih
      · have e2 : ¬ w.1 = k := by rw [← h.1]; exact e
        simp only [e, e2, ne_eq, not_false_eq_true, decide_true, if_true]
        exact Paired.cons h ih
theorem Post.wrD {n : Nat} {p : PV} {kps : List (Key × PV)} {kvs : List (Key × V)} {a : Addr} {v : V} {Q : VK} (h : Post F (RV F) Ex μ H (.ok p (G.set n (.dic kps))) Q) (g : HRep F μ H G) (ha : μ.ob[n]? = some a) (r : RepK F μ H kps kvs) (z : kvs.length ≤ sizeLine) (rp : Rep F μ H p v) : Q v (upd H a (.dK kvs)) := by
  have m := List.mem_of_getElem? ha
  have e : Ext μ μ H (upd H a (.dK kvs)) := Ext.write m
  exact h.ok e (show Rep F μ _ p v from rp.mono e) (g.write ha ⟨kvs, upd_same, z, RepK.mono e r⟩)
theorem fPopD_ok : MtR X "dict.pop" (RdM F Ex fPopD) := by
  intro pins s σ H x xs v us Q I rx rs ⟨μ, o, ps, G, r, rr, g, p⟩
  unfold fPopD at p
  split at p
  · obtain ⟨a, rfl, ha⟩ := rep_obj r
    obtain ⟨w, rfl, r1⟩ := Reps.one_inv rr
    split at p
    · rename_i kps eo
      split at p
      · rename_i kk ek
        split at p
        · rename_i y ey
          obtain ⟨kvs, q, z, rk⟩ := g.obj _ a _ ha eo
          obtain rfl : v = .ref a := rx
          obtain ⟨v', h1, h2⟩ := (RepK.get rk).1 y ey
          cases rs with
          | cons r0 r00 =>
            cases r00
            rw [keyP_rep ek r1] at r0
            exact d_pop I q r0 h1 (.inl rfl) fun w' s' I' rw' => ⟨_, _, I', rw', p.wrD g ha (RepK.drop rk) (Nat.le_trans (dropK_le kvs kk) (by have := RepK.length rk; omega)) h2⟩
        · exact (show False from p).elim
      · exact (show False from p).elim
    · exact (show False from p).elim
  · obtain ⟨a, rfl, ha⟩ := rep_obj r
    obtain ⟨w, w2, rfl, r1, r2⟩ := Reps.two_inv rr
    split at p
    · rename_i kps eo
      split at p
      · rename_i kk ek
        obtain ⟨kvs, q, z, rk⟩ := g.obj _ a _ ha eo
        obtain rfl : v = .ref a := rx
        cases rs with
        | cons r0 r00 =>
          cases r00 with
          | cons r3 r30 =>
            cases r30
            rw [keyP_rep ek r1] at r0
            split at p
            · rename_i y ey
              obtain ⟨v', h1, h2⟩ := (RepK.get rk).1 y ey
              exact d_pop I q r0 h1 (.inr ⟨_, rfl⟩) fun w' s' I' rw' => ⟨_, _, I', rw', p.wrD g ha (RepK.drop rk) (Nat.le_trans (dropK_le kvs kk) (by have := RepK.length rk; omega)) h2⟩
            · rename_i ey
              exact d_popD I q r0 ((RepK.get rk).2 ey) fun s' I' => ⟨_, H, I', r3, p.here r2 g⟩
      · exact (show False from p).elim
    · exact (show False from p).elim
  · exact (show False from p).elim
end
end EV
end
section
set_option Elab.async false
set_option linter.all false
set_option maxRecDepth 100000
set_option maxHeartbeats 1000000
/-! Ev48: a written dict of own defs: x = D[k]; return x(e). -/
namespace EV
open PySem PySem.Spec PyProof.Rows L2
def getN {α : Type} (kvs : List (Str × α)) (z : Str) : Option α := (kvs.find? fun q => decide (q.1 = z)).map (·.2)
structure FctOf (K : PySem.W.Frag) (w : World) (mg : Str → Option Value) (x : Str) (kvs : List (Str × Str)) : Prop where
  ex : ∃ d es n, mg x = some (.ref d) ∧ KDict K w d es n ∧ ∀ z nm, getN kvs z = some nm → ∃ a, PySem.W.nsIn K d z = some (some (.ref a)) ∧ mg nm = some (.ref a)
section
variable {X : Cx} {F : Fx} {Ex : XK} {n : Nat}
end
end EV
end
section
set_option Elab.async false
set_option linter.all false
set_option maxRecDepth 100000
set_option maxHeartbeats 1000000
/-! Ev49: zip(a, b) of lists, tuples, texts in any mix, walked (over the library's Draws). -/
namespace EV
open PySem PySem.Spec PyProof.Rows L2
/-- what is zipped -/
inductive ZK where
  | tup (a : Addr)
  | lst (a : Addr)
  | txt (x : Str) (t : Tok)
def signV (x : Str) : List V := x.cps.toList.map fun c => V.str ⟨#[c]⟩
def ZK.val : ZK → Value
  | .tup a => .ref a
  | .lst a => .ref a
  | .txt x t => .str x t
def ZK.St (k : ZK) (it : Addr) (i : Nat) (h : Heap) : Prop := match k with
  | .tup a => h.IsTupleIter it a i
  | .lst a => h.IsListIter it a i
  | .txt x t => h.IsStrIter it (strIterType x) x t i
/-- told at what is tracked -/
inductive ZV where
  | tup (a : Addr)
  | lst (a : Addr)
  | txt (x : Str)
def ZV.has (K : PySem.W.Frag) (H : Hp) (k : ZV) (vs : List V) : Prop := match k with
  | .tup a => SqT K H a vs
  | .lst a => SqL K H a vs
  | .txt x => vs = signV x
def ZV.v : ZV → V
  | .tup a => .ref a
  | .lst a => .ref a
  | .txt x => .str x
def ZK.of : ZK → ZV
  | .tup a => .tup a
  | .lst a => .lst a
  | .txt x _ => .txt x
section
variable {X : Cx} {pins : List (Addr × Obj)} {σ : L2.St} {H : Hp} {s : Shared} {A : Around}
end
/-- the cells of a zip lie apart -/
structure ZAp (z TI TO i1 i2 : Addr) (l1 l2 : List Addr) : Prop where
  ne : [z, TI, TO, i1, i2].Nodup
  n1 : ∀ a ∈ l1, a ∉ [z, TI, TO, i1, i2]
  n2 : ∀ a ∈ l2, a ∉ [z, TI, TO, i1, i2]
theorem ZAp.sep {z TI TO i1 i2 : Addr} {l1 l2 : List Addr} (D : ZAp z TI TO i1 i2 l1 l2) : ZipSep2 z TI TO i1 i2 (i1 :: l1) (i2 :: l2) := by
  obtain ⟨ne, n1, n2⟩ := D
  simp only [List.nodup_cons, List.mem_cons, List.not_mem_nil, or_false, not_or, List.nodup_nil, and_true, not_false_eq_true] at ne n1 n2
  obtain ⟨⟨a1, a2, a3, a4⟩, ⟨b1, b2, b3⟩, ⟨c1, c2⟩, d1⟩ := ne
  refine ⟨Ne.symm a1, Ne.symm a2, b1, b2, List.mem_cons_self .., ?_, ?_, b3, List.mem_cons_self .., ?_, ?_, ?_, ?_⟩
  · intro h; rcases List.mem_cons.mp h with h | h
    · exact a3 h
    · exact (n1 _ h).1 rfl
  · intro h; rcases List.mem_cons.mp h with h | h
    · exact c1 h
    · exact (n1 _ h).2.2.1 rfl
  · intro h; rcases List.mem_cons.mp h with h | h
    · exact a4 h
    · exact (n2 _ h).1 rfl
  · intro h; rcases List.mem_cons.mp h with h | h
    · exact c2 h
    · exact (n2 _ h).2.2.1 rfl
  · intro h; rcases List.mem_cons.mp h with h | h
    · exact d1 h
    · exact (n2 _ h).2.2.2.1 rfl
  · intro h; rcases List.mem_cons.mp h with h | h
    · exact d1 h.symm
    · exact (n1 _ h).2.2.2.2 rfl
section
variable {X : Cx} {F : Fx} {Ex : XK} {n : Nat}
def ZSt (F : Fx) (μ : Mu) (H : Hp) (k : ZV) (vs : List V) : Prop := match k with
  | .tup a => StT F μ H a vs
  | .lst a => StL F μ H a vs
  | .txt x => vs = signV x
theorem ZSt.has {μ μ1 : Mu} {H H1 : Hp} {k : ZV} {vs : List V} (st : ZSt F μ H k vs) (e : Chg F μ μ1 H H1) : k.has F.K H1 vs := by
  cases k with
  | tup a => exact (e.t _ _ st).sq
  | lst a => exact (e.l _ _ st).sq
  | txt x => exact st
end
end EV
end
section
set_option Elab.async false
set_option linter.all false
set_option maxRecDepth 100000
/-! Ev50: x not in D of a written dict. -/
namespace EV
open PySem PySem.Spec PyProof.Rows L2
section
variable {X : Cx} {F : Fx} {Ex : XK} {n : Nat}
end
end EV
end
section
set_option Elab.async false
set_option linter.all false
set_option maxRecDepth 100000
/-! Ev51: sorted(xs) of alike data, any kind (texts, numbers, tuples of these), as the evaluator has it. -/
namespace EV
open PySem PySem.Spec PyProof.Rows L2
section
variable {X : Cx} {F : Fx} {Ex : XK} {n : Nat}
end
end EV
end
section
set_option Elab.async false
set_option linter.all false
set_option maxRecDepth 100000
/-! Ev53: list(d): the keys of a dict of texts. -/
namespace EV
open PySem PySem.Spec PyProof.Rows L2
section
variable {X : Cx} {F : Fx} {Ex : XK} {n : Nat}
end
section
variable {P : Program} {w : World} {K : PySem.W.Frag} {mg : Str → Option Value} {base : Heap} {F : Fx} {n : Nat}
/-! defs known by another name than their own (from Ev12) -/
end
end EV
end
section
/-! N0: what is wanted of an end, for the simplifier; data that repr and == can take; loops by what stays. -/
set_option Elab.async false
set_option linter.all false
set_option maxRecDepth 100000
namespace EV.NV
open PySem PySem.Spec PyProof.Rows L2
/-! ### wanted of an end -/
class Pst (α : Type) where
  q : α → GH → Prop
@[irreducible] def wq {α : Type} (r : Res α) [p : Pst α] : Prop := match r with
  | .ok a G => p.q a G
  | _ => False
@[simp] theorem wq_ok {α : Type} (a : α) (G : GH) (Q : α → GH → Prop) : @wq α (.ok a G) ⟨Q⟩ = Q a G := by unfold wq; rfl
@[simp] theorem wq_bad {α : Type} (Q : α → GH → Prop) : @wq α .bad ⟨Q⟩ = False := by unfold wq; rfl
theorem wq_exc {α : Type} (c : Nat) (fs : List (Str × PV)) (G : GH) (Q : α → GH → Prop) : @wq α (.exc c fs G) ⟨Q⟩ = False := by unfold wq; rfl
@[simp ↓] theorem wq_bind {α β : Type} (r : Res α) (f : α → GH → Res β) (Q : β → GH → Prop) : @wq β (r.bind f) ⟨Q⟩ = @wq α r ⟨fun a G => @wq β (f a G) ⟨Q⟩⟩ := by
  cases r with
  | ok a G => rw [wq_ok]; rfl
  | exc c fs G => rw [wq_exc]; exact wq_exc c fs G Q
  | bad => rw [wq_bad]; exact wq_bad Q
theorem wq_use {α : Type} {r : Res α} {P Q : α → GH → Prop} (h : @wq α r ⟨P⟩) (k : ∀ a G, P a G → Q a G) : @wq α r ⟨Q⟩ := by
  cases r with
  | ok a G => rw [wq_ok] at h ⊢; exact k a G h
  | exc => rw [wq_exc] at h; exact h.elim
  | bad => rw [wq_bad] at h; exact h.elim
theorem wq_eq {α : Type} {r : Res α} {a : α} {G : GH} {Q : α → GH → Prop} (e : r = .ok a G) (k : Q a G) : @wq α r ⟨Q⟩ := by rw [e, wq_ok]; exact k
theorem wq_ex {α : Type} {r : Res α} {P : α → GH → Prop} (h : @wq α r ⟨P⟩) : ∃ a G, r = .ok a G ∧ P a G := by
  cases r with
  | ok a G => rw [wq_ok] at h; exact ⟨a, G, rfl, h⟩
  | exc => rw [wq_exc] at h; exact h.elim
  | bad => rw [wq_bad] at h; exact h.elim
/-! ### data that repr can take -/
mutual
def fitX : PV → Bool
  | .obj _ => false
  | .int i => decide (i.natAbs < 10 ^ 60)
  | .str x => PyData.strOk x && decide (x.cps.size ≤ 4000)
  | .tup ps => fitXs ps
  | .lst ps => fitXs ps
  | .sls ps => fitXs ps
  | _ => true
def fitXs : List PV → Bool
  | [] => true
  | p :: ps => fitX p && fitXs ps
end
theorem fitXs_all : ∀ ps : List PV, fitXs ps = ps.all fitX
  | [] => rfl
  | p :: ps => by rw [fitXs, List.all_cons, fitXs_all ps]
theorem fitXs_mem {ps : List PV} (h : fitXs ps = true) : ∀ p ∈ ps, fitX p = true := by
  rw [fitXs_all, List.all_eq_true] at h; exact h
theorem fitXs_of {ps : List PV} (h : ∀ p ∈ ps, fitX p = true) : fitXs ps = true := by
  rw [fitXs_all, List.all_eq_true]; exact h
mutual
theorem dat_of_fitX : ∀ {p : PV}, fitX p = true → datB p = true
  | .obj _, h => by simp [fitX] at h
  | .tup ps, h => by simp only [datB]; exact dats_of_fitX (by simpa only [fitX] using h)
  | .lst ps, h => by simp only [datB]; exact dats_of_fitX (by simpa only [fitX] using h)
  | .sls ps, h => by simp only [datB]; exact dats_of_fitX (by simpa only [fitX] using h)
  | .non, _ => by simp only [datB]
  | .bl _, _ => by simp only [datB]
  | .int _, _ => by simp only [datB]
  | .str _, _ => by simp only [datB]
theorem dats_of_fitX : ∀ {ps : List PV}, fitXs ps = true → datBs ps = true
  | [], _ => by simp only [datBs]
  | p :: ps, h => by
    simp only [fitXs, Bool.and_eq_true] at h
    simp only [datBs, Bool.and_eq_true]
    exact ⟨dat_of_fitX h.1, dats_of_fitX h.2⟩
end
theorem int_logX {i : Int} (h : i.natAbs < 10 ^ 60) : i.natAbs.log2 + 1 ≤ 200 := by
  by_cases z : i.natAbs = 0
  · rw [z]; decide
  · have : i.natAbs.log2 < 200 := (Nat.log2_lt z).mpr (Nat.lt_trans h (by decide))
    omega
mutual
theorem fit_layX : ∀ {p : PV}, fitX p = true → (dOf p).canLay0 = true ∧ (dOf p).weight ≤ wgt p ∧ (dOf p).depth ≤ dep p ∧ (dOf p).showable = true ∧ (dOf p).hasDict = false ∧ (dOf p).intsShort 61 = true
  | .obj _, h => by simp [fitX] at h
  | .tup ps, h => by
    have q := fits_layX (ps := ps) (by simpa only [fitX] using h)
    simp only [dOf, PyData.canLay0, PyData.weight, PyData.depth, PyData.showable, PyData.hasDict, PyData.intsShort, wgt, dep]
    exact ⟨q.1, q.2.1, by omega, q.2.2.2⟩
  | .lst ps, h => by
    have q := fits_layX (ps := ps) (by simpa only [fitX] using h)
    simp only [dOf, PyData.canLay0, PyData.weight, PyData.depth, PyData.showable, PyData.hasDict, PyData.intsShort, wgt, dep]
    exact ⟨q.1, q.2.1, by omega, q.2.2.2⟩
  | .sls ps, h => by
    have q := fits_layX (ps := ps) (by simpa only [fitX] using h)
    simp only [dOf, PyData.canLay0, PyData.weight, PyData.depth, PyData.showable, PyData.hasDict, PyData.intsShort, wgt, dep]
    exact ⟨q.1, q.2.1, by omega, q.2.2.2⟩
  | .non, _ => by simp [dOf, PyData.canLay0, PyData.weight, PyData.depth, PyData.showable, PyData.hasDict, PyData.intsShort, wgt, dep]
  | .bl _, _ => by simp [dOf, PyData.canLay0, PyData.weight, PyData.depth, PyData.showable, PyData.hasDict, PyData.intsShort, wgt, dep]
  | .int i, h => by
    have h : i.natAbs < 10 ^ 60 := by simpa only [fitX, decide_eq_true_eq] using h
    have l := int_logX h
    simp only [dOf, PyData.canLay0, PyData.weight, PyData.depth, PyData.showable, PyData.hasDict, PyData.intsShort, wgt, dep, decide_eq_true_eq]
    refine ⟨trivial, by split <;> omega, by omega, by omega, trivial, ?_⟩
    have e : (toString i).length ≤ 60 + 1 := int_text_length_le10 (by decide) h
    have e2 : (PyData.shown (.int i)).length = (toString i).length := by
      rw [PyData.shown_int]; exact PySem.ofString_length _
    omega
  | .str x, h => by
    have h : PyData.strOk x = true := by
      simp only [fitX, Bool.and_eq_true] at h; exact h.1
    simp [dOf, PyData.canLay0, PyData.weight, PyData.depth, PyData.showable, PyData.hasDict, PyData.intsShort, wgt, dep, h]
theorem fits_layX : ∀ {ps : List PV}, fitXs ps = true → PyData.canLayAll0 (dOfs ps) = true ∧ PyData.weightAll (dOfs ps) ≤ wgts ps ∧ PyData.depthAll (dOfs ps) ≤ deps ps ∧ PyData.showableAll (dOfs ps) = true ∧ PyData.hasDictAll (dOfs ps) = false ∧ PyData.intsShortAll 61 (dOfs ps) = true
  | [], _ => by simp [dOfs, PyData.canLayAll0, PyData.weightAll, PyData.depthAll, PyData.showableAll, PyData.hasDictAll, PyData.intsShortAll, wgts, deps]
  | p :: ps, h => by
    simp only [fitXs, Bool.and_eq_true] at h
    have a := fit_layX h.1
    have b := fits_layX h.2
    simp only [dOfs, PyData.canLayAll0, PyData.weightAll, PyData.depthAll, PyData.showableAll, PyData.hasDictAll, PyData.intsShortAll, wgts, deps, Bool.and_eq_true, Bool.or_eq_false_iff]
    exact ⟨⟨a.1, b.1⟩, by omega, by omega, ⟨a.2.2.2.1, b.2.2.2.1⟩, ⟨a.2.2.2.2.1, b.2.2.2.2.1⟩, ⟨a.2.2.2.2.2, b.2.2.2.2.2⟩⟩
end
mutual
/-- the longest tuple or list within -/
def lnm : PV → Nat
  | .tup ps => max ps.length (lnms ps)
  | .lst ps => max ps.length (lnms ps)
  | .sls ps => max ps.length (lnms ps)
  | _ => 0
def lnms : List PV → Nat
  | [] => 0
  | p :: ps => max (lnm p) (lnms ps)
end
/-- small data: its weight, its depth, its longest part -/
structure Sm (w d m : Nat) (p : PV) : Prop where
  f : fitX p = true
  w : wgt p ≤ w
  d : dep p ≤ d
  m : lnm p ≤ m
theorem Sm.dat {w d m : Nat} {p : PV} (h : Sm w d m p) : datB p = true := dat_of_fitX h.f
theorem Sm.mono {w d m w' d' m' : Nat} {p : PV} (h : Sm w d m p) (hw : w ≤ w') (hd : d ≤ d') (hm : m ≤ m') : Sm w' d' m' p := ⟨h.f, Nat.le_trans h.w hw, Nat.le_trans h.d hd, Nat.le_trans h.m hm⟩
theorem wgts_le {w : Nat} : ∀ {ps : List PV}, (∀ p ∈ ps, wgt p ≤ w) → wgts ps ≤ ps.length * (w + 1)
  | [], _ => by simp [wgts]
  | p :: ps, h => by
    have h1 := h p (List.mem_cons_self ..)
    have h2 := wgts_le (ps := ps) fun q hq => h q (List.mem_cons_of_mem _ hq)
    rw [wgts, List.length_cons, Nat.succ_mul]
    omega
theorem deps_le {d : Nat} : ∀ {ps : List PV}, (∀ p ∈ ps, dep p ≤ d) → deps ps ≤ d
  | [], _ => by simp [deps]
  | p :: ps, h => by
    have h1 := h p (List.mem_cons_self ..)
    have h2 := deps_le (ps := ps) fun q hq => h q (List.mem_cons_of_mem _ hq)
    rw [deps]; omega
theorem wgts_mem : ∀ {ps : List PV} {p : PV}, p ∈ ps → wgt p + 1 ≤ wgts ps
  | q :: ps, p, h => by
    rw [wgts]
    rcases List.mem_cons.mp h with rfl | h
    · omega
    · have := wgts_mem h; omega
theorem deps_mem : ∀ {ps : List PV} {p : PV}, p ∈ ps → dep p ≤ deps ps
  | q :: ps, p, h => by
    rw [deps]
    rcases List.mem_cons.mp h with rfl | h
    · omega
    · have := deps_mem h; omega
theorem lnms_le {d : Nat} : ∀ {ps : List PV}, (∀ p ∈ ps, lnm p ≤ d) → lnms ps ≤ d
  | [], _ => by simp [lnms]
  | p :: ps, h => by
    have h1 := h p (List.mem_cons_self ..)
    have h2 := lnms_le (ps := ps) fun q hq => h q (List.mem_cons_of_mem _ hq)
    rw [lnms]; omega
theorem lnms_mem : ∀ {ps : List PV} {p : PV}, p ∈ ps → lnm p ≤ lnms ps
  | q :: ps, p, h => by
    rw [lnms]
    rcases List.mem_cons.mp h with rfl | h
    · omega
    · have := lnms_mem h; omega
/-- a part of a tuple -/
theorem Sm.tup {w d m : Nat} {ps : List PV} (h : Sm w (d + 1) m (.tup ps)) : ∀ p ∈ ps, Sm (w - 1) d m p := fun p hp => by
  have hf : fitXs ps = true := by simpa only [fitX] using h.f
  have h1 := wgts_mem hp
  have h2 := deps_mem hp
  have h3 := lnms_mem hp
  have hw := h.w
  have hd := h.d
  have hm := h.m
  simp only [wgt, dep, lnm] at hw hd hm
  exact ⟨fitXs_mem hf p hp, by omega, by omega, by omega⟩
theorem Sm.len {w d m : Nat} {ps : List PV} (h : Sm w d m (.tup ps)) : ps.length ≤ m := by
  have hm := h.m
  simp only [lnm] at hm
  omega
theorem repr_sm {p : PV} {w d m : Nat} (G : GH) (h : Sm w d m p) (hw : w ≤ 200000) (hd : d ≤ 60) : bRepr [p] G = .ok (.str (rep p)) G := by
  obtain ⟨h1, h2, h3, h4, h5, h6⟩ := fit_layX h.f
  have l1 := h.w
  have l2 := h.d
  have z := PyData.shown_le 61 (by decide) (dOf p) (PyData.leavesShort_of_canLay0 61 _ h1 h6)
  have hm : (61 + 2) * (dOf p).weight ≤ 63 * 200000 := Nat.mul_le_mul (by decide) (by omega)
  have e : sizeLine = 16777216 := by decide
  have k : reprOk (dOf p) = true := by
    unfold reprOk
    simp only [Bool.and_eq_true, decide_eq_true_eq, Bool.not_eq_true']
    exact ⟨⟨⟨h4, h5⟩, by omega⟩, by omega⟩
  simp only [bRepr, toDG_dat G h.dat, if_pos k, rep]
/-! ### the feed -/
/-- the feed with at most D draws behind it -/
def Fd (D : Nat) (g : GO) : Prop := ∃ (cs : List Int) (a b d : Int), g = feedO cs a b d ∧ 0 ≤ a ∧ 0 ≤ b ∧ 0 ≤ d ∧ d ≤ D
theorem Fd.mono {D D' : Nat} {g : GO} (h : Fd D g) (hd : D ≤ D') : Fd D' g := by
  obtain ⟨cs, a, b, d, e, h1, h2, h3, h4⟩ := h
  exact ⟨cs, a, b, d, e, h1, h2, h3, by omega⟩
theorem Fd.refs {D : Nat} {g : GO} (h : Fd D g) (n : Nat) : GO.refsB n g = true := by
  obtain ⟨cs, a, b, d, rfl, _⟩ := h
  exact refs_feed _ _ _ _ _
/-- behind a def that draws: the data alone is kept -/
theorem trim_fd {D : Nat} {g g' : GO} {R S : GH} {p : PV} (hg : Fd D g') (h : datB p = true) : trimR (g :: R) (.ok p (g' :: (R ++ S))) = .ok p (g' :: R) := by
  obtain ⟨cs, a, b, d, rfl, _⟩ := hg
  exact trim_feed h
theorem wq_draw {f : List PV → GH → Res PV} (hf : SpDraw f) {D : Nat} {g : GO} (hg : Fd D g) {n : Int} {R : GH} {Q : PV → GH → Prop} (hn : 0 < n) (hn2 : n ≤ 1000000) (hD : D ≤ 1000000000)
    (k : ∀ (r : Int) (g' : GO), 0 ≤ r → r < n → Fd (D + 1) g' → Q (.int r) (g' :: R)) : @wq PV (f [.obj 0, .int n] (g :: R)) ⟨Q⟩ := by
  obtain ⟨cs, a, b, d, rfl, h1, h2, h3, h4⟩ := hg
  obtain ⟨r, a', b', q1, q2, q3, q4, e⟩ := hf cs a b d n R hn hn2 h1 h2 h3 (by omega)
  exact wq_eq e (k r _ q1 q2 ⟨cs, a', b', d + 1, rfl, q3, q4, by omega, by omega⟩)
/-! ### loops by what stays -/
/-- .. where each gives one -/
theorem wq_loopC1 {f : PV → GH → Res (Option PV)} {gd : GH → Bool} (I : Nat → GH → Prop) (P : PV → Prop) : ∀ (its : List PV) (i : Nat) {G : GH}, I i G → (∀ j G, I j G → gd G = true) →
    (∀ x ∈ its, ∀ j G, i ≤ j → j < i + its.length → I j G → @wq (Option PV) (f x G) ⟨fun o G' => I (j + 1) G' ∧ ∃ y, o = some y ∧ P y⟩) →
    @wq (List PV) (loopC f gd its G) ⟨fun ys G' => I (i + its.length) G' ∧ (∀ y ∈ ys, P y) ∧ ys.length = its.length⟩
  | [], i, G, h, hg, _ => by
    simp only [loopC, if_pos (hg i G h), wq_ok]
    exact ⟨h, ⟨fun y hy => absurd hy List.not_mem_nil, by simp⟩⟩
  | x :: xs, i, G, h, hg, hs => by
    simp only [loopC, if_pos (hg i G h), wq_bind, wq_ok]
    refine wq_use (hs x (List.mem_cons_self ..) i G (Nat.le_refl _) (by rw [List.length_cons]; omega) h) fun o G1 ⟨h1, z, e, h2⟩ => ?_
    subst e
    simp only [wq_bind, wq_ok]
    refine wq_use (wq_loopC1 I P xs (i + 1) h1 hg fun y hy j G' p1 p2 => hs y (List.mem_cons_of_mem _ hy) j G' (by omega) (by rw [List.length_cons]; omega)) fun ys G2 ⟨h3, h4, h5⟩ => (wq_ok _ _ _).mpr ⟨?_, ?_, ?_⟩
    · rw [List.length_cons, show i + (xs.length + 1) = i + 1 + xs.length by omega]; exact h3
    · intro y hy
      rcases List.mem_append.mp hy with q | q
      · rw [show y = z by simpa using q]; exact h2
      · exact h4 y q
    · simp only [List.length_append, Option.toList_some, List.length_cons, List.length_nil]; omega
/-- a for that always goes on -/
theorem wq_loopF {f : PV → Env → GH → Res Fl} {gd : GH → Bool} (I : Nat → Env → GH → Prop) : ∀ (its : List PV) (i : Nat) {ρ : Env} {G : GH}, I i ρ G → (∀ j ρ G, I j ρ G → gd G = true) →
    (∀ x ∈ its, ∀ j ρ G, i ≤ j → j < i + its.length → I j ρ G → @wq Fl (f x ρ G) ⟨fun fl G' => ∃ ρ', (fl = .next ρ' ∨ fl = .cont ρ') ∧ I (j + 1) ρ' G'⟩) →
    @wq Fl (loopF f gd its ρ G) ⟨fun fl G' => ∃ ρ', fl = .next ρ' ∧ I (i + its.length) ρ' G'⟩
  | [], i, ρ, G, h, hg, _ => by
    simp only [loopF, if_pos (hg i ρ G h), wq_ok]
    exact ⟨ρ, rfl, h⟩
  | x :: xs, i, ρ, G, h, hg, hs => by
    simp only [loopF, if_pos (hg i ρ G h), wq_bind, wq_ok]
    refine wq_use (hs x (List.mem_cons_self ..) i ρ G (Nat.le_refl _) (by rw [List.length_cons]; omega) h) fun fl G1 ⟨ρ1, e, h1⟩ => ?_
    have go := wq_loopF I xs (i + 1) h1 hg fun y hy j ρ' G' p1 p2 => hs y (List.mem_cons_of_mem _ hy) j ρ' G' (by omega) (by rw [List.length_cons]; omega)
    have e2 : i + (x :: xs).length = i + 1 + xs.length := by rw [List.length_cons]; omega
    rw [e2]
    rcases e with rfl | rfl <;> (simp only; exact go)
end EV.NV
end
section
set_option Elab.async false
set_option linter.all false
set_option maxRecDepth 100000
namespace G2
open PySem PySem.Spec PyProof.Rows L2 EV
/-- _law_is_plain(_law_thing) -/
def N__law_is_plain : List Str := ["_law_thing"]
def b__law_is_plain (f__law_is_text : List PV → GH → Res PV) : EV.Env → GH → Res Fl := sSeq (sRet (mOr (m1 (mVar 0) (bIsi "int")) (mA (mCons (mVar 0) (mNil)) f__law_is_text))) (sNext)
end G2
end
section
/-! N1: words, numbers, texts, plains: what the program and the law tell of any data. -/
set_option Elab.async false
set_option linter.all false
set_option maxRecDepth 100000
namespace EV.NV
open PySem PySem.Spec PyProof.Rows L2
section
variable {G : GH} {ρ : Env}
@[simp] theorem m3c_ap {ma mb mc : Env → GH → Res PV} {f f' : List PV → GH → Res PV} : m3c ma mb mc f f' ρ G = (ma ρ G).bind fun x G1 => (mb ρ G1).bind fun y G2 => (f [x, y] G2).bind fun z G3 => (asB z G3).bind fun k G4 =>
  if k = true then (mc ρ G4).bind fun c G5 => f' [y, c] G5 else .ok (.bl false) G4 := rfl
@[simp] theorem mYes_ap : mYes ρ G = .ok true G := rfl
/-- one sign -/
def sg (c : Nat) : PV := .str ⟨#[c]⟩
end
def letB (c : Nat) : Bool := decide (97 ≤ c) && decide (c ≤ 122)
def figB (c : Nat) : Bool := decide (48 ≤ c) && decide (c ≤ 57)
def wordB : PV → Bool
  | .str x => decide (1 ≤ x.cps.size) && decide (x.cps.size ≤ 8) && x.cps.toList.all letB
  | _ => false
def textB : PV → Bool
  | .str x => decide (x.cps.size ≤ 16) && x.cps.toList.all fun c => letB c || figB c
  | _ => false
def plainB (p : PV) : Bool := isInt p || textB p
/-- the signs that are picked -/
def pick (P : Nat → Bool) (l : List Nat) : List PV := l.filterMap fun c => if P c = true then some (sg c) else none
end EV.NV
end
section
/-! N2: values, documents: what the program and the law tell of any data. -/
set_option Elab.async false
set_option linter.all false
set_option maxRecDepth 100000
namespace EV.NV
open PySem PySem.Spec PyProof.Rows L2
def fldB (V : PV → Bool) : PV → Bool
  | .tup [a, b] => wordB a && V b
  | _ => false
def nameP : PV → Str
  | .tup (.str x :: _) => x
  | _ => Str.empty
def rise (xs : List Str) : Bool := (xs.zip xs.tail).all fun q => cltS q.1 q.2
def fldsB (V : PV → Bool) (xs : List PV) : Bool := xs.all (fldB V) && rise (xs.map nameP)
def valN : Nat → PV → Bool
  | 0, p => plainB p
  | n + 1, p => match headed "tree" p with
    | some xs => fldsB (valN n) xs
    | none => match headed "row" p with
      | some xs => xs.all (valN n)
      | none => plainB p
/-! ### names that rise -/
section
variable {G : GH}
end
def SpV (w m n : Nat) (f : List PV → GH → Res PV) : Prop := ∀ p G, Sm w n m p → f [p] G = .ok (.bl (valN n p)) G
/-! ### the law's look -/
end EV.NV
end
section
/-! M17: _law_found. -/
set_option Elab.async false
set_option linter.all false
set_option maxRecDepth 100000
namespace EV
open PySem PySem.Spec PyProof.Rows L2
end EV
end
section
/-! M18: value_at, _law_at. -/
set_option Elab.async false
set_option linter.all false
set_option maxRecDepth 100000
namespace EV
open PySem PySem.Spec PyProof.Rows L2
end EV
end
section
/-! M19: places, steps. -/
set_option Elab.async false
set_option linter.all false
set_option maxRecDepth 100000
namespace EV
open PySem PySem.Spec PyProof.Rows L2
/-- steps as they are drawn -/
def Stp.sm : Stp → Prop
  | .field w => w ∈ pool7
  | .at i => 0 ≤ i ∧ i < 1000000
  | .each => True
  | .wh w p => w ∈ pool7 ∧ p ∈ leafs
end EV
end
section
/-! M20: paths as the law draws them. -/
set_option Elab.async false
set_option linter.all false
set_option maxRecDepth 100000
namespace EV
open PySem PySem.Spec PyProof.Rows L2
section
variable {fd fi fs : List PV → GH → Res PV} {cs : List Int} {a b d : Int} {R : GH} {us : List Stp}
end
end EV
end
section
/-! M21: how great documents are; environments. -/
set_option Elab.async false
set_option linter.all false
set_option maxRecDepth 100000
namespace EV
open PySem PySem.Spec PyProof.Rows L2
theorem wgts_le {ps : List PV} {k : Nat} (h : ∀ p ∈ ps, wgt p ≤ k) : wgts ps ≤ ps.length * (k + 1) := by
  induction ps with
  | nil => simp [wgts]
  | cons p ps ih =>
    have := h p (List.mem_cons_self ..)
    have := ih fun q hq => h q (List.mem_cons_of_mem _ hq)
    have e : (ps.length + 1) * (k + 1) = ps.length * (k + 1) + (k + 1) := Nat.succ_mul ..
    simp only [wgts, List.length_cons, e]
    omega
theorem leaf_w {p : PV} (h : p ∈ leafs) : wgt p ≤ 20 ∧ dep p = 0 := by
  have t : leafs.all (fun p => decide (wgt p ≤ 20) && decide (dep p = 0)) = true := by decide +kernel
  have := List.all_eq_true.mp t p h
  simpa only [Bool.and_eq_true, decide_eq_true_eq] using this
def WD : Nat → Nat
  | 0 => 20
  | n + 1 => 3 * (WD n + 13) + 6
theorem WD_ge : ∀ n, 20 ≤ WD n
  | 0 => Nat.le_refl _
  | n + 1 => by have := WD_ge n; simp only [WD]; omega
theorem row_size : ("row" : Str).cps.size = 3 ∧ ("tree" : Str).cps.size = 4 := by decide +kernel
theorem tree_wd {kv : List (Str × PV)} {k n : Nat} (h1 : ∀ q ∈ kv, q.1 ∈ pool7) (h2 : ∀ q ∈ kv, wgt q.2 ≤ k ∧ dep q.2 ≤ n) : wgt (treeV kv) ≤ kv.length * (k + 13) + 6 ∧ dep (treeV kv) ≤ n + 3 := by
  have a : wgts (kv.map fldV) ≤ (kv.map fldV).length * (k + 12 + 1) := wgts_le fun p hp => by
    obtain ⟨q, hq, rfl⟩ := fld_mem hp
    have := word_w (h1 q hq)
    have := (h2 q hq).1
    simp only [wgt, wgts]; omega
  have b : deps (kv.map fldV) ≤ n + 1 := deps_le fun p hp => by
    obtain ⟨q, hq, rfl⟩ := fld_mem hp
    have := (h2 q hq).2
    simp only [dep, deps]; omega
  rw [List.length_map, show k + 12 + 1 = k + 13 from rfl] at a
  simp only [treeV, wgt, wgts, dep, deps, row_size]
  exact ⟨by omega, by omega⟩
theorem row_wd {xs : List PV} {k n : Nat} (h2 : ∀ q ∈ xs, wgt q ≤ k ∧ dep q ≤ n) : wgt (rowV xs) ≤ xs.length * (k + 1) + 5 ∧ dep (rowV xs) ≤ n + 2 := by
  have a : wgts xs ≤ xs.length * (k + 1) := wgts_le fun p hp => (h2 p hp).1
  have b : deps xs ≤ n := deps_le fun p hp => (h2 p hp).2
  simp only [rowV, wgt, wgts, dep, deps, row_size]
  exact ⟨by omega, by omega⟩
theorem Doc.wd : ∀ {n : Nat} {p : PV}, Doc n p → wgt p ≤ WD n ∧ dep p ≤ 3 * n
  | 0, p, h => by have := leaf_w (leaf_of h); exact ⟨this.1, by omega⟩
  | n + 1, p, h => by
    have w := WD_ge n
    rcases h with h | ⟨xs, rfl, hl, h⟩ | ⟨kv, rfl, hl, h1, h2, h⟩
    · have := leaf_w (leaf_of h)
      simp only [WD]
      exact ⟨by omega, by omega⟩
    · have := row_wd fun x hx => (h x hx).wd
      have m : xs.length * (WD n + 1) ≤ 3 * (WD n + 1) := Nat.mul_le_mul_right _ hl
      simp only [WD]
      exact ⟨by omega, by omega⟩
    · have := tree_wd (fun q hq => pool67 (h2 q hq)) fun q hq => (h q hq).wd
      have m : kv.length * (WD n + 13) ≤ 3 * (WD n + 13) := Nat.mul_le_mul_right _ hl
      simp only [WD]
      exact ⟨by omega, by omega⟩
/-- values as great as a document at most -/
structure Md (V : PV) : Prop where
  s : Sm V
  w : wgt V ≤ 8000
theorem DocT.md {p : PV} (h : DocT p) : Md p := by
  have hv := h.val
  obtain ⟨kv, rfl, hl, h1, h2, h⟩ := h
  have := tree_wd (fun q hq => pool67 (h2 q hq)) fun q hq => (h q hq).wd
  have m : kv.length * (WD 3 + 13) ≤ 5 * (WD 3 + 13) := Nat.mul_le_mul_right _ hl
  have e : WD 3 = 1125 := by decide
  exact ⟨⟨hv, by omega, by omega⟩, by omega⟩
theorem Doc.md {p : PV} (h : Doc 3 p) : Md p := by
  have := h.wd
  have e : WD 3 = 1125 := by decide
  exact ⟨⟨h.val, by omega, by omega⟩, by omega⟩
/-- the same but at some places -/
structure Same (S : List Nat) (ρ ρ' : Env) : Prop where
  l : ρ'.length = ρ.length
  e : ∀ j, j ∉ S → ρ'[j]? = ρ[j]?
theorem Same.refl (S : List Nat) (ρ : Env) : Same S ρ ρ := ⟨rfl, fun _ _ => rfl⟩
theorem Same.set {S : List Nat} {ρ ρ' : Env} (h : Same S ρ ρ') {i : Nat} {v : Option PV} (hi : i ∈ S) : Same S ρ (ρ'.set i v) := ⟨by rw [List.length_set, h.l], fun j hj => by
  rw [List.getElem?_set_ne (fun e : i = j => hj (by rw [← e]; exact hi)), h.e j hj]⟩
theorem Same.trans {S : List Nat} {ρ ρ' ρ'' : Env} (h : Same S ρ ρ') (k : Same S ρ' ρ'') : Same S ρ ρ'' := ⟨by rw [k.l, h.l], fun j hj => by rw [k.e j hj, h.e j hj]⟩
theorem Same.mono {S T : List Nat} {ρ ρ' : Env} (h : Same S ρ ρ') (k : ∀ i ∈ S, i ∈ T) : Same T ρ ρ' := ⟨h.l, fun j hj => h.e j fun m => hj (k j m)⟩
end EV
end
section
/-! M22: the law's loops: places, paths. -/
set_option Elab.async false
set_option linter.all false
set_option maxRecDepth 100000
namespace EV
open PySem PySem.Spec PyProof.Rows L2
@[simp] theorem opAdd_ll {a b : List PV} {G : GH} : opAdd [.lst a, .lst b] G = if a.length + b.length ≤ sizeLine then .ok (.lst (a ++ b)) G else .bad := rfl
section
variable {fl fv ff fo fp fq : List PV → GH → Res PV} {V : PV}
end
end EV
end
section
/-! N3: one step otherwise at any place. -/
set_option Elab.async false
set_option linter.all false
set_option maxRecDepth 100000
namespace EV.NV
open PySem PySem.Spec PyProof.Rows L2
theorem wq_def {np : Nat} {N : List Str} {m : EV.Env → GH → Res Fl} {ps : List PV} {G : GH} {Q : PV → GH → Prop} (hl : ps.length = np) (h : @wq Fl (m (env0 N.length ps) G) ⟨fun fl G1 => @wq PV (bodyEnd fl G1) ⟨fun v G2 => @wq PV (trimR G (.ok v G2)) ⟨Q⟩⟩⟩) : @wq PV (defV np N m ps G) ⟨Q⟩ := by
  unfold defV
  rw [if_pos hl]
  rw [← wq_bind] at h
  generalize (m (env0 N.length ps) G).bind bodyEnd = r at h ⊢
  cases r with
  | ok v G2 => rw [wq_ok] at h; exact h
  | exc => rw [wq_exc] at h; exact h.elim
  | bad => rw [wq_bad] at h; exact h.elim
section
variable {ps : List PV} {i j : Int}
end
theorem sm_tup {w d m : Nat} {qs : List PV} (h : ∀ x ∈ qs, fitX x = true ∧ dep x ≤ d ∧ lnm x ≤ m) (hw : wgts qs ≤ w) (hl : qs.length ≤ m) : Sm w (d + 1) m (.tup qs) := by
  refine ⟨by simp only [fitX]; exact fitXs_of fun x hx => (h x hx).1, by simp only [wgt]; exact hw, ?_, ?_⟩
  · have := deps_le fun x hx => (h x hx).2.1
    simp only [dep]; omega
  · have := lnms_le fun x hx => (h x hx).2.2
    simp only [lnm]; omega
theorem Sm.each {w d m : Nat} {ps : List PV} (h : Sm w (d + 1) m (.tup ps)) : ∀ x ∈ ps, fitX x = true ∧ dep x ≤ d ∧ lnm x ≤ m := fun x hx => let q := Sm.tup h x hx; ⟨q.f, q.d, q.m⟩
theorem Sm.ws {w d m : Nat} {ps : List PV} (h : Sm w d m (.tup ps)) : wgts ps ≤ w := by have := h.w; simpa only [wgt] using this
theorem wq_ix {ps : List PV} {i : Int} {G : GH} {Q : PV → GH → Prop} (h0 : 0 ≤ i) (h1 : i < ps.length) (k : ∀ x ∈ ps, Q x G) : @wq PV (ixR ps i G) ⟨Q⟩ := by
  obtain ⟨p, e, hp⟩ := atI_mem h0 h1
  exact wq_eq (ixR_some e) (k p hp)
end EV.NV
end
section
/-! N4: texts by draws, things beside a value. -/
set_option Elab.async false
set_option linter.all false
set_option maxRecDepth 100000
namespace EV.NV
open PySem PySem.Spec PyProof.Rows L2
theorem sm_str {x : Str} {k w d m : Nat} (h : ∀ c ∈ x.cps.toList, c < 1114112) (hl : x.cps.toList.length ≤ k) (hk : k ≤ 4000) (hw : k ≤ w) : Sm w d m (.str x) := by
  have e : x.cps.size = x.cps.toList.length := by simp
  refine ⟨?_, by simp only [wgt]; omega, by simp [dep], by simp [lnm]⟩
  simp only [fitX, Bool.and_eq_true, decide_eq_true_eq]
  refine ⟨?_, by omega⟩
  simp only [PyData.strOk, Array.all_eq_true_iff_forall_mem]
  intro c hc
  simpa using h c (Array.mem_toList_iff.mpr hc)
section
variable {G : GH}
theorem ix_str {z : Str} {i : Int} {c : Nat} (hz : z.cps.size ≤ 4000) (h : L2.atI z.cps.toList i = some c) : opIx [.str z, .int i] G = .ok (sg c) G := by
  have : z.length ≤ sizeLine := by rw [size_line]; show z.cps.size ≤ _; omega
  simp only [opIx, if_pos this, h]; rfl
theorem atI_memN {ps : List Nat} {i : Int} (h : 0 ≤ i) (k : i < ps.length) : ∃ p, L2.atI ps i = some p ∧ p ∈ ps := by
  have z : i.toNat < ps.length := by omega
  refine ⟨ps[i.toNat], ?_, List.getElem_mem z⟩
  unfold L2.atI
  rw [ixN_ok h k]
  exact List.getElem?_eq_getElem z
theorem rg_ok {i : Int} (h0 : 0 ≤ i) (h1 : i ≤ 1000000) : rgSrc [.int i] G = .ok ⟨rgIts 0 i.toNat, fun _ => true⟩ G := by
  simp only [rgSrc]; rw [if_pos ⟨by omega, by omega, by rw [size_line]; omega⟩]
end
/-- the first n numbers, walked -/
theorem rg_len (n : Nat) : (rgIts 0 n).length = n := by simp [rgIts]
@[simp] theorem wq_noX {α : Type} (r : Res α) (Q : α → GH → Prop) : @wq α (noX r) ⟨Q⟩ = @wq α r ⟨Q⟩ := by
  cases r with
  | ok a G => rfl
  | exc c fs G => rw [wq_exc]; exact wq_bad Q
  | bad => rfl
def SpG (c : Nat) (P : PV → Prop) (f : List PV → GH → Res PV) (args : List PV) : Prop := ∀ (D : Nat) (g : GO) (R : GH), Fd D g → D + c ≤ 900000000 → @wq PV (f (.obj 0 :: args) (g :: R)) ⟨fun q G' => ∃ g', G' = g' :: R ∧ Fd (D + c) g' ∧ P q⟩
end EV.NV
end
section
/-! N5: things beside a value. -/
set_option Elab.async false
set_option linter.all false
set_option maxRecDepth 100000
namespace EV.NV
open PySem PySem.Spec PyProof.Rows L2
theorem ok1 : PyData.strOk "row" = true := by decide +kernel
theorem ok2 : PyData.strOk "tree" = true := by decide +kernel
theorem sz2 : ("tree" : Str).cps.size = 4 := by decide +kernel
theorem ok3 : PyData.strOk "rows" = true := by decide +kernel
theorem ok4 : PyData.strOk "a" = true := by decide +kernel
theorem ok5 : PyData.strOk "b" = true := by decide +kernel
theorem ok6 : PyData.strOk "A" = true := by decide +kernel
theorem ok7 : PyData.strOk "" = true := by decide +kernel
end EV.NV
end
section
/-! NS: stepping statement by statement, by what is wanted of an end. -/
set_option Elab.async false
set_option linter.all false
set_option maxRecDepth 100000
set_option maxHeartbeats 400000
namespace EV.NV
open PySem PySem.Spec PyProof.Rows L2
/-- going on with the next statement -/
def goOn (t : EV.Env → GH → Res Fl) (Q : Fl → GH → Prop) (fl : Fl) (G : GH) : Prop := match fl with
  | .next ρ => @wq Fl (t ρ G) ⟨Q⟩
  | fl => Q fl G
theorem wq_seq {s t : EV.Env → GH → Res Fl} {ρ : EV.Env} {G : GH} {Q : Fl → GH → Prop} (h : @wq Fl (s ρ G) ⟨goOn t Q⟩) : @wq Fl (sSeq s t ρ G) ⟨Q⟩ := by
  rw [sSeq_ap, wq_bind]
  refine wq_use h fun fl G1 k => ?_
  cases fl with
  | next ρ1 => exact k
  | _ => rw [wq_ok]; exact k
theorem goOn_next {t : EV.Env → GH → Res Fl} {Q : Fl → GH → Prop} {ρ : EV.Env} {G : GH} (h : @wq Fl (t ρ G) ⟨Q⟩) : goOn t Q (.next ρ) G := h
theorem wq_asg {m : EV.Env → GH → Res PV} {i : Nat} {ρ : EV.Env} {G : GH} {Q : Fl → GH → Prop} (P : PV → GH → Prop) (h : @wq PV (m ρ G) ⟨P⟩) (k : ∀ v G1, P v G1 → Q (.next (ρ.set i (some v))) G1) : @wq Fl (sAsg m (gN i) ρ G) ⟨Q⟩ := by
  rw [sAsg_ap, wq_bind]
  refine wq_use h fun v G1 hv => ?_
  rw [wq_bind, gN_ap, wq_ok, wq_ok]
  exact k v G1 hv
theorem wq_for {ms : EV.Env → GH → Res Src} {t : PV → EV.Env → GH → Res EV.Env} {b : EV.Env → GH → Res Fl} {ρ : EV.Env} {G G1 : GH} {S : Src} {Q : Fl → GH → Prop} (e : ms ρ G = .ok S G1) (h : @wq Fl (loopF (forStep t b) S.gd S.its ρ G1) ⟨Q⟩) : @wq Fl (sFor ms t b ρ G) ⟨Q⟩ := by
  rw [sFor_ap, wq_bind, e, wq_ok]; exact h
theorem rng_e {n : Int} {ρ : EV.Env} {G : GH} (h0 : 0 ≤ n) (h1 : n ≤ 1000000) : mRng (mCons (mCst (.int n)) mNil) ρ G = .ok ⟨rgIts 0 n.toNat, fun _ => true⟩ G := by
  show rgSrc [.int n] G = _
  exact rg_ok h0 h1
/-- a for over range(n) by what stays -/
theorem wq_forR {n : Int} {t : PV → EV.Env → GH → Res EV.Env} {b : EV.Env → GH → Res Fl} {ρ : EV.Env} {G : GH} {Q : Fl → GH → Prop} (I : Nat → EV.Env → GH → Prop) (k : Nat) (h0 : 0 ≤ n) (h1 : n ≤ 1000000) (hk : n.toNat = k) (hI : I 0 ρ G)
    (hs : ∀ i : Nat, i < k → ∀ j ρ G, j < k → I j ρ G → @wq Fl (forStep t b (.int (i : Int)) ρ G) ⟨fun fl G' => ∃ ρ', (fl = .next ρ' ∨ fl = .cont ρ') ∧ I (j + 1) ρ' G'⟩)
    (hq : ∀ ρ G, I k ρ G → Q (.next ρ) G) : @wq Fl (sFor (mRng (mCons (mCst (.int n)) mNil)) t b ρ G) ⟨Q⟩ := by
  refine wq_for (rng_e h0 h1) (wq_use (wq_loopF I (rgIts 0 n.toNat) 0 hI (fun _ _ _ _ => rfl) fun x hx j ρ G p1 p2 hj => ?_) fun fl G' ⟨ρ', e, hI'⟩ => ?_)
  · obtain ⟨i, hi, rfl⟩ := List.mem_map.mp hx
    have := List.mem_range.mp hi
    rw [Int.zero_add]
    rw [rg_len] at p2
    exact hs i (by omega) j ρ G (by omega) hj
  · subst e
    refine hq ρ' G' ?_
    rw [rg_len, hk, Nat.zero_add] at hI'
    exact hI'
end EV.NV
end
section
set_option Elab.async false
set_option linter.all false
set_option maxRecDepth 100000
namespace G3
open PySem PySem.Spec PyProof.Rows L2 EV
/-- _law_tape(_law_script) -/
def N__law_tape : List Str := ["_law_script"]
def b__law_tape : EV.Env → GH → Res Fl := sSeq (sRet (mA (mCons (mSl (mVar 0) (mNoPart) (mPart (mCst (.int 63))) opSl) (mCons (mCst (.int 0)) (mCons (mCst (.int 0)) (mCons (mCst (.int 0)) (mNil))))) mkObj)) (sNext)
/-- _law_draw(_law_tape_here, _law_size) -/
def N__law_draw : List Str := ["_law_tape_here", "_law_size", "_law_turn", "_law_at", "_law_cell", "_law_mixed", "_law_digit"]
def b__law_draw : EV.Env → GH → Res Fl := sSeq (sAsg (m2 (m2 (mVar 0) (mCst (.int 3)) opIx) (mCst (.int 1)) opAdd) (gN 2)) (sSeq (sSet (mVar 2) (mVar 0) (mCst (.int 3)) fSetL) (sSeq (sIf (mB (m2 (m2 (mVar 0) (mCst (.int 2)) opIx) (mCst (.int 0)) (Cop.f .gt))) (sSeq (sAsg (m2 (m2 (mVar 0) (mCst (.int 2)) opIx) (mVar 1) opMod) (gN 6)) (sSeq (sSet (m2 (m2 (mVar 0) (mCst (.int 2)) opIx) (mVar 1) opDiv) (mVar 0) (mCst (.int 2)) fSetL) (sSeq (sRet (mVar 6)) (sNext)))) (sNext)) (sSeq (sAsg (m2 (mVar 0) (mCst (.int 1)) opIx) (gN 3)) (sSeq (sSet (m2 (mVar 3) (mCst (.int 1)) opAdd) (mVar 0) (mCst (.int 1)) fSetL) (sSeq (sAsg (mIf (mB (m2 (m2 (mVar 0) (mCst (.int 0)) opIx) (mA (mNil) mkLst) (Cop.f .ne))) (m2 (m2 (mVar 0) (mCst (.int 0)) opIx) (m2 (mVar 3) (mA (mCons (m2 (mVar 0) (mCst (.int 0)) opIx) (mNil)) bLen) opMod) opIx) (mCst (.int 12))) (gN 4)) (sSeq (sIf (mtAnd (mB (m2 (mVar 4) (m2 (mCst (.int 10)) (mCst (.int 18)) opPow) (Cop.f .ge))) (mB (m2 (mVar 3) (mA (mCons (m2 (mVar 0) (mCst (.int 0)) opIx) (mNil)) bLen) (Cop.f .lt)))) (sSeq (sSet (m2 (mVar 4) (mVar 1) opDiv) (mVar 0) (mCst (.int 2)) fSetL) (sSeq (sRet (m2 (mVar 4) (mVar 1) opMod)) (sNext))) (sNext)) (sSeq (sAsg (m2 (m2 (m2 (m2 (m2 (mVar 4) (mCst (.int 1000133)) opMod) (m2 (mCst (.int 5501)) (mVar 2) opMul) opAdd) (mCst (.int 67)) opAdd) (mCst (.int 5)) opPow) (mCst (.int 2147483647)) opMod) (gN 5)) (sSeq (sRet (m2 (m2 (m2 (m2 (m2 (mVar 5) (m2 (mCst (.int 90011)) (mVar 2) opMul) opAdd) (mCst (.int 5)) opPow) (mCst (.int 2147483587)) opMod) (mCst (.int 64)) opDiv) (mVar 1) opMod)) (sNext)))))))))
/-- _law_grain(_law_tape_here, _law_deep) -/
def N__law_grain : List Str := ["_law_tape_here", "_law_deep", "_law_way", "_law_k"]
def b__law_grain (f__law_card f__law_draw f__law_grain : List PV → GH → Res PV) : EV.Env → GH → Res Fl := sSeq (sAsg (mIf (mB (m2 (mVar 1) (mCst (.int 0)) (Cop.f .gt))) (mA (mCons (mVar 0) (mCons (mCst (.int 7)) (mNil))) f__law_draw) (mCst (.int 0))) (gN 2)) (sSeq (sIf (mB (m2 (mVar 2) (mCst (.int 5)) (Cop.f .lt))) (sSeq (sRet (m2 (mA (mCons (mA (mCons (mVar 0) (mCons (mCst (.int 3)) (mNil))) f__law_draw) (mCons (m2 (mA (mCons (mVar 0) (mCons (mCst (.int 2)) (mNil))) f__law_draw) (mCst (.int 0)) (Cop.f .eq)) (mCons (m2 (mA (mCons (mCst (.str "")) (mCons (mCst (.str "x")) (mCons (mCst (.str "y7")) (mNil)))) mkLst) (mA (mCons (mVar 0) (mCons (mCst (.int 3)) (mNil))) f__law_draw) opIx) (mCons (mCst (.int 1)) (mNil))))) mkLst) (mA (mCons (mVar 0) (mCons (mCst (.int 4)) (mNil))) f__law_draw) opIx)) (sNext)) (sNext)) (sSeq (sIf (mB (m2 (mVar 2) (mCst (.int 5)) (Cop.f .eq))) (sSeq (sRet (mA (mCons (mCst (.str "row")) (mCons (mA (mCons (mComp false (mRng (mCons (mA (mCons (mVar 0) (mCons (mCst (.int 3)) (mNil))) f__law_draw) (mNil))) (gN 3) (mYes) (mA (mCons (mVar 0) (mCons (m2 (mVar 1) (mCst (.int 1)) opSub) (mNil))) f__law_grain) [3]) (mNil)) bTup) (mNil))) mkTup)) (sNext)) (sNext)) (sSeq (sRet (mA (mCons (mVar 0) (mCons (m2 (mVar 1) (mCst (.int 1)) opSub) (mCons (mCst (.int 2)) (mNil)))) f__law_card)) (sNext))))
/-- _law_card(_law_tape_here, _law_deep, _law_top) -/
def N__law_card : List Str := ["_law_tape_here", "_law_deep", "_law_top", "_law_fields", "_law_k"]
def b__law_card (f__law_draw f__law_grain : List PV → GH → Res PV) : EV.Env → GH → Res Fl := sSeq (sAsg (mDNew) (gN 3)) (sSeq (sFor (mRng (mCons (mA (mCons (mVar 0) (mCons (m2 (mVar 2) (mCst (.int 1)) opAdd) (mNil))) f__law_draw) (mNil))) (gN 4) (sSeq (sSet (mA (mCons (mVar 0) (mCons (mVar 1) (mNil))) f__law_grain) (mVar 3) (m2 (mCst (.str "abcd")) (mA (mCons (mVar 0) (mCons (mCst (.int 4)) (mNil))) f__law_draw) opIx) fSetA) (sNext))) (sSeq (sRet (mA (mCons (mCst (.str "tree")) (mCons (mA (mCons (mA (mCons (mVar 3) mNil) (bSortItems false)) (mNil)) bTup) (mNil))) mkTup)) (sNext)))
/-- _law_shift(_law_tape_here) -/
def N__law_shift : List Str := ["_law_tape_here", "_law_some", "_law_field", "_law_mate"]
def b__law_shift (f__law_draw f__law_grain : List PV → GH → Res PV) : EV.Env → GH → Res Fl := sSeq (sPar 2 3 (mCons (m2 (mCst (.str "abcd")) (mA (mCons (mVar 0) (mCons (mCst (.int 4)) (mNil))) f__law_draw) opIx) (mCons (m2 (mCst (.str "abcde")) (mA (mCons (mVar 0) (mCons (mCst (.int 5)) (mNil))) f__law_draw) opIx) (mNil)))) (sSeq (sAsg (mA (mCons (mA (mCons (mCst (.str "put")) (mCons (mVar 2) (mCons (mA (mCons (mVar 0) (mCons (mCst (.int 1)) (mNil))) f__law_grain) (mNil)))) mkTup) (mCons (mA (mCons (mCst (.str "move")) (mCons (mVar 2) (mCons (mVar 3) (mNil)))) mkTup) (mCons (mA (mCons (mCst (.str "cut")) (mCons (mVar 2) (mNil))) mkTup) (mCons (mA (mCons (mCst (.str "into")) (mCons (mVar 2) (mCons (mVar 3) (mNil)))) mkTup) (mNil))))) mkLst) (gN 1)) (sSeq (sRet (m2 (m2 (mVar 1) (mA (mCons (mA (mCons (mCst (.str "out")) (mCons (mVar 2) (mCons (mVar 3) (mNil)))) mkTup) (mNil)) mkLst) opAdd) (mA (mCons (mVar 0) (mCons (mCst (.int 5)) (mNil))) f__law_draw) opIx)) (sNext)))
end G3
end
section
/-! P1: the draws of k37 to k54. -/
set_option Elab.async false
set_option linter.all false
set_option maxRecDepth 100000
namespace EV.NV
open PySem PySem.Spec PyProof.Rows L2
theorem tape_sp : SpFeed (defV 1 G3.N__law_tape G3.b__law_tape) := by
  intro ns G h
  have e : cutP (ns.map PV.int) none (some 63) = ns.map .int := by
    unfold cutP HT.sIx
    simp only [List.drop_zero, List.length_map]
    rw [if_neg (by decide)]
    apply List.take_of_length_le
    simp only [List.length_map]
    omega
  simp [defV, G3.b__law_tape, G3.N__law_tape, env0, opSl, asL, e, size_line, feedO, trimR, PV.refsB]
theorem draw_sp3 : SpDraw (defV 2 G3.N__law_draw G3.b__law_draw) := by
  intro cs a b d n R n0 n1 ha hb hd0 hd1
  have n2 : n ≠ 0 := by omega
  have n3 : n.natAbs < 1073741824 := by omega
  by_cases hb0 : 0 < b
  · refine ⟨b.fmod n, a, b.fdiv n, (fmod_lt' n0).1, (fmod_lt' n0).2, ha, fdiv_nn hb n0, ?_⟩
    simp [defV, G3.b__law_draw, G3.N__law_draw, env0, feedO, opMod_ii n2, opDiv_ii n2 n3, hb0]
  · have hb1 : b = 0 := by omega
    subst hb1
    have p18 : (10 : Int) ^ (18 : Nat) = 1000000000000000000 := by decide
    have cell : ∃ c : Int, cs = [] ∧ c = 12 ∨ cs ≠ [] ∧ atI (cs.map PV.int) (a.fmod cs.length) = some (.int c) := by
      by_cases hc : cs = []
      · exact ⟨12, .inl ⟨hc, rfl⟩⟩
      · have hl : 0 < (cs.length : Int) := by
          cases cs with
          | nil => exact absurd rfl hc
          | cons _ _ => simp only [List.length_cons]; omega
        obtain ⟨c, e⟩ := atI_map (cs := cs) (fmod_lt' (a := a) hl).1 (fmod_lt' hl).2
        exact ⟨c, .inr ⟨hc, e⟩⟩
    obtain ⟨c, cell⟩ := cell
    have hp18 : opPow [.int 10, .int 18] = fun G => .ok (.int 1000000000000000000) G := by
      funext G; rw [opPow_ii (by decide) (by decide) (by decide)]; rfl
    have mm : ∀ x : Int, 0 ≤ x.fmod 1000133 ∧ x.fmod 1000133 < 1000133 := fun x => fmod_lt' (by decide)
    have mm2 : ∀ x : Int, 0 ≤ x.fmod 2147483647 ∧ x.fmod 2147483647 < 2147483647 := fun x => fmod_lt' (by decide)
    by_cases big : (1000000000000000000 ≤ c ∧ a < cs.length)
    · refine ⟨c.fmod n, a + 1, c.fdiv n, (fmod_lt' n0).1, (fmod_lt' n0).2, by omega, fdiv_nn (by omega) n0, ?_⟩
      rcases cell with ⟨hc, rfl⟩ | ⟨hc, cell⟩
      · omega
      · have hl2 : (cs.length : Int) ≠ 0 := by
          cases cs with
          | nil => exact absurd rfl hc
          | cons _ _ => simp only [List.length_cons]; omega
        have ne : decide (cs = []) = false := by simpa using hc
        simp [defV, G3.b__law_draw, G3.N__law_draw, env0, feedO, opMod_ii n2, opDiv_ii n2 n3, hc, opMod_ii hl2, ixR_some cell, hp18, big]
    · have big' : ¬(1000000000000000000 ≤ c ∧ a < cs.length) := big
      have hk : ∀ X : Int, 0 ≤ X → X < 2147483647 → (X + 90011 * (d + 1)).natAbs < 2 ^ 64 := fun X h1 h2 => by omega
      have hk2 : ∀ X : Int, 0 ≤ X → X < 1000133 → (X + 5501 * (d + 1) + 67).natAbs < 2 ^ 64 := fun X h1 h2 => by omega
      have e1 : ∀ G, opMod [.int c, .int 1000133] G = .ok (.int (c.fmod 1000133)) G := fun G => opMod_ii (by decide)
      have e2 : ∀ (i : Int) G, opMod [.int i, .int 2147483647] G = .ok (.int (i.fmod 2147483647)) G := fun i G => opMod_ii (by decide)
      have e3 : ∀ (i : Int) G, opMod [.int i, .int 2147483587] G = .ok (.int (i.fmod 2147483587)) G := fun i G => opMod_ii (by decide)
      have e4 : ∀ (i : Int) G, opDiv [.int i, .int 64] G = .ok (.int (i.fdiv 64)) G := fun i G => opDiv_ii (by decide) (by decide)
      have e5 : ∀ (j : Int) G, opMul [.int 5501, .int j] G = .ok (.int (5501 * j)) G := fun i G => opMul_ii (by decide)
      have e6 : ∀ (j : Int) G, opMul [.int 90011, .int j] G = .ok (.int (90011 * j)) G := fun i G => opMul_ii (by decide)
      have e7 : ∀ G, opPow [.int (c.fmod 1000133 + 5501 * (d + 1) + 67), .int 5] G = .ok (.int ((c.fmod 1000133 + 5501 * (d + 1) + 67) ^ 5)) G := fun G => opPow_ii (by decide) (by decide) (hk2 _ (mm c).1 (mm c).2)
      have e8 : ∀ (i : Int) G, opPow [.int (i.fmod 2147483647 + 90011 * (d + 1)), .int 5] G = .ok (.int ((i.fmod 2147483647 + 90011 * (d + 1)) ^ 5)) G := fun i G => opPow_ii (by decide) (by decide) (hk _ (mm2 i).1 (mm2 i).2)
      refine ⟨(((((c.fmod 1000133 + 5501 * (d + 1) + 67) ^ 5).fmod 2147483647 + 90011 * (d + 1)) ^ 5).fmod 2147483587).fdiv 64 |>.fmod n, a + 1, 0, (fmod_lt' n0).1, (fmod_lt' n0).2, by omega, by omega, ?_⟩
      rcases cell with ⟨hc, rfl⟩ | ⟨hc, cell⟩
      · subst hc
        simp at e1 e7
        simp [defV, G3.b__law_draw, G3.N__law_draw, env0, feedO, opMod_ii n2, hp18, e1, e2, e3, e4, e5, e6, e7, e8]
      · have hl2 : (cs.length : Int) ≠ 0 := by
          cases cs with
          | nil => exact absurd rfl hc
          | cons _ _ => simp only [List.length_cons]; omega
        by_cases b1 : 1000000000000000000 ≤ c
        · have b2 : ¬(a < cs.length) := fun h => big ⟨b1, h⟩
          simp [defV, G3.b__law_draw, G3.N__law_draw, env0, feedO, opMod_ii n2, hc, opMod_ii hl2, ixR_some cell, hp18, b1, b2, e1, e2, e3, e4, e5, e6, e7, e8]
        · simp [defV, G3.b__law_draw, G3.N__law_draw, env0, feedO, opMod_ii n2, hc, opMod_ii hl2, ixR_some cell, hp18, b1, e1, e2, e3, e4, e5, e6, e7, e8]
end EV.NV
end
section
/-! N6: the law of values by kind. -/
set_option Elab.async false
set_option linter.all false
set_option maxRecDepth 100000
namespace EV.NV
open PySem PySem.Spec PyProof.Rows L2
/-! ### documents are small -/
/-! ### the makers, as wanted -/
/-! ### one thing, looked at -/
end EV.NV
end
section
/-! PX: the greatest number within. -/
set_option Elab.async false
set_option linter.all false
set_option maxRecDepth 100000
namespace EV.NV
open PySem PySem.Spec PyProof.Rows L2
mutual
def mxi : PV → Nat
  | .int i => i.natAbs
  | .tup ps => mxis ps
  | .lst ps => mxis ps
  | .sls ps => mxis ps
  | _ => 0
def mxis : List PV → Nat
  | [] => 0
  | p :: ps => max (mxi p) (mxis ps)
end
theorem mxis_le {d : Nat} : ∀ {ps : List PV}, (∀ p ∈ ps, mxi p ≤ d) → mxis ps ≤ d
  | [], _ => by simp [mxis]
  | p :: ps, h => by
    have h1 := h p (List.mem_cons_self ..)
    have h2 := mxis_le (ps := ps) fun q hq => h q (List.mem_cons_of_mem _ hq)
    rw [mxis]; omega
theorem mxi_tup {ps : List PV} {b : Nat} (h : ∀ x ∈ ps, mxi x ≤ b) : mxi (.tup ps) ≤ b := by rw [mxi]; exact mxis_le h
/-- small data, its numbers at most nine -/
def SmI (w d m : Nat) (p : PV) : Prop := Sm w d m p ∧ mxi p ≤ 9
theorem SmI.mono {w d m w' d' m' : Nat} {p : PV} (h : SmI w d m p) (h1 : w ≤ w') (h2 : d ≤ d') (h3 : m ≤ m') : SmI w' d' m' p := ⟨h.1.mono h1 h2 h3, h.2⟩
end EV.NV
end
section
/-! P2: values, trees, moves by draws (k37 to k54) are small. -/
set_option Elab.async false
set_option linter.all false
set_option maxRecDepth 100000
namespace EV.NV
open PySem PySem.Spec PyProof.Rows L2
theorem wq_ifT {c : EV.Env → GH → Res Bool} {s t : EV.Env → GH → Res Fl} {ρ : EV.Env} {G : GH} {Q : Fl → GH → Prop} (e : c ρ G = .ok true G) (h : @wq Fl (s ρ G) ⟨Q⟩) : @wq Fl (sIf c s t ρ G) ⟨Q⟩ := by
  rw [sIf_ap, e]; exact h
theorem wq_ifF {c : EV.Env → GH → Res Bool} {s t : EV.Env → GH → Res Fl} {ρ : EV.Env} {G : GH} {Q : Fl → GH → Prop} (e : c ρ G = .ok false G) (h : @wq Fl (t ρ G) ⟨Q⟩) : @wq Fl (sIf c s t ρ G) ⟨Q⟩ := by
  rw [sIf_ap, e]; exact h
theorem wq_ret {m : EV.Env → GH → Res PV} {t : EV.Env → GH → Res Fl} {ρ : EV.Env} {G : GH} {Q : Fl → GH → Prop} (P : PV → GH → Prop) (h : @wq PV (m ρ G) ⟨P⟩) (k : ∀ v G1, P v G1 → Q (.ret v) G1) : @wq Fl (sSeq (sRet m) t ρ G) ⟨Q⟩ := by
  refine wq_seq ?_
  rw [sRet_ap, wq_bind]
  exact wq_use h fun v G1 hv => (wq_ok _ _ _).mpr (k v G1 hv)
theorem goOn_ret {t : EV.Env → GH → Res Fl} {Q : Fl → GH → Prop} {v : PV} {G : GH} (h : Q (.ret v) G) : goOn t Q (.ret v) G := h
theorem wq_next {ρ : EV.Env} {G : GH} {Q : Fl → GH → Prop} (h : Q (.next ρ) G) : @wq Fl (sNext ρ G) ⟨Q⟩ := (wq_ok _ _ _).mpr h
/-- what a def's end wants, where data comes out behind a feed -/
theorem end_fd {g g' : GO} {R S : GH} {D : Nat} {p : PV} {Q : PV → GH → Prop} (hg : Fd D g') (h : datB p = true) (q : Q p (g' :: R)) : @wq PV (bodyEnd (.ret p) (g' :: (R ++ S))) ⟨fun v G2 => @wq PV (trimR (g :: R) (.ok v G2)) ⟨Q⟩⟩ := by
  show @wq PV (.ok p (g' :: (R ++ S))) ⟨fun v G2 => @wq PV (trimR (g :: R) (.ok v G2)) ⟨Q⟩⟩
  rw [wq_ok, trim_fd hg h, wq_ok]
  exact q
/-- a comprehension over range(..), by what stays -/
theorem wq_compRg {mn el : EV.Env → GH → Res PV} {v B : Nat} {own : List Nat} {ρ : EV.Env} {G : GH} {Q : PV → GH → Prop} (I : Nat → GH → Prop) (P : PV → Prop) (hB : B ≤ 1000000)
    (hm : @wq PV (mn ρ G) ⟨fun x G1 => ∃ n : Nat, x = .int n ∧ n ≤ B ∧ I 0 G1⟩)
    (hs : ∀ (i j : Nat) G, i < B → j < B → I j G → @wq PV (el ((wipeE ρ own).set v (some (.int (i : Int)))) G) ⟨fun y G' => I (j + 1) G' ∧ P y⟩)
    (hq : ∀ ys (n : Nat) G, n ≤ B → I n G → (∀ y ∈ ys, P y) → ys.length = n → Q (.lst ys) G) :
    @wq PV (mComp false (mRng (mCons mn mNil)) (gN v) mYes el own ρ G) ⟨Q⟩ := by
  have e : mComp false (mRng (mCons mn mNil)) (gN v) mYes el own ρ G = (mn ρ G).bind fun x G1 => (rgSrc [x] G1).bind fun S G1 => (loopC (compF (gN v) mYes el own ρ) S.gd S.its G1).bind fun ys G5 => .ok (.lst ys) G5 := by
    unfold mComp mRng
    show Res.bind (Res.bind (Res.bind (mn ρ G) _) _) _ = _
    cases mn ρ G <;> rfl
  rw [e, wq_bind]
  refine wq_use hm fun x G1 ⟨n, ex, hn, hI⟩ => ?_
  subst ex
  rw [rg_ok (by omega) (by omega), wq_bind, wq_ok, wq_bind]
  refine wq_use (wq_loopC1 I P (rgIts 0 (n : Int).toNat) 0 hI (fun _ _ _ => rfl) fun x hx j G p1 p2 hj => ?_) fun ys G' ⟨h1, h2, h3⟩ => ?_
  · obtain ⟨i, hi, rfl⟩ := List.mem_map.mp hx
    rw [rg_len] at p2
    have hi2 := List.mem_range.mp hi
    unfold compF
    simp only [gN_ap, wq_bind, wq_noX, wq_ok, mYes_ap, if_true]
    rw [Int.zero_add]
    exact wq_use (hs i j G (by omega) (by omega) hj) fun y G' ⟨a, b⟩ => (wq_ok _ _ _).mpr ⟨a, y, rfl, b⟩
  · rw [wq_ok]
    rw [rg_len] at h1 h3
    have t : (n : Int).toNat = n := by omega
    rw [t] at h1 h3
    rw [Nat.zero_add] at h1
    exact hq ys n G' hn h1 h2 h3
/-- a for over range(..), by what stays -/
theorem wq_forRg {mn : EV.Env → GH → Res PV} {t : PV → EV.Env → GH → Res EV.Env} {b : EV.Env → GH → Res Fl} {B : Nat} {ρ : EV.Env} {G : GH} {Q : Fl → GH → Prop} (I : Nat → EV.Env → GH → Prop) (hB : B ≤ 1000000)
    (hm : @wq PV (mn ρ G) ⟨fun x G1 => ∃ n : Nat, x = .int n ∧ n ≤ B ∧ I 0 ρ G1⟩)
    (hs : ∀ (i : Nat) (j : Nat) ρ G, i < B → j < B → I j ρ G → @wq Fl (forStep t b (.int (i : Int)) ρ G) ⟨fun fl G' => ∃ ρ', (fl = .next ρ' ∨ fl = .cont ρ') ∧ I (j + 1) ρ' G'⟩)
    (hq : ∀ (n : Nat) ρ G, n ≤ B → I n ρ G → Q (.next ρ) G) : @wq Fl (sFor (mRng (mCons mn mNil)) t b ρ G) ⟨Q⟩ := by
  have e : mRng (mCons mn mNil) ρ G = (mn ρ G).bind fun x G1 => rgSrc [x] G1 := by
    unfold mRng
    show Res.bind (Res.bind (mn ρ G) _) _ = _
    cases mn ρ G <;> rfl
  rw [sFor_ap, wq_bind, e, wq_bind]
  refine wq_use hm fun x G1 ⟨n, ex, hn, hI⟩ => ?_
  subst ex
  rw [rg_ok (by omega) (by omega), wq_ok]
  refine wq_use (wq_loopF I (rgIts 0 (n : Int).toNat) 0 hI (fun _ _ _ _ => rfl) fun x hx j ρ G p1 p2 hj => ?_) fun fl G' ⟨ρ', e, hI'⟩ => ?_
  · obtain ⟨i, hi, rfl⟩ := List.mem_map.mp hx
    have := List.mem_range.mp hi
    rw [Int.zero_add]
    rw [rg_len] at p2
    exact hs i j ρ G (by omega) (by omega) hj
  · subst e
    refine hq n ρ' G' hn ?_
    rw [rg_len, Nat.zero_add, show (n : Int).toNat = n by omega] at hI'
    exact hI'
def cG : Nat → Nat
  | 0 => 4
  | n + 1 => 6 + 4 * (cG n + 1)
def leaf4 (fd : List PV → GH → Res PV) : EV.Env → GH → Res PV := (m2 (mA (mCons (mA (mCons (mVar 0) (mCons (mCst (.int 3)) (mNil))) fd) (mCons (m2 (mA (mCons (mVar 0) (mCons (mCst (.int 2)) (mNil))) fd) (mCst (.int 0)) (Cop.f .eq)) (mCons (m2 (mA (mCons (mCst (.str "")) (mCons (mCst (.str "x")) (mCons (mCst (.str "y7")) (mNil)))) mkLst) (mA (mCons (mVar 0) (mCons (mCst (.int 3)) (mNil))) fd) opIx) (mCons (mCst (.int 1)) (mNil))))) mkLst) (mA (mCons (mVar 0) (mCons (mCst (.int 4)) (mNil))) fd) opIx)
theorem sm_int {i : Int} {w d m : Nat} (h : i.natAbs < 1000) (hw : 20 ≤ w) : Sm w d m (.int i) := by
  have l : i.natAbs.log2 < 10 := by
    by_cases z : i.natAbs = 0
    · rw [z]; decide
    · exact (Nat.log2_lt z).mpr (by omega)
  exact ⟨by simp only [fitX, decide_eq_true_eq]; omega, by simp only [wgt]; omega, by simp [dep], by simp [lnm]⟩
theorem leaf_sm {w d m : Nat} (hw : 20 ≤ w) (hm : 3 ≤ m) : Sm w d m (.str "") ∧ Sm w d m (.str "x") ∧ Sm w d m (.str "y7") := by
  have a : ("" : Str).cps.toList = [] := by decide +kernel
  have b : ("x" : Str).cps.toList = [120] := by decide +kernel
  have c : ("y7" : Str).cps.toList = [121, 55] := by decide +kernel
  exact ⟨sm_str (k := 3) (by rw [a]; simp) (by rw [a]; simp) (by decide) (by omega), sm_str (k := 3) (by rw [b]; simp) (by rw [b]; simp) (by decide) (by omega), sm_str (k := 3) (by rw [c]; simp) (by rw [c]; simp) (by decide) (by omega)⟩
theorem treeK_sm {kv : List (Str × PV)} {w d m c : Nat} (h : ∀ q ∈ kv, Sm w d m q.2) (hp : ∀ q ∈ kv, PyData.strOk q.1 = true ∧ q.1.cps.size ≤ 3) (hc : kv.length ≤ c) (hcm : c ≤ m) (h2 : 2 ≤ m) : Sm (6 + c * (w + 6)) (d + 3) m (treeV kv) := by
  have q1 : ∀ x ∈ kv.map fldV, Sm (w + 5) (d + 1) m x := fun x hx => by
    obtain ⟨q, hq, rfl⟩ := List.mem_map.mp hx
    have s := h q hq
    have p := hp q hq
    have f := s.f
    have f1 := s.w
    have f2 := s.d
    have f3 := s.m
    refine ⟨?_, ?_, ?_, ?_⟩
    · simp [fldV, fitX, fitXs, f, p.1]; omega
    · simp [fldV, wgt, wgts]; omega
    · simp [fldV, dep, deps]; omega
    · simp [fldV, lnm, lnms]; omega
  have hw := wgts_le fun x hx => (q1 x hx).w
  rw [List.length_map] at hw
  have hm : kv.length * (w + 5 + 1) ≤ c * (w + 6) := Nat.mul_le_mul_right _ hc
  have hf := fitXs_of fun x hx => (q1 x hx).f
  have hd := deps_le fun x hx => (q1 x hx).d
  have hl := lnms_le fun x hx => (q1 x hx).m
  refine ⟨by simp [treeV, fitX, fitXs, hf, ok2, sz2], by simp [treeV, wgt, wgts, sz2]; omega, by simp [treeV, dep, deps]; omega, by simp [treeV, lnm, lnms]; omega⟩
/-- one of four letters -/
theorem four {i : Int} {G : GH} (h0 : 0 ≤ i) (h1 : i < 4) : ∃ c : Nat, 97 ≤ c ∧ c ≤ 100 ∧ opIx [.str "abcd", .int i] G = .ok (sg c) G := by
  have z : ("abcd" : Str).cps.toList = [97, 98, 99, 100] := by decide +kernel
  obtain ⟨c, e, m⟩ := atI_memN (ps := ("abcd" : Str).cps.toList) h0 (by rw [z]; exact h1)
  have hs : ("abcd" : Str).cps.size ≤ 4000 := by decide +kernel
  refine ⟨c, ?_, ?_, ix_str hs e⟩ <;> (rw [z] at m; simp only [List.mem_cons, List.not_mem_nil, or_false] at m; omega)
theorem five {i : Int} {G : GH} (h0 : 0 ≤ i) (h1 : i < 5) : ∃ c : Nat, 97 ≤ c ∧ c ≤ 101 ∧ opIx [.str "abcde", .int i] G = .ok (sg c) G := by
  have z : ("abcde" : Str).cps.toList = [97, 98, 99, 100, 101] := by decide +kernel
  obtain ⟨c, e, m⟩ := atI_memN (ps := ("abcde" : Str).cps.toList) h0 (by rw [z]; exact h1)
  have hs : ("abcde" : Str).cps.size ≤ 4000 := by decide +kernel
  refine ⟨c, ?_, ?_, ix_str hs e⟩ <;> (rw [z] at m; simp only [List.mem_cons, List.not_mem_nil, or_false] at m; omega)
end EV.NV
end
section
/-! P3: grains, cards (k37 to k54). -/
set_option Elab.async false
set_option linter.all false
set_option maxRecDepth 100000
namespace EV.NV
open PySem PySem.Spec PyProof.Rows L2
theorem get_last (g : GO) (R : GH) (x : GO) : (g :: (R ++ [x]))[R.length + 1]? = some x := by simp
theorem set_last (g : GO) (R : GH) (x y : GO) : (g :: (R ++ [x])).set (R.length + 1) y = g :: (R ++ [y]) := by
  simp [List.set_cons_succ, List.set_append]
theorem setA_last {g : GO} {R : GH} {kv kv' : List (Str × PV)} {c : Nat} {v : PV} (h : putD (kd kv) (.inr ⟨#[c]⟩) v = kd kv') (hl : kv.length ≤ 100) : fSetA [.obj (R.length + 1), sg c, v] (g :: (R ++ [.dic (kd kv)])) = .ok () (g :: (R ++ [.dic (kd kv')])) := by
  have l : (kd kv).length < sizeLine := by rw [size_line]; simp [kd]; omega
  show fSetA [.obj (R.length + 1), .str ⟨#[c]⟩, v] _ = _
  simp only [fSetA, get_last, keyP, if_pos l, set_last, h]
theorem sort_last {g : GO} {R : GH} {kv : List (Str × PV)} (hl : kv.length ≤ 100) : bSortItems false [.obj (R.length + 1)] (g :: (R ++ [.dic (kd kv)])) = .ok (.lst ((sortK kv).map fldV)) (g :: (R ++ [.dic (kd kv)])) := by
  have t : txtK (kd kv) = some kv := txtK_map kv
  have l : ((sortK kv).map fun q => PV.tup [.str q.1, q.2]).length ≤ sizeLine := by
    rw [size_line, List.length_map]
    have : (sortK kv).length = kv.length := List.length_mergeSort ..
    omega
  simp only [bSortItems, get_last, t, mkL, if_pos l, Bool.false_eq_true, if_false]
  try rfl
theorem ok_words : ∀ s ∈ (["put", "move", "cut", "into", "out"] : List Str), PyData.strOk s = true ∧ s.cps.size ≤ 4 := by decide +kernel
end EV.NV
end
section
set_option Elab.async false
set_option linter.all false
set_option maxRecDepth 100000
namespace G4
open PySem PySem.Spec PyProof.Rows L2 EV
/-- _law_draw(_law_feed_here, _law_many) -/
def N__law_draw : List Str := ["_law_feed_here", "_law_many", "_law_cell", "_law_mixed", "_law_figure"]
def b__law_draw : EV.Env → GH → Res Fl := sSeq (sSet (m2 (m2 (mVar 0) (mCst (.int 1)) opIx) (mCst (.int 1)) opAdd) (mVar 0) (mCst (.int 1)) fSetL) (sSeq (loopW (mtAnd (mB (m2 (m2 (mVar 0) (mCst (.int 2)) opIx) (mCst (.int 0)) (Cop.f .eq))) (mB (m2 (m2 (mVar 0) (mCst (.int 3)) opIx) (mA (mCons (m2 (mVar 0) (mCst (.int 0)) opIx) (mNil)) bLen) (Cop.f .lt)))) (sSeq (sAsg (mA (mCons (m2 (m2 (mVar 0) (mCst (.int 0)) opIx) (m2 (mVar 0) (mCst (.int 3)) opIx) opIx) (mNil)) bAbs) (gN 2)) (sSeq (sSet (m2 (mVar 2) (mA (mCons (m2 (mVar 2) (m2 (mCst (.int 10)) (mCst (.int 18)) opPow) (Cop.f .ge)) (mNil)) bInt) opMul) (mVar 0) (mCst (.int 2)) fSetL) (sSeq (sSet (m2 (m2 (mVar 0) (mCst (.int 3)) opIx) (mCst (.int 1)) opAdd) (mVar 0) (mCst (.int 3)) fSetL) (sNext)))) 100) (sSeq (sIf (mB (m2 (m2 (mVar 0) (mCst (.int 2)) opIx) (mCst (.int 0)) (Cop.f .gt))) (sSeq (sAsg (m2 (m2 (mVar 0) (mCst (.int 2)) opIx) (mVar 1) opMod) (gN 4)) (sSeq (sSet (m2 (m2 (mVar 0) (mCst (.int 2)) opIx) (mVar 1) opDiv) (mVar 0) (mCst (.int 2)) fSetL) (sSeq (sRet (mVar 4)) (sNext)))) (sNext)) (sSeq (sAsg (mIf (mB (m2 (m2 (mVar 0) (mCst (.int 0)) opIx) (mA (mNil) mkLst) (Cop.f .ne))) (m2 (m2 (mVar 0) (mCst (.int 0)) opIx) (m2 (m2 (mVar 0) (mCst (.int 1)) opIx) (mA (mCons (m2 (mVar 0) (mCst (.int 0)) opIx) (mNil)) bLen) opMod) opIx) (mCst (.int 5))) (gN 2)) (sSeq (sAsg (m2 (m2 (m2 (m2 (m2 (mVar 2) (mCst (.int 1000003)) opMod) (m2 (m2 (mCst (.int 613)) (m2 (mVar 0) (mCst (.int 1)) opIx) opMul) (m2 (m2 (mVar 0) (mCst (.int 1)) opIx) (mCst (.int 7)) opAdd) opMul) opAdd) (mCst (.int 17)) opAdd) (mCst (.int 5)) opPow) (mCst (.int 2147483647)) opMod) (gN 3)) (sSeq (sRet (m2 (m2 (m2 (m2 (m2 (mVar 3) (m2 (mCst (.int 4099)) (m2 (mVar 0) (mCst (.int 1)) opIx) opMul) opAdd) (mCst (.int 5)) opPow) (mCst (.int 2147483587)) opMod) (mCst (.int 7)) opDiv) (mVar 1) opMod)) (sNext))))))
end G4
end
section
/-! R7: the draws of k19 to k36. -/
set_option Elab.async false
set_option linter.all false
set_option maxRecDepth 100000
set_option maxHeartbeats 1000000
namespace EV.NV
open PySem PySem.Spec PyProof.Rows L2
end EV.NV
end
section
/-! R8: plain ones, trees, paths, tests, indexes, moves by draws (k19 to k36). -/
set_option Elab.async false
set_option linter.all false
set_option maxRecDepth 100000
set_option maxHeartbeats 1000000
namespace EV.NV
open PySem PySem.Spec PyProof.Rows L2
/-- the feed with at most D draws behind it -/
def Fd4 (D : Nat) (g : GO) : Prop := ∃ (cs : List Int) (a b c : Int), g = feedO cs a b c ∧ 0 ≤ a ∧ a ≤ D ∧ 0 ≤ b ∧ 0 ≤ c ∧ cs.length ≤ 63
theorem Fd4.mono {D D' : Nat} {g : GO} (h : Fd4 D g) (hd : D ≤ D') : Fd4 D' g := by
  obtain ⟨cs, a, b, c, e, h1, h2, h3, h4, h5⟩ := h
  exact ⟨cs, a, b, c, e, h1, by omega, h3, h4, h5⟩
theorem wq_seq4 {s t : EV.Env → GH → Res Fl} {ρ : EV.Env} {G : GH} {Q : Fl → GH → Prop} (P : EV.Env → GH → Prop) (h : @wq Fl (s ρ G) ⟨fun fl G' => ∃ ρ', fl = .next ρ' ∧ P ρ' G'⟩) (k : ∀ ρ' G', P ρ' G' → @wq Fl (t ρ' G') ⟨Q⟩) : @wq Fl (sSeq s t ρ G) ⟨Q⟩ :=
  wq_seq (wq_use h fun fl G' ⟨ρ', e, hP⟩ => by subst e; exact goOn_next (k ρ' G' hP))
/-! ### small, numbers at most nine -/
theorem SmI.dat {w d m : Nat} {p : PV} (h : SmI w d m p) : datB p = true := h.1.dat
theorem smI_t2 {a b : PV} {u v d m : Nat} (ha : SmI u d m a) (hb : SmI v d m b) (hm : 2 ≤ m) : SmI (u + v + 2) (d + 1) m (.tup [a, b]) := by
  obtain ⟨⟨a1, a2, a3, a4⟩, a5⟩ := ha
  obtain ⟨⟨b1, b2, b3, b4⟩, b5⟩ := hb
  exact ⟨⟨by simp [fitX, fitXs, a1, b1], by simp [wgt, wgts]; omega, by simp [dep, deps]; omega, by simp [lnm, lnms]; omega⟩, by simp [mxi, mxis]; omega⟩
theorem smI_tup {xs : List PV} {w d m c : Nat} (h : ∀ x ∈ xs, SmI w d m x) (hc : xs.length ≤ c) (hm : c ≤ m) : SmI (c * (w + 1)) (d + 1) m (.tup xs) := by
  have hw := wgts_le fun x hx => (h x hx).1.w
  have h2 : xs.length * (w + 1) ≤ c * (w + 1) := Nat.mul_le_mul_right _ hc
  exact ⟨sm_tup (fun x hx => ⟨(h x hx).1.f, (h x hx).1.d, (h x hx).1.m⟩) (by omega) (by omega), mxi_tup fun x hx => (h x hx).2⟩
theorem smI_bl {b : Bool} {w d m : Nat} (hw : 1 ≤ w) : SmI w d m (.bl b) := ⟨⟨by simp [fitX], by simp [wgt]; try omega, by simp [dep], by simp [lnm]⟩, by simp [mxi]⟩
theorem smI_non {w d m : Nat} (hw : 1 ≤ w) : SmI w d m .non := ⟨⟨by simp [fitX], by simp [wgt]; try omega, by simp [dep], by simp [lnm]⟩, by simp [mxi]⟩
theorem smI_int {i : Int} {w d m : Nat} (h : i.natAbs ≤ 9) (hw : 20 ≤ w) : SmI w d m (.int i) := ⟨sm_int (by omega) hw, by simpa [mxi] using h⟩
def wordsL : List Str := (["", "a", "b", "c", "k", "d", "a1", "field", "each", "at"] : List Str) ++ (["where", "there", "like", "below", "above", "not", "and", "or", "by", "far"] : List Str) ++ (["quick", "zzzzzzzz", "put", "move", "cut", "into", "out", "row", "tree", "ann"] : List Str) ++ (["bo", "cy", "dot", "gone", "index", "bare", "shape"] : List Str)
theorem wordsL_ok : ∀ s ∈ wordsL, PyData.strOk s = true ∧ s.cps.size ≤ 8 := by decide +kernel
theorem smI_w {s : Str} {w d m : Nat} (h : s ∈ wordsL) (hw : 8 ≤ w) : SmI w d m (.str s) := by
  have := wordsL_ok s h
  exact ⟨⟨by simp [fitX, this.1]; omega, by simp [wgt]; omega, by simp [dep], by simp [lnm]⟩, by simp [mxi]⟩
/-! ### plain ones -/
/-! ### paths -/
end EV.NV
end
section
/-! J2: rising words, what a join of three answers (k48). -/
set_option Elab.async false
set_option linter.all false
set_option maxRecDepth 100000
namespace EV.NV
open PySem PySem.Spec PyProof.Rows L2
structure Ri (ws : List Str) : Prop where
  le : ws.Pairwise fun a b => leT a b = true
  nd : ws.Nodup
theorem Ri.sub {ws vs : List Str} (h : Ri ws) (s : vs.Sublist ws) : Ri vs := ⟨h.le.sublist s, h.nd.sublist s⟩
theorem ri_sortT (xs : List Str) : Ri (sortT xs) := ⟨sortT_pw xs, sortT_nodup xs⟩
theorem ri_nil : Ri [] := ⟨.nil, .nil⟩
theorem sortK_ri {kv : List (Str × PV)} (h : Ri (kv.map (·.1))) : sortK kv = kv := List.mergeSort_of_pairwise (List.pairwise_map.mp h.le)
theorem ri_sortK {kv : List (Str × PV)} (h : (kv.map (·.1)).Nodup) : Ri ((sortK kv).map (·.1)) := by
  have pm : (sortK kv).Perm kv := List.mergeSort_perm _ _
  refine ⟨List.pairwise_map.mpr ?_, (pm.map _).nodup_iff.mpr h⟩
  exact List.pairwise_mergeSort (le := fun (a b : Str × PV) => leT a.1 b.1) (fun a b c => leT_trans a.1 b.1 c.1) (fun a b => leT_total a.1 b.1) kv
theorem Ri.lt {ws : List Str} (h : Ri ws) : ws.Pairwise fun a b => leT a b = true ∧ a ≠ b := List.Pairwise.and h.le h.nd
/-- a datum's pairs -/
def unf : List PV → List (Str × PV)
  | .tup [.str s, v] :: r => (s, v) :: unf r
  | _ => []
theorem unf_map : ∀ kv : List (Str × PV), unf (kv.map fldV) = kv
  | [] => rfl
  | q :: kv => by
    show unf (.tup [.str q.1, q.2] :: kv.map fldV) = _
    rw [unf, unf_map kv]
def kids : PV → Option (List (Str × PV))
  | .tup [.str s, .tup xs] => if s = "tree" then some (unf xs) else none
  | _ => none
theorem kids_tree (kv : List (Str × PV)) : kids (treeV kv) = some kv := by
  simp only [kids, treeV, if_true, unf_map]
theorem kids_row (xs : List PV) : kids (rowV xs) = none := by
  simp only [kids, rowV, if_neg (show ¬ (("row" : Str) = "tree") by decide)]
def lk (kv : List (Str × PV)) (w : Str) : PV := (getF kv w).getD .non
def addW (w : Str) : PV → PV
  | .tup xs => .tup (.str w :: xs)
  | p => p
abbrev JR := PV × PV × List PV
theorem nonB_f {p : PV} (h : ¬ isNon p = true) : p ≠ .non := fun e => h (by rw [e]; rfl)
def pickL (rs : List (Str × JR)) : List (Str × PV) := rs.filterMap fun q => if isNon q.2.1 = true then none else some (q.1, q.2.1)
def pickR (rs : List (Str × JR)) : List (Str × PV) := rs.filterMap fun q => if isNon q.2.2.1 = true then none else some (q.1, q.2.2.1)
def pickS (rs : List (Str × JR)) : List PV := rs.flatMap fun q => q.2.2.2.map (addW q.1)
noncomputable def top3 (b o t : PV) (r : JR) : JR := open Classical in if o = t then (o, o, []) else if b = o then (t, t, []) else if b = t then (o, o, []) else r
def wordsOf (ko kt : List (Str × PV)) : List Str := sortT (ko.map (·.1) ++ kt.map (·.1))
noncomputable def joinF : Nat → PV → PV → PV → JR
  | 0, b, o, t => top3 b o t (o, t, [.tup []])
  | n + 1, b, o, t => top3 b o t (match kids o, kids t with
    | some ko, some kt =>
      let rs := (wordsOf ko kt).map fun w => (w, joinF n (lk ((kids b).getD []) w) (lk ko w) (lk kt w))
      (treeV (pickL rs), treeV (pickR rs), pickS rs)
    | _, _ => (o, t, [.tup []]))
noncomputable def rsOf (n : Nat) (b : PV) (ko kt : List (Str × PV)) : List (Str × JR) := (wordsOf ko kt).map fun w => (w, joinF n (lk ((kids b).getD []) w) (lk ko w) (lk kt w))
theorem fm_sub {α β : Type} (c : α → Bool) (f : α → β) : ∀ rs : List α, (rs.filterMap fun q => if c q = true then none else some (f q)) = (rs.filter fun q => !c q).map f
  | [] => rfl
  | q :: rs => by
    have ih := fm_sub c f rs
    rw [List.filterMap_cons, List.filter_cons]
    cases h : c q with
    | true => simpa [h] using ih
    | false => simp [ih]
theorem pickL_eq (rs : List (Str × JR)) : pickL rs = (rs.filter fun q => !isNon q.2.1).map fun q => (q.1, q.2.1) := fm_sub _ _ _
theorem pickR_eq (rs : List (Str × JR)) : pickR rs = (rs.filter fun q => !isNon q.2.2.1).map fun q => (q.1, q.2.2.1) := fm_sub _ _ _
theorem picks_sub {rs : List (Str × JR)} : ((pickL rs).map (·.1)).Sublist (rs.map (·.1)) ∧ ((pickR rs).map (·.1)).Sublist (rs.map (·.1)) := by
  rw [pickL_eq, pickR_eq, List.map_map, List.map_map]
  exact ⟨(List.filter_sublist ..).map _, (List.filter_sublist ..).map _⟩
theorem pickL_mem {rs : List (Str × JR)} {q : Str × PV} (h : q ∈ pickL rs) : ∃ r ∈ rs, q = (r.1, r.2.1) ∧ r.2.1 ≠ .non := by
  unfold pickL at h
  obtain ⟨r, hr, e⟩ := List.mem_filterMap.mp h
  split at e
  · cases e
  · rename_i n; cases e; exact ⟨r, hr, rfl, nonB_f n⟩
theorem pickR_mem {rs : List (Str × JR)} {q : Str × PV} (h : q ∈ pickR rs) : ∃ r ∈ rs, q = (r.1, r.2.2.1) ∧ r.2.2.1 ≠ .non := by
  unfold pickR at h
  obtain ⟨r, hr, e⟩ := List.mem_filterMap.mp h
  split at e
  · cases e
  · rename_i n; cases e; exact ⟨r, hr, rfl, nonB_f n⟩
/-! ### the documents of k48 -/
def leavesJ : List PV := [.int 0, .int 1, .int 2, .bl true, .bl false, .str "", .str "x", .str "y7"]
def abcd : List Str := [⟨#[97]⟩, ⟨#[98]⟩, ⟨#[99]⟩, ⟨#[100]⟩]
def Jd : Nat → PV → Prop
  | 0, p => p ∈ leavesJ
  | n + 1, p => p ∈ leavesJ ∨ (∃ xs, p = rowV xs ∧ xs.length ≤ 2 ∧ ∀ x ∈ xs, Jd n x) ∨ ∃ kv : List (Str × PV), p = treeV kv ∧ Ri (kv.map (·.1)) ∧ (∀ q ∈ kv, q.1 ∈ abcd) ∧ ∀ q ∈ kv, Jd n q.2
/-- .. or nothing -/
def Jn (n : Nat) (p : PV) : Prop := p = .non ∨ Jd n p
theorem Jd.leaf {p : PV} (h : p ∈ leavesJ) : ∀ n, Jd n p
  | 0 => h
  | n + 1 => .inl h
theorem Jd.succ : ∀ {n : Nat} {p : PV}, Jd n p → Jd (n + 1) p
  | 0, p, h => .inl h
  | n + 1, p, h => by
    rcases h with h | ⟨xs, e, l, h⟩ | ⟨kv, e, r, k, h⟩
    · exact .inl h
    · exact .inr (.inl ⟨xs, e, l, fun x hx => Jd.succ (h x hx)⟩)
    · exact .inr (.inr ⟨kv, e, r, k, fun q hq => Jd.succ (h q hq)⟩)
theorem Jd.mono {n m : Nat} {p : PV} (h : Jd n p) (hm : n ≤ m) : Jd m p := by
  induction hm with
  | refl => exact h
  | step _ ih => exact ih.succ
theorem nd_len : ∀ {ws l : List Str}, ws.Nodup → (∀ w ∈ ws, w ∈ l) → ws.length ≤ l.length
  | [], l, _, _ => Nat.zero_le _
  | w :: ws, l, nd, h => by
    have hw := h w (List.mem_cons_self ..)
    have nd2 := List.nodup_cons.mp nd
    have := nd_len (l := l.erase w) nd2.2 fun v hv => (List.mem_erase_of_ne (fun e => nd2.1 (by rw [← e]; exact hv))).mpr (h v (List.mem_cons_of_mem _ hv))
    have e := List.length_erase_of_mem hw
    have pos := List.length_pos_of_mem hw
    rw [List.length_cons]; omega
theorem abcd_len {ws : List Str} (nd : ws.Nodup) (h : ∀ w ∈ ws, w ∈ abcd) : ws.length ≤ 4 := nd_len nd h
end EV.NV
end
section
/-! J3: the join's kinds. -/
set_option Elab.async false
set_option linter.all false
set_option maxRecDepth 100000
namespace EV.NV
open PySem PySem.Spec PyProof.Rows L2
def tkS (p : PV) : List (Int ⊕ List Nat) := PySem.W.keyToks (dOf p)
def lessS (p q : PV) : Prop := PyProof.Rows.lexLt PyProof.Rows.itemOrd (tkS p) (tkS q) = true
theorem tk_cons (x : PV) (xs : List PV) : tkS (.tup (x :: xs)) = Sum.inl 1 :: (tkS x ++ tkS (.tup xs)) := by
  show PySem.W.keyToksAll (dOf x :: dOfs xs) = _
  rw [PySem.W.toks_all_cons]
  rfl
theorem less_add {w : Str} {xs ys : List PV} (h : lessS (.tup xs) (.tup ys)) : lessS (.tup (.str w :: xs)) (.tup (.str w :: ys)) := by
  unfold lessS at *
  rw [tk_cons, tk_cons]
  have e : tkS (.str w) = [.inr w.cps.toList] := rfl
  rw [e]
  exact (PySem.W.lex_pre [Sum.inl 1, Sum.inr w.cps.toList] _ _).trans h
theorem less_diff {w v : Str} (h : leT w v = true) (n : w ≠ v) (xs ys : List PV) : lessS (.tup (.str w :: xs)) (.tup (.str v :: ys)) := by
  unfold lessS
  rw [tk_cons, tk_cons]
  have e : ∀ w : Str, tkS (.str w) = [.inr w.cps.toList] := fun _ => rfl
  rw [e, e]
  refine (PySem.W.lex_pre [Sum.inl 1] _ _).trans ?_
  have ne : (Sum.inr w.cps.toList : Int ⊕ List Nat) ≠ Sum.inr v.cps.toList := fun e => n (str_ext (by injection e))
  refine (PySem.W.lex_atom ne _ _).trans ?_
  have nl : ¬ (v.cps.toList ≤ w.cps.toList) := fun k => n (leT_anti h (by simpa [leT] using k))
  have lt : w.cps.toList < v.cps.toList := by simpa using nl
  have hb : PyProof.Rows.itemOrd.blt (Sum.inr w.cps.toList) (Sum.inr v.cps.toList) = true := decide_eq_true lt
  exact PyProof.Rows.lex_true.mpr (.inl hb)
theorem alike_strs : ∀ ws vs : List Str, PySem.W.alikeAll (dOfs (ws.map .str)) (dOfs (vs.map .str)) = true
  | [], _ => rfl
  | _ :: _, [] => rfl
  | w :: ws, v :: vs => by
    show (PySem.W.alike (dOf (.str w)) (dOf (.str v)) && PySem.W.alikeAll (dOfs (ws.map .str)) (dOfs (vs.map .str))) = true
    rw [alike_strs ws vs]; rfl
/-- a place told: a tuple of words -/
def Spot (n : Nat) (p : PV) : Prop := ∃ ws : List Str, p = .tup (ws.map .str) ∧ ws.length ≤ n ∧ ∀ w ∈ ws, w ∈ abcd
theorem Spot.alike {n m : Nat} {p q : PV} (hp : Spot n p) (hq : Spot m q) : PySem.W.alike (dOf p) (dOf q) = true := by
  obtain ⟨ws, rfl, _⟩ := hp
  obtain ⟨vs, rfl, _⟩ := hq
  exact alike_strs ws vs
/-! ### kinds -/
structure JK (n : Nat) (r : JR) : Prop where
  kl : Jn n r.1
  kr : Jn n r.2.1
  len : r.2.2.length ≤ 4 ^ n
  sp : ∀ s ∈ r.2.2, Spot n s
  ri : r.2.2.Pairwise lessS
theorem get_mem : ∀ {kv : List (Str × PV)} {w : Str} {v : PV}, getF kv w = some v → (w, v) ∈ kv := fun {kv w v} h => by
  unfold getF at h
  obtain ⟨q, e, e2⟩ := Option.map_eq_some_iff.mp h
  have h1 := List.mem_of_find?_eq_some e
  have h2 := List.find?_some e
  simp only [decide_eq_true_eq] at h2
  subst h2 e2
  exact h1
theorem lk_jn {n : Nat} {kv : List (Str × PV)} (h : ∀ q ∈ kv, Jd n q.2) (w : Str) : Jn n (lk kv w) := by
  unfold lk
  cases e : getF kv w with
  | none => exact .inl rfl
  | some v => exact .inr (h _ (get_mem e))
theorem jn_kids {n : Nat} {p : PV} {kv : List (Str × PV)} (h : Jn (n + 1) p) (e : kids p = some kv) : p = treeV kv ∧ Ri (kv.map (·.1)) ∧ (∀ q ∈ kv, q.1 ∈ abcd) ∧ ∀ q ∈ kv, Jd n q.2 := by
  rcases h with rfl | h | ⟨xs, rfl, _, _⟩ | ⟨kw, rfl, h⟩
  · cases e
  · exfalso
    have : leavesJ.all (fun p => (kids p).isNone) = true := by decide +kernel
    have := List.all_eq_true.mp this p h
    rw [e] at this; cases this
  · rw [kids_row] at e; cases e
  · rw [kids_tree] at e; cases e
    exact ⟨rfl, h⟩
theorem jk_base {n : Nat} {o t : PV} (h1 : Jn n o) (h2 : Jn n t) (ss : List PV) (h : ss = [] ∨ ss = [.tup []]) : JK n (o, t, ss) := by
  rcases h with rfl | rfl
  · exact ⟨h1, h2, Nat.zero_le _, fun s hs => absurd hs List.not_mem_nil, .nil⟩
  · refine ⟨h1, h2, Nat.pos_of_ne_zero (Nat.pos_iff_ne_zero.mp (Nat.pow_pos (by decide))), fun s hs => ?_, List.pairwise_singleton ..⟩
    rw [List.mem_singleton] at hs
    exact ⟨[], hs, Nat.zero_le _, fun w hw => absurd hw List.not_mem_nil⟩
theorem top_jk {n : Nat} {b o t : PV} {r : JR} (h1 : Jn n o) (h2 : Jn n t) (h : JK n r) : JK n (top3 b o t r) := by
  unfold top3
  split
  · exact jk_base h1 h1 _ (.inl rfl)
  split
  · exact jk_base h2 h2 _ (.inl rfl)
  split
  · exact jk_base h1 h1 _ (.inl rfl)
  · exact h
theorem flat_len {α β : Type} (f : α → List β) (c : Nat) : ∀ (l : List α), (∀ a ∈ l, (f a).length ≤ c) → (l.flatMap f).length ≤ l.length * c
  | [], _ => by simp
  | a :: l, h => by
    have ih := flat_len f c l fun b hb => h b (List.mem_cons_of_mem _ hb)
    have := h a (List.mem_cons_self ..)
    rw [List.flatMap_cons, List.length_append, List.length_cons, Nat.succ_mul]; omega
theorem spot_add {n : Nat} {s : PV} {w : Str} (h : Spot n s) (hw : w ∈ abcd) : Spot (n + 1) (addW w s) := by
  obtain ⟨ws, rfl, l, k⟩ := h
  refine ⟨w :: ws, rfl, by rw [List.length_cons]; omega, fun v hv => ?_⟩
  rcases List.mem_cons.mp hv with rfl | hv
  · exact hw
  · exact k v hv
theorem picks_ri {n : Nat} {rs : List (Str × JR)} (h : Ri (rs.map (·.1))) (k : ∀ q ∈ rs, JK n q.2) : (pickS rs).Pairwise lessS := by
  unfold pickS
  rw [List.pairwise_flatMap]
  refine ⟨fun q hq => ?_, ?_⟩
  · rw [List.pairwise_map]
    refine List.Pairwise.imp_of_mem ?_ (k q hq).ri
    intro a b ha hb hab
    obtain ⟨ws, rfl, _⟩ := (k q hq).sp a ha
    obtain ⟨vs, rfl, _⟩ := (k q hq).sp b hb
    exact less_add hab
  · have := List.pairwise_map.mp h.lt
    refine List.Pairwise.imp_of_mem ?_ this
    intro a b ha hb hab x hx y hy
    obtain ⟨s, hs, rfl⟩ := List.mem_map.mp hx
    obtain ⟨t, ht, rfl⟩ := List.mem_map.mp hy
    obtain ⟨ws, rfl, _⟩ := (k a ha).sp s hs
    obtain ⟨vs, rfl, _⟩ := (k b hb).sp t ht
    exact less_diff hab.1 hab.2 _ _
theorem words_abcd {ko kt : List (Str × PV)} (h1 : ∀ q ∈ ko, q.1 ∈ abcd) (h2 : ∀ q ∈ kt, q.1 ∈ abcd) : ∀ w ∈ wordsOf ko kt, w ∈ abcd := fun w hw => by
  rcases List.mem_append.mp (sortT_mem.mp hw) with m | m
  · obtain ⟨q, hq, rfl⟩ := List.mem_map.mp m; exact h1 q hq
  · obtain ⟨q, hq, rfl⟩ := List.mem_map.mp m; exact h2 q hq
theorem rs_map (n : Nat) (b : PV) (ko kt : List (Str × PV)) : (rsOf n b ko kt).map (·.1) = wordsOf ko kt := by
  unfold rsOf
  rw [List.map_map]
  exact (List.map_congr_left fun _ _ => rfl).trans (List.map_id _)
theorem joinK : ∀ (n : Nat) {b o t : PV}, Jn n b → Jn n o → Jn n t → JK n (joinF n b o t)
  | 0, b, o, t, hb, ho, ht => top_jk ho ht (jk_base ho ht _ (.inr rfl))
  | n + 1, b, o, t, hb, ho, ht => by
    rw [joinF]
    refine top_jk ho ht ?_
    split
    · rename_i ko kt eo et
      obtain ⟨rfl, r1, a1, j1⟩ := jn_kids ho eo
      obtain ⟨rfl, r2, a2, j2⟩ := jn_kids ht et
      have hkb : ∀ w, Jn n (lk ((kids b).getD []) w) := fun w => by
        cases e : kids b with
        | none => exact .inl rfl
        | some kb => exact lk_jn (jn_kids hb e).2.2.2 w
      have k : ∀ q ∈ rsOf n b ko kt, JK n q.2 := fun q hq => by
        obtain ⟨w, hw, rfl⟩ := List.mem_map.mp hq
        exact joinK n (hkb w) (lk_jn j1 w) (lk_jn j2 w)
      have rm := rs_map n b ko kt
      have rr : Ri ((rsOf n b ko kt).map (·.1)) := by rw [rm]; exact ri_sortT _
      have wa := words_abcd a1 a2
      have mem : ∀ q ∈ rsOf n b ko kt, q.1 ∈ abcd := fun q hq => wa _ (by rw [← rm]; exact List.mem_map.mpr ⟨q, hq, rfl⟩)
      have len : (rsOf n b ko kt).length ≤ 4 := by
        have := abcd_len rr.nd fun w hw => by rw [rm] at hw; exact wa w hw
        rwa [List.length_map] at this
      show JK (n + 1) (treeV (pickL (rsOf n b ko kt)), treeV (pickR (rsOf n b ko kt)), pickS (rsOf n b ko kt))
      refine ⟨.inr (.inr (.inr ⟨_, rfl, rr.sub picks_sub.1, fun q hq => ?_, fun q hq => ?_⟩)), .inr (.inr (.inr ⟨_, rfl, rr.sub picks_sub.2, fun q hq => ?_, fun q hq => ?_⟩)), ?_, fun s hs => ?_, picks_ri rr k⟩
      · obtain ⟨r, hr, rfl, _⟩ := pickL_mem hq; exact mem r hr
      · obtain ⟨r, hr, rfl, e⟩ := pickL_mem hq; exact (k r hr).kl.resolve_left e
      · obtain ⟨r, hr, rfl, _⟩ := pickR_mem hq; exact mem r hr
      · obtain ⟨r, hr, rfl, e⟩ := pickR_mem hq; exact (k r hr).kr.resolve_left e
      · have f := flat_len (fun q : Str × JR => q.2.2.2.map (addW q.1)) (4 ^ n) (rsOf n b ko kt) fun q hq => by rw [List.length_map]; exact (k q hq).len
        refine Nat.le_trans f ?_
        rw [Nat.pow_succ, Nat.mul_comm]
        exact Nat.mul_le_mul_left _ len
      · obtain ⟨q, hq, hs⟩ := List.mem_flatMap.mp hs
        obtain ⟨s', hs', rfl⟩ := List.mem_map.mp hs
        exact spot_add ((k q hq).sp s' hs') (mem q hq)
    · exact jk_base ho ht _ (.inr rfl)
end EV.NV
end
section
set_option Elab.async false
set_option linter.all false
set_option maxRecDepth 100000
/-! Ev52: {key: value}, the key computed (a text). -/
namespace EV
open PySem PySem.Spec PyProof.Rows L2
section
variable {X : Cx} {F : Fx} {Ex : XK} {n : Nat}
end
end EV
end
section
set_option Elab.async false
set_option linter.all false
set_option maxRecDepth 100000
namespace G5
open PySem PySem.Spec PyProof.Rows L2 EV
/-- in_tree(tree, field) -/
def N_in_tree : List Str := ["tree", "field"]
def b_in_tree : EV.Env → GH → Res Fl := sSeq (sRet (mMet "dict" (mA (mCons (m2 (mVar 0) (mCst (.int 1)) opIx) (mNil)) bDict) (mCons (mVar 1) (mNil)) fGet)) (sNext)
end G5
end
section
/-! J4: the sizes of k48's documents; is_tree, in_tree, is_same. -/
set_option Elab.async false
set_option linter.all false
set_option maxRecDepth 100000
namespace EV.NV
open PySem PySem.Spec PyProof.Rows L2
def wJ : Nat → Nat
  | 0 => 20
  | n + 1 => 6 + 4 * (wJ n + 6)
theorem wJ20 : ∀ n, 20 ≤ wJ n
  | 0 => Nat.le_refl _
  | n + 1 => by have := wJ20 n; simp only [wJ]; omega
theorem leafJ_sm {p : PV} (h : p ∈ leavesJ) {w d m : Nat} (hw : 20 ≤ w) (hm : 3 ≤ m) : SmI w d m p := by
  obtain ⟨e1, e2, e3⟩ := leaf_sm (w := w) (d := d) (m := m) hw hm
  simp only [leavesJ, List.mem_cons, List.not_mem_nil, or_false] at h
  rcases h with rfl | rfl | rfl | rfl | rfl | rfl | rfl | rfl
  · exact smI_int (by decide) hw
  · exact smI_int (by decide) hw
  · exact smI_int (by decide) hw
  · exact smI_bl (by omega)
  · exact smI_bl (by omega)
  · exact ⟨e1, by simp [mxi]⟩
  · exact ⟨e2, by simp [mxi]⟩
  · exact ⟨e3, by simp [mxi]⟩
theorem ok_abcd : ∀ s ∈ abcd, PyData.strOk s = true ∧ s.cps.size ≤ 3 := by decide +kernel
theorem jd_sm : ∀ {n : Nat} {p : PV}, Jd n p → SmI (wJ n) (3 * n) 4 p
  | 0, p, h => leafJ_sm h (by decide) (by decide)
  | n + 1, p, h => by
    have W := wJ20 n
    have W1 : wJ (n + 1) = 6 + 4 * (wJ n + 6) := rfl
    rcases h with h | ⟨xs, rfl, l, h⟩ | ⟨kv, rfl, r, k, h⟩
    · exact leafJ_sm h (by omega) (by decide)
    · have a := smI_tup (c := 2) (m := 4) (fun x hx => jd_sm (h x hx)) l (by decide)
      exact (smI_t2 (smI_w (s := "row") (w := 8) (d := 3 * n + 1) (m := 4) (by simp [wordsL]) (by decide)) a (by decide)).mono (by omega) (by omega) (by omega)
    · have len : kv.length ≤ 4 := by
        have := abcd_len r.nd fun w hw => by obtain ⟨q, hq, rfl⟩ := List.mem_map.mp hw; exact k q hq
        rwa [List.length_map] at this
      have s := treeK_sm (kv := kv) (c := 4) (m := 4) (fun q hq => (jd_sm (h q hq)).1) (fun q hq => ok_abcd _ (k q hq)) len (by decide) (by decide)
      refine ⟨s.mono (by omega) (by omega) (by omega), ?_⟩
      have q1 : mxis (kv.map fldV) ≤ 9 := mxis_le fun x hx => by
        obtain ⟨q, hq, rfl⟩ := List.mem_map.mp hx
        have := (jd_sm (h q hq)).2
        simp [fldV, mxi, mxis]; omega
      simp [treeV, mxi, mxis]; omega
theorem jn_sm {n : Nat} {p : PV} (h : Jn n p) : SmI (wJ n) (3 * n) 4 p := by
  rcases h with rfl | h
  · exact smI_non (by have := wJ20 n; omega)
  · exact jd_sm h
/-! ### repr -/
/-! ### small callees -/
theorem dat_jn {n : Nat} {p : PV} (h : Jn n p) : datB p = true := (jn_sm h).1.dat
abbrev SpIt (f : List PV → GH → Res PV) : Prop := ∀ (kv : List (Str × PV)) w G, (kv.map (·.1)).Nodup → (∀ q ∈ kv, datB q.2 = true) → f [treeV kv, .str w] G = .ok (lk kv w) G
theorem lk_dat {kv : List (Str × PV)} (h : ∀ q ∈ kv, datB q.2 = true) (w : Str) : datB (lk kv w) = true := by
  unfold lk
  cases e : getF kv w with
  | none => rfl
  | some v => exact h _ (get_mem e)
theorem fGet_at {n : Nat} {kv : List (Str × PV)} {w : Str} {G : GH} (h : G[n]? = some (.dic (kd kv))) : fGet (.obj n) [.str w] G = .ok (lk kv w) G := by
  simp only [fGet, h, keyP, get_kd, lk]
theorem inTree_sp : SpIt (defV 2 G5.N_in_tree G5.b_in_tree) := by
  intro kv w G nd hd
  have e := fGet_at (n := G.length) (kv := kv) (w := w) (G := G ++ [.dic (kd kv)]) (by simp)
  simp [defV, G5.b_in_tree, G5.N_in_tree, env0, treeV, dict_tree G nd, mMet, tyP, e]
  exact trim_back (lk_dat hd w)
@[simp] theorem opIs_non {x : PV} {G : GH} : Cop.is.f [x, .non] G = .ok (.bl (isNon x)) G := rfl
@[simp] theorem opIsnot_non {x : PV} {G : GH} : Cop.isnot.f [x, .non] G = .ok (.bl (!isNon x)) G := rfl
end EV.NV
end
section
/-! J5: the statements of the joins' loops. -/
set_option Elab.async false
set_option linter.all false
set_option maxRecDepth 100000
namespace EV.NV
open PySem PySem.Spec PyProof.Rows L2
section
variable {G S : GH} {a b c d e f z : GO}
@[simp] theorem hp0 : (G ++ a :: S)[G.length]? = some a := by simp
@[simp] theorem hp1 : (G ++ a :: b :: S)[G.length + 1]? = some b := by simp
@[simp] theorem hp2 : (G ++ a :: b :: c :: S)[G.length + 2]? = some c := by simp
@[simp] theorem hp3 : (G ++ a :: b :: c :: d :: S)[G.length + 3]? = some d := by simp
@[simp] theorem hp4 : (G ++ a :: b :: c :: d :: e :: S)[G.length + 4]? = some e := by simp
@[simp] theorem hp5 : (G ++ a :: b :: c :: d :: e :: f :: S)[G.length + 5]? = some f := by simp
@[simp] theorem hs0 : (G ++ a :: S).set G.length z = G ++ z :: S := by simp
@[simp] theorem hs1 : (G ++ a :: b :: S).set (G.length + 1) z = G ++ a :: z :: S := by simp
@[simp] theorem hs2 : (G ++ a :: b :: c :: S).set (G.length + 2) z = G ++ a :: b :: z :: S := by simp
@[simp] theorem hs3 : (G ++ a :: b :: c :: d :: S).set (G.length + 3) z = G ++ a :: b :: c :: z :: S := by simp
@[simp] theorem hs4 : (G ++ a :: b :: c :: d :: e :: S).set (G.length + 4) z = G ++ a :: b :: c :: d :: z :: S := by simp
@[simp] theorem hs5 : (G ++ a :: b :: c :: d :: e :: f :: S).set (G.length + 5) z = G ++ a :: b :: c :: d :: e :: z :: S := by simp
end
def one (w : Str) (v : PV) : List (Str × PV) := if isNon v = true then [] else [(w, v)]
section
variable {ρ : EV.Env} {G : GH} {i j k n l : Nat} {w : Str} {v : PV}
end
end EV.NV
end
section
/-! J6: the program's join. -/
set_option Elab.async false
set_option linter.all false
set_option maxRecDepth 100000
namespace EV.NV
open PySem PySem.Spec PyProof.Rows L2
/-! ### the picks, one more -/
/-! ### the program's join -/
end EV.NV
end
section
/-! J7: joined_trees. -/
set_option Elab.async false
set_option linter.all false
set_option maxRecDepth 100000
set_option maxHeartbeats 1000000
namespace EV.NV
open PySem PySem.Spec PyProof.Rows L2
noncomputable def rsV (m : Nat) (b : PV) (ko kt : List (Str × PV)) (vs : List Str) : List (Str × JR) := vs.map fun w => (w, joinF m (lk ((kids b).getD []) w) (lk ko w) (lk kt w))
structure Two (m : Nat) (b : PV) (ko kt : List (Str × PV)) : Prop where
  b : Jn (m + 1) b
  o : Jn (m + 1) (treeV ko)
  t : Jn (m + 1) (treeV kt)
theorem Two.ko {m b ko kt} (h : Two m b ko kt) : Ri (ko.map (·.1)) ∧ (∀ q ∈ ko, q.1 ∈ abcd) ∧ ∀ q ∈ ko, Jd m q.2 := (jn_kids h.o (kids_tree ko)).2
theorem Two.kt {m b ko kt} (h : Two m b ko kt) : Ri (kt.map (·.1)) ∧ (∀ q ∈ kt, q.1 ∈ abcd) ∧ ∀ q ∈ kt, Jd m q.2 := (jn_kids h.t (kids_tree kt)).2
theorem Two.kb {m b ko kt} (h : Two m b ko kt) : Ri (((kids b).getD []).map (·.1)) ∧ (∀ q ∈ (kids b).getD [], q.1 ∈ abcd) ∧ ∀ q ∈ (kids b).getD [], Jd m q.2 := by
  cases e : kids b with
  | none => exact ⟨ri_nil, fun q hq => absurd hq List.not_mem_nil, fun q hq => absurd hq List.not_mem_nil⟩
  | some kb => exact (jn_kids h.b e).2
theorem Two.jk {m b ko kt} (h : Two m b ko kt) (w : Str) : JK m (joinF m (lk ((kids b).getD []) w) (lk ko w) (lk kt w)) := joinK m (lk_jn h.kb.2.2 w) (lk_jn h.ko.2.2 w) (lk_jn h.kt.2.2 w)
theorem Two.rs {m b ko kt} (h : Two m b ko kt) (vs : List Str) : ∀ q ∈ rsV m b ko kt vs, JK m q.2 := fun q hq => by
  obtain ⟨w, hw, rfl⟩ := List.mem_map.mp hq
  exact h.jk w
theorem spot_dat {n : Nat} {s : PV} (h : Spot n s) : datB s = true := by
  obtain ⟨ws, rfl, _⟩ := h
  have : ∀ ws : List Str, datBs (ws.map .str) = true := fun ws => datBs_of fun x hx => by obtain ⟨w, _, rfl⟩ := List.mem_map.mp hx; rfl
  simp only [datB, this]
theorem JK.dat {n : Nat} {r : JR} (h : JK n r) : datB (.tup [r.1, r.2.1, .tup r.2.2]) = true := by
  simp only [datB, datBs, dat_jn h.kl, dat_jn h.kr, datBs_of fun x hx => spot_dat (h.sp x hx), Bool.and_self]
end EV.NV
end
section
/-! J8: the law's own join. -/
set_option Elab.async false
set_option linter.all false
set_option maxRecDepth 100000
set_option maxHeartbeats 1000000
namespace EV.NV
open PySem PySem.Spec PyProof.Rows L2
end EV.NV
end
section
/-! J9: the law's own join computes joinF. -/
set_option Elab.async false
set_option linter.all false
set_option maxRecDepth 100000
set_option maxHeartbeats 1000000
namespace EV.NV
open PySem PySem.Spec PyProof.Rows L2
end EV.NV
end
section
/-! J10: the law's own join, whole. -/
set_option Elab.async false
set_option linter.all false
set_option maxRecDepth 100000
set_option maxHeartbeats 1000000
namespace EV.NV
open PySem PySem.Spec PyProof.Rows L2
end EV.NV
end
section
/-! J13: grains and cards by draws (k48), their kind. -/
set_option Elab.async false
set_option linter.all false
set_option maxRecDepth 100000
set_option maxHeartbeats 1000000
namespace EV.NV
open PySem PySem.Spec PyProof.Rows L2
structure JT (n : Nat) (kv : List (Str × PV)) : Prop where
  ri : Ri (kv.map (·.1))
  ab : ∀ q ∈ kv, q.1 ∈ abcd
  jd : ∀ q ∈ kv, Jd n q.2
theorem JT.up {n : Nat} {kv} (h : JT n kv) : Jd (n + 1) (treeV kv) := .inr (.inr ⟨kv, rfl, h.ri, h.ab, h.jd⟩)
theorem JT.mono {n m : Nat} {kv} (h : JT n kv) (l : n ≤ m) : JT m kv := ⟨h.ri, h.ab, fun q hq => (h.jd q hq).mono l⟩
abbrev SpGrJ (n : Nat) (f : List PV → GH → Res PV) : Prop := SpG (cG n) (Jd n) f [.int n]
abbrev IsJT (n : Nat) (p : PV) : Prop := ∃ kv, p = treeV kv ∧ JT n kv
abbrev SpCdJ (n : Nat) (f : List PV → GH → Res PV) : Prop := ∀ t : Nat, t ≤ 3 → SpG (4 + 3 * cG n) (IsJT n) f [.int n, .int t]
theorem jd_dat {n : Nat} {p : PV} (h : Jd n p) : datB p = true := (jd_sm h).1.dat
theorem leaf4_spJ {fd} (hd : SpDraw fd) {D : Nat} {g : GO} {R : GH} (hg : Fd D g) (hD : D + 4 ≤ 900000000) {ρ : EV.Env} (h0 : ρ[0]? = some (some (.obj 0))) :
    @wq PV (leaf4 fd ρ (g :: R)) ⟨fun p G' => ∃ g', G' = g' :: R ∧ Fd (D + 4) g' ∧ p ∈ leavesJ⟩ := by
  simp [leaf4, h0]
  refine wq_draw hd hg (by decide) (by decide) (by omega) fun r g1 r0 r1 hg1 => ?_
  simp [h0, size_line]
  refine wq_draw hd hg1 (by decide) (by decide) (by omega) fun r2 g2 p0 p1 hg2 => ?_
  simp [h0, size_line]
  refine wq_draw hd hg2 (by decide) (by decide) (by omega) fun r3 g3 q0 q1 hg3 => ?_
  simp [h0, size_line]
  refine wq_ix q0 (by simpa using q1) fun x hx => ?_
  simp [h0, size_line]
  refine wq_draw hd hg3 (by decide) (by decide) (by omega) fun r4 g4 s0 s1 hg4 => ?_
  simp [h0, size_line]
  refine wq_ix s0 (by simpa using s1) fun y hy => ?_
  refine ⟨g4, rfl, hg4.mono (by omega), ?_⟩
  simp only [List.mem_cons, List.not_mem_nil, or_false] at hy hx
  rcases hy with rfl | rfl | rfl | rfl
  · have : r = 0 ∨ r = 1 ∨ r = 2 := by omega
    rcases this with rfl | rfl | rfl <;> simp [leavesJ]
  · by_cases e : r2 = 0 <;> simp [leavesJ, e]
  · rcases hx with rfl | rfl | rfl <;> simp [leavesJ]
  · simp [leavesJ]
theorem finJ {c D : Nat} {g : GO} {R : GH} {P : PV → Prop} (hP : ∀ p, P p → datB p = true) : ∀ p G', (∃ g' S, G' = g' :: (R ++ S) ∧ Fd (D + c) g' ∧ P p) → @wq PV (bodyEnd (.ret p) G') ⟨fun v G2 => @wq PV (trimR (g :: R) (.ok v G2)) ⟨fun q G' => ∃ g', G' = g' :: R ∧ Fd (D + c) g' ∧ P q⟩⟩ := fun p G' ⟨g', S, e, h1, h2⟩ => by
  subst e
  exact end_fd h1 (hP p h2) ⟨g', rfl, h1, h2⟩
theorem grain0J {fc fd fg} (hd : SpDraw fd) : SpGrJ 0 (defV 2 G3.N__law_grain (G3.b__law_grain fc fd fg)) := by
  intro D g R hg hD
  have fin := finJ (c := cG 0) (D := D) (g := g) (R := R) (P := Jd 0) fun p h => jd_dat h
  refine wq_def rfl ?_
  unfold G3.b__law_grain
  refine wq_seq (wq_asg (fun v G1 => v = .int 0 ∧ G1 = g :: R) (by simp [env0, G3.N__law_grain]) fun v G1 ⟨e1, e2⟩ => goOn_next ?_)
  subst e1 e2
  exact wq_seq (wq_ifT (by simp [env0, G3.N__law_grain]) (wq_ret _ (leaf4_spJ hd hg (by simpa [cG] using hD) (by rfl)) fun p G' ⟨g', e, h1, h2⟩ => goOn_ret (fin p G' ⟨g', [], by rw [e, List.append_nil], h1, h2⟩)))
theorem grainSJ {fc fd fg} (hd : SpDraw fd) {n : Nat} (hn : n ≤ 5) (hgr : SpGrJ n fg) (hcd : SpCdJ n fc) : SpGrJ (n + 1) (defV 2 G3.N__law_grain (G3.b__law_grain fc fd fg)) := by
  intro D g R hg hD
  have cD : cG (n + 1) = 6 + 4 * (cG n + 1) := rfl
  have fin := finJ (c := cG (n + 1)) (D := D) (g := g) (R := R) (P := Jd (n + 1)) fun p h => jd_dat h
  refine wq_def rfl ?_
  unfold G3.b__law_grain
  refine wq_seq (wq_asg (fun v G1 => ∃ (r : Int) (g1 : GO), v = .int r ∧ G1 = g1 :: R ∧ 0 ≤ r ∧ r < 7 ∧ Fd (D + 1) g1) ?_ fun v G1 ⟨r, g1, e1, e2, r0, r1, hg1⟩ => goOn_next ?_)
  · have pos : (0 : Int) < (n : Int) + 1 := by omega
    simp [env0, G3.N__law_grain, pos]
    exact wq_draw hd hg (by decide) (by decide) (by omega) fun r g1 r0 r1 hg1 => ⟨r, g1, rfl, rfl, r0, r1, hg1⟩
  subst e1 e2
  by_cases h5 : r < 5
  · refine wq_seq (wq_ifT (by simp [env0, G3.N__law_grain, h5]) (wq_ret _ (leaf4_spJ hd hg1 (by omega) (by rfl)) fun p G' ⟨g', e, h1, h2⟩ => goOn_ret (fin p G' ⟨g', [], by rw [e, List.append_nil], h1.mono (by omega), .inl h2⟩)))
  refine wq_seq (wq_ifF (by simp [env0, G3.N__law_grain, h5]) (wq_next (goOn_next ?_)))
  by_cases h6 : r = 5
  · refine wq_seq (wq_ifT (by simp [env0, G3.N__law_grain, h6]) (wq_ret (fun p G' => ∃ g', G' = g' :: R ∧ Fd (D + cG (n + 1)) g' ∧ Jd (n + 1) p) ?_ fun p G' ⟨g', e, h1, h2⟩ => goOn_ret (fin p G' ⟨g', [], by rw [e, List.append_nil], h1, h2⟩)))
    have key : @wq PV (mComp false (mRng (mCons (mA (mCons (mVar 0) (mCons (mCst (.int 3)) (mNil))) fd) (mNil))) (gN 3) (mYes) (mA (mCons (mVar 0) (mCons (m2 (mVar 1) (mCst (.int 1)) opSub) (mNil))) fg) [3] ((env0 G3.N__law_grain.length [PV.obj 0, PV.int ((n + 1 : Nat) : Int)]).set 2 (some (PV.int r))) (g1 :: R)) ⟨fun p G' => ∃ g' ys, p = .lst ys ∧ G' = g' :: R ∧ Fd (D + cG (n + 1)) g' ∧ ys.length ≤ 2 ∧ ∀ y ∈ ys, Jd n y⟩ := by
      refine wq_compRg (B := 2) (fun j G => ∃ g', G = g' :: R ∧ Fd (D + 2 + j * cG n) g') (Jd n) (by decide) ?_ ?_ ?_
      · simp [env0, G3.N__law_grain]
        exact wq_draw hd hg1 (by decide) (by decide) (by omega) fun q g2 q0 q1 hg2 => ⟨q.toNat, by rw [Int.toNat_of_nonneg q0], by omega, g2, rfl, hg2.mono (by omega)⟩
      · intro i j G _ hj ⟨g2, e, h2⟩
        subst e
        simp [env0, G3.N__law_grain, wipeE]
        have hj2 : j * cG n ≤ 1 * cG n := Nat.mul_le_mul_right _ (by omega)
        refine wq_use (hgr _ _ _ h2 (by omega)) fun p G' ⟨g3, e, h3, h4⟩ => ⟨⟨g3, e, h3.mono (by rw [Nat.succ_mul]; omega)⟩, h4⟩
      · intro ys k G hk ⟨g2, e, h2⟩ hy hl
        have hk2 : k * cG n ≤ 2 * cG n := Nat.mul_le_mul_right _ hk
        exact ⟨g2, ys, rfl, e, h2.mono (by omega), by omega, hy⟩
    simp only [mA_ap, mCons_ap, mNil_ap, mCst_ap, wq_bind, wq_ok]
    refine wq_use key fun p G' ⟨g', ys, e1, e2, h1, h2, h3⟩ => ?_
    subst e1 e2
    simp [bTup, asS, asL, size_line]
    exact ⟨h1, .inr (.inl ⟨ys, rfl, h2, h3⟩)⟩
  · refine wq_seq (wq_ifF (by simp [env0, G3.N__law_grain, h6]) (wq_next (goOn_next ?_)))
    refine wq_ret (fun p G' => ∃ g', G' = g' :: R ∧ Fd (D + cG (n + 1)) g' ∧ Jd (n + 1) p) ?_ fun p G' ⟨g', e, h1, h2⟩ => fin p G' ⟨g', [], by rw [e, List.append_nil], h1, h2⟩
    simp [env0, G3.N__law_grain]
    have := hcd 2 (by decide) (D + 1) g1 R hg1 (by omega)
    exact wq_use this fun p G' ⟨g', e, h1, kv, e2, h2⟩ => ⟨g', e, h1.mono (by omega), by rw [e2]; exact h2.up⟩
/-- a field put -/
theorem keys_putJ {kv : List (Str × PV)} {w : Str} {v : PV} {Pk : Str → Prop} {Pv : PV → Prop} (nd : (kv.map (·.1)).Nodup) (h : ∀ q ∈ kv, Pk q.1 ∧ Pv q.2) (hw : Pk w) (hv : Pv v) : ∃ kv' : List (Str × PV), putD (kd kv) (.inr w) v = kd kv' ∧ (kv'.map (·.1)).Nodup ∧ (∀ q ∈ kv', Pk q.1 ∧ Pv q.2) ∧ kv'.length ≤ kv.length + 1 := by
  unfold putD
  cases e : hasP (kd kv) (.inr w) with
  | false =>
    have nw : w ∉ kv.map (·.1) := fun m => by
      obtain ⟨q, hq, rfl⟩ := List.mem_map.mp m
      have : hasP (kd kv) (.inr q.1) = true := List.any_eq_true.mpr ⟨(.inr q.1, q.2), List.mem_map.mpr ⟨q, hq, rfl⟩, by simp⟩
      rw [this] at e; cases e
    refine ⟨kv ++ [(w, v)], by simp [kd], ?_, fun q hq => ?_, by simp⟩
    · rw [List.map_append, List.nodup_append]
      refine ⟨nd, by simp, fun a ha b hb => ?_⟩
      simp only [List.map_cons, List.map_nil, List.mem_singleton] at hb
      subst hb
      exact fun e => nw (e ▸ ha)
    · rcases List.mem_append.mp hq with m | m
      · exact h q m
      · rw [List.mem_singleton.mp m]; exact ⟨hw, hv⟩
  | true =>
    refine ⟨kv.map fun q => if q.1 = w then (q.1, v) else q, ?_, ?_, fun q hq => ?_, by simp⟩
    · simp only [if_true, kd, List.map_map]
      refine List.map_congr_left fun q _ => ?_
      by_cases e : q.1 = w
      · simp [e]
      · have e2 : ¬ ((Sum.inr q.1 : Key) = .inr w) := fun h => e (by injection h)
        simp [e]
    · have : (kv.map fun q => if q.1 = w then (q.1, v) else q).map (·.1) = kv.map (·.1) := by
        rw [List.map_map]
        exact List.map_congr_left fun q _ => by
          show (if q.1 = w then (q.1, v) else q).1 = q.1
          split <;> rfl
      rw [this]; exact nd
    · obtain ⟨p, hp, rfl⟩ := List.mem_map.mp hq
      split
      · exact ⟨(h p hp).1, hv⟩
      · exact h p hp
theorem abcd_of {c : Nat} (h0 : 97 ≤ c) (h1 : c ≤ 100) : (⟨#[c]⟩ : Str) ∈ abcd := by
  have : c = 97 ∨ c = 98 ∨ c = 99 ∨ c = 100 := by omega
  rcases this with rfl | rfl | rfl | rfl <;> simp [abcd]
theorem jt_sort {n : Nat} {kv : List (Str × PV)} (nd : (kv.map (·.1)).Nodup) (h : ∀ q ∈ kv, q.1 ∈ abcd ∧ Jd n q.2) : JT n (sortK kv) := by
  have pm : (sortK kv).Perm kv := List.mergeSort_perm _ _
  exact ⟨ri_sortK nd, fun q hq => (h q (pm.mem_iff.mp hq)).1, fun q hq => (h q (pm.mem_iff.mp hq)).2⟩
theorem card_spJ {fd fg} (hd : SpDraw fd) {n : Nat} (hn : n ≤ 5) (hgr : SpGrJ n fg) : SpCdJ n (defV 3 G3.N__law_card (G3.b__law_card fd fg)) := by
  intro t ht D g R hg hD
  refine wq_def rfl ?_
  unfold G3.b__law_card
  refine wq_seq (wq_asg (fun v G1 => v = .obj (R.length + 1) ∧ G1 = g :: (R ++ [.dic (kd [])])) (by simp [kd]) fun v G1 ⟨e1, e2⟩ => goOn_next ?_)
  subst e1 e2
  refine wq_seq ?_
  refine wq_forRg (B := 3) (fun j ρ G => ∃ (g' : GO) (kv : List (Str × PV)) (o : Option PV), ρ = [some (.obj 0), some (.int n), some (.int t), some (.obj (R.length + 1)), o] ∧ G = g' :: (R ++ [.dic (kd kv)]) ∧ Fd (D + 1 + j * (cG n + 1)) g' ∧ kv.length ≤ j ∧ (kv.map (·.1)).Nodup ∧ ∀ q ∈ kv, q.1 ∈ abcd ∧ Jd n q.2) (by decide) ?_ ?_ ?_
  · simp [env0, G3.N__law_card]
    exact wq_draw hd hg (by omega) (by omega) (by omega) fun q g2 q0 q1 hg2 => ⟨q.toNat, by rw [Int.toNat_of_nonneg q0], by omega, g2, [], none, rfl, rfl, hg2.mono (by omega), by simp, by simp, fun q hq => absurd hq List.not_mem_nil⟩
  · intro i j ρ G hi hj ⟨g', kv, o, e1, e2, h1, h2, nd, h3⟩
    subst e1 e2
    have hj2 : j * (cG n + 1) ≤ 2 * (cG n + 1) := Nat.mul_le_mul_right _ (by omega)
    simp [forStep_ap]
    refine wq_use (hgr _ _ _ h1 (by omega)) fun p G' ⟨g3, e, h4, h5⟩ => ?_
    subst e
    simp
    refine wq_draw hd h4 (by decide) (by decide) (by omega) fun r g4 r0 r1 hg4 => ?_
    obtain ⟨c, c0, c1, e⟩ := four (G := g4 :: (R ++ [.dic (kd kv)])) r0 r1
    obtain ⟨kv', k1, knd, k2, k3⟩ := keys_putJ (w := ⟨#[c]⟩) (v := p) (Pk := fun s => s ∈ abcd) (Pv := Jd n) nd h3 (abcd_of c0 c1) h5
    simp [e, setA_last k1 (by omega)]
    exact ⟨g4, kv', ⟨rfl, rfl⟩, hg4.mono (by rw [Nat.succ_mul]; omega), by omega, knd, fun a b h => k2 (a, b) h⟩
  · intro j ρ G hj ⟨g', kv, o, e1, e2, h1, h2, nd, h3⟩
    subst e1 e2
    have hj2 : j * (cG n + 1) ≤ 3 * (cG n + 1) := Nat.mul_le_mul_right _ hj
    refine goOn_next (wq_ret (fun p G' => p = treeV (sortK kv) ∧ G' = g' :: (R ++ [.dic (kd kv)])) ?_ fun p G' ⟨e1, e2⟩ => ?_)
    · simp [sort_last (show kv.length ≤ 100 by omega), bTup, asS, asL, size_line]
    · subst e1 e2
      have jt := jt_sort nd h3
      exact end_fd h1 (jd_dat jt.up) ⟨g', rfl, h1.mono (by omega), sortK kv, rfl, jt⟩
end EV.NV
end
section
/-! Y1: moves of documents, what they make (k44). -/
set_option Elab.async false
set_option linter.all false
set_option maxRecDepth 100000
set_option maxHeartbeats 1000000
namespace EV.NV
open PySem PySem.Spec PyProof.Rows L2
theorem key_le (p q : Str × PV) : PySem.W.dataLe false key0 (fldV p) (fldV q) = leT p.1 q.1 := by
  show (!PyProof.Rows.lexLt PyProof.Rows.itemOrd [Sum.inr q.1.cps.toList] [Sum.inr p.1.cps.toList]) = decide (p.1.cps.toList ≤ q.1.cps.toList)
  rw [PyProof.Rows.lex_cons]
  have e : PyProof.Rows.lexLt PyProof.Rows.itemOrd [] [] = false := rfl
  rw [e, Bool.and_false, Bool.or_false]
  show (!decide (q.1.cps.toList < p.1.cps.toList)) = _
  by_cases h : q.1.cps.toList < p.1.cps.toList
  · have : ¬ p.1.cps.toList ≤ q.1.cps.toList := fun k => (List.not_le.mpr h) k
    simp [h, this]
  · have : p.1.cps.toList ≤ q.1.cps.toList := List.not_lt.mp h
    simp [h, this]
theorem sort0_kv {kv : List (Str × PV)} {n : Nat} {G : GH} (h : G[n]? = some (.lst (kv.map fldV))) (hl : kv.length ≤ 1000) : bSort0 false [.obj n] G = .ok (.lst ((sortK kv).map fldV)) G := by
  have hmap : (kv.map fldV).mergeSort (PySem.W.dataLe false key0) = (sortK kv).map fldV :=
    (List.map_mergeSort (f := fldV) (r := fun p q => leT p.1 q.1) (s := PySem.W.dataLe false key0) (fun a _ b _ => (key_le a b).symm)).symm
  have h1 : (kv.map fldV).all strs0 = true := by simp [List.all_eq_true, strs0]
  have h2 : ((sortK kv).map fldV).length ≤ sizeLine := by
    rw [size_line, List.length_map]
    have : (sortK kv).length = kv.length := List.length_mergeSort ..
    omega
  simp only [bSort0, asL, h, h1, Bool.true_or, if_true, mkL, hmap, if_pos h2]
  rfl
/-- one sorting of what is alike but for its order -/
theorem sortK_perm {a b : List (Str × PV)} (p : a.Perm b) (nd : (a.map (·.1)).Nodup) : sortK a = sortK b := by
  have h1 := ri_sortK nd
  have h2 := ri_sortK ((p.map (·.1)).nodup_iff.mp nd)
  have pp : (sortK a).Perm (sortK b) := (List.mergeSort_perm _ _).trans (p.trans (List.mergeSort_perm _ _).symm)
  have s1 : (sortK a).Pairwise fun x y => leT x.1 y.1 = true ∧ x.1 ≠ y.1 := List.pairwise_map.mp h1.lt
  have s2 : (sortK b).Pairwise fun x y => leT x.1 y.1 = true ∧ x.1 ≠ y.1 := List.pairwise_map.mp h2.lt
  exact List.Perm.eq_of_pairwise (le := fun x y => leT x.1 y.1 = true ∧ x.1 ≠ y.1) (fun x y _ _ h k => absurd (leT_anti h.1 k.1) h.2) s1 s2 pp
def abcde : List Str := abcd ++ [⟨#[101]⟩]
theorem ok_abcde : ∀ s ∈ abcde, PyData.strOk s = true ∧ s.cps.size ≤ 1 := by decide +kernel
/-- a value of a document, however deep -/
inductive Wf : PV → Prop
  | leaf {p : PV} (h : p ∈ leavesJ) : Wf p
  | row {xs : List PV} (l : xs.length ≤ 2) (h : ∀ x ∈ xs, Wf x) : Wf (rowV xs)
  | tree {kv : List (Str × PV)} (r : Ri (kv.map (·.1))) (a : ∀ q ∈ kv, q.1 ∈ abcde) (h : ∀ q ∈ kv, Wf q.2) : Wf (treeV kv)
structure Dk (kv : List (Str × PV)) : Prop where
  ri : Ri (kv.map (·.1))
  ab : ∀ q ∈ kv, q.1 ∈ abcde
  wf : ∀ q ∈ kv, Wf q.2
theorem Dk.tree {kv : List (Str × PV)} (h : Dk kv) : Wf (treeV kv) := .tree h.ri h.ab h.wf
theorem fldV_inj {a b : List (Str × PV)} (e : a.map fldV = b.map fldV) : a = b := by
  have := congrArg unf e
  rwa [unf_map, unf_map] at this
theorem Wf.dk {kv : List (Str × PV)} (h : Wf (treeV kv)) : Dk kv := by
  generalize e : treeV kv = p at h
  cases h with
  | leaf h =>
    subst e
    have := List.all_eq_true.mp (show leavesJ.all (fun p => !isTup p) = true by decide +kernel) _ h
    cases this
  | row l h =>
    exfalso
    injection e with e
    injection e with e1 e2
    injection e1 with e1
    exact absurd e1 (by decide)
  | @tree kw r a h =>
    injection e with e
    injection e with e1 e2
    injection e2 with e2 e3
    injection e2 with e2
    have := fldV_inj e2
    subst this
    exact ⟨r, a, h⟩
theorem jd_wf : ∀ {n : Nat} {p : PV}, Jd n p → Wf p
  | 0, p, h => .leaf h
  | n + 1, p, h => by
    rcases h with h | ⟨xs, rfl, l, h⟩ | ⟨kv, rfl, r, k, h⟩
    · exact .leaf h
    · exact .row l fun x hx => jd_wf (h x hx)
    · exact .tree r (fun q hq => List.mem_append_left _ (k q hq)) fun q hq => jd_wf (h q hq)
theorem leafJ_s (p : PV) (h : p ∈ leavesJ) : SmI 20 0 5 p := (leafJ_sm (w := 20) (d := 0) (m := 5) h (by decide) (by decide)).mono (by decide) (by decide) (by decide)
theorem Dk.len {kv : List (Str × PV)} (h : Dk kv) : kv.length ≤ 5 := by
  have := nd_len h.ri.nd (l := abcde) fun w hw => by obtain ⟨q, hq, rfl⟩ := List.mem_map.mp hw; exact h.ab q hq
  rwa [List.length_map] at this
theorem wf_not {p : PV} (h : Wf p) : isNon p = false := by
  cases h with
  | leaf h =>
    have := List.all_eq_true.mp (show leavesJ.all (fun p => !isNon p) = true by decide +kernel) _ h
    simpa using this
  | row l h => rfl
  | tree r a h => rfl
/-- what repr needs, but the sizes -/
theorem wf_fit : ∀ {p : PV}, Wf p → fitX p = true ∧ lnm p ≤ 5 ∧ mxi p ≤ 9 := by
  intro p h
  induction h with
  | leaf h => exact ⟨(leafJ_s _ h).1.f, (leafJ_s _ h).1.m, (leafJ_s _ h).2⟩
  | @row xs l h ih =>
    have f := fitXs_of fun x hx => (ih x hx).1
    have l1 := lnms_le (d := 5) fun x hx => (ih x hx).2.1
    have m1 := mxis_le (d := 9) fun x hx => (ih x hx).2.2
    have ok : PyData.strOk ("row" : Str) = true ∧ ("row" : Str).cps.size ≤ 3 := by decide +kernel
    refine ⟨by simp [rowV, fitX, fitXs, f, ok.1]; omega, by simp [rowV, lnm, lnms]; omega, by simp [rowV, mxi, mxis]; omega⟩
  | @tree kv r a h ih =>
    have hl := Dk.len ⟨r, a, h⟩
    have f : fitXs (kv.map fldV) = true := fitXs_of fun x hx => by
      obtain ⟨q, hq, rfl⟩ := List.mem_map.mp hx
      have w := ok_abcde _ (a q hq)
      simp [fldV, fitX, fitXs, (ih q hq).1, w.1]; omega
    have l1 : lnms (kv.map fldV) ≤ 5 := lnms_le fun x hx => by
      obtain ⟨q, hq, rfl⟩ := List.mem_map.mp hx
      have := (ih q hq).2.1
      simp [fldV, lnm, lnms]; omega
    have m1 : mxis (kv.map fldV) ≤ 9 := mxis_le fun x hx => by
      obtain ⟨q, hq, rfl⟩ := List.mem_map.mp hx
      have := (ih q hq).2.2
      simp [fldV, mxi, mxis]; omega
    have ok : PyData.strOk ("tree" : Str) = true ∧ ("tree" : Str).cps.size ≤ 4 := by decide +kernel
    refine ⟨by simp [treeV, fitX, fitXs, f, ok.1]; omega, by simp [treeV, lnm, lnms]; omega, by simp [treeV, mxi, mxis]; omega⟩
theorem Wf.dat {p : PV} (h : Wf p) : datB p = true := dat_of_fitX (wf_fit h).1
/-! ### what a move makes -/
inductive Sh where
  | put (w : Str) (v : PV)
  | move (w o : Str)
  | cut (w : Str)
  | into (w o : Str)
  | out (w o : Str)
def shV : Sh → PV
  | .put w v => .tup [.str "put", .str w, v]
  | .move w o => .tup [.str "move", .str w, .str o]
  | .cut w => .tup [.str "cut", .str w]
  | .into w o => .tup [.str "into", .str w, .str o]
  | .out w o => .tup [.str "out", .str w, .str o]
def cutK (w : Str) (kv : List (Str × PV)) : List (Str × PV) := kv.filter fun q => decide (q.1 ≠ w)
/-- with a field otherwise -/
def witK (kv : List (Str × PV)) (w : Str) (v : PV) : List (Str × PV) := sortK (cutK w kv ++ [(w, v)])
def mvP (kv : List (Str × PV)) : Sh → Option (List (Str × PV))
  | .put w v => match getF kv w with
    | some _ => some kv
    | none => some (witK kv w v)
  | .cut w => some (cutK w kv)
  | .into w o => match getF kv w with
    | none => some kv
    | some x => some (witK kv w (treeV [(o, x)]))
  | .move w o => match getF kv w with
    | none => some kv
    | some x => if (getF kv o).isSome = true then none else some (witK (cutK w kv) o x)
  | .out w o => match getF kv w with
    | none => some kv
    | some x => match kids x with
      | none => none
      | some ku => match getF ku o with
        | none => some kv
        | some y => if (getF kv o).isSome = true then none else some (witK (witK kv w (treeV (cutK o ku))) o y)
def oP : Option (List (Str × PV)) → PV
  | none => .non
  | some kv => treeV kv
structure ShOk (s : Sh) : Prop where
  w : match s with
    | .put w v => w ∈ abcde ∧ Wf v
    | .move w o => w ∈ abcde ∧ o ∈ abcde
    | .cut w => w ∈ abcde
    | .into w o => w ∈ abcde ∧ o ∈ abcde
    | .out w o => w ∈ abcde ∧ o ∈ abcde
theorem cut_keys {kv : List (Str × PV)} {w : Str} : w ∉ (cutK w kv).map (·.1) := fun h => by
  obtain ⟨q, hq, e⟩ := List.mem_map.mp h
  have := (List.mem_filter.mp hq).2
  simp [e] at this
theorem cut_sub {kv : List (Str × PV)} {w : Str} : (cutK w kv).Sublist kv := List.filter_sublist
theorem cut_of {kv : List (Str × PV)} {w : Str} (h : w ∉ kv.map (·.1)) : cutK w kv = kv := by
  refine List.filter_eq_self.mpr fun q hq => ?_
  have : q.1 ≠ w := fun e => h (List.mem_map.mpr ⟨q, hq, e⟩)
  simp [this]
theorem getF_none {kv : List (Str × PV)} {w : Str} (h : getF kv w = none) : w ∉ kv.map (·.1) := fun m => by
  obtain ⟨q, hq, e⟩ := List.mem_map.mp m
  unfold getF at h
  rw [Option.map_eq_none_iff, List.find?_eq_none] at h
  exact absurd (h q hq) (by simp [e])
theorem getF_some_mem {kv : List (Str × PV)} {w : Str} {v : PV} (h : getF kv w = some v) : w ∈ kv.map (·.1) := List.mem_map.mpr ⟨_, get_mem h, rfl⟩
theorem getF_is {kv : List (Str × PV)} {w : Str} (h : (getF kv w).isSome = false) : w ∉ kv.map (·.1) := getF_none (by
  cases e : getF kv w with
  | none => rfl
  | some x => rw [e] at h; cases h)
theorem Dk.cut {kv : List (Str × PV)} (h : Dk kv) (w : Str) : Dk (cutK w kv) := ⟨h.ri.sub (cut_sub.map _), fun q hq => h.ab q (cut_sub.subset hq), fun q hq => h.wf q (cut_sub.subset hq)⟩
theorem wit_nd {kv : List (Str × PV)} (h : (kv.map (·.1)).Nodup) {w : Str} {v : PV} : ((cutK w kv ++ [(w, v)]).map (·.1)).Nodup := by
  rw [List.map_append, List.nodup_append]
  refine ⟨h.sublist (cut_sub.map _), by simp, fun a ha b hb => ?_⟩
  have : b = w := by simpa using hb
  subst this
  exact fun e => cut_keys (e ▸ ha)
theorem wit_mem {kv : List (Str × PV)} {w : Str} {v : PV} {q : Str × PV} (h : q ∈ witK kv w v) : q = (w, v) ∨ q ∈ kv := by
  have : q ∈ cutK w kv ++ [(w, v)] := (List.mergeSort_perm _ _).mem_iff.mp h
  rcases List.mem_append.mp this with h | h
  · exact .inr (cut_sub.subset h)
  · exact .inl (List.mem_singleton.mp h)
theorem Dk.wit {kv : List (Str × PV)} (h : Dk kv) {w : Str} {v : PV} (hw : w ∈ abcde) (hv : Wf v) : Dk (witK kv w v) where
  ri := ri_sortK (wit_nd h.ri.nd)
  ab := fun q hq => by
    rcases wit_mem hq with e | m
    · rw [e]; exact hw
    · exact h.ab q m
  wf := fun q hq => by
    rcases wit_mem hq with e | m
    · rw [e]; exact hv
    · exact h.wf q m
theorem dk_one {o : Str} {x : PV} (ho : o ∈ abcde) (hx : Wf x) : Dk [(o, x)] := ⟨⟨by simp, by simp⟩, fun q hq => by rw [List.mem_singleton.mp hq]; exact ho, fun q hq => by rw [List.mem_singleton.mp hq]; exact hx⟩
theorem Dk.get {kv : List (Str × PV)} (h : Dk kv) {w : Str} {x : PV} (e : getF kv w = some x) : Wf x := h.wf _ (get_mem e)
theorem wf_kids {x : PV} {ku : List (Str × PV)} (h : Wf x) (e : kids x = some ku) : x = treeV ku ∧ Dk ku := by
  cases h with
  | leaf h =>
    have := List.all_eq_true.mp (show leavesJ.all (fun p => (kids p).isNone) = true by decide +kernel) _ h
    rw [e] at this; cases this
  | row l h => rw [kids_row] at e; cases e
  | @tree kv r a h =>
    rw [kids_tree] at e
    cases e
    exact ⟨rfl, r, a, h⟩
theorem mv_dk {kv kw : List (Str × PV)} {s : Sh} (h : Dk kv) (hs : ShOk s) (e : mvP kv s = some kw) : Dk kw := by
  have hs := hs.w
  cases s with
  | put w v =>
    have e : (match getF kv w with
      | some _ => some kv
      | none => some (witK kv w v)) = some kw := e
    split at e
    · cases e; exact h
    · cases e; exact h.wit hs.1 hs.2
  | cut w => cases e; exact h.cut w
  | into w o =>
    have e : (match getF kv w with
      | none => some kv
      | some x => some (witK kv w (treeV [(o, x)]))) = some kw := e
    split at e
    · cases e; exact h
    · rename_i x g
      cases e; exact h.wit hs.1 (dk_one hs.2 (h.get g)).tree
  | move w o =>
    have e : (match getF kv w with
      | none => some kv
      | some x => if (getF kv o).isSome = true then none else some (witK (cutK w kv) o x)) = some kw := e
    split at e
    · cases e; exact h
    · rename_i x g
      split at e
      · cases e
      · cases e; exact (h.cut w).wit hs.2 (h.get g)
  | out w o =>
    have e : (match getF kv w with
      | none => some kv
      | some x => match kids x with
        | none => none
        | some ku => match getF ku o with
          | none => some kv
          | some y => if (getF kv o).isSome = true then none else some (witK (witK kv w (treeV (cutK o ku))) o y)) = some kw := e
    split at e
    · cases e; exact h
    · rename_i x g
      split at e
      · cases e
      · rename_i ku k
        obtain ⟨rfl, hu⟩ := wf_kids (h.get g) k
        split at e
        · cases e; exact h
        · rename_i y gy
          split at e
          · cases e
          · cases e; exact (h.wit hs.1 (hu.cut o).tree).wit hs.2 (hu.get gy)
end EV.NV
end
section
set_option Elab.async false
set_option linter.all false
set_option maxRecDepth 100000
/-! Ev25: sorted by keys of two: a number, then what has one kind by it. -/
namespace EV
open PySem PySem.W PySem.Calls PyProof.Rows
section
variable {prog : Program} {w : World} {A : Around} {s : Shared}
end
end EV
end
section
set_option Elab.async false
set_option linter.all false
set_option maxRecDepth 100000
/-! Ev26: sorted(xs, key=f), f's keys of two: a number, then what has one kind by it. -/
namespace EV
open PySem PySem.W PySem.Calls PyProof.Rows
/-! ### heaps in which all stays but the slots of frames -/
structure Kp (fr : List Addr) (h h' : Heap) : Prop where
  keep : ∀ b o, h.get? b = some o → b ∉ fr → h'.get? b = some o
  slot : ∀ b o, h.get? b = some o → b ∈ fr → ∃ sl, h'.get? b = some { o with slots := sl }
theorem Kp.refl (fr : List Addr) (h : Heap) : Kp fr h h := ⟨fun _ _ e _ => e, fun b o e _ => ⟨o.slots, e⟩⟩
theorem Kp.trans {fr : List Addr} {h h' h'' : Heap} (a : Kp fr h h') (b : Kp fr h' h'') : Kp fr h h'' :=
  ⟨fun c o e n => b.keep c o (a.keep c o e n) n, fun c o e n => by
    obtain ⟨sl, e1⟩ := a.slot c o e n
    obtain ⟨sl2, e2⟩ := b.slot c _ e1 n
    exact ⟨sl2, e2⟩⟩
theorem Kp.of {fr : List Addr} {h h' : Heap} (k : ∀ b o, h.get? b = some o → h'.get? b = some o) : Kp fr h h' := ⟨fun b o e _ => k b o e, fun b o e _ => ⟨o.slots, k b o e⟩⟩
theorem Kp.any {fr : List Addr} {h h' : Heap} (a : Kp fr h h') {b : Addr} {o : Obj} (e : h.get? b = some o) : ∃ o', h'.get? b = some o' ∧ o'.cls = o.cls ∧ o'.data = o.data := by
  by_cases n : b ∈ fr
  · obtain ⟨sl, e1⟩ := a.slot b o e n
    exact ⟨_, e1, rfl, rfl⟩
  · exact ⟨o, a.keep b o e n, rfl, rfl⟩
/-- the same but at one place -/
structure KpB (l : Addr) (fr : List Addr) (h h' : Heap) : Prop where
  keep : ∀ b o, b ≠ l → h.get? b = some o → b ∉ fr → h'.get? b = some o
  slot : ∀ b o, b ≠ l → h.get? b = some o → b ∈ fr → ∃ sl, h'.get? b = some { o with slots := sl }
theorem KpB.then {l : Addr} {fr : List Addr} {h h' h'' : Heap} (a : KpB l fr h h') (b : Kp fr h' h'') : KpB l fr h h'' :=
  ⟨fun c o nl e n => b.keep c o (a.keep c o nl e n) n, fun c o nl e n => by
    obtain ⟨sl, e1⟩ := a.slot c o nl e n
    obtain ⟨sl2, e2⟩ := b.slot c _ e1 n
    exact ⟨sl2, e2⟩⟩
theorem KpB.same {l c : Addr} {fr : List Addr} {h h' h'' : Heap} (a : KpB l fr h h') (b : Heap.SameBut c h' h'') (hc : c = l ∨ h.get? c = none) : KpB l fr h h'' := by
  have ne : ∀ x o, x ≠ l → h.get? x = some o → x ≠ c := fun x o nl e z => by
    rcases hc with hc | hc
    · exact nl (z.trans hc)
    · rw [z, hc] at e; cases e
  exact ⟨fun x o nl e n => (b.2 x (ne x o nl e)).trans (a.keep x o nl e n), fun x o nl e n => by
    obtain ⟨sl, e1⟩ := a.slot x o nl e n
    exact ⟨sl, (b.2 x (ne x o nl e)).trans e1⟩⟩
/-- the heap's first objects alone -/
def cutH (h : Heap) (n : Nat) : Heap := { h with objs := h.objs.take n }
theorem cut_at {h : Heap} {n b : Nat} : (h.objs.take n)[b]? = if b < n then h.objs[b]? else none := by
  rw [Array.take_eq_extract, Array.getElem?_extract]
  by_cases h1 : b < n
  · rw [if_pos h1]
    split
    · simp
    · rename_i h2
      symm
      apply Array.getElem?_eq_none
      omega
  · rw [if_neg h1, if_neg (by omega)]
theorem cut_lt {h : Heap} {n b : Nat} (hb : b < n) : (cutH h n).get? b = h.get? b := by
  have e : (cutH h n).objs[b]? = h.objs[b]? := (cut_at (h := h)).trans (if_pos hb)
  simp only [Heap.get?, e]
theorem cut_get {h : Heap} {n b : Nat} {o : Obj} (e : (cutH h n).get? b = some o) : b < n ∧ h.get? b = some o := by
  by_cases hb : b < n
  · exact ⟨hb, (cut_lt hb).symm.trans e⟩
  · have e2 : (cutH h n).objs[b]? = none := (cut_at (h := h)).trans (if_neg hb)
    simp only [Heap.get?, e2] at e
    cases e
theorem cut_of {h : Heap} {n b : Nat} {o : Obj} (hb : b < n) (e : h.get? b = some o) : (cutH h n).get? b = some o := (cut_lt hb).trans e
section
variable {prog : Program} {w : World} {A : Around} {s : Shared} {P : PySem.Fin → Shared → Prop} {E : Value → Shared → Prop} {l ka : Addr} {ep : Nat} {vs : List Value} {kz : List PyData} {fr : List Addr}
/-- f's calls, one by one: the keys gather in the list ka -/
structure Gath (h0 : Heap) (l ka : Addr) (ep : Nat) (fr : List Addr) (kz : List PyData) (s0 : Shared) (i : Nat) (s1 : Shared) : Prop where
  ex : ∃ (h1 : Heap) (tk : Nat) (ks : Array Value) (e1 : Nat) (gn : Array GenState) (dn : Drawn), s1 = { s0 with heap := h1, toks := tk, gens := gn, drawn := dn } ∧ PyProof.Rows.AllBare gn ∧ KpB l fr h0 h1 ∧ s0.heap.objs.size ≤ h1.objs.size ∧ h1.get? ka = some (seqObj "list" ks e1) ∧ h1.get? l = some (seqObj "list" #[] ep) ∧ EachIs (fun v k => Reads h1 v k [] ∧ alike k k = true) ks.toList (kz.take i)
end
end EV
end
section
set_option Elab.async false
set_option linter.all false
set_option maxRecDepth 100000
/-! Ev27: a lambda that calls a def of the text, its value a key of two. -/
namespace EV
open PySem PySem.Spec PyProof.Rows L2 RZ Zs
end EV
end
section
set_option Elab.async false
set_option linter.all false
set_option maxRecDepth 100000
/-! Ev28: sorted(xs, key=lambda x: f(x)), f a def of the text. -/
namespace EV
open PySem PySem.Spec PyProof.Rows L2 RZ Zs
section
variable {P : Program} {w : World} {K : PySem.W.Frag} {mg : Str → Option Value} {base : Heap} {F : Fx} {A : Around} {s : Shared} {outer : List PySem.Env}
end
end EV
end
section
set_option Elab.async false
set_option linter.all false
set_option maxRecDepth 100000
/-! Ev29: sorted(xs, key=lambda x: f(x)), as the evaluator has it. -/
namespace EV
open PySem PySem.Spec PyProof.Rows L2 RZ Zs
/-- a def that tells keys, where nothing is tracked -/
structure KeyP (P : Program) (w : World) (K : PySem.W.Frag) (mg : Str → Option Value) (base : Heap) (x : Str) (m : List PV → GH → Res PV) : Prop where
  ex : ∃ (ca : Nat → Addr) (m1 : List PV → GH → Res PV), CalleeP P w K mg base ⟨K, ca, []⟩ 1 x 1 m1 ∧ ∀ qs G, m qs G = .bad ∨ m qs G = m1 qs G
def gateB (r : Res PV) : Bool := match r with
  | .bad => false
  | _ => true
section
variable {X : Cx} {F : Fx} {Ex : XK} {n : Nat} {μ : Mu} {H : Hp} {G : GH}
end
end EV
end
section
set_option Elab.async false
set_option linter.all false
set_option maxRecDepth 100000
set_option maxHeartbeats 1000000
/-! Ev54: raise C(..), C an own class over an own one over ValueError, whose __init__ keeps its fields. -/
namespace EV
open PySem PySem.Spec PyProof.Rows L2
/-- what the written part says of the base class D -/
structure XBase (K : PySem.W.Frag) (D : Addr) : Prop where
  rd : ClX.CRead K D (.type "type")
  ini : PySem.W.findCls K (.ref D) (.type "type") "__init__" = some (.val (.builtin "ValueError.__init__"))
/-- .. of the class C with its fields -/
structure XCls (K : PySem.W.Frag) (C fI : Addr) (fs : List Str) : Prop where
  oex : OexC K C
  ini : PySem.W.findIn K (.ref C) "__init__" = some (some (.ref fI))
  tyI : PySem.W.typeIn K (.ref fI) = some (.type "function")
  noat : ∀ f ∈ fs, PySem.W.findIn K (.ref C) f = some none
section
variable {X : Cx} {e : Expr} {es : List Expr} {ta : TA} {p p1 p2 pos : Pos} {x : Str} {D : Addr}
/-- D.__init__(self, ..), D an own class that has ValueError's -/
theorem pe_binit {pl : Sem Bool} (hg : Gl X x) (hm : X.mg x = some (.ref D)) (B : XBase X.K D) (ha : PA X (e :: es) ta) (hdb : (x == ("__debug__" : Str)) = false)
    (hc : eval (.Call (.Attribute (.Name x p1) "__init__" p2) (e :: es) [] pos) X.env = (do
      let ov ← eval (.Name x p1) X.env
      standAt p2.atName
      let (f, first) ← holding [ov] (getMethod ov "__init__" pl)
      callWith pos f first (backTo pos (starEach (e :: es) X.env)) (backToKw pos (keywordEach [] X.env))) := by rfl)
    (he : starEach (e :: es) X.env = (false, eval e X.env) :: starEach es X.env := by rfl) (hpl : (backTo pos (starEach es X.env)).any (·.1) = false := by rfl) :
    PE X (.Call (.Attribute (.Name x p1) "__init__" p2) (e :: es) [] pos) (tVeI X.K ta) := by
  refine ⟨fun pins s σ H Q I h => ?_⟩
  refine PySem.W.methodCall_KW (ld_glob I hg hm ?_ hdb) hc
  refine PySem.W.method_cls I.kIn B.rd.ga (PySem.W.cls_value I.kIn B.rd.rd B.ini (by decide +kernel) ?_)
  show wpAny _ _ (callWith pos (Value.builtin "ValueError.__init__") [] (backTo pos (starEach (e :: es) X.env)) []) _ _ _
  refine PyProof.Rows.callWith_method1 (thn (ha.run pos pins _ σ H _ (I.tok _) h) fun us s1 ⟨vs, H1, I1, r1, a, C, ws, ev, hl, T, ea, q⟩ => ?_) he hpl
  subst ev
  cases r1 with
  | @cons _ u0 _ ur ra rw' =>
    obtain rfl : u0 = Value.ref a := ra
    have hlen : ur.length ≤ sizeLine := by
      rw [← Paired.length rw', sizeLine_eq]
      omega
    exact oinit_ok T I1 ea hlen fun s' J => ⟨.non, H1, J, rfl, q⟩
end
/-- what such an __init__ does, of two fields -/
def spI2 (K : PySem.W.Frag) (C : Addr) (f1 f2 : Str) : Sp := fun vs H Q _ => ∃ (a : Addr) (v1 v2 : V), vs = [.ref a, v1, v2] ∧ H a = some (exo a C none) ∧
  ∀ dx, H dx = none → dx ≠ a → Q .non (upd (upd (upd H dx (exd dx [(f1, v1)])) a (exo a C (some dx))) dx (exd dx [(f2, v2), (f1, v1)]))
/-- .. of one -/
def spI1 (K : PySem.W.Frag) (C : Addr) (f1 : Str) : Sp := fun vs H Q _ => ∃ (a : Addr) (v1 : V), vs = [.ref a, v1] ∧ H a = some (exo a C none) ∧
  ∀ dx, H dx = none → dx ≠ a → Q .non (upd (upd H dx (exd dx [(f1, v1)])) a (exo a C (some dx)))
/-- the call is one of a name's attribute -/
def AttrCall (x : Str) (es : List Expr) (p1 p2 pos : Pos) : Prop := ∀ env : PySem.Env, ∃ pl : Sem Bool, eval (.Call (.Attribute (.Name x p1) "__init__" p2) es [] pos) env = (do
      let ov ← eval (.Name x p1) env
      standAt p2.atName
      let (f, first) ← holding [ov] (getMethod ov "__init__" pl)
      callWith pos f first (backTo pos (starEach es env)) (backToKw pos (keywordEach [] env)))
section
variable {P : Program} {w : World} {K : PySem.W.Frag} {mg : Str → Option Value} {base : Heap} {C D fI : Addr} {fd : FuncData} {pa : Arguments} {sc : Scope} {x q f1 f2 z : Str} {j : Nat} {p1 p2 p3 p4 p5 p6 p7 p8 p9 p10 p11 p12 p13 : Pos} {k : Nat}
theorem init2 {P1 : Pos} (Fd : FunD K "__init__" q pa [.Expr (.Call (.Attribute (.Name x p1) "__init__" p2) [.Name "self" p3, .Constant (.str z) j p4] [] p5) p6, .Assign [.Attribute (.Name "self" p7) f1 p8] (.Name f1 p9) p10, .Assign [.Attribute (.Name "self" p11) f2 p12] (.Name f2 p13) P1] sc [] [] fI fd)
    (S : FnScope ["self", f1, f2] ["self", f1, f2] sc) (hx : sc.names.lookup x = some .globalImplicit) (hm : mg x = some (.ref D)) (B : XBase K D) (T : XCls K C fI [f1, f2]) (hcall : AttrCall x [.Name "self" p3, .Constant (.str z) j p4] p1 p2 p5) (hdb : (x == ("__debug__" : Str)) = false)
    (v0 : Vis sc "self") (v1 : Vis sc f1) (v2 : Vis sc f2) (d1 : (f1 == ("__debug__" : Str)) = false) (d2 : (f2 == ("__debug__" : Str)) = false) (c1 : (f1 == ("__classdict__" : Str)) = false) (c2 : (f2 == ("__classdict__" : Str)) = false) :
    FnOk P w K mg base (L2.CX P w) (k + 1) fI fd ["self", f1, f2] (spI2 K C f1 f2) :=
  Fd.ok S (fun vs H Q E ⟨a, u1, u2, e, _⟩ => by rw [e]; rfl) fun cdv A outer s H vs Q E hr ⟨a, u1, u2, e, ha, hq⟩ => by
    subst e
    let Y := cxOf (L2.CX P w) P w K mg base ["self", f1, f2] q sc fI cdv A outer s H E
    have n0 : Y.N[0]? = some ("self" : Str) := rfl
    have n1 : Y.N[1]? = some f1 := rfl
    have n2 : Y.N[2]? = some f2 := rfl
    have es : PE Y (.Name "self" p3) (tVar 0) := pe_var n0 v0
    have e1 : PE Y (.Name f1 p9) (tVar 1) := pe_var n1 v1 d1 c1
    have e2 : PE Y (.Name f2 p13) (tVar 2) := pe_var n2 v2 d2 c2
    obtain ⟨pl, hpl⟩ := hcall Y.env
    refine ⟨_, pss_cons (ps_expr (pe_binit (X := Y) (pl := pl) (show Y.env.kindOf x = some .globalImplicit from hx) hm B (pa_cons es (pa_cons pe_str pa_nil)) hdb hpl)) (pss_cons (ps_ost (pe_var (pos := p7) n0 v0) e1) (pss_cons (ps_ost (pe_var (pos := p11) n0 v0) e2) pss_nil)), ?_⟩
    refine ⟨.ref a, rfl, a, C, [.str z], rfl, by simp, T.oex, ha, ?_⟩
    refine ⟨u1, rfl, .ref a, rfl, a, C, rfl, T.oex, T.noat _ (by simp), .inl ⟨ha, fun dx hd hne => ?_⟩⟩
    refine ⟨u2, rfl, .ref a, rfl, a, C, rfl, T.oex, T.noat _ (by simp), .inr ⟨dx, [(f1, u1)], upd_same, ?_, by simp, hq dx hd hne⟩⟩
    rw [upd_ne hne, upd_same]
end
/-! ### raise -/
/-- raise C(..): the class's number, its fields -/
def sRaise (gt : Bool) (c : Nat) (fl : List Str) (ms : Env → GH → Res (List PV)) : Env → GH → Res Fl := if gt = true then fun ρ G => (ms ρ G).bind fun vs G1 => if vs.length = fl.length then .exc c (fl.zip vs).reverse G1 else .bad else fun _ _ => .bad
/-- a def's __init__ as raise needs it -/
inductive XMk (P : Program) (w : World) (K : PySem.W.Frag) (mg : Str → Option Value) (base : Heap) (C : Addr) : List Str → Prop
  | two {f1 f2 : Str} {fI : Addr} {fd : FuncData} (T : XCls K C fI [f1, f2]) (ok : FnOk P w K mg base (L2.CX P w) 1 fI fd ["self", f1, f2] (spI2 K C f1 f2)) (b : Binds K fd ["self", f1, f2] []) : XMk P w K mg base C [f1, f2]
  | one {f1 : Str} {fI : Addr} {fd : FuncData} (T : XCls K C fI [f1]) (ok : FnOk P w K mg base (L2.CX P w) 1 fI fd ["self", f1] (spI1 K C f1)) (b : Binds K fd ["self", f1] []) : XMk P w K mg base C [f1]
section
variable {X : Cx} {F : Fx} {Ex : XK} {n : Nat} {e : Expr} {es : List Expr} {x : Str} {p pos rpos : Pos} {c : Nat} {fl : List Str} {ms : Env → GH → Res (List PV)} {gt : Bool}
theorem ps_false {st : Stmt} {t : TS} (h : ∀ D σ H, t D σ H → False) : PS X st t := ⟨fun pins s σ H D I q => (h D σ H q).elim⟩
/-- the heap behind the making -/
theorem made_heap {H : Hp} {a d C : Addr} {o1 o2 o3 o4 : HO} {fs : List (Str × V)} (hn : H a = none) (hne : d ≠ a) : upd (del (upd (upd (upd (upd H a o1) d o2) a o3) d o4) a) d (.xd fs) = upd H d (.xd fs) := by
  funext b
  by_cases hb : b = d
  · rw [hb, upd_same, upd_same]
  · rw [upd_ne hb, upd_ne hb]
    by_cases ha : b = a
    · rw [ha, del_same, hn]
    · rw [del_ne ha, upd_ne hb, upd_ne ha, upd_ne hb, upd_ne ha]
theorem made_heap1 {H : Hp} {a d C : Addr} {o1 o2 o3 : HO} {fs : List (Str × V)} (hn : H a = none) (hne : d ≠ a) : upd (del (upd (upd (upd H a o1) d o2) a o3) a) d (.xd fs) = upd H d (.xd fs) := by
  funext b
  by_cases hb : b = d
  · rw [hb, upd_same, upd_same]
  · rw [upd_ne hb, upd_ne hb]
    by_cases ha : b = a
    · rw [ha, del_same, hn]
    · rw [del_ne ha, upd_ne ha, upd_ne hb, upd_ne ha]
theorem repF_rev {μ : Mu} {H : Hp} {a b : Str} {p q : PV} {u v : V} (h1 : Rep F μ H p u) (h2 : Rep F μ H q v) : RepF F μ H [(b, q), (a, p)] [(b, v), (a, u)] := .cons ⟨rfl, h2⟩ (.cons ⟨rfl, h1⟩ .nil)
/-- what the making leaves: an exception, its dict -/
theorem exc_new {μ : Mu} {H : Hp} {G : GH} {d : Addr} {fs : List (Str × PV)} {fvs : List (Str × V)} {α β : Type} {R : RelA α β} {Q : β → Hp → Prop} (g : HRep F μ H G) (hd : H d = none) (r : RepF F μ H fs fvs) (h : Post F R Ex μ H (.exc c fs G : Res α) Q) : Ex (.ref (F.ca c)) (some d) (upd H d (.xd fvs)) :=
  h μ d (upd H d (.xd fvs)) fvs (Ext.upd_new g hd) (g.upd_new hd) upd_same (g.fresh hd) (r.mono (Ext.upd_new g hd))
theorem ev_raise (g : GX X F Ex n) (tk : Takes X fun cls d _ H => Ex cls d H) (hgt : gt = true → 3 ≤ n) (M : XMk X.prog X.w X.K X.mg X.base (F.ca c) fl) (hm : X.mg x = some (.ref (F.ca c))) (ha : PA X (e :: es) (TAv F Ex ms)) (hg : Gl X x)
    (hdb : (x == ("__debug__" : Str)) = false) (he : starEach (e :: es) X.env = (false, eval e X.env) :: starEach es X.env := by rfl) (hpl : (backTo pos (starEach es X.env)).any (·.1) = false := by rfl) :
    PS X (.Raise (some (.Call (.Name x p) (e :: es) [] pos)) none rpos) (TSv F Ex (sRaise gt c fl ms)) := by
  cases gt with
  | false =>
    exact ps_false fun D σ H ⟨μ, ρ, G, s, gr, q⟩ => (show Post F (RF F) Ex μ H (.bad : Res Fl) (SQ D) from q)
  | true =>
    have hn := hgt rfl
    have hr : Room (1 + 1) X.A := g.room.mono (by omega)
    cases M with
    | @two f1 f2 fI fd T ok b =>
      refine (ps_raise g.calm tk (pmk_oex T.oex T.ini T.tyI ok hr b .nil passL hg hm ha hdb he hpl)).weak fun D σ H ⟨μ, ρ, G, s, gr, q⟩ => ?_
      have q : Post F (RF F) Ex μ H ((ms ρ G).bind fun vs G1 => if vs.length = [f1, f2].length then .exc c ([f1, f2].zip vs).reverse G1 else .bad) (SQ D) := q
      refine TAv.run s gr q fun μ1 vs G1 us H1 e1 r1 g1 s1 q1 => ?_
      split at q1
      · rename_i hl
        obtain ⟨y1, y2, rfl⟩ : ∃ y1 y2, vs = [y1, y2] := by
          match vs, hl with
          | [a, b], _ => exact ⟨a, b, rfl⟩
        obtain ⟨u1, u2, rfl, h1, h2⟩ := r1.two_inv
        refine ⟨by simp, fun a hn => ⟨a, u1, u2, rfl, upd_same, fun dx hd hne => ⟨rfl, dx, [(f2, u2), (f1, u1)], ?_, upd_same, ?_, ?_⟩⟩⟩
        · rw [upd_ne (Ne.symm hne), upd_same]
        · rw [upd_ne hne] at hd; exact hd
        · rw [upd_ne hne] at hd
          rw [made_heap (C := F.ca c) hn hne]
          exact exc_new g1 hd (repF_rev h1 h2) q1
      · exact (show False from q1).elim
    | @one f1 fI fd T ok b =>
      refine (ps_raise g.calm tk (pmk_oex T.oex T.ini T.tyI ok hr b .nil passL hg hm ha hdb he hpl)).weak fun D σ H ⟨μ, ρ, G, s, gr, q⟩ => ?_
      have q : Post F (RF F) Ex μ H ((ms ρ G).bind fun vs G1 => if vs.length = [f1].length then .exc c ([f1].zip vs).reverse G1 else .bad) (SQ D) := q
      refine TAv.run s gr q fun μ1 vs G1 us H1 e1 r1 g1 s1 q1 => ?_
      split at q1
      · rename_i hl
        obtain ⟨y1, rfl⟩ : ∃ y1, vs = [y1] := by
          match vs, hl with
          | [a], _ => exact ⟨a, rfl⟩
        obtain ⟨u1, rfl, h1⟩ := r1.one_inv
        refine ⟨by simp, fun a hn => ⟨a, u1, rfl, upd_same, fun dx hd hne => ⟨rfl, dx, [(f1, u1)], upd_same, ?_, ?_, ?_⟩⟩⟩
        · rw [upd_ne hne, upd_same]
        · rw [upd_ne hne] at hd; exact hd
        · rw [upd_ne hne] at hd
          rw [made_heap1 (C := F.ca c) hn hne]
          exact exc_new g1 hd (.cons ⟨rfl, h1⟩ .nil) q1
      · exact (show False from q1).elim
end
end EV
end
section
set_option Elab.async false
set_option linter.all false
set_option maxRecDepth 100000
set_option maxHeartbeats 1000000
/-! Ev55: try: .. / several clauses except x as n: .. (turned from HandS's ps_try_as and ps_try_many). -/
namespace EV
open PySem PySem.Spec PyProof.Rows L2
abbrev SuiteT := Addr → Value → Option Addr → TS
/-- the ends of a suite that holds its exception in slot i -/
def offD (i : Nat) (D : Ends) : Ends := { nx := fun σ' H' => D.nx (σ'.set i none) H', rt := D.rt, bk := fun σ' H' => D.bk (σ'.set i none) H', ct := fun σ' H' => D.ct (σ'.set i none) H' }
def wManyA (K : PySem.W.Frag) (Wout : WX) (D : Ends) : List (Value × Nat × SuiteT) → WX
  | [] => Wout
  | (c, i, ts) :: r => fun cls d σ H => ∃ b, PySem.W.exmOne K cls c = some b ∧ (b = true → ∀ a, H a = none → ts a cls d (offD i D) (σ.set i (some (.ref a))) H) ∧ (b = false → wManyA K Wout D r cls d σ H)
inductive HdsA (X : Cx) : List ExceptHandler → List (Value × Nat × SuiteT) → Prop
  | nil : HdsA X [] []
  | cons {x n : Str} {c : Value} {i : Nat} {ts : SuiteT} {b₀ : Stmt} {suite : List Stmt} {np pos' : Pos} {hds : List ExceptHandler} {l : List (Value × Nat × SuiteT)} (hi : X.N[i]? = some n) (hln : X.env.kindOf n = some .local) (hc : Names X x c)
      (hsu : ∀ (a : Addr) (oe : Obj) (cls : Value) (d : Option Addr) (pn : List (Addr × Obj)), Zc cls d oe → (∃ vs, oe.data = .fields vs) → PSs (X.suite a ((a, oe) :: pn)) (b₀ :: suite) (ts a cls d)) (r : HdsA X hds l) :
      HdsA X (.ExceptHandler (some (.Name x np)) (some n) (b₀ :: suite) pos' :: hds) ((c, i, ts) :: l)
section
variable {X : Cx} {body : List Stmt} {h₀ : ExceptHandler} {hds : List ExceptHandler} {l : List (Value × Nat × SuiteT)} {pos : Pos} {tb : WX → TS} {Wout : WX}
theorem ps_try_manyA (hs : X.stack = X.env :: X.outer) (hf : X.env.frame = some X.env.locals) (hN : X.N.Nodup) (tk : Takes X Wout)
    (hb : ∀ (W : WX) (pn : List (Addr × Obj)) (xe : Value → Shared → Prop), Takes (X.tr pn xe) W → PassesOwn (model X.prog X.w) X.A X.env xe → PSs (X.tr pn xe) body (tb W))
    (hh : HdsA X (h₀ :: hds) l) : PS X (.Try body (h₀ :: hds) [] [] pos) (fun D σ H => tb (wManyA X.K Wout D l) D σ H) := by
  refine ⟨fun pins s σ H D I h => ?_⟩
  have ok := I.ok
  have hfr : X.A.frames = some (X.env :: X.outer) := by rw [ok.frames, hs]
  refine wpAny_Try_except ?_
  refine wpAny_mono ((hb (wManyA X.K Wout D l) (X.pn ++ pins) (fun e s₁ => wpAny (model X.prog X.w) X.A (noteFrame e X.env) (fun _ s₂ => wpAny (model X.prog X.w) X.A (setFlight e none) (fun _ s₃ =>
    wpAny (model X.prog X.w) X.A (handleBy e X.env (h₀ :: hds)) (SP X pins D) X.xe s₃) X.xe s₂) X.xe s₁) (fun u s' xx => ?_) PassesOwn.looking).run [] s σ H D (I.toTry _) h) (fun f s1 hsp => ?_) (fun e s1 he => he)
  · -- the catch
    obtain ⟨a, B, sI, pins', σ', H', cls, d, rfl, J', nb, up, sky, na, os, ag, w⟩ := xx
    have J : Inv X pins σ' H' sI := J'.ofTry ok
    have sky' : Sky B (X.env :: X.outer) a (Zc cls d) X.env.locals s'.heap := by rw [← hs]; exact sky
    show wpAny (model X.prog X.w) X.A (noteFrame (.ref a) X.env) _ _ _
    refine Sky.land Zc.steady hfr hf sky' fun h3 fl3 up3 => ?_
    have J3 : Inv X pins σ' H' { s' with heap := h3 } := J.landed nb fl3.1 (up.trans up3) os ag
    obtain ⟨oe3, vs3, he3, hz3, hd3⟩ := fl3.there
    have notFr : ∀ {h : Heap} {o : Obj} {vs : Array Value}, h.FunFrames B (X.env :: X.outer) → h.get? a = some o → o.data = .fields vs → a ∉ frs (X.env :: X.outer) := fun {h o vs} ff e dd hm => by
      obtain ⟨_, o', e', hnf⟩ := ff.mem hm
      rw [e] at e'; cases e'
      exact hnf _ dd
    have nfr := notFr fl3.2.2.1 he3 hd3
    have nL : a ≠ X.env.locals := fun z => nfr (List.mem_filterMap.mpr ⟨X.env, List.mem_cons_self, by rw [hf, z]⟩)
    have nF : a ∉ X.fs := fun hm => by
      obtain ⟨e, he, q⟩ := List.mem_filterMap.mp hm
      exact nfr (List.mem_filterMap.mpr ⟨e, List.mem_cons_of_mem _ he, q⟩)
    have S3 := J3.suite he3 hd3 na nL nF
    have go : ∀ {hds' : List ExceptHandler} {l' : List (Value × Nat × SuiteT)}, HdsA X hds' l' → wManyA X.K Wout D l' cls d σ' H' →
        wpAny (model X.prog X.w) X.A (handleBy (.ref a) X.env hds') (SP X pins D) X.xe { s' with heap := h3 } := by
      intro hds' l' hk
      induction hk with
      | nil =>
        intro w
        refine wpAny_handleBy_nil ?_
        obtain ⟨k1, k2, k3, oe, vs, T, oT, ts', he, hz, hd, h1, hr⟩ := id fl3
        unfold PySem.passOn
        refine wpAny_bind (wpAny_field he hd h1 ?_)
        rw [if_neg (show ¬ ((Value.ref T == Value.none) = true) from by simp)]
        have fin : wpAny (model X.prog X.w) X.A (setFlight (.ref a) X.env.frame) (fun _ s4 => wpAny (model X.prog X.w) X.A (throw (.ref a) : Sem Flow) (SP X pins D) X.xe s4) X.xe { s' with heap := h3 } := by
          rw [hf]
          refine HandSPX.setFlight_upZ fl3 fun h4 hh4 up4 => wpAny_throw (tk _ _ ?_)
          exact ⟨a, B, sI, pins, σ', H', cls, d, rfl, J, nb, (up.trans up3).trans up4, .inr (.inr (by rw [hs]; exact hh4)), na, os, ag, w⟩
        first
          | exact wpAny_bind (wpAny_pure (wpAny_bind fin))
          | exact wpAny_bind fin
      | @cons x n c i ts b₀ suite np pos' hds2 l2 hi hln hc hsu r ih =>
        intro w
        obtain ⟨b, hb1, hyes, hno⟩ := w
        have hloc : Loc X.env.scope n := .inl hln
        refine wpAny_handleBy_cons (codeAny_handlers_test ?_) (by intro q; cases q)
        have LT : PySem.W.Looks (model X.prog X.w) h3 (typeOf (.ref a)) cls := fun A Q E s k q => wpAny_typeOf_ref (k _ _ he3) (by rw [hz3.1]; exact q)
        have LM := PySem.W.exm_one (M := model X.prog X.w) (J3.kIn) LT hb1
        have test : ∀ {Q : Value → Shared → Prop} {E : Value → Shared → Prop}, Q c { s' with heap := h3 } → wpAny (model X.prog X.w) (X.A.mark (some (.ref a))) (eval (.Name x np) X.env) Q E { s' with heap := h3 } := fun {Q E} q => by
          obtain ⟨hg, hdbg, hm | ⟨hm, hv, hnn⟩⟩ := hc
          · exact ld_glob (X := X.suite a ((a, oe3) :: (X.pn ++ pins))) S3 hg hm q hdbg
          · exact ld_blt (X := X.suite a ((a, oe3) :: (X.pn ++ pins))) S3 hg hm hv q hnn hdbg
        refine test (LM.here ?_)
        cases b with
        | true =>
          refine codeAny_handlers_suite_as ?_
          refine HandSPX.lands_againZ fl3 fun h4 fl4 up4 => ?_
          have J4 : Inv X pins σ' H' { s' with heap := h4 } := J.landed nb fl4.1 ((up.trans up3).trans up4) os ag
          obtain ⟨oe4, vs4, he4, hz4, hd4⟩ := fl4.there
          have S4 := J4.suite he4 hd4 na nL nF
          refine store_ok (X := X.suite a ((a, oe4) :: (X.pn ++ pins))) (v := .ref a) S4 hN hi hloc rfl (fun s5 S5 => ?_) (.inr hln)
          refine wpAny_mono ((hsu a oe4 cls d (X.pn ++ pins) hz4 ⟨_, hd4⟩).run [] s5 _ H' _ S5 (hyes rfl a na)) (fun f s6 hsp => ?_) (fun _ _ z => False.elim z)
          have end_ : ∀ {σ6 : L2.St} {H6 : Hp} {Q : Shared → Prop}, Inv (X.suite a ((a, oe4) :: (X.pn ++ pins))) [] σ6 H6 s6 → (∀ s7, Inv X pins (σ6.set i none) H6 s7 → Q s7) →
              wpAny (model X.prog X.w) X.A (do bindName X.env n .none; unbindBehindTheSuite X.env n pos') (fun _ s7 => Q s7) X.xe s6 := fun {σ6 H6 Q} S6 hq => gone_ok (S6.unsuite ok) hN hi hln hq
          cases f with
          | next =>
            obtain ⟨σ6, H6, S6, q6⟩ := hsp
            exact end_ S6 fun s7 J7 => ⟨_, _, J7, q6⟩
          | brk =>
            obtain ⟨σ6, H6, S6, q6⟩ := hsp
            exact end_ S6 fun s7 J7 => ⟨_, _, J7, q6⟩
          | cont =>
            obtain ⟨σ6, H6, S6, q6⟩ := hsp
            exact end_ S6 fun s7 J7 => ⟨_, _, J7, q6⟩
          | ret u =>
            obtain ⟨v6, σ6, H6, S6, r6, q6⟩ := hsp
            exact end_ S6 fun s7 J7 => ⟨_, _, _, J7, r6, q6⟩
        | false =>
          show wpAny _ X.A (handleBy (.ref a) X.env hds2) _ _ _
          exact ih (hno rfl)
    exact go hh w
  · cases f with
    | next =>
      obtain ⟨σ', H', J', q⟩ := hsp
      exact wpAny_execs_nil ⟨σ', H', J'.ofTry ok, q⟩
    | brk =>
      obtain ⟨σ', H', J', q⟩ := hsp
      exact ⟨σ', H', J'.ofTry ok, q⟩
    | cont =>
      obtain ⟨σ', H', J', q⟩ := hsp
      exact ⟨σ', H', J'.ofTry ok, q⟩
    | ret u =>
      obtain ⟨v, σ', H', J', r, q⟩ := hsp
      exact ⟨v, σ', H', J'.ofTry ok, r, q⟩
end
end EV
end
section
set_option Elab.async false
set_option linter.all false
set_option maxRecDepth 100000
set_option maxHeartbeats 1000000
/-! Ev56: except suites, as the evaluator has them: a caught exception e of an own class; printed by mkEv56.py (the combinators are those of Ev3, Ev7, Ev24). -/
namespace EV
open PySem PySem.Spec PyProof.Rows L2
/-- the caught exception: where it stands, its dict, its slot, its fields -/
structure Zx where
  a : Addr
  dd : Addr
  i : Nat
  fs : List (Str × PV)
structure SRx (F : Fx) (Z : Zx) (μ : Mu) (H : Hp) (ρ : Env) (σ : L2.St) : Prop where
  s : SRel F μ H ρ σ
  at_ : σ[Z.i]? = some (some (.ref Z.a))
  x : ∃ fvs, H Z.dd = some (.xd fvs) ∧ RepF F μ H Z.fs fvs
  fr : μ.free Z.dd
theorem SRx.mono {F : Fx} {Z : Zx} {μ μ' : Mu} {H H' : Hp} {ρ : Env} {σ : L2.St} (e : Ext μ μ' H H') (s : SRx F Z μ H ρ σ) : SRx F Z μ' H' ρ σ := by
  obtain ⟨fvs, h1, h2⟩ := s.x
  exact ⟨s.s.mono e, s.at_, ⟨fvs, e.keep _ _ h1 (fun _ z => by cases z) s.fr.1, h2.mono e⟩, e.out (fun _ z => by cases z) h1 s.fr⟩
theorem SRx.set {F : Fx} {Z : Zx} {μ : Mu} {H : Hp} {ρ : Env} {σ : L2.St} (s : SRx F Z μ H ρ σ) {p : PV} {v : V} (r : Rep F μ H p v) {j : Nat} (hj : j ≠ Z.i) : SRx F Z μ H (ρ.set j (some p)) (σ.set j (some v)) :=
  ⟨s.s.set r j, by rw [List.getElem?_set_ne hj]; exact s.at_, s.x, s.fr⟩
def TEx (F : Fx) (Z : Zx) (m : Env → GH → Res PV) : TE := fun σ H Q => ∃ μ ρ G, SRx F Z μ H ρ σ ∧ HRep F μ H G ∧ Post F (RV F) E0 μ H (m ρ G) Q
def TTx (F : Fx) (Z : Zx) (m : Env → GH → Res Bool) : TT := fun σ H Q => ∃ μ ρ G, SRx F Z μ H ρ σ ∧ HRep F μ H G ∧ Post F RB E0 μ H (m ρ G) Q
def TAx (F : Fx) (Z : Zx) (m : Env → GH → Res (List PV)) : TA := fun σ H Q => ∃ μ ρ G, SRx F Z μ H ρ σ ∧ HRep F μ H G ∧ Post F (RVs F) E0 μ H (m ρ G) Q
def RFx (F : Fx) (Z : Zx) : RelA Fl FlV := fun μ H f g => match f, g with
  | .next ρ, .next σ => SRx F Z μ H ρ σ
  | .ret p, .ret v => Rep F μ H p v
  | .brk ρ, .brk σ => SRx F Z μ H ρ σ
  | .cont ρ, .cont σ => SRx F Z μ H ρ σ
  | _, _ => False
def TSx (F : Fx) (Z : Zx) (m : Env → GH → Res Fl) : TS := fun D σ H => ∃ μ ρ G, SRx F Z μ H ρ σ ∧ HRep F μ H G ∧ Post F (RFx F Z) E0 μ H (m ρ G) (SQ D)
section
variable {X : Cx} {F : Fx} {Z : Zx}
theorem TEx.run {σ : L2.St} {H : Hp} {μ : Mu} {ρ : Env} {G : GH} {m : Env → GH → Res PV} {γ δ : Type} {R2 : RelA γ δ} {f : PV → GH → Res γ} {Q2 : δ → Hp → Prop} {Q : VK}
    (s : SRx F Z μ H ρ σ) (g : HRep F μ H G) (h : Post F R2 E0 μ H ((m ρ G).bind f) Q2)
    (k : ∀ μ1 a G1 v H1, Ext μ μ1 H H1 → Rep F μ1 H1 a v → HRep F μ1 H1 G1 → SRx F Z μ1 H1 ρ σ → Post F R2 E0 μ1 H1 (f a G1) Q2 → Q v H1) : TEx F Z m σ H Q :=
  ⟨μ, ρ, G, s, g, (Post.bind (R := RV F) h).mono fun v H1 ⟨μ1, a, G1, _, e, r, g1, p⟩ => k μ1 a G1 v H1 e r g1 (s.mono e) p⟩
theorem TAx.run {σ : L2.St} {H : Hp} {μ : Mu} {ρ : Env} {G : GH} {m : Env → GH → Res (List PV)} {γ δ : Type} {R2 : RelA γ δ} {f : List PV → GH → Res γ} {Q2 : δ → Hp → Prop} {Q : List V → Hp → Prop}
    (s : SRx F Z μ H ρ σ) (g : HRep F μ H G) (h : Post F R2 E0 μ H ((m ρ G).bind f) Q2)
    (k : ∀ μ1 a G1 v H1, Ext μ μ1 H H1 → Reps F μ1 H1 a v → HRep F μ1 H1 G1 → SRx F Z μ1 H1 ρ σ → Post F R2 E0 μ1 H1 (f a G1) Q2 → Q v H1) : TAx F Z m σ H Q :=
  ⟨μ, ρ, G, s, g, (Post.bind (R := RVs F) h).mono fun v H1 ⟨μ1, a, G1, _, e, r, g1, p⟩ => k μ1 a G1 v H1 e r g1 (s.mono e) p⟩
theorem TTx.run {σ : L2.St} {H : Hp} {μ : Mu} {ρ : Env} {G : GH} {m : Env → GH → Res Bool} {γ δ : Type} {R2 : RelA γ δ} {f : Bool → GH → Res γ} {Q2 : δ → Hp → Prop} {Q : Bool → Hp → Prop}
    (s : SRx F Z μ H ρ σ) (g : HRep F μ H G) (h : Post F R2 E0 μ H ((m ρ G).bind f) Q2)
    (k : ∀ μ1 b G1 H1, Ext μ μ1 H H1 → HRep F μ1 H1 G1 → SRx F Z μ1 H1 ρ σ → Post F R2 E0 μ1 H1 (f b G1) Q2 → Q b H1) : TTx F Z m σ H Q :=
  ⟨μ, ρ, G, s, g, (Post.bind (R := RB) h).mono fun v H1 ⟨μ1, a, G1, _, e, r, g1, p⟩ => by
    cases (show a = v from r)
    exact k μ1 _ G1 H1 e g1 (s.mono e) p⟩
/-- what doesn't look at the exception -/
theorem xv_e {e : Expr} {m : Env → GH → Res PV} (h : PE X e (TEv F E0 m)) : PE X e (TEx F Z m) := h.weak fun σ H Q ⟨μ, ρ, G, s, g, p⟩ => ⟨μ, ρ, G, s.s, g, p⟩
theorem xv_tand1 {a : Expr} {pos : Pos} {t : TT} (h : PT X a t) : PW X (.BoolOp .And [a] pos) t := pw_and1 h
theorem xv_asg {i : Nat} {y : Str} {py pos : Pos} {e : Expr} {m : Env → GH → Res PV} (he : PE X e (TEx F Z m)) (hN : X.N.Nodup) (hi : X.N[i]? = some y) (hx : Loc X.env.scope y) (hf : X.fn y = true ∨ X.env.scope.names.lookup y = some .local) (hne : i ≠ Z.i)
    (hs : swapsWithSole [.Name y py] e pos.line X.env = pure false) (hw : swappedStores [.Name y py] e X.env = pure none) : PS X (.Assign [.Name y py] e pos) (TSx F Z (sAsg m (gN i))) :=
  (ps_asg he (pg_name (pos := py) hN hi hx hf) hs hw (plain_target rfl)).weak fun D σ H ⟨μ, ρ, G, s, g, p⟩ =>
    TEx.run s g p fun μ1 a G1 v H1 e1 r1 g1 s1 p1 => p1.here (b := FlV.next _) (show SRx F Z _ _ _ _ from s1.set r1 hne) g1
/-! ### tests -/
theorem xv_truth {a : Expr} {ma : Env → GH → Res PV} (hK : F.K = X.K) (ha : PE X a (TEx F Z ma)) (he : ∀ whole, isTrue a X.env whole = (do let v ← whole; standAt a.pos; holding [v] (truthy v))) : PT X a (TTx F Z (mT ma)) :=
  (pt_truth ha he).weak fun σ H Q ⟨μ, ρ, G, s, g, p⟩ => TEx.run s g p fun μ1 a G1 v H1 e1 r1 g1 s1 p1 => truth_use hK r1 g1 p1
theorem xv_tnot {a : Expr} {pos : Pos} {m : Env → GH → Res Bool} (ha : PT X a (TTx F Z m)) : PT X (.UnaryOp .Not a pos) (TTx F Z (mtNot m)) :=
  (pt_not ha).weak fun σ H Q ⟨μ, ρ, G, s, g, p⟩ => TTx.run s g p fun μ1 b G1 H1 e1 g1 s1 p1 => p1.here rfl g1
theorem xv_tand {a b : Expr} {rest : List Expr} {pos : Pos} {ma mb : Env → GH → Res Bool} (ha : PT X a (TTx F Z ma)) (hb : PW X (.BoolOp .And (b :: rest) pos) (TTx F Z mb)) :
    PW X (.BoolOp .And (a :: b :: rest) pos) (TTx F Z (mtAnd ma mb)) := (pw_and ha hb).weak fun σ H Q ⟨μ, ρ, G, s, g, p⟩ => TTx.run s g p fun μ1 b G1 H1 e1 g1 s1 p1 => by
  cases b with
  | true => exact ⟨μ1, ρ, G1, s1, g1, p1⟩
  | false => exact p1.here rfl g1
theorem xv_if {c a b : Expr} {pos : Pos} {mc : Env → GH → Res Bool} {ma mb : Env → GH → Res PV} (hc : PT X c (TTx F Z mc)) (ha : PE X a (TEx F Z ma)) (hb : PE X b (TEx F Z mb)) :
    PE X (.IfExp c a b pos) (TEx F Z (mIf mc ma mb)) := (pe_ifExp hc ha hb).weak fun σ H Q ⟨μ, ρ, G, s, g, p⟩ => TTx.run s g p fun μ1 b G1 H1 e1 g1 s1 p1 => by
  cases b with
  | true => exact ⟨μ1, ρ, G1, s1, g1, p1⟩
  | false => exact ⟨μ1, ρ, G1, s1, g1, p1⟩

/-! ### a chain of two comparisons -/
theorem xv_nil : PA X [] (TAx F Z mNil) := pa_nil.weak fun σ H Q ⟨μ, ρ, G, s, g, p⟩ => p.here (show Reps F μ H [] [] from .nil) g
theorem xv_cons {e : Expr} {es : List Expr} {m : Env → GH → Res PV} {ms : Env → GH → Res (List PV)} (hp : plainE e = true) (he : PE X e (TEx F Z m)) (hs : PA X es (TAx F Z ms)) : PA X (e :: es) (TAx F Z (mCons m ms)) :=
  (pa_cons he hs (star_plain hp)).weak fun σ H Q ⟨μ, ρ, G, s, g, p⟩ => by
    refine TEx.run s g p fun μ1 a G1 v H1 e1 r1 g1 s1 p1 => ?_
    refine TAx.run s1 g1 p1 fun μ2 b G2 w H2 e2 r2 g2 s2 p2 => ?_
    exact p2.here (show Reps F μ2 H2 _ _ from .cons (r1.mono e2) r2) g2
theorem xv_tup {es : List Expr} {k : Nat} {pos : Pos} {ms : Env → GH → Res (List PV)} (h : PA X es (TAx F Z ms)) : PE X (.Tuple es k pos) (TEx F Z (mA ms mkTup)) :=
  (pe_tupF h).weak fun σ H Q ⟨μ, ρ, G, s, g, p⟩ => TAx.run s g p fun μ1 a G1 v H1 e1 r1 g1 s1 p1 => new_tup r1 g1 p1
theorem xv_lst {es : List Expr} {pos : Pos} {ms : Env → GH → Res (List PV)} (h : PA X es (TAx F Z ms)) : PE X (.List es pos) (TEx F Z (mA ms mkLst)) :=
  (pe_lst h).weak fun σ H Q ⟨μ, ρ, G, s, g, p⟩ => TAx.run s g p fun μ1 a G1 v H1 e1 r1 g1 s1 p1 => new_lst r1 g1 p1
end
section
variable {X : Cx} {F : Fx} {Ex : XK} {n : Nat}
theorem xv_snil : PSs X [] (TSx F Z sNext) := pss_nil.weak fun D σ H ⟨μ, ρ, G, s, g, p⟩ => p.here (b := FlV.next σ) s g
theorem xv_scons {st : Stmt} {rest : List Stmt} {m n : Env → GH → Res Fl} (h1 : PS X st (TSx F Z m)) (h2 : PSs X rest (TSx F Z n)) : PSs X (st :: rest) (TSx F Z (sSeq m n)) :=
  (pss_cons h1 h2).weak fun D σ H ⟨μ, ρ, G, s, g, p⟩ => ⟨μ, ρ, G, s, g, (Post.bind (R := RFx F Z) p).mono fun f H1 ⟨μ1, e, G1, _, e1, r, g1, p1⟩ => by
    cases e <;> cases f <;> first | exact (show False from r).elim | exact ⟨μ1, _, G1, r, g1, p1⟩ | exact p1.here (b := FlV.ret _) r g1 | exact p1.here (b := FlV.brk _) r g1 | exact p1.here (b := FlV.cont _) r g1⟩
theorem xv_sif {c : Expr} {a b : List Stmt} {pos : Pos} {mc : Env → GH → Res Bool} {m n : Env → GH → Res Fl} (hc : PT X c (TTx F Z mc)) (ha : PSs X a (TSx F Z m)) (hb : PSs X b (TSx F Z n)) : PS X (.If c a b pos) (TSx F Z (sIf mc m n)) :=
  (ps_if hc ha hb).weak fun D σ H ⟨μ, ρ, G, s, g, p⟩ => TTx.run s g p fun μ1 b G1 H1 e1 g1 s1 p1 => by
    cases b with
    | true => exact ⟨μ1, ρ, G1, s1, g1, p1⟩
    | false => exact ⟨μ1, ρ, G1, s1, g1, p1⟩
end
end EV
end
section
set_option Elab.async false
set_option linter.all false
set_option maxRecDepth 100000
set_option maxHeartbeats 1000000
/-! Ev57: what a suite asks of its exception: isinstance, fields; list.count of truths. -/
namespace EV
open PySem PySem.Spec PyProof.Rows L2
section
variable {X : Cx} {a D dd : Addr} {oe : Obj} {pn : List (Addr × Obj)}
/-- the exception's own object -/
theorem inst_x {pins : List (Addr × Obj)} {σ : L2.St} {H : Hp} {s : Shared} {fs : List (Str × V)} (I : Inv (X.suite a ((a, oe) :: pn)) pins σ H s) (hz : Zc (.ref D) (some dd) oe) (hf : ∃ vs, oe.data = .fields vs) (hx : H dd = some (.xd fs)) :
    ∃ od, PySem.W.InstAt s.heap a oe D (some od) := by
  obtain ⟨ha, _⟩ := I.pin (a, oe) (List.mem_append_left _ List.mem_cons_self)
  obtain ⟨vs, hd⟩ := hf
  have hx : ObjOk X.prog X.w H s.heap dd (.xd fs) := I.hok dd _ hx
  obtain ⟨mA, hns, hr⟩ := hx
  obtain ⟨od, ho, hl⟩ := lookIn_ns hns
  exact ⟨od, ha, hz.1, by unfold PySem.W.notCls; rw [hd] <;> rfl, by rw [hz.2]; exact ho⟩
def rIsX (K : PySem.W.Frag) (D a dd : Addr) : List V → Hp → VK → Prop := fun xs H Q => ∃ (c : V) (cv : Value) (b : Bool) (fs : List (Str × V)), xs = [.ref a, c] ∧ ClsV c cv ∧ PySem.W.kitOne K (.ref D) cv = some b ∧ H dd = some (.xd fs) ∧ Q (.bl b) H
def rIsXT (K : PySem.W.Frag) (D a dd : Addr) : List V → Hp → VK → Prop := fun xs H Q => ∃ (tp : Addr) (o : Obj) (cs : List V) (us : List Value) (b : Bool) (fs : List (Str × V)), xs = [.ref a, .ref tp] ∧ H tp = some (.frz o (.tup cs)) ∧ Paired ClsV cs us ∧ PySem.W.kitAny K (.ref D) us = some b ∧ H dd = some (.xd fs) ∧ Q (.bl b) H
theorem kit_x (C : L2.ExcC X.K D) {od : Obj} : PySem.W.KitX X.K (.ref a) (.ref D) (fun h => PySem.W.InstAt h a oe D (some od)) :=
  PySem.W.kitx_exc (by obtain ⟨cd, hc, _⟩ := PySem.W.any_some C.hd; rw [hc]; rfl) C.hg C.hk C.hs C.ha C.hn C.ht C.hm
theorem call_isX (C : L2.ExcC X.K D) (hz : Zc (.ref D) (some dd) oe) (hf : ∃ vs, oe.data = .fields vs) : CallR (X.suite a ((a, oe) :: pn)) (.builtin "isinstance") (rIsX X.K D a dd) := by
  intro pins s σ H xs us Q I r h
  obtain ⟨c, cv, b, fs, rfl, k, e, hx, q⟩ := h
  obtain ⟨u1, u2, rfl, r1, r2⟩ := vals2 r
  have e2 := k.eq r2
  subst e2
  cases (show u1 = Value.ref a from r1)
  obtain ⟨od, J⟩ := inst_x I hz hf hx
  exact PySem.W.kia_one (kit_x C) I.kIn J e (fun z => nomatch z) fun tk => ⟨.bl b, H, I.tok tk, rfl, q⟩
theorem call_isXT (C : L2.ExcC X.K D) (hz : Zc (.ref D) (some dd) oe) (hf : ∃ vs, oe.data = .fields vs) : CallR (X.suite a ((a, oe) :: pn)) (.builtin "isinstance") (rIsXT X.K D a dd) := by
  intro pins s σ H xs us Q I r h
  obtain ⟨tp, o0, cs, ws, b, fs, rfl, hT, k, e, hx, q⟩ := h
  obtain ⟨u1, u2, rfl, r1, r2⟩ := vals2 r
  cases (show u1 = Value.ref a from r1)
  cases (show u2 = Value.ref tp from r2)
  obtain ⟨od, J⟩ := inst_x I hz hf hx
  obtain ⟨_, _, its, rv, o, h1, h2, n, h3⟩ := (show ObjOk X.prog X.w H s.heap tp (.frz o0 (.tup cs)) from I.hok tp _ hT)
  have e3 := ClsV.all k rv
  subst e3
  obtain ⟨oc, od2, dt, sl⟩ := o
  simp only at h2 h3
  subst h2 h3
  exact PySem.W.kia_tup (kit_x C) I.kIn J h1 e (fun z => nomatch z) fun tk => ⟨.bl b, H, I.tok tk, rfl, q⟩
end
/-- a class by its name -/
structure NmC (X : Cx) (x : Str) (c : V) (cv : Value) : Prop where
  pe : ∀ p, PE X (.Name x p) (tC c)
  k : ClsV c cv
/-- .. several -/
inductive NmCs (X : Cx) : List Expr → List V → List Value → Prop
  | nil : NmCs X [] [] []
  | cons {x : Str} {c : V} {cv : Value} {p : Pos} {es : List Expr} {cs : List V} {cvs : List Value} (h : NmC X x c cv) (r : NmCs X es cs cvs) : NmCs X (.Name x p :: es) (c :: cs) (cv :: cvs)
theorem NmCs.pa {X : Cx} : ∀ {es : List Expr} {cs : List V} {cvs : List Value}, NmCs X es cs cvs → PA X es (fun _ H Q => Q cs H) ∧ Paired ClsV cs cvs
  | _, _, _, .nil => ⟨pa_nil, .nil⟩
  | _, _, _, .cons h r => ⟨pa_cons (h.pe _) (NmCs.pa r).1 rfl, .cons h.k (NmCs.pa r).2⟩
theorem repF_look {F : Fx} {μ : Mu} {H : Hp} : ∀ {fs : List (Str × PV)} {vs : List (Str × V)} {f : Str} {p : PV}, RepF F μ H fs vs → fs.lookup f = some p → ∃ v, vs.lookup f = some v ∧ Rep F μ H p v
  | [], _, f, p, h, e => by cases e
  | (g, q) :: fs, vs, f, p, h, e => by
    cases h with
    | @cons _ w _ ws h1 h2 =>
      obtain ⟨g2, u⟩ := w
      obtain ⟨e1, e2⟩ := h1
      simp only at e1 e2
      subst e1
      by_cases k : f = g
      · subst k
        simp only [List.lookup, beq_self_eq_true, Option.some.injEq] at e ⊢
        subst e
        exact ⟨u, rfl, e2⟩
      · have kb : (f == g) = false := by simpa using k
        simp only [List.lookup, kb] at e ⊢
        exact repF_look h2 e
section
variable {X : Cx} {F : Fx} {Z : Zx} {D : Addr} {oe : Obj} {pn : List (Addr × Obj)} {x n y : Str} {p p2 p3 pos : Pos}
theorem xisi {c : V} {cv : Value} {b : Bool} (C : L2.ExcC X.K D) (hz : Zc (.ref D) (some Z.dd) oe) (hf : ∃ vs, oe.data = .fields vs) (hg : Gl X x) (hm : X.mg x = none) (hv : bootBuiltins x = some (.builtin "isinstance")) (hn : x ≠ "__name__") (hdb : (x == ("__debug__" : Str)) = false)
    (hN : X.N[Z.i]? = some n) (hvis : Vis X.env.scope n) (hd : (n == ("__debug__" : Str)) = false) (hcd : (n == ("__classdict__" : Str)) = false) (hT : NmC (X.suite Z.a ((Z.a, oe) :: pn)) y c cv) (hk : PySem.W.kitOne X.K (.ref D) cv = some b) :
    PE (X.suite Z.a ((Z.a, oe) :: pn)) (.Call (.Name x p) [.Name n p2, .Name y p3] [] pos) (TEx F Z (mCst (.bl b))) :=
  (pe_callB (call_isX C hz hf) hg hm hv (pa_cons (pe_var (i := Z.i) hN hvis hd hcd) (pa_cons (hT.pe p3) pa_nil rfl) rfl) hn hdb rfl rfl).weak fun σ H Q ⟨μ, ρ, G, s, g, q⟩ => by
    obtain ⟨fvs, h1, _⟩ := s.x
    exact ⟨.ref Z.a, s.at_, c, cv, b, fvs, rfl, hT.k, hk, h1, q.here RV.bl g⟩
theorem xisiT {es : List Expr} {cs : List V} {cvs : List Value} {k : Nat} {b : Bool} (C : L2.ExcC X.K D) (hz : Zc (.ref D) (some Z.dd) oe) (hf : ∃ vs, oe.data = .fields vs) (hg : Gl X x) (hm : X.mg x = none) (hv : bootBuiltins x = some (.builtin "isinstance")) (hn : x ≠ "__name__") (hdb : (x == ("__debug__" : Str)) = false)
    (hN : X.N[Z.i]? = some n) (hvis : Vis X.env.scope n) (hd : (n == ("__debug__" : Str)) = false) (hcd : (n == ("__classdict__" : Str)) = false) (hT : NmCs (X.suite Z.a ((Z.a, oe) :: pn)) es cs cvs) (hl : cs.length ≤ 1000) (hk : PySem.W.kitAny X.K (.ref D) cvs = some b) :
    PE (X.suite Z.a ((Z.a, oe) :: pn)) (.Call (.Name x p) [.Name n p2, .Tuple es k p3] [] pos) (TEx F Z (mCst (.bl b))) :=
  (pe_callB (call_isXT C hz hf) hg hm hv (pa_cons (pe_var (i := Z.i) hN hvis hd hcd) (pa_cons (pe_tupF hT.pa.1) pa_nil rfl) rfl) hn hdb rfl rfl).weak fun σ H Q ⟨μ, ρ, G, s, g, q⟩ => by
    obtain ⟨fvs, h1, _⟩ := s.x
    refine ⟨.ref Z.a, s.at_, by rw [sizeLine_eq]; omega, fun tp o hn hd2 => ⟨tp, o, cs, cvs, b, fvs, rfl, upd_same, hT.pa.2, hk, ?_, ?_⟩⟩
    · rw [upd_ne (ne_of_none h1 hn)]; exact h1
    · exact q.ok (Ext.upd_new g hn) RV.bl (g.upd_new hn)
theorem xfld {f : Str} {v : PV} (T : XfC X.K D) (hno : PySem.W.findIn X.K (.ref D) f = some none) (hz : Zc (.ref D) (some Z.dd) oe) (hf : ∃ vs, oe.data = .fields vs)
    (hN : X.N[Z.i]? = some n) (hvis : Vis X.env.scope n) (hd : (n == ("__debug__" : Str)) = false) (hcd : (n == ("__classdict__" : Str)) = false) (hv : Z.fs.lookup f = some v) (hb : attributeBase (.Name n p) f X.env (eval (.Name n p) X.env) = eval (.Name n p) X.env) :
    PE (X.suite Z.a ((Z.a, oe) :: pn)) (.Attribute (.Name n p) f pos) (TEx F Z (mCst v)) :=
  (pe_xf T hno hz hf (pe_var (i := Z.i) hN hvis hd hcd) hb).weak fun σ H Q ⟨μ, ρ, G, s, g, q⟩ => by
    obtain ⟨fvs, h1, h2⟩ := s.x
    obtain ⟨u, h3, h4⟩ := repF_look h2 hv
    exact ⟨.ref Z.a, s.at_, rfl, rfl, Z.dd, fvs, u, rfl, h1, h3, q.here h4 g⟩
end
/-! ### list.count of truths -/
def blB : PV → Option Bool
  | .bl b => some b
  | _ => none
def blsB : List PV → Option (List Bool)
  | [] => some []
  | p :: ps => match blB p, blsB ps with
    | some b, some bs => some (b :: bs)
    | _, _ => none
def fCntB (o : PV) (xs : List PV) (G : GH) : Res PV := match o, xs with
  | .lst ps, [.bl b] => match blsB ps with
    | some bs => .ok (.int ((bs.countP fun c => c == b : Nat) : Int)) G
    | none => .bad
  | _, _ => .bad
theorem blsB_inv : ∀ {ps : List PV} {bs : List Bool}, blsB ps = some bs → ps = bs.map PV.bl
  | [], bs, h => by cases h; rfl
  | p :: ps, bs, h => by
    unfold blsB at h
    split at h
    · rename_i b r e1 e2
      cases h
      have := blsB_inv e2
      subst this
      cases p <;> simp only [blB, Option.some.injEq] at e1 <;> first | (subst e1; rfl) | cases e1
    · cases h
theorem reps_bls {F : Fx} {μ : Mu} {H : Hp} : ∀ {bs : List Bool} {vs : List V}, Reps F μ H (bs.map PV.bl) vs → vs = bs.map V.bl
  | [], vs, h => by rw [h.nil_inv]; rfl
  | b :: bs, vs, h => by
    obtain ⟨v, r, rfl, h1, t⟩ := h.cons_inv
    rw [reps_bls t, rep_bl h1]; rfl
theorem vals_bls : ∀ {bs : List Bool} {us : List Value}, Vals (bs.map V.bl) us → us = bs.map Value.bool
  | [], us, h => by cases h; rfl
  | b :: bs, us, h => by
    cases h with
    | cons r t => rw [vals_bls t, show _ = Value.bool b from r]; rfl
theorem reads_bls (h : Heap) : ∀ bs : List Bool, ReadsAll h (bs.map Value.bool) (bs.map PyData.bool) []
  | [] => .nil
  | b :: bs => .cons (as := []) (.bool b) (reads_bls h bs)
theorem plain_bls : ∀ bs : List Bool, PyData.plainAll (bs.map PyData.bool) = true
  | [] => rfl
  | b :: bs => by simp only [List.map_cons, PyData.plainAll, PyData.plain, plain_bls bs, Bool.and_self]
theorem dep_bls : ∀ bs : List Bool, PyData.depthAll (bs.map PyData.bool) = 0
  | [] => rfl
  | b :: bs => by simp only [List.map_cons, PyData.depthAll, PyData.depth, dep_bls bs]; rfl
theorem fCntB_ok {X : Cx} {F : Fx} {Ex : XK} (hK : F.K = X.K) (hu : X.A.units + 1 < cLine) : MtR X "list.count" (RdM F Ex fCntB) := by
  intro pins s σ H x xs v us Q I rx rs ⟨μ, o, ps, G, r, rr, g, p⟩
  unfold fCntB at p
  split at p
  · rename_i qs b
    split at p
    · rename_i bs eb
      have := blsB_inv eb
      subst this
      obtain ⟨w, rfl, r1⟩ := Reps.one_inv rr
      rw [rep_bl r1] at rs
      simp only [Rep] at r
      obtain ⟨a, vs, rfl, z, st, rv⟩ := r
      have ev := reps_bls rv
      subst ev
      have sq : SqL X.K H a (bs.map V.bl) := .inl (.inl st.2)
      cases rx
      obtain ⟨u, rfl, ru⟩ := rs.one
      cases (show u = Value.bool b from ru)
      obtain ⟨its, rv2, pl, hlen⟩ := I.list sq
      have ei := vals_bls rv2
      subst ei
      obtain ⟨ob, n, ho, hc, hdn, hd⟩ := pl
      refine PySem.SeqAt.count_list_data (xs := bs.map PyData.bool) (d := .bool b) (vs := (bs.map Value.bool).toArray) ⟨ob, ho, hc, n, hd⟩ (by simpa using reads_bls s.heap bs) (.bool b) (plain_bls bs) rfl ?_ ?_
      · rw [dep_bls]; simp; omega
      · refine ⟨.int _, H, I.tok _, ⟨s.toks, rfl⟩, ?_⟩
        have ec : (bs.map PyData.bool).countP (fun y => PyData.eqv y (.bool b)) = bs.countP fun c => c == b := by
          rw [List.countP_map]
          congr 1
        rw [ec]
        exact p.here (by simp only [RV, Rep]) g
    · exact (show False from p).elim
  · exact (show False from p).elim
end EV
end
section
set_option Elab.async false
set_option linter.all false
set_option maxRecDepth 100000
set_option maxHeartbeats 1000000
/-! Ev58: f(lambda: body), the body run where no guard stands (turned from HandS's pe_act, pe_lamcall). -/
namespace LamX
open PySem PySem.Spec PyProof.Rows L2
section
variable {X : Cx} {pins : List (Addr × Obj)} {σ : L2.St} {H HZ : Hp} {s s1 : Shared}
theorem pe_actG {CXg : CXT} {Eg : XK} {Ng : List Str} {qg : Str} {sg : Scope} {g f c' : Addr} {cdg pm ctv : Value} {params : Arguments} {body : Expr} {scope : Scope} {k i : Nat} {a : Str} {pn : List (Addr × Obj)} {xe : Value → Shared → Prop} {W : WX} {E : XK} {tb : TE} {p1 p2 : Pos}
    (I : Inv X pins σ H s) (L : LamS X.env.scope scope) (hf : s.heap.get? f = some (PySem.W.kla_obj "<lambda>" (X.env.qual ++ "<lambda>") params body scope (cloFrom X.env.cells scope.names []) pm c' ctv)) (hfn : H f = none) (hfr : f ∉ frs X.stack)
    (hbind : bindArgs (PySem.W.kla_fn "<lambda>" (X.env.qual ++ "<lambda>") params body scope (cloFrom X.env.cells scope.names []) pm (.ref c') ctv) ⟨[], []⟩ = pure [])
    (tk : Takes ((cxOf CXg X.prog X.w X.K X.mg X.base Ng qg sg g cdg X.A X.stack s H Eg).tr pn xe) W) (hW : ∀ cls d σ' H', E cls d H' → W cls d σ' H') (hr : Room (k + 1) (X.A.deeper (envOfC qg sg s.heap.objs.size g cdg)))
    (hgd : X.A.guards = some []) (hbody : ∀ (A : Around) (outer : List PySem.Env) (s : Shared) (H : Hp), A.guards = some [] → Room k (A.deeper (lamEnv X scope s.heap.objs.size f c')) → PE (lamCx X A outer s H E scope f c') body tb)
    (hN : Ng[i]? = some a) (hv : Vis sg a) (hd : (a == ("__debug__" : Str)) = false := by decide) (hcd : (a == ("__classdict__" : Str)) = false := by decide) :
    PE ((cxOf CXg X.prog X.w X.K X.mg X.base Ng qg sg g cdg X.A X.stack s H Eg).tr pn xe) (.Call (.Name a p1) [] [] p2)
      (fun σZ HZ Q => σZ[i]? = some (some (.ref f)) ∧ HZ c' = some (CodeO c' (X.env.qual ++ "<lambda>")) ∧ tb σ HZ Q) := by
  refine ⟨fun pinsZ sZ σZ HZ Q IZ h => ?_⟩
  obtain ⟨hs, hc, ht⟩ := h
  refine wpAny_Call_Name_kw (thn ((pe_var (pos := p1) (i := i) hN hv hd hcd).run pinsZ sZ σZ HZ (fun v H1 => v = .ref f ∧ H1 = HZ) IZ ⟨.ref f, hs, rfl, rfl⟩) fun u s1 ⟨v, H1, I1, r1, q1⟩ => ?_)
  obtain ⟨ev, eH⟩ := q1
  subst ev
  rw [eH] at I1
  obtain rfl : u = Value.ref f := r1
  have of1 : s1.heap.get? f = some (PySem.W.kla_obj "<lambda>" (X.env.qual ++ "<lambda>") params body scope (cloFrom X.env.cells scope.names []) pm c' ctv) := I1.base.keep f _ hf hfn hfr (fun z => nomatch (show f ∈ ([] : List Addr) from z))
  refine PySem.W.callWith_F0 ⟨_, _, _, _, of1⟩ ?_
  have un : Un (frs X.stack) [] H HZ s.heap s1.heap := I1.base
  obtain ⟨⟨oc, vs, t, hoc, hdc, hvc⟩, _, _⟩ := I1.hok c' _ hc
  have rc : codeAny (model X.prog X.w) (X.A.deeper (envOfC qg sg s.heap.objs.size g cdg)) (.call (.ref f) ⟨[], []⟩) (CR (L2.CX X.prog X.w) (envOfC qg sg s.heap.objs.size g cdg :: X.stack) X.prog X.w HZ s1 Q E) s1 := by
    refine PySem.W.kla_callFunE hr.depth of1 rfl L.co L.gen rfl ⟨c', oc, vs, t, rfl, hoc, hdc, hvc⟩ ?_
    rw [hbind]
    refine wpAny_pure (wpAny_newFunctionEnv (fun y hy => (L.own y hy).2) (fun y hy => absurd hy (by simp)) (fun h₁ hns hsb => ⟨I1.nolimit.fresh _ hsb, ?_⟩) L.kind)
    show codeAny _ _ (.expr body (lamEnv X scope s1.heap.objs.size f c')) _ _
    have kp : ∀ b o, s1.heap.get? b = some o → h₁.get? b = some o := fun b o e => hsb.extBut b o (Nat.ne_of_lt (Heap.lt_size e)) (Heap.get?_push_of_some _ e)
    have J : Inv (lamCx X (X.A.deeper (envOfC qg sg s.heap.objs.size g cdg)) (envOfC qg sg s.heap.objs.size g cdg :: X.stack) s1 HZ E scope f c') [] σ HZ { s1 with heap := h₁, toks := s1.toks + ([] : List (Str × Value)).length } :=
      lam_start2 I L I1.env0 hr.hd un hns kp
    refine PySem.W.kla_codeExpr (wpAny_mono ((hbody (X.A.deeper (envOfC qg sg s.heap.objs.size g cdg)) _ s1 HZ hgd (hr.deeper _)).run [] _ _ HZ Q J ht) (fun v s' hq => ?_) fun e s' hq => hq)
    obtain ⟨w', H', J', rv, q⟩ := hq
    exact ⟨w', H', J'.os, J'.bare, J'.base, J'.hok, rv, q⟩
  have hx : Passes (L2.CX X.prog X.w) ((cxOf CXg X.prog X.w X.K X.mg X.base Ng qg sg g cdg X.A X.stack s H Eg).tr pn xe) E := passes_call tk hW
  refine wpAny_call (codeAny_mono rc fun r s' hq => ?_)
  cases r with
  | error e => exact hx pinsZ σZ HZ s1 e s' I1 hq
  | ok fl =>
    cases fl with
    | ret u => exact I1.after hq
    | next => exact False.elim hq
    | brk => exact False.elim hq
    | cont => exact False.elim hq
end
section
variable {X : Cx}
theorem pe_lamcallG {T : List (Addr × Str)} {TT : (XK → Hp → VK → Prop) → Hp → VK → Prop} {x a : Str} {g c P : Addr} {k : Nat} {pg : Arguments} {bg : List Stmt} {sg : Scope} {dV kV doc pm cdv ct oc : Value} {an od : Option Addr} {osl : Array (Option Value)} {Ng : List Str}
    {params : Arguments} {body : Expr} {scope : Scope} {t : XK → TE} {p lpos pos : Pos} (hg : Gl X x) (hm : X.mg x = some (.ref g)) (hk : PySem.W.keepIn X.K (.ref g) = true)
    (lk : X.K.lookup g = some ⟨oc, od, .func (PySem.W.fnOf x x pg bg sg dV kV doc pm an cdv ct), osl⟩) (hcg : PySem.W.codeIn X.K cdv x = true) (hb : L2.Binds X.K (PySem.W.fnOf x x pg bg sg dV kV doc pm an cdv ct) [a] []) (Sg : FnScope Ng [a] sg) (hNg : Ng[0]? = some a) (hva : Vis sg a)
    (hG : GivesTo X Ng x sg g cdv bg a (X.env.qual ++ "<lambda>") TT)
    (TB : TabB X.base X.mg c P) (hcode : X.env.code = .ref c) (hmT : (P, X.env.qual ++ "<lambda>") ∈ T) (hu : ∀ p ∈ T, p.1 = P → p.2 = X.env.qual ++ "<lambda>") (hr : Room (k + 2) X.A) (L : LamS X.env.scope scope) (hdef : defaultsOf params X.env = ([], []))
    (hbind : ∀ (q : Str) (cl : List (Str × Addr)) (pm cv ctv : Value), bindArgs (PySem.W.kla_fn "<lambda>" q params body scope cl pm cv ctv) ⟨[], []⟩ = pure [])
    (hgd : X.A.guards = some []) (hbody : ∀ (A : Around) (outer : List PySem.Env) (s : Shared) (H : Hp) (E : XK) (f c' : Addr), A.guards = some [] → Room k (A.deeper (lamEnv X scope s.heap.objs.size f c')) → PE (lamCx X A outer s H E scope f c') body (t E))
    (hdb : (x == ("__debug__" : Str)) = false := by decide) (hd : (a == ("__debug__" : Str)) = false := by decide) (hcd : (a == ("__classdict__" : Str)) = false := by decide) :
    PE X (.Call (.Name x p) [.Lambda params body scope lpos] [] pos) (tLam T TT t) := by
  refine ⟨fun pins s σ H Q I h => ?_⟩
  obtain ⟨hT, h⟩ := h
  refine wpAny_Call_Name_kw (ld_glob I hg hm ?_ hdb)
  refine PySem.W.callWith_K (h₀ := X.base) I.ok.mod.kin hk ?_ (by rfl) (by rfl)
  show wpAny _ _ (spliced ((false, eval (.Lambda params body scope lpos) X.env) :: backTo pos (starEach [] X.env))) _ _ s
  refine Calls.spliced_cons (lam_make2 I TB hcode hmT hu hT hdef (L.has I.ok) fun f c' pm' ctv H1 s' I1 eN T1 hf hfn hfr hco => ?_)
  refine Calls.spliced_nil ⟨I1.kIn, ?_⟩
  have rc : codeAny (model X.prog X.w) X.A (.call (.ref g) ⟨[.ref f], []⟩) (CR C8.CX0 X.stack X.prog X.w H1 s' Q C8.E0) s' := by
    refine run_ofS (N := Ng) (ps := [a]) (us := [.ref f]) (vs := [.ref f]) lk hcg Sg hr I1.env0 (hb s' [.ref f] I1.kIn rfl) (.cons rfl .nil) rfl fun hr' => ?_
    obtain ⟨t', ht', hq'⟩ := hG f c' s' H1 Q (fun E H' Q' => t E σ H' Q') (fun W pn xe E p1 p2 tk hW => pe_actG (i := 0) I1 L hf hfn hfr (hbind _ _ _ _ _) tk hW hr' hgd (fun A outer s H hg2 hr2 => hbody A outer s H E f c' hg2 hr2) hNg hva hd hcd) hco (h H1 eN T1)
    exact ⟨t', ht'.nox, hq'⟩
  refine wpAny_call (codeAny_mono rc fun r s2 hq => ?_)
  cases r with
  | error e => exact (show False from hq).elim
  | ok fl =>
    cases fl with
    | ret u => exact I1.after hq
    | next => exact False.elim hq
    | brk => exact False.elim hq
    | cont => exact False.elim hq
end
end LamX
end
section
set_option Elab.async false
set_option linter.all false
set_option maxRecDepth 100000
set_option maxHeartbeats 1000000
/-! Ev59: tellers: def t(ask): found = (odd,) / try: found = (said, ask()) / except A as e: .. / return found; t(lambda: ..). -/
namespace EV
open PySem PySem.Spec PyProof.Rows L2 LamX
/-- a def that is never called by the evaluator -/
theorem callee_bad {P : Program} {w : World} {K : PySem.W.Frag} {mg : Str → Option Value} {base : Heap} {F : Fx} {n : Nat} {name nm qual : Str} {params : Arguments} {body : List Stmt} {scope : Scope} {f : Addr} {fd : FuncData} {ps : List Str} (Fd : FunD K nm qual params body scope [] [] f fd) (hm : mg name = some (.ref f)) (hb : Binds K fd ps []) : CalleeP P w K mg base F n name ps.length (fun _ _ => .bad) where
  ex := ⟨f, fd, ps, ⟨fun vs H Q E h => h.1, fun A outer s H args us vs Q E _ _ _ _ _ h => by
    obtain ⟨_, μ, qs, G, r, g, p⟩ := h
    exact (show False from p).elim⟩, hm, Fd.kp, hb⟩
  ar := fun _ _ _ => rfl
/-- what a teller makes of what it heard: N its slots, j the slot of what it tells, su: what its suites do with an exception -/
def tellR (N j : Nat) (w0 : Str) (su : Nat → List (Str × PV) → Env → GH → Res Fl) (r : Res PV) : Res PV := match r with
  | .ok v G => .ok (.tup [.str w0, v]) G
  | .exc c fs G => match su c fs (List.replicate N none) G with
    | .ok (.next ρ) G1 => match ρ[j]? with
      | some (some p) => .ok p G1
      | _ => .bad
    | .ok (.ret p) G1 => .ok p G1
    | _ => .bad
  | .bad => .bad
def mTell (N j : Nat) (w0 : Str) (su : Nat → List (Str × PV) → Env → GH → Res Fl) (m : Env → GH → Res PV) : Env → GH → Res PV := fun ρ G => trimR G (tellR N j w0 su (m ρ G))
/-- the suites' readings: an exception of a class that has a number -/
def tsX (F : Fx) (N iE : Nat) (su : Nat → List (Str × PV) → Env → GH → Res Fl) : SuiteT := fun a cls d D σ H => σ.length = N → ∃ (c : Nat) (dd : Addr) (fs : List (Str × PV)), cls = .ref (F.ca c) ∧ d = some dd ∧ TSx F ⟨a, dd, iE, fs⟩ (su c fs) D σ H
theorem pss_tsX {X : Cx} {F : Fx} {N iE : Nat} {su : Nat → List (Str × PV) → Env → GH → Res Fl} {b : List Stmt} {a : Addr} {cls : Value} {d : Option Addr} (hN : X.N.length = N) (h : ∀ c dd fs, cls = .ref (F.ca c) → d = some dd → PSs X b (TSx F ⟨a, dd, iE, fs⟩ (su c fs))) : PSs X b (tsX F N iE su a cls d) :=
  ⟨fun pins s σ H D I q => by
    obtain ⟨c, dd, fs, e1, e2, t⟩ := q (I.len.trans hN)
    exact (h c dd fs e1 e2).run pins s σ H D I t⟩
/-- what stands behind the try: the told thing -/
def endD (j : Nat) (Q : VK) : Ends := { nx := fun σ H => ∃ v, σ[j]? = some (some v) ∧ Q v H, rt := Q }
def echX (K : PySem.W.Frag) (j : Nat) (l : List (Value × Nat × SuiteT)) (Q : VK) : XK := fun cls d H => ∀ σ, wManyA K (fun _ _ _ _ => False) (endD j Q) l cls d σ H
/-- the teller's meaning -/
def TTl (K : PySem.W.Frag) (j : Nat) (odd w0 : Str) (l : List (Value × Nat × SuiteT)) : (XK → Hp → VK → Prop) → Hp → VK → Prop := fun tl H Q =>
  ∀ (r0 : Addr) (o0 : Obj), H r0 = none → o0.dict = none → tl (echX K j l Q) (upd H r0 (.frz o0 (.tup [.str odd]))) fun v H2 => ([V.str w0, v] : List V).length ≤ sizeLine ∧ NewT H2 [.str w0, v] Q
section
variable {X : Cx} {Ng : List Str} {x a nf q odd w0 : Str} {sg : Scope} {g : Addr} {cdg : Value} {j : Nat} {h₀ : ExceptHandler} {hds : List ExceptHandler} {l : List (Value × Nat × SuiteT)} {jo jw kB kI : Nat} {pA pB pC pD pE pF pG pH pI pJ pK pL pM pN : Pos}
abbrev tellCx (X : Cx) (Ng : List Str) (x : Str) (sg : Scope) (g : Addr) (cdg : Value) (s : Shared) (H : Hp) : Cx := (cxOf C8.CX0 X.prog X.w X.K X.mg X.base Ng x sg g cdg X.A X.stack s H C8.E0).nox
theorem tell_gives (hj : Ng[j]? = some nf) (nd : Ng.Nodup) (hloc : sg.names.lookup nf = some .local) (hd : (nf == ("__debug__" : Str)) = false) (hcd : (nf == ("__classdict__" : Str)) = false) (hj0 : j ≠ 0) (h0 : ∀ f : Addr, (L2.start Ng [V.ref f])[0]? = some (some (V.ref f))) (hl0 : 0 < Ng.length)
    (hs1 : ∀ env, swapsWithSole [.Name nf pA] (.Tuple [.Constant (.str odd) jo pB] kB pC) pD.line env = pure false) (hw1 : ∀ env, swappedStores [.Name nf pA] (.Tuple [.Constant (.str odd) jo pB] kB pC) env = pure none)
    (hs2 : ∀ env, swapsWithSole [.Name nf pE] (.Tuple [.Constant (.str w0) jw pF, .Call (.Name a pG) [] [] pH] kI pJ) pK.line env = pure false) (hw2 : ∀ env, swappedStores [.Name nf pE] (.Tuple [.Constant (.str w0) jw pF, .Call (.Name a pG) [] [] pH] kI pJ) env = pure none)
    (hH : ∀ s H, HdsA (tellCx X Ng x sg g cdg s H) (h₀ :: hds) l) :
    GivesTo X Ng x sg g cdg [.Assign [.Name nf pA] (.Tuple [.Constant (.str odd) jo pB] kB pC) pD, .Try [.Assign [.Name nf pE] (.Tuple [.Constant (.str w0) jw pF, .Call (.Name a pG) [] [] pH] kI pJ) pK] (h₀ :: hds) [] [] pL, .Return (some (.Name nf pM)) pN] a q (TTl X.K j odd w0 l) := by
  intro f c' s H Q tl act hc h
  let Y := tellCx X Ng x sg g cdg s H
  have st1 : PS Y (.Assign [.Name nf pA] (.Tuple [.Constant (.str odd) jo pB] kB pC) pD) _ := ps_asg (pe_tupF (pa_cons (pe_str (x := odd)) pa_nil)) (pg_name (X := Y) nd hj (.inl hloc) (.inr hloc)) (hs1 _) (hw1 _) (plain_target rfl)
  have st2 : PS Y (.Try [.Assign [.Name nf pE] (.Tuple [.Constant (.str w0) jw pF, .Call (.Name a pG) [] [] pH] kI pJ) pK] (h₀ :: hds) [] [] pL) _ := ps_try_manyA (X := Y) (l := l)
      (tb := fun W D σ H => ∃ Ech : XK, (∀ cls d σ' H', Ech cls d H' → W cls d σ' H') ∧ σ[0]? = some (some (.ref f)) ∧ H c' = some (CodeO c' q) ∧ tl Ech H (fun v H1 => ([V.str w0, v] : List V).length ≤ sizeLine ∧ NewT H1 [.str w0, v] fun r H2 => D.nx (σ.set j (some r)) H2))
      rfl rfl nd L2.takes0 (fun W pn xe tk _ => ⟨fun pins s' σ H' D I h' => by
        obtain ⟨Ech, hW, h1, h2, h3⟩ := h'
        have hp := act W pn xe Ech pG pH tk hW
        have st := pss_one (ps_asg (X := Y.tr pn xe) (pos := pK) (pe_tupF (x1 := kI) (pos := pJ) (pa_cons (pe_str (x := w0) (j := jw) (pos := pF)) (pa_cons hp pa_nil rfl) rfl)) (pg_name (X := Y.tr pn xe) (pos := pE) nd hj (.inl hloc) (.inr hloc)) (hs2 _) (hw2 _) (plain_target rfl))
        refine st.run pins s' σ H' D I ?_
        exact ⟨h1, h2, h3⟩⟩)
      (hH s H)
  refine ⟨_, pss_cons st1 (pss_cons st2 (pss_one (ps_ret (pe_var (X := Y) (i := j) hj (.inl hloc) hd hcd)))), ?_⟩
  have jl : j < Ng.length := (List.getElem?_eq_some_iff.mp hj).1
  have sl : (L2.start Ng [V.ref f]).length = Ng.length := by simp [L2.start]; omega
  refine ⟨by rw [sizeLine_eq]; simp, fun r0 o0 hr ho => ?_⟩
  refine ⟨echX X.K j l Q, fun cls d σ' H' e => ?_, ?_, ?_, ?_⟩
  · exact e σ'
  · rw [List.getElem?_set_ne hj0]; exact h0 f
  · rw [upd_ne (ne_of_none hc hr)]; exact hc
  · have eQ : (fun (r : V) (H2 : Hp) => ∃ v, (((L2.start Ng [V.ref f]).set j (some (V.ref r0))).set j (some r))[j]? = some (some v) ∧ Q v H2) = Q := by
      funext r H2
      refine propext ⟨fun ⟨v, e, z⟩ => ?_, fun z => ⟨r, ?_, z⟩⟩
      · rw [List.getElem?_set_self (by rw [List.length_set, sl]; exact jl)] at e
        cases e; exact z
      · rw [List.getElem?_set_self (by rw [List.length_set, sl]; exact jl)]
    have := h r0 o0 hr ho
    exact (show ∀ Q' : VK, Q' = Q → tl (echX X.K j l Q) (upd H r0 (.frz o0 (.tup [.str odd]))) (fun v H2 => ([V.str w0, v] : List V).length ≤ sizeLine ∧ NewT H2 [.str w0, v] Q') from fun Q' e => by rw [e]; exact this) _ eQ
end
end EV
end
section
set_option Elab.async false
set_option linter.all false
set_option maxRecDepth 100000
set_option maxHeartbeats 1000000
/-! Ev60: t(lambda: body), as the evaluator has it. -/
namespace EV
open PySem PySem.Spec PyProof.Rows L2 LamX
abbrev SuM := Nat → List (Str × PV) → Env → GH → Res Fl
/-- the first clause that takes the class c: each has its class's number, the classes that it takes, its suite -/
def pickH (nC : Nat) : List (Nat × (Nat → Bool) × SuM) → SuM
  | [] => fun _ _ _ _ => .bad
  | h :: r => fun c fs => if nC ≤ c then fun _ _ => .bad else if h.2.1 c = true then h.2.2 c fs else pickH nC r c fs
def hdsL (F : Fx) (N iE : Nat) (hs : List (Nat × (Nat → Bool) × SuM)) : List (Value × Nat × SuiteT) := hs.map fun h => (.ref (F.ca h.1), iE, tsX F N iE h.2.2)
/-- what K says of the clauses' classes -/
def ExmOk (K : PySem.W.Frag) (F : Fx) (nC : Nat) (hs : List (Nat × (Nat → Bool) × SuM)) : Prop := ∀ h ∈ hs, ∀ c, c < nC → PySem.W.exmOne K (.ref (F.ca c)) (.ref (F.ca h.1)) = some (h.2.1 c)
section
variable {K : PySem.W.Frag} {F : Fx} {nC N iE : Nat}
theorem wmany_of {c : Nat} {dd : Addr} {fs : List (Str × PV)} {D : Ends} {σ : L2.St} {H : Hp} {ρ0 : Env} {G1 : GH} : ∀ {hs : List (Nat × (Nat → Bool) × SuM)}, ExmOk K F nC hs → (∃ fl G2, pickH nC hs c fs ρ0 G1 = .ok fl G2) →
    (∀ a, H a = none → σ.length = N → TSx F ⟨a, dd, iE, fs⟩ (pickH nC hs c fs) (offD iE D) (σ.set iE (some (.ref a))) H) → wManyA K (fun _ _ _ _ => False) D (hdsL F N iE hs) (.ref (F.ca c)) (some dd) σ H
  | [], _, ⟨fl, G2, e⟩, _ => by cases e
  | h :: r, ok, ⟨fl, G2, e⟩, q => by
    have hc : c < nC := by
      refine Nat.lt_of_not_le fun z => ?_
      unfold pickH at e
      rw [if_pos z] at e
      cases e
    have ep : pickH nC (h :: r) c fs = if h.2.1 c = true then h.2.2 c fs else pickH nC r c fs := by
      show (if nC ≤ c then _ else _) = _
      rw [if_neg (by omega)]
    rw [ep] at e q
    refine ⟨h.2.1 c, ok h (List.mem_cons_self ..) c hc, fun hb a ha => ?_, fun hb => ?_⟩
    · rw [if_pos hb] at q
      intro hl
      exact ⟨c, dd, fs, rfl, rfl, q a ha (by rw [List.length_set] at hl; exact hl)⟩
    · rw [hb, if_neg Bool.false_ne_true] at e q
      exact wmany_of (fun h' m => ok h' (List.mem_cons_of_mem _ m)) ⟨fl, G2, e⟩ q
theorem srel_none {μ : Mu} {H : Hp} (σ : L2.St) : SRel F μ H (List.replicate σ.length none) σ := ⟨by simp, fun i p h => by
  rw [List.getElem?_replicate] at h
  split at h <;> cases h⟩
/-- the teller's wish, out of the evaluator's end -/
theorem tell_use {Ex : XK} {μ : Mu} {H H1 : Hp} {ρ : Env} {σ : L2.St} {G : GH} {m : Env → GH → Res PV} {j : Nat} {odd w0 : Str} {hs : List (Nat × (Nat → Bool) × SuM)} {Q : VK} (ok : ExmOk K F nC hs) (hji : iE ≠ j) (hiN : iE < N) (s : SRel F μ H ρ σ) (g : HRep F μ H G)
    (p : Post F (RV F) Ex μ H (trimR G (tellR N j w0 (pickH nC hs) (m ρ G))) Q) (e : ExtN H H1) (t : Tabs F.T H1) : TTl K j odd w0 (hdsL F N iE hs) (fun E H' Q' => TEv F E m σ H' Q') H1 Q := by
  have p := trim_post g p
  intro r0 o0 hr ho
  have e1 : Ext μ μ H H1 := Ext.extN e
  have g1 : HRep F μ H1 G := g.extN e t
  have e2 : Ext μ μ H1 (upd H1 r0 (.frz o0 (.tup [.str odd]))) := Ext.upd_new g1 hr
  have g2 := g1.upd_new (o := HO.frz o0 (.tup [V.str odd])) hr
  refine ⟨μ, ρ, G, (s.mono e1).mono e2, g2, ?_⟩
  have p := Post.shift (e1.trans e2) p
  cases em : m ρ G with
  | bad => rw [em] at p; exact p
  | ok v G1 =>
    rw [em] at p
    have p : Post F (RV F) Ex μ (upd H1 r0 (.frz o0 (.tup [.str odd]))) (.ok (.tup [.str w0, v]) G1) Q := p
    intro μ' b H' ex rb gg
    refine ⟨by rw [sizeLine_eq]; simp, fun r o hr2 ho2 => ?_⟩
    have ex2 : Ext μ' μ' H' (upd H' r (.frz o (.tup [.str w0, b]))) := Ext.upd_new gg hr2
    refine p.ok (ex.trans ex2) ?_ (gg.upd_new hr2)
    show Rep F _ _ _ _
    simp only [Rep]
    exact ⟨r, [.str w0, b], rfl, by rw [sizeLine_eq]; simp, .inl ⟨gg.fresh hr2, o, upd_same, ho2⟩, .cons (by simp only [Rep]) (.one ((show Rep F μ' H' v b from rb).mono ex2))⟩
  | exc c fs G1 =>
    rw [em] at p
    intro μ' dd H' fvs ex gg hx fr rf
    have p := Post.shift ex p
    have p : Post F (RV F) Ex μ' H' (match pickH nC hs c fs (List.replicate N none) G1 with
      | .ok (.next ρ) G1 => (match ρ[j]? with
        | some (some p) => (.ok p G1 : Res PV)
        | _ => .bad)
      | .ok (.ret p) G1 => .ok p G1
      | _ => .bad) Q := p
    show ∀ σ', wManyA K (fun _ _ _ _ => False) (endD j Q) (hdsL F N iE hs) (.ref (F.ca c)) (some dd) σ' H'
    intro σ'
    cases es : pickH nC hs c fs (List.replicate N none) G1 with
    | bad => rw [es] at p; exact (show False from p).elim
    | exc c2 fs2 G2 => rw [es] at p; exact (show False from p).elim
    | ok fl G2 =>
      rw [es] at p
      refine wmany_of ok ⟨fl, G2, es⟩ fun a ha hl => ⟨μ', List.replicate N none, G1, ⟨?_, ?_, ⟨fvs, hx, rf⟩, fr⟩, gg, ?_⟩
      · have := srel_none (F := F) (μ := μ') (H := H') (σ'.set iE (some (V.ref a)))
        rw [List.length_set, hl] at this
        exact this
      · show (σ'.set iE (some (V.ref a)))[iE]? = _
        rw [List.getElem?_set_self (by omega)]
      · rw [es]
        intro μ2 fv H2 ex2 rfv g2
        cases fl with
        | next ρ2 =>
          cases fv with
          | next σ2 =>
            have rfv : SRx F ⟨a, dd, iE, fs⟩ μ2 H2 ρ2 σ2 := rfv
            have p : Post F (RV F) Ex μ' H' (match ρ2[j]? with
              | some (some p) => (.ok p G2 : Res PV)
              | _ => .bad) Q := p
            cases ej : ρ2[j]? with
            | none => rw [ej] at p; exact (show False from p).elim
            | some o =>
              cases o with
              | none => rw [ej] at p; exact (show False from p).elim
              | some pv =>
                rw [ej] at p
                obtain ⟨v, h1, h2⟩ := rfv.s.at' j pv ej
                show ∃ v, (σ2.set iE none)[j]? = some (some v) ∧ Q v H2
                refine ⟨v, ?_, Post.ok (show Post F (RV F) Ex μ' H' (.ok pv G2) Q from p) ex2 h2 g2⟩
                rw [List.getElem?_set_ne hji]; exact h1
          | _ => exact (show False from rfv).elim
        | ret pv =>
          cases fv with
          | ret v =>
            show Q v H2
            exact Post.ok (R := RV F) (show Post F (RV F) Ex μ' H' (.ok pv G2) Q from p) ex2 (show Rep F μ2 H2 pv v from rfv) g2
          | _ => exact (show False from rfv).elim
        | brk ρ2 => exact (show False from p).elim
        | cont ρ2 => exact (show False from p).elim
end
section
variable {X : Cx} {F : Fx} {Ex : XK} {n k nC N iE j : Nat} {x a odd w0 : Str} {pg : Arguments} {bg : List Stmt} {sg : Scope} {ga : Addr} {fd : FuncData} {Ng : List Str} {hs : List (Nat × (Nat → Bool) × SuM)} {params : Arguments} {body : Expr} {scope : Scope} {m : Env → GH → Res PV} {p lpos pos : Pos}
theorem gtell (g : GX X F Ex n) (L : LamK X F) (hn : k + 2 ≤ n) (Fd : FunD X.K x x pg bg sg [] [] ga fd) (hm : X.mg x = some (.ref ga)) (hb : L2.Binds X.K fd [a] []) (Sg : FnScope Ng [a] sg) (hNg : Ng[0]? = some a) (hva : Vis sg a) (hN : Ng.length = N) (hji : iE ≠ j) (hiN : iE < N)
    (ok : ExmOk X.K F nC hs) (hG : ∀ cdv, GivesTo X Ng x sg ga cdv bg a (X.env.qual ++ "<lambda>") (TTl X.K j odd w0 (hdsL F N iE hs))) (LS : LamS X.env.scope scope)
    (hbody : ∀ (A : Around) (outer : List PySem.Env) (s : Shared) (H : Hp) (E : XK) (f c' : Addr), GX (lamCx X A outer s H E scope f c') F E k → PE (lamCx X A outer s H E scope f c') body (TEv F E m))
    (hg : Gl X x) (hdb : (x == ("__debug__" : Str)) = false) (hd : (a == ("__debug__" : Str)) = false) (hcd : (a == ("__classdict__" : Str)) = false) (hdef : defaultsOf params X.env = ([], []))
    (hbind : ∀ (q : Str) (cl : List (Str × Addr)) (pm cv ctv : Value), bindArgs (PySem.W.kla_fn "<lambda>" q params body scope cl pm cv ctv) ⟨[], []⟩ = pure []) :
    PE X (.Call (.Name x p) [.Lambda params body scope lpos] [] pos) (TEv F Ex (mTell N j w0 (pickH nC hs) m)) := by
  obtain ⟨c, P, TB, hcode, hmT, hu⟩ := L.ex
  obtain ⟨oc, od, dV, kV, doc, pm, an, cdv, ct, osl, rfl, lk, hcd2, _, _⟩ := Fd.ex
  refine (pe_lamcallG (T := F.T) (t := fun E => TEv F E m) (k := k) hg hm Fd.kp lk hcd2 hb Sg hNg hva (hG cdv) TB hcode hmT hu (g.room.mono hn) LS hdef hbind g.gd (fun A outer s H E f c' hgd hr => ?_) hdb hd hcd).weak fun σ H Q ⟨μ, ρ, G, s, gr, q⟩ => ⟨gr.tab, fun H1 e t => tell_use ok hji hiN s gr q e t⟩
  exact hbody A outer s H E f c' ⟨g.K, rfl, g.nd, hr, hgd, passes_call (takes_of rfl rfl rfl rfl) fun _ _ _ _ z => z⟩
end
end EV
end
section
set_option Elab.async false
set_option linter.all false
set_option maxRecDepth 100000
set_option maxHeartbeats 1000000
/-! Ev61: the rules of suites as the printed proofs name them; defs that may raise. -/
namespace EV
open PySem PySem.Spec PyProof.Rows L2 LamX
structure GZ (Y : Cx) (F : Fx) : Prop where
  K : F.K = Y.K
  nd : Y.N.Nodup
  un : Y.A.units + 64 < cLine
/-- the class's facts, the exception's -/
structure ZE (Y : Cx) (F : Fx) (Z : Zx) (oe : Obj) (c : Nat) : Prop where
  hz : Zc (.ref (F.ca c)) (some Z.dd) oe
  hf : ∃ vs, oe.data = .fields vs
  ex : L2.ExcC Y.K (F.ca c)
  xf : XfC Y.K (F.ca c)
section
variable {Y : Cx} {F : Fx} {Z : Zx} {a0 : Addr} {oe : Obj} {pn : List (Addr × Obj)} {a b : Expr} {pos : Pos} {ma mb : Env → GH → Res PV} {c : Nat}
abbrev SX (Y : Cx) (a0 : Addr) (oe : Obj) (pn : List (Addr × Obj)) : Cx := Y.suite a0 ((a0, oe) :: pn)
theorem zvar (i : Nat) {x : Str} (hN : Y.N[i]? = some x := by kernel_rfl) (hv : visB Y.env.scope x = true := by kernel_rfl) (hd : nmB x = true := by kernel_rfl) : PE (SX Y a0 oe pn) (.Name x pos) (TEx F Z (mVar i)) := xv_e (ev_var hN (vis_of hv) (nm1 hd) (nm2 hd))
theorem zstr {x : Str} {j : Nat} : PE (SX Y a0 oe pn) (.Constant (.str x) j pos) (TEx F Z (mCst (.str x))) := xv_e ev_str
theorem zint {x : Int} {j : Nat} : PE (SX Y a0 oe pn) (.Constant (.int x) j pos) (TEx F Z (mCst (.int x))) := xv_e ev_int
theorem zcons {es : List Expr} {ms : Env → GH → Res (List PV)} (he : PE (SX Y a0 oe pn) a (TEx F Z ma)) (hs : PA (SX Y a0 oe pn) es (TAx F Z ms)) (hp : plainE a = true := by kernel_rfl) : PA (SX Y a0 oe pn) (a :: es) (TAx F Z (mCons ma ms)) := xv_cons hp he hs
theorem ztru (g : GZ Y F) (ha : PE (SX Y a0 oe pn) a (TEx F Z ma)) (he : ∀ whole, isTrue a Y.env whole = (do let v ← whole; standAt a.pos; holding [v] (truthy v)) := by intro _; rfl) : PT (SX Y a0 oe pn) a (TTx F Z (mT ma)) := xv_truth (X := SX Y a0 oe pn) g.K ha he
theorem read2x {f : List PV → GH → Res PV} {σ : L2.St} {H : Hp} {Q : VK} (h : TEx F Z (m2 ma mb f) σ H Q) : tOp (OpV F E0 f) (TEx F Z ma) (TEx F Z mb) σ H Q := by
  obtain ⟨μ, ρ, G, s, g, p⟩ := h
  refine TEx.run s g p fun μ1 a G1 v H1 e1 r1 g1 s1 p1 => ?_
  refine TEx.run s1 g1 p1 fun μ2 b G2 w H2 e2 r2 g2 s2 p2 => ?_
  exact ⟨μ2, [a, b], G2, .cons (r1.mono e2) (.one r2), g2, p2⟩
theorem zeqT (g : GZ Y F) (ha : PE (SX Y a0 oe pn) a (TEx F Z ma)) (hb : PE (SX Y a0 oe pn) b (TEx F Z mb)) (hm : behindInMarks .Eq b = false := by kernel_rfl) : PT (SX Y a0 oe pn) (.Compare a [.Eq] [b] pos) (TTx F Z (mB (m2 ma mb (Cop.f .eq)))) :=
  (pt_cmpR (opEq_ok (X := SX Y a0 oe pn) (F := F) (Ex := E0) g.K g.un) ha hb hm).weak fun σ H Q ⟨μ, ρ, G, s, gr, p⟩ => read2x ⟨μ, ρ, G, s, gr, (Post.bind (R := RV F) p).mono fun v H1 ⟨μ1, a, G1, _, e, r, g1, q⟩ => asB_use r g1 q⟩
theorem zix (g : GZ Y F) (hs : PlainIx b) (ha : PE (SX Y a0 oe pn) a (TEx F Z ma)) (hb : PE (SX Y a0 oe pn) b (TEx F Z mb)) : PE (SX Y a0 oe pn) (.Subscript a b pos) (TEx F Z (m2 ma mb opIx)) :=
  (pe_ix (opIx_ok (X := SX Y a0 oe pn) (F := F) (Ex := E0) g.K) ha hb hs).weak fun σ H Q h => read2x h
theorem zasg (i : Nat) {y : Str} {py : Pos} {e : Expr} {m : Env → GH → Res PV} (g : GZ Y F) (he : PE (SX Y a0 oe pn) e (TEx F Z m)) (hne : (i == Z.i) = false := by rfl) (hi : Y.N[i]? = some y := by kernel_rfl) (hx : (Y.env.scope.names.lookup y == some .local) = true := by kernel_rfl)
    (hs : swapsWithSole [.Name y py] e pos.line Y.env = pure false := by rfl) (hw : swappedStores [.Name y py] e Y.env = pure none := by rfl) : PS (SX Y a0 oe pn) (.Assign [.Name y py] e pos) (TSx F Z (sAsg m (gN i))) :=
  xv_asg (X := SX Y a0 oe pn) he g.nd hi (.inl (beq_iff_eq.mp hx)) (.inr (beq_iff_eq.mp hx)) (by simpa using hne) hs hw
/-- name.count(..) -/
theorem zcnt (g : GZ Y F) (i : Nat) {x : Str} {e : Expr} {p1 apos : Pos} {m : Env → GH → Res PV} (he : PE (SX Y a0 oe pn) e (TEv F E0 m)) (hN : Y.N[i]? = some x := by kernel_rfl) (hv : visB Y.env.scope x = true := by kernel_rfl) (hd : nmB x = true := by kernel_rfl) (h1 : plainE e = true := by kernel_rfl)
    (hbase : attributeBase (.Name x p1) "count" Y.env (eval (.Name x p1) Y.env) = eval (.Name x p1) Y.env := by rfl)
    (hfew : ((backTo pos (starEach [e] Y.env)).all (fun x => !x.1) && (backToKw pos (keywordEach [] Y.env)).all (fun x => x.1.isSome) && decide ([e].length + ([] : List Keyword).length + (if ([] : List Keyword).isEmpty then 0 else 1) < 30)) = true := by rfl)
    (hline : (apos.endLine == pos.line) = true := by kernel_rfl) : PE (SX Y a0 oe pn) (.Call (.Attribute (.Name x p1) "count" apos) [e] [] pos) (TEx F Z (mMet "list" (mVar i) (mCons m mNil) fCntB)) :=
  xv_e (ev_met (X := SX Y a0 oe pn) g.K rfl PySem.F.plainAttrs_list PySem.F.slot_list_count PySem.F.type_list_count (fCntB_ok (X := SX Y a0 oe pn) g.K (by have := g.un; show Y.A.units + 1 < cLine; omega)) (ev_var hN (vis_of hv) (nm1 hd) (nm2 hd)) (ev_cons h1 he ev_nil) h1 rfl hbase hfew hline)
/-- own classes, built-in ones by name -/
theorem nmOwn {x : Str} {C : Addr} (hm : Y.mg x = some (.ref C)) (hg : Y.env.kindOf x = some .globalImplicit := by kernel_rfl) (hd : nmB x = true := by kernel_rfl) : NmC (SX Y a0 oe pn) x (.ref C) (.ref C) := ⟨fun p => pe_glob hg hm rfl (nm1 hd), .own C⟩
theorem nmBlt {x : Str} {T : String} (hm : Y.mg x = none) (hv : bootBuiltins x = some (.type T) := by kernel_rfl) (hg : Y.env.kindOf x = some .globalImplicit := by kernel_rfl) (hn : x ≠ "__name__" := by decide) (hd : nmB x = true := by kernel_rfl) : NmC (SX Y a0 oe pn) x (.ty T) (.type T) := ⟨fun p => pe_bltn hg hm hv rfl hn (nm1 hd), .ty T⟩
theorem zisi (z : ZE Y F Z oe c) {n y : Str} {p p2 p3 : Pos} {cv : V} {u : Value} {r : Bool} (hm : Y.mg "isinstance" = none) (hT : NmC (SX Y Z.a oe pn) y cv u) (hk : PySem.W.kitOne Y.K (.ref (F.ca c)) u = some r) (hN : Y.N[Z.i]? = some n := by kernel_rfl) (hvis : visB Y.env.scope n = true := by kernel_rfl) (hd : nmB n = true := by kernel_rfl)
    (hg : Y.env.kindOf "isinstance" = some .globalImplicit := by kernel_rfl) : PE (SX Y Z.a oe pn) (.Call (.Name "isinstance" p) [.Name n p2, .Name y p3] [] pos) (TEx F Z (mCst (.bl r))) :=
  xisi z.ex z.hz z.hf hg hm (by kernel_rfl) (by decide) (by kernel_rfl) hN (vis_of hvis) (nm1 hd) (nm2 hd) hT hk
theorem zisiT (z : ZE Y F Z oe c) {n : Str} {p p2 p3 : Pos} {es : List Expr} {cs : List V} {us : List Value} {k : Nat} {r : Bool} (hm : Y.mg "isinstance" = none) (hT : NmCs (SX Y Z.a oe pn) es cs us) (hk : PySem.W.kitAny Y.K (.ref (F.ca c)) us = some r) (hN : Y.N[Z.i]? = some n := by kernel_rfl) (hvis : visB Y.env.scope n = true := by kernel_rfl) (hd : nmB n = true := by kernel_rfl)
    (hg : Y.env.kindOf "isinstance" = some .globalImplicit := by kernel_rfl) (hl : decide (cs.length ≤ 1000) = true := by rfl) : PE (SX Y Z.a oe pn) (.Call (.Name "isinstance" p) [.Name n p2, .Tuple es k p3] [] pos) (TEx F Z (mCst (.bl r))) :=
  xisiT z.ex z.hz z.hf hg hm (by kernel_rfl) (by decide) (by kernel_rfl) hN (vis_of hvis) (nm1 hd) (nm2 hd) hT (of_decide_eq_true hl) hk
/-- e.f -/
def mFld (fs : List (Str × PV)) (f : Str) : Env → GH → Res PV := fun _ G => match fs.lookup f with
  | some v => .ok v G
  | none => .bad
theorem zfld (z : ZE Y F Z oe c) {n f : Str} {p : Pos} (hno : PySem.W.findIn Y.K (.ref (F.ca c)) f = some none) (hN : Y.N[Z.i]? = some n := by kernel_rfl) (hvis : visB Y.env.scope n = true := by kernel_rfl) (hd : nmB n = true := by kernel_rfl)
    (hb : attributeBase (.Name n p) f Y.env (eval (.Name n p) Y.env) = eval (.Name n p) Y.env := by rfl) : PE (SX Y Z.a oe pn) (.Attribute (.Name n p) f pos) (TEx F Z (mFld Z.fs f)) := by
  cases e : Z.fs.lookup f with
  | none => exact ⟨fun pins s σ H Q I ⟨μ, ρ, G, _, _, q⟩ => by
      unfold mFld at q
      rw [e] at q
      exact (show False from q).elim⟩
  | some v =>
    have em : mFld Z.fs f = mCst v := by
      funext ρ G
      simp only [mFld, e, mCst]
    rw [em]
    exact xfld z.xf hno z.hz z.hf hN (vis_of hvis) (nm1 hd) (nm2 hd) e hb
end
end EV
end
section
set_option Elab.async false
set_option linter.all false
set_option maxRecDepth 100000
set_option maxHeartbeats 1000000
/-! Ev62: defs that may raise; what the head tells of the exception classes. -/
namespace EV
open PySem PySem.Spec PyProof.Rows L2
section
variable {P : Program} {w : World} {K : PySem.W.Frag} {mg : Str → Option Value} {base : Heap} {F : Fx} {n : Nat}
theorem CalleeP.mono {x : Str} {np : Nat} {m : List PV → GH → Res PV} (c : CalleeP P w K mg base F n x np m) {k : Nat} (h : n ≤ k) : CalleeP P w K mg base F k x np m where
  ex := by
    obtain ⟨f, fd, ps, a, b⟩ := c.ex
    exact ⟨f, fd, ps, a.mono h, b⟩
  ar := c.ar
/-- def_ok, where the body may raise -/
theorem def_okX {name nm qual : Str} {params : Arguments} {body : List Stmt} {scope : Scope} {f : Addr} {fd : FuncData} {N ps : List Str} {m : Env → GH → Res Fl} (hK : F.K = K) (Fd : FunD K nm qual params body scope [] [] f fd) (S : FnScope N ps scope)
    (hm : mg name = some (.ref f)) (hb : Binds K fd ps []) (hbody : ∀ (cdv : Value) (A : Around) (outer : List PySem.Env) (s : Shared) (H : Hp) (E : XK), GX (CXo P w K mg base N qual scope f cdv A outer s H E) F E n →
      PassesOwn (model P w) (CXo P w K mg base N qual scope f cdv A outer s H E).A (CXo P w K mg base N qual scope f cdv A outer s H E).env (CXo P w K mg base N qual scope f cdv A outer s H E).xe → CodeAt K f cdv →
      (Takes (CXo P w K mg base N qual scope f cdv A outer s H E) fun cls d _ H' => E cls d H') → PSs (CXo P w K mg base N qual scope f cdv A outer s H E) body (TSv F E m)) :
    CalleeP P w K mg base F (n + 1) name ps.length (defV ps.length N m) where
  ex := by
    obtain ⟨oc, od, dV, kV, doc, pm, an, cdv, ct, osl, e, lk, hcd, _, _⟩ := Fd.ex
    subst e
    refine ⟨f, _, ps, fnG_of lk hcd S (fun vs H Q E h => h.1) (fun A outer s H vs Q E hr hgd h => ?_), hm, Fd.kp, hb⟩
    have tk : Takes (CXo P w K mg base N qual scope f cdv A outer s H E) fun cls d _ H' => E cls d H' := takes_of rfl rfl rfl rfl
    refine ⟨_, hbody cdv A outer s H E ⟨hK, rfl, S.nd, hr, hgd, passes_call tk fun _ _ _ _ z => z⟩ (passes_of rfl) ⟨_, _, _, _, lk, rfl⟩ tk, body_read (N := N) ?_⟩
    obtain ⟨h1, μ, qs, G, r, g, p⟩ := h
    unfold defV at p
    rw [if_pos (r.length.trans h1)] at p
    exact ⟨μ, qs, G, r, g, trim_post g p⟩
  ar := fun qs G h => by unfold defV; rw [if_neg h]
end
/-- a class's __init__ -/
def clsInit : Stmt → Stmt
  | .ClassDef _ _ _ body _ _ _ _ _ _ _ => body.getD 0 (.Pass ⟨0, 0, 0, 0⟩)
  | s => s
/-! ### the head's look at the classes -/
def oexB (K : PySem.W.Frag) (C : Addr) : Bool := (match K.lookup C with
  | some ⟨.type t, _, .cls cd, sl⟩ => (match cd.mro, sl.toList with
    | .ref C' :: bm, [_, _, _, _, some (.builtin n), _] => decide (t = "type") && (decide (C' = C) && (decide (n = "ValueError.__new__") && (!cd.hasDel && (cd.hasDict && PySem.HandSPX.refsVE bm))))
    | _, _ => false)
  | _ => false) && (decide (PySem.W.findIn K (.ref C) "__setattr__" = some (some (.builtin "object.__setattr__"))) && (decide (PySem.W.subIn K (.ref C) (.type "BaseException") = some true) && (decide (PySem.W.typeIn K (.ref C) = some (.type "type")) && PySem.W.keepIn K (.ref C))))
theorem oexB_ok {K : PySem.W.Frag} {C : Addr} (h : oexB K C = true) : OexC K C := by
  obtain ⟨h1, h⟩ := He.ba h
  obtain ⟨h2, h⟩ := He.ba h
  obtain ⟨h3, h⟩ := He.ba h
  obtain ⟨h4, h5⟩ := He.ba h
  refine ⟨?_, of_decide_eq_true h2, of_decide_eq_true h3, of_decide_eq_true h4, h5⟩
  split at h1
  · rename_i t dd cd sl ho
    split at h1
    · rename_i C' bm k0 k1 k2 k3 n k5 hm hs
      simp only [Bool.and_eq_true, decide_eq_true_eq, Bool.not_eq_true'] at h1
      obtain ⟨rfl, rfl, rfl, hdel, hdd, ht⟩ := h1
      obtain ⟨nm, bs, mro, ns, qn, hd, sn, sub, ab, col, del⟩ := cd
      dsimp only at hm hdel hdd
      subst hm hdel hdd
      have hsl : sl = #[k0, k1, k2, k3, some (.builtin "ValueError.__new__"), k5] := by
        obtain ⟨l⟩ := sl
        simp only at hs
        rw [hs]
      subst hsl
      exact ⟨nm, qn, ns, bs, bm, sn, sub, ab, col, dd, k0, k1, k2, k3, k5, ho, ht⟩
    · cases h1
  · cases h1
def excB (K : PySem.W.Frag) (D : Addr) : Bool := xfB K D && (decide (PySem.W.findIn K (.ref D) "__class__" = some (some (.builtin "object.__class__"))) && (decide (PySem.W.specialIn K (.builtin "object.__class__") "__get__" = some (some (.builtin "getset_descriptor.__get__"))) &&
  (decide (PySem.W.takesIn K (.builtin "object.__class__") = some true) && decide (PySem.W.mroIn K D (.type "object") = some true))))
theorem excB_ok {K : PySem.W.Frag} {D : Addr} (h : excB K D = true) : L2.ExcC K D ∧ XfC K D := by
  obtain ⟨h1, h⟩ := He.ba h
  obtain ⟨h2, h⟩ := He.ba h
  obtain ⟨h3, h⟩ := He.ba h
  obtain ⟨h4, h5⟩ := He.ba h
  have x := xfB_ok h1
  exact ⟨⟨x.ga, x.gg, x.exC, x.hdC, of_decide_eq_true h2, of_decide_eq_true h3, of_decide_eq_true h4, of_decide_eq_true h5⟩, x⟩
def xbaseB (K : PySem.W.Frag) (D : Addr) : Bool := PySem.W.readsIn K D (.type "type") && (decide (PySem.W.specialIn K (.ref D) "__getattribute__" = some (some (.builtin "type.__getattribute__"))) && (match PySem.W.findCls K (.ref D) (.type "type") "__init__" with
  | some (.val (.builtin n)) => decide (n = "ValueError.__init__")
  | _ => false))
theorem xbaseB_ok {K : PySem.W.Frag} {D : Addr} (h : xbaseB K D = true) : XBase K D := by
  obtain ⟨h1, h⟩ := He.ba h
  obtain ⟨h2, h3⟩ := He.ba h
  refine ⟨⟨h1, of_decide_eq_true h2⟩, ?_⟩
  split at h3
  · rename_i n e
    rw [e, of_decide_eq_true h3]
  · cases h3
def xclsB (K : PySem.W.Frag) (x : Str) (fl : List Str) : Bool := oexB K (He.ga K x) && (decide (PySem.W.findIn K (.ref (He.ga K x)) "__init__" = some (some (.ref (He.fAd K (x, some "__init__"))))) && (decide (PySem.W.typeIn K (.ref (He.fAd K (x, some "__init__"))) = some (.type "function")) &&
  fl.all fun f => decide (PySem.W.findIn K (.ref (He.ga K x)) f = some none)))
theorem xclsB_ok {K : PySem.W.Frag} {x : Str} {fl : List Str} (h : xclsB K x fl = true) : XCls K (He.ga K x) (He.fAd K (x, some "__init__")) fl := by
  obtain ⟨h1, h⟩ := He.ba h
  obtain ⟨h2, h⟩ := He.ba h
  obtain ⟨h3, h4⟩ := He.ba h
  exact ⟨oexB_ok h1, of_decide_eq_true h2, of_decide_eq_true h3, fun f hf => of_decide_eq_true (List.all_eq_true.mp h4 f hf)⟩
inductive XFa where
  | cls (x : Str) (fl : List Str)
  | base (x : Str)
  | exc (x : Str)
  | kit (x y : Str) (b : Bool)
  | kitT (x : Str) (T : String) (b : Bool)
  | kitA (x : Str) (us : List Str) (b : Bool)
  | exm (x y : Str) (b : Bool)
  | noat (x f : Str)
  | any (f : PySem.W.Frag → Bool)
def XFa.ok (K : PySem.W.Frag) : XFa → Bool
  | .cls x fl => xclsB K x fl
  | .base x => xbaseB K (He.ga K x)
  | .exc x => excB K (He.ga K x)
  | .kit x y b => decide (PySem.W.kitOne K (.ref (He.ga K x)) (.ref (He.ga K y)) = some b)
  | .kitT x T b => decide (PySem.W.kitOne K (.ref (He.ga K x)) (.type T) = some b)
  | .kitA x us b => decide (PySem.W.kitAny K (.ref (He.ga K x)) (us.map fun y => .ref (He.ga K y)) = some b)
  | .exm x y b => decide (PySem.W.exmOne K (.ref (He.ga K x)) (.ref (He.ga K y)) = some b)
  | .noat x f => decide (PySem.W.findIn K (.ref (He.ga K x)) f = some none)
  | .any f => f K
def eachX (xs : List XFa) (ex : PySem.W.Frag → Bool) (K : PySem.W.Frag) : Bool := ex K && xs.all (XFa.ok K)
theorem eachX_c {xs : List XFa} {ex : PySem.W.Frag → Bool} {K : PySem.W.Frag} (h : eachX xs ex K = true) : ex K = true := (He.ba h).1
theorem eachX_x {xs : List XFa} {ex : PySem.W.Frag → Bool} {K : PySem.W.Frag} (h : eachX xs ex K = true) (i : Nat) {f : XFa} (e : xs[i]? = some f) : f.ok K = true := List.all_eq_true.mp (He.ba h).2 f (List.mem_of_getElem? e)
/-! ### the Hook: hookX with the interpreter's own statics -/
def asZ (g : Addr → Option Obj) (n : Nat) : List Addr := He.asD g n ++ [cStatics]
def obsXS (n : Nat) (fa : List He.Fa) (fn : List He.DefD) (ts : List He.Tab) (tf : List He.Defn) (ex : PySem.W.Frag → Bool) (g : Addr → Option Obj) : He.AlX := (He.obsT fa fn ts (He.frT g (asZ g n)), ex (He.frT g (asZ g n)) && He.tabsB g tf (He.frT g (asZ g n)))
theorem saysXS_of {n : Nat} {fa : List He.Fa} {fn : List He.DefD} {ts : List He.Tab} {tf : List He.Defn} {ex : PySem.W.Frag → Bool} {w : World} {h : Heap} (e : obsXS n fa fn ts tf ex h.get? = He.valX fn ts w) : He.SaysX fa fn ts tf ex w h (He.frT h.get? (asZ h.get? n)) := by
  have e1 : He.obsT fa fn ts (He.frT h.get? (asZ h.get? n)) = He.valT fn ts w := congrArg (fun z : He.AlX => z.1) e
  have e2 : (ex (He.frT h.get? (asZ h.get? n)) && He.tabsB h.get? tf (He.frT h.get? (asZ h.get? n))) = true := congrArg (fun z : He.AlX => z.2) e
  obtain ⟨h1, h2⟩ := He.ba e2
  have key : ∀ p ∈ tf, PySem.W.codeHdIn (He.frT h.get? (asZ h.get? n)) (He.cT (He.frT h.get? (asZ h.get? n)) p).1 (He.cT (He.frT h.get? (asZ h.get? n)) p).2 = true ∧ ∃ o, h.get? (He.cT (He.frT h.get? (asZ h.get? n)) p).2 = some o ∧ He.emptyTab o = true := fun p hp => by
    obtain ⟨h3, h4⟩ := He.ba (List.all_eq_true.mp h2 p hp)
    refine ⟨h3, ?_⟩
    cases q : h.get? (He.cT (He.frT h.get? (asZ h.get? n)) p).2 with
    | none =>
      rw [q] at h4
      cases h4
    | some o =>
      rw [q] at h4
      exact ⟨o, rfl, h4⟩
  exact ⟨e1, h1, fun p hp => (key p hp).1, fun p hp => by
    obtain ⟨_, o, q, z⟩ := key p hp
    exact He.frT_none q z, fun p hp => by
    obtain ⟨_, o, q, z⟩ := key p hp
    rw [q, He.emptyTab_eq z]⟩
def hookXS (n : Nat) (fa : List He.Fa) (fn : List He.DefD) (ts : List He.Tab) (tf : List He.Defn) (ex : PySem.W.Frag → Bool) : PySem.W.Hook where
  α := He.AlX
  obs := fun s => obsXS n fa fn ts tf ex s.heap.get?
  val := fun w => He.valX fn ts w
  says := fun w h => ∃ K : PySem.W.Frag, K.In h ∧ He.SaysX fa fn ts tf ex w h K
  of := fun _ _ e => ⟨_, He.frT_in, saysXS_of e⟩
  keeps := fun _ _ _ ⟨K, hK, c⟩ k => ⟨K, PySem.W.Frag.In.keeps hK k, ⟨c.t, c.more, c.hd, c.out, fun p hp => k _ _ (c.empty p hp)⟩⟩
theorem obsXS_eq {n : Nat} {fa : List He.Fa} {fn : List He.DefD} {ts : List He.Tab} {tf : List He.Defn} {ex : PySem.W.Frag → Bool} {g : Addr → Option Obj} {s : Shared} (h : ∀ a, g a = s.heap.get? a) : obsXS n fa fn ts tf ex g = (hookXS n fa fn ts tf ex).obs s := by
  have e : g = s.heap.get? := funext h
  rw [e] <;> rfl
end EV
end
section
set_option Elab.async false
set_option linter.all false
set_option maxRecDepth 100000
set_option maxHeartbeats 1000000
/-! Ev63: raise, tellers, as the printed proofs name them. -/
namespace EV
open PySem PySem.Spec PyProof.Rows L2 LamX
def AllS {α : Type} (p : Nat → α → Prop) : Nat → List α → Prop
  | _, [] => True
  | i, x :: r => p i x ∧ AllS p (i + 1) r
theorem AllS.at {α : Type} {p : Nat → α → Prop} : ∀ {l : List α} {i j : Nat} {x : α}, AllS p i l → l[j]? = some x → p (i + j) x
  | y :: r, i, 0, x, h, e => by
    simp only [List.getElem?_cons_zero, Option.some.injEq] at e
    rw [← e]
    exact h.1
  | y :: r, i, j + 1, x, h, e => by
    have := AllS.at (j := j) h.2 (by simpa using e)
    rwa [show i + 1 + j = i + (j + 1) by omega] at this
abbrev SuE := List (Str × PV) → Env → GH → Res Fl
def suL (l : List SuE) : SuM := fun c fs => match l[c]? with
  | some s => s fs
  | none => fun _ _ => .bad
abbrev TlH := Nat × List Bool × List SuE
def hL (t : List TlH) : List (Nat × (Nat → Bool) × SuM) := t.map fun h => (h.1, (fun c => h.2.1.getD c false), suL h.2.2)
theorem pss_suL {Y : Cx} {F : Fx} {N iE : Nat} {l : List SuE} {b : List Stmt} {a : Addr} {oe : Obj} {cls : Value} {d : Option Addr} {pn : List (Addr × Obj)} (hN : Y.N.length = N) (hz : Zc cls d oe) (hf : ∃ vs, oe.data = .fields vs) (hx : AllS (fun c _ => L2.ExcC Y.K (F.ca c) ∧ XfC Y.K (F.ca c)) 0 l)
    (h : AllS (fun c (s : SuE) => ∀ dd fs, ZE Y F ⟨a, dd, iE, fs⟩ oe c → PSs (Y.suite a ((a, oe) :: pn)) b (TSx F ⟨a, dd, iE, fs⟩ (s fs))) 0 l) : PSs (Y.suite a ((a, oe) :: pn)) b (tsX F N iE (suL l) a cls d) :=
  pss_tsX hN fun c dd fs e1 e2 => by
    subst e1 e2
    cases q : l[c]? with
    | none =>
      have e : suL l c fs = fun _ _ => .bad := by unfold suL; rw [q]
      rw [e]
      exact ⟨fun pins s σ H D I ⟨μ, ρ, G, _, _, q⟩ => (show False from q).elim⟩
    | some s =>
      have e : suL l c fs = s fs := by unfold suL; rw [q]
      rw [e]
      have h1 := hx.at q
      have h2 := h.at q
      rw [Nat.zero_add] at h1 h2
      exact h2 dd fs ⟨hz, hf, h1.1, h1.2⟩
/-- a suite that no exception comes to -/
def suNo : SuE := fun _ _ _ => .bad
theorem pss_suNo {X : Cx} {F : Fx} {Z : Zx} {fs : List (Str × PV)} {b : List Stmt} : PSs X b (TSx F Z (suNo fs)) := ⟨fun pins s σ H D I ⟨μ, ρ, G, _, _, q⟩ => (show False from q).elim⟩
theorem exm_hL {K : PySem.W.Frag} {F : Fx} {nC : Nat} {t : List TlH} (h : AllS (fun _ h => h.2.1.length = nC ∧ AllS (fun c b => PySem.W.exmOne K (.ref (F.ca c)) (.ref (F.ca h.1)) = some b) 0 h.2.1) 0 t) : ExmOk K F nC (hL t) := fun h' hm c hc => by
  obtain ⟨q, hq, rfl⟩ := List.mem_map.mp hm
  obtain ⟨j, hj⟩ := List.mem_iff_getElem?.mp hq
  obtain ⟨h1, h2⟩ := h.at hj
  have e : q.2.1[c]? = some (q.2.1.getD c false) := by
    rw [List.getD_eq_getElem?_getD, List.getElem?_eq_getElem (by omega)]; rfl
  have h3 := h2.at e
  rw [Nat.zero_add] at h3
  exact h3
/-- what is never asked -/
theorem znev {X : Cx} {F : Fx} {Z : Zx} {e : Expr} : PE X e (TEx F Z (fun _ _ => .bad)) := ⟨fun pins s σ H Q I ⟨μ, ρ, G, _, _, q⟩ => (show False from q).elim⟩
theorem GX.un2 {X : Cx} {F : Fx} {Ex : XK} {n : Nat} (g : GX X F Ex n) : X.A.units + 128 < cLine := by have := g.room.un; omega
theorem glX {X : Cx} {x : Str} (h : X.env.kindOf x = some .globalImplicit := by kernel_rfl) : Gl X x := h
/-- the teller x, in X -/
structure TellX (X : Cx) (F : Fx) (x a w0 : Str) (nC N iE j : Nat) (hs : List (Nat × (Nat → Bool) × SuM)) : Prop where
  ex : ∃ (ga : Addr) (fd : FuncData) (pg : Arguments) (bg : List Stmt) (sg : Scope) (odd : Str) (Ng : List Str), FunD X.K x x pg bg sg [] [] ga fd ∧ X.mg x = some (.ref ga) ∧ L2.Binds X.K fd [a] [] ∧ FnScope Ng [a] sg ∧ Ng[0]? = some a ∧ Vis sg a ∧ Ng.length = N ∧ iE ≠ j ∧ iE < N ∧ ExmOk X.K F nC hs ∧
    (x == ("__debug__" : Str)) = false ∧ (a == ("__debug__" : Str)) = false ∧ (a == ("__classdict__" : Str)) = false ∧ ∀ cdv q, GivesTo X Ng x sg ga cdv bg a q (TTl X.K j odd w0 (hdsL F N iE hs))
section
variable {X : Cx} {F : Fx} {Ex : XK} {n k nC N iE j : Nat} {x a odd w0 : Str} {hs : List (Nat × (Nat → Bool) × SuM)} {params : Arguments} {body : Expr} {scope : Scope} {m : Env → GH → Res PV} {p lpos pos : Pos}
theorem gtellP (g : GX X F Ex n) (L : LamK X F) (T : TellX X F x a w0 nC N iE j hs) (hn : k + 2 ≤ n)
    (hbody : ∀ (A : Around) (outer : List PySem.Env) (s : Shared) (H : Hp) (E : XK) (f c' : Addr), GX (lamCx X A outer s H E scope f c') F E k → PE (lamCx X A outer s H E scope f c') body (TEv F E m))
    (hg : X.env.kindOf x = some .globalImplicit := by kernel_rfl) (LS : lamSB X.env.scope scope = true := by kernel_rfl) (hdef : defaultsOf params X.env = ([], []) := by rfl)
    (hbind : ∀ (q : Str) (cl : List (Str × Addr)) (pm cv ctv : Value), bindArgs (PySem.W.kla_fn "<lambda>" q params body scope cl pm cv ctv) ⟨[], []⟩ = pure [] := by intros; rfl) :
    PE X (.Call (.Name x p) [.Lambda params body scope lpos] [] pos) (TEv F Ex (mTell N j w0 (pickH nC hs) m)) := by
  obtain ⟨ga, fd, pg, bg, sg, odd, Ng, Fd, hm, hb, Sg, hNg, hva, hN, hji, hiN, ok, hdb, hd, hcd, hG⟩ := T.ex
  exact gtell g L hn Fd hm hb Sg hNg hva hN hji hiN ok (fun cdv => hG cdv _) (lamS_by LS) hbody hg hdb hd hcd hdef hbind
theorem graise {e : Expr} {es : List Expr} {rpos : Pos} {c : Nat} {fl : List Str} {ms : Env → GH → Res (List PV)} {gt : List PV → GH → Res PV} (g : GX X F Ex n) (tk : Takes X fun cls d _ H => Ex cls d H) (hgt : gateB (gt [] []) = true → 3 ≤ n) (M : XMk X.prog X.w X.K X.mg X.base (F.ca c) fl) (hm : X.mg x = some (.ref (F.ca c)))
    (ha : PA X (e :: es) (TAv F Ex ms)) (hg : X.env.kindOf x = some .globalImplicit := by kernel_rfl) (hd : nmB x = true := by kernel_rfl) (he : starEach (e :: es) X.env = (false, eval e X.env) :: starEach es X.env := by rfl) (hpl : (backTo pos (starEach es X.env)).any (·.1) = false := by rfl) :
    PS X (.Raise (some (.Call (.Name x p) (e :: es) [] pos)) none rpos) (TSv F Ex (sRaise (gateB (gt [] [])) c fl ms)) := ev_raise g tk hgt M hm ha hg (nm1 hd) he hpl
end
end EV
end
section
set_option Elab.async false
set_option linter.all false
set_option maxRecDepth 100000
set_option maxHeartbeats 1000000
/-! Ev64: x in y, y of tuples of plain things. -/
namespace EV
open PySem PySem.Spec PyProof.Rows L2
section
variable {X : Cx} {F : Fx} {Ex : XK} {n : Nat}
variable {a b : Expr} {pos : Pos} {ma mb : EV.Env → GH → Res PV}
end
end EV
end
section
set_option Elab.async false
set_option linter.all false
set_option maxRecDepth 100000
set_option maxHeartbeats 1000000
/-! Ev65: enumerate(a tuple), walked. -/
namespace PySem
open AutoSeq1 (wpAny_loadPart')
section
variable {prog : Program} {w : World} {A : Around} {E : Value → Shared → Prop} {s : Shared}
end
end PySem
namespace EV
open PySem PySem.Spec PyProof.Rows L2 RZ Zs
section
variable {X : Cx} {F : Fx} {Ex : XK} {n : Nat}
end
end EV
end
section
set_option Elab.async false
set_option linter.all false
set_option maxRecDepth 100000
set_option maxHeartbeats 1000000
/-! Ev66: sorted(a tuple) of alike data; tuples of which the first is empty, too. -/
namespace PySem.W
open PySem PySem.Calls PyProof.Rows PySem.SeqAt
section
variable {prog : Program} {w : World} {A : Around} {E : Value → Shared → Prop} {s : Shared}
/-! ### tuples by their own __lt__ -/
variable {β : Type} {vs : List Value} {bs : List β} {R : Value → β → Prop} {enc : β → PyData}
end
end PySem.W
namespace EV
open PySem PySem.Spec PyProof.Rows L2
section
variable {X : Cx} {F : Fx} {Ex : XK} {n : Nat}
end
end EV
end
section
set_option Elab.async false
set_option linter.all false
set_option maxRecDepth 100000
set_option maxHeartbeats 2000000
/-! Ev67: own exception classes over LookupError (printed by mkEv67.py: HandS's rules, which are of ValueError's alone, turned). -/
namespace PySem
namespace W
theorem store_LKP (self : Value) : refuseLoop self "__setattr__" [.type "LookupError", .type "Exception", .type "BaseException", .type "object"] = pure () := PySem.F.store_LookupError.passes self
end W
abbrev lkTail : List Value := [.type "LookupError", .type "Exception", .type "BaseException", .type "object"]
theorem lk_ne {l : List Value} (e : W.excTail lkTail l = true) : l.isEmpty = false := by
  cases l with
  | nil => exact absurd e (by decide)
  | cons _ _ => rfl
namespace OEXL
open PySem.W PySem.Calls PyProof.Rows PySem.HandSPX PySem.OEX
section
open Builtin Builtin.ObjectAttr
variable {prog : Program} {w : World} {A : Around} {E : Value → Shared → Prop} {R : Result → Shared → Prop} {hp : Heap} {g : Array GenState} {d : Drawn} {t : Nat} {os : OsState}
theorem exc_osaL {K : W.Frag} {name : Str} {tk : Tok} {v : Value} {x C : Addr} {fv : Array Value} {cd : ClassData}
    (X : K.In hp) (hx : hp.get? x = some { cls := .ref C, data := .fields fv }) (hcd : W.clsIn K C = some cd) (hm : PySem.W.excTail lkTail cd.mro = true) (hh : cd.hasDict = true) (ha : W.findIn K (.ref C) name = some none)
    (hq : ∀ h' tk' dx, (∀ b o, b ≠ x → hp.get? b = some o → h'.get? b = some o) → hp.objs.size ≤ dx → dx ≠ x → h'.get? x = some { cls := .ref C, dict := some dx, data := .fields fv } →
      h'.Ns1 dx (fun y => if y = name then some v else none) → R (.ok (.ret .none)) ⟨h', g, d, tk', os⟩) :
    codeAny (model prog w) A (.call (.builtin "object.__setattr__") ⟨[.ref x, .str name tk, v], []⟩) R ⟨hp, g, d, t, os⟩ := by
  have I : W.InstAt hp x { cls := .ref C, data := .fields fv } C none := ⟨hx, rfl, rfl, trivial⟩
  have SF := F.store_object
  have ne := lk_ne hm
  have hob : cd.mro.contains (.type "object") = true := (PySem.W.excTail_contains "object" _ hm).trans (by decide +kernel)
  have hxs : x ≠ hp.objs.size := Nat.ne_of_lt (Heap.lt_size hx)
  have sub : W.Looks (model prog w) hp (isInstance (.ref x) (.type "object")) true := I.type.andThen (W.looks_mroIn X (by unfold W.mroIn; rw [hcd, Option.bind_some, if_neg (by rw [ne]; decide), hob]))
  refine codeAny_call_builtin SF.slot.plain SF.entry (@W.check_slot (model prog w) _ _ ⟨hp, g, d, t, os⟩ "object.__setattr__" "object" "__setattr__" (.ref x) [.str name tk, v] [] _ SF.kind SF.split sub (SF.args (.ref x) (.str name tk) v) ?_)
  have hmr : W.Looks (model prog w) hp (mroOf (.ref C)) cd.mro := (W.looks_clsIn X hcd).andThen .now
  have L3 : W.Looks (model prog w) hp (storeTaker? none) none := .now
  have hcls : W.Looks (model prog w) hp (classData C) cd := W.looks_clsIn X hcd
  rw [W.osa_eq, refuse_eq]
  refine wpAny_bind (wpAny_bind (I.type.at (wpAny_bind (hmr.at ?_))))
  rw [PySem.W.excTail_pass _ (PySem.W.store_LKP _) _ hm]
  refine wpAny_pure (wpAny_bind (I.type.at (wpAny_bind ((W.looks_findIn X ha).at (wpAny_bind (L3.at ?_))))))
  show wpAny _ _ (storeInOwnDict (.ref x) (.ref C) (.str name tk) name v false) _ _ _
  obtain ⟨nm, bs, mro, ns, qn, hd, sn, sb, ab, col, del⟩ := cd
  dsimp only at hh
  subst hh
  unfold storeInOwnDict ownDictForStores
  repeat (first | with_reducible refine store_in_new ?_ ?_ | with_reducible refine wpAny_loadPart_at hx ?_ | with_reducible refine hcls.at ?_ | wp_step)
  · exact ⟨_, #[], _, (Heap.get?_update_ne _ _ _ _ hxs.symm).trans (Heap.get?_push_at rfl rfl), rfl, fun e he => absurd he (by simp), fun _ => rfl⟩
  · intro h' tk' hn' hs
    have hx₁ : (hp.push { cls := .type "dict", data := .dict #[] }).get? x = some { cls := .ref C, data := .fields fv } := Heap.get?_push_of_some _ hx
    refine hq h' tk' hp.objs.size (fun b o hb ho => ?_) (Nat.le_refl _) hxs.symm ?_ hn'
    · exact (hs.2 b (Nat.ne_of_lt (Heap.lt_size ho))).trans ((Heap.get?_update_ne _ _ _ _ hb).trans (Heap.get?_push_of_some _ ho))
    · exact (hs.2 x hxs).trans (Heap.get?_update_self _ hx₁ rfl)
theorem osa_oldL {K : W.Frag} {name : Str} {tk : Tok} {v : Value} {x C dx : Addr} {fv : Array Value} {cd : ClassData} {m0 : Str → Option Value} {nl : List Str}
    (X : K.In hp) (hx : hp.get? x = some { cls := .ref C, dict := some dx, data := .fields fv }) (hns : hp.Ns1 dx m0) (hw : Within m0 nl) (hz : nl.length ≤ 1000) (hcd : W.clsIn K C = some cd) (hm : PySem.W.excTail lkTail cd.mro = true) (hh : cd.hasDict = true)
    (ha : W.findIn K (.ref C) name = some none)
    (hq : ∀ h' tk', (∀ b o, b ≠ dx → hp.get? b = some o → h'.get? b = some o) → h'.Ns1 dx (fun y => if y = name then some v else m0 y) → R (.ok (.ret .none)) ⟨h', g, d, tk', os⟩) :
    codeAny (model prog w) A (.call (.builtin "object.__setattr__") ⟨[.ref x, .str name tk, v], []⟩) R ⟨hp, g, d, t, os⟩ := by
  obtain ⟨oD, esD, epD, hoD, hdD, _⟩ := hns.count hw
  have I : W.InstAt hp x { cls := .ref C, dict := some dx, data := .fields fv } C (some oD) := ⟨hx, rfl, rfl, hoD⟩
  have SF := F.store_object
  have ne := lk_ne hm
  have hob : cd.mro.contains (.type "object") = true := (PySem.W.excTail_contains "object" _ hm).trans (by decide +kernel)
  have sub : W.Looks (model prog w) hp (isInstance (.ref x) (.type "object")) true := I.type.andThen (W.looks_mroIn X (by unfold W.mroIn; rw [hcd, Option.bind_some, if_neg (by rw [ne]; decide), hob]))
  refine codeAny_call_builtin SF.slot.plain SF.entry (@W.check_slot (model prog w) _ _ ⟨hp, g, d, t, os⟩ "object.__setattr__" "object" "__setattr__" (.ref x) [.str name tk, v] [] _ SF.kind SF.split sub (SF.args (.ref x) (.str name tk) v) ?_)
  have hmr : W.Looks (model prog w) hp (mroOf (.ref C)) cd.mro := (W.looks_clsIn X hcd).andThen .now
  have L3 : W.Looks (model prog w) hp (storeTaker? none) none := .now
  have hcls : W.Looks (model prog w) hp (classData C) cd := W.looks_clsIn X hcd
  rw [W.osa_eq, refuse_eq]
  refine wpAny_bind (wpAny_bind (I.type.at (wpAny_bind (hmr.at ?_))))
  rw [PySem.W.excTail_pass _ (PySem.W.store_LKP _) _ hm]
  refine wpAny_pure (wpAny_bind (I.type.at (wpAny_bind ((W.looks_findIn X ha).at (wpAny_bind (L3.at ?_))))))
  show wpAny _ _ (storeInOwnDict (.ref x) (.ref C) (.str name tk) name v false) _ _ _
  obtain ⟨nm, bs, mro, ns, qn, hd, sn, sb, ab, col, del⟩ := cd
  dsimp only at hh
  subst hh
  unfold storeInOwnDict ownDictForStores
  repeat (first | with_reducible refine store_in_old hns hw hz ?_ | with_reducible refine wpAny_loadPart_at hx ?_ | with_reducible refine hcls.at ?_ | wp_step)
  intro h' tk' hn' hs
  exact hq h' tk' (fun b o hb ho => (hs.2 b hb).trans ho) hn'
end
end OEXL
end PySem
namespace L2
open PySem PySem.Spec PyProof.Rows
structure OexL (K : PySem.W.Frag) (C : Addr) : Prop where
  cls : ∃ nm q N bs bm sn sub ab col dd k0 k1 k2 k3 k5, K.lookup C = some (excClassObj nm q C N bs bm true sn sub ab col dd k0 k1 k2 k3 k5 "LookupError.__new__") ∧ PySem.W.excTail lkTail bm = true
  sa : PySem.W.findIn K (.ref C) "__setattr__" = some (some (.builtin "object.__setattr__"))
  exC : PySem.W.subIn K (.ref C) (.type "BaseException") = some true
  tyC : PySem.W.typeIn K (.ref C) = some (.type "type")
  kC : PySem.W.keepIn K (.ref C) = true
section
variable {X : Cx} {pins : List (Addr × Obj)} {σ : St} {H : Hp} {s : Shared} {a C dx : Addr} {f : Str} {y : V} {u : Value} {fs : List (Str × V)} {Q : Unit → Shared → Prop} {E : Value → Shared → Prop} {A : Around}
theorem ost_newL (T : OexL X.K C) (I : Inv X pins σ H s) (e : H a = some (exo a C none)) (hno : PySem.W.findIn X.K (.ref C) f = some none) (ry : RelV y u)
    (h : ∀ dx s', H dx = none → dx ≠ a → Inv X pins σ (upd (upd H dx (exd dx [(f, y)])) a (exo a C (some dx))) s' → Q () s') : wpAny (model X.prog X.w) A (setAttr (.ref a) f u) Q E s := by
  obtain ⟨nm, q, N, bs, bm, sn, sub, ab, col, dd, k0, k1, k2, k3, k5, hC, hbm⟩ := T.cls
  have hcl : PySem.W.clsIn X.K C = some { name := nm, bases := bs, mro := .ref C :: bm, ns := N, qualname := q, hasDict := true, slotNames := sn, subclasses := sub, abstract := ab, collection := col, hasDel := false } := by unfold PySem.W.clsIn; rw [hC] <;> rfl
  obtain ⟨t1, ho⟩ := exo_at I.hok e
  obtain ⟨hp, g, d, t, os⟩ := s
  refine PySem.W.set_plain I.kIn (ox := { cls := .ref C, dict := none, data := .fields #[.ref t1, .none, .none, .none, .bool false, .none] }) (od := none) ⟨ho, rfl, rfl, trivial⟩ T.sa ?_
  refine PySem.OEXL.exc_osaL I.kIn ho hcl (show PySem.W.excTail lkTail (.ref C :: bm) = true from hbm) rfl hno (fun h' tk' dx k dn dne hx hn => ?_)
  have hnd : H dx = none := I.hok.fresh dn
  have nd : ∀ {b : Addr} {o : Obj}, hp.get? b = some o → b ≠ dx := fun {b o} q => Nat.ne_of_lt (Nat.lt_of_lt_of_le (Heap.lt_size q) dn)
  have na : ∀ {b : Addr}, H b = none → b ≠ a := fun {b} n z => by
    rw [z, e] at n
    cases n
  have Un1 : Un X.fs [] H (upd (upd H dx (exd dx [(f, y)])) a (exo a C (some dx))) hp h' := {
    keep := fun b o q n _ _ => k b o (na n) q
    slot := fun b o q n _ _ => ⟨o.slots, k b o (na n) q⟩
    free := fun b o q n _ => by rw [upd_ne (na n), upd_ne (nd q)]; exact n
    there := fun b o q _ => by
      by_cases hb : b = a
      · exact ⟨_, by rw [hb]; exact hx⟩
      · exact ⟨o, k b o hb q⟩
    tups := fun b xs q => by rw [upd_ne (at_ne e q exo_tup), upd_ne (ne_of_none q hnd)]; exact q
    frzs := fun b o v q => by rw [upd_ne (at_ne e q exo_frz), upd_ne (ne_of_none q hnd)]; exact q
    tbls := fun b ps q => ⟨#[], by rw [upd_ne (at_ne e q exo_tbl), upd_ne (ne_of_none q hnd), q]; simp⟩ }
  refine h dx _ hnd dne (I.un (t' := tk') Un1 fun b o q => ?_)
  by_cases hb : b = a
  · subst hb
    rw [upd_same] at q
    cases q
    exact exo_ok hx
  · rw [upd_ne hb] at q
    by_cases hd : b = dx
    · subst hd
      rw [upd_same] at q
      cases q
      exact exd_ok hn (relO_put (fs := []) ry fun g => True.intro)
    · rw [upd_ne hd] at q
      exact (I.hok b o q).stay (fun c v hc z => k c v (by
          rcases hc with hc | hc
          · rw [hc]
            exact hb
          · exact at_ne e hc exo_own) z)
        (fun c hc => by rw [upd_ne (at_ne e hc exo_own), upd_ne (ne_of_none hc hnd)]; exact hc) (fun c xs hc => by rw [upd_ne (at_ne e hc exo_tup), upd_ne (ne_of_none hc hnd)]; exact hc)
theorem ost_oldL (T : OexL X.K C) (I : Inv X pins σ H s) (e : H a = some (exo a C (some dx))) (ed : H dx = some (exd dx fs)) (hl : fs.length ≤ 900) (hno : PySem.W.findIn X.K (.ref C) f = some none) (ry : RelV y u)
    (h : ∀ s', Inv X pins σ (upd H dx (exd dx ((f, y) :: fs))) s' → Q () s') : wpAny (model X.prog X.w) A (setAttr (.ref a) f u) Q E s := by
  obtain ⟨nm, q, N, bs, bm, sn, sub, ab, col, dd, k0, k1, k2, k3, k5, hC, hbm⟩ := T.cls
  have hcl : PySem.W.clsIn X.K C = some { name := nm, bases := bs, mro := .ref C :: bm, ns := N, qualname := q, hasDict := true, slotNames := sn, subclasses := sub, abstract := ab, collection := col, hasDel := false } := by unfold PySem.W.clsIn; rw [hC] <;> rfl
  obtain ⟨t1, ho⟩ := exo_at I.hok e
  obtain ⟨mA, hns, rel⟩ := exd_at I.hok ed
  have hw := within_of rel
  obtain ⟨hp, g, d, t, os⟩ := s
  obtain ⟨oD, _, _, hoD, _, _⟩ := hns.count hw
  refine PySem.W.set_plain I.kIn (ox := { cls := .ref C, dict := some dx, data := .fields #[.ref t1, .none, .none, .none, .bool false, .none] }) (od := some oD) ⟨ho, rfl, rfl, hoD⟩ T.sa ?_
  refine PySem.OEXL.osa_oldL I.kIn ho hns hw (by rw [List.length_map]; omega) hcl (show PySem.W.excTail lkTail (.ref C :: bm) = true from hbm) rfl hno (fun h' tk' k hn => ?_)
  have hd : ∃ o, h'.get? dx = some o := by
    obtain ⟨o, _, _, e', _⟩ := hn
    exact ⟨o, e'⟩
  exact h _ (I.write (t' := tk') (x := dx) (e := dx) (o := exd dx ((f, y) :: fs)) (by rw [ed]; exact True.intro) (.inl rfl) k hd (exd_ok hn (relO_put ry rel)))
theorem oinit_okL {us : List Value} {Q : Value → Shared → Prop} (T : OexL X.K C) (I : Inv X pins σ H s) (e : H a = some (exo a C none)) (hl : us.length ≤ sizeLine) (h : ∀ s', Inv X pins σ H s' → Q .none s') :
    wpAny (model X.prog X.w) A (call (.builtin "LookupError.__init__") (.ref a :: us)) Q E s := by
  obtain ⟨nm, q, N, bs, bm, sn, sub, ab, col, dd, k0, k1, k2, k3, k5, hC, hbm⟩ := T.cls
  obtain ⟨t1, ho⟩ := exo_at I.hok e
  obtain ⟨hp, g, d, t, os⟩ := s
  refine wpAny_call (PySem.HandSPX.init_base F.excBase_LookupError (fun Y => PySem.W.excTail_contains Y bm hbm) (I.kIn _ _ hC) ho hl fun h' t2 k hx => ?_)
  have J := I.write (t' := t) (x := a) (e := a) (o := exo a C none) (by rw [e]; exact True.intro) (.inl rfl) k ⟨_, hx⟩ (exo_ok hx)
  have eu : upd H a (exo a C none) = H := by
    funext b
    by_cases hb : b = a
    · rw [hb, upd_same, e]
    · rw [upd_ne hb]
  rw [eu] at J
  exact h _ J
end
def tLkI (K : PySem.W.Frag) (ta : TA) : TE := fun σ H Q => ta σ H fun vs H1 => ∃ (a C : Addr) (ws : List V), vs = .ref a :: ws ∧ ws.length ≤ 1000 ∧ OexL K C ∧ H1 a = some (exo a C none) ∧ Q .non H1
def tOstL (K : PySem.W.Frag) (f : Str) (to te : TE) : TS := fun D σ H => te σ H fun y H1 => to σ H1 fun x H2 => ∃ a C : Addr, x = .ref a ∧ OexL K C ∧ PySem.W.findIn K (.ref C) f = some none ∧
  ((H2 a = some (exo a C none) ∧ ∀ dx, H2 dx = none → dx ≠ a → D.nx σ (upd (upd H2 dx (exd dx [(f, y)])) a (exo a C (some dx)))) ∨
    ∃ (dx : Addr) (fs : List (Str × V)), H2 a = some (exo a C (some dx)) ∧ H2 dx = some (exd dx fs) ∧ fs.length ≤ 900 ∧ D.nx σ (upd H2 dx (exd dx ((f, y) :: fs))))
section
variable {X : Cx} {o e : Expr} {es : List Expr} {to te : TE} {ta : TA} {f : Str} {p p' p1 p2 pos : Pos}
theorem ps_ostL (ho : PE X o to) (he : PE X e te) (hs : swapsWith e (some (.Attribute o f p')) pos.line X.env = pure false := by rfl) : PS X (.Assign [.Attribute o f p'] e pos) (tOstL X.K f to te) := by
  refine ⟨fun pins s σ H D I h => ?_⟩
  refine plainObj_wpAny_Assign_Attribute (thn (he.run pins s σ H _ I h) fun v s1 ⟨y, H1, I1, r1, q1⟩ => thn (ho.run pins s1 σ H1 _ I1 q1) fun u s2 ⟨x, H2, I2, r2, a, C, ex, T, hno, q⟩ => ?_) hs
  subst ex
  obtain rfl : u = Value.ref a := r2
  rcases q with ⟨ea, q⟩ | ⟨dx, fs, ea, ed, hl, q⟩
  · exact ost_newL T I2 ea hno r1 fun dx s' n ne J => ⟨σ, _, J, q dx n ne⟩
  · exact ost_oldL T I2 ea ed hl hno r1 fun s' J => ⟨σ, _, J, q⟩
theorem pmk_oexL {CX : CXT} {x : Str} {C fI : Addr} {k : Nat} {fd : FuncData} {ps : List Str} {sp : Sp} {ds : List Value} {dvs : List V} (T : OexL X.K C) (iC : PySem.W.findIn X.K (.ref C) "__init__" = some (some (.ref fI))) (tI : PySem.W.typeIn X.K (.ref fI) = some (.type "function"))
    (F1 : FnOk X.prog X.w X.K X.mg X.base CX k fI fd ps sp) (hr : Room (k + 1) X.A) (hb : Binds X.K fd ps ds) (hd : Vals dvs ds) (hx : Passes CX X (fun _ _ _ => False)) (hg : Gl X x) (hm : X.mg x = some (.ref C)) (ha : PA X (e :: es) ta)
    (hdb : (x == ("__debug__" : Str)) = false := by decide) (he : starEach (e :: es) X.env = (false, eval e X.env) :: starEach es X.env := by rfl) (hpl : (backTo pos (starEach es X.env)).any (·.1) = false := by rfl) :
    PMk X (.Call (.Name x p) (e :: es) [] pos) (tMkO C sp dvs ta) := by
  intro pins s σ H Q I h
  obtain ⟨nm, q, N, bs, bm, sn, sub, ab, col, dd, k0, k1, k2, k3, k5, hC, hbm⟩ := T.cls
  refine wpAny_Call_Name_kw (ld_glob I hg hm ?_ hdb)
  refine PySem.W.callWith_K (h₀ := X.base) I.ok.mod.kin T.kC (thn (ha.run pos pins s σ H _ I h) fun us s1 ⟨vs, H1, I1, r1, hz, q1⟩ => ⟨I1.kIn, ?_⟩) he hpl
  show wpAny _ _ (call (.ref C) us) _ _ _
  obtain ⟨hp, g, dr, tk, os⟩ := s1
  have hsz : hp.objs.size ≤ hp.objs.size + 1 := Nat.le_succ _
  have hn : H1 (hp.objs.size + 1) = none := I1.hok.fresh hsz
  have hq := q1 (hp.objs.size + 1) hn
  have kk : ∀ b o, hp.get? b = some o → ((hp.push (PySem.W.kdv_tup us)).push (PySem.HandSPX.excO C hp.objs.size)).get? b = some o := fun b o e => Heap.get?_push_of_some _ (Heap.get?_push_of_some _ e)
  have hget : ((hp.push (PySem.W.kdv_tup us)).push (PySem.HandSPX.excO C hp.objs.size)).get? (hp.objs.size + 1) = some (PySem.HandSPX.excO C hp.objs.size) := by heap_get
  have I2 : Inv X pins σ (upd H1 (hp.objs.size + 1) (exo (hp.objs.size + 1) C none)) ⟨(hp.push (PySem.W.kdv_tup us)).push (PySem.HandSPX.excO C hp.objs.size), g, dr, tk, os⟩ :=
    I1.laid (t' := tk) (a := hp.objs.size + 1) (o := exo (hp.objs.size + 1) C none) (h' := (hp.push (PySem.W.kdv_tup us)).push (PySem.HandSPX.excO C hp.objs.size)) kk hsz (exo_ok hget)
  have r2 : Vals (V.ref (hp.objs.size + 1) :: (vs ++ dvs)) (Value.ref (hp.objs.size + 1) :: (us ++ ds)) := .cons rfl (r1.append hd)
  have hl : (Value.ref (hp.objs.size + 1) :: us ++ ds).length = ps.length := by
    have e := r2.length
    rw [F1.len _ _ _ _ hq] at e
    exact e.symm
  have hus : us.length ≤ sizeLine := by
    rw [← Paired.length r1, sizeLine_eq]
    omega
  refine wpAny_call (PySem.HandSPX.call_own F.excBase_LookupError (fun Y => PySem.W.excTail_contains Y bm hbm) (I1.kIn _ _ hC) (PySem.W.looks_findIn I1.kIn iC) (fun self => PySem.W.bind_fn I1.kIn self tI) hus
    (codeAny_mono (F1.run _ X.stack _ _ ⟨Value.ref (hp.objs.size + 1) :: us, []⟩ (Value.ref (hp.objs.size + 1) :: (us ++ ds)) _ _ (fun _ _ _ => False) (hr.make C us []) (I2.env0.make C us []) (hb _ (Value.ref (hp.objs.size + 1) :: us) I2.kIn hl) r2 hq) fun r s' hq' => ?_))
  cases r with
  | error er => exact hx pins σ _ _ er s' I2 hq'
  | ok fl =>
    cases fl with
    | ret u =>
      obtain ⟨v, H2, os2, bare2, un2, hok2, rv, ev, d, fs, ea, ed, hd1, q2⟩ := hq'
      subst ev
      obtain ⟨h2, g2, d2, t2, os'⟩ := s'
      exact ⟨rv, mk_end (raises_own T.exC T.tyC) I1 hsz kk un2 hok2 os2 bare2 ea ed hd1 q2⟩
    | next => exact False.elim hq'
    | brk => exact False.elim hq'
    | cont => exact False.elim hq'
end
end L2
namespace EV
open PySem PySem.Spec PyProof.Rows L2
/-- what the written part says of the base class D -/
structure XBaseL (K : PySem.W.Frag) (D : Addr) : Prop where
  rd : ClX.CRead K D (.type "type")
  ini : PySem.W.findCls K (.ref D) (.type "type") "__init__" = some (.val (.builtin "LookupError.__init__"))
/-- .. of the class C with its fields -/
structure XClsL (K : PySem.W.Frag) (C fI : Addr) (fs : List Str) : Prop where
  oex : OexL K C
  ini : PySem.W.findIn K (.ref C) "__init__" = some (some (.ref fI))
  tyI : PySem.W.typeIn K (.ref fI) = some (.type "function")
  noat : ∀ f ∈ fs, PySem.W.findIn K (.ref C) f = some none
section
variable {X : Cx} {e : Expr} {es : List Expr} {ta : TA} {p p1 p2 pos : Pos} {x : Str} {D : Addr}
theorem pe_binitL {pl : Sem Bool} (hg : Gl X x) (hm : X.mg x = some (.ref D)) (B : XBaseL X.K D) (ha : PA X (e :: es) ta) (hdb : (x == ("__debug__" : Str)) = false)
    (hc : eval (.Call (.Attribute (.Name x p1) "__init__" p2) (e :: es) [] pos) X.env = (do
      let ov ← eval (.Name x p1) X.env
      standAt p2.atName
      let (f, first) ← holding [ov] (getMethod ov "__init__" pl)
      callWith pos f first (backTo pos (starEach (e :: es) X.env)) (backToKw pos (keywordEach [] X.env))) := by rfl)
    (he : starEach (e :: es) X.env = (false, eval e X.env) :: starEach es X.env := by rfl) (hpl : (backTo pos (starEach es X.env)).any (·.1) = false := by rfl) :
    PE X (.Call (.Attribute (.Name x p1) "__init__" p2) (e :: es) [] pos) (tLkI X.K ta) := by
  refine ⟨fun pins s σ H Q I h => ?_⟩
  refine PySem.W.methodCall_KW (ld_glob I hg hm ?_ hdb) hc
  refine PySem.W.method_cls I.kIn B.rd.ga (PySem.W.cls_value I.kIn B.rd.rd B.ini (by decide +kernel) ?_)
  show wpAny _ _ (callWith pos (Value.builtin "LookupError.__init__") [] (backTo pos (starEach (e :: es) X.env)) []) _ _ _
  refine PyProof.Rows.callWith_method1 (thn (ha.run pos pins _ σ H _ (I.tok _) h) fun us s1 ⟨vs, H1, I1, r1, a, C, ws, ev, hl, T, ea, q⟩ => ?_) he hpl
  subst ev
  cases r1 with
  | @cons _ u0 _ ur ra rw' =>
    obtain rfl : u0 = Value.ref a := ra
    have hlen : ur.length ≤ sizeLine := by
      rw [← Paired.length rw', sizeLine_eq]
      omega
    exact oinit_okL T I1 ea hlen fun s' J => ⟨.non, H1, J, rfl, q⟩
end
section
variable {P : Program} {w : World} {K : PySem.W.Frag} {mg : Str → Option Value} {base : Heap} {C D fI : Addr} {fd : FuncData} {pa : Arguments} {sc : Scope} {x q f1 f2 z : Str} {j : Nat} {p1 p2 p3 p4 p5 p6 p7 p8 p9 p10 p11 p12 p13 : Pos} {k : Nat}
theorem init1L {P1 : Pos} (Fd : FunD K "__init__" q pa [.Expr (.Call (.Attribute (.Name x p1) "__init__" p2) [.Name "self" p3, .Constant (.str z) j p4] [] p5) p6, .Assign [.Attribute (.Name "self" p7) f1 p8] (.Name f1 p9) P1] sc [] [] fI fd)
    (S : FnScope ["self", f1] ["self", f1] sc) (hx : sc.names.lookup x = some .globalImplicit) (hm : mg x = some (.ref D)) (B : XBaseL K D) (T : XClsL K C fI [f1]) (hcall : AttrCall x [.Name "self" p3, .Constant (.str z) j p4] p1 p2 p5) (hdb : (x == ("__debug__" : Str)) = false)
    (v0 : Vis sc "self") (v1 : Vis sc f1) (d1 : (f1 == ("__debug__" : Str)) = false) (c1 : (f1 == ("__classdict__" : Str)) = false) :
    FnOk P w K mg base (L2.CX P w) (k + 1) fI fd ["self", f1] (spI1 K C f1) :=
  Fd.ok S (fun vs H Q E ⟨a, u1, e, _⟩ => by rw [e]; rfl) fun cdv A outer s H vs Q E hr ⟨a, u1, e, ha, hq⟩ => by
    subst e
    let Y := cxOf (L2.CX P w) P w K mg base ["self", f1] q sc fI cdv A outer s H E
    have n0 : Y.N[0]? = some ("self" : Str) := rfl
    have n1 : Y.N[1]? = some f1 := rfl
    have es : PE Y (.Name "self" p3) (tVar 0) := pe_var n0 v0
    have e1 : PE Y (.Name f1 p9) (tVar 1) := pe_var n1 v1 d1 c1
    obtain ⟨pl, hpl⟩ := hcall Y.env
    refine ⟨_, pss_cons (ps_expr (pe_binitL (X := Y) (pl := pl) (show Y.env.kindOf x = some .globalImplicit from hx) hm B (pa_cons es (pa_cons pe_str pa_nil)) hdb hpl)) (pss_cons (ps_ostL (pe_var (pos := p7) n0 v0) e1) pss_nil), ?_⟩
    refine ⟨.ref a, rfl, a, C, [.str z], rfl, by simp, T.oex, ha, ?_⟩
    exact ⟨u1, rfl, .ref a, rfl, a, C, rfl, T.oex, T.noat _ (by simp), .inl ⟨ha, fun dx hd hne => hq dx hd hne⟩⟩
end
/-! ### raise -/
inductive XMkL (P : Program) (w : World) (K : PySem.W.Frag) (mg : Str → Option Value) (base : Heap) (C : Addr) : List Str → Prop
  | two {f1 f2 : Str} {fI : Addr} {fd : FuncData} (T : XClsL K C fI [f1, f2]) (ok : FnOk P w K mg base (L2.CX P w) 1 fI fd ["self", f1, f2] (spI2 K C f1 f2)) (b : Binds K fd ["self", f1, f2] []) : XMkL P w K mg base C [f1, f2]
  | one {f1 : Str} {fI : Addr} {fd : FuncData} (T : XClsL K C fI [f1]) (ok : FnOk P w K mg base (L2.CX P w) 1 fI fd ["self", f1] (spI1 K C f1)) (b : Binds K fd ["self", f1] []) : XMkL P w K mg base C [f1]
section
variable {X : Cx} {F : Fx} {Ex : XK} {n : Nat} {e : Expr} {es : List Expr} {x : Str} {p pos rpos : Pos} {c : Nat} {fl : List Str} {ms : Env → GH → Res (List PV)} {gt : Bool}
theorem ev_raiseL (g : GX X F Ex n) (tk : Takes X fun cls d _ H => Ex cls d H) (hgt : gt = true → 3 ≤ n) (M : XMkL X.prog X.w X.K X.mg X.base (F.ca c) fl) (hm : X.mg x = some (.ref (F.ca c))) (ha : PA X (e :: es) (TAv F Ex ms)) (hg : Gl X x)
    (hdb : (x == ("__debug__" : Str)) = false) (he : starEach (e :: es) X.env = (false, eval e X.env) :: starEach es X.env := by rfl) (hpl : (backTo pos (starEach es X.env)).any (·.1) = false := by rfl) :
    PS X (.Raise (some (.Call (.Name x p) (e :: es) [] pos)) none rpos) (TSv F Ex (sRaise gt c fl ms)) := by
  cases gt with
  | false =>
    exact ps_false fun D σ H ⟨μ, ρ, G, s, gr, q⟩ => (show Post F (RF F) Ex μ H (.bad : Res Fl) (SQ D) from q)
  | true =>
    have hn := hgt rfl
    have hr : Room (1 + 1) X.A := g.room.mono (by omega)
    cases M with
    | @two f1 f2 fI fd T ok b =>
      refine (ps_raise g.calm tk (pmk_oexL T.oex T.ini T.tyI ok hr b .nil passL hg hm ha hdb he hpl)).weak fun D σ H ⟨μ, ρ, G, s, gr, q⟩ => ?_
      have q : Post F (RF F) Ex μ H ((ms ρ G).bind fun vs G1 => if vs.length = [f1, f2].length then .exc c ([f1, f2].zip vs).reverse G1 else .bad) (SQ D) := q
      refine TAv.run s gr q fun μ1 vs G1 us H1 e1 r1 g1 s1 q1 => ?_
      split at q1
      · rename_i hl
        obtain ⟨y1, y2, rfl⟩ : ∃ y1 y2, vs = [y1, y2] := by
          match vs, hl with
          | [a, b], _ => exact ⟨a, b, rfl⟩
        obtain ⟨u1, u2, rfl, h1, h2⟩ := r1.two_inv
        refine ⟨by simp, fun a hn => ⟨a, u1, u2, rfl, upd_same, fun dx hd hne => ⟨rfl, dx, [(f2, u2), (f1, u1)], ?_, upd_same, ?_, ?_⟩⟩⟩
        · rw [upd_ne (Ne.symm hne), upd_same]
        · rw [upd_ne hne] at hd; exact hd
        · rw [upd_ne hne] at hd
          rw [made_heap (C := F.ca c) hn hne]
          exact exc_new g1 hd (repF_rev h1 h2) q1
      · exact (show False from q1).elim
    | @one f1 fI fd T ok b =>
      refine (ps_raise g.calm tk (pmk_oexL T.oex T.ini T.tyI ok hr b .nil passL hg hm ha hdb he hpl)).weak fun D σ H ⟨μ, ρ, G, s, gr, q⟩ => ?_
      have q : Post F (RF F) Ex μ H ((ms ρ G).bind fun vs G1 => if vs.length = [f1].length then .exc c ([f1].zip vs).reverse G1 else .bad) (SQ D) := q
      refine TAv.run s gr q fun μ1 vs G1 us H1 e1 r1 g1 s1 q1 => ?_
      split at q1
      · rename_i hl
        obtain ⟨y1, rfl⟩ : ∃ y1, vs = [y1] := by
          match vs, hl with
          | [a], _ => exact ⟨a, rfl⟩
        obtain ⟨u1, rfl, h1⟩ := r1.one_inv
        refine ⟨by simp, fun a hn => ⟨a, u1, rfl, upd_same, fun dx hd hne => ⟨rfl, dx, [(f1, u1)], upd_same, ?_, ?_, ?_⟩⟩⟩
        · rw [upd_ne hne, upd_same]
        · rw [upd_ne hne] at hd; exact hd
        · rw [upd_ne hne] at hd
          rw [made_heap1 (C := F.ca c) hn hne]
          exact exc_new g1 hd (.cons ⟨rfl, h1⟩ .nil) q1
      · exact (show False from q1).elim
end
end EV
end
section
set_option Elab.async false
set_option linter.all false
set_option maxRecDepth 100000
set_option maxHeartbeats 1000000
/-! Ev68: raise of own classes over LookupError, the head's look at them; defs with keyword-only parameters. -/
namespace EV
open PySem PySem.Spec PyProof.Rows L2
def oexLB (K : PySem.W.Frag) (C : Addr) : Bool := (match K.lookup C with
  | some ⟨.type t, _, .cls cd, sl⟩ => (match cd.mro, sl.toList with
    | .ref C' :: bm, [_, _, _, _, some (.builtin n), _] => decide (t = "type") && (decide (C' = C) && (decide (n = "LookupError.__new__") && (!cd.hasDel && (cd.hasDict && PySem.W.excTail lkTail bm))))
    | _, _ => false)
  | _ => false) && (decide (PySem.W.findIn K (.ref C) "__setattr__" = some (some (.builtin "object.__setattr__"))) && (decide (PySem.W.subIn K (.ref C) (.type "BaseException") = some true) && (decide (PySem.W.typeIn K (.ref C) = some (.type "type")) && PySem.W.keepIn K (.ref C))))
theorem oexLB_ok {K : PySem.W.Frag} {C : Addr} (h : oexLB K C = true) : OexL K C := by
  obtain ⟨h1, h⟩ := He.ba h
  obtain ⟨h2, h⟩ := He.ba h
  obtain ⟨h3, h⟩ := He.ba h
  obtain ⟨h4, h5⟩ := He.ba h
  refine ⟨?_, of_decide_eq_true h2, of_decide_eq_true h3, of_decide_eq_true h4, h5⟩
  split at h1
  · rename_i t dd cd sl ho
    split at h1
    · rename_i C' bm k0 k1 k2 k3 n k5 hm hs
      simp only [Bool.and_eq_true, decide_eq_true_eq, Bool.not_eq_true'] at h1
      obtain ⟨rfl, rfl, rfl, hdel, hdd, ht⟩ := h1
      obtain ⟨nm, bs, mro, ns, qn, hd, sn, sub, ab, col, del⟩ := cd
      dsimp only at hm hdel hdd
      subst hm hdel hdd
      have hsl : sl = #[k0, k1, k2, k3, some (.builtin "LookupError.__new__"), k5] := by
        obtain ⟨l⟩ := sl
        simp only at hs
        rw [hs]
      subst hsl
      exact ⟨nm, qn, ns, bs, bm, sn, sub, ab, col, dd, k0, k1, k2, k3, k5, ho, ht⟩
    · cases h1
  · cases h1
def xbaseLB (K : PySem.W.Frag) (D : Addr) : Bool := PySem.W.readsIn K D (.type "type") && (decide (PySem.W.specialIn K (.ref D) "__getattribute__" = some (some (.builtin "type.__getattribute__"))) && (match PySem.W.findCls K (.ref D) (.type "type") "__init__" with
  | some (.val (.builtin n)) => decide (n = "LookupError.__init__")
  | _ => false))
theorem xbaseLB_ok {K : PySem.W.Frag} {D : Addr} (h : xbaseLB K D = true) : XBaseL K D := by
  obtain ⟨h1, h⟩ := He.ba h
  obtain ⟨h2, h3⟩ := He.ba h
  refine ⟨⟨h1, of_decide_eq_true h2⟩, ?_⟩
  split at h3
  · rename_i n e
    rw [e, of_decide_eq_true h3]
  · cases h3
def xclsLB (K : PySem.W.Frag) (x : Str) (fl : List Str) : Bool := oexLB K (He.ga K x) && (decide (PySem.W.findIn K (.ref (He.ga K x)) "__init__" = some (some (.ref (He.fAd K (x, some "__init__"))))) && (decide (PySem.W.typeIn K (.ref (He.fAd K (x, some "__init__"))) = some (.type "function")) &&
  fl.all fun f => decide (PySem.W.findIn K (.ref (He.ga K x)) f = some none)))
theorem xclsLB_ok {K : PySem.W.Frag} {x : Str} {fl : List Str} (h : xclsLB K x fl = true) : XClsL K (He.ga K x) (He.fAd K (x, some "__init__")) fl := by
  obtain ⟨h1, h⟩ := He.ba h
  obtain ⟨h2, h⟩ := He.ba h
  obtain ⟨h3, h4⟩ := He.ba h
  exact ⟨oexLB_ok h1, of_decide_eq_true h2, of_decide_eq_true h3, fun f hf => of_decide_eq_true (List.all_eq_true.mp h4 f hf)⟩
section
variable {X : Cx} {F : Fx} {Ex : XK} {n : Nat} {x : Str} {p pos : Pos}
theorem graiseL {e : Expr} {es : List Expr} {rpos : Pos} {c : Nat} {fl : List Str} {ms : Env → GH → Res (List PV)} {gt : List PV → GH → Res PV} (g : GX X F Ex n) (tk : Takes X fun cls d _ H => Ex cls d H) (hgt : gateB (gt [] []) = true → 3 ≤ n) (M : XMkL X.prog X.w X.K X.mg X.base (F.ca c) fl) (hm : X.mg x = some (.ref (F.ca c)))
    (ha : PA X (e :: es) (TAv F Ex ms)) (hg : X.env.kindOf x = some .globalImplicit := by kernel_rfl) (hd : nmB x = true := by kernel_rfl) (he : starEach (e :: es) X.env = (false, eval e X.env) :: starEach es X.env := by rfl) (hpl : (backTo pos (starEach es X.env)).any (·.1) = false := by rfl) :
    PS X (.Raise (some (.Call (.Name x p) (e :: es) [] pos)) none rpos) (TSv F Ex (sRaise (gateB (gt [] [])) c fl ms)) := ev_raiseL g tk hgt M hm ha hg (nm1 hd) he hpl
end
/-! ### defs with keyword-only parameters -/
/-- where a parameter's value comes from: a place, a default, a keyword -/
inductive PSrc where
  | p (i : Nat)
  | d (i : Nat)
  | k (i : Nat)
def PSrc.of {α : Type} (us mv ws : List α) : PSrc → Option α
  | .p i => us[i]?
  | .d i => mv[i]?
  | .k i => ws[i]?
def pick {α : Type} (us mv ws : List α) : List PSrc → List α
  | [] => []
  | s :: l => (match s.of us mv ws with
    | some x => [x]
    | none => []) ++ pick us mv ws l
theorem paired_get {α β : Type} {R : α → β → Prop} : ∀ {a : List α} {b : List β}, Paired R a b → ∀ i : Nat, (a[i]? = none ∧ b[i]? = none) ∨ ∃ x y, a[i]? = some x ∧ b[i]? = some y ∧ R x y
  | _, _, .nil, i => .inl ⟨rfl, rfl⟩
  | _, _, .cons h t, 0 => .inr ⟨_, _, rfl, rfl, h⟩
  | _, _, .cons h t, i + 1 => by simpa using paired_get t i
theorem src_rel {α β : Type} {R : α → β → Prop} {vs mz zs : List α} {us mv ws : List β} (h1 : Paired R vs us) (h2 : Paired R mz mv) (h3 : Paired R zs ws) (s : PSrc) : (s.of vs mz zs = none ∧ s.of us mv ws = none) ∨ ∃ x y, s.of vs mz zs = some x ∧ s.of us mv ws = some y ∧ R x y := by
  cases s with
  | p i => exact paired_get h1 i
  | d i => exact paired_get h2 i
  | k i => exact paired_get h3 i
theorem pick_rel {α β : Type} {R : α → β → Prop} {vs mz zs : List α} {us mv ws : List β} (h1 : Paired R vs us) (h2 : Paired R mz mv) (h3 : Paired R zs ws) : ∀ l : List PSrc, Paired R (pick vs mz zs l) (pick us mv ws l)
  | [] => .nil
  | s :: l => by
    unfold pick
    rcases src_rel h1 h2 h3 s with ⟨e1, e2⟩ | ⟨x, y, e1, e2, r⟩
    · rw [e1, e2]; exact pick_rel h1 h2 h3 l
    · rw [e1, e2]; exact .cons r (pick_rel h1 h2 h3 l)
theorem reps_paired {F : Fx} {μ : Mu} {H : Hp} : ∀ {ps : List PV} {vs : List V}, Reps F μ H ps vs → Paired (Rep F μ H) ps vs
  | [], _, h => by rw [h.nil_inv]; exact .nil
  | p :: ps, _, h => by
    obtain ⟨v, r, rfl, a, t⟩ := h.cons_inv
    exact .cons a (reps_paired t)
theorem paired_reps {F : Fx} {μ : Mu} {H : Hp} : ∀ {ps : List PV} {vs : List V}, Paired (Rep F μ H) ps vs → Reps F μ H ps vs
  | _, _, .nil => rfl
  | _, _, .cons a t => .cons a (paired_reps t)
/-- a default that is no object -/
inductive DfC : PV → V → Prop
  | non : DfC .non .non
  | bl (b : Bool) : DfC (.bl b) (.bl b)
  | int (i : Int) : DfC (.int i) (.int i)
  | str (s : Str) : DfC (.str s) (.str s)
theorem DfC.rep {F : Fx} {μ : Mu} {H : Hp} {p : PV} {v : V} (h : DfC p v) : Rep F μ H p v := by
  cases h <;> simp only [Rep]
theorem paired_dfc {F : Fx} {μ : Mu} {H : Hp} : ∀ {md : List PV} {mz : List V}, Paired DfC md mz → Paired (Rep F μ H) md mz
  | _, _, .nil => .nil
  | _, _, .cons a t => .cons a.rep (paired_dfc t)
/-- the places' values, then the keywords', put in the parameters' order -/
def mKw (n m : Nat) (md : List PV) (sr : List PSrc) (ms mk : Env → GH → Res (List PV)) : Env → GH → Res (List PV) := fun ρ G => (ms ρ G).bind fun vs G1 => (mk ρ G1).bind fun zs G2 => if vs.length = n ∧ zs.length = m then .ok (pick vs md zs sr) G2 else .bad
/-- an own def with keyword-only parameters: B tells how it binds -/
structure CalleeK (P : Program) (w : World) (K : PySem.W.Frag) (mg : Str → Option Value) (base : Heap) (F : Fx) (n : Nat) (x : Str) (ps : List Str) (B : Addr → FuncData → Prop) (m : List PV → GH → Res PV) : Prop where
  ex : ∃ (f : Addr) (fd : FuncData), FnG P w K mg base n f fd ps (SpV F ps.length m) ∧ mg x = some (.ref f) ∧ PySem.W.keepIn K (.ref f) = true ∧ B f fd
  ar : ∀ qs G, qs.length ≠ ps.length → m qs G = .bad
section
variable {P : Program} {w : World} {K : PySem.W.Frag} {mg : Str → Option Value} {base : Heap} {F : Fx} {n : Nat}
theorem CalleeK.mono {x : Str} {ps : List Str} {B : Addr → FuncData → Prop} {m : List PV → GH → Res PV} (c : CalleeK P w K mg base F n x ps B m) {k : Nat} (h : n ≤ k) : CalleeK P w K mg base F k x ps B m where
  ex := by
    obtain ⟨f, fd, a, b⟩ := c.ex
    exact ⟨f, fd, a.mono h, b⟩
  ar := c.ar
theorem CalleeK.bad {x : Str} {ps : List Str} {B : Addr → FuncData → Prop} {f : Addr} {fd : FuncData} (hm : mg x = some (.ref f)) (hk : PySem.W.keepIn K (.ref f) = true) (hB : B f fd) : CalleeK P w K mg base F n x ps B (fun _ _ => .bad) where
  ex := ⟨f, fd, ⟨fun vs H Q E h => h.1, fun A outer s H args us vs Q E _ _ _ _ _ h => by
    obtain ⟨_, μ, qs, G, _, _, p⟩ := h
    exact (show False from p).elim⟩, hm, hk, hB⟩
  ar := fun _ _ _ => rfl
theorem def_okK {name nm qual : Str} {params : Arguments} {body : List Stmt} {scope : Scope} {f : Addr} {fd : FuncData} {N ps : List Str} {kws : List (Str × V)} {B : Addr → FuncData → Prop} {m : Env → GH → Res Fl} (hK : F.K = K) (Fd : FunD K nm qual params body scope [] kws f fd) (S : FnScope N ps scope)
    (hm : mg name = some (.ref f)) (hB : B f fd) (hbody : ∀ (cdv : Value) (A : Around) (outer : List PySem.Env) (s : Shared) (H : Hp) (E : XK), GX (CXo P w K mg base N qual scope f cdv A outer s H E) F E n →
      PassesOwn (model P w) (CXo P w K mg base N qual scope f cdv A outer s H E).A (CXo P w K mg base N qual scope f cdv A outer s H E).env (CXo P w K mg base N qual scope f cdv A outer s H E).xe → CodeAt K f cdv →
      (Takes (CXo P w K mg base N qual scope f cdv A outer s H E) fun cls d _ H' => E cls d H') → PSs (CXo P w K mg base N qual scope f cdv A outer s H E) body (TSv F E m)) :
    CalleeK P w K mg base F (n + 1) name ps B (defV ps.length N m) where
  ex := by
    obtain ⟨oc, od, dV, kV, doc, pm, an, cdv, ct, osl, e, lk, hcd, _, _⟩ := Fd.ex
    subst e
    refine ⟨f, _, fnG_of lk hcd S (fun vs H Q E h => h.1) (fun A outer s H vs Q E hr hgd h => ?_), hm, Fd.kp, hB⟩
    have tk : Takes (CXo P w K mg base N qual scope f cdv A outer s H E) fun cls d _ H' => E cls d H' := takes_of rfl rfl rfl rfl
    refine ⟨_, hbody cdv A outer s H E ⟨hK, rfl, S.nd, hr, hgd, passes_call tk fun _ _ _ _ z => z⟩ (passes_of rfl) ⟨_, _, _, _, lk, rfl⟩ tk, body_read (N := N) ?_⟩
    obtain ⟨h1, μ, qs, G, r, g, p⟩ := h
    unfold defV at p
    rw [if_pos (r.length.trans h1)] at p
    exact ⟨μ, qs, G, r, g, trim_post g p⟩
  ar := fun qs G h => by unfold defV; rw [if_neg h]
/-- how such a def binds n places and the keywords ks; the rest is filled up by md -/
structure KShape (K : PySem.W.Frag) (fd : FuncData) (ps : List Str) (n : Nat) (ks : List Str) (md : List PV) (sr : List PSrc) : Prop where
  ex : ∃ (mv : List Value) (mz : List V), KBn K fd ps n ks (fun us ws => pick us mv ws sr) (fun vs zs => pick vs mz zs sr) ∧ Paired DfC md mz
theorem kshape {x qual : Str} {params : Arguments} {body : List Stmt} {scope : Scope} {kws : List (Str × V)} {f : Addr} {fd : FuncData} {ps : List Str} (Fd : FunD K x qual params body scope [] kws f fd) (n : Nat) (ks : List Str) (ms : List (Str × V)) (md : List PV) (sr : List PSrc)
    (hk : kws ≠ []) (hms : ∀ q ∈ ms, q ∈ kws) (hd : Paired DfC md (ms.map (·.2)))
    (h : ∀ (D : Addr) (doc pm : Value) (an : Option Addr) (cdv ct : Value) (us mv ws : List Value), us.length = n → mv.length = ms.length → ws.length = ks.length →
      KwChain D ((ms.map (·.1)).zip mv) (bindArgs (PySem.W.fnOf x qual params body scope .none (.ref D) doc pm an cdv ct) ⟨us, ks.zip ws⟩) (ps.zip (pick us mv ws sr))) : KShape K fd ps n ks md sr := by
  obtain ⟨mv, hb⟩ := Fd.kbinds0 n ks ms (fun us mv ws => pick us mv ws sr) hk hms (fun h1 h2 h3 => pick_rel h1 h2 h3 sr) h
  exact ⟨mv, _, hb, hd⟩
/-- .. nothing is filled up -/
theorem kshapeN {x qual : Str} {params : Arguments} {body : List Stmt} {scope : Scope} {kws : List (Str × V)} {f : Addr} {fd : FuncData} {ps : List Str} (Fd : FunD K x qual params body scope [] kws f fd) (n : Nat) (ks : List Str) (sr : List PSrc)
    (h : ∀ (kV : Value) (doc pm : Value) (an : Option Addr) (cdv ct : Value) (us ws : List Value), us.length = n → ws.length = ks.length →
      bindArgs (PySem.W.fnOf x qual params body scope .none kV doc pm an cdv ct) ⟨us, ks.zip ws⟩ = pure (ps.zip (pick us [] ws sr))) : KShape K fd ps n ks [] sr := by
  obtain ⟨oc, od, dV, kV, doc, pm, an, cdv, ct, osl, rfl, lk, hcd, hD, hK⟩ := Fd.ex
  rcases hD with ⟨_, rfl⟩ | ⟨e, _⟩
  · exact ⟨[], [], ⟨fun s us ws X l1 l2 => .of_eq (h kV doc pm an cdv ct us ws l1 l2), fun r1 r2 => pick_rel r1 .nil r2 sr⟩, .nil⟩
  · exact absurd rfl e
end
section
variable {X : Cx} {F : Fx} {Ex : XK} {n k : Nat} {f : Addr} {fd : FuncData} {ps ks : List Str} {sp : Sp} {x : Str} {p pos : Pos} {e : Expr} {es : List Expr} {kws : List Keyword} {t tk : TA} {g : List Value → List Value → List Value} {gV : List V → List V → List V}
theorem run_fnGN {pins : List (Addr × Obj)} {σ : L2.St} {H : Hp} {s : Shared} {Q : VK} {us ws : List Value} {vs zs : List V} (Fn : FnG X.prog X.w X.K X.mg X.base k f fd ps sp) (hr : Room k X.A) (hgd : X.A.guards = some []) (hb : KBn X.K fd ps n ks g gV)
    (hx : Passes (L2.CX X.prog X.w) X Ex) (I : Inv X pins σ H s) (r : Vals vs us) (rz : Vals zs ws) (l1 : vs.length = n) (l2 : zs.length = ks.length) (h : sp (gV vs zs) H Q Ex) : wpAny (model X.prog X.w) X.A (call (.ref f) us (ks.zip ws)) (EP X pins σ Q) X.xe s := by
  have r2 := hb.rel r rz
  refine wpAny_call (codeAny_mono (Fn.run X.A X.stack s H ⟨us, ks.zip ws⟩ (g us ws) (gV vs zs) Q Ex hr hgd I.env0 (hb.to s us ws I.kIn (r.length.symm.trans l1) (rz.length.symm.trans l2)) r2 h) fun r s' hq => ?_)
  match r, hq with
  | .error e, hq => exact hx pins σ H s e s' I hq
  | .ok (.ret u), hq => exact I.after hq
  | .ok .next, hq => exact False.elim hq
  | .ok .brk, hq => exact False.elim hq
  | .ok .cont, hq => exact False.elim hq
theorem pe_callNG (Fn : FnG X.prog X.w X.K X.mg X.base k f fd ps sp) (hr : Room k X.A) (hgd : X.A.guards = some []) (hg : Gl X x) (hm : X.mg x = some (.ref f)) (hk : PySem.W.keepIn X.K (.ref f) = true) (hb : KBn X.K fd ps n ks g gV)
    (hx : Passes (L2.CX X.prog X.w) X Ex) (ha : PA X (e :: es) t) (hkw : PK X kws tk) (hall : (backToKw pos (keywordEach kws X.env)).all (·.1.isSome) = true) (hks : (backToKw pos (keywordEach kws X.env)).filterMap (·.1) = ks)
    (hdb : (x == ("__debug__" : Str)) = false) (he : starEach (e :: es) X.env = (false, eval e X.env) :: starEach es X.env)
    (hpl : ((backTo pos (starEach (e :: es) X.env)).any (·.1) || (backToKw pos (keywordEach kws X.env)).any (·.1.isNone)) = false) :
    PE X (.Call (.Name x p) (e :: es) kws pos) (tCallN n ks.length sp gV Ex t tk) := by
  refine ⟨fun pins s σ H Q I h => ?_⟩
  refine wpAny_Call_Name_kw (ld_glob I hg hm ?_ hdb)
  refine PySem.W.callWith_KW (h₀ := X.base) I.ok.mod.kin hk hall (thn (ha.run pos pins s σ H _ I h) fun us s1 ⟨vs, H1, I1, r, q⟩ => ?_) hpl he
  refine thn (hkw.run pos pins s1 σ H1 _ I1 q) fun ws s2 ⟨zs, H2, I2, rz, l1, l2, q2⟩ => ⟨I2.kIn, ?_⟩
  rw [hks]
  exact run_fnGN Fn hr hgd hb hx I2 r rz l1 l2 q2
theorem gkwN : PK X [] (TAv F Ex mNil) := ⟨fun pos pins s σ H Q I ⟨μ, ρ, G, _, g, q⟩ => wpAny_evalAll_nil ⟨[], H, I, .nil, q μ [] H (Ext.refl _ _) rfl g⟩⟩
theorem gkwC {e : Expr} {nm : Option Str} {kpos : Pos} {m : Env → GH → Res PV} {ms : Env → GH → Res (List PV)} (he : PE X e (TEv F Ex m)) (hs : PK X kws (TAv F Ex ms)) : PK X (⟨nm, e, kpos⟩ :: kws) (TAv F Ex (mCons m ms)) := by
  have h := pk_cons (nm := nm) (kpos := kpos) he hs
  refine ⟨fun pos pins s σ H Q I ⟨μ, ρ, G, s0, g, q⟩ => h.run pos pins s σ H Q I ?_⟩
  refine TEv.run s0 g q fun μ1 a G1 v H1 e1 r1 g1 s1 p1 => ?_
  refine TAv.run s1 g1 p1 fun μ2 b G2 w H2 e2 r2 g2 s2 p2 => ?_
  exact p2.here (show Reps F μ2 H2 _ _ from .cons (r1.mono e2) r2) g2
/-- f(e, .., k = v, ..) of an own def with keyword-only parameters -/
theorem gownK (g : GX X F Ex n) {B : Addr → FuncData → Prop} {c0 nn : Nat} {md : List PV} {sr : List PSrc} {m : List PV → GH → Res PV} {ms mk : Env → GH → Res (List PV)} (ks : List Str) (c : CalleeK X.prog X.w X.K X.mg X.base F n x ps B m) (hB : ∀ f fd, B f fd → KShape X.K fd ps nn ks md sr)
    (ha : PA X (e :: es) (TAv F Ex ms)) (hkw : PK X kws (TAv F Ex mk)) (hl : ks.length = c0 := by rfl) (hg : X.env.kindOf x = some .globalImplicit := by kernel_rfl) (hd : nmB x = true := by kernel_rfl)
    (hall : (backToKw pos (keywordEach kws X.env)).all (·.1.isSome) = true := by rfl) (hks : (backToKw pos (keywordEach kws X.env)).filterMap (·.1) = ks := by rfl)
    (he : starEach (e :: es) X.env = (false, eval e X.env) :: starEach es X.env := by rfl)
    (hpl : ((backTo pos (starEach (e :: es) X.env)).any (·.1) || (backToKw pos (keywordEach kws X.env)).any (·.1.isNone)) = false := by rfl) :
    PE X (.Call (.Name x p) (e :: es) kws pos) (TEv F Ex (mA (mKw nn c0 md sr ms mk) m)) := by
  subst hl
  obtain ⟨f, fd, h3, h4, h5, h6⟩ := c.ex
  obtain ⟨mv, mz, hb, hdf⟩ := (hB f fd h6).ex
  refine (pe_callNG h3 g.room g.gd hg h4 h5 hb g.pas ha hkw hall hks (nm1 hd) he hpl).weak fun σ H Q ⟨μ, ρ, G, s, g0, q⟩ => ?_
  have q : Post F (RV F) Ex μ H ((ms ρ G).bind fun vs G1 => (((mk ρ G1).bind fun zs G2 => if vs.length = nn ∧ zs.length = ks.length then .ok (pick vs md zs sr) G2 else .bad)).bind m) Q := by
    have e0 : mA (mKw nn ks.length md sr ms mk) m ρ G = ((ms ρ G).bind fun vs G1 => (((mk ρ G1).bind fun zs G2 => if vs.length = nn ∧ zs.length = ks.length then .ok (pick vs md zs sr) G2 else .bad)).bind m) := by
      unfold mA mKw
      cases ms ρ G <;> rfl
    rw [← e0]; exact q
  refine TAv.run s g0 q fun μ1 a G1 v H1 e1 r1 g1 s1 p1 => ?_
  have p1 : Post F (RV F) Ex μ1 H1 ((mk ρ G1).bind fun zs G2 => (if a.length = nn ∧ zs.length = ks.length then m (pick a md zs sr) G2 else .bad)) Q := by
    have e0 : (((mk ρ G1).bind fun zs G2 => if a.length = nn ∧ zs.length = ks.length then .ok (pick a md zs sr) G2 else .bad)).bind m = (mk ρ G1).bind fun zs G2 => (if a.length = nn ∧ zs.length = ks.length then m (pick a md zs sr) G2 else .bad) := by
      cases mk ρ G1 with
      | ok zs G2 =>
        show Res.bind (if _ then _ else _) m = (if _ then _ else _)
        split <;> rfl
      | _ => rfl
    rw [← e0]; exact p1
  refine TAv.run s1 g1 p1 fun μ2 b G2 w H2 e2 r2 g2 s2 p2 => ?_
  by_cases z : a.length = nn ∧ b.length = ks.length
  · rw [if_pos z] at p2
    have rp : Reps F μ2 H2 (pick a md b sr) (pick v mz w sr) := paired_reps (pick_rel (reps_paired (r1.mono e2)) (paired_dfc hdf) (reps_paired r2) sr)
    refine ⟨r1.length.symm.trans z.1, r2.length.symm.trans z.2, ?_, μ2, _, G2, rp, g2, p2⟩
    by_cases zz : (pick a md b sr).length = ps.length
    · rw [← rp.length]; exact zz
    · rw [c.ar _ G2 zz] at p2; exact (show False from p2).elim
  · rw [if_neg z] at p2
    exact (show False from p2).elim
end
end EV
end
section
/-! Gn7: bodies of the moving and leading of k44 to k54. -/
set_option Elab.async false
set_option linter.all false
set_option maxRecDepth 100000
namespace G7
open PySem PySem.Spec PyProof.Rows L2 EV
/-- with_in_tree(tree, field, value) -/
def N_with_in_tree : List Str := ["tree", "field", "value", "fields", "pair"]
def b_with_in_tree : EV.Env → GH → Res Fl := sSeq (sAsg (mComp true (mSeq (m2 (mVar 0) (mCst (.int 1)) opIx)) (gN 4) (mB (m2 (m2 (mVar 4) (mCst (.int 0)) opIx) (mVar 1) (Cop.f .ne))) (mVar 4) [4]) (gN 3)) (sSeq (sIf (mB (m2 (mVar 2) (mCst .non) (Cop.f .isnot))) (sSeq (sDrop (mMet "list" (mVar 3) (mCons (mA (mCons (mVar 1) (mCons (mVar 2) (mNil))) mkTup) (mNil)) fAppend)) (sNext)) (sNext)) (sSeq (sRet (mA (mCons (mCst (.str "tree")) (mCons (mA (mCons (mA (mCons (mVar 3) mNil) (bSort0 false)) (mNil)) bTup) (mNil))) mkTup)) (sNext)))
/-- moved_out(document, field, other) -/
def N_moved_out : List Str := ["document", "field", "other", "inner", "value"]
def b_moved_out (f_in_tree f_with_in_tree : List PV → GH → Res PV) : EV.Env → GH → Res Fl := sSeq (sAsg (mA (mCons (mVar 0) (mCons (mVar 1) (mNil))) f_in_tree) (gN 3)) (sSeq (sIf (mtOr (mtNot (mT (m1 (mVar 3) (bIsi "tuple")))) (mB (m2 (m2 (mVar 3) (mCst (.int 0)) opIx) (mCst (.str "tree")) (Cop.f .ne)))) (sSeq (sRet (mCst .non)) (sNext)) (sNext)) (sSeq (sAsg (mA (mCons (mVar 3) (mCons (mVar 2) (mNil))) f_in_tree) (gN 4)) (sSeq (sIf (mB (m2 (mVar 4) (mCst .non) (Cop.f .is))) (sSeq (sRet (mVar 0)) (sNext)) (sNext)) (sSeq (sIf (mB (m2 (mA (mCons (mVar 0) (mCons (mVar 2) (mNil))) f_in_tree) (mCst .non) (Cop.f .isnot))) (sSeq (sRet (mCst .non)) (sNext)) (sNext)) (sSeq (sRet (mA (mCons (mA (mCons (mVar 0) (mCons (mVar 1) (mCons (mA (mCons (mVar 3) (mCons (mVar 2) (mCons (mCst .non) (mNil)))) f_with_in_tree) (mNil)))) f_with_in_tree) (mCons (mVar 2) (mCons (mVar 4) (mNil)))) f_with_in_tree)) (sNext))))))
/-- moved(document, move) -/
def N_moved : List Str := ["document", "move", "value", "other", "word", "field", "parts"]
def b_moved (f_in_tree f_moved_out f_with_in_tree : List PV → GH → Res PV) : EV.Env → GH → Res Fl := sSeq (sAsg (mVar 1) (gStarE 2 (gConsE (gN 4) (gConsE (gN 5) (gConsE (gN 6) gNilE))))) (sSeq (sAsg (mA (mCons (mVar 0) (mCons (mVar 5) (mNil))) f_in_tree) (gN 2)) (sSeq (sIf (mB (m2 (mVar 4) (mCst (.str "put")) (Cop.f .eq))) (sSeq (sRet (mIf (mB (m2 (mVar 2) (mCst .non) (Cop.f .isnot))) (mVar 0) (mA (mCons (mVar 0) (mCons (mVar 5) (mCons (m2 (mVar 6) (mCst (.int 0)) opIx) (mNil)))) f_with_in_tree))) (sNext)) (sNext)) (sSeq (sIf (mB (m2 (mVar 2) (mCst .non) (Cop.f .is))) (sSeq (sRet (mVar 0)) (sNext)) (sNext)) (sSeq (sIf (mB (m2 (mVar 4) (mCst (.str "cut")) (Cop.f .eq))) (sSeq (sRet (mA (mCons (mVar 0) (mCons (mVar 5) (mCons (mCst .non) (mNil)))) f_with_in_tree)) (sNext)) (sNext)) (sSeq (sAsg (m2 (mVar 6) (mCst (.int 0)) opIx) (gN 3)) (sSeq (sIf (mB (m2 (mVar 4) (mCst (.str "into")) (Cop.f .eq))) (sSeq (sRet (mA (mCons (mVar 0) (mCons (mVar 5) (mCons (mA (mCons (mCst (.str "tree")) (mCons (mA (mCons (mA (mCons (mVar 3) (mCons (mVar 2) (mNil))) mkTup) (mNil)) mkTup) (mNil))) mkTup) (mNil)))) f_with_in_tree)) (sNext)) (sNext)) (sSeq (sIf (mB (m2 (mVar 4) (mCst (.str "out")) (Cop.f .eq))) (sSeq (sRet (mA (mCons (mVar 0) (mCons (mVar 5) (mCons (mVar 3) (mNil)))) f_moved_out)) (sNext)) (sNext)) (sSeq (sIf (mB (m2 (mA (mCons (mVar 0) (mCons (mVar 3) (mNil))) f_in_tree) (mCst .non) (Cop.f .isnot))) (sSeq (sRet (mCst .non)) (sNext)) (sNext)) (sSeq (sRet (mA (mCons (mA (mCons (mVar 0) (mCons (mVar 5) (mCons (mCst .non) (mNil)))) f_with_in_tree) (mCons (mVar 3) (mCons (mVar 2) (mNil)))) f_with_in_tree)) (sNext))))))))))
/-- led(document, shapes, since, upto, holder) -/
def N_led : List Str := ["document", "shapes", "since", "upto", "holder", "newest", "moves", "move"]
def b_led (f__gate f_moved : List PV → GH → Res PV) : EV.Env → GH → Res Fl := sSeq (sAsg (mA (mCons (mVar 1) (mNil)) bLen) (gN 5)) (sSeq (sIf (mtNot (mB (m3c (mCst (.int 0)) (mVar 2) (mVar 5) (Cop.f .le) (Cop.f .le)))) (sSeq (sRaise (gateB (f__gate [] [])) 0 ["mark"] (mCons (mVar 2) (mNil))) (sNext)) (sNext)) (sSeq (sIf (mtAnd (mB (m2 (mVar 3) (mCst .non) (Cop.f .isnot))) (mtNot (mB (m3c (mVar 2) (mVar 3) (mVar 5) (Cop.f .le) (Cop.f .le))))) (sSeq (sRaise (gateB (f__gate [] [])) 0 ["mark"] (mCons (mVar 3) (mNil))) (sNext)) (sNext)) (sSeq (sFor (mSeq (mSl (mVar 1) (mPart (mVar 2)) (mPart (mIf (mB (m2 (mVar 3) (mCst .non) (Cop.f .is))) (mVar 5) (mVar 3))) opSl)) (gN 6) (sSeq (sFor (mSeq (mVar 6)) (gN 7) (sSeq (sAsg (mA (mCons (mVar 0) (mCons (mVar 7) (mNil))) f_moved) (gN 0)) (sSeq (sIf (mB (m2 (mVar 0) (mCst .non) (Cop.f .is))) (sSeq (sRaise (gateB (f__gate [] [])) 1 ["holder", "edition"] (mCons (mVar 4) (mCons (mVar 2) (mNil)))) (sNext)) (sNext)) (sNext)))) (sNext))) (sSeq (sRet (mVar 0)) (sNext)))))
/-- _law_is_plain(_law_grain_here) -/
def N__law_is_plain : List Str := ["_law_grain_here"]
def b__law_is_plain : EV.Env → GH → Res Fl := sSeq (sRet (mNot (m1 (mVar 0) (bIsi "tuple")))) (sNext)
/-- _law_moved(_law_card_here, _law_shift_here) -/
def N__law_moved : List Str := ["_law_card_here", "_law_shift_here", "_law_fields", "_law_word", "_law_field", "_law_own", "_law_inner"]
def b__law_moved (f__law_is_plain : List PV → GH → Res PV) : EV.Env → GH → Res Fl := sSeq (sAsg (mSl (mVar 1) (mNoPart) (mPart (mCst (.int 2))) opSl) (gTupE 2 (gConsE (gN 3) (gConsE (gN 4) (gNilE))))) (sSeq (sAsg (mA (mCons (m2 (mVar 0) (mCst (.int 1)) opIx) (mNil)) bDict) (gN 2)) (sSeq (sIf (mB (m2 (mVar 3) (mCst (.str "put")) (Cop.f .eq))) (sSeq (sSet (mMet "dict" (mVar 2) (mCons (mVar 4) (mCons (m2 (mVar 1) (mCst (.int 2)) opIx) (mNil))) fGet) (mVar 2) (mVar 4) fSetA) (sNext)) (sSeq (sIf (mB (m2 (mVar 4) (mVar 2) (opInA false))) (sSeq (sAsg (mMet "dict" (mVar 2) (mCons (mVar 4) (mNil)) fPopD) (gN 5)) (sSeq (sIf (mB (m2 (mVar 3) (mCst (.str "move")) (Cop.f .eq))) (sSeq (sIf (mtOr (mB (m2 (m2 (mVar 1) (mCst (.int 2)) opIx) (mVar 2) (opInA false))) (mB (m2 (m2 (mVar 1) (mCst (.int 2)) opIx) (mVar 4) (Cop.f .eq)))) (sSeq (sRet (mCst .non)) (sNext)) (sNext)) (sSeq (sSet (mVar 5) (mVar 2) (m2 (mVar 1) (mCst (.int 2)) opIx) fSetA) (sNext))) (sSeq (sIf (mB (m2 (mVar 3) (mCst (.str "into")) (Cop.f .eq))) (sSeq (sSet (mA (mCons (mCst (.str "tree")) (mCons (mA (mCons (mA (mCons (m2 (mVar 1) (mCst (.int 2)) opIx) (mCons (mVar 5) (mNil))) mkTup) (mNil)) mkTup) (mNil))) mkTup) (mVar 2) (mVar 4) fSetA) (sNext)) (sSeq (sIf (mB (m2 (mVar 3) (mCst (.str "out")) (Cop.f .eq))) (sSeq (sIf (mtOr (mT (mA (mCons (mVar 5) (mNil)) f__law_is_plain)) (mB (m2 (m2 (mVar 5) (mCst (.int 0)) opIx) (mCst (.str "tree")) (Cop.f .ne)))) (sSeq (sRet (mCst .non)) (sNext)) (sNext)) (sSeq (sSet (mVar 5) (mVar 2) (mVar 4) fSetA) (sSeq (sAsg (mA (mCons (m2 (mVar 5) (mCst (.int 1)) opIx) (mNil)) bDict) (gN 6)) (sSeq (sIf (mB (m2 (m2 (mVar 1) (mCst (.int 2)) opIx) (mVar 6) (opInA false))) (sSeq (sIf (mB (m2 (m2 (mVar 1) (mCst (.int 2)) opIx) (mVar 2) (opInA false))) (sSeq (sRet (mCst .non)) (sNext)) (sNext)) (sSeq (sSet (mMet "dict" (mVar 6) (mCons (m2 (mVar 1) (mCst (.int 2)) opIx) (mNil)) fPopD) (mVar 2) (m2 (mVar 1) (mCst (.int 2)) opIx) fSetA) (sSeq (sSet (mA (mCons (mCst (.str "tree")) (mCons (mA (mCons (mA (mCons (mVar 6) mNil) (bSortItems false)) (mNil)) bTup) (mNil))) mkTup) (mVar 2) (mVar 4) fSetA) (sNext)))) (sNext)) (sNext))))) (sNext)) (sNext))) (sNext))) (sNext))) (sNext)) (sNext))) (sSeq (sRet (mA (mCons (mCst (.str "tree")) (mCons (mA (mCons (mA (mCons (mVar 2) mNil) (bSortItems false)) (mNil)) bTup) (mNil))) mkTup)) (sNext))))
/-- _law_led(_law_card_here, _law_forms, _law_low, _law_high) -/
def N__law_led : List Str := ["_law_card_here", "_law_forms", "_law_low", "_law_high", "_law_shifts_here", "_law_shift_here"]
def b__law_led (f__law_moved : List PV → GH → Res PV) : EV.Env → GH → Res Fl := sSeq (sFor (mSeq (mSl (mVar 1) (mPart (mVar 2)) (mPart (mVar 3)) opSl)) (gN 4) (sSeq (sFor (mSeq (mVar 4)) (gN 5) (sSeq (sIf (mB (m2 (mVar 0) (mCst .non) (Cop.f .isnot))) (sSeq (sAsg (mA (mCons (mVar 0) (mCons (mVar 5) (mNil))) f__law_moved) (gN 0)) (sNext)) (sNext)) (sNext))) (sNext))) (sSeq (sRet (mVar 0)) (sNext))
/-- _law_shifts(_law_tape_here) -/
def N__law_shifts : List Str := ["_law_tape_here", "_law_k"]
def b__law_shifts (f__law_draw f__law_shift : List PV → GH → Res PV) : EV.Env → GH → Res Fl := sSeq (sRet (mA (mCons (mComp false (mRng (mCons (mA (mCons (mVar 0) (mCons (mCst (.int 4)) (mNil))) f__law_draw) (mNil))) (gN 1) (mYes) (mA (mCons (mVar 0) (mNil)) f__law_shift) [1]) (mNil)) bTup)) (sNext)
end G7
end
section
/-! Y2: the program's moves (k44). -/
set_option Elab.async false
set_option linter.all false
set_option maxRecDepth 100000
set_option maxHeartbeats 1000000
namespace EV.NV
open PySem PySem.Spec PyProof.Rows L2
theorem app_at {G : GH} {vs : List PV} {y : PV} (h : vs.length ≤ 1000) : fAppend (.obj G.length) [y] (G ++ [.lst vs]) = .ok .non (G ++ [.lst (vs ++ [y])]) := by
  have e : (G ++ [GO.lst vs])[G.length]? = some (.lst vs) := by simp
  simp only [fAppend, e]
  rw [if_pos (by rw [size_line]; omega)]
  simp [List.set_append]
theorem fm_cut (w : Str) : ∀ kv : List (Str × PV), (kv.map fldV).filterMap (fun x => match x with
    | .tup (.str s :: _) => if s = w then none else some x
    | _ => none) = (cutK w kv).map fldV
  | [] => rfl
  | q :: kv => by
    rw [List.map_cons, List.filterMap_cons, fm_cut w kv]
    unfold cutK
    by_cases e : q.1 = w
    · simp [fldV, e]
    · simp [fldV, e]
theorem comp_cut {ρ : EV.Env} {kv : List (Str × PV)} {w : Str} {G : GH} (h0 : ρ[0]? = some (some (treeV kv))) (h1 : ρ[1]? = some (some (.str w))) (hl : ρ.length = 5) :
    mComp true (mSeq (m2 (mVar 0) (mCst (.int 1)) opIx)) (gN 4) (mB (m2 (m2 (mVar 4) (mCst (.int 0)) opIx) (mVar 1) (Cop.f .ne))) (mVar 4) [4] ρ G = .ok (.obj G.length) (G ++ [.lst ((cutK w kv).map fldV)]) := by
  obtain ⟨a, b, c, d, e, rfl⟩ : ∃ a b c d e, ρ = [a, b, c, d, e] := by
    match ρ, hl with
    | [a, b, c, d, e], _ => exact ⟨a, b, c, d, e, rfl⟩
  simp only [List.getElem?_cons_zero, Option.some.injEq] at h0
  simp only [List.getElem?_cons_succ, List.getElem?_cons_zero, Option.some.injEq] at h1
  subst h0 h1
  have hs : mSeq (m2 (mVar 0) (mCst (.int 1)) opIx) [some (treeV kv), some (.str w), c, d, e] G = .ok ⟨kv.map fldV, fun _ => true⟩ G := by
    simp [mSeq, seqSrc, treeV]
  unfold mComp
  rw [hs, Res.bind_ok]
  have lp := loop_pure (f := compF (gN 4) (mB (m2 (m2 (mVar 4) (mCst (.int 0)) opIx) (mVar 1) (Cop.f .ne))) (mVar 4) [4] [some (treeV kv), some (.str w), c, d, e]) (h := fun x => match x with
    | .tup (.str s :: _) => if s = w then none else some x
    | _ => none) (gd := fun _ => true) (G := G) rfl (xs := kv.map fldV) fun x hx => by
      obtain ⟨q, hq, rfl⟩ := List.mem_map.mp hx
      by_cases e : q.1 = w
      · simp [compF, fldV, e, wipeE, noX]
      · simp [compF, fldV, e, wipeE, noX]
  show Res.bind (loopC _ (fun _ => true) (kv.map fldV) G) _ = _
  rw [lp, Res.bind_ok, fm_cut]
  rfl
abbrev SpWi (f : List PV → GH → Res PV) : Prop := ∀ (kv : List (Str × PV)) w v G, Dk kv → datB v = true → f [treeV kv, .str w, v] G = .ok (treeV (sortK (cutK w kv ++ if isNon v = true then [] else [(w, v)]))) G
theorem with_sp : SpWi (defV 3 G7.N_with_in_tree G7.b_with_in_tree) := by
  intro kv w v G hk hv
  have ec := comp_cut (ρ := [some (treeV kv), some (.str w), some v, none, none]) (kv := kv) (w := w) (G := G) rfl rfl rfl
  have cl : (cutK w kv).length ≤ 5 := Nat.le_trans cut_sub.length_le hk.len
  have ap := app_at (G := G) (vs := (cutK w kv).map fldV) (y := .tup [.str w, v]) (by rw [List.length_map]; omega)
  have ty : tyP (G ++ [GO.lst ((cutK w kv).map fldV)]) (.obj G.length) = some "list" := by simp [tyP]
  have dk : ∀ x ∈ sortK (cutK w kv ++ if isNon v = true then [] else [(w, v)]), datB x.2 = true := fun x hx => by
    have m := (List.mergeSort_perm _ _).mem_iff.mp hx
    rcases List.mem_append.mp m with m | m
    · exact (hk.wf _ (cut_sub.subset m)).dat
    · cases hn : isNon v with
      | true => rw [hn] at m; cases m
      | false => rw [hn] at m; rw [List.mem_singleton.mp m]; exact hv
  have dt : datB (treeV (sortK (cutK w kv ++ if isNon v = true then [] else [(w, v)]))) = true := by
    have h := dat_flds dk
    simp [treeV, datB, datBs, h]
  cases hn : isNon v with
  | true =>
    rw [hn] at dt
    have s0 := sort0_kv (kv := cutK w kv) (n := G.length) (G := G ++ [.lst ((cutK w kv).map fldV)]) (by simp) (by omega)
    simp at dt
    simp [defV, G7.b_with_in_tree, G7.N_with_in_tree, env0, ec, hn, s0, bTup, asS, asL, size_line]
    exact trim_back (by simpa [treeV] using dt)
  | false =>
    rw [hn] at dt
    have s0 := sort0_kv (kv := cutK w kv ++ [(w, v)]) (n := G.length) (G := G ++ [.lst ((cutK w kv).map fldV ++ [.tup [.str w, v]])]) (by simp [fldV]) (by simp; omega)
    simp at dt
    simp [defV, G7.b_with_in_tree, G7.N_with_in_tree, env0, ec, hn, mMet, ty, ap, s0, bTup, asS, asL, size_line]
    exact trim_back (by simpa [treeV] using dt)
theorem wi_cut {f} (h : SpWi f) {kv : List (Str × PV)} (hk : Dk kv) (w : Str) (G : GH) : f [treeV kv, .str w, .non] G = .ok (treeV (cutK w kv)) G := by
  have := h kv w .non G hk rfl
  simpa [isNon, sortK_ri (hk.cut w).ri] using this
theorem wi_put {f} (h : SpWi f) {kv : List (Str × PV)} (hk : Dk kv) (w : Str) {v : PV} (hv : Wf v) (G : GH) : f [treeV kv, .str w, v] G = .ok (treeV (witK kv w v)) G := by
  have := h kv w v G hk hv.dat
  simpa [wf_not hv, witK] using this
theorem it_get {f} (h : SpIt f) {kv : List (Str × PV)} (hk : Dk kv) (w : Str) (G : GH) : f [treeV kv, .str w] G = .ok (lk kv w) G := h kv w G hk.ri.nd fun q hq => (hk.wf q hq).dat
theorem lk_some {kv : List (Str × PV)} {w : Str} {x : PV} (e : getF kv w = some x) : lk kv w = x := by unfold lk; rw [e]; rfl
theorem lk_none {kv : List (Str × PV)} {w : Str} (e : getF kv w = none) : lk kv w = .non := by unfold lk; rw [e]; rfl
theorem lk_non {kv : List (Str × PV)} (hk : Dk kv) (w : Str) : isNon (lk kv w) = !(getF kv w).isSome := by
  cases e : getF kv w with
  | none => rw [lk_none e]; rfl
  | some x => rw [lk_some e, wf_not (hk.get e)]; rfl
abbrev SpMo (f : List PV → GH → Res PV) : Prop := ∀ (kv : List (Str × PV)) w o x G, Dk kv → w ∈ abcde → o ∈ abcde → getF kv w = some x → f [treeV kv, .str w, .str o] G = .ok (oP (mvP kv (.out w o))) G
theorem oP_dat {q : Option (List (Str × PV))} (h : ∀ kv, q = some kv → Dk kv) : datB (oP q) = true := by
  cases q with
  | none => rfl
  | some kv => exact (h kv rfl).tree.dat
/-- a value that is no tree -/
theorem no_tree {x : PV} (h : Wf x) (e : kids x = none) : isTup x = false ∨ ∃ xs, x = rowV xs := by
  cases h with
  | leaf h =>
    have := List.all_eq_true.mp (show leavesJ.all (fun p => !isTup p) = true by decide +kernel) _ h
    exact .inl (by simpa using this)
  | row l h => exact .inr ⟨_, rfl⟩
  | tree r a h => rw [kids_tree] at e; cases e
theorem out_sp {fi fw} (hi : SpIt fi) (hw : SpWi fw) : SpMo (defV 3 G7.N_moved_out (G7.b_moved_out fi fw)) := by
  intro kv w o x G hk w1 o1 g
  have e1 := it_get hi hk w G
  rw [lk_some g] at e1
  have wx := hk.get g
  cases ek : kids x with
  | none =>
    have em : mvP kv (.out w o) = none := by simp only [mvP, g, ek]
    rw [em]
    have it := isi_tup (G := G) wx.dat
    rcases no_tree wx ek with e | ⟨xs, rfl⟩
    · rw [e] at it
      simp [defV, G7.b_moved_out, G7.N_moved_out, env0, e1, it, trim_same, oP]
    · have ne : ¬ (("row" : Str) = "tree") := by decide
      simp [defV, G7.b_moved_out, G7.N_moved_out, env0, e1, it, trim_same, oP, rowV, isTup, ne]
  | some ku =>
    obtain ⟨rfl, hu⟩ := wf_kids wx ek
    have it : bIsi "tuple" [treeV ku] G = .ok (.bl true) G := isi_tup wx.dat
    have e2 := it_get hi hu o G
    have n2 := lk_non hu o
    cases gy : getF ku o with
    | none =>
      have em : mvP kv (.out w o) = some kv := by simp only [mvP, g, kids_tree, gy]
      rw [em]
      rw [gy] at n2
      simp at n2
      simp [defV, G7.b_moved_out, G7.N_moved_out, env0, e1, it, e2, n2, trim_same, oP]
    | some y =>
      rw [lk_some gy] at e2 n2
      rw [gy] at n2
      simp at n2
      have e3 := it_get hi hk o G
      have n3 := lk_non hk o
      cases hs : (getF kv o).isSome with
      | true =>
        have em : mvP kv (.out w o) = none := by simp only [mvP, g, kids_tree, gy, hs, if_true]
        rw [hs] at n3
        simp at n3
        rw [em]
        simp [defV, G7.b_moved_out, G7.N_moved_out, env0, e1, it, e2, n2, e3, n3, trim_same, oP]
      | false =>
        have em : mvP kv (.out w o) = some (witK (witK kv w (treeV (cutK o ku))) o y) := by simp only [mvP, g, kids_tree, gy, hs, Bool.false_eq_true, if_false]
        rw [hs] at n3
        simp at n3
        rw [em]
        have e4 := wi_cut hw hu o G
        have e5 := wi_put hw hk w (hu.cut o).tree G
        have e6 := wi_put hw (hk.wit w1 (hu.cut o).tree) o (hu.get gy) G
        simp [defV, G7.b_moved_out, G7.N_moved_out, env0, e1, it, e2, n2, e3, n3, e4, e5, e6, trim_same, oP]
abbrev SpMv (f : List PV → GH → Res PV) : Prop := ∀ (kv : List (Str × PV)) (s : Sh) G, Dk kv → ShOk s → f [treeV kv, shV s] G = .ok (oP (mvP kv s)) G
theorem moved_sp {fi fo fw} (hi : SpIt fi) (ho : SpMo fo) (hw : SpWi fw) : SpMv (defV 2 G7.N_moved (G7.b_moved fi fo fw)) := by
  intro kv s G hk hs
  have hs := hs.w
  cases s with
  | put w v =>
    have e1 := it_get hi hk w G
    have n1 := lk_non hk w
    cases g : getF kv w with
    | none =>
      have em : mvP kv (.put w v) = some (witK kv w v) := by simp only [mvP, g]
      rw [g] at n1
      simp at n1
      have e2 := wi_put hw hk w hs.2 G
      rw [em]
      simp [defV, G7.b_moved, G7.N_moved, env0, shV, gStarE, gConsE, gNilE, gN, e1, n1, e2, trim_same, oP]
    | some x =>
      have em : mvP kv (.put w v) = some kv := by simp only [mvP, g]
      rw [g] at n1
      simp at n1
      rw [em]
      simp [defV, G7.b_moved, G7.N_moved, env0, shV, gStarE, gConsE, gNilE, gN, e1, n1, trim_same, oP]
  | cut w =>
    have e1 := it_get hi hk w G
    have n1 := lk_non hk w
    have em : mvP kv (.cut w) = some (cutK w kv) := rfl
    have e2 := wi_cut hw hk w G
    have ne : ¬ (("cut" : Str) = "put") := by decide
    rw [em]
    cases g : getF kv w with
    | none =>
      rw [g] at n1
      simp at n1
      have ec := cut_of (getF_none g)
      rw [ec] at *
      simp [defV, G7.b_moved, G7.N_moved, env0, shV, gStarE, gConsE, gNilE, gN, e1, n1, ne, trim_same, oP]
    | some x =>
      rw [g] at n1
      simp at n1
      simp [defV, G7.b_moved, G7.N_moved, env0, shV, gStarE, gConsE, gNilE, gN, e1, n1, ne, e2, trim_same, oP]
  | into w o =>
    have e1 := it_get hi hk w G
    have n1 := lk_non hk w
    have ne : ¬ (("into" : Str) = "put") := by decide
    have ne2 : ¬ (("into" : Str) = "cut") := by decide
    cases g : getF kv w with
    | none =>
      have em : mvP kv (.into w o) = some kv := by simp only [mvP, g]
      rw [em]
      rw [g] at n1
      simp at n1
      simp [defV, G7.b_moved, G7.N_moved, env0, shV, gStarE, gConsE, gNilE, gN, e1, n1, ne, trim_same, oP]
    | some x =>
      have em : mvP kv (.into w o) = some (witK kv w (treeV [(o, x)])) := by simp only [mvP, g]
      rw [em]
      rw [g] at n1
      simp at n1
      rw [lk_some g] at e1 n1
      have e2 := wi_put hw hk w (dk_one hs.2 (hk.get g)).tree G
      simp [treeV, fldV] at e2
      simp [defV, G7.b_moved, G7.N_moved, env0, shV, gStarE, gConsE, gNilE, gN, e1, n1, ne, ne2, e2, trim_same, oP, size_line, treeV]
  | move w o =>
    have e1 := it_get hi hk w G
    have n1 := lk_non hk w
    have e3 := it_get hi hk o G
    have n3 := lk_non hk o
    have ne : ¬ (("move" : Str) = "put") := by decide
    have ne2 : ¬ (("move" : Str) = "cut") := by decide
    have ne3 : ¬ (("move" : Str) = "into") := by decide
    have ne4 : ¬ (("move" : Str) = "out") := by decide
    cases g : getF kv w with
    | none =>
      have em : mvP kv (.move w o) = some kv := by simp only [mvP, g]
      rw [em]
      rw [g] at n1
      simp at n1
      simp [defV, G7.b_moved, G7.N_moved, env0, shV, gStarE, gConsE, gNilE, gN, e1, n1, ne, trim_same, oP]
    | some x =>
      rw [g] at n1
      simp at n1
      rw [lk_some g] at e1 n1
      cases hs2 : (getF kv o).isSome with
      | true =>
        have em : mvP kv (.move w o) = none := by simp only [mvP, g, hs2, if_true]
        rw [em]
        rw [hs2] at n3
        simp at n3
        simp [defV, G7.b_moved, G7.N_moved, env0, shV, gStarE, gConsE, gNilE, gN, e1, n1, e3, n3, ne, ne2, ne3, ne4, trim_same, oP]
      | false =>
        have em : mvP kv (.move w o) = some (witK (cutK w kv) o x) := by simp only [mvP, g, hs2, Bool.false_eq_true, if_false]
        rw [em]
        rw [hs2] at n3
        simp at n3
        have e4 := wi_cut hw hk w G
        have e5 := wi_put hw (hk.cut w) o (hk.get g) G
        simp [defV, G7.b_moved, G7.N_moved, env0, shV, gStarE, gConsE, gNilE, gN, e1, n1, e3, n3, e4, e5, ne, ne2, ne3, ne4, trim_same, oP]
  | out w o =>
    have e1 := it_get hi hk w G
    have n1 := lk_non hk w
    have ne : ¬ (("out" : Str) = "put") := by decide
    have ne2 : ¬ (("out" : Str) = "cut") := by decide
    have ne3 : ¬ (("out" : Str) = "into") := by decide
    cases g : getF kv w with
    | none =>
      have em : mvP kv (.out w o) = some kv := by simp only [mvP, g]
      rw [em]
      rw [g] at n1
      simp at n1
      simp [defV, G7.b_moved, G7.N_moved, env0, shV, gStarE, gConsE, gNilE, gN, e1, n1, ne, trim_same, oP]
    | some x =>
      rw [g] at n1
      simp at n1
      rw [lk_some g] at e1 n1
      have e4 := ho kv w o x G hk hs.1 hs.2 g
      simp [defV, G7.b_moved, G7.N_moved, env0, shV, gStarE, gConsE, gNilE, gN, e1, n1, ne, ne2, ne3, e4, trim_same]
end EV.NV
end
section
/-! Y3: the law's own moves: the same (k44). -/
set_option Elab.async false
set_option linter.all false
set_option maxRecDepth 100000
set_option maxHeartbeats 1000000
namespace EV.NV
open PySem PySem.Spec PyProof.Rows L2
section
variable {G : GH} {n : Nat} {kv kw : List (Str × PV)} {w : Str} {v x : PV}
theorem in_at (h : G[n]? = some (.dic (kd kv))) : opInA false [.str w, .obj n] G = .ok (.bl (getF kv w).isSome) G := by
  simp only [opInA, asD, h, keyP, get_kd]
  cases (getF kv w).isSome <;> rfl
theorem drop_kd : dropD (kd kv) (.inr w) = kd (cutK w kv) := by
  unfold dropD kd cutK
  rw [List.filter_map]
  congr 1
  refine List.filter_congr fun q _ => ?_
  by_cases e : q.1 = w
  · simp [e]
  · have : ¬ ((Sum.inr q.1 : Key) = .inr w) := fun k => e (by injection k)
    simp [e, this]
theorem pop_at (h : G[n]? = some (.dic (kd kv))) (g : getF kv w = some x) : fPopD (.obj n) [.str w] G = .ok x (G.set n (.dic (kd (cutK w kv)))) := by
  simp only [fPopD, h, keyP, get_kd, g, drop_kd]
theorem get2_at (h : G[n]? = some (.dic (kd kv))) : fGet (.obj n) [.str w, v] G = .ok ((getF kv w).getD v) G := by
  simp only [fGet, h, keyP, get_kd]
theorem set_at (h : G[n]? = some (.dic (kd kv))) (e : putD (kd kv) (.inr w) v = kd kw) (hl : kv.length ≤ 100) : fSetA [.obj n, .str w, v] G = .ok () (G.set n (.dic (kd kw))) := by
  have l : (kd kv).length < sizeLine := by rw [size_line]; simp [kd]; omega
  simp only [fSetA, h, keyP, if_pos l, e]
theorem sort_at (h : G[n]? = some (.dic (kd kv))) (hl : kv.length ≤ 100) : bSortItems false [.obj n] G = .ok (.lst ((sortK kv).map fldV)) G := by
  have t : txtK (kd kv) = some kv := txtK_map kv
  have l : ((sortK kv).map fun q => PV.tup [.str q.1, q.2]).length ≤ sizeLine := by
    rw [size_line, List.length_map]
    have : (sortK kv).length = kv.length := List.length_mergeSort ..
    omega
  simp only [bSortItems, h, t, mkL, if_pos l, Bool.false_eq_true, if_false]
  try rfl
theorem put_new (h : w ∉ kv.map (·.1)) : putD (kd kv) (.inr w) v = kd (kv ++ [(w, v)]) := by
  unfold putD
  rw [has_kd h]
  simp [kd]
theorem put_old (h : w ∈ kv.map (·.1)) : putD (kd kv) (.inr w) v = kd (kv.map fun q => if q.1 = w then (q.1, v) else q) := by
  have e : hasP (kd kv) (.inr w) = true := by
    obtain ⟨q, hq, rfl⟩ := List.mem_map.mp h
    exact List.any_eq_true.mpr ⟨(.inr q.1, q.2), List.mem_map.mpr ⟨q, hq, rfl⟩, by simp⟩
  unfold putD
  rw [e]
  simp only [if_true, kd, List.map_map]
  refine List.map_congr_left fun q _ => ?_
  by_cases e : q.1 = w
  · simp [e]
  · have e2 : ¬ ((Sum.inr q.1 : Key) = .inr w) := fun h => e (by injection h)
    simp [e]
theorem nd_get : ∀ {kv : List (Str × PV)}, (kv.map (·.1)).Nodup → ∀ {q : Str × PV}, q ∈ kv → getF kv q.1 = some q.2
  | [], _, q, h => by cases h
  | p :: kv, nd, q, h => by
    have n2 := List.nodup_cons.mp (show (p.1 :: kv.map (·.1)).Nodup from nd)
    unfold getF
    rw [List.find?_cons]
    by_cases e : p.1 = q.1
    · rcases List.mem_cons.mp h with rfl | m
      · simp
      · exact absurd (List.mem_map.mpr ⟨q, m, e.symm⟩) n2.1
    · rcases List.mem_cons.mp h with rfl | m
      · exact absurd rfl e
      · simp only [e, decide_false]
        exact nd_get n2.2 m
theorem put_same (nd : (kv.map (·.1)).Nodup) (g : getF kv w = some x) : putD (kd kv) (.inr w) x = kd kv := by
  rw [put_old (getF_some_mem g)]
  congr 1
  refine (List.map_congr_left fun q hq => ?_).trans (List.map_id _)
  split
  · rename_i e
    have := nd_get nd hq
    rw [e, g] at this
    cases this
    rfl
  · rfl
theorem cut_get {o : Str} (h : o ≠ w) : getF (cutK w kv) o = getF kv o := by
  unfold getF cutK
  congr 1
  induction kv with
  | nil => rfl
  | cons q kv ih =>
    by_cases e : q.1 = w
    · rw [List.filter_cons_of_neg (by simp [e]), List.find?_cons, ih]
      have : ¬ (q.1 = o) := fun k => h (by rw [← k, e])
      simp [this]
    · rw [List.filter_cons_of_pos (by simp [e]), List.find?_cons, List.find?_cons, ih]
theorem cut_get_self : getF (cutK w kv) w = none := by
  cases e : getF (cutK w kv) w with
  | none => rfl
  | some x => exact absurd (getF_some_mem e) cut_keys
theorem sortK_keys {l : List (Str × PV)} {w : Str} : w ∈ (sortK l).map (·.1) ↔ w ∈ l.map (·.1) := ((List.mergeSort_perm l fun a b => leT a.1 b.1).map (·.1)).mem_iff
/-- what was out is put back -/
theorem back_perm (nd : (kv.map (·.1)).Nodup) (g : getF kv w = some x) : (cutK w kv ++ [(w, x)]).Perm kv := by
  unfold cutK
  induction kv with
  | nil => cases g
  | cons q kv ih =>
    have n2 := List.nodup_cons.mp (show (q.1 :: kv.map (·.1)).Nodup from nd)
    by_cases e : q.1 = w
    · rw [List.filter_cons_of_neg (by simp [e])]
      have c : cutK w kv = kv := cut_of (by rw [← e]; exact n2.1)
      unfold cutK at c
      rw [c]
      have : q.2 = x := by
        unfold getF at g
        rw [List.find?_cons] at g
        simp [e] at g
        exact g
      have eq : (w, x) = q := by rw [← e, ← this]
      rw [eq]
      exact List.perm_append_singleton q kv
    · rw [List.filter_cons_of_pos (by simp [e]), List.cons_append]
      refine (ih n2.2 ?_).cons q
      unfold getF at g ⊢
      rw [List.find?_cons] at g
      simpa [e] using g
theorem set_end {G : GH} {x y : GO} : (G ++ [x]).set G.length y = G ++ [y] := by simp [List.set_append]
theorem set_end2 {G : GH} {x y z : GO} : (G ++ [x, z]).set G.length y = G ++ [y, z] := by simp [List.set_append]
theorem set_end3 {G : GH} {x y z : GO} : (G ++ [x, z]).set (G.length + 1) y = G ++ [x, y] := by simp [List.set_append]
end
theorem cut2 {a b : PV} {r : List PV} : cutP (a :: b :: r) none (some 2) = [a, b] := by
  unfold cutP HT.sIx
  simp
abbrev SpPl (f : List PV → GH → Res PV) : Prop := ∀ p G, Wf p → f [p] G = .ok (.bl (!isTup p)) G
theorem isPlain_sp : SpPl (defV 1 G7.N__law_is_plain G7.b__law_is_plain) := by
  intro p G h
  have it := isi_tup (G := G) h.dat
  simp [defV, G7.b__law_is_plain, G7.N__law_is_plain, env0, it, trim_same]
theorem trim_mv {G S : GH} {q : Option (List (Str × PV))} (h : ∀ kv, q = some kv → Dk kv) : trimR G (bodyEnd (.ret (oP q)) (G ++ S)) = .ok (oP q) G := trim_back (oP_dat h)
theorem lmoved_sp {fp} (hp : SpPl fp) : SpMv (defV 2 G7.N__law_moved (G7.b__law_moved fp)) := by
  intro kv s G hk hs
  have hkw : ∀ kw, mvP kv s = some kw → Dk kw := fun kw e => mv_dk hk hs e
  have hs := hs.w
  have dt := dict_tree G hk.ri.nd
  have tm : ∀ S, trimR G (bodyEnd (.ret (oP (mvP kv s))) (G ++ S)) = .ok (oP (mvP kv s)) G := fun S => trim_mv hkw
  have kl := hk.len
  have cl : ∀ w, (cutK w kv).length ≤ 5 := fun w => Nat.le_trans cut_sub.length_le kl
  have ty : ∀ x, tyP (G ++ [GO.dic x]) (.obj G.length) = some "dict" := fun x => by simp [tyP]
  cases s with
  | put w v =>
    have g2 := get2_at (n := G.length) (G := G ++ [.dic (kd kv)]) (kv := kv) (w := w) (v := v) (by simp)
    cases g : getF kv w with
    | none =>
      have em : mvP kv (.put w v) = some (witK kv w v) := by simp only [mvP, g]
      rw [g] at g2
      have s2 := set_at (n := G.length) (G := G ++ [.dic (kd kv)]) (by simp) (put_new (v := v) (getF_none g)) (by omega)
      rw [set_end] at s2
      have wk : witK kv w v = sortK (kv ++ [(w, v)]) := by unfold witK; rw [cut_of (getF_none g)]
      have st := sort_at (n := G.length) (G := G ++ [.dic (kd (kv ++ [(w, v)]))]) (kv := kv ++ [(w, v)]) (by simp) (by simp; omega)
      have tm := tm [.dic (kd (kv ++ [(w, v)]))]
      rw [em] at tm ⊢
      simp [defV, G7.b__law_moved, G7.N__law_moved, env0, shV, cut2, gTupE, gConsE, gNilE, gN, dt, mMet, ty, g2, s2, st, bTup, asS, asL, size_line, ← wk]
      simpa [oP, treeV] using tm
    | some x =>
      have em : mvP kv (.put w v) = some kv := by simp only [mvP, g]
      rw [g] at g2
      have s2 := set_at (n := G.length) (G := G ++ [.dic (kd kv)]) (by simp) (put_same hk.ri.nd g) (by omega)
      rw [set_end] at s2
      have st := sort_at (n := G.length) (G := G ++ [.dic (kd kv)]) (kv := kv) (by simp) (by omega)
      rw [sortK_ri hk.ri] at st
      have tm := tm [.dic (kd kv)]
      rw [em] at tm ⊢
      simp [defV, G7.b__law_moved, G7.N__law_moved, env0, shV, cut2, gTupE, gConsE, gNilE, gN, dt, mMet, ty, g2, s2, st, bTup, asS, asL, size_line]
      simpa [oP, treeV] using tm
  | cut w =>
    have ne : ¬ (("cut" : Str) = "put") := by decide
    have ne1 : ¬ (("cut" : Str) = "move") := by decide
    have ne2 : ¬ (("cut" : Str) = "into") := by decide
    have ne3 : ¬ (("cut" : Str) = "out") := by decide
    have ia := in_at (n := G.length) (G := G ++ [.dic (kd kv)]) (kv := kv) (w := w) (by simp)
    have em : mvP kv (.cut w) = some (cutK w kv) := rfl
    cases g : getF kv w with
    | none =>
      rw [g] at ia
      have st := sort_at (n := G.length) (G := G ++ [.dic (kd kv)]) (kv := kv) (by simp) (by omega)
      rw [sortK_ri hk.ri] at st
      have tm := tm [.dic (kd kv)]
      rw [em, cut_of (getF_none g)] at tm ⊢
      simp [defV, G7.b__law_moved, G7.N__law_moved, env0, shV, cut2, gTupE, gConsE, gNilE, gN, dt, mMet, ty, ne, ia, st, bTup, asS, asL, size_line]
      simpa [oP, treeV] using tm
    | some x =>
      rw [g] at ia
      have po := pop_at (n := G.length) (G := G ++ [.dic (kd kv)]) (by simp) g
      rw [set_end] at po
      have st := sort_at (n := G.length) (G := G ++ [.dic (kd (cutK w kv))]) (kv := cutK w kv) (by simp) (by have := cl w; omega)
      rw [sortK_ri (hk.cut w).ri] at st
      have tm := tm [.dic (kd (cutK w kv))]
      rw [em] at tm ⊢
      simp [defV, G7.b__law_moved, G7.N__law_moved, env0, shV, cut2, gTupE, gConsE, gNilE, gN, dt, mMet, ty, ne, ne1, ne2, ne3, ia, po, st, bTup, asS, asL, size_line]
      simpa [oP, treeV] using tm
  | into w o =>
    have ne : ¬ (("into" : Str) = "put") := by decide
    have ne1 : ¬ (("into" : Str) = "move") := by decide
    have ia := in_at (n := G.length) (G := G ++ [.dic (kd kv)]) (kv := kv) (w := w) (by simp)
    cases g : getF kv w with
    | none =>
      have em : mvP kv (.into w o) = some kv := by simp only [mvP, g]
      rw [g] at ia
      have st := sort_at (n := G.length) (G := G ++ [.dic (kd kv)]) (kv := kv) (by simp) (by omega)
      rw [sortK_ri hk.ri] at st
      have tm := tm [.dic (kd kv)]
      rw [em] at tm ⊢
      simp [defV, G7.b__law_moved, G7.N__law_moved, env0, shV, cut2, gTupE, gConsE, gNilE, gN, dt, mMet, ty, ne, ia, st, bTup, asS, asL, size_line]
      simpa [oP, treeV] using tm
    | some x =>
      have em : mvP kv (.into w o) = some (witK kv w (treeV [(o, x)])) := by simp only [mvP, g]
      rw [g] at ia
      have po := pop_at (n := G.length) (G := G ++ [.dic (kd kv)]) (by simp) g
      rw [set_end] at po
      have c5 := cl w
      have s2 := set_at (n := G.length) (G := G ++ [.dic (kd (cutK w kv))]) (by simp) (put_new (v := treeV [(o, x)]) (cut_keys (kv := kv) (w := w))) (by omega)
      rw [set_end] at s2
      have st := sort_at (n := G.length) (G := G ++ [.dic (kd (cutK w kv ++ [(w, treeV [(o, x)])]))]) (kv := cutK w kv ++ [(w, treeV [(o, x)])]) (by simp) (by simp; omega)
      have wk : sortK (cutK w kv ++ [(w, treeV [(o, x)])]) = witK kv w (treeV [(o, x)]) := rfl
      rw [wk] at st
      have tm := tm [.dic (kd (cutK w kv ++ [(w, treeV [(o, x)])]))]
      rw [em] at tm ⊢
      simp [treeV, fldV] at s2 st tm
      simp [defV, G7.b__law_moved, G7.N__law_moved, env0, shV, cut2, gTupE, gConsE, gNilE, gN, dt, mMet, ty, ne, ne1, ia, po, s2, st, bTup, asS, asL, size_line]
      simpa [oP, treeV] using tm
  | move w o =>
    have ne : ¬ (("move" : Str) = "put") := by decide
    have ia := in_at (n := G.length) (G := G ++ [.dic (kd kv)]) (kv := kv) (w := w) (by simp)
    cases g : getF kv w with
    | none =>
      have em : mvP kv (.move w o) = some kv := by simp only [mvP, g]
      rw [g] at ia
      have st := sort_at (n := G.length) (G := G ++ [.dic (kd kv)]) (kv := kv) (by simp) (by omega)
      rw [sortK_ri hk.ri] at st
      have tm := tm [.dic (kd kv)]
      rw [em] at tm ⊢
      simp [defV, G7.b__law_moved, G7.N__law_moved, env0, shV, cut2, gTupE, gConsE, gNilE, gN, dt, mMet, ty, ne, ia, st, bTup, asS, asL, size_line]
      simpa [oP, treeV] using tm
    | some x =>
      rw [g] at ia
      have po := pop_at (n := G.length) (G := G ++ [.dic (kd kv)]) (by simp) g
      rw [set_end] at po
      have c5 := cl w
      have ib := in_at (n := G.length) (G := G ++ [.dic (kd (cutK w kv))]) (kv := cutK w kv) (w := o) (by simp)
      by_cases ow : o = w
      · subst ow
        have em : mvP kv (.move o o) = none := by simp only [mvP, g, Option.isSome_some, if_true]
        rw [cut_get_self] at ib
        have tm := tm [.dic (kd (cutK o kv))]
        rw [em] at tm ⊢
        simp [defV, G7.b__law_moved, G7.N__law_moved, env0, shV, cut2, gTupE, gConsE, gNilE, gN, dt, mMet, ty, ne, ia, po, ib]
        simpa [oP] using tm
      · rw [cut_get ow] at ib
        cases hs2 : (getF kv o).isSome with
        | true =>
          have em : mvP kv (.move w o) = none := by simp only [mvP, g, hs2, if_true]
          rw [hs2] at ib
          have tm := tm [.dic (kd (cutK w kv))]
          rw [em] at tm ⊢
          simp [defV, G7.b__law_moved, G7.N__law_moved, env0, shV, cut2, gTupE, gConsE, gNilE, gN, dt, mMet, ty, ne, ia, po, ib]
          simpa [oP] using tm
        | false =>
          have em : mvP kv (.move w o) = some (witK (cutK w kv) o x) := by simp only [mvP, g, hs2, Bool.false_eq_true, if_false]
          rw [hs2] at ib
          have on : o ∉ (cutK w kv).map (·.1) := getF_is (by rw [cut_get ow]; exact hs2)
          have s2 := set_at (n := G.length) (G := G ++ [.dic (kd (cutK w kv))]) (by simp) (put_new (v := x) on) (by omega)
          rw [set_end] at s2
          have st := sort_at (n := G.length) (G := G ++ [.dic (kd (cutK w kv ++ [(o, x)]))]) (kv := cutK w kv ++ [(o, x)]) (by simp) (by simp; omega)
          have wk : sortK (cutK w kv ++ [(o, x)]) = witK (cutK w kv) o x := by unfold witK; rw [cut_of on]
          rw [wk] at st
          have tm := tm [.dic (kd (cutK w kv ++ [(o, x)]))]
          rw [em] at tm ⊢
          simp [defV, G7.b__law_moved, G7.N__law_moved, env0, shV, cut2, gTupE, gConsE, gNilE, gN, dt, mMet, ty, ne, ia, po, ib, ow, s2, st, bTup, asS, asL, size_line]
          simpa [oP, treeV] using tm
  | out w o =>
    have ne : ¬ (("out" : Str) = "put") := by decide
    have ne1 : ¬ (("out" : Str) = "move") := by decide
    have ne2 : ¬ (("out" : Str) = "into") := by decide
    have ia := in_at (n := G.length) (G := G ++ [.dic (kd kv)]) (kv := kv) (w := w) (by simp)
    cases g : getF kv w with
    | none =>
      have em : mvP kv (.out w o) = some kv := by simp only [mvP, g]
      rw [g] at ia
      have st := sort_at (n := G.length) (G := G ++ [.dic (kd kv)]) (kv := kv) (by simp) (by omega)
      rw [sortK_ri hk.ri] at st
      have tm := tm [.dic (kd kv)]
      rw [em] at tm ⊢
      simp [defV, G7.b__law_moved, G7.N__law_moved, env0, shV, cut2, gTupE, gConsE, gNilE, gN, dt, mMet, ty, ne, ia, st, bTup, asS, asL, size_line]
      simpa [oP, treeV] using tm
    | some x =>
      rw [g] at ia
      have po := pop_at (n := G.length) (G := G ++ [.dic (kd kv)]) (by simp) g
      rw [set_end] at po
      have c5 := cl w
      have wx := hk.get g
      have pl := hp x (G ++ [.dic (kd (cutK w kv))]) wx
      cases ek : kids x with
      | none =>
        have em : mvP kv (.out w o) = none := by simp only [mvP, g, ek]
        have tm := tm [.dic (kd (cutK w kv))]
        rw [em] at tm ⊢
        rcases no_tree wx ek with e | ⟨xs, rfl⟩
        · rw [e] at pl
          simp [defV, G7.b__law_moved, G7.N__law_moved, env0, shV, cut2, gTupE, gConsE, gNilE, gN, dt, mMet, ty, ne, ne1, ne2, ia, po, pl]
          simpa [oP] using tm
        · have nr : ¬ (("row" : Str) = "tree") := by decide
          simp [isTup, rowV] at pl
          simp [defV, G7.b__law_moved, G7.N__law_moved, env0, shV, cut2, gTupE, gConsE, gNilE, gN, dt, mMet, ty, ne, ne1, ne2, ia, po, pl, rowV, nr]
          simpa [oP] using tm
      | some ku =>
        obtain ⟨rfl, hu⟩ := wf_kids wx ek
        simp [isTup, treeV] at pl
        have s2 := set_at (n := G.length) (G := G ++ [.dic (kd (cutK w kv))]) (by simp) (put_new (v := treeV ku) (cut_keys (kv := kv) (w := w))) (by omega)
        rw [set_end] at s2
        have d2 := dict_tree (G ++ [.dic (kd (cutK w kv ++ [(w, treeV ku)]))]) hu.ri.nd
        have ul := hu.len
        have ic := in_at (n := G.length + 1) (G := G ++ [.dic (kd (cutK w kv ++ [(w, treeV ku)])), .dic (kd ku)]) (kv := ku) (w := o) (by simp)
        have pm := back_perm hk.ri.nd g
        have nd2 : ((cutK w kv ++ [(w, treeV ku)]).map (·.1)).Nodup := wit_nd hk.ri.nd
        have srt : sortK (cutK w kv ++ [(w, treeV ku)]) = kv := (sortK_perm pm nd2).trans (sortK_ri hk.ri)
        cases gy : getF ku o with
        | none =>
          have em : mvP kv (.out w o) = some kv := by simp only [mvP, g, kids_tree, gy]
          rw [gy] at ic
          have st := sort_at (n := G.length) (G := G ++ [.dic (kd (cutK w kv ++ [(w, treeV ku)])), .dic (kd ku)]) (kv := cutK w kv ++ [(w, treeV ku)]) (by simp) (by simp; omega)
          rw [srt] at st
          have tm := tm [.dic (kd (cutK w kv ++ [(w, treeV ku)])), .dic (kd ku)]
          rw [em] at tm ⊢
          simp [treeV] at s2 d2 ic st tm
          simp [defV, G7.b__law_moved, G7.N__law_moved, env0, shV, cut2, gTupE, gConsE, gNilE, gN, dt, mMet, ty, ne, ne1, ne2, ia, po, pl, treeV, s2, d2, ic, st, bTup, asS, asL, size_line]
          simpa [oP, treeV] using tm
        | some y =>
          rw [gy] at ic
          have io := in_at (n := G.length) (G := G ++ [.dic (kd (cutK w kv ++ [(w, treeV ku)])), .dic (kd ku)]) (kv := cutK w kv ++ [(w, treeV ku)]) (w := o) (by simp)
          have go : (getF (cutK w kv ++ [(w, treeV ku)]) o).isSome = (getF kv o).isSome := by
            have h1 : ∀ l : List (Str × PV), (getF l o).isSome = decide (o ∈ l.map (·.1)) := fun l => by
              cases e : getF l o with
              | none => exact (decide_eq_false (getF_none e)).symm
              | some z => exact (decide_eq_true (getF_some_mem e)).symm
            rw [h1, h1]
            exact decide_eq_decide.mpr (pm.map (·.1)).mem_iff
          rw [go] at io
          cases hs2 : (getF kv o).isSome with
          | true =>
            have em : mvP kv (.out w o) = none := by simp only [mvP, g, kids_tree, gy, hs2, if_true]
            rw [hs2] at io
            have tm := tm [.dic (kd (cutK w kv ++ [(w, treeV ku)])), .dic (kd ku)]
            rw [em] at tm ⊢
            simp [treeV] at s2 d2 ic io tm
            simp [defV, G7.b__law_moved, G7.N__law_moved, env0, shV, cut2, gTupE, gConsE, gNilE, gN, dt, mMet, ty, ne, ne1, ne2, ia, po, pl, treeV, s2, d2, ic, io]
            simpa [oP] using tm
          | false =>
            have em : mvP kv (.out w o) = some (witK (witK kv w (treeV (cutK o ku))) o y) := by simp only [mvP, g, kids_tree, gy, hs2, Bool.false_eq_true, if_false]
            rw [hs2] at io
            have ul2 : (cutK o ku).length ≤ 5 := Nat.le_trans cut_sub.length_le ul
            have p2 := pop_at (n := G.length + 1) (G := G ++ [.dic (kd (cutK w kv ++ [(w, treeV ku)])), .dic (kd ku)]) (by simp) gy
            rw [set_end3] at p2
            have on : o ∉ kv.map (·.1) := getF_is hs2
            have on2 : o ∉ (cutK w kv ++ [(w, treeV ku)]).map (·.1) := fun m => on ((pm.map (·.1)).mem_iff.mp m)
            have ow : o ≠ w := fun e => on (e ▸ getF_some_mem g)
            have s3 := set_at (n := G.length) (G := G ++ [.dic (kd (cutK w kv ++ [(w, treeV ku)])), .dic (kd (cutK o ku))]) (kv := cutK w kv ++ [(w, treeV ku)]) (by simp) (put_new (v := y) on2) (by simp; omega)
            rw [set_end2] at s3
            have st2 := sort_at (n := G.length + 1) (G := G ++ [.dic (kd (cutK w kv ++ [(w, treeV ku)] ++ [(o, y)])), .dic (kd (cutK o ku))]) (kv := cutK o ku) (by simp) (by omega)
            rw [sortK_ri (hu.cut o).ri] at st2
            have po2 : putD (kd (cutK w kv ++ [(w, treeV ku)] ++ [(o, y)])) (.inr w) (treeV (cutK o ku)) = kd (cutK w kv ++ [(w, treeV (cutK o ku))] ++ [(o, y)]) := by
              rw [put_old (by simp)]
              congr 1
              rw [List.map_append, List.map_append]
              congr 1
              · congr 1
                · refine (List.map_congr_left fun q hq => ?_).trans (List.map_id _)
                  have : q.1 ≠ w := fun e => cut_keys (e ▸ List.mem_map.mpr ⟨q, hq, rfl⟩)
                  simp [this]
                · simp
              · simp [ow]
            have s4 := set_at (n := G.length) (G := G ++ [.dic (kd (cutK w kv ++ [(w, treeV ku)] ++ [(o, y)])), .dic (kd (cutK o ku))]) (kv := cutK w kv ++ [(w, treeV ku)] ++ [(o, y)]) (by simp) po2 (by simp; omega)
            rw [set_end2] at s4
            have st3 := sort_at (n := G.length) (G := G ++ [.dic (kd (cutK w kv ++ [(w, treeV (cutK o ku))] ++ [(o, y)])), .dic (kd (cutK o ku))]) (kv := cutK w kv ++ [(w, treeV (cutK o ku))] ++ [(o, y)]) (by simp) (by simp; omega)
            have on3 : o ∉ (witK kv w (treeV (cutK o ku))).map (·.1) := fun m => by
              obtain ⟨q, hq, e⟩ := List.mem_map.mp m
              rcases wit_mem hq with k | k
              · rw [k] at e; exact ow e.symm
              · exact on (List.mem_map.mpr ⟨q, k, e⟩)
            have wk : sortK (cutK w kv ++ [(w, treeV (cutK o ku))] ++ [(o, y)]) = witK (witK kv w (treeV (cutK o ku))) o y := by
              have e : witK (witK kv w (treeV (cutK o ku))) o y = sortK (witK kv w (treeV (cutK o ku)) ++ [(o, y)]) := by
                show sortK (cutK o (witK kv w (treeV (cutK o ku))) ++ [(o, y)]) = _
                rw [cut_of on3]
              rw [e]
              refine sortK_perm ((List.mergeSort_perm _ _).symm.append_right _) ?_
              rw [List.map_append, List.nodup_append]
              refine ⟨wit_nd hk.ri.nd, by simp, fun a ha b hb => ?_⟩
              have : b = o := by simpa using hb
              subst this
              exact fun e => on3 (sortK_keys.mpr (e ▸ ha))
            rw [wk] at st3
            have tm := tm [.dic (kd (cutK w kv ++ [(w, treeV (cutK o ku))] ++ [(o, y)])), .dic (kd (cutK o ku))]
            rw [em] at tm ⊢
            simp [treeV] at s2 d2 ic io p2 s3 st2 s4 st3 tm
            have ty2 : ∀ x z, tyP (G ++ [GO.dic x, GO.dic z]) (.obj (G.length + 1)) = some "dict" := fun x z => by simp [tyP]
            simp [defV, G7.b__law_moved, G7.N__law_moved, env0, shV, cut2, gTupE, gConsE, gNilE, gN, dt, mMet, ty, ty2, ne, ne1, ne2, ia, po, pl, treeV, s2, d2, ic, io, p2, s3, st2, s4, st3, bTup, asS, asL, size_line]
            simpa [oP, treeV] using tm
end EV.NV
end
section
/-! Y4: what moves make stays small; moves one behind another (k44). -/
set_option Elab.async false
set_option linter.all false
set_option maxRecDepth 100000
set_option maxHeartbeats 1000000
namespace EV.NV
open PySem PySem.Spec PyProof.Rows L2
def wK (kv : List (Str × PV)) : Nat := wgts (kv.map fldV)
def dpK (kv : List (Str × PV)) : Nat := deps (kv.map fldV)
theorem wgts_perm {a b : List PV} (p : a.Perm b) : wgts a = wgts b := by
  induction p with
  | nil => rfl
  | cons x _ ih => simp only [wgts, ih]
  | swap x y l => simp only [wgts]; omega
  | trans _ _ h1 h2 => exact h1.trans h2
theorem deps_perm {a b : List PV} (p : a.Perm b) : deps a = deps b := by
  induction p with
  | nil => rfl
  | cons x _ ih => simp only [deps, ih]
  | swap x y l => simp only [deps]; omega
  | trans _ _ h1 h2 => exact h1.trans h2
theorem wgts_app : ∀ a b : List PV, wgts (a ++ b) = wgts a + wgts b
  | [], b => by simp [wgts]
  | x :: a, b => by simp only [List.cons_append, wgts, wgts_app a b]; omega
theorem deps_app : ∀ a b : List PV, deps (a ++ b) = max (deps a) (deps b)
  | [], b => by simp [deps]
  | x :: a, b => by simp only [List.cons_append, deps, deps_app a b]; omega
theorem wK_sort {kv : List (Str × PV)} : wK (sortK kv) = wK kv := wgts_perm ((List.mergeSort_perm _ _).map fldV)
theorem dK_sort {kv : List (Str × PV)} : dpK (sortK kv) = dpK kv := deps_perm ((List.mergeSort_perm _ _).map fldV)
theorem wK_app {a : List (Str × PV)} {w : Str} {v : PV} : wK (a ++ [(w, v)]) = wK a + (w.cps.size + wgt v + 3) := by
  unfold wK
  rw [List.map_append, wgts_app]
  simp [fldV, wgts, wgt]; omega
theorem dK_app {a : List (Str × PV)} {w : Str} {v : PV} : dpK (a ++ [(w, v)]) = max (dpK a) (dep v + 1) := by
  unfold dpK
  rw [List.map_append, deps_app]
  simp [fldV, deps, dep]
theorem wK_cut {w : Str} : ∀ {kv : List (Str × PV)}, wK (cutK w kv) ≤ wK kv
  | [] => Nat.le_refl _
  | q :: kv => by
    have ih := wK_cut (w := w) (kv := kv)
    unfold wK cutK at *
    by_cases e : q.1 = w
    · rw [List.filter_cons_of_neg (by simp [e])]; simp only [List.map_cons, wgts]; omega
    · rw [List.filter_cons_of_pos (by simp [e])]; simp only [List.map_cons, wgts]; omega
theorem dK_cut {w : Str} : ∀ {kv : List (Str × PV)}, dpK (cutK w kv) ≤ dpK kv
  | [] => Nat.le_refl _
  | q :: kv => by
    have ih := dK_cut (w := w) (kv := kv)
    unfold dpK cutK at *
    by_cases e : q.1 = w
    · rw [List.filter_cons_of_neg (by simp [e])]; simp only [List.map_cons, deps]; omega
    · rw [List.filter_cons_of_pos (by simp [e])]; simp only [List.map_cons, deps]; omega
theorem wK_get {kv : List (Str × PV)} {w : Str} {x : PV} (nd : (kv.map (·.1)).Nodup) (g : getF kv w = some x) : wK (cutK w kv) + (w.cps.size + wgt x + 3) = wK kv := by
  rw [← wK_app]
  exact wgts_perm ((back_perm nd g).map fldV)
theorem dK_get {kv : List (Str × PV)} {w : Str} {x : PV} (g : getF kv w = some x) : dep x + 1 ≤ dpK kv := by
  have m : fldV (w, x) ∈ kv.map fldV := List.mem_map.mpr ⟨_, get_mem g, rfl⟩
  have : ∀ {l : List PV} {p : PV}, p ∈ l → dep p ≤ deps l := fun {l} {p} h => by
    induction l with
    | nil => cases h
    | cons y l ih =>
      rcases List.mem_cons.mp h with rfl | h
      · simp only [deps]; omega
      · have := ih h; simp only [deps]; omega
  have := this m
  simpa [fldV, dep, deps, dpK] using this
theorem wK_wit {kv : List (Str × PV)} {w : Str} {v : PV} : wK (witK kv w v) = wK (cutK w kv) + (w.cps.size + wgt v + 3) := by
  unfold witK; rw [wK_sort, wK_app]
theorem dK_wit {kv : List (Str × PV)} {w : Str} {v : PV} : dpK (witK kv w v) = max (dpK (cutK w kv)) (dep v + 1) := by
  unfold witK; rw [dK_sort, dK_app]
theorem wgt_tree {kv : List (Str × PV)} : wgt (treeV kv) = wK kv + 6 := by
  have : ("tree" : Str).cps.size = 4 := by decide +kernel
  simp [treeV, wgt, wgts, wK, this]; omega
theorem dep_tree {kv : List (Str × PV)} : dep (treeV kv) = dpK kv + 2 := by
  simp [treeV, dep, deps, dpK]
theorem w1 {w : Str} (h : w ∈ abcde) : w.cps.size ≤ 1 := (ok_abcde w h).2
/-- the weight that a move brings -/
def shW : Sh → Nat
  | .put _ v => wgt v
  | _ => 0
def shD : Sh → Nat
  | .put _ v => dep v
  | _ => 0
theorem mv_sz {kv kw : List (Str × PV)} {s : Sh} (h : Dk kv) (hs : ShOk s) (e : mvP kv s = some kw) : wK kw ≤ wK kv + shW s + 10 ∧ dpK kw ≤ max (dpK kv + 3) (shD s + 1) := by
  have hs := hs.w
  cases s with
  | put w v =>
    have e : (match getF kv w with
      | some _ => some kv
      | none => some (witK kv w v)) = some kw := e
    have l := w1 hs.1
    have c1 := wK_cut (w := w) (kv := kv)
    have c2 := dK_cut (w := w) (kv := kv)
    split at e
    · cases e; simp only [shW, shD]; omega
    · cases e; rw [wK_wit, dK_wit]; simp only [shW, shD]; omega
  | cut w =>
    cases e
    have c1 := wK_cut (w := w) (kv := kv)
    have c2 := dK_cut (w := w) (kv := kv)
    simp only [shW, shD]; omega
  | into w o =>
    have e : (match getF kv w with
      | none => some kv
      | some x => some (witK kv w (treeV [(o, x)]))) = some kw := e
    have l := w1 hs.2
    split at e
    · cases e; simp only [shW, shD]; omega
    · rename_i x g
      cases e
      have c := wK_get h.ri.nd g
      have c2 := dK_cut (w := w) (kv := kv)
      have c3 := dK_get g
      have t : wK [(o, x)] = o.cps.size + wgt x + 3 := by
        have := wK_app (a := []) (w := o) (v := x)
        simpa [wK, wgts] using this
      have t2 : dpK [(o, x)] = dep x + 1 := by simp [dpK, fldV, deps, dep]
      rw [wK_wit, dK_wit, wgt_tree, dep_tree, t, t2]
      simp only [shW, shD]; omega
  | move w o =>
    have e : (match getF kv w with
      | none => some kv
      | some x => if (getF kv o).isSome = true then none else some (witK (cutK w kv) o x)) = some kw := e
    have l := w1 hs.2
    split at e
    · cases e; simp only [shW, shD]; omega
    · rename_i x g
      split at e
      · cases e
      · cases e
        have c := wK_get h.ri.nd g
        have c1 := wK_cut (w := o) (kv := cutK w kv)
        have c2 := dK_cut (w := w) (kv := kv)
        have c4 := dK_cut (w := o) (kv := cutK w kv)
        have c3 := dK_get g
        rw [wK_wit, dK_wit]
        simp only [shW, shD]; omega
  | out w o =>
    have e : (match getF kv w with
      | none => some kv
      | some x => match kids x with
        | none => none
        | some ku => match getF ku o with
          | none => some kv
          | some y => if (getF kv o).isSome = true then none else some (witK (witK kv w (treeV (cutK o ku))) o y)) = some kw := e
    split at e
    · cases e; simp only [shW, shD]; omega
    · rename_i x g
      split at e
      · cases e
      · rename_i ku k
        obtain ⟨rfl, hu⟩ := wf_kids (h.get g) k
        split at e
        · cases e; simp only [shW, shD]; omega
        · rename_i y gy
          split at e
          · cases e
          · cases e
            have c := wK_get h.ri.nd g
            have cu := wK_get hu.ri.nd gy
            have d1 := dK_get g
            have d2 := dK_get gy
            have c1 := wK_cut (w := o) (kv := witK kv w (treeV (cutK o ku)))
            have c2 := dK_cut (w := o) (kv := witK kv w (treeV (cutK o ku)))
            have c3 := dK_cut (w := w) (kv := kv)
            have c4 := dK_cut (w := o) (kv := ku)
            have c5 := wK_cut (w := w) (kv := kv)
            rw [wgt_tree] at c
            rw [dep_tree] at d1
            rw [wK_wit, dK_wit]
            rw [wK_wit, wgt_tree] at c1
            rw [dK_wit, dep_tree] at c2
            simp only [shW, shD]; omega
/-- moves one behind another -/
def ldP : List (Str × PV) → List Sh → Option (List (Str × PV))
  | kv, [] => some kv
  | kv, s :: r => match mvP kv s with
    | none => none
    | some kw => ldP kw r
theorem ld_ok {c : Nat} : ∀ {r : List Sh} {kv kw : List (Str × PV)} {W D : Nat}, Dk kv → (∀ s ∈ r, ShOk s ∧ shW s ≤ c ∧ shD s ≤ 3) → wK kv ≤ W → dpK kv ≤ D → 1 ≤ D → ldP kv r = some kw → Dk kw ∧ wK kw ≤ W + r.length * (c + 10) ∧ dpK kw ≤ D + r.length * 3
  | [], kv, kw, W, D, h, _, hw, hd, _, e => by cases e; exact ⟨h, by simpa using hw, by simpa using hd⟩
  | s :: r, kv, kw, W, D, h, hs, hw, hd, h1, e => by
    obtain ⟨s1, s2, s3⟩ := hs s (List.mem_cons_self ..)
    unfold ldP at e
    split at e
    · cases e
    · rename_i k1 e1
      obtain ⟨m1, m2⟩ := mv_sz h s1 e1
      obtain ⟨a, b, d⟩ := ld_ok (c := c) (W := W + (c + 10)) (D := D + 3) (mv_dk h s1 e1) (fun s hs' => hs s (List.mem_cons_of_mem _ hs')) (by omega) (by omega) (by omega) e
      refine ⟨a, ?_, ?_⟩
      · rw [List.length_cons, Nat.succ_mul]; omega
      · rw [List.length_cons]; omega
theorem ld_app : ∀ {a b : List Sh} {kv : List (Str × PV)}, ldP kv (a ++ b) = match ldP kv a with
    | none => none
    | some kw => ldP kw b
  | [], b, kv => rfl
  | s :: a, b, kv => by
    cases e : mvP kv s with
    | none => simp only [List.cons_append, ldP, e]
    | some kw =>
      simp only [List.cons_append, ldP, e]
      exact ld_app
end EV.NV
end
section
/-! SQ: stepping by equalities. -/
set_option Elab.async false
set_option linter.all false
set_option maxRecDepth 100000
namespace EV.NV
open PySem PySem.Spec PyProof.Rows L2
theorem sq_next {m n : EV.Env → GH → Res Fl} {ρ ρ' : EV.Env} {G G' : GH} (h : m ρ G = .ok (.next ρ') G') : sSeq m n ρ G = n ρ' G' := by
  simp only [sSeq, h, Res.bind_ok]
theorem sq_exc {m n : EV.Env → GH → Res Fl} {ρ : EV.Env} {G G' : GH} {c : Nat} {fs : List (Str × PV)} (h : m ρ G = .exc c fs G') : sSeq m n ρ G = .exc c fs G' := by
  simp only [sSeq, h]; rfl
theorem sq_ret {m n : EV.Env → GH → Res Fl} {ρ : EV.Env} {G G' : GH} {v : PV} (h : m ρ G = .ok (.ret v) G') : sSeq m n ρ G = .ok (.ret v) G' := by
  simp only [sSeq, h, Res.bind_ok]
theorem asgN {m : EV.Env → GH → Res PV} {ρ : EV.Env} {G G' : GH} {k : Nat} {v : PV} (h : m ρ G = .ok v G') : sAsg m (gN k) ρ G = .ok (.next (ρ.set k (some v))) G' := by
  simp only [sAsg, h, Res.bind_ok, gN]
theorem ifT {t : EV.Env → GH → Res Bool} {a b : EV.Env → GH → Res Fl} {ρ : EV.Env} {G G' : GH} (h : t ρ G = .ok true G') : sIf t a b ρ G = a ρ G' := by
  simp only [sIf, h, Res.bind_ok, if_true]
theorem ifF {t : EV.Env → GH → Res Bool} {a b : EV.Env → GH → Res Fl} {ρ : EV.Env} {G G' : GH} (h : t ρ G = .ok false G') : sIf t a b ρ G = b ρ G' := by
  simp only [sIf, h, Res.bind_ok, Bool.false_eq_true, if_false]
theorem loopF_exc {f : PV → EV.Env → GH → Res Fl} {gd : GH → Bool} {x : PV} {xs : List PV} {ρ : EV.Env} {G G1 : GH} {c : Nat} {fs : List (Str × PV)} (hg : gd G = true) (h : f x ρ G = .exc c fs G1) : loopF f gd (x :: xs) ρ G = .exc c fs G1 := by
  simp only [loopF, if_pos hg, h]; rfl
end EV.NV
end
section
/-! Y5: led: moves one behind another, from an edition to one (k44). -/
set_option Elab.async false
set_option linter.all false
set_option maxRecDepth 100000
set_option maxHeartbeats 1000000
namespace EV.NV
open PySem PySem.Spec PyProof.Rows L2
def fV (f : List Sh) : PV := .tup (f.map shV)
def FV (fs : List (List Sh)) : PV := .tup (fs.map fV)
def upP : Option Int → PV
  | none => .non
  | some k => .int k
def endI (n : Nat) : Option Int → Int
  | none => n
  | some k => k
def cutF {α : Type} (xs : List α) (lo hi : Int) : List α := (xs.drop (HT.sIx xs.length 0 (some lo))).take (HT.sIx xs.length xs.length (some hi) - HT.sIx xs.length 0 (some lo))
theorem cutF_map {α : Type} (f : α → PV) (xs : List α) (lo hi : Int) : cutP (xs.map f) (some lo) (some hi) = (cutF xs lo hi).map f := by
  unfold cutP cutF
  rw [List.length_map, List.map_take, List.map_drop]
theorem cutF_mem {α : Type} {xs : List α} {lo hi : Int} {y : α} (h : y ∈ cutF xs lo hi) : y ∈ xs := List.mem_of_mem_drop (List.mem_of_mem_take h)
theorem cutF_len {α : Type} (xs : List α) (lo hi : Int) : (cutF xs lo hi).length ≤ xs.length := by
  unfold cutF
  rw [List.length_take, List.length_drop]; omega
def inR (n : Nat) (a b : Int) : Bool := decide (a ≤ b) && decide (b ≤ (n : Int))
def okU (n : Nat) (lo : Int) : Option Int → Bool
  | none => true
  | some k => inR n lo k
def ledC (c : List (Str × PV)) (fs : List (List Sh)) (lo : Int) (up : Option Int) : Option (List (Str × PV)) := ldP c (cutF fs lo (endI fs.length up)).flatten
def ledR (c : List (Str × PV)) (fs : List (List Sh)) (lo : Int) (up : Option Int) (who : Str) (G : GH) : Res PV :=
  if inR fs.length 0 lo = true then
    (if okU fs.length lo up = true then
      (match ledC c fs lo up with
        | none => .exc 1 [("edition", .int lo), ("holder", .str who)] G
        | some kw => .ok (treeV kw) G)
    else .exc 0 [("mark", upP up)] G)
  else .exc 0 [("mark", .int lo)] G
def envD (d sh : PV) (lo : Int) (up who nw : PV) (y6 y7 : Option PV) : EV.Env := [some d, some sh, some (.int lo), some up, some who, some nw, y6, y7]
abbrev ledB (fm : List PV → GH → Res PV) (gt : Bool) : EV.Env → GH → Res Fl := (sSeq (sAsg (mA (mCons (mVar 0) (mCons (mVar 7) (mNil))) fm) (gN 0)) (sSeq (sIf (mB (m2 (mVar 0) (mCst .non) (Cop.f .is))) (sSeq (sRaise gt 1 ["holder", "edition"] (mCons (mVar 4) (mCons (mVar 2) (mNil)))) (sNext)) (sNext)) (sNext)))
theorem led_in {fm} (hm : SpMv fm) {sh up nw : PV} {lo : Int} {who : Str} {G : GH} : ∀ (r : List Sh) (c : List (Str × PV)) (y6 y7 : Option PV), Dk c → (∀ s ∈ r, ShOk s) →
    match ldP c r with
    | none => loopF (forStep (gN 7) (ledB fm true)) (fun _ => true) (r.map shV) (envD (treeV c) sh lo up (.str who) nw y6 y7) G = .exc 1 [("edition", .int lo), ("holder", .str who)] G
    | some kw => Dk kw ∧ ∃ z7, loopF (forStep (gN 7) (ledB fm true)) (fun _ => true) (r.map shV) (envD (treeV c) sh lo up (.str who) nw y6 y7) G = .ok (.next (envD (treeV kw) sh lo up (.str who) nw y6 z7)) G
  | [], c, y6, y7, hc, _ => ⟨hc, y7, loopF_nil rfl⟩
  | s :: r, c, y6, y7, hc, hs => by
    have h1 := hs s (List.mem_cons_self ..)
    have e1 := hm c s G hc h1
    have st : forStep (gN 7) (ledB fm true) (shV s) (envD (treeV c) sh lo up (.str who) nw y6 y7) G = match mvP c s with
      | none => .exc 1 [("edition", .int lo), ("holder", .str who)] G
      | some kw => .ok (.next (envD (treeV kw) sh lo up (.str who) nw y6 (some (shV s)))) G := by
      cases e : mvP c s with
      | none =>
        rw [e] at e1
        exact (sq_next (asgN (v := .non) (G' := G) e1)).trans (sq_exc ((ifT rfl).trans (sq_exc rfl)))
      | some kw =>
        rw [e] at e1
        exact (sq_next (asgN (v := treeV kw) (G' := G) e1)).trans ((sq_next ((ifF rfl).trans rfl)).trans rfl)
    unfold ldP
    cases e : mvP c s with
    | none =>
      rw [e] at st
      exact loopF_exc rfl st
    | some kw =>
      rw [e] at st
      have dk := mv_dk hc h1 e
      have ih := led_in hm (sh := sh) (up := up) (nw := nw) (lo := lo) (who := who) (G := G) r kw y6 (some (shV s)) dk fun s h => hs s (List.mem_cons_of_mem _ h)
      have el : loopF (forStep (gN 7) (ledB fm true)) (fun _ => true) ((s :: r).map shV) (envD (treeV c) sh lo up (.str who) nw y6 y7) G = loopF (forStep (gN 7) (ledB fm true)) (fun _ => true) (r.map shV) (envD (treeV kw) sh lo up (.str who) nw y6 (some (shV s))) G := loopF_next rfl st
      show (match ldP kw r with | none => _ | some kw => _)
      cases e2 : ldP kw r with
      | none =>
        rw [e2] at ih
        exact el.trans ih
      | some k2 =>
        rw [e2] at ih
        obtain ⟨i1, z, i2⟩ := ih
        exact ⟨i1, z, el.trans i2⟩
abbrev ledO (fm : List PV → GH → Res PV) (gt : Bool) : EV.Env → GH → Res Fl := sSeq (sFor (mSeq (mVar 6)) (gN 7) (ledB fm gt)) sNext
theorem led_out {fm} (hm : SpMv fm) {sh up nw : PV} {lo : Int} {who : Str} {G : GH} : ∀ (fs : List (List Sh)) (c : List (Str × PV)) (y6 y7 : Option PV), Dk c → (∀ f ∈ fs, ∀ s ∈ f, ShOk s) →
    match ldP c fs.flatten with
    | none => loopF (forStep (gN 6) (ledO fm true)) (fun _ => true) (fs.map fV) (envD (treeV c) sh lo up (.str who) nw y6 y7) G = .exc 1 [("edition", .int lo), ("holder", .str who)] G
    | some kw => Dk kw ∧ ∃ z6 z7, loopF (forStep (gN 6) (ledO fm true)) (fun _ => true) (fs.map fV) (envD (treeV c) sh lo up (.str who) nw y6 y7) G = .ok (.next (envD (treeV kw) sh lo up (.str who) nw z6 z7)) G
  | [], c, y6, y7, hc, _ => ⟨hc, y6, y7, loopF_nil rfl⟩
  | f :: fs, c, y6, y7, hc, hs => by
    have h1 := led_in hm (sh := sh) (up := up) (nw := nw) (lo := lo) (who := who) (G := G) f c (some (fV f)) y7 hc (hs f (List.mem_cons_self ..))
    have sf : ∀ R : Res Fl, loopF (forStep (gN 7) (ledB fm true)) (fun _ => true) (f.map shV) (envD (treeV c) sh lo up (.str who) nw (some (fV f)) y7) G = R → sFor (mSeq (mVar 6)) (gN 7) (ledB fm true) (envD (treeV c) sh lo up (.str who) nw (some (fV f)) y7) G = R := fun R h => by
      rw [sFor_ap]
      have : mSeq (mVar 6) (envD (treeV c) sh lo up (.str who) nw (some (fV f)) y7) G = .ok ⟨f.map shV, fun _ => true⟩ G := by simp [mSeq, seqSrc, envD, fV]
      rw [this]
      exact h
    have fst : ∀ R : Res Fl, ledO fm true (envD (treeV c) sh lo up (.str who) nw (some (fV f)) y7) G = R → forStep (gN 6) (ledO fm true) (fV f) (envD (treeV c) sh lo up (.str who) nw y6 y7) G = R := fun R h => h
    rw [List.flatten_cons, ld_app]
    cases e : ldP c f with
    | none =>
      rw [e] at h1
      exact loopF_exc rfl (fst _ (sq_exc (sf _ h1)))
    | some kw =>
      rw [e] at h1
      obtain ⟨dk, z7, h1⟩ := h1
      have ih := led_out hm (sh := sh) (up := up) (nw := nw) (lo := lo) (who := who) (G := G) fs kw (some (fV f)) z7 dk fun g h => hs g (List.mem_cons_of_mem _ h)
      have el : loopF (forStep (gN 6) (ledO fm true)) (fun _ => true) ((f :: fs).map fV) (envD (treeV c) sh lo up (.str who) nw y6 y7) G = loopF (forStep (gN 6) (ledO fm true)) (fun _ => true) (fs.map fV) (envD (treeV kw) sh lo up (.str who) nw (some (fV f)) z7) G := loopF_next rfl (fst _ ((sq_next (sf _ h1)).trans rfl))
      show (match ldP kw fs.flatten with | none => _ | some kw => _)
      cases e2 : ldP kw fs.flatten with
      | none =>
        rw [e2] at ih
        exact el.trans ih
      | some k2 =>
        rw [e2] at ih
        obtain ⟨i1, z, z', i2⟩ := ih
        exact ⟨i1, z, z', el.trans i2⟩
abbrev SpLed (f : List PV → GH → Res PV) : Prop := ∀ (c : List (Str × PV)) (fs : List (List Sh)) (lo : Int) (up : Option Int) (who : Str) G, Dk c → (∀ f ∈ fs, ∀ s ∈ f, ShOk s) → f [treeV c, FV fs, .int lo, upP up, .str who] G = ledR c fs lo up who G
theorem in_cop {n : Nat} {a b : Int} {G : GH} {ma mb mc : EV.Env → GH → Res PV} {ρ : EV.Env} (h1 : ma ρ G = .ok (.int a) G) (h2 : mb ρ G = .ok (.int b) G) (h3 : mc ρ G = .ok (.int (n : Nat)) G) : mtNot (mB (m3c ma mb mc (Cop.f .le) (Cop.f .le))) ρ G = .ok (!inR n a b) G := by
  have le : ∀ a b : Int, Cop.le.f [.int a, .int b] G = .ok (.bl (decide (a ≤ b))) G := fun a b => rfl
  have as : ∀ b : Bool, asB (.bl b) G = .ok b G := fun b => rfl
  simp only [mtNot, mB, m3c, h1, h2, h3, Res.bind_ok, le, as, inR]
  cases hd : decide (a ≤ b)
  · simp [as]
  · simp [as]
theorem led_sp {fg fm} (hg : gateB (fg [] []) = true) (hm : SpMv fm) : SpLed (defV 5 G7.N_led (G7.b_led fg fm)) := by
  intro c fs lo up who G hc hs
  have key : G7.b_led fg fm (env0 G7.N_led.length [treeV c, FV fs, .int lo, upP up, .str who]) G = if inR fs.length 0 lo = true then
    (if okU fs.length lo up = true then
      (match ledC c fs lo up with
        | none => .exc 1 [("edition", .int lo), ("holder", .str who)] G
        | some kw => .ok (.ret (treeV kw)) G)
    else .exc 0 [("mark", upP up)] G)
  else .exc 0 [("mark", .int lo)] G := by
    unfold G7.b_led
    rw [hg]
    have e0 : env0 G7.N_led.length [treeV c, FV fs, .int lo, upP up, .str who] = [some (treeV c), some (FV fs), some (.int lo), some (upP up), some (.str who), none, none, none] := rfl
    rw [e0]
    rw [sq_next (ρ' := envD (treeV c) (FV fs) lo (upP up) (.str who) (.int fs.length) none none) (G' := G) (by simp [FV, envD, gN])]
    have t1 := in_cop (n := fs.length) (a := 0) (b := lo) (G := G) (ma := mCst (.int 0)) (mb := mVar 2) (mc := mVar 5) (ρ := envD (treeV c) (FV fs) lo (upP up) (.str who) (.int fs.length) none none) rfl rfl rfl
    cases c1 : inR fs.length 0 lo with
    | false =>
      rw [c1] at t1
      simp only [Bool.false_eq_true, if_false]
      exact sq_exc ((ifT t1).trans (sq_exc rfl))
    | true =>
      rw [c1] at t1
      simp only [if_true]
      rw [sq_next ((ifF t1).trans rfl)]
      have t2 : mtAnd (mB (m2 (mVar 3) (mCst .non) (Cop.f .isnot))) (mtNot (mB (m3c (mVar 2) (mVar 3) (mVar 5) (Cop.f .le) (Cop.f .le)))) (envD (treeV c) (FV fs) lo (upP up) (.str who) (.int fs.length) none none) G = .ok (!okU fs.length lo up) G := by
        cases up with
        | none => rfl
        | some k =>
          have t := in_cop (n := fs.length) (a := lo) (b := k) (G := G) (ma := mVar 2) (mb := mVar 3) (mc := mVar 5) (ρ := envD (treeV c) (FV fs) lo (upP (some k)) (.str who) (.int fs.length) none none) rfl rfl rfl
          have a : mB (m2 (mVar 3) (mCst .non) (Cop.f .isnot)) (envD (treeV c) (FV fs) lo (upP (some k)) (.str who) (.int fs.length) none none) G = .ok true G := rfl
          simp only [mtAnd, a, Res.bind_ok, if_true]
          exact t
      cases c2 : okU fs.length lo up with
      | false =>
        rw [c2] at t2
        simp only [Bool.false_eq_true, if_false]
        exact sq_exc ((ifT t2).trans (sq_exc rfl))
      | true =>
        rw [c2] at t2
        simp only [if_true]
        rw [sq_next ((ifF t2).trans rfl)]
        have src : mSeq (mSl (mVar 1) (mPart (mVar 2)) (mPart (mIf (mB (m2 (mVar 3) (mCst .non) (Cop.f .is))) (mVar 5) (mVar 3))) opSl) (envD (treeV c) (FV fs) lo (upP up) (.str who) (.int fs.length) none none) G = .ok ⟨(cutF fs lo (endI fs.length up)).map fV, fun _ => true⟩ G := by
          rw [← cutF_map]
          cases up with
          | none => rfl
          | some k => rfl
        have lp := led_out hm (sh := FV fs) (up := upP up) (nw := .int fs.length) (lo := lo) (who := who) (G := G) (cutF fs lo (endI fs.length up)) c none none hc fun f hf => hs f (cutF_mem hf)
        have sf : ∀ R : Res Fl, loopF (forStep (gN 6) (ledO fm true)) (fun _ => true) ((cutF fs lo (endI fs.length up)).map fV) (envD (treeV c) (FV fs) lo (upP up) (.str who) (.int fs.length) none none) G = R → sFor (mSeq (mSl (mVar 1) (mPart (mVar 2)) (mPart (mIf (mB (m2 (mVar 3) (mCst .non) (Cop.f .is))) (mVar 5) (mVar 3))) opSl)) (gN 6) (ledO fm true) (envD (treeV c) (FV fs) lo (upP up) (.str who) (.int fs.length) none none) G = R := fun R h => by
          rw [sFor_ap, src]
          exact h
        unfold ledC
        cases q : ldP c (cutF fs lo (endI fs.length up)).flatten with
        | none =>
          rw [q] at lp
          exact sq_exc (sf _ lp)
        | some kw =>
          rw [q] at lp
          obtain ⟨dk, y6, y7, lp⟩ := lp
          exact (sq_next (sf _ lp)).trans (sq_ret rfl)
  have hl : [treeV c, FV fs, .int lo, upP up, .str who].length = 5 := rfl
  unfold defV
  rw [if_pos hl, key]
  unfold ledR
  cases c1 : inR fs.length 0 lo with
  | false => rfl
  | true =>
    simp only [if_true]
    cases c2 : okU fs.length lo up with
    | false => rfl
    | true =>
      simp only [if_true]
      cases q : ledC c fs lo up with
      | none => rfl
      | some kw =>
        obtain dk : Dk kw := by
          have lp := led_out hm (sh := FV fs) (up := upP up) (nw := .int fs.length) (lo := lo) (who := who) (G := G) (cutF fs lo (endI fs.length up)) c none none hc fun f hf => hs f (cutF_mem hf)
          unfold ledC at q
          rw [q] at lp
          exact lp.1
        exact trim_same _ _
end EV.NV
end
section
/-! printed by gen.py: the defs of the law, as the evaluator has them, and that they compute so. -/
set_option Elab.async false
set_option linter.all false
set_option maxRecDepth 100000
set_option maxHeartbeats 4000000
namespace K44
open PySem PySem.Spec PyProof.Rows L2 EV
def N__law_refused : List Str := ["_law_ask", "_law_found", "e", "_law_sorts", "_law_odd"]
def su14_0_1 : SuE := fun fs => sSeq (sAsg (mA (mCons (mCst (.bl false)) (mCons (mCst (.bl false)) (mCons (mCst (.bl true)) (mNil)))) mkLst) (gN 3)) (sSeq (sAsg (mCst (.bl false)) (gN 4)) (sSeq (sIf (mtAnd (mB (m2 (mMet "list" (mVar 3) (mCons (mCst (.bl true)) mNil) fCntB) (mCst (.int 1)) (Cop.f .eq))) (mtAnd (mT (mCst (.bl true))) (mtNot (mT (mVar 4))))) (sSeq (sIf (mT (m2 (mVar 3) (mCst (.int 0)) opIx)) (sSeq (sAsg (mA (mCons (mCst (.str "paper")) (mCons (fun _ _ => .bad) (mCons (fun _ _ => .bad) (mNil)))) mkTup) (gN 1)) (sNext)) (sSeq (sAsg (mIf (mT (m2 (mVar 3) (mCst (.int 1)) opIx)) (mA (mCons (mCst (.str "key")) (mCons (fun _ _ => .bad) (mCons (mFld fs "holder") (mNil)))) mkTup) (mA (mCons (mCst (.str "lead")) (mCons (mFld fs "holder") (mCons (mFld fs "edition") (mNil)))) mkTup)) (gN 1)) (sNext))) (sNext)) (sNext)) (sNext)))
def su14_1_0 : SuE := fun fs => sSeq (sAsg (mA (mCons (mCst (.bl true)) (mCons (mCst (.bl false)) (mCons (mCst (.bl false)) (mNil)))) mkLst) (gN 3)) (sSeq (sIf (mtAnd (mB (m2 (mMet "list" (mVar 3) (mCons (mCst (.bl true)) mNil) fCntB) (mCst (.int 1)) (Cop.f .eq))) (mtAnd (mT (mCst (.bl true))) (mtNot (mT (mCst (.bl false)))))) (sSeq (sIf (mT (m2 (mVar 3) (mCst (.int 0)) opIx)) (sSeq (sAsg (mA (mCons (mCst (.str "mark")) (mCons (mFld fs "mark") (mNil))) mkTup) (gN 1)) (sNext)) (sSeq (sAsg (mIf (mT (m2 (mVar 3) (mCst (.int 1)) opIx)) (mA (mCons (mCst (.str "id")) (mCons (fun _ _ => .bad) (mNil))) mkTup) (mA (mCons (mCst (.str "name")) (mCons (fun _ _ => .bad) (mNil))) mkTup)) (gN 1)) (sNext))) (sNext)) (sNext)) (sNext))
def th14 : List TlH := [(2, [false, true], [suNo, su14_0_1]), (10, [true, false], [su14_1_0, suNo])]
/-- _law_due(_law_card_here, _law_forms, _law_low, _law_high, _law_who) -/
def N__law_due : List Str := ["_law_card_here", "_law_forms", "_law_low", "_law_high", "_law_who", "_law_end", "_law_found"]
def b__law_due (f__law_led : List PV → GH → Res PV) : EV.Env → GH → Res Fl := sSeq (sAsg (mIf (mB (m2 (mVar 3) (mCst .non) (Cop.f .is))) (mA (mCons (mVar 1) (mNil)) bLen) (mVar 3)) (gN 5)) (sSeq (sIf (mtNot (mB (m3c (mCst (.int 0)) (mVar 2) (mA (mCons (mVar 1) (mNil)) bLen) (Cop.f .le) (Cop.f .le)))) (sSeq (sRet (mA (mCons (mCst (.str "mark")) (mCons (mVar 2) (mNil))) mkTup)) (sNext)) (sNext)) (sSeq (sIf (mtNot (mB (m3c (mVar 2) (mVar 5) (mA (mCons (mVar 1) (mNil)) bLen) (Cop.f .le) (Cop.f .le)))) (sSeq (sRet (mA (mCons (mCst (.str "mark")) (mCons (mVar 5) (mNil))) mkTup)) (sNext)) (sNext)) (sSeq (sAsg (mA (mCons (mVar 0) (mCons (mVar 1) (mCons (mVar 2) (mCons (mVar 5) (mNil))))) f__law_led) (gN 6)) (sSeq (sRet (mIf (mB (m2 (mVar 6) (mCst .non) (Cop.f .is))) (mA (mCons (mCst (.str "lead")) (mCons (mVar 4) (mCons (mVar 2) (mNil)))) mkTup) (mA (mCons (mCst (.str "said")) (mCons (mVar 6) (mNil))) mkTup))) (sNext)))))
/-- law(_law_script) -/
def N_law : List Str := ["_law_script", "_law_tape_here", "_law_lap", "_law_card_here", "_law_shifts_here", "_law_shift_here", "_law_inner", "_law_forms", "_law_low", "_law_kept", "_law_size", "_law_high", "_law_k", "_law_due_here"]
def b_law (f__law_card f__law_draw f__law_due f__law_moved f__law_shift f__law_shifts f__law_tape f_led f_moved : List PV → GH → Res PV) : EV.Env → GH → Res Fl := sSeq (sAsg (mA (mCons (mVar 0) (mNil)) f__law_tape) (gN 1)) (sSeq (sFor (mRng (mCons (mCst (.int 4)) (mNil))) (gN 2) (sSeq (sAsg (mA (mCons (mVar 1) (mCons (mCst (.int 2)) (mCons (mCst (.int 4)) (mNil)))) f__law_card) (gN 3)) (sSeq (sAsg (mComp true (mRng (mCons (mCst (.int 8)) (mNil))) (gN 12) (mYes) (mA (mCons (mVar 1) (mNil)) f__law_shift) [12]) (gN 4)) (sSeq (sAsg (m2 (mVar 4) (mA (mCons (mA (mCons (mCst (.str "move")) (mCons (mCst (.str "a")) (mCons (mCst (.str "a")) (mNil)))) mkTup) (mCons (mA (mCons (mCst (.str "out")) (mCons (mCst (.str "a")) (mCons (mCst (.str "a")) (mNil)))) mkTup) (mCons (mA (mCons (mCst (.str "out")) (mCons (mCst (.str "b")) (mCons (mCst (.str "c")) (mNil)))) mkTup) (mCons (mA (mCons (mCst (.str "into")) (mCons (mCst (.str "c")) (mCons (mCst (.str "c")) (mNil)))) mkTup) (mNil))))) mkLst) opAddO) (gN 4)) (sSeq (sDrop (mMet "list" (mVar 4) (mCons (mA (mCons (mCst (.str "put")) (mCons (mCst (.str "d")) (mCons (mVar 3) (mNil)))) mkTup) (mNil)) fAppend)) (sSeq (sFor (mSeq (mVar 4)) (gN 5) (sSeq (sAsg (mA (mCons (mA (mCons (mVar 3) (mCons (mVar 5) (mNil))) mkTup) (mNil)) bRepr) (gN 9)) (sSeq (sIf (mtOr (mB (m2 (mA (mCons (mA (mCons (mVar 3) (mCons (mVar 5) (mNil))) f_moved) (mNil)) bRepr) (mA (mCons (mA (mCons (mVar 3) (mCons (mVar 5) (mNil))) f__law_moved) (mNil)) bRepr) (Cop.f .ne))) (mB (m2 (mA (mCons (mA (mCons (mVar 3) (mCons (mVar 5) (mNil))) mkTup) (mNil)) bRepr) (mVar 9) (Cop.f .ne)))) (sSeq (sRet (mCst (.bl false))) (sNext)) (sNext)) (sNext)))) (sSeq (sAsg (mA (mCons (mCst (.str "tree")) (mCons (mA (mCons (mA (mCons (mCst (.str "a")) (mCons (mA (mCons (mCst (.str "tree")) (mCons (mA (mCons (mA (mCons (mCst (.str "b")) (mCons (mCst (.int 1)) (mNil))) mkTup) (mCons (mA (mCons (mCst (.str "c")) (mCons (mCst (.bl true)) (mNil))) mkTup) (mNil))) mkTup) (mNil))) mkTup) (mNil))) mkTup) (mCons (mA (mCons (mCst (.str "b")) (mCons (mA (mCons (mCst (.str "row")) (mCons (mA (mNil) mkTup) (mNil))) mkTup) (mNil))) mkTup) (mCons (mA (mCons (mCst (.str "d")) (mCons (mA (mCons (mCst (.str "tree")) (mCons (mA (mNil) mkTup) (mNil))) mkTup) (mNil))) mkTup) (mNil)))) mkTup) (mNil))) mkTup) (gN 6)) (sSeq (sFor (mSeq (mA (mCons (mA (mCons (mCst (.str "out")) (mCons (mCst (.str "a")) (mCons (mCst (.str "c")) (mNil)))) mkTup) (mCons (mA (mCons (mCst (.str "out")) (mCons (mCst (.str "a")) (mCons (mCst (.str "b")) (mNil)))) mkTup) (mCons (mA (mCons (mCst (.str "out")) (mCons (mCst (.str "a")) (mCons (mCst (.str "a")) (mNil)))) mkTup) (mCons (mA (mCons (mCst (.str "out")) (mCons (mCst (.str "b")) (mCons (mCst (.str "c")) (mNil)))) mkTup) (mCons (mA (mCons (mCst (.str "out")) (mCons (mCst (.str "d")) (mCons (mCst (.str "c")) (mNil)))) mkTup) (mNil)))))) mkLst)) (gN 5) (sSeq (sIf (mB (m2 (mA (mCons (mA (mCons (mVar 6) (mCons (mVar 5) (mNil))) f_moved) (mNil)) bRepr) (mA (mCons (mA (mCons (mVar 6) (mCons (mVar 5) (mNil))) f__law_moved) (mNil)) bRepr) (Cop.f .ne))) (sSeq (sRet (mCst (.bl false))) (sNext)) (sNext)) (sNext))) (sSeq (sAsg (mA (mCons (mComp false (mRng (mCons (mA (mCons (mVar 1) (mCons (mCst (.int 5)) (mNil))) f__law_draw) (mNil))) (gN 12) (mYes) (mA (mCons (mVar 1) (mNil)) f__law_shifts) [12]) (mNil)) bTup) (gN 7)) (sSeq (sPar 9 10 (mCons (mA (mCons (mA (mCons (mVar 3) (mCons (mVar 7) (mNil))) mkTup) (mNil)) bRepr) (mCons (mA (mCons (mVar 7) (mNil)) bLen) (mNil)))) (sSeq (sFor (mRng (mCons (m1 (mCst (.int 1)) opNeg) (mCons (m2 (mVar 10) (mCst (.int 2)) opAdd) (mNil)))) (gN 8) (sSeq (sFor (mSeq (mA (mCons (mCst .non) (mCons (m2 (mVar 8) (mCst (.int 1)) opSub) (mCons (mVar 8) (mCons (m2 (mVar 8) (mCst (.int 1)) opAdd) (mCons (mVar 10) (mCons (m2 (mVar 10) (mCst (.int 1)) opAdd) (mNil))))))) mkLst)) (gN 11) (sSeq (sAsg (mA (mCons (mA (mCons (mVar 3) (mCons (mVar 7) (mCons (mVar 8) (mCons (mVar 11) (mCons (mCst (.str "who")) (mNil)))))) f__law_due) (mNil)) bRepr) (gN 13)) (sSeq (sIf (mB (m2 (mA (mCons (mTell 5 1 "said" (pickH 2 (hL th14)) (mA (mKw 2 3 [] [.p 0, .p 1, .k 0, .k 1, .k 2] (mCons (mVar 3) (mCons (mVar 7) (mNil))) (mCons (mVar 8) (mCons (mVar 11) (mCons (mCst (.str "who")) (mNil))))) f_led)) (mNil)) bRepr) (mVar 13) (Cop.f .ne))) (sSeq (sRet (mCst (.bl false))) (sNext)) (sNext)) (sNext)))) (sSeq (sIf (mB (m2 (mA (mCons (mTell 5 1 "said" (pickH 2 (hL th14)) (mA (mKw 2 1 [.non, .str ""] [.p 0, .p 1, .k 0, .d 0, .d 1] (mCons (mVar 3) (mCons (mVar 7) (mNil))) (mCons (mVar 8) (mNil))) f_led)) (mNil)) bRepr) (mA (mCons (mA (mCons (mVar 3) (mCons (mVar 7) (mCons (mVar 8) (mCons (mCst .non) (mCons (mCst (.str "")) (mNil)))))) f__law_due) (mNil)) bRepr) (Cop.f .ne))) (sSeq (sRet (mCst (.bl false))) (sNext)) (sNext)) (sNext)))) (sSeq (sIf (mB (m2 (mA (mCons (mA (mCons (mVar 3) (mCons (mVar 7) (mNil))) mkTup) (mNil)) bRepr) (mVar 9) (Cop.f .ne))) (sSeq (sRet (mCst (.bl false))) (sNext)) (sNext)) (sNext))))))))))))) (sSeq (sRet (mCst (.bl true))) (sNext)))
def step (r : Nat → List PV → GH → Res PV) : Nat → List PV → GH → Res PV
  | 0 => defV 2 G5.N_in_tree (G5.b_in_tree)
  | 1 => defV 3 G7.N_with_in_tree (G7.b_with_in_tree)
  | 2 => defV 3 G7.N_moved_out (G7.b_moved_out (r 0) (r 1))
  | 3 => defV 2 G7.N_moved (G7.b_moved (r 0) (r 2) (r 1))
  | 4 => defV 5 G7.N_led (G7.b_led (r 99) (r 3))
  | 5 => defV 1 G3.N__law_tape (G3.b__law_tape)
  | 6 => defV 2 G3.N__law_draw (G3.b__law_draw)
  | 7 => defV 2 G3.N__law_grain (G3.b__law_grain (r 8) (r 6) (r 7))
  | 8 => defV 3 G3.N__law_card (G3.b__law_card (r 6) (r 7))
  | 9 => defV 1 G7.N__law_is_plain (G7.b__law_is_plain)
  | 10 => defV 2 G7.N__law_moved (G7.b__law_moved (r 9))
  | 11 => defV 4 G7.N__law_led (G7.b__law_led (r 10))
  | 12 => defV 1 G3.N__law_shift (G3.b__law_shift (r 6) (r 7))
  | 13 => defV 1 G7.N__law_shifts (G7.b__law_shifts (r 6) (r 12))
  | 14 => fun _ _ => .bad
  | 15 => defV 5 N__law_due (b__law_due (r 11))
  | 16 => defV 1 N_law (b_law (r 8) (r 6) (r 15) (r 10) (r 12) (r 13) (r 5) (r 4) (r 3))
  | 97 => fun _ G => .ok .non G
  | 98 => r 97
  | 99 => r 98
  | _ => fun _ _ => .bad
def prog : Nat → Nat → List PV → GH → Res PV
  | 0 => fun _ _ _ => .bad
  | n + 1 => step (prog n)
def top (i : Nat) : Stmt := PySem.Challenge.pw_pathfolios_k44_moved_and_led_told.main.body.getD i (.Pass ⟨0, 0, 0, 0⟩)
abbrev FnP (K : PySem.W.Frag) (x : Str) (st : Stmt) (f : Addr) (fd : FuncData) : Prop := FunD K x x (defArgs st) (defBody st) (defScope st) [] [] f fd
def B4 (K : PySem.W.Frag) (f : Addr) (fd : FuncData) : Prop := FunD K "led" "led" (defArgs (top 22)) (defBody (top 22)) (defScope (top 22)) [] [("upto", .non), ("holder", .str "")] f fd
structure Free (K : PySem.W.Frag) (mg : Str → Option Value) : Prop where
  f_none : True
  f_LookupError : mg "LookupError" = none
  f_ValueError : mg "ValueError" = none
  f_dict : mg "dict" = none
  f_isinstance : mg "isinstance" = none
  f_len : mg "len" = none
  f_range : mg "range" = none
  f_repr : mg "repr" = none
  f_sorted : mg "sorted" = none
  f_tuple : mg "tuple" = none
structure Xs (P : Program) (w : World) (K : PySem.W.Frag) (mg : Str → Option Value) (base : Heap) (F : Fx) : Prop where
  x_none : True
  k_NoMark : XMkL P w K mg base (F.ca 0) ["mark"]
  m_NoMark : mg "NoMark" = some (.ref (F.ca 0))
  k_NoLead : XMk P w K mg base (F.ca 1) ["holder", "edition"]
  m_NoLead : mg "NoLead" = some (.ref (F.ca 1))
  exm_NoMark_FolioError : PySem.W.exmOne K (.ref (F.ca 0)) (.ref (F.ca 2)) = some false
  e_NoMark : L2.ExcC K (F.ca 0) ∧ XfC K (F.ca 0)
  exm_NoLead_FolioError : PySem.W.exmOne K (.ref (F.ca 1)) (.ref (F.ca 2)) = some true
  e_NoLead : L2.ExcC K (F.ca 1) ∧ XfC K (F.ca 1)
  kit_NoLead_NoPaper : PySem.W.kitOne K (.ref (F.ca 1)) (.ref (F.ca 3)) = some false
  m_NoPaper : mg "NoPaper" = some (.ref (F.ca 3))
  kit_NoLead_NoKey : PySem.W.kitOne K (.ref (F.ca 1)) (.ref (F.ca 4)) = some false
  m_NoKey : mg "NoKey" = some (.ref (F.ca 4))
  kit_NoLead_NoLead : PySem.W.kitOne K (.ref (F.ca 1)) (.ref (F.ca 1)) = some true
  kitA_NoLead_NoChange_NoTurn_Behind_NoText_NoRow_LackError : PySem.W.kitAny K (.ref (F.ca 1)) [(.ref (F.ca 5)), (.ref (F.ca 6)), (.ref (F.ca 7)), (.ref (F.ca 8)), (.ref (F.ca 9)), (.ref (F.ca 10))] = some false
  m_LackError : mg "LackError" = some (.ref (F.ca 10))
  m_NoRow : mg "NoRow" = some (.ref (F.ca 9))
  m_NoText : mg "NoText" = some (.ref (F.ca 8))
  m_Behind : mg "Behind" = some (.ref (F.ca 7))
  m_NoTurn : mg "NoTurn" = some (.ref (F.ca 6))
  m_NoChange : mg "NoChange" = some (.ref (F.ca 5))
  kitT_NoLead_ValueError : PySem.W.kitOne K (.ref (F.ca 1)) (.type "ValueError") = some true
  no_NoLead_holder : PySem.W.findIn K (.ref (F.ca 1)) "holder" = some none
  no_NoLead_edition : PySem.W.findIn K (.ref (F.ca 1)) "edition" = some none
  m_FolioError : mg "FolioError" = some (.ref (F.ca 2))
  exm_NoMark_LackError : PySem.W.exmOne K (.ref (F.ca 0)) (.ref (F.ca 10)) = some true
  kit_NoMark_NoMark : PySem.W.kitOne K (.ref (F.ca 0)) (.ref (F.ca 0)) = some true
  kit_NoMark_NoId : PySem.W.kitOne K (.ref (F.ca 0)) (.ref (F.ca 11)) = some false
  m_NoId : mg "NoId" = some (.ref (F.ca 11))
  kit_NoMark_NoName : PySem.W.kitOne K (.ref (F.ca 0)) (.ref (F.ca 12)) = some false
  m_NoName : mg "NoName" = some (.ref (F.ca 12))
  kitT_NoMark_LookupError : PySem.W.kitOne K (.ref (F.ca 0)) (.type "LookupError") = some true
  kitA_NoMark_NoHouse_NoStep : PySem.W.kitAny K (.ref (F.ca 0)) [(.ref (F.ca 13)), (.ref (F.ca 14))] = some false
  m_NoStep : mg "NoStep" = some (.ref (F.ca 14))
  m_NoHouse : mg "NoHouse" = some (.ref (F.ca 13))
  no_NoMark_mark : PySem.W.findIn K (.ref (F.ca 0)) "mark" = some none
  exm_NoLead_LackError : PySem.W.exmOne K (.ref (F.ca 1)) (.ref (F.ca 10)) = some false
structure AllC (P : Program) (w : World) (K : PySem.W.Frag) (mg : Str → Option Value) (base : Heap) (F : Fx) (n : Nat) (r : Nat → List PV → GH → Res PV) : Prop where
  c0 : CalleeP P w K mg base F n "in_tree" 2 (r 0)
  c1 : CalleeP P w K mg base F n "with_in_tree" 3 (r 1)
  c2 : CalleeP P w K mg base F n "moved_out" 3 (r 2)
  c3 : CalleeP P w K mg base F n "moved" 2 (r 3)
  c4 : CalleeK P w K mg base F n "led" ["document", "shapes", "since", "upto", "holder"] (B4 K) (r 4)
  c5 : CalleeP P w K mg base F n "_law_tape" 1 (r 5)
  c6 : CalleeP P w K mg base F n "_law_draw" 2 (r 6)
  c7 : CalleeP P w K mg base F n "_law_grain" 2 (r 7)
  c8 : CalleeP P w K mg base F n "_law_card" 3 (r 8)
  c9 : CalleeP P w K mg base F n "_law_is_plain" 1 (r 9)
  c10 : CalleeP P w K mg base F n "_law_moved" 2 (r 10)
  c11 : CalleeP P w K mg base F n "_law_led" 4 (r 11)
  c12 : CalleeP P w K mg base F n "_law_shift" 1 (r 12)
  c13 : CalleeP P w K mg base F n "_law_shifts" 1 (r 13)
  c14 : CalleeP P w K mg base F n "_law_refused" 1 (r 14)
  c15 : CalleeP P w K mg base F n "_law_due" 5 (r 15)
  c16 : CalleeP P w K mg base F n "law" 1 (r 16)
  gt : gateB (r 99 [] []) = true → 3 ≤ n
structure Defs (K : PySem.W.Frag) (mg : Str → Option Value) (base : Heap) (F : Fx) : Prop where
  d0 : ∃ (f : Addr) (fd : FuncData), FnP K "in_tree" (top 17) f fd ∧ mg "in_tree" = some (.ref f)
  d1 : ∃ (f : Addr) (fd : FuncData), FnP K "with_in_tree" (top 18) f fd ∧ mg "with_in_tree" = some (.ref f) ∧ LamD K mg base F f "with_in_tree"
  d2 : ∃ (f : Addr) (fd : FuncData), FnP K "moved_out" (top 19) f fd ∧ mg "moved_out" = some (.ref f)
  d3 : ∃ (f : Addr) (fd : FuncData), FnP K "moved" (top 20) f fd ∧ mg "moved" = some (.ref f)
  d4 : ∃ (f : Addr) (fd : FuncData), B4 K f fd ∧ mg "led" = some (.ref f)
  d5 : ∃ (f : Addr) (fd : FuncData), FnP K "_law_tape" (top 24) f fd ∧ mg "_law_tape" = some (.ref f)
  d6 : ∃ (f : Addr) (fd : FuncData), FnP K "_law_draw" (top 25) f fd ∧ mg "_law_draw" = some (.ref f)
  d7 : ∃ (f : Addr) (fd : FuncData), FnP K "_law_grain" (top 26) f fd ∧ mg "_law_grain" = some (.ref f)
  d8 : ∃ (f : Addr) (fd : FuncData), FnP K "_law_card" (top 27) f fd ∧ mg "_law_card" = some (.ref f)
  d9 : ∃ (f : Addr) (fd : FuncData), FnP K "_law_is_plain" (top 28) f fd ∧ mg "_law_is_plain" = some (.ref f)
  d10 : ∃ (f : Addr) (fd : FuncData), FnP K "_law_moved" (top 29) f fd ∧ mg "_law_moved" = some (.ref f)
  d11 : ∃ (f : Addr) (fd : FuncData), FnP K "_law_led" (top 30) f fd ∧ mg "_law_led" = some (.ref f)
  d12 : ∃ (f : Addr) (fd : FuncData), FnP K "_law_shift" (top 31) f fd ∧ mg "_law_shift" = some (.ref f)
  d13 : ∃ (f : Addr) (fd : FuncData), FnP K "_law_shifts" (top 32) f fd ∧ mg "_law_shifts" = some (.ref f)
  d14 : ∃ (f : Addr) (fd : FuncData), FnP K "_law_refused" (top 33) f fd ∧ mg "_law_refused" = some (.ref f)
  d15 : ∃ (f : Addr) (fd : FuncData), FnP K "_law_due" (top 34) f fd ∧ mg "_law_due" = some (.ref f)
  d16 : ∃ (f : Addr) (fd : FuncData), FnP K "law" (top 35) f fd ∧ mg "law" = some (.ref f) ∧ LamD K mg base F f "law"
section
variable {P : Program} {w : World} {K : PySem.W.Frag} {mg : Str → Option Value} {base : Heap} {F : Fx} {n : Nat} {r : Nat → List PV → GH → Res PV} {f : Addr} {fd : FuncData}
theorem sc0 : FnScope G5.N_in_tree ["tree", "field"] (defScope (top 17)) := ⟨rfl, rfl, rfl, by decide +kernel, rfl, by decide +kernel, by decide +kernel⟩
theorem bi0 (Fd : FnP K "in_tree" (top 17) f fd) : Binds K fd ["tree", "field"] [] := Fd.bindsN fun _ _ _ _ _ _ us hl => match us, hl with | [_, _], _ => rfl
theorem AllC.mono (c : AllC P w K mg base F n r) {k : Nat} (h : n ≤ k) : AllC P w K mg base F k r := ⟨c.c0.mono h, c.c1.mono h, c.c2.mono h, c.c3.mono h, c.c4.mono h, c.c5.mono h, c.c6.mono h, c.c7.mono h, c.c8.mono h, c.c9.mono h, c.c10.mono h, c.c11.mono h, c.c12.mono h, c.c13.mono h, c.c14.mono h, c.c15.mono h, c.c16.mono h, fun z => Nat.le_trans (c.gt z) h⟩
theorem ok0 (hK : F.K = K) (fr : Free K mg) (xs : Xs P w K mg base F) (DD : Defs K mg base F) (c0 : AllC P w K mg base F n r) (Fd : FnP K "in_tree" (top 17) f fd) (hm : mg "in_tree" = some (.ref f)) : CalleeP P w K mg base F (n + 3) "in_tree" 2 (step r 0) :=
  have c := c0.mono (k := n + 2) (by omega); def_okX (ps := ["tree", "field"]) (m := (G5.b_in_tree)) hK Fd sc0 hm (bi0 Fd) fun cdv A outer s H E g po hcd tk => ev_scons (gret (gmet g PySem.F.plainAttrs_dict PySem.F.slot_dict_get PySem.F.type_dict_get (fGet_ok g.un1) (gbty (bDict_ok g.K g.calm) fr.f_dict (gcons (gix g (by exact fun _ _ => rfl) (gvar 0) (ev_int)) (ev_nil))) (gcons (gvar 1) (ev_nil)))) (ev_snil)
theorem sc1 : FnScope G7.N_with_in_tree ["tree", "field", "value"] (defScope (top 18)) := ⟨rfl, rfl, rfl, by decide +kernel, rfl, by decide +kernel, by decide +kernel⟩
theorem bi1 (Fd : FnP K "with_in_tree" (top 18) f fd) : Binds K fd ["tree", "field", "value"] [] := Fd.bindsN fun _ _ _ _ _ _ us hl => match us, hl with | [_, _, _], _ => rfl
theorem ok1 (hK : F.K = K) (fr : Free K mg) (xs : Xs P w K mg base F) (DD : Defs K mg base F) (c0 : AllC P w K mg base F n r) (Fd : FnP K "with_in_tree" (top 18) f fd) (hm : mg "with_in_tree" = some (.ref f)) (lam : LamD K mg base F f "with_in_tree") : CalleeP P w K mg base F (n + 3) "with_in_tree" 3 (step r 1) :=
  have c := c0.mono (k := n + 2) (by omega); def_okX (ps := ["tree", "field", "value"]) (m := (G7.b_with_in_tree)) hK Fd sc1 hm (bi1 Fd) fun cdv A outer s H E g po hcd tk => have lk := lamK_of lam hcd; ev_scons (gasgC g true 3 [("pair", 4)] (gseq g (gix g (by exact fun _ _ => rfl) (gvar 0) (ev_int))) (fun _ _ _ _ _ g1 => gtn g1 4) (fun _ _ _ _ _ g1 => ev_if1 (gcmpT g1 .ne (gix g1 (by exact fun _ _ => rfl) (gvar 4) (ev_int)) (gvar 1))) (fun _ _ _ _ _ g1 => gvar 4)) (ev_scons (ev_sif (gcmpT g .isnot (gvar 2) (ev_non)) (ev_scons (gexp (gmet g PySem.F.plainAttrs_list PySem.F.slot_list_append PySem.F.type_list_append fAppend_ok (gvar 3) (gcons (ev_tup (gcons (gvar 1) (gcons (gvar 2) (ev_nil)))) (ev_nil)))) (ev_snil)) (ev_snil)) (ev_scons (gret (ev_tup (gcons (ev_str) (gcons (gbty (bTup_ok g.K) fr.f_tuple (gcons (gsort0 g lk false fr.f_sorted (gvar 3)) (ev_nil))) (ev_nil))))) (ev_snil)))
theorem sc2 : FnScope G7.N_moved_out ["document", "field", "other"] (defScope (top 19)) := ⟨rfl, rfl, rfl, by decide +kernel, rfl, by decide +kernel, by decide +kernel⟩
theorem bi2 (Fd : FnP K "moved_out" (top 19) f fd) : Binds K fd ["document", "field", "other"] [] := Fd.bindsN fun _ _ _ _ _ _ us hl => match us, hl with | [_, _, _], _ => rfl
theorem ok2 (hK : F.K = K) (fr : Free K mg) (xs : Xs P w K mg base F) (DD : Defs K mg base F) (c0 : AllC P w K mg base F n r) (Fd : FnP K "moved_out" (top 19) f fd) (hm : mg "moved_out" = some (.ref f)) : CalleeP P w K mg base F (n + 3) "moved_out" 3 (step r 2) :=
  have c := c0.mono (k := n + 2) (by omega); def_okX (ps := ["document", "field", "other"]) (m := (G7.b_moved_out (r 0) (r 1))) hK Fd sc2 hm (bi2 Fd) fun cdv A outer s H E g po hcd tk => ev_scons (gasg (gown g c.c0 (gcons (gvar 0) (gcons (gvar 1) (ev_nil)))) (gtn g 3)) (ev_scons (ev_sif (L2.PW.pt (ev_tor (ev_tnot (gtru g (gisi g "tuple" fr.f_isinstance fr.f_tuple (gvar 3)))) (ev_tor1 (gcmpT g .ne (gix g (by exact fun _ _ => rfl) (gvar 3) (ev_int)) (ev_str))))) (ev_scons (gret (ev_non)) (ev_snil)) (ev_snil)) (ev_scons (gasg (gown g c.c0 (gcons (gvar 3) (gcons (gvar 2) (ev_nil)))) (gtn g 4)) (ev_scons (ev_sif (gcmpT g .is (gvar 4) (ev_non)) (ev_scons (gret (gvar 0)) (ev_snil)) (ev_snil)) (ev_scons (ev_sif (gcmpT g .isnot (gown g c.c0 (gcons (gvar 0) (gcons (gvar 2) (ev_nil)))) (ev_non)) (ev_scons (gret (ev_non)) (ev_snil)) (ev_snil)) (ev_scons (gret (gown g c.c1 (gcons (gown g c.c1 (gcons (gvar 0) (gcons (gvar 1) (gcons (gown g c.c1 (gcons (gvar 3) (gcons (gvar 2) (gcons (ev_non) (ev_nil))))) (ev_nil))))) (gcons (gvar 2) (gcons (gvar 4) (ev_nil)))))) (ev_snil))))))
theorem sc3 : FnScope G7.N_moved ["document", "move"] (defScope (top 20)) := ⟨rfl, rfl, rfl, by decide +kernel, rfl, by decide +kernel, by decide +kernel⟩
theorem bi3 (Fd : FnP K "moved" (top 20) f fd) : Binds K fd ["document", "move"] [] := Fd.bindsN fun _ _ _ _ _ _ us hl => match us, hl with | [_, _], _ => rfl
theorem ok3 (hK : F.K = K) (fr : Free K mg) (xs : Xs P w K mg base F) (DD : Defs K mg base F) (c0 : AllC P w K mg base F n r) (Fd : FnP K "moved" (top 20) f fd) (hm : mg "moved" = some (.ref f)) : CalleeP P w K mg base F (n + 3) "moved" 2 (step r 3) :=
  have c := c0.mono (k := n + 2) (by omega); def_okX (ps := ["document", "move"]) (m := (G7.b_moved (r 0) (r 2) (r 1))) hK Fd sc3 hm (bi3 Fd) fun cdv A outer s H E g po hcd tk => ev_scons (gasg (gvar 1) (gts g 2 (gtc (gtn g 4) (gtc (gtn g 5) (gtl (gtn g 6)))))) (ev_scons (gasg (gown g c.c0 (gcons (gvar 0) (gcons (gvar 5) (ev_nil)))) (gtn g 2)) (ev_scons (ev_sif (gcmpT g .eq (gvar 4) (ev_str)) (ev_scons (gret (ev_if (gcmpT g .isnot (gvar 2) (ev_non)) (gvar 0) (gown g c.c1 (gcons (gvar 0) (gcons (gvar 5) (gcons (gix g (by exact fun _ _ => rfl) (gvar 6) (ev_int)) (ev_nil))))))) (ev_snil)) (ev_snil)) (ev_scons (ev_sif (gcmpT g .is (gvar 2) (ev_non)) (ev_scons (gret (gvar 0)) (ev_snil)) (ev_snil)) (ev_scons (ev_sif (gcmpT g .eq (gvar 4) (ev_str)) (ev_scons (gret (gown g c.c1 (gcons (gvar 0) (gcons (gvar 5) (gcons (ev_non) (ev_nil)))))) (ev_snil)) (ev_snil)) (ev_scons (gasg (gix g (by exact fun _ _ => rfl) (gvar 6) (ev_int)) (gtn g 3)) (ev_scons (ev_sif (gcmpT g .eq (gvar 4) (ev_str)) (ev_scons (gret (gown g c.c1 (gcons (gvar 0) (gcons (gvar 5) (gcons (ev_tup (gcons (ev_str) (gcons (ev_tup (gcons (ev_tup (gcons (gvar 3) (gcons (gvar 2) (ev_nil)))) (ev_nil))) (ev_nil)))) (ev_nil)))))) (ev_snil)) (ev_snil)) (ev_scons (ev_sif (gcmpT g .eq (gvar 4) (ev_str)) (ev_scons (gret (gown g c.c2 (gcons (gvar 0) (gcons (gvar 5) (gcons (gvar 3) (ev_nil)))))) (ev_snil)) (ev_snil)) (ev_scons (ev_sif (gcmpT g .isnot (gown g c.c0 (gcons (gvar 0) (gcons (gvar 3) (ev_nil)))) (ev_non)) (ev_scons (gret (ev_non)) (ev_snil)) (ev_snil)) (ev_scons (gret (gown g c.c1 (gcons (gown g c.c1 (gcons (gvar 0) (gcons (gvar 5) (gcons (ev_non) (ev_nil))))) (gcons (gvar 3) (gcons (gvar 2) (ev_nil)))))) (ev_snil))))))))))
theorem sc4 : FnScope G7.N_led ["document", "shapes", "since", "upto", "holder"] (defScope (top 22)) := ⟨rfl, rfl, rfl, by decide +kernel, rfl, by decide +kernel, by decide +kernel⟩
theorem kw4_0 (Fd : B4 K f fd) : KShape K fd ["document", "shapes", "since", "upto", "holder"] 2 ["since", "upto", "holder"] [] [.p 0, .p 1, .k 0, .k 1, .k 2] :=
  kshapeN Fd 2 ["since", "upto", "holder"] [.p 0, .p 1, .k 0, .k 1, .k 2] fun _ _ _ _ _ _ us ws h1 h2 => match us, ws, h1, h2 with | [_, _], [_, _, _], _, _ => rfl
theorem kw4_1 (Fd : B4 K f fd) : KShape K fd ["document", "shapes", "since", "upto", "holder"] 2 ["since"] [.non, .str ""] [.p 0, .p 1, .k 0, .d 0, .d 1] :=
  kshape Fd 2 ["since"] [("upto", .non), ("holder", .str "")] [.non, .str ""] [.p 0, .p 1, .k 0, .d 0, .d 1] (by simp) (by simp) (.cons .non (.cons (.str _) .nil)) fun D _ _ _ _ _ us mv ws h1 h2 h3 => match us, mv, ws, h1, h2, h3 with | [_, _], [_, _], [_], _, _, _ => ⟨_, _, _, _, _, _, rfl, rfl, ⟨_, _, _, _, _, _, rfl, rfl, rfl⟩⟩
theorem ok4 (hK : F.K = K) (fr : Free K mg) (xs : Xs P w K mg base F) (DD : Defs K mg base F) (c0 : AllC P w K mg base F n r) (Fd : B4 K f fd) (hm : mg "led" = some (.ref f)) : CalleeK P w K mg base F (n + 3) "led" ["document", "shapes", "since", "upto", "holder"] (B4 K) (step r 4) :=
  have c := c0.mono (k := n + 2) (by omega); def_okK (ps := ["document", "shapes", "since", "upto", "holder"]) (m := (G7.b_led (r 99) (r 3))) hK Fd sc4 hm Fd fun cdv A outer s H E g po hcd tk => ev_scons (gasg (gblt (bLen_ok g.K) fr.f_len (gcons (gvar 1) (ev_nil))) (gtn g 5)) (ev_scons (ev_sif (ev_tnot (gchnT g .le .le (ev_int) (gvar 2) (gvar 5))) (ev_scons (graiseL g tk c.gt xs.k_NoMark xs.m_NoMark (gcons (gvar 2) (ev_nil))) (ev_snil)) (ev_snil)) (ev_scons (ev_sif (L2.PW.pt (ev_tand (gcmpT g .isnot (gvar 3) (ev_non)) (ev_tand1 (ev_tnot (gchnT g .le .le (gvar 2) (gvar 3) (gvar 5)))))) (ev_scons (graiseL g tk c.gt xs.k_NoMark xs.m_NoMark (gcons (gvar 3) (ev_nil))) (ev_snil)) (ev_snil)) (ev_scons (gfor g po (gseq g (gsl g (gvar 1) (ev_poS (gvar 2)) (ev_poS (ev_if (gcmpT g .is (gvar 3) (ev_non)) (gvar 5) (gvar 3))))) (gtn g 6) (ev_scons (gfor g po (gseq g (gvar 6)) (gtn g 7) (ev_scons (gasg (gown g c.c3 (gcons (gvar 0) (gcons (gvar 7) (ev_nil)))) (gtn g 0)) (ev_scons (ev_sif (gcmpT g .is (gvar 0) (ev_non)) (ev_scons (graise g tk c.gt xs.k_NoLead xs.m_NoLead (gcons (gvar 4) (gcons (gvar 2) (ev_nil)))) (ev_snil)) (ev_snil)) (ev_snil)))) (ev_snil))) (ev_scons (gret (gvar 0)) (ev_snil)))))
theorem sc5 : FnScope G3.N__law_tape ["_law_script"] (defScope (top 24)) := ⟨rfl, rfl, rfl, by decide +kernel, rfl, by decide +kernel, by decide +kernel⟩
theorem bi5 (Fd : FnP K "_law_tape" (top 24) f fd) : Binds K fd ["_law_script"] [] := Fd.bindsN fun _ _ _ _ _ _ us hl => match us, hl with | [_], _ => rfl
theorem ok5 (hK : F.K = K) (fr : Free K mg) (xs : Xs P w K mg base F) (DD : Defs K mg base F) (c0 : AllC P w K mg base F n r) (Fd : FnP K "_law_tape" (top 24) f fd) (hm : mg "_law_tape" = some (.ref f)) : CalleeP P w K mg base F (n + 3) "_law_tape" 1 (step r 5) :=
  have c := c0.mono (k := n + 2) (by omega); def_okX (ps := ["_law_script"]) (m := (G3.b__law_tape)) hK Fd sc5 hm (bi5 Fd) fun cdv A outer s H E g po hcd tk => ev_scons (gret (ev_lso (gcons (gsl g (gvar 0) (ev_poN) (ev_poS (ev_int))) (gcons (ev_int) (gcons (ev_int) (gcons (ev_int) (ev_nil))))))) (ev_snil)
theorem sc6 : FnScope G3.N__law_draw ["_law_tape_here", "_law_size"] (defScope (top 25)) := ⟨rfl, rfl, rfl, by decide +kernel, rfl, by decide +kernel, by decide +kernel⟩
theorem bi6 (Fd : FnP K "_law_draw" (top 25) f fd) : Binds K fd ["_law_tape_here", "_law_size"] [] := Fd.bindsN fun _ _ _ _ _ _ us hl => match us, hl with | [_, _], _ => rfl
theorem ok6 (hK : F.K = K) (fr : Free K mg) (xs : Xs P w K mg base F) (DD : Defs K mg base F) (c0 : AllC P w K mg base F n r) (Fd : FnP K "_law_draw" (top 25) f fd) (hm : mg "_law_draw" = some (.ref f)) : CalleeP P w K mg base F (n + 3) "_law_draw" 2 (step r 6) :=
  have c := c0.mono (k := n + 2) (by omega); def_okX (ps := ["_law_tape_here", "_law_size"]) (m := (G3.b__law_draw)) hK Fd sc6 hm (bi6 Fd) fun cdv A outer s H E g po hcd tk => ev_scons (gasg (gadd g (gix g (by exact fun _ _ => rfl) (gvar 0) (ev_int)) (ev_int)) (gtn g 2)) (ev_scons (gset g fSetL_ok (gvar 2) (gvar 0) (ev_int)) (ev_scons (ev_sif (gcmpT g .gt (gix g (by exact fun _ _ => rfl) (gvar 0) (ev_int)) (ev_int)) (ev_scons (gasg (gmod g (gix g (by exact fun _ _ => rfl) (gvar 0) (ev_int)) (gvar 1)) (gtn g 6)) (ev_scons (gset g fSetL_ok (gdiv g (gix g (by exact fun _ _ => rfl) (gvar 0) (ev_int)) (gvar 1)) (gvar 0) (ev_int)) (ev_scons (gret (gvar 6)) (ev_snil)))) (ev_snil)) (ev_scons (gasg (gix g (by exact fun _ _ => rfl) (gvar 0) (ev_int)) (gtn g 3)) (ev_scons (gset g fSetL_ok (gadd g (gvar 3) (ev_int)) (gvar 0) (ev_int)) (ev_scons (gasg (ev_if (gcmpT g .ne (gix g (by exact fun _ _ => rfl) (gvar 0) (ev_int)) (ev_lst (ev_nil))) (gix g (by exact fun _ _ => rfl) (gix g (by exact fun _ _ => rfl) (gvar 0) (ev_int)) (gmod g (gvar 3) (gblt (bLen_ok g.K) fr.f_len (gcons (gix g (by exact fun _ _ => rfl) (gvar 0) (ev_int)) (ev_nil))))) (ev_int)) (gtn g 4)) (ev_scons (ev_sif (L2.PW.pt (ev_tand (gcmpT g .ge (gvar 4) (gpow g (ev_int) (ev_int))) (ev_tand1 (gcmpT g .lt (gvar 3) (gblt (bLen_ok g.K) fr.f_len (gcons (gix g (by exact fun _ _ => rfl) (gvar 0) (ev_int)) (ev_nil))))))) (ev_scons (gset g fSetL_ok (gdiv g (gvar 4) (gvar 1)) (gvar 0) (ev_int)) (ev_scons (gret (gmod g (gvar 4) (gvar 1))) (ev_snil))) (ev_snil)) (ev_scons (gasg (gmod g (gpow g (gadd g (gadd g (gmod g (gvar 4) (ev_int)) (gmul g (ev_int) (gvar 2))) (ev_int)) (ev_int)) (ev_int)) (gtn g 5)) (ev_scons (gret (gmod g (gdiv g (gmod g (gpow g (gadd g (gvar 5) (gmul g (ev_int) (gvar 2))) (ev_int)) (ev_int)) (ev_int)) (gvar 1))) (ev_snil)))))))))
theorem sc7 : FnScope G3.N__law_grain ["_law_tape_here", "_law_deep"] (defScope (top 26)) := ⟨rfl, rfl, rfl, by decide +kernel, rfl, by decide +kernel, by decide +kernel⟩
theorem bi7 (Fd : FnP K "_law_grain" (top 26) f fd) : Binds K fd ["_law_tape_here", "_law_deep"] [] := Fd.bindsN fun _ _ _ _ _ _ us hl => match us, hl with | [_, _], _ => rfl
theorem ok7 (hK : F.K = K) (fr : Free K mg) (xs : Xs P w K mg base F) (DD : Defs K mg base F) (c0 : AllC P w K mg base F n r) (Fd : FnP K "_law_grain" (top 26) f fd) (hm : mg "_law_grain" = some (.ref f)) : CalleeP P w K mg base F (n + 3) "_law_grain" 2 (step r 7) :=
  have c := c0.mono (k := n + 2) (by omega); def_okX (ps := ["_law_tape_here", "_law_deep"]) (m := (G3.b__law_grain (r 8) (r 6) (r 7))) hK Fd sc7 hm (bi7 Fd) fun cdv A outer s H E g po hcd tk => ev_scons (gasg (ev_if (gcmpT g .gt (gvar 1) (ev_int)) (gown g c.c6 (gcons (gvar 0) (gcons (ev_int) (ev_nil)))) (ev_int)) (gtn g 2)) (ev_scons (ev_sif (gcmpT g .lt (gvar 2) (ev_int)) (ev_scons (gret (gix g (by exact fun _ _ => rfl) (ev_lst (gcons (gown g c.c6 (gcons (gvar 0) (gcons (ev_int) (ev_nil)))) (gcons (gcmp g .eq (gown g c.c6 (gcons (gvar 0) (gcons (ev_int) (ev_nil)))) (ev_int)) (gcons (gix g (by exact fun _ _ => rfl) (ev_lst (gcons (ev_str) (gcons (ev_str) (gcons (ev_str) (ev_nil))))) (gown g c.c6 (gcons (gvar 0) (gcons (ev_int) (ev_nil))))) (gcons (ev_int) (ev_nil)))))) (gown g c.c6 (gcons (gvar 0) (gcons (ev_int) (ev_nil)))))) (ev_snil)) (ev_snil)) (ev_scons (ev_sif (gcmpT g .eq (gvar 2) (ev_int)) (ev_scons (gret (ev_tup (gcons (ev_str) (gcons (gbty (bTup_ok g.K) fr.f_tuple (gcons (gcomp g false [("_law_k", 3)] (grng1 g fr.f_range (gown g c.c6 (gcons (gvar 0) (gcons (ev_int) (ev_nil))))) (fun _ _ _ _ _ g1 => gtn g1 3) (fun _ _ _ _ _ g1 => ev_yes) (fun _ _ _ _ _ g1 => gown g1 c.c7 (gcons (gvar 0) (gcons (gsub g1 (gvar 1) (ev_int)) (ev_nil))))) (ev_nil))) (ev_nil))))) (ev_snil)) (ev_snil)) (ev_scons (gret (gown g c.c8 (gcons (gvar 0) (gcons (gsub g (gvar 1) (ev_int)) (gcons (ev_int) (ev_nil)))))) (ev_snil))))
theorem sc8 : FnScope G3.N__law_card ["_law_tape_here", "_law_deep", "_law_top"] (defScope (top 27)) := ⟨rfl, rfl, rfl, by decide +kernel, rfl, by decide +kernel, by decide +kernel⟩
theorem bi8 (Fd : FnP K "_law_card" (top 27) f fd) : Binds K fd ["_law_tape_here", "_law_deep", "_law_top"] [] := Fd.bindsN fun _ _ _ _ _ _ us hl => match us, hl with | [_, _, _], _ => rfl
theorem ok8 (hK : F.K = K) (fr : Free K mg) (xs : Xs P w K mg base F) (DD : Defs K mg base F) (c0 : AllC P w K mg base F n r) (Fd : FnP K "_law_card" (top 27) f fd) (hm : mg "_law_card" = some (.ref f)) : CalleeP P w K mg base F (n + 3) "_law_card" 3 (step r 8) :=
  have c := c0.mono (k := n + 2) (by omega); def_okX (ps := ["_law_tape_here", "_law_deep", "_law_top"]) (m := (G3.b__law_card (r 6) (r 7))) hK Fd sc8 hm (bi8 Fd) fun cdv A outer s H E g po hcd tk => ev_scons (gasg (gdnew) (gtn g 3)) (ev_scons (gfor g po (grng1 g fr.f_range (gown g c.c6 (gcons (gvar 0) (gcons (gadd g (gvar 2) (ev_int)) (ev_nil))))) (gtn g 4) (ev_scons (gset g (fSetA_ok g.un1) (gown g c.c7 (gcons (gvar 0) (gcons (gvar 1) (ev_nil)))) (gvar 3) (gix g (by exact fun _ _ => rfl) (ev_str) (gown g c.c6 (gcons (gvar 0) (gcons (ev_int) (ev_nil)))))) (ev_snil))) (ev_scons (gret (ev_tup (gcons (ev_str) (gcons (gbty (bTup_ok g.K) fr.f_tuple (gcons (gsortItems g false fr.f_sorted (gvar 3)) (ev_nil))) (ev_nil))))) (ev_snil)))
theorem sc9 : FnScope G7.N__law_is_plain ["_law_grain_here"] (defScope (top 28)) := ⟨rfl, rfl, rfl, by decide +kernel, rfl, by decide +kernel, by decide +kernel⟩
theorem bi9 (Fd : FnP K "_law_is_plain" (top 28) f fd) : Binds K fd ["_law_grain_here"] [] := Fd.bindsN fun _ _ _ _ _ _ us hl => match us, hl with | [_], _ => rfl
theorem ok9 (hK : F.K = K) (fr : Free K mg) (xs : Xs P w K mg base F) (DD : Defs K mg base F) (c0 : AllC P w K mg base F n r) (Fd : FnP K "_law_is_plain" (top 28) f fd) (hm : mg "_law_is_plain" = some (.ref f)) : CalleeP P w K mg base F (n + 3) "_law_is_plain" 1 (step r 9) :=
  have c := c0.mono (k := n + 2) (by omega); def_okX (ps := ["_law_grain_here"]) (m := (G7.b__law_is_plain)) hK Fd sc9 hm (bi9 Fd) fun cdv A outer s H E g po hcd tk => ev_scons (gret (gnot g (gisi g "tuple" fr.f_isinstance fr.f_tuple (gvar 0)))) (ev_snil)
theorem sc10 : FnScope G7.N__law_moved ["_law_card_here", "_law_shift_here"] (defScope (top 29)) := ⟨rfl, rfl, rfl, by decide +kernel, rfl, by decide +kernel, by decide +kernel⟩
theorem bi10 (Fd : FnP K "_law_moved" (top 29) f fd) : Binds K fd ["_law_card_here", "_law_shift_here"] [] := Fd.bindsN fun _ _ _ _ _ _ us hl => match us, hl with | [_, _], _ => rfl
theorem ok10 (hK : F.K = K) (fr : Free K mg) (xs : Xs P w K mg base F) (DD : Defs K mg base F) (c0 : AllC P w K mg base F n r) (Fd : FnP K "_law_moved" (top 29) f fd) (hm : mg "_law_moved" = some (.ref f)) : CalleeP P w K mg base F (n + 3) "_law_moved" 2 (step r 10) :=
  have c := c0.mono (k := n + 2) (by omega); def_okX (ps := ["_law_card_here", "_law_shift_here"]) (m := (G7.b__law_moved (r 9))) hK Fd sc10 hm (bi10 Fd) fun cdv A outer s H E g po hcd tk => ev_scons (gasg (gsl g (gvar 1) (ev_poN) (ev_poS (ev_int))) (gtt g 2 (gtc (gtn g 3) (gtc (gtn g 4) (ev_gnil))))) (ev_scons (gasg (gbty (bDict_ok g.K g.calm) fr.f_dict (gcons (gix g (by exact fun _ _ => rfl) (gvar 0) (ev_int)) (ev_nil))) (gtn g 2)) (ev_scons (ev_sif (gcmpT g .eq (gvar 3) (ev_str)) (ev_scons (gset g (fSetA_ok g.un1) (gmet g PySem.F.plainAttrs_dict PySem.F.slot_dict_get PySem.F.type_dict_get (fGet_ok g.un1) (gvar 2) (gcons (gvar 4) (gcons (gix g (by exact fun _ _ => rfl) (gvar 1) (ev_int)) (ev_nil)))) (gvar 2) (gvar 4)) (ev_snil)) (ev_scons (ev_sif (ginAT g (gvar 4) (gvar 2)) (ev_scons (gasg (gmet g PySem.F.plainAttrs_dict PySem.F.slot_dict_pop PySem.F.type_dict_pop fPopD_ok (gvar 2) (gcons (gvar 4) (ev_nil))) (gtn g 5)) (ev_scons (ev_sif (gcmpT g .eq (gvar 3) (ev_str)) (ev_scons (ev_sif (L2.PW.pt (ev_tor (ginAT g (gix g (by exact fun _ _ => rfl) (gvar 1) (ev_int)) (gvar 2)) (ev_tor1 (gcmpT g .eq (gix g (by exact fun _ _ => rfl) (gvar 1) (ev_int)) (gvar 4))))) (ev_scons (gret (ev_non)) (ev_snil)) (ev_snil)) (ev_scons (gset g (fSetA_ok g.un1) (gvar 5) (gvar 2) (gix g (by exact fun _ _ => rfl) (gvar 1) (ev_int))) (ev_snil))) (ev_scons (ev_sif (gcmpT g .eq (gvar 3) (ev_str)) (ev_scons (gset g (fSetA_ok g.un1) (ev_tup (gcons (ev_str) (gcons (ev_tup (gcons (ev_tup (gcons (gix g (by exact fun _ _ => rfl) (gvar 1) (ev_int)) (gcons (gvar 5) (ev_nil)))) (ev_nil))) (ev_nil)))) (gvar 2) (gvar 4)) (ev_snil)) (ev_scons (ev_sif (gcmpT g .eq (gvar 3) (ev_str)) (ev_scons (ev_sif (L2.PW.pt (ev_tor (gtru g (gown g c.c9 (gcons (gvar 5) (ev_nil)))) (ev_tor1 (gcmpT g .ne (gix g (by exact fun _ _ => rfl) (gvar 5) (ev_int)) (ev_str))))) (ev_scons (gret (ev_non)) (ev_snil)) (ev_snil)) (ev_scons (gset g (fSetA_ok g.un1) (gvar 5) (gvar 2) (gvar 4)) (ev_scons (gasg (gbty (bDict_ok g.K g.calm) fr.f_dict (gcons (gix g (by exact fun _ _ => rfl) (gvar 5) (ev_int)) (ev_nil))) (gtn g 6)) (ev_scons (ev_sif (ginAT g (gix g (by exact fun _ _ => rfl) (gvar 1) (ev_int)) (gvar 6)) (ev_scons (ev_sif (ginAT g (gix g (by exact fun _ _ => rfl) (gvar 1) (ev_int)) (gvar 2)) (ev_scons (gret (ev_non)) (ev_snil)) (ev_snil)) (ev_scons (gset g (fSetA_ok g.un1) (gmet g PySem.F.plainAttrs_dict PySem.F.slot_dict_pop PySem.F.type_dict_pop fPopD_ok (gvar 6) (gcons (gix g (by exact fun _ _ => rfl) (gvar 1) (ev_int)) (ev_nil))) (gvar 2) (gix g (by exact fun _ _ => rfl) (gvar 1) (ev_int))) (ev_scons (gset g (fSetA_ok g.un1) (ev_tup (gcons (ev_str) (gcons (gbty (bTup_ok g.K) fr.f_tuple (gcons (gsortItems g false fr.f_sorted (gvar 6)) (ev_nil))) (ev_nil)))) (gvar 2) (gvar 4)) (ev_snil)))) (ev_snil)) (ev_snil))))) (ev_snil)) (ev_snil))) (ev_snil))) (ev_snil))) (ev_snil)) (ev_snil))) (ev_scons (gret (ev_tup (gcons (ev_str) (gcons (gbty (bTup_ok g.K) fr.f_tuple (gcons (gsortItems g false fr.f_sorted (gvar 2)) (ev_nil))) (ev_nil))))) (ev_snil))))
theorem sc11 : FnScope G7.N__law_led ["_law_card_here", "_law_forms", "_law_low", "_law_high"] (defScope (top 30)) := ⟨rfl, rfl, rfl, by decide +kernel, rfl, by decide +kernel, by decide +kernel⟩
theorem bi11 (Fd : FnP K "_law_led" (top 30) f fd) : Binds K fd ["_law_card_here", "_law_forms", "_law_low", "_law_high"] [] := Fd.bindsN fun _ _ _ _ _ _ us hl => match us, hl with | [_, _, _, _], _ => rfl
theorem ok11 (hK : F.K = K) (fr : Free K mg) (xs : Xs P w K mg base F) (DD : Defs K mg base F) (c0 : AllC P w K mg base F n r) (Fd : FnP K "_law_led" (top 30) f fd) (hm : mg "_law_led" = some (.ref f)) : CalleeP P w K mg base F (n + 3) "_law_led" 4 (step r 11) :=
  have c := c0.mono (k := n + 2) (by omega); def_okX (ps := ["_law_card_here", "_law_forms", "_law_low", "_law_high"]) (m := (G7.b__law_led (r 10))) hK Fd sc11 hm (bi11 Fd) fun cdv A outer s H E g po hcd tk => ev_scons (gfor g po (gseq g (gsl g (gvar 1) (ev_poS (gvar 2)) (ev_poS (gvar 3)))) (gtn g 4) (ev_scons (gfor g po (gseq g (gvar 4)) (gtn g 5) (ev_scons (ev_sif (gcmpT g .isnot (gvar 0) (ev_non)) (ev_scons (gasg (gown g c.c10 (gcons (gvar 0) (gcons (gvar 5) (ev_nil)))) (gtn g 0)) (ev_snil)) (ev_snil)) (ev_snil))) (ev_snil))) (ev_scons (gret (gvar 0)) (ev_snil))
theorem sc12 : FnScope G3.N__law_shift ["_law_tape_here"] (defScope (top 31)) := ⟨rfl, rfl, rfl, by decide +kernel, rfl, by decide +kernel, by decide +kernel⟩
theorem bi12 (Fd : FnP K "_law_shift" (top 31) f fd) : Binds K fd ["_law_tape_here"] [] := Fd.bindsN fun _ _ _ _ _ _ us hl => match us, hl with | [_], _ => rfl
theorem ok12 (hK : F.K = K) (fr : Free K mg) (xs : Xs P w K mg base F) (DD : Defs K mg base F) (c0 : AllC P w K mg base F n r) (Fd : FnP K "_law_shift" (top 31) f fd) (hm : mg "_law_shift" = some (.ref f)) : CalleeP P w K mg base F (n + 3) "_law_shift" 1 (step r 12) :=
  have c := c0.mono (k := n + 2) (by omega); def_okX (ps := ["_law_tape_here"]) (m := (G3.b__law_shift (r 6) (r 7))) hK Fd sc12 hm (bi12 Fd) fun cdv A outer s H E g po hcd tk => ev_scons (gpar g 2 3 (gcons (gix g (by exact fun _ _ => rfl) (ev_str) (gown g c.c6 (gcons (gvar 0) (gcons (ev_int) (ev_nil))))) (gcons (gix g (by exact fun _ _ => rfl) (ev_str) (gown g c.c6 (gcons (gvar 0) (gcons (ev_int) (ev_nil))))) (ev_nil)))) (ev_scons (gasg (ev_lst (gcons (ev_tup (gcons (ev_str) (gcons (gvar 2) (gcons (gown g c.c7 (gcons (gvar 0) (gcons (ev_int) (ev_nil)))) (ev_nil))))) (gcons (ev_tup (gcons (ev_str) (gcons (gvar 2) (gcons (gvar 3) (ev_nil))))) (gcons (ev_tup (gcons (ev_str) (gcons (gvar 2) (ev_nil)))) (gcons (ev_tup (gcons (ev_str) (gcons (gvar 2) (gcons (gvar 3) (ev_nil))))) (ev_nil)))))) (gtn g 1)) (ev_scons (gret (gix g (by exact fun _ _ => rfl) (gadd g (gvar 1) (ev_lst (gcons (ev_tup (gcons (ev_str) (gcons (gvar 2) (gcons (gvar 3) (ev_nil))))) (ev_nil)))) (gown g c.c6 (gcons (gvar 0) (gcons (ev_int) (ev_nil)))))) (ev_snil)))
theorem sc13 : FnScope G7.N__law_shifts ["_law_tape_here"] (defScope (top 32)) := ⟨rfl, rfl, rfl, by decide +kernel, rfl, by decide +kernel, by decide +kernel⟩
theorem bi13 (Fd : FnP K "_law_shifts" (top 32) f fd) : Binds K fd ["_law_tape_here"] [] := Fd.bindsN fun _ _ _ _ _ _ us hl => match us, hl with | [_], _ => rfl
theorem ok13 (hK : F.K = K) (fr : Free K mg) (xs : Xs P w K mg base F) (DD : Defs K mg base F) (c0 : AllC P w K mg base F n r) (Fd : FnP K "_law_shifts" (top 32) f fd) (hm : mg "_law_shifts" = some (.ref f)) : CalleeP P w K mg base F (n + 3) "_law_shifts" 1 (step r 13) :=
  have c := c0.mono (k := n + 2) (by omega); def_okX (ps := ["_law_tape_here"]) (m := (G7.b__law_shifts (r 6) (r 12))) hK Fd sc13 hm (bi13 Fd) fun cdv A outer s H E g po hcd tk => ev_scons (gret (gbty (bTup_ok g.K) fr.f_tuple (gcons (gcomp g false [("_law_k", 1)] (grng1 g fr.f_range (gown g c.c6 (gcons (gvar 0) (gcons (ev_int) (ev_nil))))) (fun _ _ _ _ _ g1 => gtn g1 1) (fun _ _ _ _ _ g1 => ev_yes) (fun _ _ _ _ _ g1 => gown g1 c.c12 (gcons (gvar 0) (ev_nil)))) (ev_nil)))) (ev_snil)
theorem sc14 : FnScope N__law_refused ["_law_ask"] (defScope (top 33)) := ⟨rfl, rfl, rfl, by decide +kernel, rfl, by decide +kernel, by decide +kernel⟩
theorem bi14 (Fd : FnP K "_law_refused" (top 33) f fd) : Binds K fd ["_law_ask"] [] := Fd.bindsN fun _ _ _ _ _ _ us hl => match us, hl with | [_], _ => rfl
theorem tl14 {X : Cx} (hK : F.K = X.K) (fr : Free X.K X.mg) (xs : Xs X.prog X.w X.K X.mg X.base F) (DD : Defs X.K X.mg X.base F) (un : X.A.units + 128 < cLine) : TellX X F "_law_refused" "_law_ask" "said" 2 5 2 1 (hL th14) := by
  obtain ⟨ga, fd, Fd, hm⟩ := DD.d14
  refine ⟨ga, fd, _, _, _, "odd", N__law_refused, Fd, hm, bi14 Fd, sc14, rfl, vis_of (by kernel_rfl), rfl, by decide, by decide, exm_hL ⟨⟨rfl, ⟨xs.exm_NoMark_FolioError, ⟨xs.exm_NoLead_FolioError, trivial⟩⟩⟩, ⟨⟨rfl, ⟨xs.exm_NoMark_LackError, ⟨xs.exm_NoLead_LackError, trivial⟩⟩⟩, trivial⟩⟩, by kernel_rfl, by kernel_rfl, by kernel_rfl, fun cdv q => ?_⟩
  refine tell_gives (nf := "_law_found") rfl sc14.nd (by kernel_rfl) (by kernel_rfl) (by kernel_rfl) (by decide) (fun _ => rfl) (by decide) (fun _ => rfl) (fun _ => rfl) (fun _ => rfl) (fun _ => rfl) fun s H => ?_
  have gz : GZ (tellCx X N__law_refused "_law_refused" (defScope (top 33)) ga cdv s H) F := ⟨hK, sc14.nd, show X.A.units + 3 + 64 < cLine by omega⟩
  exact (.cons rfl (by kernel_rfl) ⟨glX, by kernel_rfl, .inl xs.m_FolioError⟩ (fun a oe cls d pn hz hf => pss_suL rfl hz hf ⟨xs.e_NoMark, ⟨xs.e_NoLead, trivial⟩⟩ ⟨fun dd fs z => pss_suNo, ⟨fun dd fs z => xv_scons (zasg 3 gz (xv_lst (zcons (zisi (Z := ⟨a, dd, 2, fs⟩) z fr.f_isinstance (nmOwn xs.m_NoPaper) xs.kit_NoLead_NoPaper) (zcons (zisi (Z := ⟨a, dd, 2, fs⟩) z fr.f_isinstance (nmOwn xs.m_NoKey) xs.kit_NoLead_NoKey) (zcons (zisi (Z := ⟨a, dd, 2, fs⟩) z fr.f_isinstance (nmOwn xs.m_NoLead) xs.kit_NoLead_NoLead) (xv_nil)))))) (xv_scons (zasg 4 gz (zisiT (Z := ⟨a, dd, 2, fs⟩) z fr.f_isinstance (.cons (nmOwn xs.m_NoChange) (.cons (nmOwn xs.m_NoTurn) (.cons (nmOwn xs.m_Behind) (.cons (nmOwn xs.m_NoText) (.cons (nmOwn xs.m_NoRow) (.cons (nmOwn xs.m_LackError) .nil)))))) xs.kitA_NoLead_NoChange_NoTurn_Behind_NoText_NoRow_LackError)) (xv_scons (xv_sif (L2.PW.pt (xv_tand (zeqT gz (zcnt gz 3 ev_bl) (zint)) (xv_tand (ztru gz (zisi (Z := ⟨a, dd, 2, fs⟩) z fr.f_isinstance (nmBlt fr.f_ValueError) xs.kitT_NoLead_ValueError)) (xv_tand1 (xv_tnot (ztru gz (zvar 4))))))) (xv_scons (xv_sif (ztru gz (zix gz (by exact fun _ _ => rfl) (zvar 3) (zint))) (xv_scons (zasg 1 gz (xv_tup (zcons (zstr) (zcons (znev) (zcons (znev) (xv_nil)))))) (xv_snil)) (xv_scons (zasg 1 gz (xv_if (ztru gz (zix gz (by exact fun _ _ => rfl) (zvar 3) (zint))) (xv_tup (zcons (zstr) (zcons (znev) (zcons (zfld (Z := ⟨a, dd, 2, fs⟩) z xs.no_NoLead_holder) (xv_nil))))) (xv_tup (zcons (zstr) (zcons (zfld (Z := ⟨a, dd, 2, fs⟩) z xs.no_NoLead_holder) (zcons (zfld (Z := ⟨a, dd, 2, fs⟩) z xs.no_NoLead_edition) (xv_nil))))))) (xv_snil))) (xv_snil)) (xv_snil)) (xv_snil))), trivial⟩⟩) (.cons rfl (by kernel_rfl) ⟨glX, by kernel_rfl, .inl xs.m_LackError⟩ (fun a oe cls d pn hz hf => pss_suL rfl hz hf ⟨xs.e_NoMark, ⟨xs.e_NoLead, trivial⟩⟩ ⟨fun dd fs z => xv_scons (zasg 3 gz (xv_lst (zcons (zisi (Z := ⟨a, dd, 2, fs⟩) z fr.f_isinstance (nmOwn xs.m_NoMark) xs.kit_NoMark_NoMark) (zcons (zisi (Z := ⟨a, dd, 2, fs⟩) z fr.f_isinstance (nmOwn xs.m_NoId) xs.kit_NoMark_NoId) (zcons (zisi (Z := ⟨a, dd, 2, fs⟩) z fr.f_isinstance (nmOwn xs.m_NoName) xs.kit_NoMark_NoName) (xv_nil)))))) (xv_scons (xv_sif (L2.PW.pt (xv_tand (zeqT gz (zcnt gz 3 ev_bl) (zint)) (xv_tand (ztru gz (zisi (Z := ⟨a, dd, 2, fs⟩) z fr.f_isinstance (nmBlt fr.f_LookupError) xs.kitT_NoMark_LookupError)) (xv_tand1 (xv_tnot (ztru gz (zisiT (Z := ⟨a, dd, 2, fs⟩) z fr.f_isinstance (.cons (nmOwn xs.m_NoHouse) (.cons (nmOwn xs.m_NoStep) .nil)) xs.kitA_NoMark_NoHouse_NoStep))))))) (xv_scons (xv_sif (ztru gz (zix gz (by exact fun _ _ => rfl) (zvar 3) (zint))) (xv_scons (zasg 1 gz (xv_tup (zcons (zstr) (zcons (zfld (Z := ⟨a, dd, 2, fs⟩) z xs.no_NoMark_mark) (xv_nil))))) (xv_snil)) (xv_scons (zasg 1 gz (xv_if (ztru gz (zix gz (by exact fun _ _ => rfl) (zvar 3) (zint))) (xv_tup (zcons (zstr) (zcons (znev) (xv_nil)))) (xv_tup (zcons (zstr) (zcons (znev) (xv_nil)))))) (xv_snil))) (xv_snil)) (xv_snil)) (xv_snil)), ⟨fun dd fs z => pss_suNo, trivial⟩⟩) .nil))
theorem ok14 (Fd : FnP K "_law_refused" (top 33) f fd) (hm : mg "_law_refused" = some (.ref f)) : CalleeP P w K mg base F n "_law_refused" 1 (step r 14) := callee_bad (ps := ["_law_ask"]) Fd hm (bi14 Fd)
theorem sc15 : FnScope N__law_due ["_law_card_here", "_law_forms", "_law_low", "_law_high", "_law_who"] (defScope (top 34)) := ⟨rfl, rfl, rfl, by decide +kernel, rfl, by decide +kernel, by decide +kernel⟩
theorem bi15 (Fd : FnP K "_law_due" (top 34) f fd) : Binds K fd ["_law_card_here", "_law_forms", "_law_low", "_law_high", "_law_who"] [] := Fd.bindsN fun _ _ _ _ _ _ us hl => match us, hl with | [_, _, _, _, _], _ => rfl
theorem ok15 (hK : F.K = K) (fr : Free K mg) (xs : Xs P w K mg base F) (DD : Defs K mg base F) (c0 : AllC P w K mg base F n r) (Fd : FnP K "_law_due" (top 34) f fd) (hm : mg "_law_due" = some (.ref f)) : CalleeP P w K mg base F (n + 3) "_law_due" 5 (step r 15) :=
  have c := c0.mono (k := n + 2) (by omega); def_okX (ps := ["_law_card_here", "_law_forms", "_law_low", "_law_high", "_law_who"]) (m := (b__law_due (r 11))) hK Fd sc15 hm (bi15 Fd) fun cdv A outer s H E g po hcd tk => ev_scons (gasg (ev_if (gcmpT g .is (gvar 3) (ev_non)) (gblt (bLen_ok g.K) fr.f_len (gcons (gvar 1) (ev_nil))) (gvar 3)) (gtn g 5)) (ev_scons (ev_sif (ev_tnot (gchnT g .le .le (ev_int) (gvar 2) (gblt (bLen_ok g.K) fr.f_len (gcons (gvar 1) (ev_nil))))) (ev_scons (gret (ev_tup (gcons (ev_str) (gcons (gvar 2) (ev_nil))))) (ev_snil)) (ev_snil)) (ev_scons (ev_sif (ev_tnot (gchnT g .le .le (gvar 2) (gvar 5) (gblt (bLen_ok g.K) fr.f_len (gcons (gvar 1) (ev_nil))))) (ev_scons (gret (ev_tup (gcons (ev_str) (gcons (gvar 5) (ev_nil))))) (ev_snil)) (ev_snil)) (ev_scons (gasg (gown g c.c11 (gcons (gvar 0) (gcons (gvar 1) (gcons (gvar 2) (gcons (gvar 5) (ev_nil)))))) (gtn g 6)) (ev_scons (gret (ev_if (gcmpT g .is (gvar 6) (ev_non)) (ev_tup (gcons (ev_str) (gcons (gvar 4) (gcons (gvar 2) (ev_nil))))) (ev_tup (gcons (ev_str) (gcons (gvar 6) (ev_nil)))))) (ev_snil)))))
theorem sc16 : FnScope N_law ["_law_script"] (defScope (top 35)) := ⟨rfl, rfl, rfl, by decide +kernel, rfl, by decide +kernel, by decide +kernel⟩
theorem bi16 (Fd : FnP K "law" (top 35) f fd) : Binds K fd ["_law_script"] [] := Fd.bindsN fun _ _ _ _ _ _ us hl => match us, hl with | [_], _ => rfl
theorem ok16 (hK : F.K = K) (fr : Free K mg) (xs : Xs P w K mg base F) (DD : Defs K mg base F) (c0 : AllC P w K mg base F n r) (Fd : FnP K "law" (top 35) f fd) (hm : mg "law" = some (.ref f)) (lam : LamD K mg base F f "law") : CalleeP P w K mg base F (n + 3) "law" 1 (step r 16) :=
  have c := c0.mono (k := n + 2) (by omega); def_okX (ps := ["_law_script"]) (m := (b_law (r 8) (r 6) (r 15) (r 10) (r 12) (r 13) (r 5) (r 4) (r 3))) hK Fd sc16 hm (bi16 Fd) fun cdv A outer s H E g po hcd tk => have lk := lamK_of lam hcd; ev_scons (gasg (gown g c.c5 (gcons (gvar 0) (ev_nil))) (gtn g 1)) (ev_scons (gfor g po (grng1 g fr.f_range (ev_int)) (gtn g 2) (ev_scons (gasg (gown g c.c8 (gcons (gvar 1) (gcons (ev_int) (gcons (ev_int) (ev_nil))))) (gtn g 3)) (ev_scons (gasgC g true 4 [("_law_k", 12)] (grng1 g fr.f_range (ev_int)) (fun _ _ _ _ _ g1 => gtn g1 12) (fun _ _ _ _ _ g1 => ev_yes) (fun _ _ _ _ _ g1 => gown g1 c.c12 (gcons (gvar 1) (ev_nil)))) (ev_scons (gasg (gaddO g (gvar 4) (ev_lst (gcons (ev_tup (gcons (ev_str) (gcons (ev_str) (gcons (ev_str) (ev_nil))))) (gcons (ev_tup (gcons (ev_str) (gcons (ev_str) (gcons (ev_str) (ev_nil))))) (gcons (ev_tup (gcons (ev_str) (gcons (ev_str) (gcons (ev_str) (ev_nil))))) (gcons (ev_tup (gcons (ev_str) (gcons (ev_str) (gcons (ev_str) (ev_nil))))) (ev_nil))))))) (gtn g 4)) (ev_scons (gexp (gmet g PySem.F.plainAttrs_list PySem.F.slot_list_append PySem.F.type_list_append fAppend_ok (gvar 4) (gcons (ev_tup (gcons (ev_str) (gcons (ev_str) (gcons (gvar 3) (ev_nil))))) (ev_nil)))) (ev_scons (gfor g po (gseq g (gvar 4)) (gtn g 5) (ev_scons (gasg (gblt (bRepr_ok g.K g.room g.gd) fr.f_repr (gcons (ev_tup (gcons (gvar 3) (gcons (gvar 5) (ev_nil)))) (ev_nil))) (gtn g 9)) (ev_scons (ev_sif (L2.PW.pt (ev_tor (gcmpT g .ne (gblt (bRepr_ok g.K g.room g.gd) fr.f_repr (gcons (gown g c.c3 (gcons (gvar 3) (gcons (gvar 5) (ev_nil)))) (ev_nil))) (gblt (bRepr_ok g.K g.room g.gd) fr.f_repr (gcons (gown g c.c10 (gcons (gvar 3) (gcons (gvar 5) (ev_nil)))) (ev_nil)))) (ev_tor1 (gcmpT g .ne (gblt (bRepr_ok g.K g.room g.gd) fr.f_repr (gcons (ev_tup (gcons (gvar 3) (gcons (gvar 5) (ev_nil)))) (ev_nil))) (gvar 9))))) (ev_scons (gret (ev_bl)) (ev_snil)) (ev_snil)) (ev_snil)))) (ev_scons (gasg (ev_tup (gcons (ev_str) (gcons (ev_tup (gcons (ev_tup (gcons (ev_str) (gcons (ev_tup (gcons (ev_str) (gcons (ev_tup (gcons (ev_tup (gcons (ev_str) (gcons (ev_int) (ev_nil)))) (gcons (ev_tup (gcons (ev_str) (gcons (ev_bl) (ev_nil)))) (ev_nil)))) (ev_nil)))) (ev_nil)))) (gcons (ev_tup (gcons (ev_str) (gcons (ev_tup (gcons (ev_str) (gcons (ev_tup (ev_nil)) (ev_nil)))) (ev_nil)))) (gcons (ev_tup (gcons (ev_str) (gcons (ev_tup (gcons (ev_str) (gcons (ev_tup (ev_nil)) (ev_nil)))) (ev_nil)))) (ev_nil))))) (ev_nil)))) (gtn g 6)) (ev_scons (gfor g po (gseq g (ev_lst (gcons (ev_tup (gcons (ev_str) (gcons (ev_str) (gcons (ev_str) (ev_nil))))) (gcons (ev_tup (gcons (ev_str) (gcons (ev_str) (gcons (ev_str) (ev_nil))))) (gcons (ev_tup (gcons (ev_str) (gcons (ev_str) (gcons (ev_str) (ev_nil))))) (gcons (ev_tup (gcons (ev_str) (gcons (ev_str) (gcons (ev_str) (ev_nil))))) (gcons (ev_tup (gcons (ev_str) (gcons (ev_str) (gcons (ev_str) (ev_nil))))) (ev_nil)))))))) (gtn g 5) (ev_scons (ev_sif (gcmpT g .ne (gblt (bRepr_ok g.K g.room g.gd) fr.f_repr (gcons (gown g c.c3 (gcons (gvar 6) (gcons (gvar 5) (ev_nil)))) (ev_nil))) (gblt (bRepr_ok g.K g.room g.gd) fr.f_repr (gcons (gown g c.c10 (gcons (gvar 6) (gcons (gvar 5) (ev_nil)))) (ev_nil)))) (ev_scons (gret (ev_bl)) (ev_snil)) (ev_snil)) (ev_snil))) (ev_scons (gasg (gbty (bTup_ok g.K) fr.f_tuple (gcons (gcomp g false [("_law_k", 12)] (grng1 g fr.f_range (gown g c.c6 (gcons (gvar 1) (gcons (ev_int) (ev_nil))))) (fun _ _ _ _ _ g1 => gtn g1 12) (fun _ _ _ _ _ g1 => ev_yes) (fun _ _ _ _ _ g1 => gown g1 c.c13 (gcons (gvar 1) (ev_nil)))) (ev_nil))) (gtn g 7)) (ev_scons (gpar g 9 10 (gcons (gblt (bRepr_ok g.K g.room g.gd) fr.f_repr (gcons (ev_tup (gcons (gvar 3) (gcons (gvar 7) (ev_nil)))) (ev_nil))) (gcons (gblt (bLen_ok g.K) fr.f_len (gcons (gvar 7) (ev_nil))) (ev_nil)))) (ev_scons (gfor g po (grng2 g fr.f_range (gneg g (ev_int)) (gadd g (gvar 10) (ev_int))) (gtn g 8) (ev_scons (gfor g po (gseq g (ev_lst (gcons (ev_non) (gcons (gsub g (gvar 8) (ev_int)) (gcons (gvar 8) (gcons (gadd g (gvar 8) (ev_int)) (gcons (gvar 10) (gcons (gadd g (gvar 10) (ev_int)) (ev_nil))))))))) (gtn g 11) (ev_scons (gasg (gblt (bRepr_ok g.K g.room g.gd) fr.f_repr (gcons (gown g c.c15 (gcons (gvar 3) (gcons (gvar 7) (gcons (gvar 8) (gcons (gvar 11) (gcons (ev_str) (ev_nil))))))) (ev_nil))) (gtn g 13)) (ev_scons (ev_sif (gcmpT g .ne (gblt (bRepr_ok g.K g.room g.gd) fr.f_repr (gcons (gtellP g lk (tl14 hK fr xs DD g.un2) (Nat.le_refl _) (fun _ _ _ _ _ _ _ g1 => gownK g1 ["since", "upto", "holder"] c0.c4 (fun _ _ h => kw4_0 h) (gcons (gvar 3) (gcons (gvar 7) (ev_nil))) (gkwC (gvar 8) (gkwC (gvar 11) (gkwC (ev_str) (gkwN)))))) (ev_nil))) (gvar 13)) (ev_scons (gret (ev_bl)) (ev_snil)) (ev_snil)) (ev_snil)))) (ev_scons (ev_sif (gcmpT g .ne (gblt (bRepr_ok g.K g.room g.gd) fr.f_repr (gcons (gtellP g lk (tl14 hK fr xs DD g.un2) (Nat.le_refl _) (fun _ _ _ _ _ _ _ g1 => gownK g1 ["since"] c0.c4 (fun _ _ h => kw4_1 h) (gcons (gvar 3) (gcons (gvar 7) (ev_nil))) (gkwC (gvar 8) (gkwN)))) (ev_nil))) (gblt (bRepr_ok g.K g.room g.gd) fr.f_repr (gcons (gown g c.c15 (gcons (gvar 3) (gcons (gvar 7) (gcons (gvar 8) (gcons (ev_non) (gcons (ev_str) (ev_nil))))))) (ev_nil)))) (ev_scons (gret (ev_bl)) (ev_snil)) (ev_snil)) (ev_snil)))) (ev_scons (ev_sif (gcmpT g .ne (gblt (bRepr_ok g.K g.room g.gd) fr.f_repr (gcons (ev_tup (gcons (gvar 3) (gcons (gvar 7) (ev_nil)))) (ev_nil))) (gvar 9)) (ev_scons (gret (ev_bl)) (ev_snil)) (ev_snil)) (ev_snil))))))))))))) (ev_scons (gret (ev_bl)) (ev_snil)))
theorem gate : ∀ n, gateB (prog n 99 [] []) = true → 3 ≤ n
  | 0, h => absurd (show false = true from h) Bool.false_ne_true
  | 1, h => absurd (show false = true from h) Bool.false_ne_true
  | 2, h => absurd (show false = true from h) Bool.false_ne_true
  | n + 3, _ => by omega
theorem mk_NoMark {C D fI : Addr} (Fd : FunD K "__init__" "NoMark.__init__" (defArgs (clsInit (top 12))) (defBody (clsInit (top 12))) (defScope (clsInit (top 12))) [] [] fI fd) (hm : mg "LackError" = some (.ref D)) (B : XBaseL K D) (T : XClsL K C fI ["mark"]) : XMkL P w K mg base C ["mark"] :=
  .one T (init1L (k := 0) Fd ⟨rfl, rfl, rfl, by decide +kernel, rfl, by decide +kernel, by decide +kernel⟩ (by kernel_rfl) hm B T (fun _ => ⟨_, rfl⟩) (by kernel_rfl) (vis_of (by kernel_rfl)) (vis_of (by kernel_rfl)) (by kernel_rfl) (by kernel_rfl)) (Fd.bindsN fun _ _ _ _ _ _ us hl => match us, hl with | [_, _], _ => rfl)
theorem mk_NoLead {C D fI : Addr} (Fd : FunD K "__init__" "NoLead.__init__" (defArgs (clsInit (top 6))) (defBody (clsInit (top 6))) (defScope (clsInit (top 6))) [] [] fI fd) (hm : mg "FolioError" = some (.ref D)) (B : XBase K D) (T : XCls K C fI ["holder", "edition"]) : XMk P w K mg base C ["holder", "edition"] :=
  .two T (init2 (k := 0) Fd ⟨rfl, rfl, rfl, by decide +kernel, rfl, by decide +kernel, by decide +kernel⟩ (by kernel_rfl) hm B T (fun _ => ⟨_, rfl⟩) (by kernel_rfl) (vis_of (by kernel_rfl)) (vis_of (by kernel_rfl)) (vis_of (by kernel_rfl)) (by kernel_rfl) (by kernel_rfl) (by kernel_rfl) (by kernel_rfl)) (Fd.bindsN fun _ _ _ _ _ _ us hl => match us, hl with | [_, _, _], _ => rfl)
theorem all (hK : F.K = K) (fr : Free K mg) (xs : Xs P w K mg base F) (D : Defs K mg base F) : ∀ n, AllC P w K mg base F (3 * n) (prog n)
  | 0 => ⟨(let ⟨_, _, h, g⟩ := D.d0; callee0 (ps := ["tree", "field"]) h g (bi0 h)), (let ⟨_, _, h, g, l⟩ := D.d1; callee0 (ps := ["tree", "field", "value"]) h g (bi1 h)), (let ⟨_, _, h, g⟩ := D.d2; callee0 (ps := ["document", "field", "other"]) h g (bi2 h)), (let ⟨_, _, h, g⟩ := D.d3; callee0 (ps := ["document", "move"]) h g (bi3 h)), (let ⟨_, _, h, g⟩ := D.d4; CalleeK.bad g h.kp h), (let ⟨_, _, h, g⟩ := D.d5; callee0 (ps := ["_law_script"]) h g (bi5 h)), (let ⟨_, _, h, g⟩ := D.d6; callee0 (ps := ["_law_tape_here", "_law_size"]) h g (bi6 h)), (let ⟨_, _, h, g⟩ := D.d7; callee0 (ps := ["_law_tape_here", "_law_deep"]) h g (bi7 h)), (let ⟨_, _, h, g⟩ := D.d8; callee0 (ps := ["_law_tape_here", "_law_deep", "_law_top"]) h g (bi8 h)), (let ⟨_, _, h, g⟩ := D.d9; callee0 (ps := ["_law_grain_here"]) h g (bi9 h)), (let ⟨_, _, h, g⟩ := D.d10; callee0 (ps := ["_law_card_here", "_law_shift_here"]) h g (bi10 h)), (let ⟨_, _, h, g⟩ := D.d11; callee0 (ps := ["_law_card_here", "_law_forms", "_law_low", "_law_high"]) h g (bi11 h)), (let ⟨_, _, h, g⟩ := D.d12; callee0 (ps := ["_law_tape_here"]) h g (bi12 h)), (let ⟨_, _, h, g⟩ := D.d13; callee0 (ps := ["_law_tape_here"]) h g (bi13 h)), (let ⟨_, _, h, g⟩ := D.d14; callee0 (ps := ["_law_ask"]) h g (bi14 h)), (let ⟨_, _, h, g⟩ := D.d15; callee0 (ps := ["_law_card_here", "_law_forms", "_law_low", "_law_high", "_law_who"]) h g (bi15 h)), (let ⟨_, _, h, g, l⟩ := D.d16; callee0 (ps := ["_law_script"]) h g (bi16 h)), fun z => absurd z Bool.false_ne_true⟩
  | n + 1 => ⟨(let ⟨_, _, h, g⟩ := D.d0; ok0 hK fr xs D (all hK fr xs D n) h g), (let ⟨_, _, h, g, l⟩ := D.d1; ok1 hK fr xs D (all hK fr xs D n) h g l), (let ⟨_, _, h, g⟩ := D.d2; ok2 hK fr xs D (all hK fr xs D n) h g), (let ⟨_, _, h, g⟩ := D.d3; ok3 hK fr xs D (all hK fr xs D n) h g), (let ⟨_, _, h, g⟩ := D.d4; ok4 hK fr xs D (all hK fr xs D n) h g), (let ⟨_, _, h, g⟩ := D.d5; ok5 hK fr xs D (all hK fr xs D n) h g), (let ⟨_, _, h, g⟩ := D.d6; ok6 hK fr xs D (all hK fr xs D n) h g), (let ⟨_, _, h, g⟩ := D.d7; ok7 hK fr xs D (all hK fr xs D n) h g), (let ⟨_, _, h, g⟩ := D.d8; ok8 hK fr xs D (all hK fr xs D n) h g), (let ⟨_, _, h, g⟩ := D.d9; ok9 hK fr xs D (all hK fr xs D n) h g), (let ⟨_, _, h, g⟩ := D.d10; ok10 hK fr xs D (all hK fr xs D n) h g), (let ⟨_, _, h, g⟩ := D.d11; ok11 hK fr xs D (all hK fr xs D n) h g), (let ⟨_, _, h, g⟩ := D.d12; ok12 hK fr xs D (all hK fr xs D n) h g), (let ⟨_, _, h, g⟩ := D.d13; ok13 hK fr xs D (all hK fr xs D n) h g), (let ⟨_, _, h, g⟩ := D.d14; ok14 h g), (let ⟨_, _, h, g⟩ := D.d15; ok15 hK fr xs D (all hK fr xs D n) h g), (let ⟨_, _, h, g, l⟩ := D.d16; ok16 hK fr xs D (all hK fr xs D n) h g l), fun z => by have := gate (n + 1) z; omega⟩
end
end K44
end
section
/-! Y6: the law's own led; what is due of it; what is told of led (k44). -/
set_option Elab.async false
set_option linter.all false
set_option maxRecDepth 100000
set_option maxHeartbeats 1000000
namespace EV.NV
open PySem PySem.Spec PyProof.Rows L2
def envM (d sh lo hi : PV) (y4 y5 : Option PV) : EV.Env := [some d, some sh, some lo, some hi, y4, y5]
abbrev lledB (fm : List PV → GH → Res PV) : EV.Env → GH → Res Fl := (sSeq (sIf (mB (m2 (mVar 0) (mCst .non) (Cop.f .isnot))) (sSeq (sAsg (mA (mCons (mVar 0) (mCons (mVar 5) (mNil))) fm) (gN 0)) (sNext)) (sNext)) (sNext))
def ldO (c : Option (List (Str × PV))) (r : List Sh) : Option (List (Str × PV)) := c.bind fun c => ldP c r
theorem lled_in {fm} (hm : SpMv fm) {sh lo hi : PV} {G : GH} : ∀ (r : List Sh) (c : Option (List (Str × PV))) (y4 y5 : Option PV), (∀ k, c = some k → Dk k) → (∀ s ∈ r, ShOk s) →
    (∀ k, ldO c r = some k → Dk k) ∧ ∃ z5, loopF (forStep (gN 5) (lledB fm)) (fun _ => true) (r.map shV) (envM (oP c) sh lo hi y4 y5) G = .ok (.next (envM (oP (ldO c r)) sh lo hi y4 z5)) G
  | [], c, y4, y5, hc, _ => by
    have : ldO c [] = c := by cases c <;> rfl
    rw [this]
    exact ⟨hc, y5, loopF_nil rfl⟩
  | s :: r, c, y4, y5, hc, hs => by
    have h1 := hs s (List.mem_cons_self ..)
    cases c with
    | none =>
      have st : forStep (gN 5) (lledB fm) (shV s) (envM (oP none) sh lo hi y4 y5) G = .ok (.next (envM (oP none) sh lo hi y4 (some (shV s)))) G := rfl
      obtain ⟨i1, z, i2⟩ := lled_in hm (sh := sh) (lo := lo) (hi := hi) (G := G) r none y4 (some (shV s)) (fun _ h => by cases h) fun s h => hs s (List.mem_cons_of_mem _ h)
      exact ⟨fun k h => (by cases h), z, (loopF_next rfl st).trans i2⟩
    | some c =>
      have dc := hc c rfl
      have e1 := hm c s G dc h1
      have st : forStep (gN 5) (lledB fm) (shV s) (envM (treeV c) sh lo hi y4 y5) G = .ok (.next (envM (oP (mvP c s)) sh lo hi y4 (some (shV s)))) G := by
        exact (sq_next ((ifT rfl).trans ((sq_next (asgN (v := oP (mvP c s)) (G' := G) e1)).trans rfl))).trans rfl
      obtain ⟨i1, z, i2⟩ := lled_in hm (sh := sh) (lo := lo) (hi := hi) (G := G) r (mvP c s) y4 (some (shV s)) (fun k h => mv_dk dc h1 h) fun s h => hs s (List.mem_cons_of_mem _ h)
      have el : ldO (some c) (s :: r) = ldO (mvP c s) r := by
        show ldP c (s :: r) = _
        unfold ldP ldO
        cases mvP c s <;> rfl
      rw [el]
      exact ⟨i1, z, (loopF_next rfl st).trans i2⟩
abbrev lledO (fm : List PV → GH → Res PV) : EV.Env → GH → Res Fl := sSeq (sFor (mSeq (mVar 4)) (gN 5) (lledB fm)) sNext
theorem ldO_app {c : Option (List (Str × PV))} {a b : List Sh} : ldO c (a ++ b) = ldO (ldO c a) b := by
  cases c with
  | none => rfl
  | some c =>
    show ldP c (a ++ b) = _
    rw [ld_app]
    show _ = ldO (ldP c a) b
    cases ldP c a <;> rfl
theorem lled_out {fm} (hm : SpMv fm) {sh lo hi : PV} {G : GH} : ∀ (fs : List (List Sh)) (c : Option (List (Str × PV))) (y4 y5 : Option PV), (∀ k, c = some k → Dk k) → (∀ f ∈ fs, ∀ s ∈ f, ShOk s) →
    (∀ k, ldO c fs.flatten = some k → Dk k) ∧ ∃ z4 z5, loopF (forStep (gN 4) (lledO fm)) (fun _ => true) (fs.map fV) (envM (oP c) sh lo hi y4 y5) G = .ok (.next (envM (oP (ldO c fs.flatten)) sh lo hi z4 z5)) G
  | [], c, y4, y5, hc, _ => by
    have : ldO c (List.flatten []) = c := by cases c <;> rfl
    rw [this]
    exact ⟨hc, y4, y5, loopF_nil rfl⟩
  | f :: fs, c, y4, y5, hc, hs => by
    obtain ⟨d1, z5, h1⟩ := lled_in hm (sh := sh) (lo := lo) (hi := hi) (G := G) f c (some (fV f)) y5 hc (hs f (List.mem_cons_self ..))
    have sf : sFor (mSeq (mVar 4)) (gN 5) (lledB fm) (envM (oP c) sh lo hi (some (fV f)) y5) G = .ok (.next (envM (oP (ldO c f)) sh lo hi (some (fV f)) z5)) G := by
      rw [sFor_ap]
      have : mSeq (mVar 4) (envM (oP c) sh lo hi (some (fV f)) y5) G = .ok ⟨f.map shV, fun _ => true⟩ G := rfl
      rw [this]
      exact h1
    have st : forStep (gN 4) (lledO fm) (fV f) (envM (oP c) sh lo hi y4 y5) G = .ok (.next (envM (oP (ldO c f)) sh lo hi (some (fV f)) z5)) G := (sq_next sf).trans rfl
    obtain ⟨i1, z, z', i2⟩ := lled_out hm (sh := sh) (lo := lo) (hi := hi) (G := G) fs (ldO c f) (some (fV f)) z5 d1 fun g h => hs g (List.mem_cons_of_mem _ h)
    rw [List.flatten_cons, ldO_app]
    exact ⟨i1, z, z', (loopF_next rfl st).trans i2⟩
abbrev SpLl (f : List PV → GH → Res PV) : Prop := ∀ (c : List (Str × PV)) (fs : List (List Sh)) (lo hi : Int) G, Dk c → (∀ f ∈ fs, ∀ s ∈ f, ShOk s) → f [treeV c, FV fs, .int lo, .int hi] G = .ok (oP (ldP c (cutF fs lo hi).flatten)) G
theorem lled_sp {fm} (hm : SpMv fm) : SpLl (defV 4 G7.N__law_led (G7.b__law_led fm)) := by
  intro c fs lo hi G hc hs
  obtain ⟨d1, z, z', lp⟩ := lled_out hm (sh := FV fs) (lo := .int lo) (hi := .int hi) (G := G) (cutF fs lo hi) (some c) none none (fun k e => by cases e; exact hc) fun f hf => hs f (cutF_mem hf)
  have src : mSeq (mSl (mVar 1) (mPart (mVar 2)) (mPart (mVar 3)) opSl) (envM (treeV c) (FV fs) (.int lo) (.int hi) none none) G = .ok ⟨(cutF fs lo hi).map fV, fun _ => true⟩ G := by
    rw [← cutF_map]; rfl
  have key : G7.b__law_led fm (env0 G7.N__law_led.length [treeV c, FV fs, .int lo, .int hi]) G = .ok (.ret (oP (ldP c (cutF fs lo hi).flatten))) G := by
    unfold G7.b__law_led
    have e0 : env0 G7.N__law_led.length [treeV c, FV fs, .int lo, .int hi] = envM (treeV c) (FV fs) (.int lo) (.int hi) none none := rfl
    rw [e0]
    have sf : sFor (mSeq (mSl (mVar 1) (mPart (mVar 2)) (mPart (mVar 3)) opSl)) (gN 4) (lledO fm) (envM (treeV c) (FV fs) (.int lo) (.int hi) none none) G = .ok (.next (envM (oP (ldP c (cutF fs lo hi).flatten)) (FV fs) (.int lo) (.int hi) z z')) G := by
      rw [sFor_ap, src]
      exact lp
    exact (sq_next sf).trans (sq_ret rfl)
  have hl : [treeV c, FV fs, .int lo, .int hi].length = 4 := rfl
  unfold defV
  rw [if_pos hl, key]
  exact trim_same _ _
/-- what is due -/
def dueV (c : List (Str × PV)) (fs : List (List Sh)) (lo : Int) (up : Option Int) (who : Str) : PV :=
  if inR fs.length 0 lo = true then
    (if inR fs.length lo (endI fs.length up) = true then
      (match ledC c fs lo up with
        | none => .tup [.str "lead", .str who, .int lo]
        | some kw => .tup [.str "said", treeV kw])
    else .tup [.str "mark", .int (endI fs.length up)])
  else .tup [.str "mark", .int lo]
theorem due_ok {fl} (hl : SpLl fl) {c : List (Str × PV)} {fs : List (List Sh)} {lo : Int} {up : Option Int} {who : Str} {G : GH} (hc : Dk c) (hs : ∀ f ∈ fs, ∀ s ∈ f, ShOk s) :
    defV 5 K44.N__law_due (K44.b__law_due fl) [treeV c, FV fs, .int lo, upP up, .str who] G = .ok (dueV c fs lo up who) G := by
  have key : K44.b__law_due fl (env0 K44.N__law_due.length [treeV c, FV fs, .int lo, upP up, .str who]) G = .ok (.ret (dueV c fs lo up who)) G := by
    unfold K44.b__law_due
    have e0 : env0 K44.N__law_due.length [treeV c, FV fs, .int lo, upP up, .str who] = [some (treeV c), some (FV fs), some (.int lo), some (upP up), some (.str who), none, none] := rfl
    rw [e0]
    have ln : ∀ ρ G, ρ[1]? = some (some (FV fs)) → mA (mCons (mVar 1) mNil) bLen ρ G = .ok (.int fs.length) G := fun ρ G h => by simp [FV, h]
    rw [sq_next (ρ' := [some (treeV c), some (FV fs), some (.int lo), some (upP up), some (.str who), some (.int (endI fs.length up)), none]) (G' := G) (by
      cases up with
      | none =>
        refine (asgN (v := .int fs.length) (G' := G) ?_).trans rfl
        have := ln [some (treeV c), some (FV fs), some (.int lo), some (upP none), some (.str who), none, none] G rfl
        exact this
      | some k => rfl)]
    have t1 := in_cop (n := fs.length) (a := 0) (b := lo) (G := G) (ma := mCst (.int 0)) (mb := mVar 2) (mc := mA (mCons (mVar 1) mNil) bLen) (ρ := [some (treeV c), some (FV fs), some (.int lo), some (upP up), some (.str who), some (.int (endI fs.length up)), none]) rfl rfl (ln _ _ rfl)
    unfold dueV
    cases c1 : inR fs.length 0 lo with
    | false =>
      rw [c1] at t1
      simp only [Bool.false_eq_true, if_false]
      exact sq_ret ((ifT t1).trans (sq_ret rfl))
    | true =>
      rw [c1] at t1
      simp only [if_true]
      rw [sq_next ((ifF t1).trans rfl)]
      have t2 := in_cop (n := fs.length) (a := lo) (b := endI fs.length up) (G := G) (ma := mVar 2) (mb := mVar 5) (mc := mA (mCons (mVar 1) mNil) bLen) (ρ := [some (treeV c), some (FV fs), some (.int lo), some (upP up), some (.str who), some (.int (endI fs.length up)), none]) rfl rfl (ln _ _ rfl)
      cases c2 : inR fs.length lo (endI fs.length up) with
      | false =>
        rw [c2] at t2
        simp only [Bool.false_eq_true, if_false]
        exact sq_ret ((ifT t2).trans (sq_ret rfl))
      | true =>
        rw [c2] at t2
        simp only [if_true]
        rw [sq_next ((ifF t2).trans rfl)]
        have e1 := hl c fs lo (endI fs.length up) G hc hs
        rw [sq_next (asgN (ρ := [some (treeV c), some (FV fs), some (.int lo), some (upP up), some (.str who), some (.int (endI fs.length up)), none]) (G := G) (k := 6) (v := oP (ledC c fs lo up)) (G' := G) (m := mA (mCons (mVar 0) (mCons (mVar 1) (mCons (mVar 2) (mCons (mVar 5) (mNil))))) fl) e1)]
        cases q : ledC c fs lo up with
        | none => rfl
        | some kw => rfl
  have hn : [treeV c, FV fs, .int lo, upP up, .str who].length = 5 := rfl
  unfold defV
  rw [if_pos hn, key]
  exact trim_same _ _
theorem inR_end {n : Nat} {lo : Int} (h : inR n 0 lo = true) : inR n lo n = true := by
  unfold inR at *
  simp only [Bool.and_eq_true, decide_eq_true_eq] at h ⊢
  omega
/-! ### what is told -/
theorem su_mark (k : PV) (G : GH) : pickH 2 (hL K44.th14) 0 [("mark", k)] (List.replicate 5 none) G =
    .ok (.next [none, some (.tup [.str "mark", k]), none, some (.lst [.bl true, .bl false, .bl false]), none]) G := by
  have e : pickH 2 (hL K44.th14) 0 [("mark", k)] = K44.su14_1_0 [("mark", k)] := rfl
  rw [e]
  have l1 : List.lookup ("mark" : Str) [(("mark" : Str), k)] = some k := rfl
  have f1 : ∀ ρ G, mFld [("mark", k)] "mark" ρ G = .ok k G := fun ρ G => by simp only [mFld, l1]
  have c : ∀ G, fCntB (.lst [.bl true, .bl false, .bl false]) [.bl true] G = .ok (.int 1) G := fun G => rfl
  simp [K44.su14_1_0, size_line, mMet, tyP, c, f1]
theorem su_lead (w : Str) (k : Int) (G : GH) : pickH 2 (hL K44.th14) 1 [("edition", .int k), ("holder", .str w)] (List.replicate 5 none) G =
    .ok (.next [none, some (.tup [.str "lead", .str w, .int k]), none, some (.lst [.bl false, .bl false, .bl true]), some (.bl false)]) G := by
  have e : pickH 2 (hL K44.th14) 1 [("edition", .int k), ("holder", .str w)] = K44.su14_0_1 [("edition", .int k), ("holder", .str w)] := rfl
  rw [e]
  have l1 : List.lookup ("holder" : Str) [(("edition" : Str), PV.int k), ("holder", .str w)] = some (.str w) := rfl
  have l2 : List.lookup ("edition" : Str) [(("edition" : Str), PV.int k), ("holder", .str w)] = some (.int k) := rfl
  have f1 : ∀ ρ G, mFld [("edition", .int k), ("holder", .str w)] "holder" ρ G = .ok (.str w) G := fun ρ G => by simp only [mFld, l1]
  have f2 : ∀ ρ G, mFld [("edition", .int k), ("holder", .str w)] "edition" ρ G = .ok (.int k) G := fun ρ G => by simp only [mFld, l2]
  have c : ∀ G, fCntB (.lst [.bl false, .bl false, .bl true]) [.bl true] G = .ok (.int 1) G := fun G => rfl
  simp [K44.su14_0_1, size_line, mMet, tyP, c, f1, f2]
theorem told_ok {m : EV.Env → GH → Res PV} {ρ : EV.Env} {G : GH} {c : List (Str × PV)} {fs : List (List Sh)} {lo : Int} {up : Option Int} {who : Str} (h : m ρ G = ledR c fs lo up who G) : mTell 5 1 "said" (pickH 2 (hL K44.th14)) m ρ G = .ok (dueV c fs lo up who) G := by
  have tm : ∀ k, tellR 5 1 "said" (pickH 2 (hL K44.th14)) (.exc 0 [("mark", k)] G) = .ok (.tup [.str "mark", k]) G := fun k => by
    show (match pickH 2 (hL K44.th14) 0 [("mark", k)] (List.replicate 5 none) G with
        | .ok (.next ρ) G1 => (match ρ[1]? with
          | some (some p) => (.ok p G1 : Res PV)
          | _ => .bad)
        | .ok (.ret p) G1 => .ok p G1
        | _ => .bad) = _
    rw [su_mark]
    rfl
  have tl : tellR 5 1 "said" (pickH 2 (hL K44.th14)) (.exc 1 [("edition", .int lo), ("holder", .str who)] G) = .ok (.tup [.str "lead", .str who, .int lo]) G := by
    show (match pickH 2 (hL K44.th14) 1 [("edition", .int lo), ("holder", .str who)] (List.replicate 5 none) G with
        | .ok (.next ρ) G1 => (match ρ[1]? with
          | some (some p) => (.ok p G1 : Res PV)
          | _ => .bad)
        | .ok (.ret p) G1 => .ok p G1
        | _ => .bad) = _
    rw [su_lead]
    rfl
  unfold mTell
  rw [h]
  unfold ledR dueV
  cases c1 : inR fs.length 0 lo with
  | false =>
    simp only [Bool.false_eq_true, if_false]
    rw [tm]
    exact trim_same _ _
  | true =>
    simp only [if_true]
    have ue : okU fs.length lo up = inR fs.length lo (endI fs.length up) := by
      cases up with
      | none => exact (inR_end c1).symm
      | some k => rfl
    rw [ue]
    cases c2 : inR fs.length lo (endI fs.length up) with
    | false =>
      simp only [Bool.false_eq_true, if_false]
      rw [tm]
      have : upP up = .int (endI fs.length up) := by
        cases up with
        | none => exact absurd ((inR_end c1).symm.trans c2) (by decide)
        | some k => rfl
      rw [this]
      exact trim_same _ _
    | true =>
      simp only [if_true]
      cases q : ledC c fs lo up with
      | none => exact (congrArg (trimR G) tl).trans (trim_same _ _)
      | some kw => exact trim_same _ _
end EV.NV
end
section
/-! Y7: cards, moves, forms by draws (k44). -/
set_option Elab.async false
set_option linter.all false
set_option maxRecDepth 100000
set_option maxHeartbeats 1000000
namespace EV.NV
open PySem PySem.Spec PyProof.Rows L2
abbrev SpCd4 (n : Nat) (f : List PV → GH → Res PV) : Prop := SpG (5 + 4 * cG n) (IsJT n) f [.int n, .int 4]
theorem card_sp4 {fd fg} (hd : SpDraw fd) {n : Nat} (hn : n ≤ 5) (hgr : SpGrJ n fg) : SpCd4 n (defV 3 G3.N__law_card (G3.b__law_card fd fg)) := by
  intro D g R hg hD
  refine wq_def rfl ?_
  unfold G3.b__law_card
  refine wq_seq (wq_asg (fun v G1 => v = .obj (R.length + 1) ∧ G1 = g :: (R ++ [.dic (kd [])])) (by simp [kd]) fun v G1 ⟨e1, e2⟩ => goOn_next ?_)
  subst e1 e2
  refine wq_seq ?_
  refine wq_forRg (B := 4) (fun j ρ G => ∃ (g' : GO) (kv : List (Str × PV)) (o : Option PV), ρ = [some (.obj 0), some (.int n), some (.int 4), some (.obj (R.length + 1)), o] ∧ G = g' :: (R ++ [.dic (kd kv)]) ∧ Fd (D + 1 + j * (cG n + 1)) g' ∧ kv.length ≤ j ∧ (kv.map (·.1)).Nodup ∧ ∀ q ∈ kv, q.1 ∈ abcd ∧ Jd n q.2) (by decide) ?_ ?_ ?_
  · simp [env0, G3.N__law_card]
    exact wq_draw hd hg (by omega) (by omega) (by omega) fun q g2 q0 q1 hg2 => ⟨q.toNat, by rw [Int.toNat_of_nonneg q0], by omega, g2, [], none, rfl, rfl, hg2.mono (by omega), by simp, by simp, fun q hq => absurd hq List.not_mem_nil⟩
  · intro i j ρ G hi hj ⟨g', kv, o, e1, e2, h1, h2, nd, h3⟩
    subst e1 e2
    have hj2 : j * (cG n + 1) ≤ 3 * (cG n + 1) := Nat.mul_le_mul_right _ (by omega)
    simp [forStep_ap]
    refine wq_use (hgr _ _ _ h1 (by omega)) fun p G' ⟨g3, e, h4, h5⟩ => ?_
    subst e
    simp
    refine wq_draw hd h4 (by decide) (by decide) (by omega) fun r g4 r0 r1 hg4 => ?_
    obtain ⟨c, c0, c1, e⟩ := four (G := g4 :: (R ++ [.dic (kd kv)])) r0 r1
    obtain ⟨kv', k1, knd, k2, k3⟩ := keys_putJ (w := ⟨#[c]⟩) (v := p) (Pk := fun s => s ∈ abcd) (Pv := Jd n) nd h3 (abcd_of c0 c1) h5
    simp [e, setA_last k1 (by omega)]
    exact ⟨g4, kv', ⟨rfl, rfl⟩, hg4.mono (by rw [Nat.succ_mul]; omega), by omega, knd, fun a b h => k2 (a, b) h⟩
  · intro j ρ G hj ⟨g', kv, o, e1, e2, h1, h2, nd, h3⟩
    subst e1 e2
    have hj2 : j * (cG n + 1) ≤ 4 * (cG n + 1) := Nat.mul_le_mul_right _ hj
    refine goOn_next (wq_ret (fun p G' => p = treeV (sortK kv) ∧ G' = g' :: (R ++ [.dic (kd kv)])) ?_ fun p G' ⟨e1, e2⟩ => ?_)
    · simp [sort_last (show kv.length ≤ 100 by omega), bTup, asS, asL, size_line]
    · subst e1 e2
      have jt := jt_sort nd h3
      exact end_fd h1 (jd_dat jt.up) ⟨g', rfl, h1.mono (by omega), sortK kv, rfl, jt⟩
/-- a move that is small -/
def ShB (s : Sh) : Prop := ShOk s ∧ shW s ≤ 110 ∧ shD s ≤ 3
theorem sh_fit {s : Sh} (h : ShOk s) : fitX (shV s) = true ∧ lnm (shV s) ≤ 5 ∧ mxi (shV s) ≤ 9 ∧ wgt (shV s) ≤ shW s + 12 ∧ dep (shV s) ≤ shD s + 1 := by
  have h := h.w
  have W : ∀ w ∈ (["put", "move", "cut", "into", "out"] : List Str), PyData.strOk w = true ∧ w.cps.size ≤ 4 := ok_words
  cases s with
  | put w v =>
    have a := W "put" (by simp)
    have b := ok_abcde w h.1
    have c := wf_fit h.2
    refine ⟨by simp [shV, fitX, fitXs, a.1, b.1, c.1]; omega, by simp [shV, lnm, lnms]; omega, by simp [shV, mxi, mxis]; omega, by simp only [shV, wgt, wgts, shW]; omega, by simp [shV, dep, deps, shD]⟩
  | move w o =>
    have a := W "move" (by simp)
    have b := ok_abcde w h.1
    have c := ok_abcde o h.2
    refine ⟨by simp [shV, fitX, fitXs, a.1, b.1, c.1]; omega, by simp [shV, lnm, lnms], by simp [shV, mxi, mxis], by simp only [shV, wgt, wgts, shW]; omega, by simp [shV, dep, deps, shD]⟩
  | cut w =>
    have a := W "cut" (by simp)
    have b := ok_abcde w h
    refine ⟨by simp [shV, fitX, fitXs, a.1, b.1]; omega, by simp [shV, lnm, lnms], by simp [shV, mxi, mxis], by simp only [shV, wgt, wgts, shW]; omega, by simp [shV, dep, deps, shD]⟩
  | into w o =>
    have a := W "into" (by simp)
    have b := ok_abcde w h.1
    have c := ok_abcde o h.2
    refine ⟨by simp [shV, fitX, fitXs, a.1, b.1, c.1]; omega, by simp [shV, lnm, lnms], by simp [shV, mxi, mxis], by simp only [shV, wgt, wgts, shW]; omega, by simp [shV, dep, deps, shD]⟩
  | out w o =>
    have a := W "out" (by simp)
    have b := ok_abcde w h.1
    have c := ok_abcde o h.2
    refine ⟨by simp [shV, fitX, fitXs, a.1, b.1, c.1]; omega, by simp [shV, lnm, lnms], by simp [shV, mxi, mxis], by simp only [shV, wgt, wgts, shW]; omega, by simp [shV, dep, deps, shD]⟩
theorem sh_dat {s : Sh} (h : ShOk s) : datB (shV s) = true := dat_of_fitX (sh_fit h).1
theorem sh_sm {s : Sh} (h : ShB s) : Sm 122 4 5 (shV s) := by
  obtain ⟨h1, h2, h3⟩ := h
  obtain ⟨a, b, c, d, e⟩ := sh_fit h1
  exact ⟨a, by omega, by omega, b⟩
theorem in_abcde {c : Nat} (h0 : 97 ≤ c) (h1 : c ≤ 101) : (⟨#[c]⟩ : Str) ∈ abcde := by
  have : c = 97 ∨ c = 98 ∨ c = 99 ∨ c = 100 ∨ c = 101 := by omega
  rcases this with rfl | rfl | rfl | rfl | rfl <;> simp [abcde, abcd]
abbrev IsSh (p : PV) : Prop := ∃ s, p = shV s ∧ ShB s
abbrev SpShY (f : List PV → GH → Res PV) : Prop := SpG (3 + cG 1) IsSh f []
theorem shift_spY {fd fg} (hd : SpDraw fd) (hgr : SpGrJ 1 fg) : SpShY (defV 1 G3.N__law_shift (G3.b__law_shift fd fg)) := by
  intro D g R hg hD
  have eN : env0 G3.N__law_shift.length [PV.obj 0] = [some (.obj 0), none, none, none] := rfl
  refine wq_def rfl ?_
  unfold G3.b__law_shift
  refine wq_seq ?_
  simp [eN, sPar]
  refine wq_draw hd hg (by decide) (by decide) (by omega) fun r g1 r0 r1 hg1 => ?_
  obtain ⟨c, c0, c1, e⟩ := four (G := g1 :: R) r0 r1
  simp [e, eN]
  refine wq_draw hd hg1 (by decide) (by decide) (by omega) fun r g2 r0 r1 hg2 => ?_
  obtain ⟨b, b0, b1, e⟩ := five (G := g2 :: R) r0 r1
  simp [e, eN]
  refine goOn_next (wq_seq ?_)
  simp [eN, size_line]
  refine wq_use (hgr _ _ _ hg2 (by omega)) fun p G' ⟨g3, e, h4, h5⟩ => ?_
  subst e
  simp [eN, size_line]
  refine goOn_next (wq_seq ?_)
  simp [eN, size_line]
  refine wq_draw hd h4 (by decide) (by decide) (by omega) fun r g4 r0 r1 hg4 => ?_
  simp [eN]
  refine wq_ix r0 (by simpa using r1) fun y hy => ?_
  simp
  refine goOn_ret ?_
  have cm := in_abcde (c := c) c0 (by omega)
  have bm := in_abcde (c := b) b0 b1
  have sm : IsSh y := by
    have j := jd_sm h5
    have jw := j.1.w
    have jd := j.1.d
    have w1 : wJ 1 = 110 := rfl
    simp only [List.mem_cons, List.not_mem_nil, or_false] at hy
    rcases hy with rfl | rfl | rfl | rfl | rfl
    · exact ⟨.put ⟨#[c]⟩ p, rfl, ⟨cm, jd_wf h5⟩, by simp only [shW]; omega, by simp only [shD]; omega⟩
    · exact ⟨.move ⟨#[c]⟩ ⟨#[b]⟩, rfl, ⟨cm, bm⟩, by simp only [shW]; omega, by simp only [shD]; omega⟩
    · exact ⟨.cut ⟨#[c]⟩, rfl, ⟨cm⟩, by simp only [shW]; omega, by simp only [shD]; omega⟩
    · exact ⟨.into ⟨#[c]⟩ ⟨#[b]⟩, rfl, ⟨cm, bm⟩, by simp only [shW]; omega, by simp only [shD]; omega⟩
    · exact ⟨.out ⟨#[c]⟩ ⟨#[b]⟩, rfl, ⟨cm, bm⟩, by simp only [shW]; omega, by simp only [shD]; omega⟩
  have dt : datB y = true := by
    obtain ⟨s, rfl, hs⟩ := sm
    exact sh_dat hs.1
  have := end_fd (g := g) (S := []) (R := R) (Q := fun p G' => ∃ g', G' = g' :: R ∧ Fd (D + (3 + cG 1)) g' ∧ IsSh p) hg4 dt ⟨g4, rfl, hg4.mono (by omega), sm⟩
  rwa [List.append_nil] at this
theorem list_ex {α : Type} {f : α → PV} {P : α → Prop} : ∀ {ys : List PV}, (∀ y ∈ ys, ∃ a, y = f a ∧ P a) → ∃ l : List α, ys = l.map f ∧ ∀ a ∈ l, P a
  | [], _ => ⟨[], rfl, fun _ h => by cases h⟩
  | y :: ys, h => by
    obtain ⟨a, rfl, ha⟩ := h y (List.mem_cons_self ..)
    obtain ⟨l, rfl, hl⟩ := list_ex fun z hz => h z (List.mem_cons_of_mem _ hz)
    exact ⟨a :: l, rfl, fun b hb => by
      rcases List.mem_cons.mp hb with rfl | m
      · exact ha
      · exact hl b m⟩
def FrB (f : List Sh) : Prop := f.length ≤ 3 ∧ ∀ s ∈ f, ShB s
theorem depsY_le {d : Nat} : ∀ {xs : List PV}, (∀ x ∈ xs, dep x ≤ d) → deps xs ≤ d
  | [], _ => Nat.zero_le _
  | x :: xs, h => by
    have a := h x (List.mem_cons_self ..)
    have b := depsY_le fun y hy => h y (List.mem_cons_of_mem _ hy)
    simp only [deps]; omega
theorem wgtsY_le {w : Nat} : ∀ {xs : List PV}, (∀ x ∈ xs, wgt x ≤ w) → wgts xs ≤ xs.length * (w + 1)
  | [], _ => by simp [wgts]
  | x :: xs, h => by
    have a := h x (List.mem_cons_self ..)
    have b := wgtsY_le fun y hy => h y (List.mem_cons_of_mem _ hy)
    simp only [wgts, List.length_cons, Nat.succ_mul]; omega
theorem form_sm {f : List Sh} (h : FrB f) : Sm 400 5 5 (fV f) := by
  have a : ∀ x ∈ f.map shV, Sm 122 4 5 x := fun x hx => by
    obtain ⟨s, hs, rfl⟩ := List.mem_map.mp hx
    exact sh_sm (h.2 s hs)
  have w := wgtsY_le fun x hx => (a x hx).w
  have d := depsY_le fun x hx => (a x hx).d
  have m := lnms_le fun x hx => (a x hx).m
  have l := h.1
  rw [List.length_map] at w
  have w2 : f.length * (122 + 1) ≤ 3 * 123 := Nat.mul_le_mul_right _ l
  exact ⟨by simp only [fV, fitX]; exact fitXs_of fun x hx => (a x hx).f, by simp only [fV, wgt]; omega, by simp only [fV, dep]; omega, by simp only [fV, lnm, List.length_map]; omega⟩
abbrev IsFr (p : PV) : Prop := ∃ f, p = fV f ∧ FrB f
abbrev SpShs (f : List PV → GH → Res PV) : Prop := SpG (1 + 3 * (3 + cG 1)) IsFr f []
theorem shifts_sp {fd fs} (hd : SpDraw fd) (hs : SpShY fs) : SpShs (defV 1 G7.N__law_shifts (G7.b__law_shifts fd fs)) := by
  intro D g R hg hD
  have fin := finJ (c := 1 + 3 * (3 + cG 1)) (D := D) (g := g) (R := R) (P := IsFr) fun p ⟨f, e, h⟩ => by subst e; exact (form_sm h).dat
  refine wq_def rfl ?_
  unfold G7.b__law_shifts
  refine wq_ret (fun p G' => ∃ g', G' = g' :: R ∧ Fd (D + (1 + 3 * (3 + cG 1))) g' ∧ IsFr p) ?_ fun p G' ⟨g', e, h1, h2⟩ => fin p G' ⟨g', [], by rw [e, List.append_nil], h1, h2⟩
  have key : @wq PV (mComp false (mRng (mCons (mA (mCons (mVar 0) (mCons (mCst (.int 4)) (mNil))) fd) (mNil))) (gN 1) (mYes) (mA (mCons (mVar 0) (mNil)) fs) [1] (env0 G7.N__law_shifts.length [PV.obj 0]) (g :: R)) ⟨fun p G' => ∃ g' ys, p = .lst ys ∧ G' = g' :: R ∧ Fd (D + (1 + 3 * (3 + cG 1))) g' ∧ ys.length ≤ 3 ∧ ∀ y ∈ ys, IsSh y⟩ := by
    refine wq_compRg (B := 3) (fun j G => ∃ g', G = g' :: R ∧ Fd (D + 1 + j * (3 + cG 1)) g') IsSh (by decide) ?_ ?_ ?_
    · simp [env0, G7.N__law_shifts]
      exact wq_draw hd hg (by decide) (by decide) (by omega) fun q g2 q0 q1 hg2 => ⟨q.toNat, by rw [Int.toNat_of_nonneg q0], by omega, g2, rfl, hg2.mono (by omega)⟩
    · intro i j G _ hj ⟨g2, e, h2⟩
      subst e
      simp [env0, G7.N__law_shifts, wipeE]
      have hj2 : j * (3 + cG 1) ≤ 2 * (3 + cG 1) := Nat.mul_le_mul_right _ (by omega)
      refine wq_use (hs _ _ _ h2 (by omega)) fun p G' ⟨g3, e, h3, h4⟩ => ⟨⟨g3, e, h3.mono (by rw [Nat.succ_mul]; omega)⟩, h4⟩
    · intro ys k G hk ⟨g2, e, h2⟩ hy hl
      have hk2 : k * (3 + cG 1) ≤ 3 * (3 + cG 1) := Nat.mul_le_mul_right _ hk
      exact ⟨g2, ys, rfl, e, h2.mono (by omega), by omega, hy⟩
  simp only [mA_ap, mCons_ap, mNil_ap, mCst_ap, wq_bind, wq_ok]
  refine wq_use key fun p G' ⟨g', ys, e1, e2, h1, h2, h3⟩ => ?_
  subst e1 e2
  simp [bTup, asS, asL, size_line]
  obtain ⟨f, rfl, hf⟩ := list_ex h3
  exact ⟨h1, f, rfl, by simpa using h2, hf⟩
end EV.NV
end
section
/-! J14: a document near another one (k48). -/
set_option Elab.async false
set_option linter.all false
set_option maxRecDepth 100000
set_option maxHeartbeats 1000000
namespace EV.NV
open PySem PySem.Spec PyProof.Rows L2
section
variable {g : GO} {R : GH} {kv : List (Str × PV)} {w : Str}
end
/-- fields while they are turned -/
structure FJ (n : Nat) (kv : List (Str × PV)) : Prop where
  nd : (kv.map (·.1)).Nodup
  h : ∀ q ∈ kv, q.1 ∈ abcd ∧ Jd n q.2
theorem FJ.len {n kv} (h : FJ n kv) : kv.length ≤ 4 := by
  have := abcd_len h.nd fun w hw => by obtain ⟨q, hq, rfl⟩ := List.mem_map.mp hw; exact (h.h q hq).1
  rwa [List.length_map] at this
theorem FJ.sub {n kv kw} (h : FJ n kv) (s : kw.Sublist kv) : FJ n kw := ⟨h.nd.sublist (s.map _), fun q hq => h.h q (s.subset hq)⟩
theorem FJ.put {n kv} (h : FJ n kv) {w : Str} {v : PV} (hw : w ∈ abcd) (hv : Jd n v) : ∃ kw, putD (kd kv) (.inr w) v = kd kw ∧ FJ n kw := by
  obtain ⟨kw, k1, k2, k3, _⟩ := keys_putJ (w := w) (v := v) (Pk := fun s => s ∈ abcd) (Pv := Jd n) h.nd h.h hw hv
  exact ⟨kw, k1, k2, k3⟩
end EV.NV
end
section
/-! J15: three documents; three tuples of rows (k48). -/
set_option Elab.async false
set_option linter.all false
set_option maxRecDepth 100000
set_option maxHeartbeats 1000000
namespace EV.NV
open PySem PySem.Spec PyProof.Rows L2
theorem wq_hide {α : Type} {r : Res α} {P : α → GH → Prop} (h : ∀ Q : α → GH → Prop, (∀ a G, P a G → Q a G) → @wq α r ⟨Q⟩) : @wq α r ⟨P⟩ := h P fun _ _ h => h
end EV.NV
end
section
/-! Y8: the law k44 (printed by mky8.py from Y8.tpl). -/
set_option Elab.async false
set_option linter.all false
set_option maxRecDepth 100000
set_option maxHeartbeats 1000000
namespace EV.NV
open PySem PySem.Spec PyProof.Rows L2
theorem ne_same {ma mb : EV.Env → GH → Res PV} {ρ : EV.Env} {G : GH} {z : Str} (h1 : ma ρ G = .ok (.str z) G) (h2 : mb ρ G = .ok (.str z) G) : mB (m2 ma mb (Cop.f .ne)) ρ G = .ok false G := by
  have e : Cop.ne.f [.str z, .str z] G = .ok (.bl false) G := by simp
  simp only [mB, m2, h1, h2, Res.bind_ok, e]
  rfl
theorem repr_at {m : EV.Env → GH → Res PV} {ρ : EV.Env} {G : GH} {p : PV} {w d k : Nat} (h : m ρ G = .ok p G) (hs : Sm w d k p) (hw : w ≤ 200000) (hd : d ≤ 60) : mA (mCons m mNil) bRepr ρ G = .ok (.str (rep p)) G := by
  have e := repr_sm G hs hw hd
  simp only [mA, mCons, mNil, h, Res.bind_ok, e]
theorem or_ff {ma mb : EV.Env → GH → Res Bool} {ρ : EV.Env} {G : GH} (h1 : ma ρ G = .ok false G) (h2 : mb ρ G = .ok false G) : mtOr ma mb ρ G = .ok false G := by
  simp only [mtOr, h1, Res.bind_ok, h2, Bool.false_eq_true, if_false]
theorem for_same {ms : EV.Env → GH → Res Src} {t : PV → EV.Env → GH → Res EV.Env} {b : EV.Env → GH → Res Fl} {G : GH} {S : Src} (hg : S.gd G = true) (I : EV.Env → Prop) (hs : ∀ x ∈ S.its, ∀ ρ, I ρ → ∃ ρ', forStep t b x ρ G = .ok (.next ρ') G ∧ I ρ') {ρ : EV.Env} (e : ms ρ G = .ok S G) (h0 : I ρ) :
    ∃ ρ', sFor ms t b ρ G = .ok (.next ρ') G ∧ I ρ' := by
  have lp : ∀ (its : List PV) (ρ : EV.Env), (∀ x ∈ its, ∀ ρ, I ρ → ∃ ρ', forStep t b x ρ G = .ok (.next ρ') G ∧ I ρ') → I ρ → ∃ ρ', loopF (forStep t b) S.gd its ρ G = .ok (.next ρ') G ∧ I ρ' := by
    intro its
    induction its with
    | nil => exact fun ρ _ h => ⟨ρ, loopF_nil hg, h⟩
    | cons x its ih =>
      intro ρ hs h
      obtain ⟨ρ1, e1, h1⟩ := hs x (List.mem_cons_self ..) ρ h
      obtain ⟨ρ2, e2, h2⟩ := ih ρ1 (fun y hy => hs y (List.mem_cons_of_mem _ hy)) h1
      exact ⟨ρ2, (loopF_next hg e1).trans e2, h2⟩
  obtain ⟨ρ', e1, h1⟩ := lp S.its ρ hs h0
  exact ⟨ρ', by rw [sFor_ap, e]; exact e1, h1⟩
/-! ### sizes -/
structure CdB (c : List (Str × PV)) : Prop where
  dk : Dk c
  w : wK c ≤ 1910
  d : dpK c ≤ 9
def ShC (s : Sh) : Prop := ShOk s ∧ shW s ≤ 1916 ∧ shD s ≤ 11
theorem dk_sm {kw : List (Str × PV)} {W D : Nat} (h : Dk kw) (hw : wK kw ≤ W) (hd : dpK kw ≤ D) : Sm (W + 6) (D + 2) 5 (treeV kw) := by
  obtain ⟨a, b, c⟩ := wf_fit h.tree
  exact ⟨a, by rw [wgt_tree]; omega, by rw [dep_tree]; omega, b⟩
theorem CdB.sm {c : List (Str × PV)} (h : CdB c) : Sm 1916 11 5 (treeV c) := dk_sm h.dk h.w h.d
theorem jt_cd {c : List (Str × PV)} (h : JT 2 c) : CdB c := by
  have j := jd_sm h.up
  have a : wgt (treeV c) ≤ 1910 := j.1.w
  have b := j.1.d
  rw [wgt_tree] at a
  rw [dep_tree] at b
  exact ⟨Wf.dk (jd_wf h.up), by omega, by omega⟩
theorem ShC.sm {s : Sh} (h : ShC s) : Sm 1928 12 5 (shV s) := by
  obtain ⟨h1, h2, h3⟩ := h
  obtain ⟨a, b, c, d, e⟩ := sh_fit h1
  exact ⟨a, by omega, by omega, b⟩
theorem two_sm {a b : PV} {w w' d d' : Nat} (ha : Sm w d 5 a) (hb : Sm w' d' 5 b) : Sm (w + w' + 2) (max d d' + 1) 5 (.tup [a, b]) :=
  ⟨by simp [fitX, fitXs, ha.f, hb.f], by have := ha.w; have := hb.w; simp only [wgt, wgts]; omega, by have := ha.d; have := hb.d; simp only [dep, deps]; omega, by have := ha.m; have := hb.m; simp only [lnm, lnms, List.length_cons, List.length_nil]; omega⟩
theorem mv_sm {c : List (Str × PV)} {s : Sh} (hc : CdB c) (hs : ShC s) : Sm 3842 14 5 (oP (mvP c s)) := by
  cases e : mvP c s with
  | none => exact ⟨by decide, by decide, by decide, by decide⟩
  | some kw =>
    obtain ⟨a, b⟩ := mv_sz hc.dk hs.1 e
    have := hs.2.1; have := hs.2.2; have := hc.w; have := hc.d
    exact dk_sm (mv_dk hc.dk hs.1 e) (by omega) (by omega)
/-- forms by draws -/
def FsB (fs : List (List Sh)) : Prop := fs.length ≤ 4 ∧ ∀ f ∈ fs, FrB f
theorem FsB.ok {fs : List (List Sh)} (h : FsB fs) : ∀ f ∈ fs, ∀ s ∈ f, ShOk s := fun f hf s hs => ((h.2 f hf).2 s hs).1
theorem fs_sm {fs : List (List Sh)} (h : FsB fs) : Sm 1604 6 5 (FV fs) := by
  have a : ∀ x ∈ fs.map fV, Sm 400 5 5 x := fun x hx => by
    obtain ⟨s, hs, rfl⟩ := List.mem_map.mp hx
    exact form_sm (h.2 s hs)
  have w := wgtsY_le fun x hx => (a x hx).w
  have d := depsY_le fun x hx => (a x hx).d
  have m := lnms_le fun x hx => (a x hx).m
  have l := h.1
  rw [List.length_map] at w
  have w2 : fs.length * (400 + 1) ≤ 4 * 401 := Nat.mul_le_mul_right _ l
  exact ⟨by simp only [FV, fitX]; exact fitXs_of fun x hx => (a x hx).f, by simp only [FV, wgt]; omega, by simp only [FV, dep]; omega, by simp only [FV, lnm, List.length_map]; omega⟩
theorem flat3_len {fs : List (List Sh)} : (∀ f ∈ fs, f.length ≤ 3) → fs.flatten.length ≤ 3 * fs.length := by
  induction fs with
  | nil => intro _; simp
  | cons f fs ih =>
    intro h
    have a := h f (List.mem_cons_self ..)
    have b := ih fun g hg => h g (List.mem_cons_of_mem _ hg)
    rw [List.flatten_cons, List.length_append, List.length_cons]; omega
theorem word_sm : ∀ w ∈ (["mark", "lead", "said", "who", ""] : List Str), fitX (.str w) = true ∧ wgt (.str w) ≤ 4 := by decide +kernel
theorem due_sm {c : List (Str × PV)} {fs : List (List Sh)} {lo : Int} {up : Option Int} {who : Str} (hc : CdB c) (hf : FsB fs) (hl : lo.natAbs ≤ 20) (hu : ∀ k, up = some k → k.natAbs ≤ 20) (hw : who = "who" ∨ who = "") : Sm 4000 55 5 (dueV c fs lo up who) := by
  have si : ∀ i : Int, i.natAbs ≤ 20 → fitX (.int i) = true ∧ wgt (.int i) ≤ 20 := fun i hi => by
    have := sm_int (i := i) (w := 20) (d := 0) (m := 0) (by omega) (by decide)
    exact ⟨this.f, this.w⟩
  have W := word_sm
  have hm : ∀ i : Int, i.natAbs ≤ 20 → Sm 4000 55 5 (.tup [.str "mark", .int i]) := fun i hi => by
    have a := W "mark" (by simp)
    have b := si i hi
    refine ⟨by simp only [fitX, fitXs, Bool.and_eq_true]; exact ⟨by simpa [fitX] using a.1, by simpa [fitX] using b.1, trivial⟩, ?_, by simp [dep, deps], by simp [lnm, lnms]⟩
    simp only [wgt, wgts] at a b ⊢; omega
  have ei : (endI fs.length up).natAbs ≤ 20 := by
    cases up with
    | none => have := hf.1; simp only [endI]; omega
    | some k => exact hu k rfl
  unfold dueV
  split
  · split
    · have fr : ∀ f ∈ cutF fs lo (endI fs.length up), FrB f := fun f h => hf.2 f (cutF_mem h)
      have ln := flat3_len fun f h => (fr f h).1
      have cl := cutF_len fs lo (endI fs.length up)
      have l4 := hf.1
      cases e : ledC c fs lo up with
      | none =>
        have a := W "lead" (by simp)
        have a2 := W who (by rcases hw with rfl | rfl <;> simp)
        have b := si lo hl
        refine ⟨by simp only [fitX, fitXs, Bool.and_eq_true]; exact ⟨by simpa [fitX] using a.1, by simpa [fitX] using a2.1, by simpa [fitX] using b.1, trivial⟩, ?_, by simp [dep, deps], by simp [lnm, lnms]⟩
        simp only [wgt, wgts] at a a2 b ⊢; omega
      | some kw =>
        have a := W "said" (by simp)
        obtain ⟨d1, d2, d3⟩ := ld_ok (c := 110) (W := 1910) (D := 9) hc.dk (fun s hs => by
          obtain ⟨f, hf, hs⟩ := List.mem_flatten.mp hs
          exact (fr f hf).2 s hs) hc.w hc.d (by decide) e
        have m1 : (cutF fs lo (endI fs.length up)).flatten.length * (110 + 10) ≤ 12 * 120 := Nat.mul_le_mul_right _ (by omega)
        have m2 : (cutF fs lo (endI fs.length up)).flatten.length * 3 ≤ 12 * 3 := Nat.mul_le_mul_right _ (by omega)
        have t := dk_sm (W := 3350) (D := 45) d1 (by omega) (by omega)
        have sw : Sm 4 0 5 (.str "said") := ⟨a.1, a.2, by simp [dep], by simp [lnm]⟩
        exact (two_sm sw t).mono (by decide) (by decide) (by decide)
    · exact hm _ ei
  · exact hm _ hl
/-! ### the law's loops -/
def envY (x0 x2 : Option PV) (c : PV) (x4 x5 x6 x7 x8 x9 x10 x11 x12 x13 : Option PV) : EV.Env := [x0, some (.obj 0), x2, some c, x4, x5, x6, x7, x8, x9, x10, x11, x12, x13]
section
variable {x0 x2 x4 x5 x6 x7 x8 x9 x10 x11 x12 x13 : Option PV} {G : GH}
abbrev mvS (f__law_moved f_moved : List PV → GH → Res PV) : EV.Env → GH → Res Fl := (sSeq (sAsg (mA (mCons (mA (mCons (mVar 3) (mCons (mVar 5) (mNil))) mkTup) (mNil)) bRepr) (gN 9)) (sSeq (sIf (mtOr (mB (m2 (mA (mCons (mA (mCons (mVar 3) (mCons (mVar 5) (mNil))) f_moved) (mNil)) bRepr) (mA (mCons (mA (mCons (mVar 3) (mCons (mVar 5) (mNil))) f__law_moved) (mNil)) bRepr) (Cop.f .ne))) (mB (m2 (mA (mCons (mA (mCons (mVar 3) (mCons (mVar 5) (mNil))) mkTup) (mNil)) bRepr) (mVar 9) (Cop.f .ne)))) (sSeq (sRet (mCst (.bl false))) (sNext)) (sNext)) (sNext)))
theorem mv_step {fl fm} (hl : SpMv fl) (hm : SpMv fm) {c : List (Str × PV)} {s : Sh} (hc : CdB c) (hs : ShC s) :
    ∃ y9, forStep (gN 5) (mvS fl fm) (shV s) (envY x0 x2 (treeV c) x4 x5 x6 x7 x8 x9 x10 x11 x12 x13) G = .ok (.next (envY x0 x2 (treeV c) x4 (some (shV s)) x6 x7 x8 y9 x10 x11 x12 x13)) G := by
  refine ⟨some (.str (rep (.tup [treeV c, shV s]))), ?_⟩
  show mvS fl fm (envY x0 x2 (treeV c) x4 (some (shV s)) x6 x7 x8 x9 x10 x11 x12 x13) G = _
  have s2 := two_sm hc.sm hs.sm
  have sr := mv_sm hc hs
  have pr : ∀ y9, mA (mCons (mA (mCons (mVar 3) (mCons (mVar 5) (mNil))) mkTup) (mNil)) bRepr (envY x0 x2 (treeV c) x4 (some (shV s)) x6 x7 x8 y9 x10 x11 x12 x13) G = .ok (.str (rep (.tup [treeV c, shV s]))) G := fun y9 => repr_at (p := .tup [treeV c, shV s]) (by simp [envY, size_line]) s2 (by decide) (by decide)
  refine (sq_next (asgN (pr x9))).trans ?_
  have e1 : mA (mCons (mA (mCons (mVar 3) (mCons (mVar 5) (mNil))) fm) (mNil)) bRepr (envY x0 x2 (treeV c) x4 (some (shV s)) x6 x7 x8 (some (.str (rep (.tup [treeV c, shV s])))) x10 x11 x12 x13) G = .ok (.str (rep (oP (mvP c s)))) G := repr_at (hm c s G hc.dk hs.1) sr (by decide) (by decide)
  have e2 : mA (mCons (mA (mCons (mVar 3) (mCons (mVar 5) (mNil))) fl) (mNil)) bRepr (envY x0 x2 (treeV c) x4 (some (shV s)) x6 x7 x8 (some (.str (rep (.tup [treeV c, shV s])))) x10 x11 x12 x13) G = .ok (.str (rep (oP (mvP c s)))) G := repr_at (hl c s G hc.dk hs.1) sr (by decide) (by decide)
  exact (sq_next ((ifF (or_ff (ne_same e1 e2) (ne_same (pr _) rfl))).trans rfl)).trans rfl
def innerK : List (Str × PV) := [("a", treeV [("b", .int 1), ("c", .bl true)]), ("b", rowV []), ("d", treeV [])]
theorem inner_ok : CdB innerK := by
  have w1 : Wf (treeV [("b", .int 1), ("c", .bl true)]) := .tree ⟨by decide +kernel, by decide +kernel⟩ (by decide +kernel) fun q hq => by
    simp only [List.mem_cons, List.not_mem_nil, or_false] at hq
    rcases hq with rfl | rfl
    · exact .leaf (by simp [leavesJ])
    · exact .leaf (by simp [leavesJ])
  refine ⟨⟨⟨by decide +kernel, by decide +kernel⟩, by decide +kernel, fun q hq => ?_⟩, by decide +kernel, by decide +kernel⟩
  simp only [innerK, List.mem_cons, List.not_mem_nil, or_false] at hq
  rcases hq with rfl | rfl | rfl
  · exact w1
  · exact .row (by decide) fun x hx => by cases hx
  · exact .tree ⟨by simp, by simp⟩ (fun q hq => by cases hq) fun q hq => by cases hq
abbrev inSY (f__law_moved f_moved : List PV → GH → Res PV) : EV.Env → GH → Res Fl := (sSeq (sIf (mB (m2 (mA (mCons (mA (mCons (mVar 6) (mCons (mVar 5) (mNil))) f_moved) (mNil)) bRepr) (mA (mCons (mA (mCons (mVar 6) (mCons (mVar 5) (mNil))) f__law_moved) (mNil)) bRepr) (Cop.f .ne))) (sSeq (sRet (mCst (.bl false))) (sNext)) (sNext)) (sNext))
theorem in_step {fl fm} (hl : SpMv fl) (hm : SpMv fm) {c k : List (Str × PV)} {s : Sh} (hk : CdB k) (hs : ShC s) :
    forStep (gN 5) (inSY fl fm) (shV s) (envY x0 x2 (treeV c) x4 x5 (some (treeV k)) x7 x8 x9 x10 x11 x12 x13) G = .ok (.next (envY x0 x2 (treeV c) x4 (some (shV s)) (some (treeV k)) x7 x8 x9 x10 x11 x12 x13)) G := by
  show inSY fl fm (envY x0 x2 (treeV c) x4 (some (shV s)) (some (treeV k)) x7 x8 x9 x10 x11 x12 x13) G = _
  have sr := mv_sm hk hs
  have e1 : mA (mCons (mA (mCons (mVar 6) (mCons (mVar 5) (mNil))) fm) (mNil)) bRepr (envY x0 x2 (treeV c) x4 (some (shV s)) (some (treeV k)) x7 x8 x9 x10 x11 x12 x13) G = .ok (.str (rep (oP (mvP k s)))) G := repr_at (hm k s G hk.dk hs.1) sr (by decide) (by decide)
  have e2 : mA (mCons (mA (mCons (mVar 6) (mCons (mVar 5) (mNil))) fl) (mNil)) bRepr (envY x0 x2 (treeV c) x4 (some (shV s)) (some (treeV k)) x7 x8 x9 x10 x11 x12 x13) G = .ok (.str (rep (oP (mvP k s)))) G := repr_at (hl k s G hk.dk hs.1) sr (by decide) (by decide)
  exact (sq_next ((ifF (ne_same e1 e2)).trans rfl)).trans rfl
abbrev SpDu (f : List PV → GH → Res PV) : Prop := ∀ (c : List (Str × PV)) (fs : List (List Sh)) (lo : Int) (up : Option Int) (who : Str) G, Dk c → (∀ f ∈ fs, ∀ s ∈ f, ShOk s) → f [treeV c, FV fs, .int lo, upP up, .str who] G = .ok (dueV c fs lo up who) G
abbrev ldI (f__law_due f_led : List PV → GH → Res PV) : EV.Env → GH → Res Fl := (sSeq (sAsg (mA (mCons (mA (mCons (mVar 3) (mCons (mVar 7) (mCons (mVar 8) (mCons (mVar 11) (mCons (mCst (.str "who")) (mNil)))))) f__law_due) (mNil)) bRepr) (gN 13)) (sSeq (sIf (mB (m2 (mA (mCons (mTell 5 1 "said" (pickH 2 (hL K44.th14)) (mA (mKw 2 3 [] [.p 0, .p 1, .k 0, .k 1, .k 2] (mCons (mVar 3) (mCons (mVar 7) (mNil))) (mCons (mVar 8) (mCons (mVar 11) (mCons (mCst (.str "who")) (mNil))))) f_led)) (mNil)) bRepr) (mVar 13) (Cop.f .ne))) (sSeq (sRet (mCst (.bl false))) (sNext)) (sNext)) (sNext)))
theorem ldi_step {fd fl} (hd : SpDu fd) (hl : SpLed fl) {c : List (Str × PV)} {fs : List (List Sh)} {lo : Int} {up : Option Int} (hc : CdB c) (hf : FsB fs) (h1 : lo.natAbs ≤ 20) (h2 : ∀ k, up = some k → k.natAbs ≤ 20) :
    ∃ y13, forStep (gN 11) (ldI fd fl) (upP up) (envY x0 x2 (treeV c) x4 x5 x6 (some (FV fs)) (some (.int lo)) x9 x10 x11 x12 x13) G = .ok (.next (envY x0 x2 (treeV c) x4 x5 x6 (some (FV fs)) (some (.int lo)) x9 x10 (some (upP up)) x12 y13)) G := by
  refine ⟨some (.str (rep (dueV c fs lo up "who"))), ?_⟩
  show ldI fd fl (envY x0 x2 (treeV c) x4 x5 x6 (some (FV fs)) (some (.int lo)) x9 x10 (some (upP up)) x12 x13) G = _
  have sd := due_sm (up := up) (who := "who") hc hf h1 h2 (.inl rfl)
  have e1 : mA (mCons (mA (mCons (mVar 3) (mCons (mVar 7) (mCons (mVar 8) (mCons (mVar 11) (mCons (mCst (.str "who")) (mNil)))))) fd) (mNil)) bRepr (envY x0 x2 (treeV c) x4 x5 x6 (some (FV fs)) (some (.int lo)) x9 x10 (some (upP up)) x12 x13) G = .ok (.str (rep (dueV c fs lo up "who"))) G := repr_at (hd c fs lo up "who" G hc.dk hf.ok) sd (by decide) (by decide)
  refine (sq_next (asgN e1)).trans ?_
  have e2 := told_ok (c := c) (fs := fs) (lo := lo) (up := up) (who := "who") (m := (mA (mKw 2 3 [] [.p 0, .p 1, .k 0, .k 1, .k 2] (mCons (mVar 3) (mCons (mVar 7) (mNil))) (mCons (mVar 8) (mCons (mVar 11) (mCons (mCst (.str "who")) (mNil))))) fl)) (ρ := envY x0 x2 (treeV c) x4 x5 x6 (some (FV fs)) (some (.int lo)) x9 x10 (some (upP up)) x12 (some (.str (rep (dueV c fs lo up "who"))))) (G := G) (hl c fs lo up "who" G hc.dk hf.ok)
  have e3 := repr_at e2 sd (by decide) (by decide)
  exact (sq_next ((ifF (ne_same e3 rfl)).trans rfl)).trans rfl
abbrev ldT (f__law_due f_led : List PV → GH → Res PV) : EV.Env → GH → Res Fl := sSeq (sIf (mB (m2 (mA (mCons (mTell 5 1 "said" (pickH 2 (hL K44.th14)) (mA (mKw 2 1 [.non, .str ""] [.p 0, .p 1, .k 0, .d 0, .d 1] (mCons (mVar 3) (mCons (mVar 7) (mNil))) (mCons (mVar 8) (mNil))) f_led)) (mNil)) bRepr) (mA (mCons (mA (mCons (mVar 3) (mCons (mVar 7) (mCons (mVar 8) (mCons (mCst .non) (mCons (mCst (.str "")) (mNil)))))) f__law_due) (mNil)) bRepr) (Cop.f .ne))) (sSeq (sRet (mCst (.bl false))) (sNext)) (sNext)) (sNext)
theorem ldt_step {fd fl} (hd : SpDu fd) (hl : SpLed fl) {c : List (Str × PV)} {fs : List (List Sh)} {lo : Int} (hc : CdB c) (hf : FsB fs) (h1 : lo.natAbs ≤ 20) :
    ldT fd fl (envY x0 x2 (treeV c) x4 x5 x6 (some (FV fs)) (some (.int lo)) x9 x10 x11 x12 x13) G = .ok (.next (envY x0 x2 (treeV c) x4 x5 x6 (some (FV fs)) (some (.int lo)) x9 x10 x11 x12 x13)) G := by
  have sd := due_sm (lo := lo) (up := none) (who := "") hc hf h1 (fun k h => by cases h) (.inr rfl)
  have e1 : mA (mCons (mA (mCons (mVar 3) (mCons (mVar 7) (mCons (mVar 8) (mCons (mCst .non) (mCons (mCst (.str "")) (mNil)))))) fd) (mNil)) bRepr (envY x0 x2 (treeV c) x4 x5 x6 (some (FV fs)) (some (.int lo)) x9 x10 x11 x12 x13) G = .ok (.str (rep (dueV c fs lo none ""))) G := repr_at (hd c fs lo none "" G hc.dk hf.ok) sd (by decide) (by decide)
  have e2 := told_ok (c := c) (fs := fs) (lo := lo) (up := none) (who := "") (m := (mA (mKw 2 1 [.non, .str ""] [.p 0, .p 1, .k 0, .d 0, .d 1] (mCons (mVar 3) (mCons (mVar 7) (mNil))) (mCons (mVar 8) (mNil))) fl)) (ρ := envY x0 x2 (treeV c) x4 x5 x6 (some (FV fs)) (some (.int lo)) x9 x10 x11 x12 x13) (G := G) (hl c fs lo none "" G hc.dk hf.ok)
  have e3 := repr_at e2 sd (by decide) (by decide)
  exact (sq_next ((ifF (ne_same e3 e1)).trans rfl)).trans rfl
abbrev ldB9 (f__law_due f_led : List PV → GH → Res PV) : EV.Env → GH → Res Fl := (sSeq (sFor (mSeq (mA (mCons (mCst .non) (mCons (m2 (mVar 8) (mCst (.int 1)) opSub) (mCons (mVar 8) (mCons (m2 (mVar 8) (mCst (.int 1)) opAdd) (mCons (mVar 10) (mCons (m2 (mVar 10) (mCst (.int 1)) opAdd) (mNil))))))) mkLst)) (gN 11) (sSeq (sAsg (mA (mCons (mA (mCons (mVar 3) (mCons (mVar 7) (mCons (mVar 8) (mCons (mVar 11) (mCons (mCst (.str "who")) (mNil)))))) f__law_due) (mNil)) bRepr) (gN 13)) (sSeq (sIf (mB (m2 (mA (mCons (mTell 5 1 "said" (pickH 2 (hL K44.th14)) (mA (mKw 2 3 [] [.p 0, .p 1, .k 0, .k 1, .k 2] (mCons (mVar 3) (mCons (mVar 7) (mNil))) (mCons (mVar 8) (mCons (mVar 11) (mCons (mCst (.str "who")) (mNil))))) f_led)) (mNil)) bRepr) (mVar 13) (Cop.f .ne))) (sSeq (sRet (mCst (.bl false))) (sNext)) (sNext)) (sNext)))) (sSeq (sIf (mB (m2 (mA (mCons (mTell 5 1 "said" (pickH 2 (hL K44.th14)) (mA (mKw 2 1 [.non, .str ""] [.p 0, .p 1, .k 0, .d 0, .d 1] (mCons (mVar 3) (mCons (mVar 7) (mNil))) (mCons (mVar 8) (mNil))) f_led)) (mNil)) bRepr) (mA (mCons (mA (mCons (mVar 3) (mCons (mVar 7) (mCons (mVar 8) (mCons (mCst .non) (mCons (mCst (.str "")) (mNil)))))) f__law_due) (mNil)) bRepr) (Cop.f .ne))) (sSeq (sRet (mCst (.bl false))) (sNext)) (sNext)) (sNext)))
theorem ldb_step {fd fl} (hd : SpDu fd) (hl : SpLed fl) {c : List (Str × PV)} {fs : List (List Sh)} {lo : Int} (hc : CdB c) (hf : FsB fs) (h1 : lo.natAbs ≤ 10) :
    ∃ y11 y13, forStep (gN 8) (ldB9 fd fl) (.int lo) (envY x0 x2 (treeV c) x4 x5 x6 (some (FV fs)) x8 x9 (some (.int fs.length)) x11 x12 x13) G = .ok (.next (envY x0 x2 (treeV c) x4 x5 x6 (some (FV fs)) (some (.int lo)) x9 (some (.int fs.length)) y11 x12 y13)) G := by
  show ∃ y11 y13, ldB9 fd fl (envY x0 x2 (treeV c) x4 x5 x6 (some (FV fs)) (some (.int lo)) x9 (some (.int fs.length)) x11 x12 x13) G = _
  have l4 := hf.1
  have src : mSeq (mA (mCons (mCst .non) (mCons (m2 (mVar 8) (mCst (.int 1)) opSub) (mCons (mVar 8) (mCons (m2 (mVar 8) (mCst (.int 1)) opAdd) (mCons (mVar 10) (mCons (m2 (mVar 10) (mCst (.int 1)) opAdd) (mNil))))))) mkLst) (envY x0 x2 (treeV c) x4 x5 x6 (some (FV fs)) (some (.int lo)) x9 (some (.int fs.length)) x11 x12 x13) G = .ok ⟨[.non, .int (lo - 1), .int lo, .int (lo + 1), .int fs.length, .int (fs.length + 1)], fun _ => true⟩ G := by
    simp [mSeq, envY, seqSrc, size_line]
  obtain ⟨ρ', e, y11, y13, rfl⟩ := for_same (S := ⟨[.non, .int (lo - 1), .int lo, .int (lo + 1), .int fs.length, .int (fs.length + 1)], fun _ => true⟩) (t := gN 11) (b := ldI fd fl) rfl (fun ρ => ∃ y11 y13, ρ = envY x0 x2 (treeV c) x4 x5 x6 (some (FV fs)) (some (.int lo)) x9 (some (.int fs.length)) y11 x12 y13) (fun x hx ρ ⟨y11, y13, e⟩ => by
    subst e
    obtain ⟨up, rfl, hu⟩ : ∃ up, x = upP up ∧ ∀ k, up = some k → k.natAbs ≤ 20 := by
      simp only [List.mem_cons, List.not_mem_nil, or_false] at hx
      rcases hx with rfl | rfl | rfl | rfl | rfl | rfl
      · exact ⟨none, rfl, fun k h => by cases h⟩
      · exact ⟨some (lo - 1), rfl, fun k h => by cases h; omega⟩
      · exact ⟨some lo, rfl, fun k h => by cases h; omega⟩
      · exact ⟨some (lo + 1), rfl, fun k h => by cases h; omega⟩
      · exact ⟨some fs.length, rfl, fun k h => by cases h; omega⟩
      · exact ⟨some (fs.length + 1), rfl, fun k h => by cases h; omega⟩
    obtain ⟨z13, e⟩ := ldi_step hd hl (x9 := x9) (x10 := some (.int fs.length)) (x11 := y11) (x12 := x12) (x13 := y13) (x0 := x0) (x2 := x2) (x4 := x4) (x5 := x5) (x6 := x6) (G := G) hc hf (lo := lo) (by omega) hu
    exact ⟨_, e, some (upP up), z13, rfl⟩) src ⟨x11, x13, rfl⟩
  refine ⟨y11, y13, ?_⟩
  exact (sq_next e).trans (ldt_step hd hl hc hf (by omega))
end
theorem wq_step {s t : EV.Env → GH → Res Fl} {ρ ρ1 : EV.Env} {G G1 : GH} {Q : Fl → GH → Prop} (e : s ρ G = .ok (.next ρ1) G1) (k : @wq Fl (t ρ1 G1) ⟨Q⟩) : @wq Fl (sSeq s t ρ G) ⟨Q⟩ := by
  rw [sq_next e]; exact k
theorem y_comp_bind {mn el : EV.Env → GH → Res PV} {v : Nat} {own : List Nat} {ρ : EV.Env} {G : GH} : mComp false (mRng (mCons mn mNil)) (gN v) mYes el own ρ G = (mn ρ G).bind fun x G1 => (rgSrc [x] G1).bind fun S G1 => (loopC (compF (gN v) mYes el own ρ) S.gd S.its G1).bind fun ys G5 => .ok (.lst ys) G5 := by
  unfold mComp mRng
  show Res.bind (Res.bind (Res.bind (mn ρ G) _) _) _ = _
  cases mn ρ G <;> rfl
theorem y_compRk {el : EV.Env → GH → Res PV} {v k : Nat} {own : List Nat} {ρ : EV.Env} {G : GH} {Q : PV → GH → Prop} (I : Nat → GH → Prop) (P : PV → Prop) (hB : k ≤ 1000000) (h0 : I 0 G)
    (hs : ∀ (i j : Nat) G, i < k → j < k → I j G → @wq PV (el ((wipeE ρ own).set v (some (.int (i : Int)))) G) ⟨fun y G' => I (j + 1) G' ∧ P y⟩)
    (hq : ∀ ys G, I k G → (∀ y ∈ ys, P y) → ys.length = k → Q (.lst ys) G) :
    @wq PV (mComp false (mRng (mCons (mCst (.int (k : Int))) mNil)) (gN v) mYes el own ρ G) ⟨Q⟩ := by
  rw [y_comp_bind, mCst_ap, Res.bind_ok, rg_ok (by omega) (by omega), wq_bind, wq_ok, wq_bind]
  refine wq_use (wq_loopC1 I P (rgIts 0 (k : Int).toNat) 0 h0 (fun _ _ _ => rfl) fun x hx j G p1 p2 hj => ?_) fun ys G' ⟨h1, h2, h3⟩ => ?_
  · obtain ⟨i, hi, rfl⟩ := List.mem_map.mp hx
    rw [rg_len] at p2
    have hi2 := List.mem_range.mp hi
    unfold compF
    simp only [gN_ap, wq_bind, wq_noX, wq_ok, mYes_ap, if_true]
    rw [Int.zero_add]
    exact wq_use (hs i j G (by omega) (by omega) hj) fun y G' ⟨a, b⟩ => (wq_ok _ _ _).mpr ⟨a, y, rfl, b⟩
  · rw [wq_ok]
    rw [rg_len] at h1 h3
    have t : (k : Int).toNat = k := by omega
    rw [t] at h1 h3
    rw [Nat.zero_add] at h1
    exact hq ys G' h1 h2 h3
theorem comp_true {ms : EV.Env → GH → Res Src} {tg : PV → EV.Env → GH → Res EV.Env} {tt : EV.Env → GH → Res Bool} {el : EV.Env → GH → Res PV} {own : List Nat} {ρ : EV.Env} {G : GH} {P : List PV → GH → Prop} (h : @wq PV (mComp false ms tg tt el own ρ G) ⟨fun v G' => ∃ ys, v = .lst ys ∧ P ys G'⟩) :
    @wq PV (mComp true ms tg tt el own ρ G) ⟨fun v G' => ∃ ys G1, v = .obj G1.length ∧ G' = G1 ++ [.lst ys] ∧ P ys G1⟩ := by
  unfold mComp at h ⊢
  rw [wq_bind] at h ⊢
  refine wq_use h fun S G1 h => ?_
  rw [wq_bind] at h ⊢
  refine wq_use h fun ys G5 h => ?_
  simp only [Bool.false_eq_true, if_false, wq_ok, if_true] at h ⊢
  obtain ⟨ys', e, h⟩ := h
  cases e
  exact ⟨ys, G5, rfl, rfl, h⟩
def sh4 : List Sh := [.move "a" "a", .out "a" "a", .out "b" "c", .into "c" "c"]
def sh5 : List Sh := [.out "a" "c", .out "a" "b", .out "a" "a", .out "b" "c", .out "d" "c"]
theorem abcd_w : (["a", "b", "c", "d"] : List Str).all (fun w => decide (w ∈ abcde)) = true := by decide +kernel
theorem wA {w : Str} (h : w ∈ (["a", "b", "c", "d"] : List Str)) : w ∈ abcde := of_decide_eq_true (List.all_eq_true.mp abcd_w w h)
theorem sh4_ok : ∀ s ∈ sh4, ShC s := fun s hs => by
  simp only [sh4, List.mem_cons, List.not_mem_nil, or_false] at hs
  rcases hs with rfl | rfl | rfl | rfl
  · exact ⟨⟨wA (by simp), wA (by simp)⟩, by simp [shW], by simp [shD]⟩
  · exact ⟨⟨wA (by simp), wA (by simp)⟩, by simp [shW], by simp [shD]⟩
  · exact ⟨⟨wA (by simp), wA (by simp)⟩, by simp [shW], by simp [shD]⟩
  · exact ⟨⟨wA (by simp), wA (by simp)⟩, by simp [shW], by simp [shD]⟩
theorem sh5_ok : ∀ s ∈ sh5, ShC s := fun s hs => by
  simp only [sh5, List.mem_cons, List.not_mem_nil, or_false] at hs
  rcases hs with rfl | rfl | rfl | rfl | rfl
  · exact ⟨⟨wA (by simp), wA (by simp)⟩, by simp [shW], by simp [shD]⟩
  · exact ⟨⟨wA (by simp), wA (by simp)⟩, by simp [shW], by simp [shD]⟩
  · exact ⟨⟨wA (by simp), wA (by simp)⟩, by simp [shW], by simp [shD]⟩
  · exact ⟨⟨wA (by simp), wA (by simp)⟩, by simp [shW], by simp [shD]⟩
  · exact ⟨⟨wA (by simp), wA (by simp)⟩, by simp [shW], by simp [shD]⟩
def cL44 : Nat := 5 + 4 * cG 2 + 8 * (3 + cG 1) + (1 + 4 * (1 + 3 * (3 + cG 1)))
abbrev lap44 (f__law_card f__law_draw f__law_due f__law_moved f__law_shift f__law_shifts f_led f_moved : List PV → GH → Res PV) : EV.Env → GH → Res Fl := (sSeq (sAsg (mA (mCons (mVar 1) (mCons (mCst (.int 2)) (mCons (mCst (.int 4)) (mNil)))) f__law_card) (gN 3)) (sSeq (sAsg (mComp true (mRng (mCons (mCst (.int 8)) (mNil))) (gN 12) (mYes) (mA (mCons (mVar 1) (mNil)) f__law_shift) [12]) (gN 4)) (sSeq (sAsg (m2 (mVar 4) (mA (mCons (mA (mCons (mCst (.str "move")) (mCons (mCst (.str "a")) (mCons (mCst (.str "a")) (mNil)))) mkTup) (mCons (mA (mCons (mCst (.str "out")) (mCons (mCst (.str "a")) (mCons (mCst (.str "a")) (mNil)))) mkTup) (mCons (mA (mCons (mCst (.str "out")) (mCons (mCst (.str "b")) (mCons (mCst (.str "c")) (mNil)))) mkTup) (mCons (mA (mCons (mCst (.str "into")) (mCons (mCst (.str "c")) (mCons (mCst (.str "c")) (mNil)))) mkTup) (mNil))))) mkLst) opAddO) (gN 4)) (sSeq (sDrop (mMet "list" (mVar 4) (mCons (mA (mCons (mCst (.str "put")) (mCons (mCst (.str "d")) (mCons (mVar 3) (mNil)))) mkTup) (mNil)) fAppend)) (sSeq (sFor (mSeq (mVar 4)) (gN 5) (sSeq (sAsg (mA (mCons (mA (mCons (mVar 3) (mCons (mVar 5) (mNil))) mkTup) (mNil)) bRepr) (gN 9)) (sSeq (sIf (mtOr (mB (m2 (mA (mCons (mA (mCons (mVar 3) (mCons (mVar 5) (mNil))) f_moved) (mNil)) bRepr) (mA (mCons (mA (mCons (mVar 3) (mCons (mVar 5) (mNil))) f__law_moved) (mNil)) bRepr) (Cop.f .ne))) (mB (m2 (mA (mCons (mA (mCons (mVar 3) (mCons (mVar 5) (mNil))) mkTup) (mNil)) bRepr) (mVar 9) (Cop.f .ne)))) (sSeq (sRet (mCst (.bl false))) (sNext)) (sNext)) (sNext)))) (sSeq (sAsg (mA (mCons (mCst (.str "tree")) (mCons (mA (mCons (mA (mCons (mCst (.str "a")) (mCons (mA (mCons (mCst (.str "tree")) (mCons (mA (mCons (mA (mCons (mCst (.str "b")) (mCons (mCst (.int 1)) (mNil))) mkTup) (mCons (mA (mCons (mCst (.str "c")) (mCons (mCst (.bl true)) (mNil))) mkTup) (mNil))) mkTup) (mNil))) mkTup) (mNil))) mkTup) (mCons (mA (mCons (mCst (.str "b")) (mCons (mA (mCons (mCst (.str "row")) (mCons (mA (mNil) mkTup) (mNil))) mkTup) (mNil))) mkTup) (mCons (mA (mCons (mCst (.str "d")) (mCons (mA (mCons (mCst (.str "tree")) (mCons (mA (mNil) mkTup) (mNil))) mkTup) (mNil))) mkTup) (mNil)))) mkTup) (mNil))) mkTup) (gN 6)) (sSeq (sFor (mSeq (mA (mCons (mA (mCons (mCst (.str "out")) (mCons (mCst (.str "a")) (mCons (mCst (.str "c")) (mNil)))) mkTup) (mCons (mA (mCons (mCst (.str "out")) (mCons (mCst (.str "a")) (mCons (mCst (.str "b")) (mNil)))) mkTup) (mCons (mA (mCons (mCst (.str "out")) (mCons (mCst (.str "a")) (mCons (mCst (.str "a")) (mNil)))) mkTup) (mCons (mA (mCons (mCst (.str "out")) (mCons (mCst (.str "b")) (mCons (mCst (.str "c")) (mNil)))) mkTup) (mCons (mA (mCons (mCst (.str "out")) (mCons (mCst (.str "d")) (mCons (mCst (.str "c")) (mNil)))) mkTup) (mNil)))))) mkLst)) (gN 5) (sSeq (sIf (mB (m2 (mA (mCons (mA (mCons (mVar 6) (mCons (mVar 5) (mNil))) f_moved) (mNil)) bRepr) (mA (mCons (mA (mCons (mVar 6) (mCons (mVar 5) (mNil))) f__law_moved) (mNil)) bRepr) (Cop.f .ne))) (sSeq (sRet (mCst (.bl false))) (sNext)) (sNext)) (sNext))) (sSeq (sAsg (mA (mCons (mComp false (mRng (mCons (mA (mCons (mVar 1) (mCons (mCst (.int 5)) (mNil))) f__law_draw) (mNil))) (gN 12) (mYes) (mA (mCons (mVar 1) (mNil)) f__law_shifts) [12]) (mNil)) bTup) (gN 7)) (sSeq (sPar 9 10 (mCons (mA (mCons (mA (mCons (mVar 3) (mCons (mVar 7) (mNil))) mkTup) (mNil)) bRepr) (mCons (mA (mCons (mVar 7) (mNil)) bLen) (mNil)))) (sSeq (sFor (mRng (mCons (m1 (mCst (.int 1)) opNeg) (mCons (m2 (mVar 10) (mCst (.int 2)) opAdd) (mNil)))) (gN 8) (sSeq (sFor (mSeq (mA (mCons (mCst .non) (mCons (m2 (mVar 8) (mCst (.int 1)) opSub) (mCons (mVar 8) (mCons (m2 (mVar 8) (mCst (.int 1)) opAdd) (mCons (mVar 10) (mCons (m2 (mVar 10) (mCst (.int 1)) opAdd) (mNil))))))) mkLst)) (gN 11) (sSeq (sAsg (mA (mCons (mA (mCons (mVar 3) (mCons (mVar 7) (mCons (mVar 8) (mCons (mVar 11) (mCons (mCst (.str "who")) (mNil)))))) f__law_due) (mNil)) bRepr) (gN 13)) (sSeq (sIf (mB (m2 (mA (mCons (mTell 5 1 "said" (pickH 2 (hL K44.th14)) (mA (mKw 2 3 [] [.p 0, .p 1, .k 0, .k 1, .k 2] (mCons (mVar 3) (mCons (mVar 7) (mNil))) (mCons (mVar 8) (mCons (mVar 11) (mCons (mCst (.str "who")) (mNil))))) f_led)) (mNil)) bRepr) (mVar 13) (Cop.f .ne))) (sSeq (sRet (mCst (.bl false))) (sNext)) (sNext)) (sNext)))) (sSeq (sIf (mB (m2 (mA (mCons (mTell 5 1 "said" (pickH 2 (hL K44.th14)) (mA (mKw 2 1 [.non, .str ""] [.p 0, .p 1, .k 0, .d 0, .d 1] (mCons (mVar 3) (mCons (mVar 7) (mNil))) (mCons (mVar 8) (mNil))) f_led)) (mNil)) bRepr) (mA (mCons (mA (mCons (mVar 3) (mCons (mVar 7) (mCons (mVar 8) (mCons (mCst .non) (mCons (mCst (.str "")) (mNil)))))) f__law_due) (mNil)) bRepr) (Cop.f .ne))) (sSeq (sRet (mCst (.bl false))) (sNext)) (sNext)) (sNext)))) (sSeq (sIf (mB (m2 (mA (mCons (mA (mCons (mVar 3) (mCons (mVar 7) (mNil))) mkTup) (mNil)) bRepr) (mVar 9) (Cop.f .ne))) (sSeq (sRet (mCst (.bl false))) (sNext)) (sNext)) (sNext))))))))))))
section
variable {x0 x2 x4 x5 x6 x7 x8 x9 x10 x11 x12 x13 : Option PV}
theorem l1_sp {fs} (hs : SpShY fs) {D : Nat} {g1 : GO} {S : GH} {c : PV} (f1 : Fd D g1) (hD : D + 8 * (3 + cG 1) ≤ 900000000) :
    @wq PV (mComp true (mRng (mCons (mCst (.int 8)) (mNil))) (gN 12) (mYes) (mA (mCons (mVar 1) (mNil)) fs) [12] (envY x0 x2 c x4 x5 x6 x7 x8 x9 x10 x11 x12 x13) (g1 :: S)) ⟨fun v G' => ∃ (g' : GO) (L : List Sh), v = .obj (S.length + 1) ∧ G' = g' :: (S ++ [.lst (L.map shV)]) ∧ Fd (D + 8 * (3 + cG 1)) g' ∧ L.length = 8 ∧ ∀ s ∈ L, ShB s⟩ := by
  have key : @wq PV (mComp false (mRng (mCons (mCst (.int (8 : Nat))) (mNil))) (gN 12) (mYes) (mA (mCons (mVar 1) (mNil)) fs) [12] (envY x0 x2 c x4 x5 x6 x7 x8 x9 x10 x11 x12 x13) (g1 :: S)) ⟨fun p G' => ∃ ys, p = .lst ys ∧ ∃ g', G' = g' :: S ∧ Fd (D + 8 * (3 + cG 1)) g' ∧ ys.length = 8 ∧ ∀ y ∈ ys, IsSh y⟩ := by
    refine y_compRk (fun j G => ∃ g', G = g' :: S ∧ Fd (D + j * (3 + cG 1)) g') IsSh (by decide) ⟨g1, rfl, f1.mono (by omega)⟩ ?_ ?_
    · intro i j G _ hj ⟨g2, e, h2⟩
      subst e
      simp [envY, wipeE]
      have hj2 : j * (3 + cG 1) ≤ 7 * (3 + cG 1) := Nat.mul_le_mul_right _ (by omega)
      refine wq_use (hs _ _ _ h2 (by omega)) fun p G' ⟨g3, e, h3, h4⟩ => ⟨⟨g3, e, h3.mono (by have := Nat.succ_mul j (3 + cG 1); simp only [Nat.succ_eq_add_one] at *; omega)⟩, h4⟩
    · intro ys G ⟨g2, e, h2⟩ hy hl
      exact ⟨ys, rfl, g2, e, h2, hl, hy⟩
  have e8 : (((8 : Nat) : Int)) = 8 := rfl
  rw [e8] at key
  refine wq_use (comp_true key) fun v G' ⟨ys, G1, e1, e2, g2, e3, f2, ly, hy⟩ => ?_
  subst e1 e2 e3
  obtain ⟨L, rfl, hL⟩ := list_ex hy
  exact ⟨g2, L, rfl, rfl, f2, by simpa using ly, hL⟩
theorem l2_eq {g2 : GO} {S : GH} {c : PV} {L : List Sh} (lL : L.length = 8) : (sAsg (m2 (mVar 4) (mA (mCons (mA (mCons (mCst (.str "move")) (mCons (mCst (.str "a")) (mCons (mCst (.str "a")) (mNil)))) mkTup) (mCons (mA (mCons (mCst (.str "out")) (mCons (mCst (.str "a")) (mCons (mCst (.str "a")) (mNil)))) mkTup) (mCons (mA (mCons (mCst (.str "out")) (mCons (mCst (.str "b")) (mCons (mCst (.str "c")) (mNil)))) mkTup) (mCons (mA (mCons (mCst (.str "into")) (mCons (mCst (.str "c")) (mCons (mCst (.str "c")) (mNil)))) mkTup) (mNil))))) mkLst) opAddO) (gN 4)) (envY x0 x2 c (some (.obj (S.length + 1))) x5 x6 x7 x8 x9 x10 x11 x12 x13) (g2 :: (S ++ [.lst (L.map shV)])) = .ok (.next (envY x0 x2 c (some (.obj (S.length + 2))) x5 x6 x7 x8 x9 x10 x11 x12 x13)) (g2 :: (S ++ [.lst (L.map shV), .lst (L.map shV ++ sh4.map shV)])) := by
  have sz := size_line
  have ev : opAddO [.obj (S.length + 1), .lst (sh4.map shV)] (g2 :: (S ++ [.lst (L.map shV)])) = .ok (.obj (S.length + 2)) (g2 :: (S ++ [.lst (L.map shV), .lst (L.map shV ++ sh4.map shV)])) := by
    have l : (g2 :: (S ++ [GO.lst (L.map shV)]))[S.length + 1]? = some (.lst (L.map shV)) := by simp
    have n : (L.map shV).length + (sh4.map shV).length ≤ 16777216 := by simp [lL, sh4]
    simp only [opAddO, asL, l, sz, if_pos n]
    simp
  refine (asgN (v := .obj (S.length + 2)) (G' := g2 :: (S ++ [.lst (L.map shV), .lst (L.map shV ++ sh4.map shV)])) ?_).trans rfl
  have m4 : (mA (mCons (mA (mCons (mCst (.str "move")) (mCons (mCst (.str "a")) (mCons (mCst (.str "a")) (mNil)))) mkTup) (mCons (mA (mCons (mCst (.str "out")) (mCons (mCst (.str "a")) (mCons (mCst (.str "a")) (mNil)))) mkTup) (mCons (mA (mCons (mCst (.str "out")) (mCons (mCst (.str "b")) (mCons (mCst (.str "c")) (mNil)))) mkTup) (mCons (mA (mCons (mCst (.str "into")) (mCons (mCst (.str "c")) (mCons (mCst (.str "c")) (mNil)))) mkTup) (mNil))))) mkLst) (envY x0 x2 c (some (.obj (S.length + 1))) x5 x6 x7 x8 x9 x10 x11 x12 x13) (g2 :: (S ++ [.lst (L.map shV)])) = .ok (.lst (sh4.map shV)) (g2 :: (S ++ [.lst (L.map shV)])) := by simp [sz, sh4, shV]
  have e0 : mVar 4 (envY x0 x2 c (some (.obj (S.length + 1))) x5 x6 x7 x8 x9 x10 x11 x12 x13) (g2 :: (S ++ [.lst (L.map shV)])) = .ok (.obj (S.length + 1)) (g2 :: (S ++ [.lst (L.map shV)])) := rfl
  simp only [m2, e0, Res.bind_ok, m4, ev]
theorem l3_eq {g2 : GO} {S : GH} {c : PV} {L : List Sh} (lL : L.length = 8) : (sDrop (mMet "list" (mVar 4) (mCons (mA (mCons (mCst (.str "put")) (mCons (mCst (.str "d")) (mCons (mVar 3) (mNil)))) mkTup) (mNil)) fAppend)) (envY x0 x2 c (some (.obj (S.length + 2))) x5 x6 x7 x8 x9 x10 x11 x12 x13) (g2 :: (S ++ [.lst (L.map shV), .lst (L.map shV ++ sh4.map shV)])) = .ok (.next (envY x0 x2 c (some (.obj (S.length + 2))) x5 x6 x7 x8 x9 x10 x11 x12 x13)) (g2 :: (S ++ [.lst (L.map shV), .lst ((L ++ sh4 ++ [Sh.put "d" c]).map shV)])) := by
  have sz := size_line
  have l : (g2 :: (S ++ [GO.lst (L.map shV), .lst (L.map shV ++ sh4.map shV)]))[S.length + 2]? = some (.lst (L.map shV ++ sh4.map shV)) := by simp
  have n : (L.map shV ++ sh4.map shV).length < 16777216 := by simp [lL, sh4]
  have st : (g2 :: (S ++ [GO.lst (L.map shV), .lst (L.map shV ++ sh4.map shV)])).set (S.length + 2) (.lst (L.map shV ++ sh4.map shV ++ [.tup [.str "put", .str "d", c]])) = g2 :: (S ++ [.lst (L.map shV), .lst ((L ++ sh4 ++ [Sh.put "d" c]).map shV)]) := by
    simp [List.set_cons_succ, List.set_append, shV]
  have ap : fAppend (.obj (S.length + 2)) [.tup [.str "put", .str "d", c]] (g2 :: (S ++ [.lst (L.map shV), .lst (L.map shV ++ sh4.map shV)])) = .ok .non (g2 :: (S ++ [.lst (L.map shV), .lst ((L ++ sh4 ++ [Sh.put "d" c]).map shV)])) := by
    simp only [fAppend, l, sz, if_pos n, st]
  have ty : tyP (g2 :: (S ++ [GO.lst (L.map shV), .lst (L.map shV ++ sh4.map shV)])) (.obj (S.length + 2)) = some "list" := by simp only [tyP, l]
  have t3 : mkTup [.str "put", .str "d", c] (g2 :: (S ++ [GO.lst (L.map shV), .lst (L.map shV ++ sh4.map shV)])) = .ok (.tup [.str "put", .str "d", c]) (g2 :: (S ++ [GO.lst (L.map shV), .lst (L.map shV ++ sh4.map shV)])) := rfl
  simp only [sDrop_ap, mMet, envY, mVar_ap, List.getElem?_cons_succ, List.getElem?_cons_zero, Res.bind_ok, ty, if_true, mA_ap, mCons_ap, mNil_ap, mCst_ap, t3, ap]
theorem l7_sp {fd fss} (hd : SpDraw fd) (hss : SpShs fss) {D : Nat} {g2 : GO} {S5 : GH} {c : PV} (f2 : Fd D g2) (hD : D + (1 + 4 * (1 + 3 * (3 + cG 1))) ≤ 900000000) :
    @wq PV (mA (mCons (mComp false (mRng (mCons (mA (mCons (mVar 1) (mCons (mCst (.int 5)) (mNil))) fd) (mNil))) (gN 12) (mYes) (mA (mCons (mVar 1) (mNil)) fss) [12]) (mNil)) bTup (envY x0 x2 c x4 x5 x6 x7 x8 x9 x10 x11 x12 x13) (g2 :: S5)) ⟨fun v G' => ∃ (g' : GO) (fs : List (List Sh)), v = FV fs ∧ G' = g' :: S5 ∧ Fd (D + (1 + 4 * (1 + 3 * (3 + cG 1)))) g' ∧ FsB fs⟩ := by
  have key : @wq PV (mComp false (mRng (mCons (mA (mCons (mVar 1) (mCons (mCst (.int 5)) (mNil))) fd) (mNil))) (gN 12) (mYes) (mA (mCons (mVar 1) (mNil)) fss) [12] (envY x0 x2 c x4 x5 x6 x7 x8 x9 x10 x11 x12 x13) (g2 :: S5)) ⟨fun p G' => ∃ g' ys, p = .lst ys ∧ G' = g' :: S5 ∧ Fd (D + (1 + 4 * (1 + 3 * (3 + cG 1)))) g' ∧ ys.length ≤ 4 ∧ ∀ y ∈ ys, IsFr y⟩ := by
    refine wq_compRg (B := 4) (fun j G => ∃ g', G = g' :: S5 ∧ Fd (D + 1 + j * (1 + 3 * (3 + cG 1))) g') IsFr (by decide) ?_ ?_ ?_
    · simp [envY]
      exact wq_draw hd f2 (by decide) (by decide) (by omega) fun q g2 q0 q1 hg2 => ⟨q.toNat, by rw [Int.toNat_of_nonneg q0], by omega, g2, rfl, hg2.mono (by omega)⟩
    · intro i j G _ hj ⟨g2, e, h2⟩
      subst e
      simp [envY, wipeE]
      have hj2 : j * (1 + 3 * (3 + cG 1)) ≤ 3 * (1 + 3 * (3 + cG 1)) := Nat.mul_le_mul_right _ (by omega)
      refine wq_use (hss _ _ _ h2 (by omega)) fun p G' ⟨g3, e, h3, h4⟩ => ⟨⟨g3, e, h3.mono (by have := Nat.succ_mul j (1 + 3 * (3 + cG 1)); simp only [Nat.succ_eq_add_one] at *; omega)⟩, h4⟩
    · intro ys k G hk ⟨g2, e, h2⟩ hy hl
      have hk2 : k * (1 + 3 * (3 + cG 1)) ≤ 4 * (1 + 3 * (3 + cG 1)) := Nat.mul_le_mul_right _ hk
      exact ⟨g2, ys, rfl, e, h2.mono (by omega), by omega, hy⟩
  simp only [mA_ap, mCons_ap, mNil_ap, wq_bind, wq_ok]
  refine wq_use key fun p G' ⟨g', ys, e1, e2, h1, h2, h3⟩ => ?_
  subst e1 e2
  obtain ⟨fs, rfl, hf⟩ := list_ex h3
  have bt : bTup [.lst (fs.map fV)] (g' :: S5) = .ok (FV fs) (g' :: S5) := by
    simp [bTup, asS, asL, size_line, FV]
  simp only [Res.bind_ok, bt, wq_ok]
  exact ⟨g', fs, rfl, rfl, h1, by simpa using h2, hf⟩
theorem rg_two {i j : Int} {G : GH} (h1 : -1000 ≤ i) (h2 : i ≤ j) (h3 : j ≤ 10000) : rgSrc [.int i, .int j] G = .ok ⟨rgIts i (j - i).toNat, fun _ => true⟩ G := by
  simp only [rgSrc]
  rw [if_pos ⟨⟨by omega, by omega, by omega, by omega⟩, by rw [size_line]; omega⟩]
theorem l9_src {G : GH} {c : PV} {n : Nat} (hn : n ≤ 1000) : (mRng (mCons (m1 (mCst (.int 1)) opNeg) (mCons (m2 (mVar 10) (mCst (.int 2)) opAdd) (mNil)))) (envY x0 x2 c x4 x5 x6 x7 x8 x9 (some (.int n)) x11 x12 x13) G = .ok ⟨rgIts (-1) ((n : Int) + 2 - -1).toNat, fun _ => true⟩ G := by
  have e1 : ∀ ρ G, m1 (mCst (.int 1)) opNeg ρ G = .ok (.int (-1)) G := fun ρ G => rfl
  have e2 : m2 (mVar 10) (mCst (.int 2)) opAdd (envY x0 x2 c x4 x5 x6 x7 x8 x9 (some (.int n)) x11 x12 x13) G = .ok (.int ((n : Int) + 2)) G := by simp [envY]
  have e3 : mCons (m1 (mCst (.int 1)) opNeg) (mCons (m2 (mVar 10) (mCst (.int 2)) opAdd) mNil) (envY x0 x2 c x4 x5 x6 x7 x8 x9 (some (.int n)) x11 x12 x13) G = .ok [.int (-1), .int ((n : Int) + 2)] G := by
    simp only [mCons, mNil, e1, e2, Res.bind_ok]
  unfold mRng
  rw [e3, Res.bind_ok]
  exact rg_two (by omega) (by omega) (by omega)
theorem l9_eq {fdu fl} (hdu : SpDu fdu) (hl : SpLed fl) {c : List (Str × PV)} {fs : List (List Sh)} {G : GH} (hcd : CdB c) (hfs : FsB fs) : ∃ y8 y11 y13, sFor ((mRng (mCons (m1 (mCst (.int 1)) opNeg) (mCons (m2 (mVar 10) (mCst (.int 2)) opAdd) (mNil))))) (gN 8) (ldB9 fdu fl) (envY x0 x2 (treeV c) x4 x5 x6 (some (FV fs)) x8 x9 (some (.int fs.length)) x11 x12 x13) G = .ok (.next (envY x0 x2 (treeV c) x4 x5 x6 (some (FV fs)) y8 x9 (some (.int fs.length)) y11 x12 y13)) G := by
  have l4 := hfs.1
  obtain ⟨ρ', e, y8, y11, y13, rfl⟩ := for_same (S := ⟨rgIts (-1) ((fs.length : Int) + 2 - -1).toNat, fun _ => true⟩) (t := gN 8) (b := ldB9 fdu fl) (G := G) rfl (fun ρ => ∃ y8 y11 y13, ρ = envY x0 x2 (treeV c) x4 x5 x6 (some (FV fs)) y8 x9 (some (.int fs.length)) y11 x12 y13) (fun y hy ρ ⟨y8, y11, y13, e⟩ => by
    subst e
    obtain ⟨i, hi, rfl⟩ := List.mem_map.mp hy
    have hi := List.mem_range.mp hi
    obtain ⟨z11, z13, e⟩ := ldb_step hdu hl (lo := -1 + (i : Int)) (x0 := x0) (x2 := x2) (x4 := x4) (x5 := x5) (x6 := x6) (x8 := y8) (x9 := x9) (x11 := y11) (x12 := x12) (x13 := y13) (G := G) hcd hfs (by omega)
    exact ⟨_, e, _, z11, z13, rfl⟩) (l9_src (by omega)) ⟨x8, x11, x13, rfl⟩
  exact ⟨y8, y11, y13, e⟩
theorem l4_eq {flm fm} (hlm : SpMv flm) (hm : SpMv fm) {c : List (Str × PV)} {G : GH} {n : Nat} {L2 : List Sh} (hcd : CdB c) (hall : ∀ s ∈ L2, ShC s) (l2 : G[n]? = some (.lst (L2.map shV))) : ∃ y5 y9, sFor (mSeq (mVar 4)) (gN 5) (mvS flm fm) (envY x0 x2 (treeV c) (some (.obj n)) x5 x6 x7 x8 x9 x10 x11 x12 x13) G = .ok (.next (envY x0 x2 (treeV c) (some (.obj n)) y5 x6 x7 x8 y9 x10 x11 x12 x13)) G := by
  obtain ⟨ρ', e, y5, y9, rfl⟩ := for_same (S := ⟨L2.map shV, isLstAt n (L2.map shV)⟩) (t := gN 5) (b := mvS flm fm) (G := G) (by simp only [isLstAt, l2]; exact PV.sames_self _) (fun ρ => ∃ y5 y9, ρ = envY x0 x2 (treeV c) (some (.obj n)) y5 x6 x7 x8 y9 x10 x11 x12 x13) (fun y hy ρ ⟨y5, y9, e⟩ => by
    subst e
    obtain ⟨s, hs, rfl⟩ := List.mem_map.mp hy
    obtain ⟨z9, e⟩ := mv_step hlm hm (x0 := x0) (x2 := x2) (x4 := some (.obj n)) (x5 := y5) (x6 := x6) (x7 := x7) (x8 := x8) (x9 := y9) (x10 := x10) (x11 := x11) (x12 := x12) (x13 := x13) (G := G) hcd (hall s hs)
    exact ⟨_, e, some (shV s), z9, rfl⟩) (ms := mSeq (mVar 4)) (ρ := envY x0 x2 (treeV c) (some (.obj n)) x5 x6 x7 x8 x9 x10 x11 x12 x13) (by simp [mSeq, envY, seqSrc, l2]) ⟨x5, x9, rfl⟩
  exact ⟨y5, y9, e⟩
theorem l6_eq {flm fm} (hlm : SpMv flm) (hm : SpMv fm) {c : List (Str × PV)} {G : GH} : ∃ y5, (sFor (mSeq (mA (mCons (mA (mCons (mCst (.str "out")) (mCons (mCst (.str "a")) (mCons (mCst (.str "c")) (mNil)))) mkTup) (mCons (mA (mCons (mCst (.str "out")) (mCons (mCst (.str "a")) (mCons (mCst (.str "b")) (mNil)))) mkTup) (mCons (mA (mCons (mCst (.str "out")) (mCons (mCst (.str "a")) (mCons (mCst (.str "a")) (mNil)))) mkTup) (mCons (mA (mCons (mCst (.str "out")) (mCons (mCst (.str "b")) (mCons (mCst (.str "c")) (mNil)))) mkTup) (mCons (mA (mCons (mCst (.str "out")) (mCons (mCst (.str "d")) (mCons (mCst (.str "c")) (mNil)))) mkTup) (mNil)))))) mkLst)) (gN 5) (sSeq (sIf (mB (m2 (mA (mCons (mA (mCons (mVar 6) (mCons (mVar 5) (mNil))) fm) (mNil)) bRepr) (mA (mCons (mA (mCons (mVar 6) (mCons (mVar 5) (mNil))) flm) (mNil)) bRepr) (Cop.f .ne))) (sSeq (sRet (mCst (.bl false))) (sNext)) (sNext)) (sNext))) (envY x0 x2 (treeV c) x4 x5 (some (treeV innerK)) x7 x8 x9 x10 x11 x12 x13) G = .ok (.next (envY x0 x2 (treeV c) x4 y5 (some (treeV innerK)) x7 x8 x9 x10 x11 x12 x13)) G := by
  obtain ⟨ρ', e, z5, rfl⟩ := for_same (S := ⟨sh5.map shV, fun _ => true⟩) (t := gN 5) (b := inSY flm fm) (G := G) rfl (fun ρ => ∃ y5, ρ = envY x0 x2 (treeV c) x4 y5 (some (treeV innerK)) x7 x8 x9 x10 x11 x12 x13) (fun y hy ρ ⟨y5, e⟩ => by
    subst e
    obtain ⟨s, hs, rfl⟩ := List.mem_map.mp hy
    exact ⟨_, in_step hlm hm inner_ok (sh5_ok s hs), some (shV s), rfl⟩) (ms := (mSeq (mA (mCons (mA (mCons (mCst (.str "out")) (mCons (mCst (.str "a")) (mCons (mCst (.str "c")) (mNil)))) mkTup) (mCons (mA (mCons (mCst (.str "out")) (mCons (mCst (.str "a")) (mCons (mCst (.str "b")) (mNil)))) mkTup) (mCons (mA (mCons (mCst (.str "out")) (mCons (mCst (.str "a")) (mCons (mCst (.str "a")) (mNil)))) mkTup) (mCons (mA (mCons (mCst (.str "out")) (mCons (mCst (.str "b")) (mCons (mCst (.str "c")) (mNil)))) mkTup) (mCons (mA (mCons (mCst (.str "out")) (mCons (mCst (.str "d")) (mCons (mCst (.str "c")) (mNil)))) mkTup) (mNil)))))) mkLst))) (ρ := envY x0 x2 (treeV c) x4 x5 (some (treeV innerK)) x7 x8 x9 x10 x11 x12 x13) (by simp [mSeq, seqSrc, size_line, sh5, shV]) ⟨x5, rfl⟩
  exact ⟨z5, e⟩
theorem l5_eq {c : PV} {G : GH} : (sAsg (mA (mCons (mCst (.str "tree")) (mCons (mA (mCons (mA (mCons (mCst (.str "a")) (mCons (mA (mCons (mCst (.str "tree")) (mCons (mA (mCons (mA (mCons (mCst (.str "b")) (mCons (mCst (.int 1)) (mNil))) mkTup) (mCons (mA (mCons (mCst (.str "c")) (mCons (mCst (.bl true)) (mNil))) mkTup) (mNil))) mkTup) (mNil))) mkTup) (mNil))) mkTup) (mCons (mA (mCons (mCst (.str "b")) (mCons (mA (mCons (mCst (.str "row")) (mCons (mA (mNil) mkTup) (mNil))) mkTup) (mNil))) mkTup) (mCons (mA (mCons (mCst (.str "d")) (mCons (mA (mCons (mCst (.str "tree")) (mCons (mA (mNil) mkTup) (mNil))) mkTup) (mNil))) mkTup) (mNil)))) mkTup) (mNil))) mkTup) (gN 6)) (envY x0 x2 c x4 x5 x6 x7 x8 x9 x10 x11 x12 x13) G = .ok (.next (envY x0 x2 c x4 x5 (some (treeV innerK)) x7 x8 x9 x10 x11 x12 x13)) G :=
  (asgN (v := treeV innerK) (G' := G) (by simp [size_line, innerK, treeV, rowV, fldV])).trans rfl
theorem pr_eq {c : List (Str × PV)} {fs : List (List Sh)} {G : GH} (hcd : CdB c) (hfs : FsB fs) : mA (mCons (mA (mCons (mVar 3) (mCons (mVar 7) (mNil))) mkTup) (mNil)) bRepr (envY x0 x2 (treeV c) x4 x5 x6 (some (FV fs)) x8 x9 x10 x11 x12 x13) G = .ok (.str (rep (.tup [treeV c, FV fs]))) G :=
  repr_at (p := .tup [treeV c, FV fs]) (by simp [envY, size_line]) (two_sm hcd.sm (fs_sm hfs)) (by decide) (by decide)
theorem l8_eq {c : List (Str × PV)} {fs : List (List Sh)} {G : GH} (hcd : CdB c) (hfs : FsB fs) : (sPar 9 10 (mCons (mA (mCons (mA (mCons (mVar 3) (mCons (mVar 7) (mNil))) mkTup) (mNil)) bRepr) (mCons (mA (mCons (mVar 7) (mNil)) bLen) (mNil)))) (envY x0 x2 (treeV c) x4 x5 x6 (some (FV fs)) x8 x9 x10 x11 x12 x13) G = .ok (.next (envY x0 x2 (treeV c) x4 x5 x6 (some (FV fs)) x8 (some (.str (rep (.tup [treeV c, FV fs])))) (some (.int fs.length)) x11 x12 x13)) G := by
  have ln : mA (mCons (mVar 7) mNil) bLen (envY x0 x2 (treeV c) x4 x5 x6 (some (FV fs)) x8 x9 x10 x11 x12 x13) G = .ok (.int fs.length) G := by simp [envY, FV]
  simp only [sPar, mCons, mNil, pr_eq hcd hfs, ln, Res.bind_ok]
  rfl
end
theorem lap44_sp {fc fd fdu flm fs fss fl fm} (hc : SpCd4 2 fc) (hd : SpDraw fd) (hdu : SpDu fdu) (hlm : SpMv flm) (hs : SpShY fs) (hss : SpShs fss) (hl : SpLed fl) (hm : SpMv fm) {D : Nat} {g : GO} {S : GH} (hf : Fd D g) (hD : D + cL44 ≤ 900000000) {x : PV} {x0 x2 x3 x4 x5 x6 x7 x8 x9 x10 x11 x12 x13 : Option PV} :
    @wq Fl (forStep (gN 2) (lap44 fc fd fdu flm fs fss fl fm) x [x0, some (.obj 0), x2, x3, x4, x5, x6, x7, x8, x9, x10, x11, x12, x13] (g :: S))
    ⟨fun fl G' => ∃ ρ', (fl = .next ρ' ∨ fl = .cont ρ') ∧ ∃ (x2 x3 x4 x5 x6 x7 x8 x9 x10 x11 x12 x13 : Option PV) (g' : GO) (S' : GH), ρ' = [x0, some (.obj 0), x2, x3, x4, x5, x6, x7, x8, x9, x10, x11, x12, x13] ∧ G' = g' :: S' ∧ Fd (D + cL44) g'⟩ := by
  have cL : cL44 = 5 + 4 * cG 2 + 8 * (3 + cG 1) + (1 + 4 * (1 + 3 * (3 + cG 1))) := rfl
  simp only [forStep_ap, gN_ap, wq_bind, wq_ok, List.set]
  unfold lap44
  refine wq_seq4 (fun ρ' G' => ∃ (g' : GO) (c : List (Str × PV)), ρ' = envY x0 (some x) (treeV c) x4 x5 x6 x7 x8 x9 x10 x11 x12 x13 ∧ G' = g' :: S ∧ Fd (D + (5 + 4 * cG 2)) g' ∧ JT 2 c) ?_ fun ρ' G' ⟨g1, c, e1, e2, f1, jt⟩ => ?_
  · refine wq_hide fun Q hQ => ?_
    simp
    refine wq_use (hc D g S hf (by omega)) fun v G' ⟨g2, e2, f2, c, e1, jt⟩ => ?_
    subst e1 e2
    simp only [gN_ap, Res.bind_ok, wq_ok]
    exact hQ _ _ ⟨_, rfl, g2, c, rfl, rfl, f2, jt⟩
  subst e1 e2
  have hcd := jt_cd jt
  refine wq_seq4 (fun ρ' G' => ∃ (g' : GO) (L : List Sh), ρ' = envY x0 (some x) (treeV c) (some (.obj (S.length + 1))) x5 x6 x7 x8 x9 x10 x11 x12 x13 ∧ G' = g' :: (S ++ [.lst (L.map shV)]) ∧ Fd (D + (5 + 4 * cG 2) + 8 * (3 + cG 1)) g' ∧ L.length = 8 ∧ ∀ s ∈ L, ShB s) ?_ fun ρ' G' ⟨g2, L, e1, e2, f2, lL, hL⟩ => ?_
  · refine wq_asg (fun v G' => ∃ (g' : GO) (L : List Sh), v = .obj (S.length + 1) ∧ G' = g' :: (S ++ [.lst (L.map shV)]) ∧ Fd (D + (5 + 4 * cG 2) + 8 * (3 + cG 1)) g' ∧ L.length = 8 ∧ ∀ s ∈ L, ShB s) (l1_sp hs f1 (by omega)) fun v G' ⟨g2, L, e1, e2, f2, lL, hL⟩ => ?_
    subst e1 e2
    exact ⟨_, rfl, g2, L, rfl, rfl, f2, lL, hL⟩
  subst e1 e2
  refine wq_step (l2_eq lL) ?_
  refine wq_step (l3_eq lL) ?_
  have l2 : (g2 :: (S ++ [GO.lst (L.map shV), .lst ((L ++ sh4 ++ [Sh.put "d" (treeV c)]).map shV)]))[S.length + 2]? = some (.lst ((L ++ sh4 ++ [Sh.put "d" (treeV c)]).map shV)) := by simp
  generalize hS5 : S ++ [GO.lst (L.map shV), .lst ((L ++ sh4 ++ [Sh.put "d" (treeV c)]).map shV)] = S5 at l2 ⊢
  have hput : ShC (.put "d" (treeV c)) := ⟨⟨wA (by simp), hcd.dk.tree⟩, by have := hcd.sm.w; simpa [shW] using this, by have := hcd.sm.d; simpa [shD] using this⟩
  have hall : ∀ s ∈ L ++ sh4 ++ [Sh.put "d" (treeV c)], ShC s := fun s hs => by
    rcases List.mem_append.mp hs with hs | hs
    · rcases List.mem_append.mp hs with hs | hs
      · have := hL s hs
        exact ⟨this.1, by have := this.2.1; omega, by have := this.2.2; omega⟩
      · exact sh4_ok s hs
    · rw [List.mem_singleton.mp hs]; exact hput
  obtain ⟨y5, y9, e⟩ := l4_eq (x0 := x0) (x2 := some x) (x5 := x5) (x6 := x6) (x7 := x7) (x8 := x8) (x9 := x9) (x10 := x10) (x11 := x11) (x12 := x12) (x13 := x13) hlm hm hcd hall l2
  refine wq_step e ?_
  refine wq_step l5_eq ?_
  obtain ⟨z5, e⟩ := l6_eq (x0 := x0) (x2 := some x) (x4 := some (.obj (S.length + 2))) (x5 := y5) (x7 := x7) (x8 := x8) (x9 := y9) (x10 := x10) (x11 := x11) (x12 := x12) (x13 := x13) hlm hm (c := c) (G := g2 :: S5)
  refine wq_step e ?_
  refine wq_seq4 (fun ρ' G' => ∃ (g' : GO) (fs : List (List Sh)), ρ' = envY x0 (some x) (treeV c) (some (.obj (S.length + 2))) z5 (some (treeV innerK)) (some (FV fs)) x8 y9 x10 x11 x12 x13 ∧ G' = g' :: S5 ∧ Fd (D + cL44) g' ∧ FsB fs) ?_ fun ρ' G' ⟨g3, fs, e1, e2, f3, hfs⟩ => ?_
  · refine wq_asg (fun v G' => ∃ (g' : GO) (fs : List (List Sh)), v = FV fs ∧ G' = g' :: S5 ∧ Fd (D + (5 + 4 * cG 2) + 8 * (3 + cG 1) + (1 + 4 * (1 + 3 * (3 + cG 1)))) g' ∧ FsB fs) (l7_sp hd hss f2 (by omega)) fun v G' ⟨g3, fs, e1, e2, f3, hf⟩ => ?_
    subst e1 e2
    exact ⟨_, rfl, g3, fs, rfl, rfl, f3.mono (by omega), hf⟩
  subst e1 e2
  refine wq_step (l8_eq hcd hfs) ?_
  obtain ⟨y8, y11, y13, e⟩ := l9_eq (x0 := x0) (x2 := some x) (x4 := some (.obj (S.length + 2))) (x5 := z5) (x6 := some (treeV innerK)) (x8 := x8) (x9 := some (.str (rep (.tup [treeV c, FV fs])))) (x11 := x11) (x12 := x12) (x13 := x13) (G := g3 :: S5) hdu hl hcd hfs
  refine wq_step e ?_
  refine wq_step (ifF (ne_same (pr_eq hcd hfs) rfl)) ?_
  exact wq_next ⟨_, .inl rfl, _, _, _, _, _, _, _, _, _, _, _, _, g3, S5, rfl, rfl, f3⟩
theorem k44_sp {fc fd fdu flm fs fss ft fl fm} (hc : SpCd4 2 fc) (hd : SpDraw fd) (hdu : SpDu fdu) (hlm : SpMv flm) (hs : SpShY fs) (hss : SpShs fss) (hft : SpFeed ft) (hl : SpLed fl) (hm : SpMv fm) (ns : List Int) (hns : ns.length ≤ 63) :
    @wq PV (defV 1 K44.N_law (K44.b_law fc fd fdu flm fs fss ft fl fm) [.sls (ns.map .int)] []) ⟨fun v _ => v = .bl true⟩ := by
  have t4 : 4 * cL44 ≤ 900000000 := by decide
  refine wq_def rfl ?_
  unfold K44.b_law
  refine wq_seq4 (fun ρ' G' => ρ' = [some (.sls (ns.map .int)), some (.obj 0), none, none, none, none, none, none, none, none, none, none, none, none] ∧ G' = [feedO ns 0 0 0]) ?_ fun ρ' G' ⟨e1, e2⟩ => ?_
  · have e := hft ns [] hns
    simp [env0, K44.N_law, e]
  subst e1 e2
  refine wq_seq4 (fun ρ' G' => True) ?_ fun ρ' G' _ => wq_ret (fun p G' => p = .bl true) (by simp) fun p G' e => ?_
  · refine wq_forR (fun j ρ' G' => ∃ (x2 x3 x4 x5 x6 x7 x8 x9 x10 x11 x12 x13 : Option PV) (g' : GO) (S' : GH), ρ' = [some (.sls (ns.map .int)), some (.obj 0), x2, x3, x4, x5, x6, x7, x8, x9, x10, x11, x12, x13] ∧ G' = g' :: S' ∧ Fd (j * cL44) g') 4 (by decide) (by decide) rfl ⟨none, none, none, none, none, none, none, none, none, none, none, none, feedO ns 0 0 0, [], rfl, rfl, ns, 0, 0, 0, rfl, by decide, by decide, by decide, by decide⟩ ?_ ?_
    · intro i hi j ρ G hj2 ⟨x2, x3, x4, x5, x6, x7, x8, x9, x10, x11, x12, x13, g1, S1, e1, e2, f1⟩
      subst e1 e2
      have hm2 : j * cL44 ≤ 3 * cL44 := Nat.mul_le_mul_right _ (by omega)
      refine wq_use (lap44_sp hc hd hdu hlm hs hss hl hm f1 (by omega)) fun fl G' ⟨ρ', e, y2, y3, y4, y5, y6, y7, y8, y9, y10, y11, y12, y13, g2, S2, e1, e2, f2⟩ => ⟨ρ', e, y2, y3, y4, y5, y6, y7, y8, y9, y10, y11, y12, y13, g2, S2, e1, e2, f2.mono (by have := Nat.succ_mul j cL44; simp only [Nat.succ_eq_add_one] at this; omega)⟩
    · intro ρ G _
      exact ⟨_, rfl, trivial⟩
  · subst e
    show @wq PV (.ok (.bl true) G') ⟨fun v G2 => @wq PV (trimR [] (.ok v G2)) ⟨fun v _ => v = .bl true⟩⟩
    rw [wq_ok]
    unfold trimR
    simp only
    split <;> rw [wq_ok]
end EV.NV
end
section
set_option Elab.async false
set_option linter.all false
set_option maxRecDepth 100000
set_option maxHeartbeats 0
namespace K44
open PySem PySem.Spec PyProof.Rows L2 EV
def D0 : He.DefD := ⟨("in_tree", none), "in_tree", "in_tree", defArgs (top 17), defBody (top 17), defScope (top 17), [], []⟩
def D1 : He.DefD := ⟨("with_in_tree", none), "with_in_tree", "with_in_tree", defArgs (top 18), defBody (top 18), defScope (top 18), [], []⟩
def D2 : He.DefD := ⟨("moved_out", none), "moved_out", "moved_out", defArgs (top 19), defBody (top 19), defScope (top 19), [], []⟩
def D3 : He.DefD := ⟨("moved", none), "moved", "moved", defArgs (top 20), defBody (top 20), defScope (top 20), [], []⟩
def D4 : He.DefD := ⟨("led", none), "led", "led", defArgs (top 22), defBody (top 22), defScope (top 22), [], [("upto", .non), ("holder", .str "")]⟩
def D5 : He.DefD := ⟨("_law_tape", none), "_law_tape", "_law_tape", defArgs (top 24), defBody (top 24), defScope (top 24), [], []⟩
def D6 : He.DefD := ⟨("_law_draw", none), "_law_draw", "_law_draw", defArgs (top 25), defBody (top 25), defScope (top 25), [], []⟩
def D7 : He.DefD := ⟨("_law_grain", none), "_law_grain", "_law_grain", defArgs (top 26), defBody (top 26), defScope (top 26), [], []⟩
def D8 : He.DefD := ⟨("_law_card", none), "_law_card", "_law_card", defArgs (top 27), defBody (top 27), defScope (top 27), [], []⟩
def D9 : He.DefD := ⟨("_law_is_plain", none), "_law_is_plain", "_law_is_plain", defArgs (top 28), defBody (top 28), defScope (top 28), [], []⟩
def D10 : He.DefD := ⟨("_law_moved", none), "_law_moved", "_law_moved", defArgs (top 29), defBody (top 29), defScope (top 29), [], []⟩
def D11 : He.DefD := ⟨("_law_led", none), "_law_led", "_law_led", defArgs (top 30), defBody (top 30), defScope (top 30), [], []⟩
def D12 : He.DefD := ⟨("_law_shift", none), "_law_shift", "_law_shift", defArgs (top 31), defBody (top 31), defScope (top 31), [], []⟩
def D13 : He.DefD := ⟨("_law_shifts", none), "_law_shifts", "_law_shifts", defArgs (top 32), defBody (top 32), defScope (top 32), [], []⟩
def D14 : He.DefD := ⟨("_law_refused", none), "_law_refused", "_law_refused", defArgs (top 33), defBody (top 33), defScope (top 33), [], []⟩
def D15 : He.DefD := ⟨("_law_due", none), "_law_due", "_law_due", defArgs (top 34), defBody (top 34), defScope (top 34), [], []⟩
def D16 : He.DefD := ⟨("law", none), "law", "law", defArgs (top 35), defBody (top 35), defScope (top 35), [], []⟩
def DI_NoMark : He.DefD := ⟨("NoMark", some "__init__"), "__init__", "NoMark.__init__", defArgs (clsInit (top 12)), defBody (clsInit (top 12)), defScope (clsInit (top 12)), [], []⟩
def DI_NoLead : He.DefD := ⟨("NoLead", some "__init__"), "__init__", "NoLead.__init__", defArgs (clsInit (top 6)), defBody (clsInit (top 6)), defScope (clsInit (top 6)), [], []⟩
def fn : List He.DefD := [D0, D1, D2, D3, D4, D5, D6, D7, D8, D9, D10, D11, D12, D13, D14, D15, D16, DI_NoMark, DI_NoLead]
def fa : List He.Fa := [.glo "in_tree", .glo "with_in_tree", .glo "moved_out", .glo "moved", .glo "led", .glo "_law_tape", .glo "_law_draw", .glo "_law_grain", .glo "_law_card", .glo "_law_is_plain", .glo "_law_moved", .glo "_law_led", .glo "_law_shift", .glo "_law_shifts", .glo "_law_refused", .glo "_law_due", .glo "law", .free "LookupError", .free "ValueError", .free "dict", .free "isinstance", .free "len", .free "range", .free "repr", .free "sorted", .free "tuple", .glo "NoMark", .glo "NoLead", .glo "FolioError", .glo "NoPaper", .glo "NoKey", .glo "NoChange", .glo "NoTurn", .glo "Behind", .glo "NoText", .glo "NoRow", .glo "LackError", .glo "NoId", .glo "NoName", .glo "NoHouse", .glo "NoStep"]
def tf : List He.Defn := [("with_in_tree", none), ("law", none)]
abbrev R : PySem.W.OpenRow := PySem.W.OpenLaw.row PySem.Challenge.rw_pathfolios_k44_moved_and_led_told
def cs : List (Str × PV) := []
def cnm : List Str := ["NoMark", "NoLead", "FolioError", "NoPaper", "NoKey", "NoChange", "NoTurn", "Behind", "NoText", "NoRow", "LackError", "NoId", "NoName", "NoHouse", "NoStep"]
def xfs : List XFa := [.any fun K => xclsLB K "NoMark" ["mark"], .cls "NoLead" ["holder", "edition"], .base "FolioError", .any fun K => xbaseLB K (He.ga K "LackError"), .exm "NoMark" "FolioError" false, .exc "NoMark", .exm "NoLead" "FolioError" true, .exc "NoLead", .kit "NoLead" "NoPaper" false, .kit "NoLead" "NoKey" false, .kit "NoLead" "NoLead" true, .kitA "NoLead" ["NoChange", "NoTurn", "Behind", "NoText", "NoRow", "LackError"] false, .kitT "NoLead" "ValueError" true, .noat "NoLead" "holder", .noat "NoLead" "edition", .exm "NoMark" "LackError" true, .kit "NoMark" "NoMark" true, .kit "NoMark" "NoId" false, .kit "NoMark" "NoName" false, .kitT "NoMark" "LookupError" true, .kitA "NoMark" ["NoHouse", "NoStep"] false, .noat "NoMark" "mark", .exm "NoLead" "LackError" false]
abbrev hk : PySem.W.Hook := EV.hookXS 5 fa fn [] tf (eachX xfs (eachC tf cs))
def ob (s : PySem.W.SharedT) : He.AlX := EV.obsXS 5 fa fn [] tf (eachX xfs (eachC tf cs)) (HandSHeadRun.getT s)
theorem ob_eq (s : PySem.W.SharedT) : ob s = hk.obs s.abs := EV.obsXS_eq (HandSHeadRun.getT_eq s)
def loose : List Str := (["Behind", "FolioError", "LackError", "NoChange", "NoHouse", "NoId", "NoKey", "NoLead", "NoMark", "NoName", "NoPaper", "NoRow", "NoStep", "NoText", "NoTurn", "_law_card", "_law_draw", "_law_due", "_law_grain", "_law_is_plain", "_law_led", "_law_moved", "_law_refused", "_law_shift", "_law_shifts", "_law_tape", "in_tree", "led", "moved", "moved_out"] : List Str) ++ (["with_in_tree"] : List Str)
theorem run (w : World) : HandSHeadRun.RunEq R (PySem.W.view R.prog [35]) hk ob 62560 loose w := by
  intro os
  kernel_rfl
theorem lawG (lv : Nat) {w : World} {h : Heap} {mg : Str → Option Value} {fa' : Addr} (hm : ∀ ns : List Int, ns.length ≤ 63 → (∀ z ∈ ns, Builtin.Int.intBits z ≤ 1048576) → ∃ G, prog lv 16 [.sls (ns.map PV.int)] [] = .ok (.bl true) G)
    (G : h.Ns mainGlobals mg) (c : hk.says w h) : LawG PySem.Challenge.rw_pathfolios_k44_moved_and_led_told w (3 * lv) 63 "law" mg fa' h := by
  obtain ⟨K, KX, c⟩ := c
  have cd := c.t.d
  have fr : Free K mg := ⟨trivial, He.free_ok KX G (cd.fact 17 (f := .free "LookupError") rfl), He.free_ok KX G (cd.fact 18 (f := .free "ValueError") rfl), He.free_ok KX G (cd.fact 19 (f := .free "dict") rfl), He.free_ok KX G (cd.fact 20 (f := .free "isinstance") rfl), He.free_ok KX G (cd.fact 21 (f := .free "len") rfl), He.free_ok KX G (cd.fact 22 (f := .free "range") rfl), He.free_ok KX G (cd.fact 23 (f := .free "repr") rfl), He.free_ok KX G (cd.fact 24 (f := .free "sorted") rfl), He.free_ok KX G (cd.fact 25 (f := .free "tuple") rfl)⟩
  obtain ⟨fd0, F0⟩ := cd.def_ 0 (d := D0) rfl
  obtain ⟨fd1, F1⟩ := cd.def_ 1 (d := D1) rfl
  obtain ⟨fd2, F2⟩ := cd.def_ 2 (d := D2) rfl
  obtain ⟨fd3, F3⟩ := cd.def_ 3 (d := D3) rfl
  obtain ⟨fd4, F4⟩ := cd.def_ 4 (d := D4) rfl
  obtain ⟨fd5, F5⟩ := cd.def_ 5 (d := D5) rfl
  obtain ⟨fd6, F6⟩ := cd.def_ 6 (d := D6) rfl
  obtain ⟨fd7, F7⟩ := cd.def_ 7 (d := D7) rfl
  obtain ⟨fd8, F8⟩ := cd.def_ 8 (d := D8) rfl
  obtain ⟨fd9, F9⟩ := cd.def_ 9 (d := D9) rfl
  obtain ⟨fd10, F10⟩ := cd.def_ 10 (d := D10) rfl
  obtain ⟨fd11, F11⟩ := cd.def_ 11 (d := D11) rfl
  obtain ⟨fd12, F12⟩ := cd.def_ 12 (d := D12) rfl
  obtain ⟨fd13, F13⟩ := cd.def_ 13 (d := D13) rfl
  obtain ⟨fd14, F14⟩ := cd.def_ 14 (d := D14) rfl
  obtain ⟨fd15, F15⟩ := cd.def_ 15 (d := D15) rfl
  obtain ⟨fd16, F16⟩ := cd.def_ 16 (d := D16) rfl
  obtain ⟨fi_NoMark, FI_NoMark⟩ := cd.def_ 17 (d := DI_NoMark) rfl
  obtain ⟨fi_NoLead, FI_NoLead⟩ := cd.def_ 18 (d := DI_NoLead) rfl
  refine ⟨⟨K, fun i => He.ga K (cnm.getD i ""), lamT tf K⟩, tf.map (He.cT K), prog lv 16, KX, fun p hp => ?_, fun p hp => ?_, fun p hp => ?_, fun q hq => ?_, hm, fun base kB gB TB => ?_⟩
  · obtain ⟨p, h, rfl⟩ := List.mem_map.mp hp; exact c.empty p h
  · obtain ⟨p, h, rfl⟩ := List.mem_map.mp hp; exact c.out p h
  · obtain ⟨p, h, rfl⟩ := List.mem_map.mp hp; exact PySem.W.codeHd_of_K KX (c.hd p h)
  · obtain ⟨p, h, rfl⟩ := List.mem_map.mp hq; exact List.mem_map.mpr ⟨_, List.mem_map.mpr ⟨p, h, rfl⟩, rfl⟩
  · have TB' : ∀ p ∈ tf, LamX.TabB base mg (He.cT K p).1 (He.cT K p).2 := fun p hp => TB _ (List.mem_map.mpr ⟨p, hp, rfl⟩)
    have D : Defs K mg base ⟨K, fun i => He.ga K (cnm.getD i ""), lamT tf K⟩ := ⟨⟨_, fd0, F0, He.glo_ok KX G (cd.fact 0 (f := .glo "in_tree") rfl)⟩, ⟨_, fd1, F1, He.glo_ok KX G (cd.fact 1 (f := .glo "with_in_tree") rfl), lamD_of (p := ("with_in_tree", none)) (tf := tf) (by simp [tf]) (eachC_one (eachX_c c.more)) rfl TB' F1⟩, ⟨_, fd2, F2, He.glo_ok KX G (cd.fact 2 (f := .glo "moved_out") rfl)⟩, ⟨_, fd3, F3, He.glo_ok KX G (cd.fact 3 (f := .glo "moved") rfl)⟩, ⟨_, fd4, F4, He.glo_ok KX G (cd.fact 4 (f := .glo "led") rfl)⟩, ⟨_, fd5, F5, He.glo_ok KX G (cd.fact 5 (f := .glo "_law_tape") rfl)⟩, ⟨_, fd6, F6, He.glo_ok KX G (cd.fact 6 (f := .glo "_law_draw") rfl)⟩, ⟨_, fd7, F7, He.glo_ok KX G (cd.fact 7 (f := .glo "_law_grain") rfl)⟩, ⟨_, fd8, F8, He.glo_ok KX G (cd.fact 8 (f := .glo "_law_card") rfl)⟩, ⟨_, fd9, F9, He.glo_ok KX G (cd.fact 9 (f := .glo "_law_is_plain") rfl)⟩, ⟨_, fd10, F10, He.glo_ok KX G (cd.fact 10 (f := .glo "_law_moved") rfl)⟩, ⟨_, fd11, F11, He.glo_ok KX G (cd.fact 11 (f := .glo "_law_led") rfl)⟩, ⟨_, fd12, F12, He.glo_ok KX G (cd.fact 12 (f := .glo "_law_shift") rfl)⟩, ⟨_, fd13, F13, He.glo_ok KX G (cd.fact 13 (f := .glo "_law_shifts") rfl)⟩, ⟨_, fd14, F14, He.glo_ok KX G (cd.fact 14 (f := .glo "_law_refused") rfl)⟩, ⟨_, fd15, F15, He.glo_ok KX G (cd.fact 15 (f := .glo "_law_due") rfl)⟩, ⟨_, fd16, F16, He.glo_ok KX G (cd.fact 16 (f := .glo "law") rfl), lamD_of (p := ("law", none)) (tf := tf) (by simp [tf]) (eachC_one (eachX_c c.more)) rfl TB' F16⟩⟩
    have xs : Xs PySem.Challenge.rw_pathfolios_k44_moved_and_led_told.prog w K mg base ⟨K, fun i => He.ga K (cnm.getD i ""), lamT tf K⟩ := ⟨trivial, mk_NoMark FI_NoMark (He.glo_ok KX G (cd.fact 36 (f := .glo "LackError") rfl)) (xbaseLB_ok (eachX_x c.more 3 rfl)) (xclsLB_ok (eachX_x c.more 0 rfl)), (He.glo_ok KX G (cd.fact 26 (f := .glo "NoMark") rfl)), mk_NoLead FI_NoLead (He.glo_ok KX G (cd.fact 28 (f := .glo "FolioError") rfl)) (xbaseB_ok (eachX_x c.more 2 rfl)) (xclsB_ok (eachX_x c.more 1 rfl)), (He.glo_ok KX G (cd.fact 27 (f := .glo "NoLead") rfl)), of_decide_eq_true (eachX_x c.more 4 rfl), excB_ok (eachX_x c.more 5 rfl), of_decide_eq_true (eachX_x c.more 6 rfl), excB_ok (eachX_x c.more 7 rfl), of_decide_eq_true (eachX_x c.more 8 rfl), (He.glo_ok KX G (cd.fact 29 (f := .glo "NoPaper") rfl)), of_decide_eq_true (eachX_x c.more 9 rfl), (He.glo_ok KX G (cd.fact 30 (f := .glo "NoKey") rfl)), of_decide_eq_true (eachX_x c.more 10 rfl), of_decide_eq_true (eachX_x c.more 11 rfl), (He.glo_ok KX G (cd.fact 36 (f := .glo "LackError") rfl)), (He.glo_ok KX G (cd.fact 35 (f := .glo "NoRow") rfl)), (He.glo_ok KX G (cd.fact 34 (f := .glo "NoText") rfl)), (He.glo_ok KX G (cd.fact 33 (f := .glo "Behind") rfl)), (He.glo_ok KX G (cd.fact 32 (f := .glo "NoTurn") rfl)), (He.glo_ok KX G (cd.fact 31 (f := .glo "NoChange") rfl)), of_decide_eq_true (eachX_x c.more 12 rfl), of_decide_eq_true (eachX_x c.more 13 rfl), of_decide_eq_true (eachX_x c.more 14 rfl), (He.glo_ok KX G (cd.fact 28 (f := .glo "FolioError") rfl)), of_decide_eq_true (eachX_x c.more 15 rfl), of_decide_eq_true (eachX_x c.more 16 rfl), of_decide_eq_true (eachX_x c.more 17 rfl), (He.glo_ok KX G (cd.fact 37 (f := .glo "NoId") rfl)), of_decide_eq_true (eachX_x c.more 18 rfl), (He.glo_ok KX G (cd.fact 38 (f := .glo "NoName") rfl)), of_decide_eq_true (eachX_x c.more 19 rfl), of_decide_eq_true (eachX_x c.more 20 rfl), (He.glo_ok KX G (cd.fact 40 (f := .glo "NoStep") rfl)), (He.glo_ok KX G (cd.fact 39 (f := .glo "NoHouse") rfl)), of_decide_eq_true (eachX_x c.more 21 rfl), of_decide_eq_true (eachX_x c.more 22 rfl)⟩
    exact (all rfl fr xs D lv).c16
end K44
open PySem PySem.W PySem.Calls PyProof.Rows
theorem k44_holds (lv : Nat) (hr : L2.Room (3 * lv) callerA) (hm : ∀ ns : List Int, ns.length ≤ 63 → (∀ z ∈ ns, Builtin.Int.intBits z ≤ 1048576) → ∃ G, K44.prog lv 16 [.sls (ns.map EV.PV.int)] [] = .ok (.bl true) G) : PySem.Challenge.rw_pathfolios_k44_moved_and_led_told.Holds := by
  w_on; o_law
  refine HandSHeadRun.head_any (r := OpenLaw.row PySem.Challenge.rw_pathfolios_k44_moved_and_led_told) (q := view (OpenLaw.row PySem.Challenge.rw_pathfolios_k44_moved_and_led_told).prog [35]) (H := K44.hk) (ob := K44.ob) (M := 62560) (loose := K44.loose) (d := HandSHeadRun.topDef (OpenLaw.row PySem.Challenge.rw_pathfolios_k44_moved_and_led_told).prog 35) (kwd := []) K44.ob_eq
    (by kernel_rfl) (fun s => by kernel_rfl) K44.run (by kernel_rfl) (by kernel_rfl) (by kernel_rfl) (by rfl) (by first | assumption | decide +kernel) (by decide +kernel) ⟨rfl, rfl, rfl, rfl, rfl, by decide +kernel⟩ ?hw ?hc
  case hw => w_witness2
  case hc =>
    refine EV.walk_G (l := PySem.Challenge.rw_pathfolios_k44_moved_and_led_told) (n := 63) (k := (3 * lv)) rfl (by decide) (by kernel_rfl) hr ?F
    intro w mg fa h Y G hmg0
    have e : (HandSHeadRun.topDef (OpenLaw.row PySem.Challenge.rw_pathfolios_k44_moved_and_led_told).prog 35).name = ("law" : PySem.Str) := by kernel_rfl
    rw [e]
    exact K44.lawG lv hm G Y
end
section
set_option Elab.async false
set_option linter.all false
set_option maxRecDepth 100000
namespace K44
open PySem PySem.Spec PyProof.Rows L2 EV EV.NV
theorem pIn (n : Nat) : SpIt (prog (n + 1) 0) := inTree_sp
theorem pWi (n : Nat) : SpWi (prog (n + 1) 1) := with_sp
theorem pMo (n : Nat) : SpMo (prog (n + 2) 2) := out_sp (pIn n) (pWi n)
theorem pMv (n : Nat) : SpMv (prog (n + 3) 3) := moved_sp (pIn (n + 1)) (pMo n) (pWi (n + 1))
theorem pGate (n : Nat) : gateB (prog (n + 3) 99 [] []) = true := rfl
theorem pLed (n : Nat) : SpLed (prog (n + 4) 4) := led_sp (pGate n) (pMv n)
theorem pTape (n : Nat) : SpFeed (prog (n + 1) 5) := tape_sp
theorem pDraw (n : Nat) : SpDraw (prog (n + 1) 6) := draw_sp3
theorem pGr (n : Nat) : ∀ k : Nat, k ≤ 5 → SpGrJ k (prog (n + 2 * k + 2) 7)
  | 0, _ => grain0J (pDraw n)
  | k + 1, hk => by
    have a := pGr n k (by omega)
    have b : SpCdJ k (prog (n + 2 * k + 3) 8) := card_spJ (pDraw (n + 2 * k + 1)) (by omega) a
    have a2 := pGr (n + 1) k (by omega)
    rw [show n + 1 + 2 * k + 2 = n + 2 * k + 3 by omega] at a2
    have c : SpGrJ (k + 1) (prog (n + 2 * k + 4) 7) := grainSJ (pDraw (n + 2 * k + 2)) (by omega) a2 b
    rwa [show n + 2 * (k + 1) + 2 = n + 2 * k + 4 by omega]
theorem pCd (n : Nat) : SpCd4 2 (prog (n + 7) 8) := card_sp4 (pDraw (n + 5)) (by decide) (pGr n 2 (by decide))
theorem pPl (n : Nat) : SpPl (prog (n + 1) 9) := isPlain_sp
theorem pLm (n : Nat) : SpMv (prog (n + 2) 10) := lmoved_sp (pPl n)
theorem pLl (n : Nat) : SpLl (prog (n + 3) 11) := lled_sp (pLm n)
theorem pSh (n : Nat) : SpShY (prog (n + 5) 12) := shift_spY (pDraw (n + 3)) (pGr n 1 (by decide))
theorem pShs (n : Nat) : SpShs (prog (n + 6) 13) := shifts_sp (pDraw (n + 4)) (pSh n)
theorem pDu (n : Nat) : SpDu (prog (n + 4) 15) := fun c fs lo up who G hc hs => due_ok (pLl n) hc hs
theorem pLaw (ns : List Int) (hns : ns.length ≤ 63) : ∃ G, prog 10 16 [.sls (ns.map .int)] [] = .ok (.bl true) G := by
  have h := EV.NV.k44_sp (fc := prog 9 8) (fd := prog 9 6) (fdu := prog 9 15) (flm := prog 9 10) (fs := prog 9 12) (fss := prog 9 13) (ft := prog 9 5) (fl := prog 9 4) (fm := prog 9 3) (pCd 2) (pDraw 8) (pDu 5) (pLm 7) (pSh 4) (pShs 3) (pTape 8) (pLed 5) (pMv 6) ns hns
  obtain ⟨v, G, e, rfl⟩ := wq_ex h
  exact ⟨G, e⟩
end K44
theorem PySem.Challenge.cw_pathfolios_k44_moved_and_led_told_holds : PySem.Challenge.rw_pathfolios_k44_moved_and_led_told.Holds :=
  k44_holds 10 ⟨by decide +kernel, by decide +kernel, by decide +kernel⟩ fun ns hns _ => K44.pLaw ns hns
end
