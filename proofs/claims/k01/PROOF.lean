import PyProof.Rows.All
import Wide.All
import OpenK.AllK
import Wide.FinOn
import PySem.Challenge.RW_pathfolios_k01_values_by_kind
import HandS.Base
import HandS.Call
import HandS.List
import HandS.Comp
import HandS.Exc
import HandS.Lambda
import HandS.Conv
import HandS.TupAny
import HandS.TupMul
import HandS.Flow
import HandS.Ends
import HandS.WordsExc
import HandS.Iter
import HandS.NoneIn
import HandS.Text
import HandS.IsInst
import KE.DataCmp
import PyProof.ReprRoads
import HandS.Defaults
import HandS.Zip
import KE.KDictZip
import KE.KItemsList
import PyProof.ListNew
import KE.GoesEnumKw
import HandS.ListItems
import KE.SortKeyHeap
import HandS.SortKw
import HandS.EndTab
import HandS.HeadHook4
import HandS.Head2
import HandS.Dict
import HandS.DictComp
import PyProof.WalksMore
import PyProof.CollectIter
import HandS.ExcValue
import HandS.ExcOwn
import KE.GoesEnum
import HandS.Set
import HandS.Strs
import HandS.TupSets
import HandS.Style
section
set_option Elab.async false
set_option linter.all false
set_option maxRecDepth 100000
/-! Ev1: values and objects of the evaluator, how they stand in the abstract heap. -/
namespace EV
open PySem PySem.Spec PyProof.Rows L2

/-- a Python value; tuples, and lists that never change, are written out (sls: a list of the module's or the script); obj n: the n-th changing object -/
inductive PV where
  | non
  | bl (b : Bool)
  | int (i : Int)
  | str (x : Str)
  | tup (xs : List PV)
  | lst (xs : List PV)
  | sls (xs : List PV)
  | obj (n : Nat)

/-- a changing object -/
inductive GO where
  | lst (xs : List PV)
  | dic (kvs : List (Key × PV))
  | ins (c : Nat) (fs : List (Str × PV))
abbrev GH := List GO

/-- an end: a value, an exception of the class number c with its fields, or no word -/
inductive Res (α : Type) where
  | ok (a : α) (G : GH)
  | exc (c : Nat) (fs : List (Str × PV)) (G : GH)
  | bad
def Res.bind {α β : Type} (r : Res α) (f : α → GH → Res β) : Res β :=
  match r with
  | .ok a G => f a G
  | .exc c fs G => .exc c fs G
  | .bad => .bad
@[simp] theorem Res.bind_ok {α β : Type} (a : α) (G : GH) (f : α → GH → Res β) : (Res.ok a G).bind f = f a G := rfl
@[simp] theorem Res.bind_bad {α β : Type} (f : α → GH → Res β) : (Res.bad : Res α).bind f = .bad := rfl
@[simp] theorem Res.bind_exc {α β : Type} (c : Nat) (fs : List (Str × PV)) (G : GH) (f : α → GH → Res β) : (Res.exc c fs G : Res α).bind f = .exc c fs G := rfl

/-- what is fixed: the written part, where the classes stand -/
structure Fx where
  K : PySem.W.Frag
  ca : Nat → Addr
  T : List (Addr × Str)

/-- where our objects stand, and what is being made (nobody holds it yet) -/
structure Mu where
  ob : List Addr
  rs : List Addr
def Mu.free (μ : Mu) (a : Addr) : Prop := a ∉ μ.ob ∧ a ∉ μ.rs
section
variable (F : Fx) (μ : Mu) (H : Hp)
def KLst (K : PySem.W.Frag) (a : Addr) (xs : List V) : Prop :=
  ∃ (o : Obj) (its : Array Value) (n : Nat), K.lookup a = some o ∧ o.cls = .type "list" ∧ o.dict = none ∧ o.data = .seq its n ∧ its.size ≤ sizeLine ∧ Vals xs its.toList
def KTup (K : PySem.W.Frag) (a : Addr) (xs : List V) : Prop :=
  ∃ (o : Obj) (its : Array Value) (n : Nat), K.lookup a = some o ∧ o.cls = .type "tuple" ∧ o.dict = none ∧ o.data = .seq its n ∧ its.size ≤ sizeLine ∧ Vals xs its.toList
/-- a tuple, its very object known, which bears no dict -/
def Fz (H : Hp) (a : Addr) (xs : List V) : Prop := ∃ o : Obj, H a = some (.frz o (.tup xs)) ∧ o.dict = none
def StL (a : Addr) (xs : List V) : Prop := (μ.free a ∧ Rd H a (.lst xs)) ∨ KLst F.K a xs
def StX (a : Addr) (xs : List V) : Prop := μ.free a ∧ H a = some (.lst xs)
def StT (a : Addr) (xs : List V) : Prop := (μ.free a ∧ Fz H a xs) ∨ KTup F.K a xs
mutual
def Rep : PV → V → Prop
  | .non, v => v = .non
  | .bl b, v => v = .bl b
  | .int i, v => v = .int i
  | .str x, v => v = .str x
  | .tup ps, v => ∃ a vs, v = .ref a ∧ vs.length ≤ sizeLine ∧ StT F μ H a vs ∧ Reps ps vs
  | .lst ps, v => ∃ a vs, v = .ref a ∧ vs.length ≤ sizeLine ∧ StX μ H a vs ∧ Reps ps vs
  | .sls ps, v => ∃ a vs, v = .ref a ∧ vs.length ≤ sizeLine ∧ StL F μ H a vs ∧ Reps ps vs
  | .obj n, v => ∃ a, v = .ref a ∧ μ.ob[n]? = some a
def Reps : List PV → List V → Prop
  | [], vs => vs = []
  | p :: ps, vs => ∃ v r, vs = v :: r ∧ Rep p v ∧ Reps ps r
end
def RepK : List (Key × PV) → List (Key × V) → Prop := Paired fun p q => p.1 = q.1 ∧ Rep F μ H p.2 q.2
def RepF : List (Str × PV) → List (Str × V) → Prop := Paired fun p q => p.1 = q.1 ∧ Rep F μ H p.2 q.2
def RepO (a : Addr) : GO → Prop
  | .lst ps => ∃ vs, H a = some (.lst vs) ∧ vs.length ≤ sizeLine ∧ Reps F μ H ps vs
  | .dic kps => ∃ kvs, H a = some (.dK kvs) ∧ kvs.length ≤ sizeLine ∧ RepK F μ H kps kvs
  | .ins c fs => ∃ dx fvs, H a = some (.ins (F.ca c) dx fvs) ∧ H dx = some (.own a) ∧ μ.free dx ∧ RepF F μ H fs fvs
structure HRep (G : GH) : Prop where
  len : μ.ob.length = G.length
  nd : μ.ob.Nodup
  obj : ∀ (i : Nat) (a : Addr) (o : GO), μ.ob[i]? = some a → G[i]? = some o → RepO F μ H a o
  res : ∀ a ∈ μ.rs, a ∉ μ.ob ∧ ∃ xs, H a = some (.lst xs)
  tab : LamX.Tabs F.T H
end
/-- no table of code objects -/
def NoTbl (o : HO) : Prop := ∀ ps, o ≠ .tbl ps

/-- the heap has grown: what stands and isn't an object of ours is kept, new objects of ours are new -/
structure Ext (μ μ' : Mu) (H H' : Hp) : Prop where
  pre : ∃ r, μ'.ob = μ.ob ++ r
  rs : μ'.rs = μ.rs
  new : ∀ a ∈ μ'.ob, a ∉ μ.ob → ∀ o, H a = some o → NoTbl o → False
  keep : ∀ a o, H a = some o → NoTbl o → a ∉ μ.ob → H' a = some o
theorem Ext.refl (μ : Mu) (H : Hp) : Ext μ μ H H := ⟨⟨[], by simp⟩, rfl, fun a h n => absurd h n, fun _ _ h _ _ => h⟩
theorem Ext.sub {μ μ' : Mu} {H H' : Hp} (e : Ext μ μ' H H') : ∀ a ∈ μ.ob, a ∈ μ'.ob := fun a h => by
  obtain ⟨r, q⟩ := e.pre
  rw [q]
  exact List.mem_append_left _ h
theorem Ext.trans {μ μ1 μ2 : Mu} {H H1 H2 : Hp} (e : Ext μ μ1 H H1) (f : Ext μ1 μ2 H1 H2) : Ext μ μ2 H H2 where
  pre := by
    obtain ⟨r, h1⟩ := e.pre
    obtain ⟨q, h2⟩ := f.pre
    exact ⟨r ++ q, by rw [h2, h1]; simp⟩
  rs := f.rs.trans e.rs
  new := fun a h n o q nt => by
    by_cases h1 : a ∈ μ1.ob
    · exact e.new a h1 n o q nt
    · exact f.new a h h1 o (e.keep a o q nt n) nt
  keep := fun a o h nt n => by
    have h1 : a ∉ μ1.ob := fun m => e.new a m n o h nt
    exact f.keep a o (e.keep a o h nt n) nt h1
theorem Ext.get {μ μ' : Mu} {H H' : Hp} (e : Ext μ μ' H H') {i : Nat} {a : Addr} (h : μ.ob[i]? = some a) : μ'.ob[i]? = some a := by
  obtain ⟨r, q⟩ := e.pre
  rw [q]
  exact List.getElem?_append_left (List.getElem?_eq_some_iff.mp h).1 ▸ h
theorem Ext.outO {μ μ' : Mu} {H H' : Hp} (e : Ext μ μ' H H') {a : Addr} {o : HO} (nt : NoTbl o) (h : H a = some o) (n : a ∉ μ.ob) : a ∉ μ'.ob := fun m => e.new a m n o h nt
theorem Ext.out {μ μ' : Mu} {H H' : Hp} (e : Ext μ μ' H H') {a : Addr} {o : HO} (nt : NoTbl o) (h : H a = some o) (n : μ.free a) : μ'.free a := ⟨e.outO nt h n.1, by rw [e.rs]; exact n.2⟩
theorem Ext.rd {μ μ' : Mu} {H H' : Hp} (e : Ext μ μ' H H') {a : Addr} {o : HO} (nt : NoTbl o) (h : Rd H a o) (n : μ.free a) : μ'.free a ∧ Rd H' a o := by
  rcases h with h | ⟨ob, h⟩
  · exact ⟨e.out nt h n, .inl (e.keep _ _ h nt n.1)⟩
  · exact ⟨e.out (fun _ z => by cases z) h n, .inr ⟨ob, e.keep _ _ h (fun _ z => by cases z) n.1⟩⟩

section
variable {F : Fx} {μ μ' : Mu} {H H' : Hp}
theorem StL.mono (e : Ext μ μ' H H') {a : Addr} {xs : List V} (h : StL F μ H a xs) : StL F μ' H' a xs := by
  rcases h with ⟨n, r⟩ | h
  · exact .inl (e.rd (fun _ z => by cases z) r n)
  · exact .inr h
theorem StT.mono (e : Ext μ μ' H H') {a : Addr} {xs : List V} (h : StT F μ H a xs) : StT F μ' H' a xs := by
  rcases h with ⟨n, o, r, d⟩ | h
  · exact .inl ⟨e.out (fun _ z => by cases z) r n, o, e.keep _ _ r (fun _ z => by cases z) n.1, d⟩
  · exact .inr h
theorem StX.mono (e : Ext μ μ' H H') {a : Addr} {xs : List V} (h : StX μ H a xs) : StX μ' H' a xs := ⟨e.out (fun _ z => by cases z) h.2 h.1, e.keep _ _ h.2 (fun _ z => by cases z) h.1.1⟩
theorem StX.st {a : Addr} {xs : List V} (h : StX μ H a xs) : StL F μ H a xs := .inl ⟨h.1, .inl h.2⟩
theorem StL.sq {a : Addr} {xs : List V} (h : StL F μ H a xs) : SqL F.K H a xs := h.elim (fun q => .inl q.2) .inr
theorem StT.sq {a : Addr} {xs : List V} (h : StT F μ H a xs) : SqT F.K H a xs := h.elim (fun ⟨_, o, q, _⟩ => .inl (.inr ⟨o, q⟩)) fun ⟨o, its, n, h1, h2, _, h3⟩ => .inr ⟨o, its, n, h1, h2, h3⟩
mutual
theorem Rep.mono (e : Ext μ μ' H H') : ∀ {p : PV} {v : V}, Rep F μ H p v → Rep F μ' H' p v
  | .non, _, h => by simpa only [Rep] using h
  | .bl b, _, h => by simpa only [Rep] using h
  | .int i, _, h => by simpa only [Rep] using h
  | .str x, _, h => by simpa only [Rep] using h
  | .tup ps, v, h => by
    simp only [Rep] at h ⊢
    obtain ⟨a, vs, e1, z, s, r⟩ := h
    exact ⟨a, vs, e1, z, s.mono e, Reps.mono e r⟩
  | .lst ps, v, h => by
    simp only [Rep] at h ⊢
    obtain ⟨a, vs, e1, z, s, r⟩ := h
    exact ⟨a, vs, e1, z, s.mono e, Reps.mono e r⟩
  | .sls ps, v, h => by
    simp only [Rep] at h ⊢
    obtain ⟨a, vs, e1, z, s, r⟩ := h
    exact ⟨a, vs, e1, z, s.mono e, Reps.mono e r⟩
  | .obj n, v, h => by
    simp only [Rep] at h ⊢
    obtain ⟨a, e1, g⟩ := h
    exact ⟨a, e1, e.get g⟩
theorem Reps.mono (e : Ext μ μ' H H') : ∀ {ps : List PV} {vs : List V}, Reps F μ H ps vs → Reps F μ' H' ps vs
  | [], _, h => by simpa only [Reps] using h
  | p :: ps, vs, h => by
    simp only [Reps] at h ⊢
    obtain ⟨v, r, e1, h1, h2⟩ := h
    exact ⟨v, r, e1, Rep.mono e h1, Reps.mono e h2⟩
end
theorem Reps.nil : Reps F μ H [] [] := by simp only [Reps]
theorem Reps.cons {p : PV} {v : V} {ps : List PV} {vs : List V} (h : Rep F μ H p v) (t : Reps F μ H ps vs) : Reps F μ H (p :: ps) (v :: vs) := by
  simp only [Reps]
  exact ⟨v, vs, rfl, h, t⟩
theorem Reps.nil_inv {vs : List V} (h : Reps F μ H [] vs) : vs = [] := by simpa only [Reps] using h
theorem Reps.cons_inv {p : PV} {ps : List PV} {vs : List V} (h : Reps F μ H (p :: ps) vs) : ∃ v r, vs = v :: r ∧ Rep F μ H p v ∧ Reps F μ H ps r := by simpa only [Reps] using h
theorem Reps.length : ∀ {ps : List PV} {vs : List V}, Reps F μ H ps vs → ps.length = vs.length
  | [], _, h => by rw [h.nil_inv]; rfl
  | p :: ps, _, h => by
    obtain ⟨v, r, rfl, _, t⟩ := h.cons_inv
    simp [Reps.length t]
theorem Reps.get : ∀ {ps : List PV} {vs : List V} {i : Nat} {p : PV}, Reps F μ H ps vs → ps[i]? = some p → ∃ v, vs[i]? = some v ∧ Rep F μ H p v
  | [], _, i, _, _, e => by simp at e
  | q :: ps, _, 0, p, h, e => by
    obtain ⟨v, r, rfl, h1, _⟩ := h.cons_inv
    simp at e; subst e
    exact ⟨v, rfl, h1⟩
  | q :: ps, _, i + 1, p, h, e => by
    obtain ⟨v, r, rfl, _, t⟩ := h.cons_inv
    obtain ⟨u, h2, h3⟩ := Reps.get t (by simpa using e)
    exact ⟨u, by simpa using h2, h3⟩
theorem Reps.getV : ∀ {ps : List PV} {vs : List V} {i : Nat} {v : V}, Reps F μ H ps vs → vs[i]? = some v → ∃ p, ps[i]? = some p ∧ Rep F μ H p v
  | [], _, i, _, h, e => by rw [h.nil_inv] at e; simp at e
  | q :: ps, _, 0, v, h, e => by
    obtain ⟨u, r, rfl, h1, _⟩ := h.cons_inv
    simp at e; subst e
    exact ⟨q, rfl, h1⟩
  | q :: ps, _, i + 1, v, h, e => by
    obtain ⟨u, r, rfl, _, t⟩ := h.cons_inv
    obtain ⟨p, h2, h3⟩ := Reps.getV t (by simpa using e)
    exact ⟨p, by simpa using h2, h3⟩
theorem Reps.append : ∀ {ps qs : List PV} {vs ws : List V}, Reps F μ H ps vs → Reps F μ H qs ws → Reps F μ H (ps ++ qs) (vs ++ ws)
  | [], _, _, _, h, k => by rw [h.nil_inv]; simpa using k
  | p :: ps, _, _, _, h, k => by
    obtain ⟨v, r, rfl, h1, t⟩ := h.cons_inv
    exact .cons h1 (Reps.append t k)
theorem Reps.one {p : PV} {v : V} (h : Rep F μ H p v) : Reps F μ H [p] [v] := .cons h .nil
theorem Reps.one_inv {p : PV} {vs : List V} (h : Reps F μ H [p] vs) : ∃ v, vs = [v] ∧ Rep F μ H p v := by
  obtain ⟨v, r, rfl, h1, t⟩ := h.cons_inv
  rw [t.nil_inv]
  exact ⟨v, rfl, h1⟩
theorem Reps.two_inv {p q : PV} {vs : List V} (h : Reps F μ H [p, q] vs) : ∃ v w, vs = [v, w] ∧ Rep F μ H p v ∧ Rep F μ H q w := by
  obtain ⟨v, r, rfl, h1, t⟩ := h.cons_inv
  obtain ⟨w, rfl, h2⟩ := t.one_inv
  exact ⟨v, w, rfl, h1, h2⟩
theorem Reps.take : ∀ {ps : List PV} {vs : List V} (n : Nat), Reps F μ H ps vs → Reps F μ H (ps.take n) (vs.take n)
  | _, _, 0, _ => .nil
  | [], _, n + 1, h => by rw [h.nil_inv]; exact .nil
  | p :: ps, _, n + 1, h => by
    obtain ⟨v, r, rfl, h1, t⟩ := h.cons_inv
    exact .cons h1 (Reps.take n t)
theorem Reps.drop : ∀ {ps : List PV} {vs : List V} (n : Nat), Reps F μ H ps vs → Reps F μ H (ps.drop n) (vs.drop n)
  | _, _, 0, h => h
  | [], _, n + 1, h => by rw [h.nil_inv]; exact .nil
  | p :: ps, _, n + 1, h => by
    obtain ⟨v, r, rfl, h1, t⟩ := h.cons_inv
    exact Reps.drop n t
theorem Reps.set {p : PV} {v : V} (hp : Rep F μ H p v) : ∀ {ps : List PV} {vs : List V} (n : Nat), Reps F μ H ps vs → Reps F μ H (ps.set n p) (vs.set n v)
  | [], _, n, h => by rw [h.nil_inv]; exact .nil
  | q :: ps, _, 0, h => by
    obtain ⟨u, r, rfl, h1, t⟩ := h.cons_inv
    exact .cons hp t
  | q :: ps, _, n + 1, h => by
    obtain ⟨u, r, rfl, h1, t⟩ := h.cons_inv
    exact .cons h1 (Reps.set hp n t)
theorem Reps.erase : ∀ {ps : List PV} {vs : List V} (n : Nat), Reps F μ H ps vs → Reps F μ H (ps.eraseIdx n) (vs.eraseIdx n)
  | [], _, n, h => by rw [h.nil_inv]; exact .nil
  | q :: ps, _, 0, h => by
    obtain ⟨u, r, rfl, h1, t⟩ := h.cons_inv
    exact t
  | q :: ps, _, n + 1, h => by
    obtain ⟨u, r, rfl, h1, t⟩ := h.cons_inv
    exact .cons h1 (Reps.erase n t)
theorem RepK.mono (e : Ext μ μ' H H') {ps : List (Key × PV)} {vs : List (Key × V)} (h : RepK F μ H ps vs) : RepK F μ' H' ps vs := Paired.mapP h fun _ _ q => ⟨q.1, q.2.mono e⟩
theorem RepF.mono (e : Ext μ μ' H H') {ps : List (Str × PV)} {vs : List (Str × V)} (h : RepF F μ H ps vs) : RepF F μ' H' ps vs := Paired.mapP h fun _ _ q => ⟨q.1, q.2.mono e⟩

theorem HRep.there (h : HRep F μ H G) {a : Addr} (m : a ∈ μ.ob) : ∃ o, H a = some o := by
  obtain ⟨i, hi⟩ := List.mem_iff_getElem?.mp m
  have hl : i < G.length := by rw [← h.len]; exact (List.getElem?_eq_some_iff.mp hi).1
  have q := h.obj i a _ hi (List.getElem?_eq_getElem hl)
  cases e : G[i] with
  | lst ps => rw [e] at q; obtain ⟨vs, q, _⟩ := q; exact ⟨_, q⟩
  | dic ps => rw [e] at q; obtain ⟨vs, q, _⟩ := q; exact ⟨_, q⟩
  | ins c fs => rw [e] at q; obtain ⟨dx, vs, q, _⟩ := q; exact ⟨_, q⟩
theorem HRep.freshO (h : HRep F μ H G) {p : Addr} (n : H p = none) : p ∉ μ.ob := fun m => by
  obtain ⟨o, e⟩ := h.there m
  rw [n] at e; cases e
theorem HRep.fresh (h : HRep F μ H G) {p : Addr} (n : H p = none) : μ.free p := ⟨h.freshO n, fun m => by
  obtain ⟨_, o, e⟩ := h.res p m
  rw [n] at e; cases e⟩
theorem upd_dom {H : Hp} {p a : Addr} {o : HO} (e : upd H p o a = none) : H a = none := by
  unfold upd at e
  split at e
  · cases e
  · exact e
/-- a new thing that is none of our objects -/
theorem Ext.upd_new (h : HRep F μ H G) {p : Addr} {o : HO} (n : H p = none) : Ext μ μ H (upd H p o) :=
  ⟨⟨[], by simp⟩, rfl, fun a m k => absurd m k, fun a u e _ _ => by rw [upd_ne (ne_of_none e n)]; exact e⟩
/-- all that stands is kept: our objects too -/
theorem Ext.same (s : ∀ a o, H a = some o → H' a = some o) : Ext μ μ H H' := ⟨⟨[], by simp⟩, rfl, fun a m k => absurd m k, fun a o e _ _ => s a o e⟩
theorem RepO.keep (e : Ext μ μ' H H') {a : Addr} {o : GO} (h : RepO F μ H a o) (ha : ∀ u, H a = some u → H' a = some u) : RepO F μ' H' a o := by
  cases o with
  | lst ps =>
    obtain ⟨vs, q, z, r⟩ := h
    exact ⟨vs, ha _ q, z, r.mono e⟩
  | dic ps =>
    obtain ⟨vs, q, z, r⟩ := h
    exact ⟨vs, ha _ q, z, r.mono e⟩
  | ins c fs =>
    obtain ⟨dx, vs, q, d, n, r⟩ := h
    exact ⟨dx, vs, ha _ q, e.keep _ _ d (fun _ z => by cases z) n.1, e.out (fun _ z => by cases z) d n, r.mono e⟩
theorem HRep.same (h : HRep F μ H G) (s : ∀ a o, H a = some o → H' a = some o) : HRep F μ H' G :=
  ⟨h.len, h.nd, fun i a o h1 h2 => (h.obj i a o h1 h2).keep (Ext.same s) (fun u q => s a u q), fun a m => let ⟨h1, o, h2⟩ := h.res a m; ⟨h1, o, s a _ h2⟩, h.tab.ext s⟩
theorem HRep.upd_new (h : HRep F μ H G) {p : Addr} {o : HO} (n : H p = none) : HRep F μ (upd H p o) G :=
  h.same fun a u e => by rw [upd_ne (ne_of_none e n)]; exact e
/-- a new object of ours -/
abbrev Mu.push (μ : Mu) (p : Addr) : Mu := ⟨μ.ob ++ [p], μ.rs⟩
theorem Ext.push (h : HRep F μ H G) {p : Addr} {o : HO} (n : H p = none) : Ext μ (μ.push p) H (upd H p o) :=
  ⟨⟨[p], rfl⟩, rfl, fun a m k => by
    rcases List.mem_append.mp m with q | q
    · exact absurd q k
    · exact fun o z _ => (by rw [List.mem_singleton.mp q, n] at z; cases z), fun a u e _ _ => by rw [upd_ne (ne_of_none e n)]; exact e⟩
theorem HRep.push (h : HRep F μ H G) {p : Addr} {o : HO} {g : GO} (n : H p = none) (r : RepO F (μ.push p) (upd H p o) p g) : HRep F (μ.push p) (upd H p o) (G ++ [g]) where
  len := by simp [Mu.push, h.len]
  nd := List.nodup_append.mpr ⟨h.nd, by simp, fun a ha b hb => by
    rw [List.mem_singleton.mp hb]
    intro e
    subst e
    exact h.freshO n ha⟩
  obj := fun i a u h1 h2 => by
    have h1 : (μ.ob ++ [p])[i]? = some a := h1
    by_cases hi : i < μ.ob.length
    · rw [List.getElem?_append_left hi] at h1
      rw [List.getElem?_append_left (by rw [← h.len]; exact hi)] at h2
      refine (h.obj i a u h1 h2).keep (Ext.push h n) fun v q => ?_
      rw [upd_ne (ne_of_none q n)]; exact q
    · have hi' : i = μ.ob.length := by
        have := (List.getElem?_eq_some_iff.mp h1).1
        simp at this; omega
      subst hi'
      rw [List.getElem?_append_right (Nat.le_refl _)] at h1
      rw [h.len, List.getElem?_append_right (Nat.le_refl _)] at h2
      simp at h1 h2
      subst h1 h2
      exact r
  res := fun a m => by
    obtain ⟨h1, u, h2⟩ := h.res a m
    refine ⟨fun k => ?_, u, by rw [upd_ne (ne_of_none h2 n)]; exact h2⟩
    rcases List.mem_append.mp k with q | q
    · exact h1 q
    · rw [List.mem_singleton.mp q, n] at h2; cases h2
  tab := h.tab.ext fun b o e => by rw [upd_ne (ne_of_none e n)]; exact e
theorem nodup_at {μ : List Addr} (nd : μ.Nodup) {i j : Nat} {a : Addr} (h1 : μ[i]? = some a) (h2 : μ[j]? = some a) : i = j := by
  obtain ⟨l1, e1⟩ := List.getElem?_eq_some_iff.mp h1
  obtain ⟨l2, e2⟩ := List.getElem?_eq_some_iff.mp h2
  exact (List.getElem_inj nd).mp (e1.trans e2.symm)
/-- an object of ours is changed -/
theorem Ext.write {p : Addr} {o : HO} (m : p ∈ μ.ob) : Ext μ μ H (upd H p o) :=
  ⟨⟨[], by simp⟩, rfl, fun a k n => absurd k n, fun a u e _ n => by
    rw [upd_ne (fun z => by subst z; exact n m)]; exact e⟩
/-- what a changing object of ours may be -/
def IsO : HO → Prop
  | .lst _ => True
  | .dK _ => True
  | .ins _ _ _ => True
  | _ => False
/-- the tables stand where another thing is changed -/
theorem tabs_upd {T : List (Addr × Str)} {p : Addr} {u o : HO} (hp : H p = some u) (hu : IsO u) (t : LamX.Tabs T H) : LamX.Tabs T (upd H p o) := fun q hq => by
  obtain ⟨ps, h1, h2, h3⟩ := t q hq
  have n1 : q.1 ≠ p := fun z => by
    rw [z, hp] at h1
    cases h1
    exact hu
  refine ⟨ps, by rw [upd_ne n1]; exact h1, h2, fun pos cv hc => ?_⟩
  obtain ⟨c, e1, e2⟩ := h3 pos cv hc
  have n2 : c ≠ p := fun z => by
    rw [z, hp] at e2
    have e3 := Option.some.inj e2
    rw [e3] at hu
    exact hu
  exact ⟨c, e1, by rw [upd_ne n2]; exact e2⟩
theorem HRep.isO (h : HRep F μ H G) {a : Addr} (m : a ∈ μ.ob) : ∃ o, H a = some o ∧ IsO o := by
  obtain ⟨i, hi⟩ := List.mem_iff_getElem?.mp m
  have hl : i < G.length := by rw [← h.len]; exact (List.getElem?_eq_some_iff.mp hi).1
  have q := h.obj i a _ hi (List.getElem?_eq_getElem hl)
  cases e : G[i] with
  | lst ps => rw [e] at q; obtain ⟨vs, q, _⟩ := q; exact ⟨_, q, trivial⟩
  | dic ps => rw [e] at q; obtain ⟨vs, q, _⟩ := q; exact ⟨_, q, trivial⟩
  | ins c fs => rw [e] at q; obtain ⟨dx, vs, q, _⟩ := q; exact ⟨_, q, trivial⟩
theorem HRep.write (h : HRep F μ H G) {n : Nat} {p : Addr} {o : HO} {g : GO} (hp : μ.ob[n]? = some p) (r : RepO F μ (upd H p o) p g) : HRep F μ (upd H p o) (G.set n g) where
  len := by simp [h.len]
  nd := h.nd
  obj := fun i a u h1 h2 => by
    have hm : p ∈ μ.ob := List.mem_of_getElem? hp
    by_cases hi : i = n
    · subst hi
      rw [hp] at h1; cases h1
      have hl : i < G.length := by rw [← h.len]; exact (List.getElem?_eq_some_iff.mp hp).1
      rw [List.getElem?_set_self hl] at h2
      cases h2
      exact r
    · rw [List.getElem?_set_ne (Ne.symm hi)] at h2
      refine (h.obj i a u h1 h2).keep (Ext.write hm) fun v q => ?_
      rw [upd_ne (fun z => by subst z; exact hi (nodup_at h.nd h1 hp))]; exact q
  res := fun a m => by
    obtain ⟨h1, u, h2⟩ := h.res a m
    exact ⟨h1, u, by rw [upd_ne (fun z => by subst z; exact h1 (List.mem_of_getElem? hp))]; exact h2⟩
  tab := by
    obtain ⟨u, h1, h2⟩ := h.isO (List.mem_of_getElem? hp)
    exact tabs_upd h1 h2 h.tab

/-! ### what is being made -/
abbrev Mu.mk1 (μ : Mu) (D : Addr) : Mu := ⟨μ.ob, D :: μ.rs⟩
theorem StL.other {D : Addr} {o : HO} {a : Addr} {xs : List V} (h : StL F (μ.mk1 D) H a xs) : StL F (μ.mk1 D) (upd H D o) a xs := by
  rcases h with ⟨n, r⟩ | h
  · have hne : a ≠ D := fun z => n.2 (by rw [z]; exact List.mem_cons_self)
    refine .inl ⟨n, ?_⟩
    rcases r with r | ⟨ob, r⟩
    · exact .inl (by rw [upd_ne hne]; exact r)
    · exact .inr ⟨ob, by rw [upd_ne hne]; exact r⟩
  · exact .inr h
theorem StT.other {D : Addr} {o : HO} {a : Addr} {xs : List V} (h : StT F (μ.mk1 D) H a xs) : StT F (μ.mk1 D) (upd H D o) a xs := by
  rcases h with ⟨n, ob, r, d⟩ | h
  · have hne : a ≠ D := fun z => n.2 (by rw [z]; exact List.mem_cons_self)
    exact .inl ⟨n, ob, by rw [upd_ne hne]; exact r, d⟩
  · exact .inr h
/-- a predicate on what stands that all of a value's parts bear -/
structure Chg (F : Fx) (μ μ' : Mu) (H H' : Hp) : Prop where
  l : ∀ a xs, StL F μ H a xs → StL F μ' H' a xs
  x : ∀ a xs, StX μ H a xs → StX μ' H' a xs
  t : ∀ a xs, StT F μ H a xs → StT F μ' H' a xs
  ob : ∀ (n : Nat) a, μ.ob[n]? = some a → μ'.ob[n]? = some a
mutual
theorem Rep.chg (c : Chg F μ μ' H H') : ∀ {p : PV} {v : V}, Rep F μ H p v → Rep F μ' H' p v
  | .non, _, h => by simpa only [Rep] using h
  | .bl b, _, h => by simpa only [Rep] using h
  | .int i, _, h => by simpa only [Rep] using h
  | .str x, _, h => by simpa only [Rep] using h
  | .tup ps, v, h => by
    simp only [Rep] at h ⊢
    obtain ⟨a, vs, e1, z, s, r⟩ := h
    exact ⟨a, vs, e1, z, c.t _ _ s, Reps.chg c r⟩
  | .lst ps, v, h => by
    simp only [Rep] at h ⊢
    obtain ⟨a, vs, e1, z, s, r⟩ := h
    exact ⟨a, vs, e1, z, c.x _ _ s, Reps.chg c r⟩
  | .sls ps, v, h => by
    simp only [Rep] at h ⊢
    obtain ⟨a, vs, e1, z, s, r⟩ := h
    exact ⟨a, vs, e1, z, c.l _ _ s, Reps.chg c r⟩
  | .obj n, v, h => by
    simp only [Rep] at h ⊢
    obtain ⟨a, e1, g⟩ := h
    exact ⟨a, e1, c.ob _ _ g⟩
theorem Reps.chg (c : Chg F μ μ' H H') : ∀ {ps : List PV} {vs : List V}, Reps F μ H ps vs → Reps F μ' H' ps vs
  | [], _, h => by simpa only [Reps] using h
  | p :: ps, vs, h => by
    simp only [Reps] at h ⊢
    obtain ⟨v, r, e1, h1, h2⟩ := h
    exact ⟨v, r, e1, Rep.chg c h1, Reps.chg c h2⟩
end
theorem Chg.trans {μ1 : Mu} {H1 : Hp} (c : Chg F μ μ1 H H1) (d : Chg F μ1 μ' H1 H') : Chg F μ μ' H H' := ⟨fun a xs h => d.l a xs (c.l a xs h), fun a xs h => d.x a xs (c.x a xs h), fun a xs h => d.t a xs (c.t a xs h), fun n a h => d.ob n a (c.ob n a h)⟩
theorem Ext.chg (e : Ext μ μ' H H') : Chg F μ μ' H H' := ⟨fun _ _ h => h.mono e, fun _ _ h => h.mono e, fun _ _ h => h.mono e, fun _ _ h => e.get h⟩
theorem Chg.refl : Chg F μ μ H H := ⟨fun _ _ h => h, fun _ _ h => h, fun _ _ h => h, fun _ _ h => h⟩
/-- one turn while D is being made -/
theorem Ext.step1 {l l3 rs : List Addr} {H1 H2 H3 : Hp} {D : Addr} {o : HO} (hD : H1 D = none) (e2 : Ext μ ⟨l, rs⟩ H1 H2) (e : Ext ((⟨l, rs⟩ : Mu).mk1 D) ((⟨l3, rs⟩ : Mu).mk1 D) H2 H3) : Ext μ ⟨l3, rs⟩ H1 (upd H3 D o) where
  pre := by
    obtain ⟨r, h1⟩ := e2.pre
    obtain ⟨q, h2⟩ := e.pre
    have h1 : l = μ.ob ++ r := h1
    have h2 : l3 = l ++ q := h2
    exact ⟨r ++ q, by show l3 = _; rw [h2, h1]; simp⟩
  rs := e2.rs
  new := fun a m n => by
    by_cases h : a ∈ l
    · exact e2.new a h n
    · exact fun o q nt => e.new a m h o (e2.keep a o q nt n) nt
  keep := fun a u h nt n => by
    have h2 := e2.keep a u h nt n
    have hl : a ∉ l := e2.outO nt h n
    rw [upd_ne (ne_of_none h hD)]
    exact e.keep a u h2 nt hl
theorem StX.other {D : Addr} {o : HO} {a : Addr} {xs : List V} (h : StX (μ.mk1 D) H a xs) : StX (μ.mk1 D) (upd H D o) a xs := ⟨h.1, by rw [upd_ne (fun z => h.1.2 (by rw [z]; exact List.mem_cons_self))]; exact h.2⟩
theorem Chg.other {D : Addr} {o : HO} : Chg F (μ.mk1 D) (μ.mk1 D) H (upd H D o) := ⟨fun _ _ h => h.other, fun _ _ h => h.other, fun _ _ h => h.other, fun _ _ h => h⟩
/-- D, new, is reserved -/
theorem Chg.start {D : Addr} {o : HO} (n : H D = none) : Chg F μ (μ.mk1 D) H (upd H D o) := by
  have aux : ∀ {a : Addr} {u : HO}, Rd H a u → μ.free a → (μ.mk1 D).free a ∧ Rd (upd H D o) a u := fun {a u} r f => by
    have hne : a ≠ D := fun z => by
      subst z
      rcases r with r | ⟨ob, r⟩ <;> (rw [n] at r; cases r)
    refine ⟨⟨f.1, fun m => (List.mem_cons.mp m).elim hne f.2⟩, ?_⟩
    rcases r with r | ⟨ob, r⟩
    · exact .inl (by rw [upd_ne hne]; exact r)
    · exact .inr ⟨ob, by rw [upd_ne hne]; exact r⟩
  refine ⟨fun a xs h => h.imp (fun q => aux q.2 q.1) id, fun a xs h => ?_, fun a xs h => h.imp (fun ⟨q, ob, r, d⟩ => ⟨(aux (.inl r) q).1, ob, by rw [upd_ne (ne_of_none r n)]; exact r, d⟩) id, fun _ _ h => h⟩
  have hne := ne_of_none h.2 n
  exact ⟨⟨h.1.1, fun m => (List.mem_cons.mp m).elim hne h.1.2⟩, by rw [upd_ne hne]; exact h.2⟩
/-- D is handed out: as a value, or as an object of ours -/
theorem Chg.stop {D : Addr} : Chg F (μ.mk1 D) μ H H :=
  ⟨fun a xs h => h.imp (fun q => ⟨⟨q.1.1, fun m => q.1.2 (List.mem_cons_of_mem _ m)⟩, q.2⟩) id, fun a xs h => ⟨⟨h.1.1, fun m => h.1.2 (List.mem_cons_of_mem _ m)⟩, h.2⟩, fun a xs h => h.imp (fun q => ⟨⟨q.1.1, fun m => q.1.2 (List.mem_cons_of_mem _ m)⟩, q.2⟩) id, fun _ _ h => h⟩
theorem Chg.stopO {D : Addr} : Chg F (μ.mk1 D) (μ.push D) H H := by
  have aux : ∀ {a : Addr}, (μ.mk1 D).free a → (μ.push D).free a := fun {a} f =>
    ⟨fun m => (List.mem_append.mp m).elim f.1 fun q => f.2 (by rw [List.mem_singleton.mp q]; exact List.mem_cons_self), fun m => f.2 (List.mem_cons_of_mem _ m)⟩
  exact ⟨fun a xs h => h.imp (fun q => ⟨aux q.1, q.2⟩) id, fun a xs h => ⟨aux h.1, h.2⟩, fun a xs h => h.imp (fun q => ⟨aux q.1, q.2⟩) id, fun n a h => by
    have hl := (List.getElem?_eq_some_iff.mp h).1
    exact (List.getElem?_append_left hl).trans h⟩
theorem RepO.chg (c : Chg F μ μ' H H') {a : Addr} {o : GO} (h : RepO F μ H a o) (ha : ∀ u, H a = some u → H' a = some u) (hd : ∀ d, H d = some (.own a) → μ.free d → H' d = some (.own a) ∧ μ'.free d) : RepO F μ' H' a o := by
  cases o with
  | lst ps =>
    obtain ⟨vs, q, z, r⟩ := h
    exact ⟨vs, ha _ q, z, r.chg c⟩
  | dic ps =>
    obtain ⟨vs, q, z, r⟩ := h
    exact ⟨vs, ha _ q, z, Paired.mapP r fun _ _ x => ⟨x.1, x.2.chg c⟩⟩
  | ins k fs =>
    obtain ⟨dx, vs, q, d, n, r⟩ := h
    obtain ⟨d', n'⟩ := hd dx d n
    exact ⟨dx, vs, ha _ q, d', n', Paired.mapP r fun _ _ x => ⟨x.1, x.2.chg c⟩⟩
theorem HRep.start (h : HRep F μ H G) {D : Addr} {xs : List V} (n : H D = none) : HRep F (μ.mk1 D) (upd H D (.lst xs)) G where
  len := h.len
  nd := h.nd
  obj := fun i a u h1 h2 => (h.obj i a u h1 h2).chg (Chg.start n) (fun v q => by rw [upd_ne (ne_of_none q n)]; exact q) fun d q f =>
    ⟨by rw [upd_ne (ne_of_none q n)]; exact q, f.1, fun m => (List.mem_cons.mp m).elim (ne_of_none q n) f.2⟩
  res := fun a m => by
    rcases List.mem_cons.mp m with q | q
    · subst q; exact ⟨h.freshO n, xs, upd_same⟩
    · obtain ⟨h1, u, h2⟩ := h.res a q
      exact ⟨h1, u, by rw [upd_ne (ne_of_none h2 n)]; exact h2⟩
  tab := h.tab.ext fun b o e => by rw [upd_ne (ne_of_none e n)]; exact e
theorem HRep.other (h : HRep F (μ.mk1 D) H G) {xs : List V} : HRep F (μ.mk1 D) (upd H D (.lst xs)) G where
  len := h.len
  nd := h.nd
  obj := fun i a u h1 h2 => (h.obj i a u h1 h2).chg Chg.other (fun v q => by
      have hne : a ≠ D := fun z => (h.res D List.mem_cons_self).1 (by rw [← z]; exact List.mem_of_getElem? h1)
      rw [upd_ne hne]; exact q) fun d q f => ⟨by rw [upd_ne (fun z => f.2 (by rw [z]; exact List.mem_cons_self))]; exact q, f⟩
  res := fun a m => by
    obtain ⟨h1, u, h2⟩ := h.res a m
    refine ⟨h1, ?_⟩
    by_cases z : a = D
    · exact ⟨xs, by rw [z]; exact upd_same⟩
    · exact ⟨u, by rw [upd_ne z]; exact h2⟩
  tab := by
    obtain ⟨_, ys, h2⟩ := h.res D List.mem_cons_self
    exact tabs_upd h2 trivial h.tab
theorem HRep.stop (h : HRep F (μ.mk1 D) H G) : HRep F μ H G where
  len := h.len
  nd := h.nd
  obj := fun i a u h1 h2 => (h.obj i a u h1 h2).chg Chg.stop (fun v q => q) fun d q f => ⟨q, f.1, fun m => f.2 (List.mem_cons_of_mem _ m)⟩
  res := fun a m => h.res a (List.mem_cons_of_mem _ m)
  tab := h.tab
theorem HRep.stopO (h : HRep F (μ.mk1 D) H G) (nr : D ∉ μ.rs) {g : GO} (r : RepO F (μ.push D) H D g) : HRep F (μ.push D) H (G ++ [g]) where
  len := by simp [Mu.push, h.len]
  nd := List.nodup_append.mpr ⟨h.nd, by simp, fun a ha b hb => by
    rw [List.mem_singleton.mp hb]
    intro e
    subst e
    exact (h.res a List.mem_cons_self).1 ha⟩
  obj := fun i a u h1 h2 => by
    have h1 : (μ.ob ++ [D])[i]? = some a := h1
    have hlen : μ.ob.length = G.length := h.len
    by_cases hi : i < μ.ob.length
    · rw [List.getElem?_append_left hi] at h1
      rw [List.getElem?_append_left (by rw [← hlen]; exact hi)] at h2
      refine (h.obj i a u h1 h2).chg Chg.stopO (fun v q => q) fun d q f => ⟨q, fun m => ?_, fun m => f.2 (List.mem_cons_of_mem _ m)⟩
      rcases List.mem_append.mp m with z | z
      · exact f.1 z
      · exact f.2 (by rw [List.mem_singleton.mp z]; exact List.mem_cons_self)
    · have hi' : i = μ.ob.length := by
        have := (List.getElem?_eq_some_iff.mp h1).1
        simp at this; omega
      subst hi'
      rw [List.getElem?_append_right (Nat.le_refl _)] at h1
      rw [hlen, List.getElem?_append_right (Nat.le_refl _)] at h2
      simp at h1 h2
      subst h1 h2
      exact r
  res := fun a m => by
    obtain ⟨h1, h2⟩ := h.res a (List.mem_cons_of_mem _ m)
    refine ⟨fun k => ?_, h2⟩
    rcases List.mem_append.mp k with q | q
    · exact h1 q
    · rw [List.mem_singleton.mp q] at m; exact nr m
  tab := h.tab
/-- from the start, D being made, to its end -/
theorem Ext.drop1 {μ2 : Mu} {D : Addr} (e : Ext (μ.mk1 D) μ2 H H') : ∃ ob, μ2 = (⟨ob, μ.rs⟩ : Mu).mk1 D := by
  obtain ⟨ob, rs⟩ := μ2
  exact ⟨ob, by rw [show rs = D :: μ.rs from e.rs]⟩
end
end EV
end
section
set_option Elab.async false
set_option linter.all false
set_option maxRecDepth 100000
/-! Ev2: readings that run the evaluator; how they are put together. -/
namespace EV
open PySem PySem.Spec PyProof.Rows L2
abbrev Env := List (Option PV)
/-- the slots hold what the evaluator's slots hold -/
structure SRel (F : Fx) (μ : Mu) (H : Hp) (ρ : Env) (σ : L2.St) : Prop where
  len : ρ.length = σ.length
  at' : ∀ (i : Nat) (p : PV), ρ[i]? = some (some p) → ∃ v, σ[i]? = some (some v) ∧ Rep F μ H p v
theorem SRel.mono {F : Fx} {μ μ' : Mu} {H H' : Hp} {ρ : Env} {σ : L2.St} (e : Ext μ μ' H H') (s : SRel F μ H ρ σ) : SRel F μ' H' ρ σ :=
  ⟨s.len, fun i p h => let ⟨v, h1, h2⟩ := s.at' i p h; ⟨v, h1, h2.mono e⟩⟩
theorem SRel.set {F : Fx} {μ : Mu} {H : Hp} {ρ : Env} {σ : L2.St} (s : SRel F μ H ρ σ) {p : PV} {v : V} (r : Rep F μ H p v) (i : Nat) : SRel F μ H (ρ.set i (some p)) (σ.set i (some v)) := by
  refine ⟨by simp [s.len], fun j q h => ?_⟩
  by_cases hj : i = j
  · subst hj
    have hl : i < ρ.length := by
      have := (List.getElem?_eq_some_iff.mp h).1
      simpa using this
    rw [List.getElem?_set_self hl] at h
    cases h
    exact ⟨v, by rw [List.getElem?_set_self (by rw [← s.len]; exact hl)], r⟩
  · rw [List.getElem?_set_ne hj] at h
    obtain ⟨u, h1, h2⟩ := s.at' j q h
    exact ⟨u, by rw [List.getElem?_set_ne hj]; exact h1, h2⟩

abbrev RelA (α β : Type) := Mu → Hp → α → β → Prop
/-- what is wanted behind an end of the evaluator -/
def Post {α β : Type} (F : Fx) (R : RelA α β) (Ex : XK) (μ : Mu) (H : Hp) (r : Res α) (Q : β → Hp → Prop) : Prop :=
  match r with
  | .ok a G => ∀ μ' b H', Ext μ μ' H H' → R μ' H' a b → HRep F μ' H' G → Q b H'
  | .exc c fs G => ∀ μ' d H' fvs, Ext μ μ' H H' → HRep F μ' H' G → H' d = some (.xd fvs) → μ'.free d → RepF F μ' H' fs fvs → Ex (.ref (F.ca c)) (some d) H'
  | .bad => False
section
variable {α β γ δ : Type} {F : Fx} {R : RelA α β} {R2 : RelA γ δ} {Ex : XK} {μ μ' : Mu} {H H' : Hp} {G : GH}
theorem Post.mono {r : Res α} {Q Q' : β → Hp → Prop} (h : Post F R Ex μ H r Q) (q : ∀ b H, Q b H → Q' b H) : Post F R Ex μ H r Q' := by
  cases r with
  | ok a G => exact fun μ' b H' e x y => q _ _ (h μ' b H' e x y)
  | exc c fs G => exact h
  | bad => exact h
theorem Post.shift {r : Res α} {Q : β → Hp → Prop} (e : Ext μ μ' H H') (h : Post F R Ex μ H r Q) : Post F R Ex μ' H' r Q := by
  cases r with
  | ok a G => exact fun μ2 b H2 f x y => h μ2 b H2 (e.trans f) x y
  | exc c fs G => exact fun μ2 d H2 fvs f x y n z => h μ2 d H2 fvs (e.trans f) x y n z
  | bad => exact h
theorem Post.bind {r : Res α} {f : α → GH → Res γ} {Q : δ → Hp → Prop} (h : Post F R2 Ex μ H (r.bind f) Q) :
    Post F R Ex μ H r (fun b H1 => ∃ μ1 a G1, r = .ok a G1 ∧ Ext μ μ1 H H1 ∧ R μ1 H1 a b ∧ HRep F μ1 H1 G1 ∧ Post F R2 Ex μ1 H1 (f a G1) Q) := by
  cases r with
  | ok a G => exact fun μ1 b H1 e x y => ⟨μ1, a, G, rfl, e, x, y, Post.shift e h⟩
  | exc c fs G => exact h
  | bad => exact h
theorem Post.ok {a : α} {b : β} {Q : β → Hp → Prop} (h : Post F R Ex μ H (.ok a G) Q) (e : Ext μ μ' H H') (r : R μ' H' a b) (g : HRep F μ' H' G) : Q b H' := h μ' b H' e r g
theorem Post.here {a : α} {b : β} {Q : β → Hp → Prop} (h : Post F R Ex μ H (.ok a G) Q) (r : R μ H a b) (g : HRep F μ H G) : Q b H := h μ b H (Ext.refl _ _) r g
end
def RV (F : Fx) : RelA PV V := fun μ H p v => Rep F μ H p v
def RVs (F : Fx) : RelA (List PV) (List V) := fun μ H ps vs => Reps F μ H ps vs
def RB : RelA Bool Bool := fun _ _ a b => a = b
def RU : RelA Unit Unit := fun _ _ _ _ => True

/-- the readings -/
def TEv (F : Fx) (Ex : XK) (m : Env → GH → Res PV) : TE := fun σ H Q => ∃ μ ρ G, SRel F μ H ρ σ ∧ HRep F μ H G ∧ Post F (RV F) Ex μ H (m ρ G) Q
def TTv (F : Fx) (Ex : XK) (m : Env → GH → Res Bool) : TT := fun σ H Q => ∃ μ ρ G, SRel F μ H ρ σ ∧ HRep F μ H G ∧ Post F RB Ex μ H (m ρ G) Q
def TAv (F : Fx) (Ex : XK) (m : Env → GH → Res (List PV)) : TA := fun σ H Q => ∃ μ ρ G, SRel F μ H ρ σ ∧ HRep F μ H G ∧ Post F (RVs F) Ex μ H (m ρ G) Q
/-- a value's, by values -/
def RdV (F : Fx) (Ex : XK) (m : List PV → GH → Res PV) : List V → Hp → VK → Prop := fun vs H Q => ∃ μ ps G, Reps F μ H ps vs ∧ HRep F μ H G ∧ Post F (RV F) Ex μ H (m ps G) Q
def RdT (F : Fx) (Ex : XK) (m : PV → GH → Res Bool) : V → Hp → (Bool → Hp → Prop) → Prop := fun v H Q => ∃ μ p G, Rep F μ H p v ∧ HRep F μ H G ∧ Post F RB Ex μ H (m p G) Q

theorem _root_.L2.PE.weak {X : Cx} {e : Expr} {t t' : TE} (h : PE X e t) (w : ∀ σ H Q, t' σ H Q → t σ H Q) : PE X e t' := ⟨fun pins s σ H Q I q => h.run pins s σ H Q I (w σ H Q q)⟩
theorem _root_.L2.PT.weak {X : Cx} {e : Expr} {t t' : TT} (h : PT X e t) (w : ∀ σ H Q, t' σ H Q → t σ H Q) : PT X e t' := ⟨fun pins s σ H Q I q => h.run pins s σ H Q I (w σ H Q q)⟩
theorem _root_.L2.PW.weak {X : Cx} {e : Expr} {t t' : TT} (h : PW X e t) (w : ∀ σ H Q, t' σ H Q → t σ H Q) : PW X e t' := ⟨fun wh pins s σ H Q I q => h.run wh pins s σ H Q I (w σ H Q q)⟩
theorem _root_.L2.PA.weak {X : Cx} {e : List Expr} {t t' : TA} (h : PA X e t) (w : ∀ σ H Q, t' σ H Q → t σ H Q) : PA X e t' := ⟨fun pos pins s σ H Q I q => h.run pos pins s σ H Q I (w σ H Q q)⟩
theorem _root_.L2.PS.weak {X : Cx} {e : Stmt} {t t' : TS} (h : PS X e t) (w : ∀ D σ H, t' D σ H → t D σ H) : PS X e t' := ⟨fun pins s σ H D I q => h.run pins s σ H D I (w D σ H q)⟩
theorem _root_.L2.PSs.weak {X : Cx} {e : List Stmt} {t t' : TS} (h : PSs X e t) (w : ∀ D σ H, t' D σ H → t D σ H) : PSs X e t' := ⟨fun pins s σ H D I q => h.run pins s σ H D I (w D σ H q)⟩

section
variable {X : Cx} {F : Fx} {Ex : XK}

/-- running m, then going on -/
theorem TEv.run {σ : L2.St} {H : Hp} {μ : Mu} {ρ : Env} {G : GH} {m : Env → GH → Res PV} {γ δ : Type} {R2 : RelA γ δ} {f : PV → GH → Res γ} {Q2 : δ → Hp → Prop} {Q : VK}
    (s : SRel F μ H ρ σ) (g : HRep F μ H G) (h : Post F R2 Ex μ H ((m ρ G).bind f) Q2)
    (k : ∀ μ1 a G1 v H1, Ext μ μ1 H H1 → Rep F μ1 H1 a v → HRep F μ1 H1 G1 → SRel F μ1 H1 ρ σ → Post F R2 Ex μ1 H1 (f a G1) Q2 → Q v H1) : TEv F Ex m σ H Q :=
  ⟨μ, ρ, G, s, g, (Post.bind (R := RV F) h).mono fun v H1 ⟨μ1, a, G1, _, e, r, g1, p⟩ => k μ1 a G1 v H1 e r g1 (s.mono e) p⟩
theorem TEv.runE {σ : L2.St} {H : Hp} {μ : Mu} {ρ : Env} {G : GH} {m : Env → GH → Res PV} {γ δ : Type} {R2 : RelA γ δ} {f : PV → GH → Res γ} {Q2 : δ → Hp → Prop} {Q : VK}
    (s : SRel F μ H ρ σ) (g : HRep F μ H G) (h : Post F R2 Ex μ H ((m ρ G).bind f) Q2)
    (k : ∀ μ1 a G1 v H1, m ρ G = .ok a G1 → Ext μ μ1 H H1 → Rep F μ1 H1 a v → HRep F μ1 H1 G1 → SRel F μ1 H1 ρ σ → Post F R2 Ex μ1 H1 (f a G1) Q2 → Q v H1) : TEv F Ex m σ H Q :=
  ⟨μ, ρ, G, s, g, (Post.bind (R := RV F) h).mono fun v H1 ⟨μ1, a, G1, em, e, r, g1, p⟩ => k μ1 a G1 v H1 em e r g1 (s.mono e) p⟩
theorem TAv.run {σ : L2.St} {H : Hp} {μ : Mu} {ρ : Env} {G : GH} {m : Env → GH → Res (List PV)} {γ δ : Type} {R2 : RelA γ δ} {f : List PV → GH → Res γ} {Q2 : δ → Hp → Prop} {Q : List V → Hp → Prop}
    (s : SRel F μ H ρ σ) (g : HRep F μ H G) (h : Post F R2 Ex μ H ((m ρ G).bind f) Q2)
    (k : ∀ μ1 a G1 v H1, Ext μ μ1 H H1 → Reps F μ1 H1 a v → HRep F μ1 H1 G1 → SRel F μ1 H1 ρ σ → Post F R2 Ex μ1 H1 (f a G1) Q2 → Q v H1) : TAv F Ex m σ H Q :=
  ⟨μ, ρ, G, s, g, (Post.bind (R := RVs F) h).mono fun v H1 ⟨μ1, a, G1, _, e, r, g1, p⟩ => k μ1 a G1 v H1 e r g1 (s.mono e) p⟩
theorem TTv.run {σ : L2.St} {H : Hp} {μ : Mu} {ρ : Env} {G : GH} {m : Env → GH → Res Bool} {γ δ : Type} {R2 : RelA γ δ} {f : Bool → GH → Res γ} {Q2 : δ → Hp → Prop} {Q : Bool → Hp → Prop}
    (s : SRel F μ H ρ σ) (g : HRep F μ H G) (h : Post F R2 Ex μ H ((m ρ G).bind f) Q2)
    (k : ∀ μ1 b G1 H1, Ext μ μ1 H H1 → HRep F μ1 H1 G1 → SRel F μ1 H1 ρ σ → Post F R2 Ex μ1 H1 (f b G1) Q2 → Q b H1) : TTv F Ex m σ H Q :=
  ⟨μ, ρ, G, s, g, (Post.bind (R := RB) h).mono fun v H1 ⟨μ1, a, G1, _, e, r, g1, p⟩ => by
    cases (show a = v from r)
    exact k μ1 _ G1 H1 e g1 (s.mono e) p⟩

/-! ### names and constants -/
def mVar (i : Nat) : Env → GH → Res PV := fun ρ G => match ρ[i]? with
  | some (some v) => .ok v G
  | _ => .bad
theorem ev_var {i : Nat} {x : Str} {pos : Pos} (hN : X.N[i]? = some x) (hv : Vis X.env.scope x) (hd : (x == ("__debug__" : Str)) = false) (hcd : (x == ("__classdict__" : Str)) = false) :
    PE X (.Name x pos) (TEv F Ex (mVar i)) := (pe_var hN hv hd hcd).weak fun σ H Q ⟨μ, ρ, G, s, g, p⟩ => by
  unfold mVar at p
  cases e : ρ[i]? with
  | none => rw [e] at p; exact p.elim
  | some o =>
    cases o with
    | none => rw [e] at p; exact p.elim
    | some a =>
      rw [e] at p
      obtain ⟨v, h1, h2⟩ := s.at' i a e
      exact ⟨v, h1, p.here h2 g⟩
def mCst (v : PV) : Env → GH → Res PV := fun _ G => .ok v G
theorem ev_cst {e : Expr} {p : PV} {v : V} (h : PE X e (tC v)) (r : ∀ μ H, Rep F μ H p v) : PE X e (TEv F Ex (mCst p)) :=
  h.weak fun σ H Q ⟨μ, ρ, G, s, g, q⟩ => q.here (r μ H) g
theorem ev_int {i j pos} : PE X (.Constant (.int i) j pos) (TEv F Ex (mCst (.int i))) := ev_cst pe_int fun _ _ => by simp only [Rep]
theorem ev_bl {i j pos} : PE X (.Constant (.bool i) j pos) (TEv F Ex (mCst (.bl i))) := ev_cst pe_bl fun _ _ => by simp only [Rep]
theorem ev_non {j pos} : PE X (.Constant .none j pos) (TEv F Ex (mCst .non)) := ev_cst pe_non fun _ _ => by simp only [Rep]
theorem ev_str {x j pos} : PE X (.Constant (.str x) j pos) (TEv F Ex (mCst (.str x))) := ev_cst pe_str fun _ _ => by simp only [Rep]

/-! ### operators -/
def m2 (ma mb : Env → GH → Res PV) (f : List PV → GH → Res PV) : Env → GH → Res PV := fun ρ G => (ma ρ G).bind fun x G1 => (mb ρ G1).bind fun y G2 => f [x, y] G2
def m1 (ma : Env → GH → Res PV) (f : List PV → GH → Res PV) : Env → GH → Res PV := fun ρ G => (ma ρ G).bind fun x G1 => f [x] G1
abbrev OpV (F : Fx) (Ex : XK) (m : List PV → GH → Res PV) : R2 := fun x y H Q => RdV F Ex m [x, y] H Q
theorem read2 {ta tb : TE} {ma mb : Env → GH → Res PV} {f : List PV → GH → Res PV} {σ : L2.St} {H : Hp} {Q : VK} (h : TEv F Ex (m2 ma mb f) σ H Q) : tOp (OpV F Ex f) (TEv F Ex ma) (TEv F Ex mb) σ H Q := by
  obtain ⟨μ, ρ, G, s, g, p⟩ := h
  refine TEv.run s g p fun μ1 a G1 v H1 e1 r1 g1 s1 p1 => ?_
  refine TEv.run s1 g1 p1 fun μ2 b G2 w H2 e2 r2 g2 s2 p2 => ?_
  exact ⟨μ2, [a, b], G2, .cons (r1.mono e2) (.one r2), g2, p2⟩
theorem ev_bin {op : Operator} {a b : Expr} {pos : Pos} {ma mb : Env → GH → Res PV} {f : List PV → GH → Res PV} (ho : OpR X (binaryOp op) (OpV F Ex f)) (ha : PE X a (TEv F Ex ma)) (hb : PE X b (TEv F Ex mb)) :
    PE X (.BinOp a op b pos) (TEv F Ex (m2 ma mb f)) := (pe_op ho ha hb).weak fun σ H Q h => read2 (ta := TEv F Ex ma) (tb := TEv F Ex mb) h
theorem ev_un {op : UnaryOp} {a : Expr} {pos : Pos} {ma : Env → GH → Res PV} {f : List PV → GH → Res PV} (ho : UnR X (unaryOp op) (fun x H Q => RdV F Ex f [x] H Q)) (ha : PE X a (TEv F Ex ma)) :
    PE X (.UnaryOp op a pos) (TEv F Ex (m1 ma f)) := (pe_un ho ha).weak fun σ H Q ⟨μ, ρ, G, s, g, p⟩ =>
  TEv.run s g p fun μ1 a G1 v H1 e1 r1 g1 s1 p1 => ⟨μ1, [a], G1, .one r1, g1, p1⟩
theorem ev_cmp {op : CmpOp} {a b : Expr} {pos : Pos} {ma mb : Env → GH → Res PV} {f : List PV → GH → Res PV} (ho : OpR X (compareOp op) (OpV F Ex f)) (ha : PE X a (TEv F Ex ma)) (hb : PE X b (TEv F Ex mb)) (hm : behindInMarks op b = false) :
    PE X (.Compare a [op] [b] pos) (TEv F Ex (m2 ma mb f)) := (pe_cmpR ho ha hb hm).weak fun σ H Q h => read2 (ta := TEv F Ex ma) (tb := TEv F Ex mb) h
theorem ev_ix {a b : Expr} {pos : Pos} {ma mb : Env → GH → Res PV} {f : List PV → GH → Res PV} (ho : IxR X (OpV F Ex f)) (ha : PE X a (TEv F Ex ma)) (hb : PE X b (TEv F Ex mb)) (hs : PlainIx b) :
    PE X (.Subscript a b pos) (TEv F Ex (m2 ma mb f)) := (pe_ix ho ha hb hs).weak fun σ H Q h => read2 (ta := TEv F Ex ma) (tb := TEv F Ex mb) h
/-- the end of a comparison, as a test -/
def asB (p : PV) (G : GH) : Res Bool := match p with
  | .bl b => .ok b G
  | _ => .bad
def mB (m : Env → GH → Res PV) : Env → GH → Res Bool := fun ρ G => (m ρ G).bind asB
theorem asB_use {μ : Mu} {H : Hp} {p : PV} {v : V} {G : GH} {Q : Bool → Hp → Prop} (r : Rep F μ H p v) (g : HRep F μ H G) (h : Post F RB Ex μ H (asB p G) Q) : ∃ k, v = .bl k ∧ Q k H := by
  cases p with
  | bl b => exact ⟨b, by simpa only [Rep] using r, h.here rfl g⟩
  | _ => exact (show False from h).elim
theorem ev_cmpT {op : CmpOp} {a b : Expr} {pos : Pos} {ma mb : Env → GH → Res PV} {f : List PV → GH → Res PV} (ho : OpR X (compareOp op) (OpV F Ex f)) (ha : PE X a (TEv F Ex ma)) (hb : PE X b (TEv F Ex mb)) (hm : behindInMarks op b = false) :
    PT X (.Compare a [op] [b] pos) (TTv F Ex (mB (m2 ma mb f))) := (pt_cmpR ho ha hb hm).weak fun σ H Q ⟨μ, ρ, G, s, g, p⟩ => by
  refine read2 (ta := TEv F Ex ma) (tb := TEv F Ex mb) ⟨μ, ρ, G, s, g, (Post.bind (R := RV F) p).mono fun v H1 ⟨μ1, a, G1, _, e, r, g1, q⟩ => asB_use r g1 q⟩
/-- two comparisons in a chain -/
def m3c (ma mb mc : Env → GH → Res PV) (f f' : List PV → GH → Res PV) : Env → GH → Res PV := fun ρ G => (ma ρ G).bind fun x G1 => (mb ρ G1).bind fun y G2 => (f [x, y] G2).bind fun z G3 => (asB z G3).bind fun k G4 =>
  if k = true then (mc ρ G4).bind fun c G5 => f' [y, c] G5 else .ok (.bl false) G4
/-! ### truth -/
def truth (p : PV) (G : GH) : Res Bool := match p with
  | .non => .ok false G
  | .bl b => .ok b G
  | .int i => .ok (i != 0) G
  | .str x => if x.length ≤ sizeLine then .ok ((x.length : Int) != 0) G else .bad
  | .tup ps => .ok (!ps.isEmpty) G
  | .lst ps => .ok (!ps.isEmpty) G
  | .sls ps => .ok (!ps.isEmpty) G
  | .obj n => match G[n]? with
    | some (.lst ps) => .ok (!ps.isEmpty) G
    | some (.dic ps) => .ok (!ps.isEmpty) G
    | _ => .bad
def mT (m : Env → GH → Res PV) : Env → GH → Res Bool := fun ρ G => (m ρ G).bind truth
theorem Reps.isEmpty {μ : Mu} {H : Hp} {ps : List PV} {vs : List V} (h : Reps F μ H ps vs) : ps.isEmpty = vs.isEmpty := by
  have := h.length
  cases ps <;> cases vs <;> simp_all
theorem truth_use {K : PySem.W.Frag} (hK : F.K = K) {μ : Mu} {H : Hp} {p : PV} {v : V} {G : GH} {Q : Bool → Hp → Prop} (r : Rep F μ H p v) (g : HRep F μ H G) (h : Post F RB Ex μ H (truth p G) Q) : ∃ k, TruV K v H k ∧ Q k H := by
  subst hK
  cases p with
  | non => simp only [Rep] at r; subst r; exact ⟨false, rfl, h.here rfl g⟩
  | bl b => simp only [Rep] at r; subst r; exact ⟨b, rfl, h.here rfl g⟩
  | int i => simp only [Rep] at r; subst r; exact ⟨_, rfl, h.here rfl g⟩
  | str x =>
    simp only [Rep] at r; subst r
    unfold truth at h
    by_cases hx : x.length ≤ sizeLine
    · simp only [hx, if_true] at h
      exact ⟨_, ⟨hx, rfl⟩, h.here rfl g⟩
    · simp only [hx, if_false] at h
      exact (show False from h).elim
  | tup ps =>
    simp only [Rep] at r
    obtain ⟨a, vs, rfl, z, st, rr⟩ := r
    exact ⟨_, .inr (.inl ⟨vs, st.sq, rfl⟩), h.here (congrArg (! ·) rr.isEmpty) g⟩
  | lst ps =>
    simp only [Rep] at r
    obtain ⟨a, vs, rfl, z, st, rr⟩ := r
    exact ⟨_, .inl ⟨vs, SqL.of st.2, rfl⟩, h.here (congrArg (! ·) rr.isEmpty) g⟩
  | sls ps =>
    simp only [Rep] at r
    obtain ⟨a, vs, rfl, z, st, rr⟩ := r
    exact ⟨_, .inl ⟨vs, st.sq, rfl⟩, h.here (congrArg (! ·) rr.isEmpty) g⟩
  | obj n =>
    simp only [Rep] at r
    obtain ⟨a, rfl, ha⟩ := r
    unfold truth at h
    cases e : G[n]? with
    | none => simp only [e] at h; exact (show False from h).elim
    | some o =>
      have q := g.obj n a o ha e
      cases o with
      | lst ps =>
        simp only [e] at h
        obtain ⟨vs, q, z, rr⟩ := q
        exact ⟨_, .inl ⟨vs, SqL.of q, rfl⟩, h.here (congrArg (! ·) rr.isEmpty) g⟩
      | dic ps =>
        simp only [e] at h
        obtain ⟨vs, q, z, rr⟩ := q
        have : ps.isEmpty = vs.isEmpty := by
          have := Paired.length rr
          cases ps <;> cases vs <;> simp_all
        exact ⟨_, .inr (.inr ⟨vs, q, rfl⟩), h.here (congrArg (! ·) this) g⟩
      | ins c fs => simp only [e] at h; exact (show False from h).elim
end
end EV
end
section
set_option Elab.async false
set_option linter.all false
set_option maxRecDepth 100000
set_option maxHeartbeats 1000000
/-! EvT: new tuples, their very objects known (no dict of their own). -/
namespace EV
open PySem PySem.Spec PyProof.Rows L2
/-- wherever a new tuple of these items lies -/
def NewT (H : Hp) (ys : List V) (Q : VK) : Prop := ∀ (p : Addr) (o : Obj), H p = none → o.dict = none → Q (.ref p) (upd H p (.frz o (.tup ys)))
section
variable {X : Cx} {pins : List (Addr × Obj)} {σ : L2.St} {H : Hp} {s : Shared}
theorem fz_laid {h' : Heap} {t' : Nat} {p : Addr} {ys : List V} {its : List Value} (I : Inv X pins σ H s) (k : ∀ b u, s.heap.get? b = some u → h'.get? b = some u) (hp : s.heap.objs.size ≤ p) (e : h'.get? p = some { cls := .type "tuple", data := .seq its.toArray }) (r : Vals ys its) (z : ys.length ≤ sizeLine) :
    Inv X pins σ (upd H p (.frz { cls := .type "tuple", data := .seq its.toArray } (.tup ys))) { s with heap := h', toks := t' } :=
  I.laid (t' := t') k hp ⟨e, z, its, r, ⟨_, e, rfl, _, rfl⟩⟩
theorem fz_new {Q : VK} {t' : Nat} {ys : List V} {its : List Value} (I : Inv X pins σ H s) (r : Vals ys its) (z : ys.length ≤ sizeLine) (q : NewT H ys Q) : EP X pins σ Q (.ref s.heap.objs.size) { s with heap := s.heap.push { cls := .type "tuple", data := .seq its.toArray }, toks := t' } :=
  ⟨.ref s.heap.objs.size, _, fz_laid I (fun b u e => Heap.get?_push_of_some _ e) (Nat.le_refl _) (Heap.get?_push_size _ rfl) r z, rfl, q _ _ (I.hok.fresh (Nat.le_refl _)) rfl⟩
end
section
variable {X : Cx} {es : List Expr} {t : TA} {pos : Pos}
theorem pe_tupF {x1 : Nat} (h : PA X es t) : PE X (.Tuple es x1 pos) (fun σ H Q => t σ H fun xs H1 => xs.length ≤ sizeLine ∧ NewT H1 xs Q) := by
  refine ⟨fun pins s σ H Q I hq => ?_⟩
  exact wpAny_Tuple_spliced (thn (h.run pos pins s σ H _ I hq) fun us s1 ⟨xs, H1, I1, r, z, q⟩ => ⟨by rw [← r.length]; exact z, fz_new (t' := s1.toks) I1 r z q⟩)
/-- tuple(xs), of a list or of a tuple -/
theorem call_tupleF : CallR X (.type "tuple") (fun xs H Q => ∃ a ys, xs = [.ref a] ∧ ((SqL X.K H a ys ∧ NewT H ys Q) ∨ (SqT X.K H a ys ∧ Q (.ref a) H))) := by
  intro pins s σ H xs us Q I r h
  obtain ⟨a, ys, rfl, h⟩ := h
  obtain ⟨u, rfl, ru⟩ := vals1 r
  cases ru
  rcases h with ⟨hs, q⟩ | ⟨hs, q⟩
  · obtain ⟨its, rv, pl, hz⟩ := I.list hs
    refine call_tuple_list pl.isList (fun h' hk => ?_) (by rw [List.size_toArray, ← rv.length]; exact hz)
    exact fz_new (t' := s.toks) (I.kept (t' := s.toks) hk) rv hz q
  · exact call_tupleT pins s σ H _ _ Q I r ⟨a, ys, rfl, hs, q⟩
theorem op_catF : OpR X (binaryOp .Add) (fun x y H Q => ∃ a b xs ys, x = .ref a ∧ y = .ref b ∧ SqT X.K H a xs ∧ SqT X.K H b ys ∧ xs.length + ys.length ≤ sizeLine ∧ (xs = [] → Q (.ref b) H) ∧ (xs ≠ [] → ys = [] → Q (.ref a) H) ∧ (xs ≠ [] → ys ≠ [] → NewT H (xs ++ ys) Q)) := by
  intro pins s σ H x y v u Q I rx ry h
  obtain ⟨a, b, xs, ys, rfl, rfl, ha, hb, hz, q0, q1, q2⟩ := h
  cases rx
  cases ry
  obtain ⟨its, r1, p1, _⟩ := I.tuple ha
  obtain ⟨its2, r2, p2, _⟩ := I.tuple hb
  by_cases hx : xs = []
  · subst hx
    cases r1
    exact cat_tup0 p1 p2 ⟨.ref b, H, I, rfl, q0 rfl⟩
  · refine HT.cat_tup p1 p2 (fun z => hx (r1.nil_iff.mp z)) (fun z => ⟨.ref a, H, I, rfl, q1 hx (r2.nil_iff.mp z)⟩) (fun z => ?_) (by rw [← r1.length, ← r2.length]; exact hz)
    exact fz_new (t' := s.toks) I (r1.append r2) (by rw [List.length_append]; exact hz) (q2 hx fun w => z (r2.nil_iff.mpr w))
theorem sl_tupF : SlR X (fun x lo hi H Q => ∃ a xs, x = .ref a ∧ SqT X.K H a xs ∧ (HT.sIx xs.length 0 lo = 0 ∧ HT.sIx xs.length xs.length hi = xs.length → Q (.ref a) H) ∧ (¬ (HT.sIx xs.length 0 lo = 0 ∧ HT.sIx xs.length xs.length hi = xs.length) → NewT H (cutV xs lo hi) Q)) := by
  intro pins s σ H x v vl vu lo hi sl Q I rx hs pl pu h
  obtain ⟨a, xs, rfl, hx, q1, q2⟩ := h
  by_cases hw : HT.sIx xs.length 0 lo = 0 ∧ HT.sIx xs.length xs.length hi = xs.length
  · exact sl_tupA pins s σ H _ v vl vu lo hi sl Q I rx hs pl pu ⟨a, xs, rfl, hx, q1, fun z => absurd hw z⟩
  · cases rx
    obtain ⟨its, r, ht, hz⟩ := I.tuple hx
    have hlen : its.toArray.size = xs.length := by rw [List.size_toArray]; exact r.length.symm
    refine ⟨"tuple", _, PyProof.Rows.slot_tuple_getitem.lookup, ht.typeIs, ?_⟩
    refine HT.getItem_tuple_cut ht hs pl pu (by rw [hlen]; exact hw) ?_ (by rw [hlen]; exact hz)
    rw [hlen]
    exact fz_new (t' := s.toks) I ((r.drop _).take _) (Nat.le_trans (cutV_length xs lo hi) hz) (q2 hw)
/-- xs * k, more than once -/
theorem op_repF : OpR X (binaryOp .Mult) (fun x y H Q => ∃ l k xs, x = .ref l ∧ y = .int k ∧ SqT X.K H l xs ∧ xs ≠ [] ∧ 2 ≤ k ∧ k ≤ 1000 ∧ xs.length ≤ 1000 ∧ NewT H (List.replicate k.toNat xs).flatten Q) := by
  intro pins s σ H x y v u Q I rx ry ⟨l, k, xs, ex, ey, hT, hne, h1, h2, hz, q⟩
  subst ex ey
  cases rx
  obtain ⟨t, rfl⟩ := ry
  obtain ⟨its, r, hp, _⟩ := I.tuple hT
  obtain ⟨⟨cls, dd, data, sl⟩, ho, hc, n, hd⟩ := hp
  dsimp only at hc hd
  subst hc hd
  have hle : xs.length = its.length := r.length
  have hn : its.isEmpty = false := by
    cases its with
    | nil => exact absurd (List.eq_nil_of_length_eq_zero hle) hne
    | cons a b => rfl
  have hm : k.toNat * its.length ≤ 1000 * 1000 := Nat.mul_le_mul (by omega) (by omega)
  have fl : (List.replicate k.toNat its).flatten.length ≤ sizeLine := by
    rw [PyProof.Rows.lm_len_rep_flat, sizeLine_eq]
    omega
  have e1 : (decide (k < -(2 ^ 63)) || decide (k ≥ 2 ^ 63)) = false := by simp; omega
  have e2 : (its.toArray.isEmpty || k == 1) = false := by simp [hn]; omega
  have e3 : (decide (k ≤ 0) || its.toArray.isEmpty) = false := by simp [hn]; omega
  have z : ((its.toArray.size : Nat) : Int) * k ≤ 1000 * 1000 := by
    have a1 : ((its.length : Nat) : Int) * k ≤ 1000 * k := Int.mul_le_mul_of_nonneg_right (by omega) (by omega)
    rw [List.size_toArray]
    omega
  have e4 : Builtin.Tuple.tupleTooMany (((its.toArray.size : Nat) : Int) * k) = false := by
    unfold Builtin.Tuple.tupleTooMany
    rw [sizeLine_eq]
    simp only [decide_eq_false_iff_not]
    omega
  refine wpAny_binaryOp_repeat_ref (T := "tuple") (U := "int") (by decide) ⟨_, ho, rfl⟩ (fun s' => typeIs_int s' k t) noFill_tuple_mul F.fills_int_mul F.slot_int_rmul repeat_tuple F.slot_int_index.lookup ?_
  refine call_meets F.slot_int_rmul (typeIs_int s k t) F.entry_int_rmul (F.args_int_rmul_2 _ _) (int_rmul_tuple k t l its.toArray n dd sl) ⟨ho, rfl, ⟨_, ho, rfl⟩, ?_⟩
  refine call_meets F.slot_tuple_mul ⟨_, ho, rfl⟩ F.entry_tuple_mul (F.args_tuple_mul_2 _ _) (tuple_mulW l its.toArray n dd sl k t e1 e2 e3 (by omega) e4 (by rw [size_rep, List.size_toArray]; exact fl)) ⟨ho, ?_⟩
  rw [size_rep]
  have z2 : (List.replicate k.toNat xs).flatten.length ≤ sizeLine := by
    rw [PyProof.Rows.lm_len_rep_flat, hle, sizeLine_eq]
    omega
  exact fz_new (t' := s.toks) I (r.rep k.toNat) z2 q
theorem tuple_mul0 (l : Addr) (n : Nat) (dd : Option Addr) (sl : Array (Option Value)) (x : Int) (u : Tok) (c0 : (decide (x < -(2 ^ 63)) || decide (x ≥ 2 ^ 63)) = false) :
    Meets (Builtin.«tuple.__mul__» ⟨[.ref l, .int x u], []⟩) (fun _ R s => s.heap.get? l = some { cls := .type "tuple", dict := dd, data := .seq #[] n, slots := sl } ∧
      R (.ok (.ret (Value.ref l))) s) :=
  .of_wp fun prog w A R s h => by
    obtain ⟨hp, g, d, tk, os⟩ := s
    obtain ⟨hl, h⟩ := h
    have f1 := AutoSeq1.idx_int
    wp_walk using wpAny_loadPart' hl
    refine wpAny_ite_false (decide_eq_false (by rw [c0]; exact Bool.false_ne_true)) ?_
    wp_walk using wpAny_loadPart' hl
    exact ⟨_, rfl, h⟩
/-- () * k -/
theorem op_rep0 : OpR X (binaryOp .Mult) (fun x y H Q => ∃ l k, x = .ref l ∧ y = .int k ∧ SqT X.K H l [] ∧ 2 ≤ k ∧ k ≤ 1000 ∧ Q (.ref l) H) := by
  intro pins s σ H x y v u Q I rx ry ⟨l, k, ex, ey, hT, h1, h2, q⟩
  subst ex ey
  cases rx
  obtain ⟨t, rfl⟩ := ry
  obtain ⟨its, r, hp, _⟩ := I.tuple hT
  obtain ⟨⟨cls, dd, data, sl⟩, ho, hc, n, hd⟩ := hp
  dsimp only at hc hd
  subst hc hd
  cases r
  have e1 : (decide (k < -(2 ^ 63)) || decide (k ≥ 2 ^ 63)) = false := by simp; omega
  refine wpAny_binaryOp_repeat_ref (T := "tuple") (U := "int") (by decide) ⟨_, ho, rfl⟩ (fun s' => typeIs_int s' k t) noFill_tuple_mul F.fills_int_mul F.slot_int_rmul repeat_tuple F.slot_int_index.lookup ?_
  refine call_meets F.slot_int_rmul (typeIs_int s k t) F.entry_int_rmul (F.args_int_rmul_2 _ _) (int_rmul_tuple k t l _ n dd sl) ⟨ho, rfl, ⟨_, ho, rfl⟩, ?_⟩
  refine call_meets F.slot_tuple_mul ⟨_, ho, rfl⟩ F.entry_tuple_mul (F.args_tuple_mul_2 _ _) (tuple_mul0 l n dd sl k t e1) ⟨ho, ?_⟩
  exact ⟨.ref l, H, I, rfl, q⟩
end
end EV
end
section
set_option Elab.async false
set_option linter.all false
set_option maxRecDepth 100000
/-! Ev3: and, or, not, tests, conditional expressions, argument lists, displays, slices, chains. -/
namespace EV
open PySem PySem.Spec PyProof.Rows L2
section
variable {X : Cx} {F : Fx} {Ex : XK}

/-! ### and, or, not as values -/
def mAnd (ma mb : Env → GH → Res PV) : Env → GH → Res PV := fun ρ G => (ma ρ G).bind fun x G1 => (truth x G1).bind fun k G2 => if k = true then mb ρ G2 else .ok x G2
def mOr (ma mb : Env → GH → Res PV) : Env → GH → Res PV := fun ρ G => (ma ρ G).bind fun x G1 => (truth x G1).bind fun k G2 => if k = true then .ok x G2 else mb ρ G2
theorem truth_ok {p : PV} {G G' : GH} {k : Bool} (h : truth p G = .ok k G') : G' = G := by
  unfold truth at h
  split at h
  all_goals first | (cases h; rfl) | (split at h <;> first | (cases h; rfl) | cases h)
theorem truth_noexc {p : PV} {G G' : GH} {c : Nat} {fs : List (Str × PV)} (h : truth p G = .exc c fs G') : False := by
  unfold truth at h
  split at h
  all_goals first | cases h | (split at h <;> cases h)
theorem truth_go {γ δ : Type} {R2 : RelA γ δ} {K : PySem.W.Frag} (hK : F.K = K) {μ : Mu} {H : Hp} {p : PV} {v : V} {G : GH} {f : Bool → GH → Res γ} {Q : δ → Hp → Prop} (r : Rep F μ H p v) (g : HRep F μ H G)
    (h : Post F R2 Ex μ H ((truth p G).bind f) Q) : ∃ k, TruV K v H k ∧ Post F R2 Ex μ H (f k G) Q := by
  have q := (Post.bind (R := RB) h)
  cases e : truth p G with
  | ok k G' =>
    have eG := truth_ok e
    subst eG
    rw [e] at h
    have hk : ∃ k', TruV K v H k' ∧ k' = k := by
      refine truth_use (Ex := Ex) (Q := fun k' _ => k' = k) hK r g ?_
      rw [e]
      exact fun μ' b H' _ rr _ => (show k = b from rr).symm
    obtain ⟨k', h1, rfl⟩ := hk
    exact ⟨k', h1, h⟩
  | exc c fs G' => exact (truth_noexc e).elim
  | bad => rw [e] at h; exact (show False from h).elim
theorem ev_and {a b : Expr} {rest : List Expr} {pos : Pos} {ma mb : Env → GH → Res PV} (hK : F.K = X.K) (ha : PE X a (TEv F Ex ma)) (hb : PE X (.BoolOp .And (b :: rest) pos) (TEv F Ex mb)) :
    PE X (.BoolOp .And (a :: b :: rest) pos) (TEv F Ex (mAnd ma mb)) := (pe_andT ha hb).weak fun σ H Q ⟨μ, ρ, G, s, g, p⟩ =>
  TEv.run s g p fun μ1 a G1 v H1 e1 r1 g1 s1 p1 => by
    obtain ⟨k, t, p2⟩ := truth_go hK r1 g1 p1
    refine ⟨k, t, ?_⟩
    cases k with
    | true => exact ⟨μ1, ρ, G1, s1, g1, p2⟩
    | false => exact p2.here r1 g1
theorem ev_or {a b : Expr} {rest : List Expr} {pos : Pos} {ma mb : Env → GH → Res PV} (hK : F.K = X.K) (ha : PE X a (TEv F Ex ma)) (hb : PE X (.BoolOp .Or (b :: rest) pos) (TEv F Ex mb)) :
    PE X (.BoolOp .Or (a :: b :: rest) pos) (TEv F Ex (mOr ma mb)) := (pe_orT ha hb).weak fun σ H Q ⟨μ, ρ, G, s, g, p⟩ =>
  TEv.run s g p fun μ1 a G1 v H1 e1 r1 g1 s1 p1 => by
    obtain ⟨k, t, p2⟩ := truth_go hK r1 g1 p1
    refine ⟨k, t, ?_⟩
    cases k with
    | true => exact p2.here r1 g1
    | false => exact ⟨μ1, ρ, G1, s1, g1, p2⟩
theorem ev_one {op : BoolOp} {a : Expr} {pos : Pos} {t : TE} (h : PE X a t) : PE X (.BoolOp op [a] pos) t := pe_one h
def mNot (m : Env → GH → Res PV) : Env → GH → Res PV := fun ρ G => (m ρ G).bind fun x G1 => (truth x G1).bind fun k G2 => .ok (.bl (!k)) G2
theorem ev_not {a : Expr} {pos : Pos} {ma : Env → GH → Res PV} (hK : F.K = X.K) (ha : PE X a (TEv F Ex ma)) : PE X (.UnaryOp .Not a pos) (TEv F Ex (mNot ma)) :=
  (pe_notT ha).weak fun σ H Q ⟨μ, ρ, G, s, g, p⟩ => TEv.run s g p fun μ1 a G1 v H1 e1 r1 g1 s1 p1 => by
    obtain ⟨k, t, p2⟩ := truth_go hK r1 g1 p1
    exact ⟨k, t, p2.here (show Rep F μ1 H1 _ _ by simp only [Rep]) g1⟩

/-! ### tests -/
theorem ev_truth {a : Expr} {ma : Env → GH → Res PV} (hK : F.K = X.K) (ha : PE X a (TEv F Ex ma)) (he : ∀ whole, isTrue a X.env whole = (do let v ← whole; standAt a.pos; holding [v] (truthy v))) : PT X a (TTv F Ex (mT ma)) :=
  (pt_truth ha he).weak fun σ H Q ⟨μ, ρ, G, s, g, p⟩ => TEv.run s g p fun μ1 a G1 v H1 e1 r1 g1 s1 p1 => truth_use hK r1 g1 p1
def mtNot (m : Env → GH → Res Bool) : Env → GH → Res Bool := fun ρ G => (m ρ G).bind fun k G1 => .ok (!k) G1
theorem ev_tnot {a : Expr} {pos : Pos} {m : Env → GH → Res Bool} (ha : PT X a (TTv F Ex m)) : PT X (.UnaryOp .Not a pos) (TTv F Ex (mtNot m)) :=
  (pt_not ha).weak fun σ H Q ⟨μ, ρ, G, s, g, p⟩ => TTv.run s g p fun μ1 b G1 H1 e1 g1 s1 p1 => p1.here rfl g1
def mtAnd (ma mb : Env → GH → Res Bool) : Env → GH → Res Bool := fun ρ G => (ma ρ G).bind fun k G1 => if k = true then mb ρ G1 else .ok false G1
def mtOr (ma mb : Env → GH → Res Bool) : Env → GH → Res Bool := fun ρ G => (ma ρ G).bind fun k G1 => if k = true then .ok true G1 else mb ρ G1
theorem ev_tand1 {a : Expr} {pos : Pos} {t : TT} (h : PT X a t) : PW X (.BoolOp .And [a] pos) t := pw_and1 h
theorem ev_tor1 {a : Expr} {pos : Pos} {t : TT} (h : PT X a t) : PW X (.BoolOp .Or [a] pos) t := pw_or1 h
theorem ev_tand {a b : Expr} {rest : List Expr} {pos : Pos} {ma mb : Env → GH → Res Bool} (ha : PT X a (TTv F Ex ma)) (hb : PW X (.BoolOp .And (b :: rest) pos) (TTv F Ex mb)) :
    PW X (.BoolOp .And (a :: b :: rest) pos) (TTv F Ex (mtAnd ma mb)) := (pw_and ha hb).weak fun σ H Q ⟨μ, ρ, G, s, g, p⟩ => TTv.run s g p fun μ1 b G1 H1 e1 g1 s1 p1 => by
  cases b with
  | true => exact ⟨μ1, ρ, G1, s1, g1, p1⟩
  | false => exact p1.here rfl g1
theorem ev_tor {a b : Expr} {rest : List Expr} {pos : Pos} {ma mb : Env → GH → Res Bool} (ha : PT X a (TTv F Ex ma)) (hb : PW X (.BoolOp .Or (b :: rest) pos) (TTv F Ex mb)) :
    PW X (.BoolOp .Or (a :: b :: rest) pos) (TTv F Ex (mtOr ma mb)) := (pw_or ha hb).weak fun σ H Q ⟨μ, ρ, G, s, g, p⟩ => TTv.run s g p fun μ1 b G1 H1 e1 g1 s1 p1 => by
  cases b with
  | true => exact p1.here rfl g1
  | false => exact ⟨μ1, ρ, G1, s1, g1, p1⟩
def mIf (mc : Env → GH → Res Bool) (ma mb : Env → GH → Res PV) : Env → GH → Res PV := fun ρ G => (mc ρ G).bind fun k G1 => if k = true then ma ρ G1 else mb ρ G1
theorem ev_if {c a b : Expr} {pos : Pos} {mc : Env → GH → Res Bool} {ma mb : Env → GH → Res PV} (hc : PT X c (TTv F Ex mc)) (ha : PE X a (TEv F Ex ma)) (hb : PE X b (TEv F Ex mb)) :
    PE X (.IfExp c a b pos) (TEv F Ex (mIf mc ma mb)) := (pe_ifExp hc ha hb).weak fun σ H Q ⟨μ, ρ, G, s, g, p⟩ => TTv.run s g p fun μ1 b G1 H1 e1 g1 s1 p1 => by
  cases b with
  | true => exact ⟨μ1, ρ, G1, s1, g1, p1⟩
  | false => exact ⟨μ1, ρ, G1, s1, g1, p1⟩

/-! ### a chain of two comparisons -/
theorem asB_go {γ δ : Type} {R2 : RelA γ δ} {μ : Mu} {H : Hp} {p : PV} {v : V} {G : GH} {f : Bool → GH → Res γ} {Q : δ → Hp → Prop} (r : Rep F μ H p v) (h : Post F R2 Ex μ H ((asB p G).bind f) Q) :
    ∃ k, v = .bl k ∧ Post F R2 Ex μ H (f k G) Q := by
  cases p with
  | bl b => exact ⟨b, by simpa only [Rep] using r, h⟩
  | _ => exact (show False from h).elim
theorem chain_read {ma mb mc : Env → GH → Res PV} {f f' : List PV → GH → Res PV} {σ : L2.St} {H : Hp} {Q : VK} (h : TEv F Ex (m3c ma mb mc f f') σ H Q) :
    tChain (OpV F Ex f) (OpV F Ex f') (TEv F Ex ma) (TEv F Ex mb) (TEv F Ex mc) σ H Q := by
  obtain ⟨μ, ρ, G, s, g, p⟩ := h
  refine TEv.run s g p fun μ1 a G1 v H1 e1 r1 g1 s1 p1 => ?_
  refine TEv.run s1 g1 p1 fun μ2 b G2 w H2 e2 r2 g2 s2 p2 => ?_
  refine ⟨μ2, [a, b], G2, .cons (r1.mono e2) (.one r2), g2, (Post.bind (R := RV F) p2).mono fun z H3 ⟨μ3, z', G3, _, e3, r3, g3, p3⟩ => ?_⟩
  obtain ⟨k, e, p4⟩ := asB_go r3 p3
  refine ⟨k, e, ?_⟩
  cases k with
  | true =>
    refine TEv.run (s2.mono e3) g3 p4 fun μ4 c G4 u H4 e4 r4 g4 s4 p5 => ?_
    exact ⟨μ4, [b, c], G4, .cons ((r2.mono e3).mono e4) (.one r4), g4, p5⟩
  | false => exact p4.here (show Rep F μ3 H3 _ _ by simp only [Rep]) g3
theorem ev_chain {op op' : CmpOp} {a b c : Expr} {pos : Pos} {ma mb mc : Env → GH → Res PV} {f f' : List PV → GH → Res PV} (ho : OpR X (compareOp op) (OpV F Ex f)) (ho' : OpR X (compareOp op') (OpV F Ex f'))
    (ha : PE X a (TEv F Ex ma)) (hb : PE X b (TEv F Ex mb)) (hc : PE X c (TEv F Ex mc)) (hm : lastMarks [op, op'] [b, c] = false) : PE X (.Compare a [op, op'] [b, c] pos) (TEv F Ex (m3c ma mb mc f f')) :=
  (pe_chain ho ho' ha hb hc hm).weak fun σ H Q h => chain_read h
theorem ev_chainT {op op' : CmpOp} {a b c : Expr} {pos : Pos} {ma mb mc : Env → GH → Res PV} {f f' : List PV → GH → Res PV} (ho : OpR X (compareOp op) (OpV F Ex f)) (ho' : OpR X (compareOp op') (OpV F Ex f'))
    (ha : PE X a (TEv F Ex ma)) (hb : PE X b (TEv F Ex mb)) (hc : PE X c (TEv F Ex mc)) (hm : lastMarks [op, op'] [b, c] = false) : PT X (.Compare a [op, op'] [b, c] pos) (TTv F Ex (mB (m3c ma mb mc f f'))) :=
  (pt_chain ho ho' ha hb hc hm).weak fun σ H Q ⟨μ, ρ, G, s, g, p⟩ => chain_read ⟨μ, ρ, G, s, g, (Post.bind (R := RV F) p).mono fun v H1 ⟨μ1, a, G1, _, e, r, g1, q⟩ => asB_use r g1 q⟩

/-! ### argument lists, displays -/
def mNil : Env → GH → Res (List PV) := fun _ G => .ok [] G
def mCons (m : Env → GH → Res PV) (ms : Env → GH → Res (List PV)) : Env → GH → Res (List PV) := fun ρ G => (m ρ G).bind fun x G1 => (ms ρ G1).bind fun xs G2 => .ok (x :: xs) G2
theorem ev_nil : PA X [] (TAv F Ex mNil) := pa_nil.weak fun σ H Q ⟨μ, ρ, G, s, g, p⟩ => p.here (show Reps F μ H [] [] from .nil) g
def plainE : Expr → Bool
  | .Starred _ _ => false
  | _ => true
theorem star_plain {e : Expr} {es : List Expr} {env : PySem.Env} (h : plainE e = true) : starEach (e :: es) env = (false, eval e env) :: starEach es env := by
  cases e <;> first | rfl | cases h
theorem ev_cons {e : Expr} {es : List Expr} {m : Env → GH → Res PV} {ms : Env → GH → Res (List PV)} (hp : plainE e = true) (he : PE X e (TEv F Ex m)) (hs : PA X es (TAv F Ex ms)) : PA X (e :: es) (TAv F Ex (mCons m ms)) :=
  (pa_cons he hs (star_plain hp)).weak fun σ H Q ⟨μ, ρ, G, s, g, p⟩ => by
    refine TEv.run s g p fun μ1 a G1 v H1 e1 r1 g1 s1 p1 => ?_
    refine TAv.run s1 g1 p1 fun μ2 b G2 w H2 e2 r2 g2 s2 p2 => ?_
    exact p2.here (show Reps F μ2 H2 _ _ from .cons (r1.mono e2) r2) g2
def mkTup (ps : List PV) (G : GH) : Res PV := if ps.length ≤ sizeLine then .ok (.tup ps) G else .bad
def mkLst (ps : List PV) (G : GH) : Res PV := if ps.length ≤ sizeLine then .ok (.lst ps) G else .bad
def mkObj (ps : List PV) (G : GH) : Res PV := if ps.length ≤ sizeLine then .ok (.obj G.length) (G ++ [.lst ps]) else .bad
def mA (ms : Env → GH → Res (List PV)) (f : List PV → GH → Res PV) : Env → GH → Res PV := fun ρ G => (ms ρ G).bind f
/-- a new tuple, a new list (a value, or an object of ours) at p -/
theorem new_tup {μ : Mu} {H : Hp} {ps : List PV} {vs : List V} {G : GH} {Q : VK} (r : Reps F μ H ps vs) (g : HRep F μ H G) (h : Post F (RV F) Ex μ H (mkTup ps G) Q) :
    vs.length ≤ sizeLine ∧ NewT H vs Q := by
  unfold mkTup at h
  by_cases z : ps.length ≤ sizeLine
  · rw [if_pos z] at h
    have z' : vs.length ≤ sizeLine := by rw [← r.length]; exact z
    refine ⟨z', fun p o n d => h.ok (Ext.upd_new g n) ?_ (g.upd_new n)⟩
    show Rep F μ _ _ _
    simp only [Rep]
    exact ⟨p, vs, rfl, z', .inl ⟨g.fresh n, o, upd_same, d⟩, r.mono (Ext.upd_new g n)⟩
  · rw [if_neg z] at h; exact (show False from h).elim
theorem new_lst {μ : Mu} {H : Hp} {ps : List PV} {vs : List V} {G : GH} {Q : VK} (r : Reps F μ H ps vs) (g : HRep F μ H G) (h : Post F (RV F) Ex μ H (mkLst ps G) Q) :
    vs.length ≤ sizeLine ∧ ∀ p, H p = none → Q (.ref p) (upd H p (.lst vs)) := by
  unfold mkLst at h
  by_cases z : ps.length ≤ sizeLine
  · rw [if_pos z] at h
    have z' : vs.length ≤ sizeLine := by rw [← r.length]; exact z
    refine ⟨z', fun p n => h.ok (Ext.upd_new g n) ?_ (g.upd_new n)⟩
    show Rep F μ _ _ _
    simp only [Rep]
    exact ⟨p, vs, rfl, z', ⟨g.fresh n, upd_same⟩, r.mono (Ext.upd_new g n)⟩
  · rw [if_neg z] at h; exact (show False from h).elim
theorem new_obj {μ : Mu} {H : Hp} {ps : List PV} {vs : List V} {G : GH} {Q : VK} (r : Reps F μ H ps vs) (g : HRep F μ H G) (h : Post F (RV F) Ex μ H (mkObj ps G) Q) :
    vs.length ≤ sizeLine ∧ ∀ p, H p = none → Q (.ref p) (upd H p (.lst vs)) := by
  unfold mkObj at h
  by_cases z : ps.length ≤ sizeLine
  · rw [if_pos z] at h
    have z' : vs.length ≤ sizeLine := by rw [← r.length]; exact z
    refine ⟨z', fun p n => h.ok (Ext.push g n) ?_ (g.push n ⟨vs, upd_same, z', r.mono (Ext.push g n)⟩)⟩
    show Rep F _ _ _ _
    simp only [Rep]
    exact ⟨p, rfl, by rw [← g.len]; simp⟩
  · rw [if_neg z] at h; exact (show False from h).elim
theorem ev_tup {es : List Expr} {k : Nat} {pos : Pos} {ms : Env → GH → Res (List PV)} (h : PA X es (TAv F Ex ms)) : PE X (.Tuple es k pos) (TEv F Ex (mA ms mkTup)) :=
  (pe_tupF h).weak fun σ H Q ⟨μ, ρ, G, s, g, p⟩ => TAv.run s g p fun μ1 a G1 v H1 e1 r1 g1 s1 p1 => new_tup r1 g1 p1
theorem ev_lst {es : List Expr} {pos : Pos} {ms : Env → GH → Res (List PV)} (h : PA X es (TAv F Ex ms)) : PE X (.List es pos) (TEv F Ex (mA ms mkLst)) :=
  (pe_lst h).weak fun σ H Q ⟨μ, ρ, G, s, g, p⟩ => TAv.run s g p fun μ1 a G1 v H1 e1 r1 g1 s1 p1 => new_lst r1 g1 p1
theorem ev_lso {es : List Expr} {pos : Pos} {ms : Env → GH → Res (List PV)} (h : PA X es (TAv F Ex ms)) : PE X (.List es pos) (TEv F Ex (mA ms mkObj)) :=
  (pe_lst h).weak fun σ H Q ⟨μ, ρ, G, s, g, p⟩ => TAv.run s g p fun μ1 a G1 v H1 e1 r1 g1 s1 p1 => new_obj r1 g1 p1

/-! ### built-ins by name -/
theorem any_star {e : Expr} {es : List Expr} {env : PySem.Env} {pos : Pos} (h : es.all plainE = true) : (backTo pos (starEach es env)).any (·.1) = false := by
  induction es with
  | nil => rfl
  | cons a r ih =>
    simp only [List.all_cons, Bool.and_eq_true] at h
    rw [star_plain h.1]
    exact ih h.2
theorem ev_blt {id : String} {x : Str} {e : Expr} {es : List Expr} {p pos : Pos} {ms : Env → GH → Res (List PV)} {f : List PV → GH → Res PV} (hc : CallR X (.builtin id) (RdV F Ex f)) (hg : Gl X x) (hm : X.mg x = none) (hv : bootBuiltins x = some (.builtin id))
    (ha : PA X (e :: es) (TAv F Ex ms)) (hn : x ≠ "__name__") (hdb : (x == ("__debug__" : Str)) = false) (h1 : plainE e = true) (h2 : es.all plainE = true) : PE X (.Call (.Name x p) (e :: es) [] pos) (TEv F Ex (mA ms f)) :=
  (pe_callB hc hg hm hv ha hn hdb (star_plain h1) (any_star (e := e) h2)).weak fun σ H Q ⟨μ, ρ, G, s, g, p⟩ => TAv.run s g p fun μ1 a G1 v H1 e1 r1 g1 s1 p1 => ⟨μ1, a, G1, r1, g1, p1⟩
theorem ev_bty {T : String} {x : Str} {e : Expr} {es : List Expr} {p pos : Pos} {ms : Env → GH → Res (List PV)} {f : List PV → GH → Res PV} (hc : CallR X (.type T) (RdV F Ex f)) (hg : Gl X x) (hm : X.mg x = none) (hv : bootBuiltins x = some (.type T))
    (ha : PA X (e :: es) (TAv F Ex ms)) (hn : x ≠ "__name__") (hdb : (x == ("__debug__" : Str)) = false) (h1 : plainE e = true) (h2 : es.all plainE = true) : PE X (.Call (.Name x p) (e :: es) [] pos) (TEv F Ex (mA ms f)) :=
  (pe_callTy hc hg hm hv ha hn hdb (star_plain h1) (any_star (e := e) h2)).weak fun σ H Q ⟨μ, ρ, G, s, g, p⟩ => TAv.run s g p fun μ1 a G1 v H1 e1 r1 g1 s1 p1 => ⟨μ1, a, G1, r1, g1, p1⟩

/-! ### slices -/
def mPart (m : Env → GH → Res PV) : Env → GH → Res (Option Int) := fun ρ G => (m ρ G).bind fun x G1 => match x with
  | .int i => .ok (some i) G1
  | _ => .bad
def mNoPart : Env → GH → Res (Option Int) := fun _ G => .ok none G
def RO : RelA (Option Int) (Option Int) := fun _ _ a b => a = b
def TOv (F : Fx) (Ex : XK) (m : Env → GH → Res (Option Int)) : TO := fun σ H Q => ∃ μ ρ G, SRel F μ H ρ σ ∧ HRep F μ H G ∧ Post F RO Ex μ H (m ρ G) Q
theorem _root_.L2.PO.weak {e : Option Expr} {t t' : TO} (h : PO X e t) (w : ∀ σ H Q, t' σ H Q → t σ H Q) : PO X e t' := ⟨fun pins s σ H Q I q => h.run pins s σ H Q I (w σ H Q q)⟩
theorem ev_poN : PO X none (TOv F Ex mNoPart) := po_none.weak fun σ H Q ⟨μ, ρ, G, s, g, p⟩ => p.here rfl g
theorem ev_poS {e : Expr} {m : Env → GH → Res PV} (h : PE X e (TEv F Ex m)) : PO X (some e) (TOv F Ex (mPart m)) := (po_some h).weak fun σ H Q ⟨μ, ρ, G, s, g, p⟩ => TEv.run s g p fun μ1 a G1 v H1 e1 r1 g1 s1 p1 => by
  cases a with
  | int i => exact ⟨i, by simpa only [Rep] using r1, p1.here rfl g1⟩
  | _ => exact (show False from p1).elim
def mSl (m : Env → GH → Res PV) (l h : Env → GH → Res (Option Int)) (f : PV → Option Int → Option Int → GH → Res PV) : Env → GH → Res PV := fun ρ G => (m ρ G).bind fun x G1 => (l ρ G1).bind fun i G2 => (h ρ G2).bind fun j G3 => f x i j G3
theorem TOv.run {σ : L2.St} {H : Hp} {μ : Mu} {ρ : Env} {G : GH} {m : Env → GH → Res (Option Int)} {γ δ : Type} {R2 : RelA γ δ} {f : Option Int → GH → Res γ} {Q2 : δ → Hp → Prop} {Q : Option Int → Hp → Prop}
    (s : SRel F μ H ρ σ) (g : HRep F μ H G) (h : Post F R2 Ex μ H ((m ρ G).bind f) Q2)
    (k : ∀ μ1 b G1 H1, Ext μ μ1 H H1 → HRep F μ1 H1 G1 → SRel F μ1 H1 ρ σ → Post F R2 Ex μ1 H1 (f b G1) Q2 → Q b H1) : TOv F Ex m σ H Q :=
  ⟨μ, ρ, G, s, g, (Post.bind (R := RO) h).mono fun v H1 ⟨μ1, a, G1, _, e, r, g1, p⟩ => by
    cases (show a = v from r)
    exact k μ1 _ G1 H1 e g1 (s.mono e) p⟩
def RdS (F : Fx) (Ex : XK) (f : PV → Option Int → Option Int → GH → Res PV) : V → Option Int → Option Int → Hp → VK → Prop := fun v lo hi H Q => ∃ μ p G, Rep F μ H p v ∧ HRep F μ H G ∧ Post F (RV F) Ex μ H (f p lo hi G) Q
theorem ev_sl {e : Expr} {lo hi : Option Expr} {p2 pos : Pos} {m : Env → GH → Res PV} {l h : Env → GH → Res (Option Int)} {f : PV → Option Int → Option Int → GH → Res PV} (hr : SlR X (RdS F Ex f)) (he : PE X e (TEv F Ex m)) (hl : PO X lo (TOv F Ex l)) (hu : PO X hi (TOv F Ex h)) :
    PE X (.Subscript e (.Slice lo hi none p2) pos) (TEv F Ex (mSl m l h f)) := (pe_slice hr he hl hu).weak fun σ H Q ⟨μ, ρ, G, s, g, p⟩ => by
  refine TEv.run s g p fun μ1 a G1 v H1 e1 r1 g1 s1 p1 => ?_
  refine TOv.run s1 g1 p1 fun μ2 i G2 H2 e2 g2 s2 p2 => ?_
  refine TOv.run s2 g2 p2 fun μ3 j G3 H3 e3 g3 s3 p3 => ?_
  exact ⟨μ3, a, G3, (r1.mono e2).mono e3, g3, p3⟩
end
end EV
end
section
set_option Elab.async false
set_option linter.all false
set_option maxRecDepth 100000
/-! Ev4: defs and their calls; comprehensions; loops. -/
namespace EV
open PySem PySem.Spec PyProof.Rows L2

/-- a def keeps a promise wherever no repr is under way -/
structure FnG (P : Program) (w : World) (K : PySem.W.Frag) (mg : Str → Option Value) (base : Heap) (k : Nat) (f : Addr) (fd : FuncData) (ps : List Str) (sp : Sp) : Prop where
  len : ∀ vs H Q E, sp vs H Q E → vs.length = ps.length
  run : ∀ (A : Around) (outer : List PySem.Env) (s : Shared) (H : Hp) (args : Args) (us : List Value) (vs : List V) (Q : VK) (E : XK), Room k A → A.guards = some [] → Env0 P w K mg base A outer s H →
    BindsTo s fd args (ps.zip us) → Vals vs us → sp vs H Q E → codeAny (model P w) A (.call (.ref f) args) (CR (L2.CX P w) outer P w H s Q E) s
theorem FnG.mono {P : Program} {w : World} {K : PySem.W.Frag} {mg : Str → Option Value} {base : Heap} {j k : Nat} {f : Addr} {fd : FuncData} {ps : List Str} {sp : Sp} (F : FnG P w K mg base j f fd ps sp) (h : j ≤ k) : FnG P w K mg base k f fd ps sp :=
  ⟨F.len, fun A outer s H args us vs Q E hr => F.run A outer s H args us vs Q E (hr.mono h)⟩

/-- a def of the text, by its body -/
theorem fnG_of {P : Program} {w : World} {K : PySem.W.Frag} {mg : Str → Option Value} {base : Heap} {k : Nat} {f : Addr} {name qual : Str} {params : Arguments} {body : List Stmt} {scope : Scope} {dV kV doc pm cdv ct oc : Value} {an od : Option Addr}
    {osl : Array (Option Value)} {N ps : List Str} {sp : Sp} (lk : K.lookup f = some ⟨oc, od, .func (PySem.W.fnOf name qual params body scope dV kV doc pm an cdv ct), osl⟩) (hcd : PySem.W.codeIn K cdv qual = true) (S : FnScope N ps scope)
    (len : ∀ vs H Q E, sp vs H Q E → vs.length = ps.length)
    (hbody : ∀ (A : Around) (outer : List PySem.Env) (s : Shared) (H : Hp) (vs : List V) (Q : VK) (E : XK), Room k (A.deeper (envOfC qual scope s.heap.objs.size f cdv)) → A.guards = some [] → sp vs H Q E →
      ∃ t, PSs (cxOf (L2.CX P w) P w K mg base N qual scope f cdv A outer s H E) body t ∧ t { nx := fun _ H' => Q .non H', rt := Q } (start N vs) H) :
    FnG P w K mg base (k + 1) f (PySem.W.fnOf name qual params body scope dV kV doc pm an cdv ct) ps sp where
  len := len
  run := fun A outer s H args us vs Q E hr hgd e0 hb r hsp => by
    have hlen := len _ _ _ _ hsp
    have stays : ∀ b o, base.get? b = some o → s.heap.get? b = some o := fun b o e => (e0.bs b o e).1
    have KX : K.In s.heap := e0.mod.kin.keeps stays
    have lim : s.heap.NoLimit := e0.mod.nolimit.keeps stays
    have kinds : ∀ y ∈ ps.zip us, scope.names.lookup y.1 = some .local ∨ (scope.names.lookup y.1 = some .cell ∧ ((cellsFrom (s.heap.objs.size + 1) scope.names []).lookup y.1).isSome = true) := fun y hy =>
      (S.par y.1 (List.of_mem_zip hy).1).imp id fun q => ⟨q, PySem.W.cellsFrom_some _ _ _ (.inl q)⟩
    refine codeAny_call_function hr.depth (KX _ _ lk) rfl S.co S.gen rfl (PySem.W.codeRec_of KX hcd) (hb _ _ _ _ ?_)
    refine wpAny_newFunctionEnv_cells S.kind kinds fun env he s1 x => ?_
    subst he
    refine ⟨lim.keeps x.toInCall.keep, codeAny_func ?_⟩
    obtain ⟨t, ht, hq⟩ := hbody A outer s H vs Q E (hr.deeper _) hgd hsp
    have I := inv_start (CX := L2.CX P w) (E := E) (cd := cdv) S hr.hd e0 hlen r x
    refine wpAny_mono (ht.run [] s1 (start N vs) H _ I hq) (fun fl s' hs => ?_) fun e s' hs => hs
    cases fl with
    | ret u =>
      obtain ⟨v, σ', H', J, rv, q⟩ := hs
      exact ⟨v, H', J.os, J.bare, J.base, J.hok, rv, q⟩
    | next =>
      obtain ⟨σ', H', J, q⟩ := hs
      exact ⟨V.non, H', J.os, J.bare, J.base, J.hok, rfl, q⟩
    | brk => obtain ⟨_, _, _, q⟩ := hs; exact False.elim q
    | cont => obtain ⟨_, _, _, q⟩ := hs; exact False.elim q

section
variable {X : Cx} {F : Fx} {Ex : XK} {k : Nat} {f : Addr} {fd : FuncData} {ps : List Str} {sp : Sp} {ds : List Value} {dvs : List V} {x : Str} {p pos : Pos} {e : Expr} {es : List Expr} {t : TA}
theorem run_fnG {pins : List (Addr × Obj)} {σ : L2.St} {H : Hp} {s : Shared} {Q : VK} {us : List Value} {vs : List V} (Fn : FnG X.prog X.w X.K X.mg X.base k f fd ps sp) (hr : Room k X.A) (hgd : X.A.guards = some []) (hb : Binds X.K fd ps ds) (hd : Vals dvs ds)
    (hx : Passes (L2.CX X.prog X.w) X Ex) (I : Inv X pins σ H s) (r : Vals vs us) (h : sp (vs ++ dvs) H Q Ex) : wpAny (model X.prog X.w) X.A (call (.ref f) us) (EP X pins σ Q) X.xe s := by
  have r2 : Vals (vs ++ dvs) (us ++ ds) := r.append hd
  have hlen : (us ++ ds).length = ps.length := r2.length.symm.trans (Fn.len _ _ _ _ h)
  refine wpAny_call (codeAny_mono (Fn.run X.A X.stack s H ⟨us, []⟩ (us ++ ds) (vs ++ dvs) Q Ex hr hgd I.env0 (hb s us I.kIn hlen) r2 h) fun r s' hq => ?_)
  match r, hq with
  | .error e, hq => exact hx pins σ H s e s' I hq
  | .ok (.ret u), hq => exact I.after hq
  | .ok .next, hq => exact False.elim hq
  | .ok .brk, hq => exact False.elim hq
  | .ok .cont, hq => exact False.elim hq
theorem pe_callG (Fn : FnG X.prog X.w X.K X.mg X.base k f fd ps sp) (hr : Room k X.A) (hgd : X.A.guards = some []) (hg : Gl X x) (hm : X.mg x = some (.ref f)) (hk : PySem.W.keepIn X.K (.ref f) = true) (hb : Binds X.K fd ps ds) (hd : Vals dvs ds)
    (hx : Passes (L2.CX X.prog X.w) X Ex) (ha : PA X (e :: es) t) (hdb : (x == ("__debug__" : Str)) = false) (h1 : plainE e = true) (h2 : es.all plainE = true) : PE X (.Call (.Name x p) (e :: es) [] pos) (tCall sp dvs Ex t) :=
  ⟨fun pins s σ H Q I h => wpAny_Call_Name_kw (ld_glob I hg hm (PySem.W.callWith_K (h₀ := X.base) I.ok.mod.kin hk
    (thn (ha.run pos pins s σ H _ I h) fun us s1 ⟨vs, H1, I1, r, q⟩ => ⟨I1.kIn, run_fnG Fn hr hgd hb hd hx I1 r q⟩) (star_plain h1) (any_star (e := e) h2)) hdb)⟩
/-- an own def's promise, by the evaluator -/
def SpV (F : Fx) (n : Nat) (m : List PV → GH → Res PV) : Sp := fun vs H Q E => vs.length = n ∧ RdV F E m vs H Q
theorem ev_call {n : Nat} {m : List PV → GH → Res PV} {ms : Env → GH → Res (List PV)} (Fn : FnG X.prog X.w X.K X.mg X.base k f fd ps (SpV F n m)) (hr : Room k X.A) (hgd : X.A.guards = some []) (hg : Gl X x) (hm : X.mg x = some (.ref f)) (hk : PySem.W.keepIn X.K (.ref f) = true)
    (hb : Binds X.K fd ps []) (hx : Passes (L2.CX X.prog X.w) X Ex) (ha : PA X (e :: es) (TAv F Ex ms)) (hdb : (x == ("__debug__" : Str)) = false) (h1 : plainE e = true) (h2 : es.all plainE = true)
    (hn : ∀ qs G, qs.length ≠ n → m qs G = .bad) : PE X (.Call (.Name x p) (e :: es) [] pos) (TEv F Ex (mA ms m)) :=
  (pe_callG Fn hr hgd hg hm hk hb .nil hx ha hdb h1 h2).weak fun σ H Q ⟨μ, ρ, G, s, g, q⟩ => TAv.run s g q fun μ1 a G1 v H1 e1 r1 g1 s1 p1 => by
    refine ⟨?_, μ1, a, G1, by rw [List.append_nil]; exact r1, g1, p1⟩
    rw [List.append_nil]
    by_cases z : a.length = n
    · rw [← r1.length]; exact z
    · rw [hn a G1 z] at p1; exact (show False from p1).elim
end
end EV
end
section
set_option Elab.async false
set_option linter.all false
set_option maxRecDepth 100000
/-! Ev5: targets, what is walked, comprehensions, statements. -/
namespace EV
open PySem PySem.Spec PyProof.Rows L2

/-! ### data that is the same -/
mutual
def PV.same : PV → PV → Bool
  | .non, .non => true
  | .bl a, .bl b => a == b
  | .int a, .int b => a == b
  | .str a, .str b => decide (a = b)
  | .tup a, .tup b => PV.sames a b
  | .lst a, .lst b => PV.sames a b
  | .sls a, .sls b => PV.sames a b
  | .obj a, .obj b => a == b
  | _, _ => false
def PV.sames : List PV → List PV → Bool
  | [], [] => true
  | a :: as, b :: bs => PV.same a b && PV.sames as bs
  | _, _ => false
end
mutual
theorem PV.same_eq : ∀ {a b : PV}, PV.same a b = true → a = b
  | .non, b, h => by cases b <;> simp [PV.same] at h; rfl
  | .bl x, b, h => by cases b <;> simp [PV.same] at h; rw [h]
  | .int x, b, h => by cases b <;> simp [PV.same] at h; rw [h]
  | .str x, b, h => by cases b <;> simp [PV.same] at h; rw [h]
  | .tup x, b, h => by
    cases b <;> simp [PV.same] at h
    rw [PV.sames_eq h]
  | .lst x, b, h => by
    cases b <;> simp [PV.same] at h
    rw [PV.sames_eq h]
  | .sls x, b, h => by
    cases b <;> simp [PV.same] at h
    rw [PV.sames_eq h]
  | .obj x, b, h => by cases b <;> simp [PV.same] at h; rw [h]
theorem PV.sames_eq : ∀ {a b : List PV}, PV.sames a b = true → a = b
  | [], b, h => by cases b <;> simp [PV.sames] at h; rfl
  | a :: as, [], h => by simp [PV.sames] at h
  | a :: as, b :: bs, h => by
    simp only [PV.sames, Bool.and_eq_true] at h
    rw [PV.same_eq h.1, PV.sames_eq h.2]
end
mutual
theorem PV.same_self : ∀ a : PV, PV.same a a = true
  | .non => by simp [PV.same]
  | .bl x => by simp [PV.same]
  | .int x => by simp [PV.same]
  | .str x => by simp [PV.same]
  | .tup x => by simp only [PV.same]; exact PV.sames_self x
  | .lst x => by simp only [PV.same]; exact PV.sames_self x
  | .sls x => by simp only [PV.same]; exact PV.sames_self x
  | .obj x => by simp [PV.same]
theorem PV.sames_self : ∀ a : List PV, PV.sames a a = true
  | [] => by simp [PV.sames]
  | a :: as => by simp only [PV.sames, Bool.and_eq_true]; exact ⟨PV.same_self a, PV.sames_self as⟩
end

/-! ### what is walked -/
/-- the items, and what has to stay so that they do -/
structure Src where
  its : List PV
  gd : GH → Bool
def JOk (F : Fx) (J : It) (μ0 : Mu) (H0 : Hp) (S : Src) : Prop :=
  ∀ μ H G, Chg F μ0 μ H0 H → HRep F μ H G → S.gd G = true →
    (∀ (i : Nat) (p : PV), S.its[i]? = some p → J.go i H ∧ ∀ x H', J.yld i H x H' → (∀ a o, H a = some o → H' a = some o) ∧ Rep F μ H' p x) ∧ J.stop S.its.length H
def RI (F : Fx) : RelA Src It := fun μ H S J => S.its.length ≤ sizeLine ∧ JOk F J μ H S
def TIv (F : Fx) (Ex : XK) (m : Env → GH → Res Src) : TI := fun σ H R => ∃ μ ρ G, SRel F μ H ρ σ ∧ HRep F μ H G ∧ Post F (RI F) Ex μ H (m ρ G) R
theorem _root_.L2.PI.weak {X : Cx} {tg e : Expr} {t t' : TI} (h : PI X tg e t) (w : ∀ σ H Q, t' σ H Q → t σ H Q) : PI X tg e t' := ⟨fun pins s σ H Q I q => h.run pins s σ H Q I (w σ H Q q)⟩
theorem _root_.L2.PI.or {X : Cx} {tg e : Expr} {t t' : TI} (h : PI X tg e t) (h' : PI X tg e t') : PI X tg e (fun σ H R => t σ H R ∨ t' σ H R) := ⟨fun pins s σ H Q I q => q.elim (h.run pins s σ H Q I) (h'.run pins s σ H Q I)⟩
def isLstAt (n : Nat) (ps : List PV) (G : GH) : Bool := match G[n]? with
  | some (.lst qs) => PV.sames qs ps
  | _ => false
theorem isLstAt_eq {n : Nat} {ps : List PV} {G : GH} (h : isLstAt n ps G = true) : G[n]? = some (.lst ps) := by
  unfold isLstAt at h
  split at h
  · rename_i qs e; rw [e, PV.sames_eq h]
  · cases h
def signs (x : Str) : List PV := x.cps.toList.map fun c => .str ⟨#[c]⟩
def seqSrc (p : PV) (G : GH) : Res Src := match p with
  | .tup ps => .ok ⟨ps, fun _ => true⟩ G
  | .lst ps => .ok ⟨ps, fun _ => true⟩ G
  | .sls ps => .ok ⟨ps, fun _ => true⟩ G
  | .str x => if x.length ≤ sizeLine then .ok ⟨signs x, fun _ => true⟩ G else .bad
  | .obj n => match G[n]? with
    | some (.lst ps) => .ok ⟨ps, isLstAt n ps⟩ G
    | _ => .bad
  | _ => .bad
def mSeq (m : Env → GH → Res PV) : Env → GH → Res Src := fun ρ G => (m ρ G).bind seqSrc
section
variable {X : Cx} {F : Fx} {Ex : XK}
theorem JOk.tup {K : PySem.W.Frag} (hK : F.K = K) {μ : Mu} {H : Hp} {a : Addr} {vs : List V} {ps : List PV} (st : StT F μ H a vs) (r : Reps F μ H ps vs) : JOk F (Itt K a) μ H ⟨ps, fun _ => true⟩ := by
  subst hK
  intro μ1 H1 G1 e g _
  have sq : SqT F.K H1 a vs := (e.t _ _ st).sq
  refine ⟨fun i p hp => ?_, vs, sq, by rw [← r.length]; exact Nat.le_refl _⟩
  obtain ⟨v, h1, h2⟩ := r.get hp
  refine ⟨⟨vs, v, sq, h1⟩, fun x H' hy => ?_⟩
  obtain ⟨rfl, hy⟩ := hy
  refine ⟨fun _ _ h => h, ?_⟩
  have := hy vs sq
  rw [h1] at this; cases this
  exact h2.chg e
theorem JOk.lst {K : PySem.W.Frag} (hK : F.K = K) {μ : Mu} {H : Hp} {a : Addr} {vs : List V} {ps : List PV} (st : StL F μ H a vs) (r : Reps F μ H ps vs) : JOk F (Itl K a) μ H ⟨ps, fun _ => true⟩ := by
  subst hK
  intro μ1 H1 G1 e g _
  have sq : SqL F.K H1 a vs := (e.l _ _ st).sq
  refine ⟨fun i p hp => ?_, vs, sq, by rw [← r.length]; exact Nat.le_refl _⟩
  obtain ⟨v, h1, h2⟩ := r.get hp
  refine ⟨⟨vs, v, sq, h1⟩, fun x H' hy => ?_⟩
  obtain ⟨rfl, hy⟩ := hy
  refine ⟨fun _ _ h => h, ?_⟩
  have := hy vs sq
  rw [h1] at this; cases this
  exact h2.chg e
theorem JOk.obj {K : PySem.W.Frag} (hK : F.K = K) {μ : Mu} {H : Hp} {n : Nat} {a : Addr} {ps : List PV} (ha : μ.ob[n]? = some a) : JOk F (Itl K a) μ H ⟨ps, isLstAt n ps⟩ := by
  subst hK
  intro μ1 H1 G1 e g hgd
  obtain ⟨vs, q, z, r⟩ := g.obj n a _ (e.ob _ _ ha) (isLstAt_eq hgd)
  have sq : SqL F.K H1 a vs := SqL.of q
  refine ⟨fun i p hp => ?_, vs, sq, by rw [← r.length]; exact Nat.le_refl _⟩
  obtain ⟨v, h1, h2⟩ := r.get hp
  refine ⟨⟨vs, v, sq, h1⟩, fun x H' hy => ?_⟩
  obtain ⟨rfl, hy⟩ := hy
  refine ⟨fun _ _ h => h, ?_⟩
  have := hy vs sq
  rw [h1] at this; cases this
  exact h2
theorem JOk.str {μ : Mu} {H : Hp} {x : Str} : JOk F (Its x) μ H ⟨signs x, fun _ => true⟩ := by
  intro μ1 H1 G1 e g _
  refine ⟨fun i p hp => ?_, by show x.cps.size ≤ (signs x).length; unfold signs; simp⟩
  unfold signs at hp
  rw [List.getElem?_map] at hp
  cases hc : x.cps.toList[i]? with
  | none => rw [hc] at hp; cases hp
  | some c =>
    rw [hc] at hp
    have ep : p = .str ⟨#[c]⟩ := (Option.some.inj hp).symm
    subst ep
    have hc' : x.cps[i]? = some c := by simpa using hc
    refine ⟨(Array.getElem?_eq_some_iff.mp hc').1, fun v H' hy => ?_⟩
    obtain ⟨rfl, d, hd, rfl⟩ := hy
    rw [hc'] at hd; cases hd
    exact ⟨fun _ _ h => h, by simp only [Rep]⟩
theorem ev_seq {tg e : Expr} {m : Env → GH → Res PV} (hK : F.K = X.K) (h : PE X e (TEv F Ex m)) : PI X tg e (TIv F Ex (mSeq m)) := by
  refine ((pi_tup h).or ((pi_list h).or (pi_str h))).weak fun σ H R ⟨μ, ρ, G, s, g, p⟩ => ?_
  cases em : m ρ G with
  | bad => unfold mSeq at p; rw [em] at p; exact (show False from p).elim
  | exc c fs G' =>
    refine .inl (TEv.runE s g p fun μ1 a G1 v H1 em' _ _ _ _ _ => ?_)
    rw [em] at em'; cases em'
  | ok q G' =>
    cases q with
    | tup ps =>
      refine .inl (TEv.runE s g p fun μ1 a G1 v H1 em' e1 r1 g1 s1 p1 => ?_)
      rw [em] at em'; cases em'
      obtain ⟨b, vs, rfl, z, st, rr⟩ := (show ∃ a vs, v = .ref a ∧ _ from by simpa only [Rep] using r1)
      exact ⟨b, rfl, ⟨vs, by rw [← hK]; exact st.sq⟩, p1.here ⟨by rw [rr.length]; exact z, JOk.tup hK st rr⟩ g1⟩
    | lst ps =>
      refine .inr (.inl (TEv.runE s g p fun μ1 a G1 v H1 em' e1 r1 g1 s1 p1 => ?_))
      rw [em] at em'; cases em'
      obtain ⟨b, vs, rfl, z, st, rr⟩ := (show ∃ a vs, v = .ref a ∧ _ from by simpa only [Rep] using r1)
      exact ⟨b, rfl, ⟨vs, SqL.of st.2⟩, p1.here ⟨by rw [rr.length]; exact z, JOk.lst hK st.st rr⟩ g1⟩
    | sls ps =>
      refine .inr (.inl (TEv.runE s g p fun μ1 a G1 v H1 em' e1 r1 g1 s1 p1 => ?_))
      rw [em] at em'; cases em'
      obtain ⟨b, vs, rfl, z, st, rr⟩ := (show ∃ a vs, v = .ref a ∧ _ from by simpa only [Rep] using r1)
      exact ⟨b, rfl, ⟨vs, by rw [← hK]; exact st.sq⟩, p1.here ⟨by rw [rr.length]; exact z, JOk.lst hK st rr⟩ g1⟩
    | str x =>
      refine .inr (.inr (TEv.runE s g p fun μ1 a G1 v H1 em' e1 r1 g1 s1 p1 => ?_))
      rw [em] at em'; cases em'
      have ev : v = .str x := by simpa only [Rep, RV] using r1
      unfold seqSrc at p1
      by_cases hx : x.length ≤ sizeLine
      · simp only [hx, if_true] at p1
        exact ⟨x, ev, p1.here ⟨by unfold signs; rw [List.length_map]; simpa using (show x.cps.size ≤ sizeLine from hx), JOk.str⟩ g1⟩
      · simp only [hx, if_false] at p1; exact (show False from p1).elim
    | obj n =>
      refine .inr (.inl (TEv.runE s g p fun μ1 a G1 v H1 em' e1 r1 g1 s1 p1 => ?_))
      rw [em] at em'; cases em'
      obtain ⟨b, rfl, hb⟩ := (show ∃ a, v = .ref a ∧ μ1.ob[n]? = some a from by simpa only [Rep] using r1)
      unfold seqSrc at p1
      cases eo : G'[n]? with
      | none => simp only [eo] at p1; exact (show False from p1).elim
      | some o =>
        cases o with
        | lst ps =>
          simp only [eo] at p1
          obtain ⟨vs, q, z, rr⟩ := g1.obj n b _ hb eo
          exact ⟨b, rfl, ⟨vs, SqL.of q⟩, p1.here ⟨by rw [rr.length]; exact z, JOk.obj hK hb⟩ g1⟩
        | _ => simp only [eo] at p1; exact (show False from p1).elim
    | _ => unfold mSeq at p; rw [em] at p; exact (show False from p).elim
/-! ### range -/
def rgIts (lo : Int) (n : Nat) : List PV := (List.range n).map fun (i : Nat) => .int (lo + (i : Int))
theorem JOk.rng {μ : Mu} {H : Hp} {lo : Int} {n : Nat} : JOk F (Itr lo n) μ H ⟨rgIts lo n, fun _ => true⟩ := by
  intro μ1 H1 G1 e g _
  refine ⟨fun i p hp => ?_, by show n ≤ (rgIts lo n).length; simp [rgIts]⟩
  have hi : i < n := by
    have := (List.getElem?_eq_some_iff.mp hp).1
    simpa [rgIts] using this
  have ep : p = .int (lo + (i : Int)) := by
    unfold rgIts at hp
    rw [List.getElem?_map, List.getElem?_range hi] at hp
    exact (Option.some.inj hp).symm
  subst ep
  refine ⟨hi, fun v H' hy => ?_⟩
  obtain ⟨rfl, rfl⟩ := hy
  exact ⟨fun _ _ h => h, by simp only [Rep]⟩
def rgSrc (ps : List PV) (G : GH) : Res Src := match ps with
  | [.int j] => if -(2 ^ 62) ≤ j ∧ j < 2 ^ 62 ∧ j.toNat ≤ sizeLine then .ok ⟨rgIts 0 j.toNat, fun _ => true⟩ G else .bad
  | [.int i, .int j] => if (-(2 ^ 62) ≤ i ∧ i < 2 ^ 62 ∧ -(2 ^ 62) ≤ j ∧ j < 2 ^ 62) ∧ (j - i).toNat ≤ sizeLine then .ok ⟨rgIts i (j - i).toNat, fun _ => true⟩ G else .bad
  | _ => .bad
def mRng (ms : Env → GH → Res (List PV)) : Env → GH → Res Src := fun ρ G => (ms ρ G).bind rgSrc
theorem int_rep {μ : Mu} {H : Hp} {i : Int} {v : V} (r : Rep F μ H (.int i) v) : v = .int i := by simpa only [Rep] using r
theorem ev_rng1 {tg a : Expr} {ms : Env → GH → Res (List PV)} {p pos : Pos} (hg : Gl X "range") (hm : X.mg "range" = none) (ha : PA X [a] (TAv F Ex ms)) (h1 : plainE a = true)
    (hb : ∀ ρ G qs G', ms ρ G = .ok qs G' → qs.length = 1) : PI X tg (.Call (.Name "range" p) [a] [] pos) (TIv F Ex (mRng ms)) :=
  (pi_range1 hg hm ha (star_plain h1)).weak fun σ H R ⟨μ, ρ, G, s, g, q⟩ => by
    refine ⟨μ, ρ, G, s, g, (Post.bind (R := RVs F) q).mono fun vs H1 ⟨μ1, qs, G1, em, e, r, g1, p1⟩ => ?_⟩
    have hl := hb _ _ _ _ em
    match qs, hl, r, p1 with
    | [q1], _, r, p1 =>
      obtain ⟨v, rfl, r1⟩ := Reps.one_inv r
      cases q1 with
      | int j =>
        rw [int_rep r1]
        simp only [rgSrc] at p1
        split at p1
        · rename_i c
          exact ⟨j, rfl, c.1, c.2.1, p1.here ⟨by simpa [rgIts] using c.2.2, JOk.rng⟩ g1⟩
        · exact (show False from p1).elim
      | _ => exact (show False from p1).elim
theorem ev_rng2 {tg a b : Expr} {ms : Env → GH → Res (List PV)} {p pos : Pos} (hg : Gl X "range") (hm : X.mg "range" = none) (ha : PA X [a, b] (TAv F Ex ms)) (h1 : plainE a = true) (h2 : plainE b = true)
    (hb : ∀ ρ G qs G', ms ρ G = .ok qs G' → qs.length = 2) : PI X tg (.Call (.Name "range" p) [a, b] [] pos) (TIv F Ex (mRng ms)) :=
  (pi_range2 hg hm ha (by rw [star_plain h1, star_plain h2]; rfl) (star_plain h2)).weak fun σ H R ⟨μ, ρ, G, s, g, q⟩ => by
    refine ⟨μ, ρ, G, s, g, (Post.bind (R := RVs F) q).mono fun vs H1 ⟨μ1, qs, G1, em, e, r, g1, p1⟩ => ?_⟩
    have hl := hb _ _ _ _ em
    match qs, hl, r, p1 with
    | [q1, q2], _, r, p1 =>
      obtain ⟨v, w, rfl, r1, r2⟩ := Reps.two_inv r
      cases q1 with
      | int i =>
        cases q2 with
        | int j =>
          rw [int_rep r1, int_rep r2]
          simp only [rgSrc] at p1
          split at p1
          · rename_i c
            exact ⟨i, j, rfl, c.1, p1.here ⟨by simpa [rgIts] using c.2, JOk.rng⟩ g1⟩
          · exact (show False from p1).elim
        | _ => exact (show False from p1).elim
      | _ => exact (show False from p1).elim
end
end EV
end
section
set_option Elab.async false
set_option linter.all false
set_option maxRecDepth 100000
/-! Ev6: targets, comprehensions, statements, loops. -/
namespace EV
open PySem PySem.Spec PyProof.Rows L2

theorem Res.bind_assoc {α β γ : Type} (r : Res α) (f : α → GH → Res β) (g : β → GH → Res γ) : (r.bind f).bind g = r.bind fun a G => (f a G).bind g := by cases r <;> rfl
/-- nothing may be raised -/
def noX {α : Type} (r : Res α) : Res α := match r with
  | .exc _ _ _ => .bad
  | r => r
@[simp] theorem noX_ok {α : Type} (a : α) (G : GH) : noX (.ok a G) = .ok a G := rfl
@[simp] theorem noX_bad {α : Type} : noX (.bad : Res α) = .bad := rfl

section
variable {α β γ δ : Type} {F : Fx} {R : RelA α β} {R2 : RelA γ δ} {Ex : XK} {μ μ1 μ2 : Mu} {H H1 H2 : Hp} {G : GH}
theorem Post.bindX {r : Res α} {f : α → GH → Res γ} {Q : δ → Hp → Prop} (h : Post F R2 Ex μ1 H1 ((noX r).bind f) Q) :
    Post F R E0 μ2 H2 r (fun b H3 => ∃ μ3 a G3, r = .ok a G3 ∧ Ext μ2 μ3 H2 H3 ∧ R μ3 H3 a b ∧ HRep F μ3 H3 G3 ∧ Post F R2 Ex μ1 H1 (f a G3) Q) := by
  cases r with
  | ok a G => exact fun μ3 b H3 e x y => ⟨μ3, a, G, rfl, e, x, y, h⟩
  | exc c fs G => exact (show False from h).elim
  | bad => exact h
theorem Post.rel {R' : RelA α β} {r : Res α} {Q : β → Hp → Prop} (w : ∀ μ H a b, R' μ H a b → R μ H a b) (h : Post F R Ex μ H r Q) : Post F R' Ex μ H r Q := by
  cases r with
  | ok a G => exact fun μ' b H' e x y => h μ' b H' e (w _ _ _ _ x) y
  | exc c fs G => exact h
  | bad => exact h
end
theorem SRel.chg {F : Fx} {μ μ' : Mu} {H H' : Hp} {ρ : Env} {σ : L2.St} (c : Chg F μ μ' H H') (s : SRel F μ H ρ σ) : SRel F μ' H' ρ σ :=
  ⟨s.len, fun i p h => let ⟨v, h1, h2⟩ := s.at' i p h; ⟨v, h1, h2.chg c⟩⟩

/-! ### targets -/
def RS (F : Fx) (sl : List Nat) (σ0 : L2.St) : RelA Env L2.St := fun μ H ρ σ => SRel F μ H ρ σ ∧ σ.length = σ0.length ∧ ∀ i, i ∉ sl → σ[i]? = σ0[i]?
def TGv (F : Fx) (Ex : XK) (sl : List Nat) (m : PV → Env → GH → Res Env) : TG := fun v σ H Q => ∃ μ p ρ G, Rep F μ H p v ∧ SRel F μ H ρ σ ∧ HRep F μ H G ∧ Post F (RS F sl σ) Ex μ H (m p ρ G) Q
def TGvs (F : Fx) (Ex : XK) (sl : List Nat) (m : List PV → Env → GH → Res Env) : TGs := fun vs σ H Q => ∃ μ ps ρ G, Reps F μ H ps vs ∧ SRel F μ H ρ σ ∧ HRep F μ H G ∧ Post F (RS F sl σ) Ex μ H (m ps ρ G) Q
theorem _root_.L2.PG.weak {X : Cx} {e : Expr} {t t' : TG} (h : PG X e t) (w : ∀ v σ H Q, t' v σ H Q → t v σ H Q) : PG X e t' := ⟨fun pins s σ H v u Q I r q => h.run pins s σ H v u Q I r (w v σ H Q q)⟩
theorem _root_.L2.PGs.weak {X : Cx} {e : List Expr} {t t' : TGs} (h : PGs X e t) (w : ∀ v σ H Q, t' v σ H Q → t v σ H Q) : PGs X e t' := ⟨fun pins s σ H v u Q I r q => h.run pins s σ H v u Q I r (w v σ H Q q)⟩
theorem _root_.L2.PG.or {X : Cx} {e : Expr} {t t' : TG} (h : PG X e t) (h' : PG X e t') : PG X e (fun v σ H Q => t v σ H Q ∨ t' v σ H Q) := ⟨fun pins s σ H v u Q I r q => q.elim (h.run pins s σ H v u Q I r) (h'.run pins s σ H v u Q I r)⟩
section
variable {X : Cx} {F : Fx} {Ex : XK}
def gN (i : Nat) : PV → Env → GH → Res Env := fun p ρ G => .ok (ρ.set i (some p)) G
theorem ev_gname {i : Nat} {x : Str} {pos : Pos} (hN : X.N.Nodup) (hi : X.N[i]? = some x) (hx : Loc X.env.scope x) (hf : X.fn x = true ∨ X.env.scope.names.lookup x = some .local) : PG X (.Name x pos) (TGv F Ex [i] (gN i)) :=
  (pg_name hN hi hx hf).weak fun v σ H Q ⟨μ, p, ρ, G, r, s, g, q⟩ => q.here ⟨s.set r i, by simp, fun j hj => by
    rw [List.getElem?_set_ne]
    intro e; subst e; exact hj (by simp)⟩ g
def gNilE : List PV → Env → GH → Res Env := fun ps ρ G => match ps with
  | [] => .ok ρ G
  | _ => .bad
def gConsE (m : PV → Env → GH → Res Env) (ms : List PV → Env → GH → Res Env) : List PV → Env → GH → Res Env := fun ps ρ G => match ps with
  | p :: ps => (m p ρ G).bind fun ρ1 G1 => ms ps ρ1 G1
  | [] => .bad
theorem ev_gnil : PGs X [] (TGvs F Ex [] gNilE) := pgs_nil.weak fun vs σ H Q ⟨μ, ps, ρ, G, r, s, g, q⟩ => by
  cases ps with
  | nil => exact ⟨r.nil_inv, q.here ⟨s, rfl, fun _ _ => rfl⟩ g⟩
  | cons _ _ => exact (show False from q).elim
theorem plain_target {e : Expr} {es : List Expr} {env : PySem.Env} (h : plainE e = true) : (assignEach (e :: es) env).map (·.2) = assign e env :: (assignEach es env).map (·.2) := by
  cases e <;> first | rfl | cases h
theorem ev_gcons {e : Expr} {es : List Expr} {sl sl' : List Nat} {m : PV → Env → GH → Res Env} {ms : List PV → Env → GH → Res Env} (hp : plainE e = true) (h1 : PG X e (TGv F Ex sl m)) (h2 : PGs X es (TGvs F Ex sl' ms)) :
    PGs X (e :: es) (TGvs F Ex (sl ++ sl') (gConsE m ms)) := (pgs_cons h1 h2 (plain_target hp)).weak fun vs σ H Q ⟨μ, ps, ρ, G, r, s, g, q⟩ => by
  cases ps with
  | nil => exact (show False from q).elim
  | cons p ps =>
    obtain ⟨v, vr, rfl, r1, rr⟩ := r.cons_inv
    refine ⟨v, vr, rfl, μ, p, ρ, G, r1, s, g, (Post.bind (R := RS F sl σ) q).mono fun σ1 H1 ⟨μ1, ρ1, G1, _, e1, ⟨s1, l1, o1⟩, g1, q1⟩ => ?_⟩
    refine ⟨μ1, ps, ρ1, G1, rr.mono e1, s1, g1, Post.rel (fun μ2 H2 ρ2 σ2 ⟨s2, l2, o2⟩ => ⟨s2, l2.trans l1, fun i hi => ?_⟩) q1⟩
    exact (o2 i fun z => hi (List.mem_append_right _ z)).trans (o1 i fun z => hi (List.mem_append_left _ z))
def gTupE (n : Nat) (ms : List PV → Env → GH → Res Env) : PV → Env → GH → Res Env := fun p ρ G => match p with
  | .tup ps => if ps.length = n then ms ps ρ G else .bad
  | .lst ps => if ps.length = n then ms ps ρ G else .bad
  | .obj k => match G[k]? with
    | some (.lst ps) => if ps.length = n then ms ps ρ G else .bad
    | _ => .bad
  | _ => .bad
theorem assign_len {es : List Expr} {env : PySem.Env} : (assignEach es env).length = es.length := by
  induction es with
  | nil => rfl
  | cons a r ih => cases a <;> (first | (show (assignEach r env).length + 1 = _; rw [ih]; rfl))
theorem assign_nostar {es : List Expr} {env : PySem.Env} (h : es.all plainE = true) : (assignEach es env).findIdx? (·.1) = none := by
  rw [List.findIdx?_eq_none_iff]
  intro x hx
  induction es with
  | nil => cases hx
  | cons a r ih =>
    simp only [List.all_cons, Bool.and_eq_true] at h
    cases a <;> first | (cases h.1; done) | (rcases List.mem_cons.mp hx with rfl | hx <;> first | rfl | exact ih h.2 hx)
theorem ev_gtup {es : List Expr} {k : Nat} {pos : Pos} {sl : List Nat} {ms : List PV → Env → GH → Res Env} (hK : F.K = X.K) (hc : X.calm = true) (hp : es.all plainE = true) (h : PGs X es (TGvs F Ex sl ms)) : PG X (.Tuple es k pos) (TGv F Ex sl (gTupE es.length ms)) :=
  ((pg_tup hc h assign_len (assign_nostar hp)).or (pg_unl hc h assign_len (assign_nostar hp))).weak fun v σ H Q ⟨μ, p, ρ, G, r, s, g, q⟩ => by
    unfold gTupE at q
    cases p with
    | tup ps =>
      simp only [Rep] at r
      obtain ⟨a, vs, rfl, z, st, rr⟩ := r
      by_cases hl : ps.length = es.length
      · simp only [hl, if_true] at q
        exact .inl ⟨a, vs, rfl, by rw [← hK]; exact st.sq, rr.length.symm.trans hl, μ, ps, ρ, G, rr, s, g, q⟩
      · simp only [hl, if_false] at q; exact (show False from q).elim
    | lst ps =>
      simp only [Rep] at r
      obtain ⟨a, vs, rfl, z, st, rr⟩ := r
      by_cases hl : ps.length = es.length
      · simp only [hl, if_true] at q
        exact .inr ⟨a, vs, rfl, SqL.of st.2, rr.length.symm.trans hl, μ, ps, ρ, G, rr, s, g, q⟩
      · simp only [hl, if_false] at q; exact (show False from q).elim
    | obj n =>
      simp only [Rep] at r
      obtain ⟨a, rfl, ha⟩ := r
      cases eo : G[n]? with
      | none => simp only [eo] at q; exact (show False from q).elim
      | some o =>
        cases o with
        | lst ps =>
          simp only [eo] at q
          obtain ⟨vs, q1, z, rr⟩ := g.obj n a _ ha eo
          by_cases hl : ps.length = es.length
          · simp only [hl, if_true] at q
            exact .inr ⟨a, vs, rfl, SqL.of q1, rr.length.symm.trans hl, μ, ps, ρ, G, rr, s, g, q⟩
          · simp only [hl, if_false] at q; exact (show False from q).elim
        | _ => simp only [eo] at q; exact (show False from q).elim
    | _ => exact (show False from q).elim

/-! ### comprehensions -/
def wipeE (ρ : Env) : List Nat → Env
  | [] => ρ
  | v :: vs => (wipeE ρ vs).set v none
theorem SRel.wipe {μ : Mu} {H : Hp} {ρ : Env} {σ : L2.St} (s : SRel F μ H ρ σ) : ∀ vs : List Nat, SRel F μ H (wipeE ρ vs) (wipe σ vs)
  | [] => s
  | v :: vs => by
    have ih := SRel.wipe s vs
    refine ⟨by unfold wipeE L2.wipe; simp [ih.len], fun j q h => ?_⟩
    unfold wipeE at h
    unfold L2.wipe
    by_cases hj : v = j
    · subst hj
      have hl : v < (wipeE ρ vs).length := by
        have := (List.getElem?_eq_some_iff.mp h).1
        simpa using this
      rw [List.getElem?_set_self hl] at h; cases h
    · rw [List.getElem?_set_ne hj] at h
      rw [List.getElem?_set_ne hj]
      exact ih.at' j q h
theorem wipe_in {σ : L2.St} {i : Nat} : ∀ {vs : List Nat}, i ∈ vs → i < σ.length → (wipe σ vs)[i]? = some none
  | [], h, _ => by cases h
  | v :: vs, h, hl => by
    unfold wipe
    by_cases e : v = i
    · subst e
      rw [List.getElem?_set_self (by rw [wipe_length]; exact hl)]
    · rw [List.getElem?_set_ne e]
      exact wipe_in ((List.mem_cons.mp h).resolve_left fun z => e z.symm) hl
theorem wipe_same {σ σ' : L2.St} {vs sl : List Nat} (hl : σ.length = σ'.length) (hs : ∀ i ∈ sl, i ∈ vs) (ho : ∀ i, i ∉ sl → σ[i]? = σ'[i]?) : wipe σ vs = wipe σ' vs := by
  apply List.ext_getElem?
  intro i
  by_cases hi : i ∈ vs
  · by_cases h : i < σ.length
    · rw [wipe_in hi h, wipe_in hi (by rw [← hl]; exact h)]
    · rw [List.getElem?_eq_none (by rw [wipe_length]; omega), List.getElem?_eq_none (by rw [wipe_length]; omega)]
  · rw [wipe_out hi, wipe_out hi]
    exact ho i fun z => hi (hs i z)
theorem wipe_wipe {σ : L2.St} {vs : List Nat} : wipe (wipe σ vs) vs = wipe σ vs := by
  refine wipe_same (sl := vs) (by rw [wipe_length]) (fun _ h => h) fun i hi => wipe_out hi

def loopC (f : PV → GH → Res (Option PV)) (gd : GH → Bool) : List PV → GH → Res (List PV)
  | [], G => if gd G = true then .ok [] G else .bad
  | x :: xs, G => if gd G = true then (f x G).bind fun o G1 => (loopC f gd xs G1).bind fun r G2 => .ok (o.toList ++ r) G2 else .bad
def compF (tg : PV → Env → GH → Res Env) (tt : Env → GH → Res Bool) (el : Env → GH → Res PV) (own : List Nat) (ρ : Env) : PV → GH → Res (Option PV) := fun x G =>
  (noX (tg x (wipeE ρ own) G)).bind fun ρ1 G2 => (noX (tt ρ1 G2)).bind fun b G3 => if b = true then (noX (el ρ1 G3)).bind fun y G4 => .ok (some y) G4 else .ok none G3
def mComp (ob : Bool) (ms : Env → GH → Res Src) (tg : PV → Env → GH → Res Env) (tt : Env → GH → Res Bool) (el : Env → GH → Res PV) (own : List Nat) : Env → GH → Res PV := fun ρ G =>
  (ms ρ G).bind fun S G1 => (loopC (compF tg tt el own ρ) S.gd S.its G1).bind fun ys G5 => if ob = true then .ok (.obj G5.length) (G5 ++ [.lst ys]) else .ok (.lst ys) G5
/-- a clause's tests -/
def TTs (m : Env → GH → Res Bool) (X : Cx) (F : Fx) (ifs : List Expr) : Prop := PTs X ifs (TTv F E0 m)
def mYes : Env → GH → Res Bool := fun _ G => .ok true G
theorem _root_.L2.PTs.weak {X : Cx} {e : List Expr} {t t' : TT} (h : PTs X e t) (w : ∀ σ H Q, t' σ H Q → t σ H Q) : PTs X e t' := ⟨fun pins s σ H Q I q => h.run pins s σ H Q I (w σ H Q q)⟩
theorem ev_yes : PTs X [] (TTv F Ex mYes) := pts_nil.weak fun σ H Q ⟨μ, ρ, G, s, g, p⟩ => p.here rfl g
theorem ev_if1 {c : Expr} {m : Env → GH → Res Bool} (h : PT X c (TTv F Ex m)) : PTs X [c] (TTv F Ex m) := pts_one h

theorem comp_read {ob : Bool} {ms : Env → GH → Res Src} {tg : PV → Env → GH → Res Env} {tt : Env → GH → Res Bool} {el : Env → GH → Res PV} {own sl : List Nat} (hsl : ∀ i ∈ sl, i ∈ own) {σ : L2.St} {H : Hp} {Q : VK}
    (h : TEv F Ex (mComp ob ms tg tt el own) σ H Q) : tLc (TIv F Ex ms) (TGv F E0 sl tg) (TTv F E0 tt) (TEv F E0 el) own σ H Q := by
  obtain ⟨μ, ρ, G, s, g, p⟩ := h
  refine ⟨μ, ρ, G, s, g, (Post.bind (R := RI F) p).mono fun J H1 ⟨μ1, S, G1, _, e1, ⟨hsz, jok⟩, g1, p1⟩ D hD => ?_⟩
  have s1 : SRel F μ1 H1 ρ σ := s.mono e1
  let f := compF tg tt el own ρ
  let fin : List PV → GH → Res PV := fun ys G5 => if ob = true then .ok (.obj G5.length) (G5 ++ [.lst ys]) else .ok (.lst ys) G5
  refine ⟨fun i m H2 => m = S.its.length - i ∧ i ≤ S.its.length ∧ ∃ l G2 accP acc, Ext μ1 ⟨l, μ1.rs⟩ H1 H2 ∧ HRep F ((⟨l, μ1.rs⟩ : Mu).mk1 D) H2 G2 ∧ SRel F ((⟨l, μ1.rs⟩ : Mu).mk1 D) H2 ρ σ ∧ Chg F μ1 ((⟨l, μ1.rs⟩ : Mu).mk1 D) H1 H2 ∧
      H2 D = some (.lst acc) ∧ Reps F ((⟨l, μ1.rs⟩ : Mu).mk1 D) H2 accP acc ∧ acc.length ≤ i ∧ Post F (RV F) Ex μ1 H1 ((loopC f S.gd (S.its.drop i) G2).bind fun ys G5 => fin (accP ++ ys) G5) Q, ?_, ?_⟩
  · refine ⟨S.its.length, by simp, Nat.zero_le _, μ1.ob, G1, [], [], ?_, g1.start hD, s1.chg (Chg.start hD), Chg.start hD, upd_same, .nil, Nat.le_refl _, p1⟩
    exact Ext.upd_new g1 hD
  · rintro i m H2 ⟨rfl, hi, l, G2, accP, acc, e2, g2, s2, c2, hacc, racc, hal, p2⟩
    have hDl : D ∉ l := (g2.res D List.mem_cons_self).1
    have hDr : D ∉ μ1.rs := (g1.fresh hD).2
    have jk := jok ((⟨l, μ1.rs⟩ : Mu).mk1 D) H2 G2 c2 g2
    by_cases hlt : i < S.its.length
    · have hdr : S.its.drop i = S.its[i] :: S.its.drop (i + 1) := List.drop_eq_getElem_cons hlt
      rw [hdr] at p2
      unfold loopC at p2
      by_cases hgd : S.gd G2 = true
      · simp only [hgd, if_true] at p2
        obtain ⟨jgo, jy⟩ := (jk hgd).1 i S.its[i] (List.getElem?_eq_getElem hlt)
        refine .inr ⟨jgo, fun H' => i + 1 ≤ S.its.length ∧ ∃ l G2 accP acc, Ext μ1 ⟨l, μ1.rs⟩ H1 H' ∧ HRep F ((⟨l, μ1.rs⟩ : Mu).mk1 D) H' G2 ∧ SRel F ((⟨l, μ1.rs⟩ : Mu).mk1 D) H' ρ σ ∧ Chg F μ1 ((⟨l, μ1.rs⟩ : Mu).mk1 D) H1 H' ∧
          H' D = some (.lst acc) ∧ Reps F ((⟨l, μ1.rs⟩ : Mu).mk1 D) H' accP acc ∧ acc.length ≤ i + 1 ∧ Post F (RV F) Ex μ1 H1 ((loopC f S.gd (S.its.drop (i + 1)) G2).bind fun ys G5 => fin (accP ++ ys) G5) Q, fun H' q => ⟨S.its.length - (i + 1), by omega, rfl, q.1, q.2⟩, fun x H3 hy => ?_⟩
        obtain ⟨same, rx⟩ := jy x H3 hy
        have e3 : Ext ((⟨l, μ1.rs⟩ : Mu).mk1 D) ((⟨l, μ1.rs⟩ : Mu).mk1 D) H2 H3 := Ext.same same
        have g3 := g2.same same
        rw [Res.bind_assoc] at p2
        have p2' : Post F (RV F) Ex μ1 H1 ((noX (tg S.its[i] (wipeE ρ own) G2)).bind fun ρ1 Ga => ((noX (tt ρ1 Ga)).bind fun b Gb => if b = true then (noX (el ρ1 Gb)).bind fun y Gc => .ok (some y) Gc else .ok none Gb).bind fun o Gd =>
            ((loopC f S.gd (S.its.drop (i + 1)) Gd).bind fun r Ge => .ok (o.toList ++ r) Ge).bind fun ys G5 => fin (accP ++ ys) G5) Q := by
          rw [← Res.bind_assoc]; exact p2
        refine ⟨(⟨l, μ1.rs⟩ : Mu).mk1 D, S.its[i], wipeE ρ own, G2, rx, (s2.mono e3).wipe own, g3, (Post.bindX (R := RS F sl (wipe σ own)) p2').mono fun σ4 H4 ⟨μ4, ρ4, G4, _, e4, ⟨s4, l4, o4⟩, g4, p4⟩ => ⟨?_, ?_⟩⟩
        · have q : wipe σ4 own = wipe (wipe σ own) own := wipe_same l4 hsl o4
          rw [q, wipe_wipe]
        · obtain ⟨ob4, rfl⟩ := Ext.drop1 (μ := ⟨l, μ1.rs⟩) e4
          rw [Res.bind_assoc] at p4
          refine ⟨_, ρ4, G4, s4, g4, (Post.bindX (R := RB) p4).mono fun b H5 ⟨μ5, b', G5, _, e5, rb, g5, p5⟩ => ?_⟩
          cases (show b' = b from rb)
          obtain ⟨ob5, rfl⟩ := Ext.drop1 (μ := ⟨ob4, μ1.rs⟩) e5
          have e25 := (e3.trans e4).trans e5
          cases b with
          | false =>
            rw [if_neg Bool.false_ne_true]
            simp only [Bool.false_eq_true, if_false] at p5
            have hD5 : H5 D = some (.lst acc) := e25.keep D _ hacc (fun _ z => by cases z) hDl
            have c5 : Chg F ((⟨l, μ1.rs⟩ : Mu).mk1 D) ((⟨ob5, μ1.rs⟩ : Mu).mk1 D) H2 H5 := e25.chg
            have u5 : upd H5 D (.lst acc) = H5 := by
              funext b; unfold upd; split
              · rename_i z; rw [z, hD5]
              · rfl
            have st := Ext.step1 (o := .lst acc) hD e2 e25
            rw [u5] at st
            refine ⟨hlt, ob5, G5, accP, acc, st, g5, s2.chg c5, c2.trans c5, hD5, racc.chg c5, by omega, ?_⟩
            simp only [Res.bind_ok] at p5
            rw [Res.bind_assoc] at p5
            exact p5
          | true =>
            rw [if_pos rfl]
            simp only [if_true] at p5
            rw [Res.bind_assoc] at p5
            refine ⟨_, ρ4, G5, s4.mono e5, g5, (Post.bindX (R := RV F) p5).mono fun y H6 ⟨μ6, yp, G6, _, e6, ry, g6, p6⟩ => ?_⟩
            obtain ⟨ob6, rfl⟩ := Ext.drop1 (μ := ⟨ob5, μ1.rs⟩) e6
            have e26 := e25.trans e6
            have hD6 : H6 D = some (.lst acc) := e26.keep D _ hacc (fun _ z => by cases z) hDl
            have c6 : Chg F ((⟨l, μ1.rs⟩ : Mu).mk1 D) ((⟨ob6, μ1.rs⟩ : Mu).mk1 D) H2 (upd H6 D (.lst (acc ++ [y]))) := e26.chg.trans Chg.other
            refine ⟨acc, hD6, by omega, hlt, ob6, G6, accP ++ [yp], acc ++ [y], Ext.step1 hD e2 e26, g6.other, s2.chg c6, c2.trans c6, upd_same, (racc.chg c6).append (.one (Rep.chg Chg.other ry)), by simp; omega, ?_⟩
            simp only [Res.bind_ok] at p6
            rw [Res.bind_assoc] at p6
            have q : ∀ ys, accP ++ (([yp] : List PV) ++ ys) = accP ++ [yp] ++ ys := fun ys => by simp
            simp only [Res.bind_ok, Option.toList, q] at p6
            exact p6
      · simp only [hgd] at p2
        exact (show False from p2).elim
    · have ei : i = S.its.length := by omega
      subst ei
      rw [List.drop_length] at p2
      unfold loopC at p2
      by_cases hgd : S.gd G2 = true
      · simp only [hgd, if_true] at p2
        refine .inl ⟨(jk hgd).2, ?_⟩
        have p3 : Post F (RV F) Ex μ1 H1 (fin (accP ++ []) G2) Q := p2
        rw [List.append_nil] at p3
        have hz : acc.length ≤ sizeLine := Nat.le_trans hal hsz
        cases ob with
        | false =>
          refine (show Post F (RV F) Ex μ1 H1 (.ok (.lst accP) G2) Q from p3).ok e2 ?_ g2.stop
          show Rep F _ _ _ _
          simp only [Rep]
          exact ⟨D, acc, rfl, hz, ⟨⟨hDl, hDr⟩, hacc⟩, racc.chg Chg.stop⟩
        | true =>
          refine (show Post F (RV F) Ex μ1 H1 (.ok (.obj G2.length) (G2 ++ [.lst accP])) Q from p3).ok (μ' := (⟨l, μ1.rs⟩ : Mu).push D) ?_ ?_ (g2.stopO hDr ⟨acc, hacc, hz, racc.chg Chg.stopO⟩)
          · obtain ⟨⟨r, hr⟩, h2, h3, h4⟩ := e2
            have hr : l = μ1.ob ++ r := hr
            refine ⟨⟨r ++ [D], by show l ++ [D] = _; rw [hr]; simp⟩, h2, fun a m n => ?_, h4⟩
            rcases List.mem_append.mp m with q | q
            · exact h3 a q n
            · intro o z _; rw [List.mem_singleton.mp q, hD] at z; cases z
          · show Rep F _ _ _ _
            simp only [Rep]
            refine ⟨D, rfl, ?_⟩
            have : l.length = G2.length := g2.len
            show (l ++ [D])[G2.length]? = some D
            rw [← this]; simp
      · simp only [hgd] at p2
        exact (show False from p2).elim
end
end EV
end
section
set_option Elab.async false
set_option linter.all false
set_option maxRecDepth 100000
/-! Ev7: statements, loops, a def's body. -/
namespace EV
open PySem PySem.Spec PyProof.Rows L2

inductive Fl where
  | next (ρ : Env)
  | ret (p : PV)
  | brk (ρ : Env)
  | cont (ρ : Env)
inductive FlV where
  | next (σ : L2.St)
  | ret (v : V)
  | brk (σ : L2.St)
  | cont (σ : L2.St)
def RF (F : Fx) : RelA Fl FlV := fun μ H f g => match f, g with
  | .next ρ, .next σ => SRel F μ H ρ σ
  | .ret p, .ret v => Rep F μ H p v
  | .brk ρ, .brk σ => SRel F μ H ρ σ
  | .cont ρ, .cont σ => SRel F μ H ρ σ
  | _, _ => False
def SQ (D : Ends) : FlV → Hp → Prop := fun g H => match g with
  | .next σ => D.nx σ H
  | .ret v => D.rt v H
  | .brk σ => D.bk σ H
  | .cont σ => D.ct σ H
def TSv (F : Fx) (Ex : XK) (m : Env → GH → Res Fl) : TS := fun D σ H => ∃ μ ρ G, SRel F μ H ρ σ ∧ HRep F μ H G ∧ Post F (RF F) Ex μ H (m ρ G) (SQ D)
section
variable {X : Cx} {F : Fx} {Ex : XK}
def sNext : Env → GH → Res Fl := fun ρ G => .ok (.next ρ) G
def sSeq (m n : Env → GH → Res Fl) : Env → GH → Res Fl := fun ρ G => (m ρ G).bind fun f G1 => match f with
  | .next ρ1 => n ρ1 G1
  | f => .ok f G1
theorem ev_snil : PSs X [] (TSv F Ex sNext) := pss_nil.weak fun D σ H ⟨μ, ρ, G, s, g, p⟩ => p.here (b := FlV.next σ) s g
theorem ev_scons {st : Stmt} {rest : List Stmt} {m n : Env → GH → Res Fl} (h1 : PS X st (TSv F Ex m)) (h2 : PSs X rest (TSv F Ex n)) : PSs X (st :: rest) (TSv F Ex (sSeq m n)) :=
  (pss_cons h1 h2).weak fun D σ H ⟨μ, ρ, G, s, g, p⟩ => ⟨μ, ρ, G, s, g, (Post.bind (R := RF F) p).mono fun f H1 ⟨μ1, e, G1, _, e1, r, g1, p1⟩ => by
    cases e <;> cases f <;> first | exact (show False from r).elim | exact ⟨μ1, _, G1, r, g1, p1⟩ | exact p1.here (b := FlV.ret _) r g1 | exact p1.here (b := FlV.brk _) r g1 | exact p1.here (b := FlV.cont _) r g1⟩
theorem ev_pass {pos : Pos} : PS X (.Pass pos) (TSv F Ex sNext) := ps_pass.weak fun D σ H ⟨μ, ρ, G, s, g, p⟩ => p.here (b := FlV.next σ) s g
theorem ev_brk {pos : Pos} : PS X (.Break pos) (TSv F Ex fun ρ G => .ok (.brk ρ) G) := ps_break.weak fun D σ H ⟨μ, ρ, G, s, g, p⟩ => p.here (b := FlV.brk σ) s g
theorem ev_cont {pos : Pos} : PS X (.Continue pos) (TSv F Ex fun ρ G => .ok (.cont ρ) G) := ps_continue.weak fun D σ H ⟨μ, ρ, G, s, g, p⟩ => p.here (b := FlV.cont σ) s g
def sDrop (m : Env → GH → Res PV) : Env → GH → Res Fl := fun ρ G => (m ρ G).bind fun _ G1 => .ok (.next ρ) G1
theorem ev_expr {e : Expr} {pos : Pos} {m : Env → GH → Res PV} (he : PE X e (TEv F Ex m)) (hs : swapsWith e none pos.line X.env = pure false) : PS X (.Expr e pos) (TSv F Ex (sDrop m)) :=
  (ps_expr he hs).weak fun D σ H ⟨μ, ρ, G, s, g, p⟩ => TEv.run s g p fun μ1 a G1 v H1 e1 r1 g1 s1 p1 => p1.here (b := FlV.next σ) s1 g1
def sRet (m : Env → GH → Res PV) : Env → GH → Res Fl := fun ρ G => (m ρ G).bind fun v G1 => .ok (.ret v) G1
theorem ev_ret {e : Expr} {pos : Pos} {m : Env → GH → Res PV} (he : PE X e (TEv F Ex m)) : PS X (.Return (some e) pos) (TSv F Ex (sRet m)) :=
  (ps_ret he).weak fun D σ H ⟨μ, ρ, G, s, g, p⟩ => TEv.run s g p fun μ1 a G1 v H1 e1 r1 g1 s1 p1 => p1.here (b := FlV.ret v) r1 g1
theorem ev_retN {pos : Pos} : PS X (.Return none pos) (TSv F Ex fun ρ G => .ok (.ret .non) G) := ps_retN.weak fun D σ H ⟨μ, ρ, G, s, g, p⟩ => p.here (b := FlV.ret .non) (show Rep F μ H _ _ by simp only [Rep]) g
def sIf (c : Env → GH → Res Bool) (m n : Env → GH → Res Fl) : Env → GH → Res Fl := fun ρ G => (c ρ G).bind fun b G1 => if b = true then m ρ G1 else n ρ G1
theorem ev_sif {c : Expr} {a b : List Stmt} {pos : Pos} {mc : Env → GH → Res Bool} {m n : Env → GH → Res Fl} (hc : PT X c (TTv F Ex mc)) (ha : PSs X a (TSv F Ex m)) (hb : PSs X b (TSv F Ex n)) : PS X (.If c a b pos) (TSv F Ex (sIf mc m n)) :=
  (ps_if hc ha hb).weak fun D σ H ⟨μ, ρ, G, s, g, p⟩ => TTv.run s g p fun μ1 b G1 H1 e1 g1 s1 p1 => by
    cases b with
    | true => exact ⟨μ1, ρ, G1, s1, g1, p1⟩
    | false => exact ⟨μ1, ρ, G1, s1, g1, p1⟩
def sAsg (m : Env → GH → Res PV) (t : PV → Env → GH → Res Env) : Env → GH → Res Fl := fun ρ G => (m ρ G).bind fun v G1 => (t v ρ G1).bind fun ρ1 G2 => .ok (.next ρ1) G2
theorem asg_read {te : TE} {m : Env → GH → Res PV} {t : PV → Env → GH → Res Env} {sl : List Nat} {D : Ends} {σ : L2.St} {H : Hp} (w : ∀ Q, TEv F Ex m σ H Q → te σ H Q) (h : TSv F Ex (sAsg m t) D σ H) : tAsg te (TGv F Ex sl t) D σ H := by
  obtain ⟨μ, ρ, G, s, g, p⟩ := h
  refine w _ (TEv.run s g p fun μ1 a G1 v H1 e1 r1 g1 s1 p1 => ⟨μ1, a, ρ, G1, r1, s1, g1, (Post.bind (R := RS F sl σ) p1).mono fun σ2 H2 ⟨μ2, ρ2, G2, _, e2, rs, g2, p2⟩ => ?_⟩)
  exact p2.here (b := FlV.next σ2) rs.1 g2
theorem ev_asg {tg e : Expr} {pos : Pos} {m : Env → GH → Res PV} {t : PV → Env → GH → Res Env} {sl : List Nat} (he : PE X e (TEv F Ex m)) (hg : PG X tg (TGv F Ex sl t)) (hs : swapsWithSole [tg] e pos.line X.env = pure false) (hw : swappedStores [tg] e X.env = pure none)
    (h1 : plainE tg = true) : PS X (.Assign [tg] e pos) (TSv F Ex (sAsg m t)) := (ps_asg he hg hs hw (plain_target h1)).weak fun D σ H h => asg_read (fun Q q => q) h
/-- name = [.. for ..] on one line -/
theorem ev_asgC {i : Nat} {y : Str} {py : Pos} {elt tg iter : Expr} {ifs : List Expr} {scope : Scope} {own : List (Str × Nat)} {pos spos : Pos} {sl : List Nat} {ob : Bool} {ms : Env → GH → Res Src} {t : PV → Env → GH → Res Env} {tt : Env → GH → Res Bool} {el : Env → GH → Res PV}
    (hc : X.calm = true) (hN : X.N.Nodup) (hy : X.N[i]? = some y) (hyl : X.env.scope.names.lookup y = some .local) (hsw : swapsWith (.ListComp elt [⟨tg, iter, ifs, 0⟩] scope pos) (some (.Name y py)) spos.line X.env = pure true)
    (hi : PI X tg iter (TIv F Ex ms)) (ok : BlkOk X.N X.env.scope scope own) (hsl : ∀ i ∈ sl, i ∈ own.map (·.2))
    (hg : ∀ (s : Shared) (H : Hp) (C : Addr) (cl : List (Str × Addr)) (fp : List Addr), PG (X.blk s H scope (compEnvC scope cl C X.env) fp) tg (TGv F E0 sl t))
    (ht : ∀ (s : Shared) (H : Hp) (C : Addr) (cl : List (Str × Addr)) (fp : List Addr), PTs (X.blk s H scope (compEnvC scope cl C X.env) fp) ifs (TTv F E0 tt))
    (he : ∀ (s : Shared) (H : Hp) (C : Addr) (cl : List (Str × Addr)) (fp : List Addr), PE (X.blk s H scope (compEnvC scope cl C X.env) fp) elt (TEv F E0 el)) (hs : ∀ x, foldedSetIterable iter X.env x = pure x) :
    PS X (.Assign [.Name y py] (.ListComp elt [⟨tg, iter, ifs, 0⟩] scope pos) spos) (TSv F Ex (sAsg (mComp ob ms t tt el (own.map (·.2))) (gN i))) :=
  (ps_setLc hc hN hy hyl hsw hi ok hg ht he hs).weak fun D σ H h => by
    obtain ⟨μ, ρ, G, s, g, p⟩ := h
    refine comp_read (ob := ob) hsl (Q := fun x H1 => gName i x σ H1 D.nx) ?_
    exact TEv.run s g p fun μ1 a G1 v H1 e1 r1 g1 s1 p1 => p1.here (b := FlV.next _) (s1.set r1 i) g1
theorem ev_comp {elt tg iter : Expr} {ifs : List Expr} {scope : Scope} {own : List (Str × Nat)} {pos : Pos} {sl : List Nat} {ob : Bool} {ms : Env → GH → Res Src} {t : PV → Env → GH → Res Env} {tt : Env → GH → Res Bool} {el : Env → GH → Res PV}
    (hc : X.calm = true) (hN : X.N.Nodup) (hi : PI X tg iter (TIv F Ex ms)) (ok : BlkOk X.N X.env.scope scope own) (hsl : ∀ i ∈ sl, i ∈ own.map (·.2))
    (hg : ∀ (s : Shared) (H : Hp) (C : Addr) (cl : List (Str × Addr)) (fp : List Addr), PG (X.blk s H scope (compEnvC scope cl C X.env) fp) tg (TGv F E0 sl t))
    (ht : ∀ (s : Shared) (H : Hp) (C : Addr) (cl : List (Str × Addr)) (fp : List Addr), PTs (X.blk s H scope (compEnvC scope cl C X.env) fp) ifs (TTv F E0 tt))
    (he : ∀ (s : Shared) (H : Hp) (C : Addr) (cl : List (Str × Addr)) (fp : List Addr), PE (X.blk s H scope (compEnvC scope cl C X.env) fp) elt (TEv F E0 el)) (hs : ∀ x, foldedSetIterable iter X.env x = pure x) :
    PE X (.ListComp elt [⟨tg, iter, ifs, 0⟩] scope pos) (TEv F Ex (mComp ob ms t tt el (own.map (·.2)))) := (pe_lc hc hN hi ok hg ht he hs).weak fun σ H Q h => comp_read hsl h

/-! ### for -/
def loopF (f : PV → Env → GH → Res Fl) (gd : GH → Bool) : List PV → Env → GH → Res Fl
  | [], ρ, G => if gd G = true then .ok (.next ρ) G else .bad
  | x :: xs, ρ, G => if gd G = true then (f x ρ G).bind fun fl G1 => match fl with
    | .next ρ1 => loopF f gd xs ρ1 G1
    | .cont ρ1 => loopF f gd xs ρ1 G1
    | .brk ρ1 => .ok (.next ρ1) G1
    | .ret v => .ok (.ret v) G1
    else .bad
def sFor (ms : Env → GH → Res Src) (t : PV → Env → GH → Res Env) (b : Env → GH → Res Fl) : Env → GH → Res Fl := fun ρ G => (ms ρ G).bind fun S G1 => loopF (fun x ρ G => (t x ρ G).bind b) S.gd S.its ρ G1
theorem ev_for {tg iter : Expr} {body : List Stmt} {pos : Pos} {sl : List Nat} {ms : Env → GH → Res Src} {t : PV → Env → GH → Res Env} {b : Env → GH → Res Fl} (hp : PassesOwn (model X.prog X.w) X.A X.env X.xe) (hc : X.calm = true)
    (hi : PI X tg iter (TIv F Ex ms)) (hg : PG X tg (TGv F Ex sl t)) (hb : PSs X body (TSv F Ex b)) (hs : ∀ x, foldedSetIterable iter X.env x = pure x) : PS X (.For tg iter body [] pos) (TSv F Ex (sFor ms t b)) :=
  (ps_for hp hc hi hg hb hs).weak fun D σ H ⟨μ, ρ, G, s, g, p⟩ => by
    refine ⟨μ, ρ, G, s, g, (Post.bind (R := RI F) p).mono fun J H1 ⟨μ1, S, G1, _, e1, ⟨hsz, jok⟩, g1, p1⟩ => ?_⟩
    let f : PV → Env → GH → Res Fl := fun x ρ G => (t x ρ G).bind b
    refine ⟨fun i m σ2 H2 => m = S.its.length - i ∧ i ≤ S.its.length ∧ ∃ μ2 ρ2 G2, Chg F μ1 μ2 H1 H2 ∧ SRel F μ2 H2 ρ2 σ2 ∧ HRep F μ2 H2 G2 ∧ Post F (RF F) Ex μ2 H2 (loopF f S.gd (S.its.drop i) ρ2 G2) (SQ D), ?_, ?_⟩
    · exact ⟨S.its.length, by simp, Nat.zero_le _, μ1, ρ, G1, Chg.refl, s.mono e1, g1, p1⟩
    · rintro i m σ2 H2 ⟨rfl, hi, μ2, ρ2, G2, c2, s2, g2, p2⟩
      have jk := jok μ2 H2 G2 c2 g2
      by_cases hlt : i < S.its.length
      · have hdr : S.its.drop i = S.its[i] :: S.its.drop (i + 1) := List.drop_eq_getElem_cons hlt
        rw [hdr] at p2
        unfold loopF at p2
        by_cases hgd : S.gd G2 = true
        · simp only [hgd, if_true] at p2
          obtain ⟨jgo, jy⟩ := (jk hgd).1 i S.its[i] (List.getElem?_eq_getElem hlt)
          refine .inr ⟨jgo, fun σ' H' => i + 1 ≤ S.its.length ∧ ∃ μ2 ρ2 G2, Chg F μ1 μ2 H1 H' ∧ SRel F μ2 H' ρ2 σ' ∧ HRep F μ2 H' G2 ∧ Post F (RF F) Ex μ2 H' (loopF f S.gd (S.its.drop (i + 1)) ρ2 G2) (SQ D), fun σ' H' q => ⟨S.its.length - (i + 1), by omega, rfl, q.1, q.2⟩, fun x H3 hy => ?_⟩
          obtain ⟨same, rx⟩ := jy x H3 hy
          have e3 : Ext μ2 μ2 H2 H3 := Ext.same same
          have p3 : Post F (RF F) Ex μ2 H3 (((t S.its[i] ρ2 G2).bind b).bind fun fl G1 => match fl with
            | .next ρ1 => loopF f S.gd (S.its.drop (i + 1)) ρ1 G1
            | .cont ρ1 => loopF f S.gd (S.its.drop (i + 1)) ρ1 G1
            | .brk ρ1 => .ok (.next ρ1) G1
            | .ret v => .ok (.ret v) G1) (SQ D) := Post.shift e3 p2
          rw [Res.bind_assoc] at p3
          refine ⟨μ2, S.its[i], ρ2, G2, rx, s2.mono e3, g2.same same, (Post.bind (R := RS F sl σ2) p3).mono fun σ4 H4 ⟨μ4, ρ4, G4, _, e4, rs, g4, p4⟩ => ?_⟩
          refine ⟨μ4, ρ4, G4, rs.1, g4, (Post.bind (R := RF F) p4).mono fun fl H5 ⟨μ5, ev, G5, _, e5, r5, g5, p5⟩ => ?_⟩
          have c5 : Chg F μ1 μ5 H1 H5 := c2.trans ((e3.trans e4).trans e5).chg
          cases ev <;> cases fl <;> first | exact (show False from r5).elim | exact ⟨hlt, μ5, _, G5, c5, r5, g5, p5⟩ | exact p5.here (b := FlV.ret _) r5 g5 | exact p5.here (b := FlV.next _) r5 g5
        · simp only [hgd] at p2
          exact (show False from p2).elim
      · have ei : i = S.its.length := by omega
        subst ei
        rw [List.drop_length] at p2
        unfold loopF at p2
        by_cases hgd : S.gd G2 = true
        · simp only [hgd, if_true] at p2
          exact .inl ⟨(jk hgd).2, p2.here (b := FlV.next σ2) s2 g2⟩
        · simp only [hgd] at p2
          exact (show False from p2).elim
/-! ### while, at most n turns -/
def loopW (c : Env → GH → Res Bool) (b : Env → GH → Res Fl) : Nat → Env → GH → Res Fl
  | 0, _, _ => .bad
  | n + 1, ρ, G => (c ρ G).bind fun k G1 => if k = true then (b ρ G1).bind fun fl G2 => match fl with
    | .next ρ1 => loopW c b n ρ1 G2
    | .cont ρ1 => loopW c b n ρ1 G2
    | .brk ρ1 => .ok (.next ρ1) G2
    | .ret v => .ok (.ret v) G2
    else .ok (.next ρ) G1
theorem ev_while {c : Expr} {body : List Stmt} {pos : Pos} {n : Nat} {mc : Env → GH → Res Bool} {b : Env → GH → Res Fl} (hp : PassesOwn (model X.prog X.w) X.A X.env X.xe)
    (hc : PT X c (TTv F Ex mc)) (hb : PSs X body (TSv F Ex b)) : PS X (.While c body [] pos) (TSv F Ex (loopW mc b n)) :=
  (ps_while hp hc hb).weak fun D σ H ⟨μ, ρ, G, s, g, p⟩ => by
    refine ⟨fun m σ2 H2 => ∃ μ2 ρ2 G2, SRel F μ2 H2 ρ2 σ2 ∧ HRep F μ2 H2 G2 ∧ Post F (RF F) Ex μ2 H2 (loopW mc b m ρ2 G2) (SQ D), ⟨n, μ, ρ, G, s, g, p⟩, ?_⟩
    rintro m σ2 H2 ⟨μ2, ρ2, G2, s2, g2, p2⟩
    cases m with
    | zero => exact (show False from p2).elim
    | succ m =>
      refine TTv.run s2 g2 p2 fun μ3 k G3 H3 e3 g3 s3 p3 => ?_
      cases k with
      | false => exact p3.here (b := FlV.next σ2) s3 g3
      | true =>
        refine ⟨fun σ' H' => ∃ μ2 ρ2 G2, SRel F μ2 H' ρ2 σ' ∧ HRep F μ2 H' G2 ∧ Post F (RF F) Ex μ2 H' (loopW mc b m ρ2 G2) (SQ D), fun σ' H' q => ⟨m, Nat.lt_succ_self _, q⟩, ?_⟩
        refine ⟨μ3, ρ2, G3, s3, g3, (Post.bind (R := RF F) p3).mono fun fl H5 ⟨μ5, ev, G5, _, e5, r5, g5, p5⟩ => ?_⟩
        cases ev <;> cases fl <;> first | exact (show False from r5).elim | exact ⟨μ5, _, G5, r5, g5, p5⟩ | exact p5.here (b := FlV.ret _) r5 g5 | exact p5.here (b := FlV.next _) r5 g5

/-! ### o[i] = e -/
def sSet (me mo mi : Env → GH → Res PV) (f : List PV → GH → Res Unit) : Env → GH → Res Fl := fun ρ G => (me ρ G).bind fun v G1 => (mo ρ G1).bind fun o G2 => (mi ρ G2).bind fun i G3 => (f [o, i, v] G3).bind fun _ G4 => .ok (.next ρ) G4
def RdSet (F : Fx) (Ex : XK) (f : List PV → GH → Res Unit) : TSet := fun o i v H Q => ∃ μ ps G, Reps F μ H ps [o, i, v] ∧ HRep F μ H G ∧ Post F (R := fun (_ : Mu) (_ : Hp) (_ : Unit) (_ : Unit) => True) Ex μ H (f ps G) (fun _ H' => Q H')
theorem ev_set {o i e : Expr} {tpos pos : Pos} {me mo mi : Env → GH → Res PV} {f : List PV → GH → Res Unit} (he : PE X e (TEv F Ex me)) (ho : PE X o (TEv F Ex mo)) (hi : PE X i (TEv F Ex mi)) (hf : PSet X (RdSet F Ex f))
    (hs : swapsWithSole [.Subscript o i tpos] e pos.line X.env = pure false) (hw : swappedStores [.Subscript o i tpos] e X.env = pure none)
    (ha : ∀ v, assign (.Subscript o i tpos) X.env v = (do
      let ov ← holding [v] (eval o X.env)
      let iv ← holding [v, ov] (eval i X.env)
      standAt tpos
      holding [v, ov, iv] (setItem ov iv v)
      release [v, ov, iv] [])) : PS X (.Assign [.Subscript o i tpos] e pos) (TSv F Ex (sSet me mo mi f)) :=
  (ps_asg he (pg_sub ho hi hf ha) hs hw).weak fun D σ H ⟨μ, ρ, G, s, g, p⟩ => by
    refine TEv.run s g p fun μ1 a G1 v H1 e1 r1 g1 s1 p1 => ?_
    refine TEv.run s1 g1 p1 fun μ2 b G2 w H2 e2 r2 g2 s2 p2 => ?_
    refine TEv.run s2 g2 p2 fun μ3 c G3 u H3 e3 r3 g3 s3 p3 => ?_
    refine ⟨μ3, [b, c, a], G3, .cons (r2.mono e3) (.cons r3 (.one ((r1.mono e2).mono e3))), g3, (Post.bind (R := fun (_ : Mu) (_ : Hp) (_ : Unit) (_ : Unit) => True) p3).mono fun _ H4 ⟨μ4, _, G4, _, e4, _, g4, p4⟩ => ?_⟩
    exact p4.here (b := FlV.next σ) (s3.mono e4) g4
/-- name op= e -/
def sAug (i : Nat) (m : Env → GH → Res PV) (f : List PV → GH → Res PV) : Env → GH → Res Fl := fun ρ G => (mVar i ρ G).bind fun x G1 => (m ρ G1).bind fun y G2 => (f [x, y] G2).bind fun z G3 => .ok (.next (ρ.set i (some z))) G3
theorem ev_aug {i : Nat} {x : Str} {e : Expr} {op : Operator} {tpos pos : Pos} {m : Env → GH → Res PV} {f : List PV → GH → Res PV} (hN : X.N.Nodup) (hi : X.N[i]? = some x) (hx : Loc X.env.scope x) (he : PE X e (TEv F Ex m))
    (ho : PIp X op (fun x y H Q => RdV F Ex f [x, y] H Q)) (hf : X.fn x = true ∨ X.env.scope.names.lookup x = some .local) : PS X (.AugAssign (.Name x tpos) op e pos) (TSv F Ex (sAug i m f)) :=
  (ps_aug hN hi hx he ho hf).weak fun D σ H ⟨μ, ρ, G, s, g, p⟩ => by
    unfold sAug mVar at p
    cases eo : ρ[i]? with
    | none => simp only [eo] at p; exact (show False from p).elim
    | some o =>
      cases o with
      | none => simp only [eo] at p; exact (show False from p).elim
      | some a =>
        simp only [eo, Res.bind_ok] at p
        obtain ⟨v, h1, h2⟩ := s.at' i a eo
        refine ⟨v, h1, TEv.run s g p fun μ1 b G1 w H1 e1 r1 g1 s1 p1 => ⟨μ1, [a, b], G1, .cons (h2.mono e1) (.one r1), g1, (Post.bind (R := RV F) p1).mono fun z H2 ⟨μ2, c, G2, _, e2, r2, g2, p2⟩ => ?_⟩⟩
        exact p2.here (b := FlV.next _) ((s1.mono e2).set r2 i) g2
/-- x, y = a, b with plain locals -/
def sPar (i j : Nat) (ms : Env → GH → Res (List PV)) : Env → GH → Res Fl := fun ρ G => (ms ρ G).bind fun ps G1 => match ps with
  | [p, q] => .ok (.next ((ρ.set i (some p)).set j (some q))) G1
  | _ => .bad
theorem ev_par {i j : Nat} {x y : Str} {a b : Expr} {ms : Env → GH → Res (List PV)} {px py pt pos : Pos} {kt k2 : Nat} {pt2 : Pos} (hc : X.calm = true) (hN : X.N.Nodup) (hi : X.N[i]? = some x) (hj : X.N[j]? = some y) (hij : i ≠ j)
    (hx : X.env.scope.names.lookup x = some .local) (hy : X.env.scope.names.lookup y = some .local) (ha : PA X [a, b] (TAv F Ex ms)) (hw : swappedStores [.Tuple [.Name x px, .Name y py] kt pt] (.Tuple [a, b] k2 pt2) X.env = pure (some [x, y]))
    (hs : swapsWithSole [.Tuple [.Name x px, .Name y py] kt pt] (.Tuple [a, b] k2 pt2) pos.line X.env = pure false) : PS X (.Assign [.Tuple [.Name x px, .Name y py] kt pt] (.Tuple [a, b] k2 pt2) pos) (TSv F Ex (sPar i j ms)) :=
  (ps_par hc hN hi hj hij hx hy ha hw hs).weak fun D σ H ⟨μ, ρ, G, s, g, p⟩ => TAv.run s g p fun μ1 ps G1 vs H1 e1 r1 g1 s1 p1 => by
    match ps, r1, p1 with
    | [p, q], r1, p1 =>
      obtain ⟨v, w, rfl, ra, rb⟩ := Reps.two_inv r1
      exact ⟨v, w, rfl, p1.here (b := FlV.next _) ((s1.set ra i).set rb j) g1⟩
    | [], r1, p1 => exact (show False from p1).elim
    | [_], r1, p1 => exact (show False from p1).elim
    | _ :: _ :: _ :: _, r1, p1 => exact (show False from p1).elim

/-! ### a def's body -/
/-- what a body gives back -/
def bodyEnd (f : Fl) (G : GH) : Res PV := match f with
  | .ret p => .ok p G
  | .next _ => .ok .non G
  | _ => .bad
def env0 (n : Nat) (ps : List PV) : Env := ps.map some ++ List.replicate (n - ps.length) none
theorem srel0 {μ : Mu} {H : Hp} {ps : List PV} {vs : List V} (r : Reps F μ H ps vs) (N : List Str) : SRel F μ H (env0 N.length ps) (start N vs) := by
  refine ⟨by unfold env0 L2.start; simp [r.length], fun i p h => ?_⟩
  unfold env0 at h
  unfold L2.start
  by_cases hi : i < ps.length
  · rw [List.getElem?_append_left (by simpa using hi), List.getElem?_map] at h
    cases e : ps[i]? with
    | none => rw [e] at h; cases h
    | some q =>
      rw [e] at h
      cases h
      obtain ⟨v, h1, h2⟩ := r.get e
      refine ⟨v, ?_, h2⟩
      rw [List.getElem?_append_left (by rw [List.length_map, ← r.length]; exact hi), List.getElem?_map, h1]
      rfl
  · rw [List.getElem?_append_right (by simpa using hi), List.getElem?_replicate] at h
    split at h <;> cases h
theorem body_read {m : Env → GH → Res Fl} {N : List Str} {vs : List V} {H : Hp} {Q : VK} (h : RdV F Ex (fun ps G => (m (env0 N.length ps) G).bind bodyEnd) vs H Q) : TSv F Ex m { nx := fun _ H' => Q .non H', rt := Q } (start N vs) H := by
  obtain ⟨μ, ps, G, r, g, p⟩ := h
  refine ⟨μ, env0 N.length ps, G, srel0 r N, g, (Post.bind (R := RF F) p).mono fun fl H1 ⟨μ1, ev, G1, _, e1, r1, g1, p1⟩ => ?_⟩
  cases ev <;> cases fl <;> first | exact (show False from r1).elim | exact p1.here r1 g1 | exact p1.here (show Rep F μ1 H1 .non .non by simp only [Rep]) g1 | exact (show False from p1).elim
end
end EV
end
section
set_option Elab.async false
set_option linter.all false
set_option maxRecDepth 100000
/-! Ev8: operators by values. -/
namespace EV
open PySem PySem.Spec PyProof.Rows L2
section
variable {X : Cx} {F : Fx} {Ex : XK} {μ : Mu} {H : Hp} {G : GH}
/-- one more tuple, one more list (values) -/
theorem Post.tup {ps : List PV} {vs : List V} {Q : VK} (h : Post F (RV F) Ex μ H (.ok (.tup ps) G) Q) (g : HRep F μ H G) (r : Reps F μ H ps vs) (z : vs.length ≤ sizeLine) : NewT H vs Q := fun p o n d => by
  refine h.ok (Ext.upd_new g n) ?_ (g.upd_new n)
  show Rep F μ _ _ _
  simp only [Rep]
  exact ⟨p, vs, rfl, z, .inl ⟨g.fresh n, o, upd_same, d⟩, r.mono (Ext.upd_new g n)⟩
theorem Post.lst {ps : List PV} {vs : List V} {Q : VK} (h : Post F (RV F) Ex μ H (.ok (.lst ps) G) Q) (g : HRep F μ H G) (r : Reps F μ H ps vs) (z : vs.length ≤ sizeLine) : ∀ p, H p = none → Q (.ref p) (upd H p (.lst vs)) := fun p n => by
  refine h.ok (Ext.upd_new g n) ?_ (g.upd_new n)
  show Rep F μ _ _ _
  simp only [Rep]
  exact ⟨p, vs, rfl, z, ⟨g.fresh n, upd_same⟩, r.mono (Ext.upd_new g n)⟩
theorem rep_int {i : Int} {v : V} (r : Rep F μ H (.int i) v) : v = .int i := by simpa only [Rep] using r
theorem rep_bl {i : Bool} {v : V} (r : Rep F μ H (.bl i) v) : v = .bl i := by simpa only [Rep] using r
theorem rep_str {i : Str} {v : V} (r : Rep F μ H (.str i) v) : v = .str i := by simpa only [Rep] using r
theorem rep_non {v : V} (r : Rep F μ H .non v) : v = .non := by simpa only [Rep] using r
theorem rep_tup {ps : List PV} {v : V} (r : Rep F μ H (.tup ps) v) : ∃ a vs, v = .ref a ∧ vs.length ≤ sizeLine ∧ StT F μ H a vs ∧ Reps F μ H ps vs := by simpa only [Rep] using r
theorem rep_lst {ps : List PV} {v : V} (r : Rep F μ H (.lst ps) v) : ∃ a vs, v = .ref a ∧ vs.length ≤ sizeLine ∧ StX μ H a vs ∧ Reps F μ H ps vs := by simpa only [Rep] using r
theorem rep_sls {ps : List PV} {v : V} (r : Rep F μ H (.sls ps) v) : ∃ a vs, v = .ref a ∧ vs.length ≤ sizeLine ∧ StL F μ H a vs ∧ Reps F μ H ps vs := by simpa only [Rep] using r
theorem rep_obj {n : Nat} {v : V} (r : Rep F μ H (.obj n) v) : ∃ a, v = .ref a ∧ μ.ob[n]? = some a := by simpa only [Rep] using r
theorem RV.int {i : Int} : RV F μ H (.int i) (.int i) := by simp only [RV, Rep]
theorem RV.bl {i : Bool} : RV F μ H (.bl i) (.bl i) := by simp only [RV, Rep]
theorem RV.str {i : Str} : RV F μ H (.str i) (.str i) := by simp only [RV, Rep]
theorem RV.non : RV F μ H .non .non := by simp only [RV, Rep]
/-- a list of ours, or a list value: what stands there -/
def asL (p : PV) (G : GH) : Option (List PV) := match p with
  | .lst ps => some ps
  | .sls ps => some ps
  | .obj n => match G[n]? with
    | some (.lst ps) => some ps
    | _ => none
  | _ => none
theorem asL_rep {p : PV} {ps : List PV} {v : V} (e : asL p G = some ps) (r : Rep F μ H p v) (g : HRep F μ H G) : ∃ a vs, v = .ref a ∧ vs.length ≤ sizeLine ∧ SqL F.K H a vs ∧ Reps F μ H ps vs := by
  unfold asL at e
  split at e
  · cases e
    obtain ⟨a, vs, e1, z, st, rr⟩ := rep_lst r
    exact ⟨a, vs, e1, z, SqL.of st.2, rr⟩
  · cases e
    obtain ⟨a, vs, e1, z, st, rr⟩ := rep_sls r
    exact ⟨a, vs, e1, z, st.sq, rr⟩
  · rename_i n
    obtain ⟨a, e1, ha⟩ := rep_obj r
    split at e
    · rename_i qs eo
      cases e
      obtain ⟨vs, q, z, rr⟩ := g.obj n a _ ha eo
      exact ⟨a, vs, e1, z, SqL.of q, rr⟩
    · cases e
  · cases e

/-! ### + -/
def opAdd (ps : List PV) (G : GH) : Res PV := match ps with
  | [.int i, .int j] => .ok (.int (i + j)) G
  | [.str x, .str y] => if x.length + y.length ≤ sizeLine then .ok (.str (x ++ y)) G else .bad
  | [.tup a, .tup b] => if a.length + b.length ≤ sizeLine then .ok (.tup (a ++ b)) G else .bad
  | [x, y] => match asL x G, asL y G with
    | some a, some b => if a.length + b.length ≤ sizeLine then .ok (.lst (a ++ b)) G else .bad
    | _, _ => .bad
  | _ => .bad
theorem cat_lists {prog : Program} {w : World} {A : Around} {E : Value → Shared → Prop} {s : Shared} {l b : Addr} {vs ws : List Value} {Q : Value → Shared → Prop} (hl : s.heap.IsList l vs.toArray) (hb : s.heap.IsList b ws.toArray)
    (h : Q (.ref s.heap.objs.size) { s with heap := s.heap.push { cls := .type "list", data := .seq (vs ++ ws).toArray } }) (hz : vs.length + ws.length ≤ sizeLine) : wpAny (model prog w) A (binaryOp .Add (.ref l) (.ref b)) Q E s := by
  obtain ⟨⟨c1, d1, x1, s1⟩, ho, hc, n, hd⟩ := id hl
  obtain ⟨⟨c2, d2, x2, s2⟩, ho2, hc2, n2, hd2⟩ := id hb
  simp only at hc hd hc2 hd2
  subst hc hd hc2 hd2
  have e : vs.toArray ++ ws.toArray = (vs ++ ws).toArray := by simp
  refine concat_meets ⟨_, ho, rfl⟩ ⟨_, ho2, rfl⟩ noFill_list_add seq_list_add PySem.F.slot_list_add PySem.F.entry_list_add (PySem.F.args_list_add_2 _ _) (list_addW l b vs.toArray ws.toArray n n2 d1 d2 s1 s2 (by simpa using hz)) ⟨ho, ho2, ?_⟩
  rw [e]
  exact h
theorem op_catS : OpR X (binaryOp .Add) (fun x y H Q => ∃ a b xs ys, x = .ref a ∧ y = .ref b ∧ SqL X.K H a xs ∧ SqL X.K H b ys ∧ xs.length + ys.length ≤ sizeLine ∧ ∀ p, H p = none → Q (.ref p) (upd H p (.lst (xs ++ ys)))) := by
  intro pins s σ H x y v u Q I rx ry h
  obtain ⟨a, b, xs, ys, rfl, rfl, ha, hb, hz, q⟩ := h
  cases rx
  cases ry
  obtain ⟨its, r1, p1, _⟩ := I.list ha
  obtain ⟨its2, r2, p2, _⟩ := I.list hb
  refine cat_lists p1.isList p2.isList ?_ (by rw [← r1.length, ← r2.length]; exact hz)
  exact ⟨.ref _, _, I.lnew (t' := s.toks) (r1.append r2) (by rw [List.length_append]; exact hz), rfl, q _ I.fresh⟩
theorem opAdd_ok (hK : F.K = X.K) : OpR X (binaryOp .Add) (OpV F Ex opAdd) := by
  intro pins s σ H x y v u Q I rx ry ⟨μ, ps, G, r, g, p⟩
  unfold opAdd at p
  split at p
  · obtain ⟨_, _, e, r1, r2⟩ := Reps.two_inv r
    cases e
    exact op_add pins s σ H _ _ v u Q I rx ry ⟨_, _, rep_int r1, rep_int r2, p.here RV.int g⟩
  · obtain ⟨_, _, e, r1, r2⟩ := Reps.two_inv r
    cases e
    split at p
    · rename_i hz
      exact op_add_str pins s σ H _ _ v u Q I rx ry ⟨_, _, rep_str r1, rep_str r2, hz, p.here RV.str g⟩
    · exact (show False from p).elim
  · obtain ⟨_, _, e, r1, r2⟩ := Reps.two_inv r
    cases e
    split at p
    · rename_i hz
      obtain ⟨a, vs, e1, z1, st1, rr1⟩ := rep_tup r1
      obtain ⟨b, ws, e2, z2, st2, rr2⟩ := rep_tup r2
      have l1 := rr1.length
      have l2 := rr2.length
      refine op_catF pins s σ H _ _ v u Q I rx ry ⟨a, b, vs, ws, e1, e2, by rw [← hK]; exact st1.sq, by rw [← hK]; exact st2.sq, by omega, fun h0 => ?_, fun _ h0 => ?_, fun _ _ => p.tup g (rr1.append rr2) (by rw [List.length_append]; omega)⟩
      · rw [h0] at l1
        have := List.eq_nil_of_length_eq_zero l1
        rw [this, List.nil_append] at p
        rw [← e2]
        exact p.here r2 g
      · rw [h0] at l2
        have := List.eq_nil_of_length_eq_zero l2
        rw [this, List.append_nil] at p
        rw [← e1]
        exact p.here r1 g
    · exact (show False from p).elim
  · obtain ⟨_, _, e, r1, r2⟩ := Reps.two_inv r
    cases e
    split at p
    · rename_i ea eb
      split at p
      · rename_i hz
        obtain ⟨a, vs, e1, z1, st1, rr1⟩ := asL_rep ea r1 g
        obtain ⟨b, ws, e2, z2, st2, rr2⟩ := asL_rep eb r2 g
        have l1 := rr1.length
        have l2 := rr2.length
        exact op_catS pins s σ H _ _ v u Q I rx ry ⟨a, b, vs, ws, e1, e2, by rw [← hK]; exact st1, by rw [← hK]; exact st2, by omega, p.lst g (rr1.append rr2) (by rw [List.length_append]; omega)⟩
      · exact (show False from p).elim
    · exact (show False from p).elim
  · exact (show False from p).elim
/-! ### the other operators on ints -/
def opII (C : Int → Int → Bool) (f : Int → Int → PV) (ps : List PV) (G : GH) : Res PV := match ps with
  | [.int i, .int j] => if C i j = true then .ok (f i j) G else .bad
  | _ => .bad
theorem opII_ok {op : Value → Value → Sem Value} {C : Int → Int → Bool} {D : Int → Int → Prop} {f : Int → Int → PV} {fv : Int → Int → V} (ho : OpR X op (rI D fv)) (hD : ∀ i j, C i j = true → D i j) (hf : ∀ i j μ H, RV F μ H (f i j) (fv i j)) : OpR X op (OpV F Ex (opII C f)) := by
  intro pins s σ H x y v u Q I rx ry ⟨μ, ps, G, r, g, p⟩
  unfold opII at p
  split at p
  · obtain ⟨_, _, e, r1, r2⟩ := Reps.two_inv r
    cases e
    split at p
    · rename_i hc
      exact ho pins s σ H _ _ v u Q I rx ry ⟨_, _, rep_int r1, rep_int r2, hD _ _ hc, p.here (hf _ _ _ _) g⟩
    · exact (show False from p).elim
  · exact (show False from p).elim
theorem rI_of {op : Value → Value → Sem Value} {fv : Int → Int → V} (ho : OpR X op (rI0 fv)) : OpR X op (rI (fun _ _ => True) fv) := fun pins s σ H x y v u Q I rx ry ⟨i, j, e1, e2, _, q⟩ => ho pins s σ H x y v u Q I rx ry ⟨i, j, e1, e2, q⟩
def opSub := opII (fun _ _ => true) fun i j => .int (i - j)
def opMod := opII (fun _ j => decide (j ≠ 0)) fun i j => .int (i.fmod j)
def opDiv := opII (fun _ j => decide (j ≠ 0 ∧ j.natAbs < 1073741824)) fun i j => .int (i.fdiv j)
def opPow := opII (fun i j => decide (0 ≤ j ∧ j ≤ 1000000 ∧ i.natAbs < 2 ^ 64)) fun i j => .int (i ^ j.toNat)
theorem opSub_ok : OpR X (binaryOp .Sub) (OpV F Ex opSub) := opII_ok (rI_of op_sub) (fun _ _ _ => trivial) fun _ _ _ _ => RV.int
theorem opMod_ok : OpR X (binaryOp .Mod) (OpV F Ex opMod) := opII_ok op_modN (fun _ _ h => of_decide_eq_true h) fun _ _ _ _ => RV.int
theorem opDiv_ok : OpR X (binaryOp .FloorDiv) (OpV F Ex opDiv) := opII_ok op_fdivN (fun i j h => (show j ≠ 0 ∧ j.natAbs < 1073741824 from of_decide_eq_true h)) fun _ _ _ _ => RV.int
theorem opPow_ok : OpR X (binaryOp .Pow) (OpV F Ex opPow) := opII_ok op_pow (fun i j h => (show 0 ≤ j ∧ j ≤ 1000000 ∧ i.natAbs < 2 ^ 64 from of_decide_eq_true h)) fun _ _ _ _ => RV.int
/-! ### times -/
def repS (x : Str) (k : Nat) : Str := ⟨(List.replicate k x.cps).foldl (· ++ ·) #[]⟩
def opMul (ps : List PV) (G : GH) : Res PV := match ps with
  | [.int i, .int j] => if (-(2 ^ 64) < i ∧ i < 2 ^ 64) ∨ (-(2 ^ 64) < j ∧ j < 2 ^ 64) then .ok (.int (i * j)) G else .bad
  | [.str x, .int j] => if 2 ≤ j ∧ j ≤ 1000 ∧ 0 < x.length ∧ x.length ≤ 1000 then .ok (.str (repS x j.toNat)) G else .bad
  | [.tup a, .int j] => if 2 ≤ j ∧ j ≤ 1000 ∧ a.length ≤ 1000 then .ok (.tup (List.replicate j.toNat a).flatten) G else .bad
  | _ => .bad
theorem Reps.rep {ps : List PV} {vs : List V} (r : Reps F μ H ps vs) : ∀ k : Nat, Reps F μ H (List.replicate k ps).flatten (List.replicate k vs).flatten
  | 0 => .nil
  | k + 1 => by
    rw [List.replicate_succ, List.flatten_cons, List.replicate_succ, List.flatten_cons]
    exact r.append (Reps.rep r k)
theorem foldl_app_size (x : Array Nat) : ∀ (k : Nat) (a : Array Nat), ((List.replicate k x).foldl (· ++ ·) a).size = a.size + k * x.size
  | 0, a => by simp
  | k + 1, a => by
    rw [List.replicate_succ, List.foldl_cons, foldl_app_size x k]
    rw [Array.size_append, Nat.succ_mul]; omega
theorem op_mul_str : OpR X (binaryOp .Mult) (fun x y H Q => ∃ z j, x = .str z ∧ y = .int j ∧ (2 ≤ j ∧ j ≤ 1000 ∧ 0 < z.length ∧ z.length ≤ 1000) ∧ Q (.str (repS z j.toNat)) H) := by
  intro pins s σ H x y v u Q I rx ry h
  obtain ⟨z, j, rfl, rfl, ⟨h1, h2, h3, h4⟩, q⟩ := h
  obtain ⟨t, rfl⟩ := rx
  obtain ⟨t', rfl⟩ := ry
  have hm : z.length * j.toNat ≤ 1000 * 1000 := Nat.mul_le_mul h4 (by omega)
  refine PySem.P.mul_str ?_ (fun _ _ => ?_) (fun _ _ => ?_) ?_
  · have a1 : ¬ j < -(2 ^ 63 : Int) := by omega
    have a2 : ¬ j ≥ 2 ^ 63 := by omega
    rw [decide_eq_false a1, decide_eq_false a2]; rfl
  · have : (1000 : Int) ≤ (2 ^ 63 - 1) / j := by
      apply Int.le_ediv_of_mul_le (by omega)
      have : 1000 * j ≤ 1000 * 1000 := by omega
      omega
    omega
  · have : sizeLine = 16777216 := sizeLine_eq
    show decide _ = false
    apply decide_eq_false
    omega
  · have c1 : ¬ j < 1 := by omega
    have c2 : ¬ (j == 1 || z.length == 0) = true := by
      simp only [Bool.or_eq_true, beq_iff_eq]
      omega
    rw [if_neg c1, if_neg c2]
    refine ⟨?_, .str _, H, I.tok _, ⟨_, rfl⟩, q⟩
    show ((List.replicate j.toNat z.cps).foldl (· ++ ·) #[]).size ≤ sizeLine
    rw [foldl_app_size]
    have : sizeLine = 16777216 := sizeLine_eq
    have e : z.cps.size = z.length := rfl
    rw [e, Nat.mul_comm]
    simp
    omega
theorem opMul_ok (hK : F.K = X.K) : OpR X (binaryOp .Mult) (OpV F Ex opMul) := by
  intro pins s σ H x y v u Q I rx ry ⟨μ, ps, G, r, g, p⟩
  unfold opMul at p
  split at p
  · obtain ⟨_, _, e, r1, r2⟩ := Reps.two_inv r
    cases e
    split at p
    · rename_i hc
      exact op_mul pins s σ H _ _ v u Q I rx ry ⟨_, _, rep_int r1, rep_int r2, hc, p.here RV.int g⟩
    · exact (show False from p).elim
  · obtain ⟨_, _, e, r1, r2⟩ := Reps.two_inv r
    cases e
    split at p
    · rename_i hc
      exact op_mul_str pins s σ H _ _ v u Q I rx ry ⟨_, _, rep_str r1, rep_int r2, hc, p.here RV.str g⟩
    · exact (show False from p).elim
  · obtain ⟨_, _, e, r1, r2⟩ := Reps.two_inv r
    cases e
    split at p
    · rename_i a0 j hc
      obtain ⟨a, vs, e1, z1, st1, rr1⟩ := rep_tup r1
      have l1 := rr1.length
      by_cases h0 : a0 = []
      · subst h0
        cases rr1
        have e0 : (List.replicate j.toNat ([] : List PV)).flatten = [] := by
          induction j.toNat with
          | zero => rfl
          | succ k ih => rw [List.replicate_succ, List.flatten_cons, ih]; rfl
        rw [e0] at p
        exact op_rep0 pins s σ H _ _ v u Q I rx ry ⟨a, _, e1, rep_int r2, by rw [← hK]; exact st1.sq, hc.1, hc.2.1, by rw [← e1]; exact p.here r1 g⟩
      refine op_repF pins s σ H _ _ v u Q I rx ry ⟨a, _, vs, e1, rep_int r2, by rw [← hK]; exact st1.sq, fun h1 => h0 (List.eq_nil_of_length_eq_zero (by rw [l1, h1]; rfl)), hc.1, hc.2.1, by omega, p.tup g (rr1.rep _) ?_⟩
      rw [PyProof.Rows.lm_len_rep_flat]
      have : sizeLine = 16777216 := sizeLine_eq
      have a1 : j.toNat * vs.length ≤ 1000 * 1000 := Nat.mul_le_mul (by omega) (by omega)
      omega
    · exact (show False from p).elim
  · exact (show False from p).elim
def opNeg (ps : List PV) (G : GH) : Res PV := match ps with
  | [.int i] => .ok (.int (-i)) G
  | _ => .bad
theorem opNeg_ok : UnR X (unaryOp .USub) (fun x H Q => RdV F Ex opNeg [x] H Q) := by
  intro pins s σ H x v Q I rx ⟨μ, ps, G, r, g, p⟩
  unfold opNeg at p
  split at p
  · obtain ⟨_, e, r1⟩ := Reps.one_inv r
    cases e
    exact un_neg pins s σ H _ v Q I rx ⟨_, rep_int r1, p.here RV.int g⟩
  · exact (show False from p).elim
end
end EV
end
section
set_option Elab.async false
set_option linter.all false
set_option maxRecDepth 100000
/-! Ev9: comparisons, places, slices, built-ins by values. -/
namespace EV
open PySem PySem.Spec PyProof.Rows L2
/-! ### data -/
mutual
def toD : PV → Option PyData
  | .non => some .none
  | .bl b => some (.bool b)
  | .int i => some (.int i)
  | .str x => some (.str x)
  | .tup ps => (toDs ps).map .tuple
  | .lst ps => (toDs ps).map .list
  | .sls ps => (toDs ps).map .list
  | .obj _ => none
def toDs : List PV → Option (List PyData)
  | [] => some []
  | p :: ps => match toD p, toDs ps with
    | some d, some ds => some (d :: ds)
    | _, _ => none
end
/-- .. where an object of ours may stand on top -/
def toDG (G : GH) (p : PV) : Option PyData := match p with
  | .obj n => match G[n]? with
    | some (.lst ps) => (toDs ps).map .list
    | _ => none
  | p => toD p
section
variable {X : Cx} {F : Fx} {Ex : XK} {μ : Mu} {H : Hp} {G : GH}
mutual
theorem toD_dp : ∀ {p : PV} {v : V} {d : PyData}, toD p = some d → Rep F μ H p v → Dp F.K H v d
  | .non, v, d, e, r => by simp only [toD, Option.some.injEq] at e; subst e; rw [rep_non r]; exact .non
  | .bl b, v, d, e, r => by simp only [toD, Option.some.injEq] at e; subst e; rw [rep_bl r]; exact .bl b
  | .int i, v, d, e, r => by simp only [toD, Option.some.injEq] at e; subst e; rw [rep_int r]; exact .int i
  | .str x, v, d, e, r => by simp only [toD, Option.some.injEq] at e; subst e; rw [rep_str r]; exact .str x
  | .tup ps, v, d, e, r => by
    simp only [toD, Option.map_eq_some_iff] at e
    obtain ⟨ds, e1, rfl⟩ := e
    obtain ⟨a, vs, rfl, _, st, rr⟩ := rep_tup r
    exact .tup st.sq (toDs_dp e1 rr)
  | .lst ps, v, d, e, r => by
    simp only [toD, Option.map_eq_some_iff] at e
    obtain ⟨ds, e1, rfl⟩ := e
    obtain ⟨a, vs, rfl, _, st, rr⟩ := rep_lst r
    exact .lst (SqL.of st.2) (toDs_dp e1 rr)
  | .sls ps, v, d, e, r => by
    simp only [toD, Option.map_eq_some_iff] at e
    obtain ⟨ds, e1, rfl⟩ := e
    obtain ⟨a, vs, rfl, _, st, rr⟩ := rep_sls r
    exact .lst st.sq (toDs_dp e1 rr)
  | .obj n, v, d, e, r => by simp only [toD] at e; cases e
theorem toDs_dp : ∀ {ps : List PV} {vs : List V} {ds : List PyData}, toDs ps = some ds → Reps F μ H ps vs → DpAll F.K H vs ds
  | [], vs, ds, e, r => by simp only [toDs, Option.some.injEq] at e; subst e; rw [r.nil_inv]; exact .nil
  | p :: ps, vs, ds, e, r => by
    obtain ⟨v, w, rfl, r1, rr⟩ := r.cons_inv
    simp only [toDs] at e
    split at e
    · rename_i d ds' e1 e2
      cases e
      exact .cons (toD_dp e1 r1) (toDs_dp e2 rr)
    · cases e
end
theorem toDG_dp {p : PV} {v : V} {d : PyData} (e : toDG G p = some d) (r : Rep F μ H p v) (g : HRep F μ H G) : Dp F.K H v d := by
  unfold toDG at e
  split at e
  · rename_i n
    split at e
    · rename_i ps eo
      rw [Option.map_eq_some_iff] at e
      obtain ⟨ds, e1, rfl⟩ := e
      obtain ⟨a, rfl, ha⟩ := rep_obj r
      obtain ⟨vs, q, z, rr⟩ := g.obj n a _ ha eo
      exact .lst (SqL.of q) (toDs_dp e1 rr)
    · cases e
  · exact toD_dp e r
/-! ### == and != -/
def scalP : PV → PV → Option Bool
  | .non, .non => some true
  | .int a, .int b => some (decide (a = b))
  | .bl a, .bl b => some (decide (a = b))
  | .str a, .str b => some (decide (a = b))
  | .non, .int _ => some false | .int _, .non => some false | .non, .bl _ => some false | .bl _, .non => some false | .non, .str _ => some false | .str _, .non => some false
  | .int _, .str _ => some false | .str _, .int _ => some false | .bl _, .str _ => some false | .str _, .bl _ => some false
  | _, _ => none
def eqD (a b : PyData) : Option Bool := if SeqAt.shaped a = true ∧ SeqAt.shaped b = true then some (PyData.eqv a b) else none
def eqP (G : GH) (x y : PV) : Option Bool := match scalP x y with
  | some b => some b
  | none => match toDG G x, toDG G y with
    | some a, some b => eqD a b
    | _, _ => none
def opEqN (neg : Bool) (ps : List PV) (G : GH) : Res PV := match ps with
  | [x, y] => match eqP G x y with
    | some b => .ok (.bl (if neg = true then !b else b)) G
    | none => .bad
  | _ => .bad
theorem scalP_rep {x y : PV} {v w : V} {b : Bool} (e : scalP x y = some b) (rx : Rep F μ H x v) (ry : Rep F μ H y w) : scal v w = true ∧ decide (v = w) = b := by
  cases x <;> cases y <;> simp only [scalP, Option.some.injEq] at e <;> first | (cases e; done) | skip
  all_goals simp only [Rep] at rx ry
  all_goals subst rx ry e
  all_goals simp [scal]
theorem opEq_gen (neg : Bool) {op : Value → Value → Sem Value} (h1 : OpR X op (fun x y H Q => scal x y = true ∧ Q (.bl (if neg = true then !decide (x = y) else decide (x = y))) H))
    (h2 : OpR X op (fun x y H Q => ∃ d e, Dp X.K H x d ∧ Dp X.K H y e ∧ SeqAt.shaped d = true ∧ SeqAt.shaped e = true ∧ Q (.bl (if neg = true then !PyData.eqv d e else PyData.eqv d e)) H)) (hK : F.K = X.K) : OpR X op (OpV F Ex (opEqN neg)) := by
  intro pins s σ H x y v u Q I rx ry ⟨μ, ps, G, r, g, p⟩
  unfold opEqN at p
  split at p
  · obtain ⟨_, _, e, r1, r2⟩ := Reps.two_inv r
    cases e
    split at p
    · rename_i b eb
      unfold eqP at eb
      split at eb
      · rename_i b' es
        cases eb
        obtain ⟨s1, s2⟩ := scalP_rep es r1 r2
        refine h1 pins s σ H _ _ v u Q I rx ry ⟨s1, ?_⟩
        rw [s2]
        exact p.here RV.bl g
      · split at eb
        · rename_i d1 d2 e1 e2
          unfold eqD at eb
          split at eb
          · rename_i hs
            cases eb
            exact h2 pins s σ H _ _ v u Q I rx ry ⟨d1, d2, by rw [← hK]; exact toDG_dp e1 r1 g, by rw [← hK]; exact toDG_dp e2 r2 g, hs.1, hs.2, p.here RV.bl g⟩
          · cases eb
        · cases eb
    · exact (show False from p).elim
  · exact (show False from p).elim
abbrev opEq := opEqN false
abbrev opNe := opEqN true
theorem opEq_ok (hK : F.K = X.K) (hu : X.A.units + 64 < cLine) : OpR X (compareOp .Eq) (OpV F Ex opEq) := opEq_gen false op_eq (op_eqD hu) hK
theorem opNe_ok (hK : F.K = X.K) (hu : X.A.units + 64 < cLine) : OpR X (compareOp .NotEq) (OpV F Ex opNe) := opEq_gen true op_ne (op_neD hu) hK
/-! ### is None, is not None -/
def isNon : PV → Bool
  | .non => true
  | _ => false
def opIsN (neg : Bool) (ps : List PV) (G : GH) : Res PV := match ps with
  | [x, .non] => .ok (.bl (if neg = true then !isNon x else isNon x)) G
  | _ => .bad
theorem rep_isnon {x : PV} {v : V} (r : Rep F μ H x v) : decide (v = .non) = isNon x := by
  cases x <;> simp only [Rep] at r
  · subst r; rfl
  · subst r; rfl
  · subst r; rfl
  · subst r; rfl
  · obtain ⟨a, vs, rfl, _⟩ := r; rfl
  · obtain ⟨a, vs, rfl, _⟩ := r; rfl
  · obtain ⟨a, vs, rfl, _⟩ := r; rfl
  · obtain ⟨a, rfl, _⟩ := r; rfl
theorem opIs_ok : OpR X (compareOp .Is) (OpV F Ex (opIsN false)) := by
  intro pins s σ H x y v u Q I rx ry ⟨μ, ps, G, r, g, p⟩
  unfold opIsN at p
  split at p
  · obtain ⟨_, _, e, r1, r2⟩ := Reps.two_inv r
    cases e
    refine op_isN pins s σ H _ _ v u Q I rx ry ⟨rep_non r2, ?_⟩
    rw [rep_isnon r1]
    exact p.here RV.bl g
  · exact (show False from p).elim
theorem opIsNot_ok : OpR X (compareOp .IsNot) (OpV F Ex (opIsN true)) := by
  intro pins s σ H x y v u Q I rx ry ⟨μ, ps, G, r, g, p⟩
  unfold opIsN at p
  split at p
  · obtain ⟨_, _, e, r1, r2⟩ := Reps.two_inv r
    cases e
    refine op_notN pins s σ H _ _ v u Q I rx ry ⟨rep_non r2, ?_⟩
    rw [rep_isnon r1]
    exact p.here RV.bl g
  · exact (show False from p).elim
/-! ### order -/
def cltS (x y : Str) : Bool := decide (x.cps.toList < y.cps.toList)
def someD : PyData → Bool
  | .none => false
  | _ => true
/-- an order of data alike, place by place -/
def ordD (G : GH) (x y : PV) (f : PyData → PyData → Bool) : Res PV := match toDG G x, toDG G y with
  | some d, some e => if (PySem.W.alike d e && someD d && decide (d.depth ≤ 60)) = true then .ok (.bl (f d e)) G else .bad
  | _, _ => .bad
def ltD (d e : PyData) : Bool := PySem.W.dataLt d e
def gtD (d e : PyData) : Bool := PySem.W.dataLt e d
def leD (d e : PyData) : Bool := !PySem.W.dataLt e d
def geD (d e : PyData) : Bool := !PySem.W.dataLt d e
def opLt (ps : List PV) (G : GH) : Res PV := match ps with
  | [.int i, .int j] => .ok (.bl (decide (i < j))) G
  | [.str x, .str y] => .ok (.bl (cltS x y)) G
  | [x, y] => ordD G x y ltD
  | _ => .bad
def opLe (ps : List PV) (G : GH) : Res PV := match ps with
  | [.int i, .int j] => .ok (.bl (decide (i ≤ j))) G
  | [.str x, .str y] => .ok (.bl (!cltS y x)) G
  | [x, y] => ordD G x y leD
  | _ => .bad
def opGt (ps : List PV) (G : GH) : Res PV := match ps with
  | [.int i, .int j] => .ok (.bl (decide (j < i))) G
  | [.str x, .str y] => .ok (.bl (cltS y x)) G
  | [x, y] => ordD G x y gtD
  | _ => .bad
def opGe (ps : List PV) (G : GH) : Res PV := match ps with
  | [.int i, .int j] => .ok (.bl (decide (j ≤ i))) G
  | [.str x, .str y] => .ok (.bl (!cltS x y)) G
  | [x, y] => ordD G x y geD
  | _ => .bad
def rOrdD (K : PySem.W.Frag) (f : PyData → PyData → Bool) : R2 := fun x y H Q => ∃ d e, Dp K H x d ∧ Dp K H y e ∧ PySem.W.alike d e = true ∧ d ≠ .none ∧ d.depth ≤ 60 ∧ Q (.bl (f d e)) H
theorem op_ltD (hu : X.A.units + 64 < cLine) : OpR X (compareOp .Lt) (rOrdD X.K ltD) := by
  intro pins s σ H x y v u Q I rx ry ⟨d, e, hd, he, ha, hn, hp, q⟩
  obtain ⟨as, r1⟩ := Dp.reads I d x v hd rx
  obtain ⟨bs, r2⟩ := Dp.reads I e y u he ry
  exact PySem.W.lt_data r1 r2 ha hn (by omega) ⟨.bl _, H, I, rfl, q⟩
theorem op_gtD (hu : X.A.units + 64 < cLine) : OpR X (compareOp .Gt) (rOrdD X.K gtD) := by
  intro pins s σ H x y v u Q I rx ry ⟨d, e, hd, he, ha, hn, hp, q⟩
  obtain ⟨as, r1⟩ := Dp.reads I d x v hd rx
  obtain ⟨bs, r2⟩ := Dp.reads I e y u he ry
  exact PySem.W.gt_data r1 r2 ha hn (by omega) ⟨.bl _, H, I, rfl, q⟩
theorem op_leD (hu : X.A.units + 64 < cLine) : OpR X (compareOp .LtE) (rOrdD X.K leD) := by
  intro pins s σ H x y v u Q I rx ry ⟨d, e, hd, he, ha, hn, hp, q⟩
  obtain ⟨as, r1⟩ := Dp.reads I d x v hd rx
  obtain ⟨bs, r2⟩ := Dp.reads I e y u he ry
  exact PySem.W.le_data r1 r2 ha hn (by omega) ⟨.bl _, H, I, rfl, q⟩
theorem op_geD (hu : X.A.units + 64 < cLine) : OpR X (compareOp .GtE) (rOrdD X.K geD) := by
  intro pins s σ H x y v u Q I rx ry ⟨d, e, hd, he, ha, hn, hp, q⟩
  obtain ⟨as, r1⟩ := Dp.reads I d x v hd rx
  obtain ⟨bs, r2⟩ := Dp.reads I e y u he ry
  exact PySem.W.ge_data r1 r2 ha hn (by omega) ⟨.bl _, H, I, rfl, q⟩
theorem ord_gen {op : Value → Value → Sem Value} {fi : Int → Int → Bool} {fs : Str → Str → Bool} {fd : PyData → PyData → Bool} {m : List PV → GH → Res PV} (hK : F.K = X.K) (hi : OpR X op (rI0 fun i j => .bl (fi i j))) (hs : OpR X op (fun x y H Q => ∃ i j, x = .str i ∧ y = .str j ∧ Q (.bl (fs i j)) H)) (hd : OpR X op (rOrdD X.K fd))
    (hm : m = fun ps G => match ps with
      | [.int i, .int j] => .ok (.bl (fi i j)) G
      | [.str x, .str y] => .ok (.bl (fs x y)) G
      | [x, y] => ordD G x y fd
      | _ => .bad) : OpR X op (OpV F Ex m) := by
  subst hm
  intro pins s σ H x y v u Q I rx ry ⟨μ, ps, G, r, g, p⟩
  dsimp only at p
  split at p
  · obtain ⟨_, _, e, r1, r2⟩ := Reps.two_inv r
    cases e
    exact hi pins s σ H _ _ v u Q I rx ry ⟨_, _, rep_int r1, rep_int r2, p.here RV.bl g⟩
  · obtain ⟨_, _, e, r1, r2⟩ := Reps.two_inv r
    cases e
    exact hs pins s σ H _ _ v u Q I rx ry ⟨_, _, rep_str r1, rep_str r2, p.here RV.bl g⟩
  · obtain ⟨_, _, e, r1, r2⟩ := Reps.two_inv r
    cases e
    unfold ordD at p
    split at p
    · rename_i d e e1 e2
      split at p
      · rename_i hc
        simp only [Bool.and_eq_true, decide_eq_true_eq] at hc
        refine hd pins s σ H _ _ v u Q I rx ry ⟨d, e, by rw [← hK]; exact toDG_dp e1 r1 g, by rw [← hK]; exact toDG_dp e2 r2 g, hc.1.1, fun h => ?_, hc.2, p.here RV.bl g⟩
        rw [h] at hc
        exact absurd hc.1.2 (by decide)
      · exact (show False from p).elim
    · exact (show False from p).elim
  · exact (show False from p).elim
theorem opLt_ok (hK : F.K = X.K) (hu : X.A.units + 64 < cLine) : OpR X (compareOp .Lt) (OpV F Ex opLt) := ord_gen hK op_lt op_lt_str (op_ltD hu) rfl
theorem opLe_ok (hK : F.K = X.K) (hu : X.A.units + 64 < cLine) : OpR X (compareOp .LtE) (OpV F Ex opLe) := ord_gen hK op_le op_le_str (op_leD hu) rfl
theorem opGt_ok (hK : F.K = X.K) (hu : X.A.units + 64 < cLine) : OpR X (compareOp .Gt) (OpV F Ex opGt) := ord_gen hK op_gt op_gt_str (op_gtD hu) rfl
theorem opGe_ok (hK : F.K = X.K) (hu : X.A.units + 64 < cLine) : OpR X (compareOp .GtE) (OpV F Ex opGe) := ord_gen hK op_ge op_ge_str (op_geD hu) rfl
/-! ### in: signs in texts, scalars in lists and tuples -/
def flatP : PV → Bool
  | .non => true
  | .bl _ => true
  | .int _ => true
  | .str _ => true
  | _ => false
def eqFl : PV → PV → Bool
  | .non, .non => true
  | .bl a, .bl b => a == b
  | .bl a, .int b => (if a then 1 else 0) == b
  | .int a, .bl b => a == (if b then 1 else 0)
  | .int a, .int b => a == b
  | .str a, .str b => a == b
  | _, _ => false
/-- what a list or a tuple holds -/
def asS (p : PV) (G : GH) : Option (List PV) := match p with
  | .tup ps => some ps
  | p => asL p G
def inP (G : GH) (x y : PV) : Option Bool := match x, y with
  | .str a, .str b => if a.cps.size = 1 then some (decide (a.cps.getD 0 0 ∈ b.cps.toList)) else none
  | x, y => match asS y G with
    | some ps => if (flatP x && ps.all flatP) = true then some (ps.any fun z => eqFl z x) else none
    | none => none
def opInN (neg : Bool) (ps : List PV) (G : GH) : Res PV := match ps with
  | [x, y] => match inP G x y with
    | some b => .ok (.bl (if neg = true then !b else b)) G
    | none => .bad
  | _ => .bad
theorem flat_rep {x : PV} {v : V} (rx : Rep F μ H x v) (e : flatP x = true) : flatV v = true := by
  cases x <;> simp only [flatP] at e <;> first | (cases e; done) | skip
  all_goals (simp only [Rep] at rx; subst rx; rfl)
theorem eqFl_rep {x y : PV} {v w : V} (rx : Rep F μ H x v) (ry : Rep F μ H y w) (ex : flatP x = true) (ey : flatP y = true) : eqV v w = eqFl x y := by
  cases x <;> simp only [flatP] at ex <;> first | (cases ex; done) | skip
  all_goals (cases y <;> simp only [flatP] at ey <;> first | (cases ey; done) | skip)
  all_goals (simp only [Rep] at rx ry; subst rx ry; simp [eqV, eqFl])
theorem any_flat {x : PV} {v : V} (rx : Rep F μ H x v) (ex : flatP x = true) : ∀ {ps : List PV} {vs : List V}, ps.all flatP = true → Reps F μ H ps vs → vs.all flatV = true ∧ inV v vs = ps.any fun z => eqFl z x
  | [], vs, _, r => by rw [r.nil_inv]; exact ⟨rfl, rfl⟩
  | y :: ps, vs, e, r => by
    obtain ⟨w, ws, rfl, r1, rr⟩ := r.cons_inv
    simp only [List.all_cons, Bool.and_eq_true] at e
    obtain ⟨h1, h2⟩ := any_flat rx ex e.2 rr
    refine ⟨by simp only [List.all_cons, Bool.and_eq_true]; exact ⟨flat_rep r1 e.1, h1⟩, ?_⟩
    unfold inV at h2 ⊢
    rw [List.any_cons, List.any_cons, h2, eqFl_rep r1 rx e.1 ex]
theorem asS_rep {p : PV} {ps : List PV} {v : V} (e : asS p G = some ps) (r : Rep F μ H p v) (g : HRep F μ H G) : ∃ a vs, v = .ref a ∧ vs.length ≤ sizeLine ∧ (SqL F.K H a vs ∨ SqT F.K H a vs) ∧ Reps F μ H ps vs := by
  unfold asS at e
  split at e
  · cases e
    obtain ⟨a, vs, e1, z, st, rr⟩ := rep_tup r
    exact ⟨a, vs, e1, z, .inr st.sq, rr⟩
  · obtain ⟨a, vs, e1, z, st, rr⟩ := asL_rep e r g
    exact ⟨a, vs, e1, z, .inl st, rr⟩
theorem one_sign {a : Str} (h : a.cps.size = 1) : a = ⟨#[a.cps.getD 0 0]⟩ := by
  obtain ⟨⟨l⟩⟩ := a
  have h : l.length = 1 := h
  match l, h with
  | [c], _ => rfl
theorem opIn_gen (neg : Bool) {op : Value → Value → Sem Value} (h1 : OpR X op (fun x y H Q => ∃ (c : Nat) (z : Str), x = .str ⟨#[c]⟩ ∧ y = .str z ∧ Q (.bl (if neg = true then !decide (c ∈ z.cps.toList) else decide (c ∈ z.cps.toList))) H))
    (h2 : OpR X op (rIn X.K neg)) (hK : F.K = X.K) : OpR X op (OpV F Ex (opInN neg)) := by
  intro pins s σ H x y v u Q I rx ry ⟨μ, ps, G, r, g, p⟩
  unfold opInN at p
  split at p
  · obtain ⟨_, _, e, r1, r2⟩ := Reps.two_inv r
    cases e
    split at p
    · rename_i b eb
      unfold inP at eb
      split at eb
      · split at eb
        · rename_i hc
          cases eb
          exact h1 pins s σ H _ _ v u Q I rx ry ⟨_, _, by rw [rep_str r1]; exact congrArg V.str (one_sign hc), rep_str r2, p.here RV.bl g⟩
        · cases eb
      · split at eb
        · rename_i ps es
          split at eb
          · rename_i hf
            cases eb
            simp only [Bool.and_eq_true] at hf
            obtain ⟨a, vs, rfl, z, st, rr⟩ := asS_rep es r2 g
            obtain ⟨k1, k2⟩ := any_flat r1 hf.1 hf.2 rr
            refine h2 pins s σ H _ _ v u Q I rx ry ⟨a, vs, rfl, by rw [← hK]; exact st, flat_rep r1 hf.1, k1, ?_⟩
            rw [k2]
            exact p.here RV.bl g
          · cases eb
        · cases eb
    · exact (show False from p).elim
  · exact (show False from p).elim
abbrev opIn := opInN false
abbrev opNotIn := opInN true
theorem opIn_ok (hK : F.K = X.K) : OpR X (compareOp .In) (OpV F Ex opIn) := opIn_gen false op_in_sign op_in_seq hK
theorem opNotIn_ok (hK : F.K = X.K) : OpR X (compareOp .NotIn) (OpV F Ex opNotIn) := opIn_gen true op_notIn_sign op_notIn_seq hK

/-! ### places and slices -/
def opIx (ps : List PV) (G : GH) : Res PV := match ps with
  | [.str z, .int i] => if z.length ≤ sizeLine then (match atI z.cps.toList i with
    | some c => .ok (.str ⟨#[c]⟩) G
    | none => .bad) else .bad
  | [x, .int i] => match asS x G with
    | some ps => (match atI ps i with
      | some p => .ok p G
      | none => .bad)
    | none => .bad
  | _ => .bad
theorem Reps.atI {ps : List PV} {vs : List V} {i : Int} {p : PV} (r : Reps F μ H ps vs) (e : L2.atI ps i = some p) : ∃ v, L2.atI vs i = some v ∧ Rep F μ H p v := by
  unfold L2.atI at e ⊢
  rw [← r.length]
  cases z : ixN ps.length i with
  | none => rw [z] at e; cases e
  | some j =>
    rw [z] at e
    obtain ⟨v, h1, h2⟩ := r.get (show ps[j]? = some p from e)
    exact ⟨v, h1, h2⟩
theorem opIx_ok (hK : F.K = X.K) : IxR X (OpV F Ex opIx) := by
  intro value slice pins s σ H x y v u Q I rx ry ⟨μ, ps, G, r, g, p⟩ hsub
  unfold opIx at p
  split at p
  · obtain ⟨_, _, e, r1, r2⟩ := Reps.two_inv r
    cases e
    split at p
    · rename_i hz
      split at p
      · rename_i c ec
        exact ix_str value slice pins s σ H _ _ v u Q I rx ry ⟨_, _, c, rep_str r1, rep_int r2, hz, ec, p.here RV.str g⟩ hsub
      · exact (show False from p).elim
    · exact (show False from p).elim
  · obtain ⟨_, _, e, r1, r2⟩ := Reps.two_inv r
    cases e
    split at p
    · rename_i ps es
      split at p
      · rename_i q eq
        obtain ⟨a, vs, rfl, z, st, rr⟩ := asS_rep es r1 g
        obtain ⟨w, h1, h2⟩ := rr.atI eq
        rw [hK] at st
        rcases st with st | st
        · exact ix_list value slice pins s σ H _ _ v u Q I rx ry ⟨a, vs, _, w, rfl, rep_int r2, st, h1, p.here h2 g⟩ hsub
        · exact ix_tup value slice pins s σ H _ _ v u Q I rx ry ⟨a, vs, _, w, rfl, rep_int r2, st, h1, p.here h2 g⟩ hsub
      · exact (show False from p).elim
    · exact (show False from p).elim
  · exact (show False from p).elim
def cutP (xs : List PV) (lo hi : Option Int) : List PV := (xs.drop (HT.sIx xs.length 0 lo)).take (HT.sIx xs.length xs.length hi - HT.sIx xs.length 0 lo)
theorem Reps.cut {ps : List PV} {vs : List V} (r : Reps F μ H ps vs) (lo hi : Option Int) : Reps F μ H (cutP ps lo hi) (cutV vs lo hi) := by
  unfold cutP cutV
  rw [r.length]
  exact (r.drop _).take _
def opSl (x : PV) (lo hi : Option Int) (G : GH) : Res PV := match x with
  | .tup ps => .ok (.tup (cutP ps lo hi)) G
  | .str z => if z.length ≤ sizeLine then .ok (.str (cutS z lo hi)) G else .bad
  | x => match asL x G with
    | some ps => .ok (.lst (cutP ps lo hi)) G
    | none => .bad
theorem opSl_ok (hK : F.K = X.K) : SlR X (RdS F Ex opSl) := by
  intro pins s σ H x v vl vu lo hi sl Q I rx hs pl pu ⟨μ, q, G, r, g, p⟩
  unfold opSl at p
  split at p
  · obtain ⟨a, vs, rfl, z, st, rr⟩ := rep_tup r
    have hl := cutV_length vs lo hi
    refine sl_tupF pins s σ H _ v vl vu lo hi sl Q I rx hs pl pu ⟨a, vs, rfl, by rw [← hK]; exact st.sq, fun hw => ?_, fun _ => p.tup g (rr.cut lo hi) (Nat.le_trans hl z)⟩
    have e : cutV vs lo hi = vs := by
      unfold cutV
      rw [hw.1, hw.2]
      simp
    refine p.here ?_ g
    show Rep F μ H _ _
    simp only [Rep]
    refine ⟨a, vs, rfl, z, st, ?_⟩
    have := rr.cut lo hi
    rw [e] at this
    exact this
  · split at p
    · rename_i hz
      exact sl_str pins s σ H _ v vl vu lo hi sl Q I rx hs pl pu ⟨_, rep_str r, hz, p.here RV.str g⟩
    · exact (show False from p).elim
  · split at p
    · rename_i ps es
      obtain ⟨a, vs, rfl, z, st, rr⟩ := asL_rep es r g
      have hl := cutV_length vs lo hi
      exact sl_list pins s σ H _ v vl vu lo hi sl Q I rx hs pl pu ⟨a, vs, rfl, by rw [← hK]; exact st, p.lst g (rr.cut lo hi) (Nat.le_trans hl z)⟩
    · exact (show False from p).elim
end
end EV
end
section
set_option Elab.async false
set_option linter.all false
set_option maxRecDepth 100000
/-! Ev10: built-ins called by name, methods, isinstance, stores into lists. -/
namespace EV
open PySem PySem.Spec PyProof.Rows L2
section
variable {X : Cx} {F : Fx} {Ex : XK} {μ : Mu} {H : Hp} {G : GH}
def bLen (ps : List PV) (G : GH) : Res PV := match ps with
  | [.str z] => if z.length ≤ sizeLine then .ok (.int z.length) G else .bad
  | [x] => match asS x G with
    | some qs => .ok (.int qs.length) G
    | none => .bad
  | _ => .bad
theorem bLen_ok (hK : F.K = X.K) : CallR X (.builtin "len") (RdV F Ex bLen) := by
  intro pins s σ H xs us Q I rs ⟨μ, ps, G, r, g, p⟩
  unfold bLen at p
  split at p
  · obtain ⟨v, rfl, r1⟩ := Reps.one_inv r
    split at p
    · rename_i hz
      exact call_len_str pins s σ H _ us Q I rs ⟨_, by rw [rep_str r1], hz, p.here RV.int g⟩
    · exact (show False from p).elim
  · obtain ⟨v, rfl, r1⟩ := Reps.one_inv r
    split at p
    · rename_i qs es
      obtain ⟨a, vs, rfl, z, st, rr⟩ := asS_rep es r1 g
      rw [hK] at st
      refine call_len_seq pins s σ H _ us Q I rs ⟨a, vs, rfl, st, ?_⟩
      rw [← rr.length]
      exact p.here RV.int g
    · exact (show False from p).elim
  · exact (show False from p).elim
def bools : List PV → Option (List Bool)
  | [] => some []
  | .bl b :: ps => (bools ps).map (b :: ·)
  | _ :: _ => none
theorem bools_rep : ∀ {ps : List PV} {bs : List Bool} {vs : List V}, bools ps = some bs → Reps F μ H ps vs → vs = bs.map V.bl
  | [], bs, vs, e, r => by simp only [bools, Option.some.injEq] at e; subst e; rw [r.nil_inv]; rfl
  | .bl b :: ps, bs, vs, e, r => by
    simp only [bools, Option.map_eq_some_iff] at e
    obtain ⟨cs, e1, rfl⟩ := e
    obtain ⟨v, ws, rfl, r1, rr⟩ := r.cons_inv
    rw [rep_bl r1, bools_rep e1 rr]
    rfl
  | .non :: _, _, _, e, _ => by simp only [bools] at e; cases e
  | .int _ :: _, _, _, e, _ => by simp only [bools] at e; cases e
  | .str _ :: _, _, _, e, _ => by simp only [bools] at e; cases e
  | .tup _ :: _, _, _, e, _ => by simp only [bools] at e; cases e
  | .lst _ :: _, _, _, e, _ => by simp only [bools] at e; cases e
  | .sls _ :: _, _, _, e, _ => by simp only [bools] at e; cases e
  | .obj _ :: _, _, _, e, _ => by simp only [bools] at e; cases e
def bAll (ps : List PV) (G : GH) : Res PV := match ps with
  | [x] => match (asL x G).bind bools with
    | some bs => .ok (.bl (bs.all id)) G
    | none => .bad
  | _ => .bad
def bAny (ps : List PV) (G : GH) : Res PV := match ps with
  | [x] => match (asL x G).bind bools with
    | some bs => .ok (.bl (bs.any id)) G
    | none => .bad
  | _ => .bad
theorem bAll_ok (hK : F.K = X.K) (hc : X.calm = true) : CallR X (.builtin "all") (RdV F Ex bAll) := by
  intro pins s σ H xs us Q I rs ⟨μ, ps, G, r, g, p⟩
  unfold bAll at p
  split at p
  · obtain ⟨v, rfl, r1⟩ := Reps.one_inv r
    split at p
    · rename_i bs eb
      obtain ⟨qs, es, e2⟩ := Option.bind_eq_some_iff.mp eb
      obtain ⟨a, vs, rfl, z, st, rr⟩ := asL_rep es r1 g
      rw [bools_rep e2 rr, hK] at st
      exact cr_all hc pins s σ H _ us Q I rs ⟨a, bs, rfl, st, p.here RV.bl g⟩
    · exact (show False from p).elim
  · exact (show False from p).elim
theorem bAny_ok (hK : F.K = X.K) (hc : X.calm = true) : CallR X (.builtin "any") (RdV F Ex bAny) := by
  intro pins s σ H xs us Q I rs ⟨μ, ps, G, r, g, p⟩
  unfold bAny at p
  split at p
  · obtain ⟨v, rfl, r1⟩ := Reps.one_inv r
    split at p
    · rename_i bs eb
      obtain ⟨qs, es, e2⟩ := Option.bind_eq_some_iff.mp eb
      obtain ⟨a, vs, rfl, z, st, rr⟩ := asL_rep es r1 g
      rw [bools_rep e2 rr, hK] at st
      exact cr_any hc pins s σ H _ us Q I rs ⟨a, bs, rfl, st, p.here RV.bl g⟩
    · exact (show False from p).elim
  · exact (show False from p).elim
def bMin (ps : List PV) (G : GH) : Res PV := match ps with
  | [.int i, .int j] => .ok (.int (if j < i then j else i)) G
  | _ => .bad
def bMax (ps : List PV) (G : GH) : Res PV := match ps with
  | [.int i, .int j] => .ok (.int (if j > i then j else i)) G
  | _ => .bad
theorem bMin_ok (hc : X.calm = true) : CallR X (.builtin "min") (RdV F Ex bMin) := by
  intro pins s σ H xs us Q I rs ⟨μ, ps, G, r, g, p⟩
  unfold bMin at p
  split at p
  · obtain ⟨v, w, rfl, r1, r2⟩ := Reps.two_inv r
    exact call_min2 hc pins s σ H _ us Q I rs ⟨_, _, by rw [rep_int r1, rep_int r2], p.here RV.int g⟩
  · exact (show False from p).elim
theorem bMax_ok (hc : X.calm = true) : CallR X (.builtin "max") (RdV F Ex bMax) := by
  intro pins s σ H xs us Q I rs ⟨μ, ps, G, r, g, p⟩
  unfold bMax at p
  split at p
  · obtain ⟨v, w, rfl, r1, r2⟩ := Reps.two_inv r
    exact call_max2 hc pins s σ H _ us Q I rs ⟨_, _, by rw [rep_int r1, rep_int r2], p.here RV.int g⟩
  · exact (show False from p).elim
def bTup (ps : List PV) (G : GH) : Res PV := match ps with
  | [x] => match asS x G with
    | some qs => .ok (.tup qs) G
    | none => .bad
  | _ => .bad
theorem bTup_ok (hK : F.K = X.K) : CallR X (.type "tuple") (RdV F Ex bTup) := by
  intro pins s σ H xs us Q I rs ⟨μ, ps, G, r, g, p⟩
  unfold bTup at p
  split at p
  · obtain ⟨v, rfl, r1⟩ := Reps.one_inv r
    split at p
    · rename_i x qs es
      unfold asS at es
      split at es
      · cases es
        obtain ⟨a, vs, rfl, z, st, rr⟩ := rep_tup r1
        exact call_tupleF pins s σ H _ us Q I rs ⟨a, vs, rfl, .inr ⟨by rw [← hK]; exact st.sq, p.here r1 g⟩⟩
      · obtain ⟨a, vs, rfl, z, st, rr⟩ := asL_rep es r1 g
        exact call_tupleF pins s σ H _ us Q I rs ⟨a, vs, rfl, .inl ⟨by rw [← hK]; exact st, p.tup g rr z⟩⟩
    · exact (show False from p).elim
  · exact (show False from p).elim
def bLst (ob : Bool) (ps : List PV) (G : GH) : Res PV := match ps with
  | [x] => match asS x G with
    | some qs => if ob = true then .ok (.obj G.length) (G ++ [.lst qs]) else .ok (.lst qs) G
    | none => .bad
  | _ => .bad
/-- a new list at p, as a value or as an object of ours -/
theorem Post.newL {ob : Bool} {ps : List PV} {vs : List V} {Q : VK} (h : Post F (RV F) Ex μ H (if ob = true then .ok (.obj G.length) (G ++ [.lst ps]) else .ok (.lst ps) G) Q) (g : HRep F μ H G) (r : Reps F μ H ps vs) (z : vs.length ≤ sizeLine) :
    ∀ p, H p = none → Q (.ref p) (upd H p (.lst vs)) := by
  cases ob with
  | false => exact Post.lst h g r z
  | true =>
    intro p n
    refine (show Post F (RV F) Ex μ H (.ok (.obj G.length) (G ++ [.lst ps])) Q from h).ok (Ext.push g n) ?_ (g.push n ⟨vs, upd_same, z, r.mono (Ext.push g n)⟩)
    show Rep F _ _ _ _
    simp only [Rep]
    exact ⟨p, rfl, by rw [← g.len]; simp⟩
theorem bLst_ok {ob : Bool} (hK : F.K = X.K) : CallR X (.type "list") (RdV F Ex (bLst ob)) := by
  intro pins s σ H xs us Q I rs ⟨μ, ps, G, r, g, p⟩
  unfold bLst at p
  split at p
  · obtain ⟨v, rfl, r1⟩ := Reps.one_inv r
    split at p
    · rename_i x qs es
      obtain ⟨a, vs, rfl, z, st, rr⟩ := asS_rep es r1 g
      rw [hK] at st
      exact call_list_of pins s σ H _ us Q I rs ⟨a, vs, rfl, st, Post.newL p g rr z⟩
    · exact (show False from p).elim
  · exact (show False from p).elim
def bInt (ps : List PV) (G : GH) : Res PV := match ps with
  | [.int i] => .ok (.int i) G
  | [.bl k] => .ok (.int (if k = true then 1 else 0)) G
  | _ => .bad
theorem bInt_ok : CallR X (.type "int") (RdV F Ex bInt) := by
  intro pins s σ H xs us Q I rs ⟨μ, ps, G, r, g, p⟩
  unfold bInt at p
  split at p
  · obtain ⟨v, rfl, r1⟩ := Reps.one_inv r
    exact call_int1 pins s σ H _ us Q I rs (.inl ⟨_, by rw [rep_int r1], p.here RV.int g⟩)
  · obtain ⟨v, rfl, r1⟩ := Reps.one_inv r
    exact call_int1 pins s σ H _ us Q I rs (.inr ⟨_, by rw [rep_bl r1], p.here RV.int g⟩)
  · exact (show False from p).elim
def bStr (ps : List PV) (G : GH) : Res PV := match ps with
  | [.int i] => if i.natAbs.log2 < 1920 then .ok (.str (toString i)) G else .bad
  | _ => .bad
theorem bStr_ok : CallR X (.type "str") (RdV F Ex bStr) := by
  intro pins s σ H xs us Q I rs ⟨μ, ps, G, r, g, p⟩
  unfold bStr at p
  split at p
  · obtain ⟨v, rfl, r1⟩ := Reps.one_inv r
    split at p
    · rename_i hz
      exact call_str_int pins s σ H _ us Q I rs ⟨_, by rw [rep_int r1], hz, p.here RV.str g⟩
    · exact (show False from p).elim
  · exact (show False from p).elim

/-! ### repr -/
def reprOk (d : PyData) : Bool := d.showable && !d.hasDict && decide (d.depth ≤ 150) && decide (d.shown.length ≤ sizeLine)
def bRepr (ps : List PV) (G : GH) : Res PV := match ps with
  | [x] => match toDG G x with
    | some d => if reprOk d = true then .ok (.str d.shown) G else .bad
    | none => .bad
  | _ => .bad
theorem bRepr_ok {k : Nat} (hK : F.K = X.K) (hr : Room k X.A) (hg : X.A.guards = some []) : CallR X (.builtin "repr") (RdV F Ex bRepr) := by
  intro pins s σ H xs us Q I rs ⟨μ, ps, G, r, g, p⟩
  unfold bRepr at p
  split at p
  · obtain ⟨v, rfl, r1⟩ := Reps.one_inv r
    obtain ⟨u, rfl, ru⟩ := vals1 rs
    split at p
    · rename_i d ed
      split at p
      · rename_i ho
        unfold reprOk at ho
        simp only [Bool.and_eq_true, Bool.not_eq_true', decide_eq_true_eq] at ho
        obtain ⟨⟨⟨h1, h2⟩, h3⟩, h4⟩ := ho
        have dp := toDG_dp ed r1 g
        rw [hK] at dp
        obtain ⟨as, rd⟩ := Dp.reads I d v u dp ru
        have hd : d.hasDict = true → sysModules ∉ as := fun e => by rw [h2] at e; cases e
        have hun := hr.un
        have fin : ∀ (h' : Heap) (t : Tok) (tk : Nat), (∀ b o, s.heap.get? b = some o → h'.get? b = some o) → EP X pins σ Q (.str d.shown t) { s with heap := h', toks := tk } := fun h' t tk hk =>
          ⟨.str d.shown, H, I.kept hk, ⟨_, rfl⟩, p.here RV.str g⟩
        cases rd with
        | none => exact PySem.P.repr_of_none (fin s.heap _ _ fun _ _ e => e)
        | bool b =>
          refine PySem.P.repr_of_bool ?_
          cases b
          · exact fin s.heap _ _ fun _ _ e => e
          · exact fin s.heap _ _ fun _ _ e => e
        | int i t => exact PySem.P.repr_of_int (of_decide_eq_true h1) (fin s.heap _ _ fun _ _ e => e)
        | str x t => exact PySem.P.repr_of_str (fin s.heap _ _ fun _ _ e => e) h4
        | list a1 a2 a3 a4 => exact repr_of_reads' (.list a1 a2 a3 a4) h1 hd hg (by omega) (fun _ _ e => e) (fun h' t tk hk => fin h' t tk hk) h4
        | tuple a1 a2 a3 a4 => exact repr_of_reads' (.tuple a1 a2 a3 a4) h1 hd hg (by omega) (fun _ _ e => e) (fun h' t tk hk => fin h' t tk hk) h4
        | dict a1 a2 a3 a4 a5 => exact absurd h2 (by simp [PyData.hasDict])
      · exact (show False from p).elim
    · exact (show False from p).elim
  · exact (show False from p).elim
end
end EV
end
section
set_option Elab.async false
set_option linter.all false
set_option maxRecDepth 100000
/-! Ev11: isinstance, methods, stores into lists, own defs as the evaluator has them. -/
namespace EV
open PySem PySem.Spec PyProof.Rows L2
section
variable {X : Cx} {F : Fx} {Ex : XK} {μ : Mu} {H : Hp} {G : GH}
/-! ### isinstance(x, T) -/
def tyP (G : GH) : PV → Option String
  | .non => some "NoneType"
  | .bl _ => some "bool"
  | .int _ => some "int"
  | .str _ => some "str"
  | .tup _ => some "tuple"
  | .lst _ => some "list"
  | .sls _ => some "list"
  | .obj n => match G[n]? with
    | some (.lst _) => some "list"
    | some (.dic _) => some "dict"
    | _ => none
theorem tyP_rep {p : PV} {v : V} {T : String} (e : tyP G p = some T) (r : Rep F μ H p v) (g : HRep F μ H G) : TyX F.K H v (.type T) := by
  cases p with
  | non => simp only [tyP, Option.some.injEq] at e; subst e; rw [rep_non r]; exact .base .non
  | bl b => simp only [tyP, Option.some.injEq] at e; subst e; rw [rep_bl r]; exact .base (.bl b)
  | int b => simp only [tyP, Option.some.injEq] at e; subst e; rw [rep_int r]; exact .base (.int b)
  | str b => simp only [tyP, Option.some.injEq] at e; subst e; rw [rep_str r]; exact .base (.str b)
  | tup ps =>
    simp only [tyP, Option.some.injEq] at e; subst e
    obtain ⟨a, vs, rfl, z, st, rr⟩ := rep_tup r
    rcases st with ⟨_, o, h, _⟩ | ⟨o, its, n, h1, h2, _⟩
    · exact .fTuple h
    · exact .kTuple h1 h2
  | lst ps =>
    simp only [tyP, Option.some.injEq] at e; subst e
    obtain ⟨a, vs, rfl, z, st, rr⟩ := rep_lst r
    exact .base (.lst st.2)
  | sls ps =>
    simp only [tyP, Option.some.injEq] at e; subst e
    obtain ⟨a, vs, rfl, z, st, rr⟩ := rep_sls r
    rcases st with ⟨_, h | ⟨o, h⟩⟩ | ⟨o, its, n, h1, h2, _⟩
    · exact .base (.lst h)
    · exact .base (.frz h)
    · exact .kList h1 h2
  | obj n =>
    obtain ⟨a, rfl, ha⟩ := rep_obj r
    simp only [tyP] at e
    split at e
    · rename_i ps eo
      cases e
      obtain ⟨vs, q, _⟩ := g.obj n a _ ha eo
      exact .base (.lst q)
    · rename_i ps eo
      cases e
      obtain ⟨vs, q, _⟩ := g.obj n a _ ha eo
      exact .base (.dK q)
    · cases e
def bIsi (T : String) (ps : List PV) (G : GH) : Res PV := match ps with
  | [x] => match (tyP G x).bind fun t => kitB t T with
    | some b => .ok (.bl b) G
    | none => .bad
  | _ => .bad
theorem ev_isi {e : Expr} {x y : Str} {T : String} {p p2 pos : Pos} {m : Env → GH → Res PV} (hK : F.K = X.K) (he : PE X e (TEv F Ex m)) (hg : Gl X x) (hm : X.mg x = none) (hv : bootBuiltins x = some (.builtin "isinstance")) (hn : x ≠ "__name__") (hdb : (x == ("__debug__" : Str)) = false)
    (hg2 : Gl X y) (hm2 : X.mg y = none) (hv2 : bootBuiltins y = some (.type T)) (hn2 : y ≠ "__name__") (hdb2 : (y == ("__debug__" : Str)) = false) (h1 : plainE e = true) : PE X (.Call (.Name x p) [e, .Name y p2] [] pos) (TEv F Ex (m1 m (bIsi T))) :=
  (pe_callB call_isi hg hm hv (pa_cons he (pa_cons (pe_bltn (v := .ty T) hg2 hm2 hv2 rfl hn2 hdb2) pa_nil rfl) (star_plain h1)) hn hdb (star_plain h1) rfl).weak fun σ H Q ⟨μ, ρ, G, s, g, q⟩ => by
    refine TEv.run s g q fun μ1 a G1 v H1 e1 r1 g1 s1 p1 => ?_
    unfold bIsi at p1
    simp only at p1
    split at p1
    · rename_i b eb
      obtain ⟨t, et, ek⟩ := Option.bind_eq_some_iff.mp eb
      have ty := tyP_rep et r1 g1
      rw [hK] at ty
      exact ⟨v, .ty T, .type t, .type T, b, rfl, .ty T, ty, kit_ty ek, p1.here RV.bl g1⟩
    · exact (show False from p1).elim

/-! ### methods -/
/-- the built-in type of a value, for its methods -/
def mMet (T : String) (mo : Env → GH → Res PV) (ms : Env → GH → Res (List PV)) (f : PV → List PV → GH → Res PV) : Env → GH → Res PV := fun ρ G => (mo ρ G).bind fun o G1 => if tyP G1 o = some T then (ms ρ G1).bind fun xs G2 => f o xs G2 else .bad
def RdM (F : Fx) (Ex : XK) (f : PV → List PV → GH → Res PV) : V → List V → Hp → VK → Prop := fun x vs H Q => ∃ μ p ps G, Rep F μ H p x ∧ Reps F μ H ps vs ∧ HRep F μ H G ∧ Post F (RV F) Ex μ H (f p ps G) Q
def mTy (T : String) : Bool := T == "str" || T == "list" || T == "dict"
theorem tyV_of {T : String} {K : PySem.W.Frag} {p : PV} {v : V} (hK : F.K = K) (e : tyP G p = some T) (hT : mTy T = true) (r : Rep F μ H p v) (g : HRep F μ H G) : tyV K T v H := by
  subst hK
  cases p with
  | non => simp only [tyP, Option.some.injEq] at e; subst e; cases hT
  | bl b => simp only [tyP, Option.some.injEq] at e; subst e; cases hT
  | int b => simp only [tyP, Option.some.injEq] at e; subst e; cases hT
  | str b => simp only [tyP, Option.some.injEq] at e; subst e; rw [rep_str r]; rfl
  | tup ps => simp only [tyP, Option.some.injEq] at e; subst e; cases hT
  | lst ps =>
    simp only [tyP, Option.some.injEq] at e; subst e
    obtain ⟨a, vs, rfl, z, st, rr⟩ := rep_lst r
    exact .inl ⟨rfl, vs, SqL.of st.2⟩
  | sls ps =>
    simp only [tyP, Option.some.injEq] at e; subst e
    obtain ⟨a, vs, rfl, z, st, rr⟩ := rep_sls r
    exact .inl ⟨rfl, vs, st.sq⟩
  | obj n =>
    obtain ⟨a, rfl, ha⟩ := rep_obj r
    simp only [tyP] at e
    split at e
    · rename_i ps eo
      cases e
      obtain ⟨vs, q, _⟩ := g.obj n a _ ha eo
      exact .inl ⟨rfl, vs, SqL.of q⟩
    · rename_i ps eo
      cases e
      obtain ⟨vs, q, _⟩ := g.obj n a _ ha eo
      exact .inr (.inr (.inl ⟨rfl, .inl ⟨vs, q⟩⟩))
    · cases e
theorem ev_met {o e : Expr} {es : List Expr} {name : Str} {apos cpos : Pos} {T id : String} {mo : Env → GH → Res PV} {ms : Env → GH → Res (List PV)} {f : PV → List PV → GH → Res PV} (hK : F.K = X.K) (hT : mTy T = true)
    (pa : PlainAttrs T) (slot : Slot T name id) (hty : typeOf (.builtin id) = pure (.type "method_descriptor")) (hm : MtR X id (RdM F Ex f)) (ho : PE X o (TEv F Ex mo)) (ha : PA X (e :: es) (TAv F Ex ms))
    (h1 : plainE e = true) (h2 : es.all plainE = true) (hbase : attributeBase o name X.env (eval o X.env) = eval o X.env)
    (hfew : ((backTo cpos (starEach (e :: es) X.env)).all (fun x => !x.1) && (backToKw cpos (keywordEach [] X.env)).all (fun x => x.1.isSome)
      && decide ((e :: es).length + ([] : List Keyword).length + (if ([] : List Keyword).isEmpty then 0 else 1) < 30)) = true)
    (hline : (apos.endLine == cpos.line) = true) : PE X (.Call (.Attribute o name apos) (e :: es) [] cpos) (TEv F Ex (mMet T mo ms f)) :=
  (pe_bm pa slot hty hm ho ha hbase hfew hline (star_plain h1) (any_star (e := e) h2)).weak fun σ H Q ⟨μ, ρ, G, s, g, p⟩ => by
    refine TEv.run s g p fun μ1 a G1 v H1 e1 r1 g1 s1 p1 => ?_
    split at p1
    · rename_i ht
      refine ⟨tyV_of hK ht hT r1 g1, TAv.run s1 g1 p1 fun μ2 b G2 w H2 e2 r2 g2 s2 p2 => ⟨μ2, a, b, G2, r1.mono e2, r2, g2, p2⟩⟩
    · exact (show False from p1).elim
def fAppend (o : PV) (xs : List PV) (G : GH) : Res PV := match o, xs with
  | .obj n, [y] => match G[n]? with
    | some (.lst ps) => if ps.length < sizeLine then .ok .non (G.set n (.lst (ps ++ [y]))) else .bad
    | _ => .bad
  | _, _ => .bad
/-- a list of ours is written -/
theorem Post.wrL {n : Nat} {p : PV} {ps : List PV} {vs : List V} {a : Addr} {v : V} {Q : VK} (h : Post F (RV F) Ex μ H (.ok p (G.set n (.lst ps))) Q) (g : HRep F μ H G) (ha : μ.ob[n]? = some a) (r : Reps F μ H ps vs) (z : vs.length ≤ sizeLine) (rp : Rep F μ H p v) : Q v (upd H a (.lst vs)) := by
  have m := List.mem_of_getElem? ha
  have e : Ext μ μ H (upd H a (.lst vs)) := Ext.write m
  exact h.ok e (show Rep F μ _ p v from rp.mono e) (g.write ha ⟨vs, upd_same, z, r.mono e⟩)
theorem fAppend_ok : MtR X "list.append" (RdM F Ex fAppend) := by
  intro pins s σ H x xs v us Q I rx rs ⟨μ, o, ps, G, r, rr, g, p⟩
  unfold fAppend at p
  split at p
  · obtain ⟨a, rfl, ha⟩ := rep_obj r
    obtain ⟨w, rfl, r1⟩ := Reps.one_inv rr
    split at p
    · rename_i qs eo
      split at p
      · rename_i hz
        obtain ⟨vs, q, z, r2⟩ := g.obj _ a _ ha eo
        have l := r2.length
        exact mt_append pins s σ H _ _ v us Q I rx rs ⟨a, vs, w, rfl, rfl, q, by omega, p.wrL g ha (r2.append (.one r1)) (by simp; omega) (by simp only [Rep])⟩
      · exact (show False from p).elim
    · exact (show False from p).elim
  · exact (show False from p).elim
def fPopAt (o : PV) (xs : List PV) (G : GH) : Res PV := match o, xs with
  | .obj n, [.int i] => match G[n]? with
    | some (.lst ps) => if -(2 ^ 63) ≤ i ∧ i < 2 ^ 63 then (match seqIndex? i ps.length with
      | some k => match ps[k]? with
        | some y => .ok y (G.set n (.lst (ps.eraseIdx k)))
        | none => .bad
      | none => .bad) else .bad
    | _ => .bad
  | _, _ => .bad
theorem fPopAt_ok : MtR X "list.pop" (RdM F Ex fPopAt) := by
  intro pins s σ H x xs v us Q I rx rs ⟨μ, o, ps, G, r, rr, g, p⟩
  unfold fPopAt at p
  split at p
  · obtain ⟨a, rfl, ha⟩ := rep_obj r
    obtain ⟨w, rfl, r1⟩ := Reps.one_inv rr
    split at p
    · rename_i qs eo
      split at p
      · rename_i hz
        split at p
        · rename_i k ek
          split at p
          · rename_i y ey
            obtain ⟨vs, q, z, r2⟩ := g.obj _ a _ ha eo
            have l := r2.length
            obtain ⟨u, h1, h2⟩ := r2.get ey
            have le := len_erase vs k
            exact mt_popAt pins s σ H _ _ v us Q I rx rs ⟨a, vs, _, k, u, rfl, by rw [rep_int r1], q, hz.1, hz.2, by rw [← l]; exact ek, h1, p.wrL g ha (r2.erase k) (by omega) h2⟩
          · exact (show False from p).elim
        · exact (show False from p).elim
      · exact (show False from p).elim
    · exact (show False from p).elim
  · exact (show False from p).elim
/-- what a new or changing list holds, tracked as a list -/
def asX (p : PV) (G : GH) : Option (List PV) := match p with
  | .lst ps => some ps
  | .obj n => match G[n]? with
    | some (.lst ps) => some ps
    | _ => none
  | _ => none
theorem asX_rep {p : PV} {ps : List PV} {v : V} (e : asX p G = some ps) (r : Rep F μ H p v) (g : HRep F μ H G) : ∃ a vs, v = .ref a ∧ vs.length ≤ sizeLine ∧ H a = some (.lst vs) ∧ Reps F μ H ps vs := by
  unfold asX at e
  split at e
  · cases e
    obtain ⟨a, vs, e1, z, st, rr⟩ := rep_lst r
    exact ⟨a, vs, e1, z, st.2, rr⟩
  · obtain ⟨a, e1, ha⟩ := rep_obj r
    split at e
    · rename_i qs eo
      cases e
      obtain ⟨vs, q, z, rr⟩ := g.obj _ a _ ha eo
      exact ⟨a, vs, e1, z, q, rr⟩
    · cases e
  · cases e
def fExtend (o : PV) (xs : List PV) (G : GH) : Res PV := match o, xs with
  | .obj n, [y] => match G[n]?, asX y G with
    | some (.lst ps), some qs => if ps.length + qs.length ≤ sizeLine then .ok .non (G.set n (.lst (ps ++ qs))) else .bad
    | _, _ => .bad
  | _, _ => .bad
theorem fExtend_ok : MtR X "list.extend" (RdM F Ex fExtend) := by
  intro pins s σ H x xs v us Q I rx rs ⟨μ, o, ps, G, r, rr, g, p⟩
  unfold fExtend at p
  split at p
  · obtain ⟨a, rfl, ha⟩ := rep_obj r
    obtain ⟨w, rfl, r1⟩ := Reps.one_inv rr
    split at p
    · rename_i qs zs eo ez
      split at p
      · rename_i hz
        obtain ⟨vs, q, z, r2⟩ := g.obj _ a _ ha eo
        obtain ⟨b, ws, rfl, z2, q2, r3⟩ := asX_rep ez r1 g
        have l := r2.length
        have l2 := r3.length
        exact mt_extend pins s σ H _ _ v us Q I rx rs ⟨a, b, vs, ws, rfl, rfl, q, q2, by omega, p.wrL g ha (r2.append r3) (by simp; omega) (by simp only [Rep])⟩
      · exact (show False from p).elim
    · exact (show False from p).elim
  · exact (show False from p).elim

/-! ### xs[i] = e -/
def fSetL (ps : List PV) (G : GH) : Res Unit := match ps with
  | [.obj n, .int k, v] => match G[n]? with
    | some (.lst qs) => match ixN qs.length k with
      | some j => .ok () (G.set n (.lst (qs.set j v)))
      | none => .bad
    | _ => .bad
  | _ => .bad
theorem fSetL_ok : PSet X (RdSet F Ex fSetL) := by
  intro pins s σ H o i v ov iv u Q I ro ri rv ⟨μ, ps, G, r, g, p⟩
  unfold fSetL at p
  split at p
  · obtain ⟨x1, t1, e1, r1, rr⟩ := r.cons_inv
    obtain ⟨x2, t2, e2, r2, rr⟩ := rr.cons_inv
    obtain ⟨x3, e3, r3⟩ := rr.one_inv
    subst e3
    subst e2
    cases e1
    obtain ⟨a, rfl, ha⟩ := rep_obj r1
    split at p
    · rename_i qs eo
      split at p
      · rename_i j ej
        obtain ⟨vs, q, z, r4⟩ := g.obj _ a _ ha eo
        have m := List.mem_of_getElem? ha
        refine set_list pins s σ H _ _ _ ov iv u Q I ro ri rv ⟨a, vs, _, j, rfl, rep_int r2, q, by rw [← r4.length]; exact ej, ?_⟩
        have e : Ext μ μ H (upd H a (.lst (vs.set j v))) := Ext.write m
        exact p.ok (b := ()) e trivial (g.write ha ⟨_, upd_same, by rw [List.length_set]; exact z, (Reps.set r3 j r4).mono e⟩)
      · exact (show False from p).elim
    · exact (show False from p).elim
  · exact (show False from p).elim
end

/-! ### own defs -/
structure Callee (X : Cx) (F : Fx) (n : Nat) (x : Str) (np : Nat) (m : List PV → GH → Res PV) : Prop where
  ex : ∃ (f : Addr) (fd : FuncData) (ps : List Str), FnG X.prog X.w X.K X.mg X.base n f fd ps (SpV F np m) ∧ X.mg x = some (.ref f) ∧ PySem.W.keepIn X.K (.ref f) = true ∧ Binds X.K fd ps []
/-- what a body's (or a block's) context is known to be -/
structure GX (X : Cx) (F : Fx) (Ex : XK) (n : Nat) : Prop where
  K : F.K = X.K
  calm : X.calm = true
  nd : X.N.Nodup
  room : Room n X.A
  gd : X.A.guards = some []
  pas : Passes (L2.CX X.prog X.w) X Ex
theorem GX.blk {X : Cx} {F : Fx} {Ex : XK} {n : Nat} (g : GX X F Ex n) (s : Shared) (H : Hp) (scope : Scope) (cenv : PySem.Env) (fp : List Addr) : GX (X.blk s H scope cenv fp) F E0 n := ⟨g.K, g.calm, g.nd, g.room, g.gd, passL⟩
theorem GX.un {X : Cx} {F : Fx} {Ex : XK} {n : Nat} (g : GX X F Ex n) : X.A.units + 64 < cLine := g.room.units
theorem ev_own {X : Cx} {F : Fx} {Ex : XK} {n np : Nat} {x : Str} {m : List PV → GH → Res PV} {ms : Env → GH → Res (List PV)} {e : Expr} {es : List Expr} {p pos : Pos} (g : GX X F Ex n) (c : Callee X F n x np m) (hg : Gl X x) (ha : PA X (e :: es) (TAv F Ex ms))
    (hdb : (x == ("__debug__" : Str)) = false) (h1 : plainE e = true) (h2 : es.all plainE = true) (hn : ∀ qs G, qs.length ≠ np → m qs G = .bad) : PE X (.Call (.Name x p) (e :: es) [] pos) (TEv F Ex (mA ms m)) := by
  obtain ⟨f, fd, ps, h3, h4, h5, h6⟩ := c.ex
  exact ev_call h3 g.room g.gd hg h4 h5 h6 g.pas ha hdb h1 h2 hn

/-! ### what a call leaves behind: new objects that nobody can reach are forgotten -/
mutual
def PV.refsB (n : Nat) : PV → Bool
  | .obj k => decide (k < n)
  | .tup ps => PV.refsBs n ps
  | .lst ps => PV.refsBs n ps
  | .sls ps => PV.refsBs n ps
  | _ => true
def PV.refsBs (n : Nat) : List PV → Bool
  | [] => true
  | p :: ps => PV.refsB n p && PV.refsBs n ps
end
def GO.refsB (n : Nat) : GO → Bool
  | .lst ps => PV.refsBs n ps
  | .dic kps => kps.all fun q => PV.refsB n q.2
  | .ins _ fs => fs.all fun q => PV.refsB n q.2
theorem Chg.take {F : Fx} {μ : Mu} {H : Hp} (n : Nat) : (∀ a xs, StL F μ H a xs → StL F ⟨μ.ob.take n, μ.rs⟩ H a xs) ∧ (∀ a xs, StX μ H a xs → StX ⟨μ.ob.take n, μ.rs⟩ H a xs) ∧ (∀ a xs, StT F μ H a xs → StT F ⟨μ.ob.take n, μ.rs⟩ H a xs) := by
  have aux : ∀ {a : Addr}, μ.free a → (⟨μ.ob.take n, μ.rs⟩ : Mu).free a := fun {a} f => ⟨fun m => f.1 (List.mem_of_mem_take m), f.2⟩
  exact ⟨fun a xs h => h.imp (fun q => ⟨aux q.1, q.2⟩) id, fun a xs h => ⟨aux h.1, h.2⟩, fun a xs h => h.imp (fun q => ⟨aux q.1, q.2⟩) id⟩
mutual
theorem Rep.take {F : Fx} {μ : Mu} {H : Hp} (n : Nat) : ∀ {p : PV} {v : V}, PV.refsB n p = true → Rep F μ H p v → Rep F ⟨μ.ob.take n, μ.rs⟩ H p v
  | .non, _, _, h => by simpa only [Rep] using h
  | .bl b, _, _, h => by simpa only [Rep] using h
  | .int i, _, _, h => by simpa only [Rep] using h
  | .str x, _, _, h => by simpa only [Rep] using h
  | .tup ps, v, e, h => by
    simp only [Rep] at h ⊢
    simp only [PV.refsB] at e
    obtain ⟨a, vs, e1, z, s, r⟩ := h
    exact ⟨a, vs, e1, z, (Chg.take n).2.2 _ _ s, Reps.take' n e r⟩
  | .lst ps, v, e, h => by
    simp only [Rep] at h ⊢
    simp only [PV.refsB] at e
    obtain ⟨a, vs, e1, z, s, r⟩ := h
    exact ⟨a, vs, e1, z, (Chg.take (F := F) n).2.1 _ _ s, Reps.take' n e r⟩
  | .sls ps, v, e, h => by
    simp only [Rep] at h ⊢
    simp only [PV.refsB] at e
    obtain ⟨a, vs, e1, z, s, r⟩ := h
    exact ⟨a, vs, e1, z, (Chg.take n).1 _ _ s, Reps.take' n e r⟩
  | .obj k, v, e, h => by
    simp only [Rep] at h ⊢
    simp only [PV.refsB, decide_eq_true_eq] at e
    obtain ⟨a, e1, g⟩ := h
    exact ⟨a, e1, by show (μ.ob.take n)[k]? = some a; rw [List.getElem?_take_of_lt e]; exact g⟩
theorem Reps.take' {F : Fx} {μ : Mu} {H : Hp} (n : Nat) : ∀ {ps : List PV} {vs : List V}, PV.refsBs n ps = true → Reps F μ H ps vs → Reps F ⟨μ.ob.take n, μ.rs⟩ H ps vs
  | [], _, _, h => by simpa only [Reps] using h
  | p :: ps, vs, e, h => by
    simp only [Reps] at h ⊢
    simp only [PV.refsBs, Bool.and_eq_true] at e
    obtain ⟨v, r, e1, h1, h2⟩ := h
    exact ⟨v, r, e1, Rep.take n e.1 h1, Reps.take' n e.2 h2⟩
end
end EV
end
section
set_option Elab.async false
set_option linter.all false
set_option maxRecDepth 100000
/-! Ev12: what a def leaves behind; a def, by its body. -/
namespace EV
open PySem PySem.Spec PyProof.Rows L2
section
variable {X : Cx} {F : Fx} {Ex : XK} {μ : Mu} {H : Hp} {G : GH}
mutual
theorem Rep.refs : ∀ {p : PV} {v : V}, Rep F μ H p v → PV.refsB μ.ob.length p = true
  | .non, _, h => by simp only [PV.refsB]
  | .bl b, _, h => by simp only [PV.refsB]
  | .int i, _, h => by simp only [PV.refsB]
  | .str x, _, h => by simp only [PV.refsB]
  | .tup ps, v, h => by
    simp only [Rep] at h
    simp only [PV.refsB]
    obtain ⟨a, vs, e1, z, s, r⟩ := h
    exact Reps.refs r
  | .lst ps, v, h => by
    simp only [Rep] at h
    simp only [PV.refsB]
    obtain ⟨a, vs, e1, z, s, r⟩ := h
    exact Reps.refs r
  | .sls ps, v, h => by
    simp only [Rep] at h
    simp only [PV.refsB]
    obtain ⟨a, vs, e1, z, s, r⟩ := h
    exact Reps.refs r
  | .obj k, v, h => by
    simp only [Rep] at h
    simp only [PV.refsB, decide_eq_true_eq]
    obtain ⟨a, e1, g⟩ := h
    exact (List.getElem?_eq_some_iff.mp g).1
theorem Reps.refs : ∀ {ps : List PV} {vs : List V}, Reps F μ H ps vs → PV.refsBs μ.ob.length ps = true
  | [], _, h => by simp only [PV.refsBs]
  | p :: ps, vs, h => by
    simp only [Reps] at h
    simp only [PV.refsBs, Bool.and_eq_true]
    obtain ⟨v, r, e1, h1, h2⟩ := h
    exact ⟨Rep.refs h1, Reps.refs h2⟩
end
theorem paired_in {α β : Type} {R : α → β → Prop} {l : List α} {m : List β} (h : Paired R l m) {x : α} (hx : x ∈ l) : ∃ y, R x y := by
  induction h with
  | nil => cases hx
  | cons h1 _ ih =>
    rcases List.mem_cons.mp hx with e | e
    · exact ⟨_, e ▸ h1⟩
    · exact ih e
theorem paired_map {α β : Type} {R S : α → β → Prop} {l : List α} {m : List β} (h : Paired R l m) (w : ∀ a ∈ l, ∀ b, R a b → S a b) : Paired S l m := by
  induction h with
  | nil => exact .nil
  | cons h1 _ ih => exact .cons (w _ List.mem_cons_self _ h1) (ih fun a ha => w a (List.mem_cons_of_mem _ ha))
theorem RepO.refs {a : Addr} {o : GO} (h : RepO F μ H a o) : GO.refsB μ.ob.length o = true := by
  cases o with
  | lst ps => obtain ⟨vs, q, z, r⟩ := h; exact r.refs
  | dic ps =>
    obtain ⟨vs, q, z, r⟩ := h
    refine List.all_eq_true.mpr fun x hx => ?_
    obtain ⟨y, hy⟩ := paired_in r hx
    exact hy.2.refs
  | ins c fs =>
    obtain ⟨dx, vs, q, d, n, r⟩ := h
    refine List.all_eq_true.mpr fun x hx => ?_
    obtain ⟨y, hy⟩ := paired_in r hx
    exact hy.2.refs
theorem RepO.take' (n : Nat) {a : Addr} {o : GO} (e : GO.refsB n o = true) (h : RepO F μ H a o) : RepO F ⟨μ.ob.take n, μ.rs⟩ H a o := by
  cases o with
  | lst ps => obtain ⟨vs, q, z, r⟩ := h; exact ⟨vs, q, z, r.take' n e⟩
  | dic ps =>
    obtain ⟨vs, q, z, r⟩ := h
    exact ⟨vs, q, z, paired_map r fun x hx y hy => ⟨hy.1, hy.2.take n (List.all_eq_true.mp e x hx)⟩⟩
  | ins c fs =>
    obtain ⟨dx, vs, q, d, f, r⟩ := h
    exact ⟨dx, vs, q, d, ⟨fun m => f.1 (List.mem_of_mem_take m), f.2⟩, paired_map r fun x hx y hy => ⟨hy.1, hy.2.take n (List.all_eq_true.mp e x hx)⟩⟩
/-! ### the same objects -/
def sameK : List (Key × PV) → List (Key × PV) → Bool
  | [], [] => true
  | a :: as, b :: bs => decide (a.1 = b.1) && (PV.same a.2 b.2 && sameK as bs)
  | _, _ => false
theorem sameK_eq : ∀ {a b : List (Key × PV)}, sameK a b = true → a = b
  | [], b, h => by cases b <;> simp [sameK] at h; rfl
  | a :: as, [], h => by simp [sameK] at h
  | (a, p) :: as, (b, q) :: bs, h => by
    simp only [sameK, Bool.and_eq_true, decide_eq_true_eq] at h
    rw [show a = b from h.1, PV.same_eq h.2.1, sameK_eq h.2.2]
theorem sameK_self : ∀ a : List (Key × PV), sameK a a = true
  | [] => rfl
  | a :: as => by unfold sameK; rw [decide_eq_true rfl, PV.same_self, sameK_self as]; rfl
def sameF : List (Str × PV) → List (Str × PV) → Bool
  | [], [] => true
  | a :: as, b :: bs => decide (a.1 = b.1) && (PV.same a.2 b.2 && sameF as bs)
  | _, _ => false
theorem sameF_eq : ∀ {a b : List (Str × PV)}, sameF a b = true → a = b
  | [], b, h => by cases b <;> simp [sameF] at h; rfl
  | a :: as, [], h => by simp [sameF] at h
  | (a, p) :: as, (b, q) :: bs, h => by
    simp only [sameF, Bool.and_eq_true, decide_eq_true_eq] at h
    rw [show a = b from h.1, PV.same_eq h.2.1, sameF_eq h.2.2]
theorem sameF_self : ∀ a : List (Str × PV), sameF a a = true
  | [] => rfl
  | a :: as => by unfold sameF; rw [decide_eq_true rfl, PV.same_self, sameF_self as]; rfl
def GO.same : GO → GO → Bool
  | .lst a, .lst b => PV.sames a b
  | .dic a, .dic b => sameK a b
  | .ins c a, .ins d b => c == d && sameF a b
  | _, _ => false
theorem GO.same_eq {a b : GO} (h : GO.same a b = true) : a = b := by
  cases a <;> cases b <;> first
    | (cases h; done)
    | (rw [PV.sames_eq (show PV.sames _ _ = true from h)]; done)
    | (rw [sameK_eq (show sameK _ _ = true from h)]; done)
    | skip
  rename_i c x d y
  have h' : (c == d && sameF x y) = true := h
  simp only [Bool.and_eq_true, beq_iff_eq] at h'
  rw [h'.1, sameF_eq h'.2]
theorem GO.same_self (a : GO) : GO.same a a = true := by
  cases a with
  | lst a => exact PV.sames_self a
  | dic a => exact sameK_self a
  | ins c a => show (c == c && sameF a a) = true; rw [sameF_self]; simp
/-- the object is as it was, or names old ones alone -/
def okB (n : Nat) : GH → GH → Bool
  | _, [] => true
  | [], o :: G1 => GO.refsB n o && okB n [] G1
  | p :: G0, o :: G1 => (GO.same o p || GO.refsB n o) && okB n G0 G1
theorem okB_at {n : Nat} : ∀ {G0 G1 : GH} {i : Nat} {o : GO}, okB n G0 G1 = true → G1[i]? = some o → G0[i]? = some o ∨ GO.refsB n o = true
  | _, [], _, _, _, h => by simp at h
  | [], u :: G1, 0, o, e, h => by
    simp only [okB, Bool.and_eq_true] at e
    simp at h; subst h; exact .inr e.1
  | [], u :: G1, i + 1, o, e, h => by
    simp only [okB, Bool.and_eq_true] at e
    rcases okB_at e.2 (by simpa using h) with q | q
    · simp at q
    · exact .inr q
  | p :: G0, u :: G1, 0, o, e, h => by
    simp only [okB, Bool.and_eq_true, Bool.or_eq_true] at e
    simp at h; subst h
    rcases e.1 with q | q
    · rw [GO.same_eq q]; exact .inl rfl
    · exact .inr q
  | p :: G0, u :: G1, i + 1, o, e, h => by
    simp only [okB, Bool.and_eq_true] at e
    rcases okB_at e.2 (by simpa using h) with q | q
    · exact .inl (by simpa using q)
    · exact .inr q
theorem okB_self {n : Nat} : ∀ G : GH, okB n G G = true
  | [] => rfl
  | p :: G => by simp only [okB, Bool.and_eq_true, Bool.or_eq_true]; exact ⟨.inl (GO.same_self p), okB_self G⟩
/-- new objects that nobody can reach are forgotten -/
def trimR (G0 : GH) (r : Res PV) : Res PV := match r with
  | .ok a G1 => if (PV.refsB G0.length a && okB G0.length G0 (G1.take G0.length)) = true ∧ G0.length ≤ G1.length then .ok a (G1.take G0.length) else .ok a G1
  | r => r
theorem HRep.take (h : HRep F μ H G) (n : Nat) (e : ∀ (i : Nat) o, i < n → G[i]? = some o → GO.refsB n o = true) : HRep F ⟨μ.ob.take n, μ.rs⟩ H (G.take n) where
  len := by simp [h.len]
  nd := (List.take_sublist n μ.ob).nodup h.nd
  obj := fun i a o h1 h2 => by
    have h1 : (μ.ob.take n)[i]? = some a := h1
    have hi : i < n := by
      have := (List.getElem?_eq_some_iff.mp h1).1
      simp at this; omega
    rw [List.getElem?_take_of_lt hi] at h1 h2
    exact (h.obj i a o h1 h2).take' n (e i o hi h2)
  res := fun a m => let ⟨h1, h2⟩ := h.res a m; ⟨fun k => h1 (List.mem_of_mem_take k), h2⟩
  tab := h.tab
theorem trim_post {r : Res PV} {Q : VK} (g : HRep F μ H G) (h : Post F (RV F) Ex μ H (trimR G r) Q) : Post F (RV F) Ex μ H r Q := by
  cases r with
  | bad => exact h
  | exc c fs G1 => exact h
  | ok a G1 =>
    unfold trimR at h
    simp only at h
    split at h
    · rename_i c
      obtain ⟨c1, c3⟩ := c
      rw [Bool.and_eq_true] at c1
      obtain ⟨c1, c2⟩ := c1
      intro μ' b H' e x y
      obtain ⟨r, hr⟩ := e.pre
      have hl : G.length = μ.ob.length := g.len.symm
      have ht : μ'.ob.take G.length = μ.ob := by rw [hr, hl]; simp
      have em : (⟨μ'.ob.take G.length, μ'.rs⟩ : Mu) = μ := by rw [ht, e.rs]
      have y2 := y.take G.length fun i o hi ho => by
        have ho2 : (G1.take G.length)[i]? = some o := by rw [List.getElem?_take_of_lt hi]; exact ho
        rcases okB_at c2 ho2 with q | q
        · have ha : ∃ a, μ.ob[i]? = some a := ⟨_, List.getElem?_eq_getElem (by rw [← hl]; exact hi)⟩
          obtain ⟨a', ha⟩ := ha
          rw [hl]
          exact (g.obj i a' o ha q).refs
        · exact q
      have x2 : Rep F ⟨μ'.ob.take G.length, μ'.rs⟩ H' a b := Rep.take G.length c1 x
      rw [em] at y2 x2
      exact h μ b H' ⟨⟨[], by simp⟩, rfl, fun a m k => absurd m k, e.keep⟩ x2 y2
    · exact h
theorem trim_same (a : PV) (G : GH) : trimR G (.ok a G) = .ok a G := by
  unfold trimR
  simp only [List.take_length]
  split <;> rfl
end

/-! ### a def, by its body -/
/-- what a def computes -/
def defV (np : Nat) (N : List Str) (m : Env → GH → Res Fl) (ps : List PV) (G : GH) : Res PV := if ps.length = np then trimR G ((m (env0 N.length ps) G).bind bodyEnd) else .bad
structure CalleeP (P : Program) (w : World) (K : PySem.W.Frag) (mg : Str → Option Value) (base : Heap) (F : Fx) (n : Nat) (x : Str) (np : Nat) (m : List PV → GH → Res PV) : Prop where
  ex : ∃ (f : Addr) (fd : FuncData) (ps : List Str), FnG P w K mg base n f fd ps (SpV F np m) ∧ mg x = some (.ref f) ∧ PySem.W.keepIn K (.ref f) = true ∧ Binds K fd ps []
  ar : ∀ qs G, qs.length ≠ np → m qs G = .bad
theorem CalleeP.at {X : Cx} {F : Fx} {n : Nat} {x : Str} {np : Nat} {m : List PV → GH → Res PV} (c : CalleeP X.prog X.w X.K X.mg X.base F n x np m) : Callee X F n x np m := ⟨c.ex⟩
section
variable {P : Program} {w : World} {K : PySem.W.Frag} {mg : Str → Option Value} {base : Heap} {F : Fx} {n : Nat}
abbrev CXo (P : Program) (w : World) (K : PySem.W.Frag) (mg : Str → Option Value) (base : Heap) (N : List Str) (qual : Str) (scope : Scope) (f : Addr) (cdv : Value) (A : Around) (outer : List PySem.Env) (s : Shared) (H : Hp) (E : XK) : Cx := cxOf (L2.CX P w) P w K mg base N qual scope f cdv A outer s H E
/-- the code object of the def at f -/
def CodeAt (K : PySem.W.Frag) (f : Addr) (cdv : Value) : Prop := ∃ oc od osl fd, K.lookup f = some ⟨oc, od, .func fd, osl⟩ ∧ fd.code = cdv
theorem def_ok {name qual : Str} {params : Arguments} {body : List Stmt} {scope : Scope} {f : Addr} {fd : FuncData} {N ps : List Str} {m : Env → GH → Res Fl} (hK : F.K = K) (Fd : FunD K name qual params body scope [] [] f fd) (S : FnScope N ps scope)
    (hm : mg name = some (.ref f)) (hb : Binds K fd ps []) (hbody : ∀ (cdv : Value) (A : Around) (outer : List PySem.Env) (s : Shared) (H : Hp) (E : XK), GX (CXo P w K mg base N qual scope f cdv A outer s H E) F E n →
      PassesOwn (model P w) (CXo P w K mg base N qual scope f cdv A outer s H E).A (CXo P w K mg base N qual scope f cdv A outer s H E).env (CXo P w K mg base N qual scope f cdv A outer s H E).xe → CodeAt K f cdv → PSs (CXo P w K mg base N qual scope f cdv A outer s H E) body (TSv F E m)) :
    CalleeP P w K mg base F (n + 1) name ps.length (defV ps.length N m) where
  ex := by
    obtain ⟨oc, od, dV, kV, doc, pm, an, cdv, ct, osl, e, lk, hcd, _, _⟩ := Fd.ex
    subst e
    refine ⟨f, _, ps, fnG_of lk hcd S (fun vs H Q E h => h.1) (fun A outer s H vs Q E hr hgd h => ?_), hm, Fd.kp, hb⟩
    refine ⟨_, hbody cdv A outer s H E ⟨hK, rfl, S.nd, hr, hgd, passes_call (takes_of rfl rfl rfl rfl) fun _ _ _ _ z => z⟩ (passes_of rfl) ⟨_, _, _, _, lk, rfl⟩, body_read (N := N) ?_⟩
    obtain ⟨h1, μ, qs, G, r, g, p⟩ := h
    unfold defV at p
    rw [if_pos (r.length.trans h1)] at p
    exact ⟨μ, qs, G, r, g, trim_post g p⟩
  ar := fun qs G h => by unfold defV; rw [if_neg h]
theorem callee0 {name qual : Str} {params : Arguments} {body : List Stmt} {scope : Scope} {f : Addr} {fd : FuncData} {ps : List Str} (Fd : FunD K name qual params body scope [] [] f fd) (hm : mg name = some (.ref f)) (hb : Binds K fd ps []) : CalleeP P w K mg base F 0 name ps.length (fun _ _ => .bad) where
  ex := ⟨f, fd, ps, ⟨fun vs H Q E h => h.1, fun A outer s H args us vs Q E _ _ _ _ _ h => by
    obtain ⟨_, μ, qs, G, r, g, p⟩ := h
    exact (show False from p).elim⟩, hm, Fd.kp, hb⟩
  ar := fun _ _ _ => rfl
end
section
variable {X : Cx} {F : Fx} {Ex : XK}
theorem ev_ownP {n np : Nat} {x : Str} {m : List PV → GH → Res PV} {ms : Env → GH → Res (List PV)} {e : Expr} {es : List Expr} {p pos : Pos} (g : GX X F Ex n) (c : CalleeP X.prog X.w X.K X.mg X.base F n x np m) (hg : Gl X x) (hdb : (x == ("__debug__" : Str)) = false)
    (h1 : plainE e = true) (h2 : es.all plainE = true) (ha : PA X (e :: es) (TAv F Ex ms)) : PE X (.Call (.Name x p) (e :: es) [] pos) (TEv F Ex (mA ms m)) := ev_own g c.at hg ha hdb h1 h2 c.ar
end
end EV
end
section
set_option Elab.async false
set_option linter.all false
set_option maxRecDepth 100000
/-! Ev13: the rules as the printed proofs name them: side conditions by running. -/
namespace EV
open PySem PySem.Spec PyProof.Rows L2
def visB (sc : Scope) (x : Str) : Bool := sc.names.lookup x == some .local || (sc.names.lookup x == some .cell || sc.names.lookup x == some .free)
theorem vis_of {sc : Scope} {x : Str} (h : visB sc x = true) : Vis sc x := by
  unfold visB at h
  simp only [Bool.or_eq_true, beq_iff_eq] at h
  exact h
def nmB (x : Str) : Bool := !(x == ("__debug__" : Str)) && !(x == ("__classdict__" : Str))
theorem nm1 {x : Str} (h : nmB x = true) : (x == ("__debug__" : Str)) = false := by
  unfold nmB at h
  simp only [Bool.and_eq_true, Bool.not_eq_true'] at h
  exact h.1
theorem nm2 {x : Str} (h : nmB x = true) : (x == ("__classdict__" : Str)) = false := by
  unfold nmB at h
  simp only [Bool.and_eq_true, Bool.not_eq_true'] at h
  exact h.2
def locB (X : Cx) (x : Str) : Bool := X.env.scope.names.lookup x == some .local || (X.env.scope.names.lookup x == some .cell && X.fn x)
theorem loc_of {X : Cx} {x : Str} (h : locB X x = true) : Loc X.env.scope x ∧ (X.fn x = true ∨ X.env.scope.names.lookup x = some .local) := by
  unfold locB at h
  simp only [Bool.or_eq_true, Bool.and_eq_true, beq_iff_eq] at h
  rcases h with h | h
  · exact ⟨.inl h, .inr h⟩
  · exact ⟨.inr h.1, .inl h.2⟩
def blkB (N : List Str) (sc scope : Scope) (own : List (Str × Nat)) : Bool :=
  scope.kind == .function && (scope.names.all (fun y => scope.names.lookup y.1 == some y.2) && (own.all (fun p => N[p.2]? == some p.1) && (scope.names.all (fun y => !(y.2 == .free) || (sc.names.lookup y.1 == some .cell || sc.names.lookup y.1 == some .free)) &&
    scope.names.all (fun y => !(y.2 == .local || y.2 == .cell) || ((own.map (·.1)).contains y.1 || !(N.contains y.1))))))
theorem blk_of {N : List Str} {sc scope : Scope} {own : List (Str × Nat)} (h : blkB N sc scope own = true) : BlkOk N sc scope own := by
  unfold blkB at h
  simp only [Bool.and_eq_true] at h
  obtain ⟨h1, h2, h3, h4, h5⟩ := h
  refine ⟨by simpa using h1, fun y hy => by simpa using List.all_eq_true.mp h2 y hy, fun p hp => by simpa using List.all_eq_true.mp h3 p hp, fun y hy e => ?_, fun y hy e => ?_⟩
  · have q := List.all_eq_true.mp h4 y hy
    rw [e] at q
    simpa using q
  · have q := List.all_eq_true.mp h5 y hy
    have q2 : ((own.map (·.1)).contains y.1 || !(N.contains y.1)) = true := by
      rcases e with e | e <;> (rw [e] at q; simpa using q)
    rw [Bool.or_eq_true] at q2
    rcases q2 with q2 | q2
    · exact .inl (by simpa using q2)
    · exact .inr (by simpa using q2)
section
variable {X : Cx} {F : Fx} {Ex : XK} {n : Nat}
theorem gvar (i : Nat) {x : Str} {pos : Pos} (hN : X.N[i]? = some x := by kernel_rfl) (hv : visB X.env.scope x = true := by kernel_rfl) (hd : nmB x = true := by kernel_rfl) : PE X (.Name x pos) (TEv F Ex (mVar i)) := ev_var hN (vis_of hv) (nm1 hd) (nm2 hd)
theorem gadd (g : GX X F Ex n) {a b : Expr} {pos : Pos} {ma mb : Env → GH → Res PV} (ha : PE X a (TEv F Ex ma)) (hb : PE X b (TEv F Ex mb)) : PE X (.BinOp a .Add b pos) (TEv F Ex (m2 ma mb opAdd)) := ev_bin (opAdd_ok g.K) ha hb
theorem gsub (g : GX X F Ex n) {a b : Expr} {pos : Pos} {ma mb : Env → GH → Res PV} (ha : PE X a (TEv F Ex ma)) (hb : PE X b (TEv F Ex mb)) : PE X (.BinOp a .Sub b pos) (TEv F Ex (m2 ma mb opSub)) := ev_bin opSub_ok ha hb
theorem gmul (g : GX X F Ex n) {a b : Expr} {pos : Pos} {ma mb : Env → GH → Res PV} (ha : PE X a (TEv F Ex ma)) (hb : PE X b (TEv F Ex mb)) : PE X (.BinOp a .Mult b pos) (TEv F Ex (m2 ma mb opMul)) := ev_bin (opMul_ok g.K) ha hb
theorem gmod (g : GX X F Ex n) {a b : Expr} {pos : Pos} {ma mb : Env → GH → Res PV} (ha : PE X a (TEv F Ex ma)) (hb : PE X b (TEv F Ex mb)) : PE X (.BinOp a .Mod b pos) (TEv F Ex (m2 ma mb opMod)) := ev_bin opMod_ok ha hb
theorem gdiv (g : GX X F Ex n) {a b : Expr} {pos : Pos} {ma mb : Env → GH → Res PV} (ha : PE X a (TEv F Ex ma)) (hb : PE X b (TEv F Ex mb)) : PE X (.BinOp a .FloorDiv b pos) (TEv F Ex (m2 ma mb opDiv)) := ev_bin opDiv_ok ha hb
theorem gpow (g : GX X F Ex n) {a b : Expr} {pos : Pos} {ma mb : Env → GH → Res PV} (ha : PE X a (TEv F Ex ma)) (hb : PE X b (TEv F Ex mb)) : PE X (.BinOp a .Pow b pos) (TEv F Ex (m2 ma mb opPow)) := ev_bin opPow_ok ha hb
theorem gneg (g : GX X F Ex n) {a : Expr} {pos : Pos} {ma : Env → GH → Res PV} (ha : PE X a (TEv F Ex ma)) : PE X (.UnaryOp .USub a pos) (TEv F Ex (m1 ma opNeg)) := ev_un opNeg_ok ha
end
section
variable {X : Cx} {F : Fx} {Ex : XK} {n : Nat} {a b c : Expr} {pos : Pos} {ma mb mc : Env → GH → Res PV}
/-- the comparisons -/
inductive Cop where
  | eq | ne | lt | le | gt | ge | is | isnot | in_ | notin
def Cop.op : Cop → CmpOp
  | .eq => .Eq
  | .ne => .NotEq
  | .lt => .Lt
  | .le => .LtE
  | .gt => .Gt
  | .ge => .GtE
  | .is => .Is
  | .isnot => .IsNot
  | .in_ => .In
  | .notin => .NotIn
def Cop.f : Cop → List PV → GH → Res PV
  | .eq => opEq
  | .ne => opNe
  | .lt => opLt
  | .le => opLe
  | .gt => opGt
  | .ge => opGe
  | .is => opIsN false
  | .isnot => opIsN true
  | .in_ => opIn
  | .notin => opNotIn
theorem Cop.ok (g : GX X F Ex n) : ∀ o : Cop, OpR X (compareOp o.op) (OpV F Ex o.f)
  | .eq => opEq_ok g.K g.un
  | .ne => opNe_ok g.K g.un
  | .lt => opLt_ok g.K g.un
  | .le => opLe_ok g.K g.un
  | .gt => opGt_ok g.K g.un
  | .ge => opGe_ok g.K g.un
  | .is => opIs_ok
  | .isnot => opIsNot_ok
  | .in_ => opIn_ok g.K
  | .notin => opNotIn_ok g.K
theorem gcmp (g : GX X F Ex n) (o : Cop) (ha : PE X a (TEv F Ex ma)) (hb : PE X b (TEv F Ex mb)) (hm : behindInMarks o.op b = false := by kernel_rfl) : PE X (.Compare a [o.op] [b] pos) (TEv F Ex (m2 ma mb o.f)) := ev_cmp (o.ok g) ha hb hm
theorem gcmpT (g : GX X F Ex n) (o : Cop) (ha : PE X a (TEv F Ex ma)) (hb : PE X b (TEv F Ex mb)) (hm : behindInMarks o.op b = false := by kernel_rfl) : PT X (.Compare a [o.op] [b] pos) (TTv F Ex (mB (m2 ma mb o.f))) := ev_cmpT (o.ok g) ha hb hm
theorem gchn (g : GX X F Ex n) (o o' : Cop) (ha : PE X a (TEv F Ex ma)) (hb : PE X b (TEv F Ex mb)) (hc : PE X c (TEv F Ex mc)) (hm : lastMarks [o.op, o'.op] [b, c] = false := by kernel_rfl) : PE X (.Compare a [o.op, o'.op] [b, c] pos) (TEv F Ex (m3c ma mb mc o.f o'.f)) := ev_chain (o.ok g) (o'.ok g) ha hb hc hm
theorem gchnT (g : GX X F Ex n) (o o' : Cop) (ha : PE X a (TEv F Ex ma)) (hb : PE X b (TEv F Ex mb)) (hc : PE X c (TEv F Ex mc)) (hm : lastMarks [o.op, o'.op] [b, c] = false := by kernel_rfl) : PT X (.Compare a [o.op, o'.op] [b, c] pos) (TTv F Ex (mB (m3c ma mb mc o.f o'.f))) := ev_chainT (o.ok g) (o'.ok g) ha hb hc hm
def plainIxB : Expr → Bool
  | .Constant c _ _ => match c with
    | .ellipsis => false
    | _ => true
  | _ => true
theorem gix (g : GX X F Ex n) (hs : PlainIx b) (ha : PE X a (TEv F Ex ma)) (hb : PE X b (TEv F Ex mb)) : PE X (.Subscript a b pos) (TEv F Ex (m2 ma mb opIx)) := ev_ix (opIx_ok g.K) ha hb hs
theorem gsl (g : GX X F Ex n) {lo hi : Option Expr} {p2 : Pos} {l h : Env → GH → Res (Option Int)} (he : PE X a (TEv F Ex ma)) (hl : PO X lo (TOv F Ex l)) (hu : PO X hi (TOv F Ex h)) : PE X (.Subscript a (.Slice lo hi none p2) pos) (TEv F Ex (mSl ma l h opSl)) := ev_sl (opSl_ok g.K) he hl hu
theorem gand (g : GX X F Ex n) {rest : List Expr} (ha : PE X a (TEv F Ex ma)) (hb : PE X (.BoolOp .And (b :: rest) pos) (TEv F Ex mb)) : PE X (.BoolOp .And (a :: b :: rest) pos) (TEv F Ex (mAnd ma mb)) := ev_and g.K ha hb
theorem gor (g : GX X F Ex n) {rest : List Expr} (ha : PE X a (TEv F Ex ma)) (hb : PE X (.BoolOp .Or (b :: rest) pos) (TEv F Ex mb)) : PE X (.BoolOp .Or (a :: b :: rest) pos) (TEv F Ex (mOr ma mb)) := ev_or g.K ha hb
theorem gnot (g : GX X F Ex n) (ha : PE X a (TEv F Ex ma)) : PE X (.UnaryOp .Not a pos) (TEv F Ex (mNot ma)) := ev_not g.K ha
theorem gtru (g : GX X F Ex n) (ha : PE X a (TEv F Ex ma)) (he : ∀ whole, isTrue a X.env whole = (do let v ← whole; standAt a.pos; holding [v] (truthy v)) := by intro _; rfl) : PT X a (TTv F Ex (mT ma)) := ev_truth g.K ha he
theorem gisi (g : GX X F Ex n) {x y : Str} {p p2 : Pos} (T : String) (hm : X.mg x = none) (hm2 : X.mg y = none) (ha : PE X a (TEv F Ex ma)) (hg : X.env.kindOf x = some .globalImplicit := by kernel_rfl) (hv : bootBuiltins x = some (.builtin "isinstance") := by kernel_rfl) (hn : x ≠ "__name__" := by decide) (hd : nmB x = true := by kernel_rfl)
    (hg2 : X.env.kindOf y = some .globalImplicit := by kernel_rfl) (hv2 : bootBuiltins y = some (.type T) := by kernel_rfl) (hn2 : y ≠ "__name__" := by decide) (hd2 : nmB y = true := by kernel_rfl) (h1 : plainE a = true := by kernel_rfl) : PE X (.Call (.Name x p) [a, .Name y p2] [] pos) (TEv F Ex (m1 ma (bIsi T))) :=
  ev_isi g.K ha hg hm hv hn (nm1 hd) hg2 hm2 hv2 hn2 (nm1 hd2) h1
theorem gblt {id : String} {x : Str} {es : List Expr} {p : Pos} {ms : Env → GH → Res (List PV)} {f : List PV → GH → Res PV} (hc : CallR X (.builtin id) (RdV F Ex f)) (hm : X.mg x = none) (ha : PA X (a :: es) (TAv F Ex ms)) (hv : bootBuiltins x = some (.builtin id) := by kernel_rfl) (hg : X.env.kindOf x = some .globalImplicit := by kernel_rfl)
    (hn : x ≠ "__name__" := by decide) (hd : nmB x = true := by kernel_rfl) (h1 : plainE a = true := by kernel_rfl) (h2 : es.all plainE = true := by kernel_rfl) : PE X (.Call (.Name x p) (a :: es) [] pos) (TEv F Ex (mA ms f)) := ev_blt hc hg hm hv ha hn (nm1 hd) h1 h2
theorem gbty {T : String} {x : Str} {es : List Expr} {p : Pos} {ms : Env → GH → Res (List PV)} {f : List PV → GH → Res PV} (hc : CallR X (.type T) (RdV F Ex f)) (hm : X.mg x = none) (ha : PA X (a :: es) (TAv F Ex ms)) (hv : bootBuiltins x = some (.type T) := by kernel_rfl) (hg : X.env.kindOf x = some .globalImplicit := by kernel_rfl)
    (hn : x ≠ "__name__" := by decide) (hd : nmB x = true := by kernel_rfl) (h1 : plainE a = true := by kernel_rfl) (h2 : es.all plainE = true := by kernel_rfl) : PE X (.Call (.Name x p) (a :: es) [] pos) (TEv F Ex (mA ms f)) := ev_bty hc hg hm hv ha hn (nm1 hd) h1 h2
theorem gown (g : GX X F Ex n) {x : Str} {np : Nat} {m : List PV → GH → Res PV} {es : List Expr} {p : Pos} {ms : Env → GH → Res (List PV)} (c : CalleeP X.prog X.w X.K X.mg X.base F n x np m) (ha : PA X (a :: es) (TAv F Ex ms)) (hg : X.env.kindOf x = some .globalImplicit := by kernel_rfl) (hd : nmB x = true := by kernel_rfl)
    (h1 : plainE a = true := by kernel_rfl) (h2 : es.all plainE = true := by kernel_rfl) : PE X (.Call (.Name x p) (a :: es) [] pos) (TEv F Ex (mA ms m)) := ev_ownP g c hg (nm1 hd) h1 h2 ha
theorem gcons {es : List Expr} {ms : Env → GH → Res (List PV)} (he : PE X a (TEv F Ex ma)) (hs : PA X es (TAv F Ex ms)) (hp : plainE a = true := by kernel_rfl) : PA X (a :: es) (TAv F Ex (mCons ma ms)) := ev_cons hp he hs
theorem gtn (g : GX X F Ex n) (i : Nat) {x : Str} {p : Pos} (hi : X.N[i]? = some x := by kernel_rfl) (hx : locB X x = true := by kernel_rfl) : PG X (.Name x p) (TGv F Ex [i] (gN i)) := ev_gname g.nd hi (loc_of hx).1 (loc_of hx).2
theorem gtc {sl sl' : List Nat} {m : PV → Env → GH → Res Env} {es : List Expr} {ms : List PV → Env → GH → Res Env} (h1 : PG X a (TGv F Ex sl m)) (h2 : PGs X es (TGvs F Ex sl' ms)) (hp : plainE a = true := by kernel_rfl) : PGs X (a :: es) (TGvs F Ex (sl ++ sl') (gConsE m ms)) := ev_gcons hp h1 h2
theorem gtt (g : GX X F Ex n) {es : List Expr} {k : Nat} {sl : List Nat} {ms : List PV → Env → GH → Res Env} (len : Nat) (h : PGs X es (TGvs F Ex sl ms)) (hp : es.all plainE = true := by kernel_rfl) (hl : es.length = len := by kernel_rfl) : PG X (.Tuple es k pos) (TGv F Ex sl (gTupE len ms)) := by
  subst hl
  exact ev_gtup g.K g.calm hp h
theorem gret {e : Expr} (he : PE X e (TEv F Ex ma)) : PS X (.Return (some e) pos) (TSv F Ex (sRet ma)) := ev_ret he
theorem gasg {t : Expr} {tt : PV → Env → GH → Res Env} {sl : List Nat} (he : PE X a (TEv F Ex ma)) (hg : PG X t (TGv F Ex sl tt)) (hs : swapsWithSole [t] a pos.line X.env = pure false := by rfl) (hw : swappedStores [t] a X.env = pure none := by rfl)
    (h1 : plainE t = true := by kernel_rfl) : PS X (.Assign [t] a pos) (TSv F Ex (sAsg ma tt)) := ev_asg he hg hs hw h1
theorem gexp (he : PE X a (TEv F Ex ma)) (hs : swapsWith a none pos.line X.env = pure false := by rfl) : PS X (.Expr a pos) (TSv F Ex (sDrop ma)) := ev_expr he hs
theorem gset (g : GX X F Ex n) {tp : Pos} {e o i : Expr} {me mo mi : Env → GH → Res PV} {f : List PV → GH → Res Unit} (hf : PSet X (RdSet F Ex f)) (he : PE X e (TEv F Ex me)) (ho : PE X o (TEv F Ex mo)) (hi : PE X i (TEv F Ex mi))
    (hs : swapsWithSole [.Subscript o i tp] e pos.line X.env = pure false := by rfl) (hw : swappedStores [.Subscript o i tp] e X.env = pure none := by rfl)
    (hA : ∀ v, assign (.Subscript o i tp) X.env v = (do
      let ov ← holding [v] (eval o X.env)
      let iv ← holding [v, ov] (eval i X.env)
      standAt tp
      holding [v, ov, iv] (setItem ov iv v)
      release [v, ov, iv] []) := by intro _; rfl) : PS X (.Assign [.Subscript o i tp] e pos) (TSv F Ex (sSet me mo mi f)) := ev_set he ho hi hf hs hw hA
theorem gaug (g : GX X F Ex n) (i : Nat) {x : Str} {op : Operator} {tp : Pos} {f : List PV → GH → Res PV} (ho : PIp X op (fun x y H Q => RdV F Ex f [x, y] H Q)) (he : PE X a (TEv F Ex ma)) (hi : X.N[i]? = some x := by kernel_rfl) (hx : locB X x = true := by kernel_rfl) : PS X (.AugAssign (.Name x tp) op a pos) (TSv F Ex (sAug i ma f)) :=
  ev_aug g.nd hi (loc_of hx).1 he ho (loc_of hx).2
theorem gpar (g : GX X F Ex n) (i j : Nat) {x y : Str} {ms : Env → GH → Res (List PV)} {px py pt : Pos} {kt k2 : Nat} {pt2 : Pos} (ha : PA X [a, b] (TAv F Ex ms)) (hij : i ≠ j := by decide) (hi : X.N[i]? = some x := by kernel_rfl) (hj : X.N[j]? = some y := by kernel_rfl)
    (hx : X.env.scope.names.lookup x = some .local := by kernel_rfl) (hy : X.env.scope.names.lookup y = some .local := by kernel_rfl) (hw : swappedStores [.Tuple [.Name x px, .Name y py] kt pt] (.Tuple [a, b] k2 pt2) X.env = pure (some [x, y]) := by rfl)
    (hs : swapsWithSole [.Tuple [.Name x px, .Name y py] kt pt] (.Tuple [a, b] k2 pt2) pos.line X.env = pure false := by rfl) : PS X (.Assign [.Tuple [.Name x px, .Name y py] kt pt] (.Tuple [a, b] k2 pt2) pos) (TSv F Ex (sPar i j ms)) := ev_par g.calm g.nd hi hj hij hx hy ha hw hs
theorem gfor (g : GX X F Ex n) (po : PassesOwn (model X.prog X.w) X.A X.env X.xe) {tg iter : Expr} {body : List Stmt} {sl : List Nat} {ms : Env → GH → Res Src} {t : PV → Env → GH → Res Env} {bb : Env → GH → Res Fl}
    (hi : PI X tg iter (TIv F Ex ms)) (hg : PG X tg (TGv F Ex sl t)) (hb : PSs X body (TSv F Ex bb)) (hs : ∀ x, foldedSetIterable iter X.env x = pure x := by intro _; rfl) : PS X (.For tg iter body [] pos) (TSv F Ex (sFor ms t bb)) := ev_for po g.calm hi hg hb hs
theorem gseq (g : GX X F Ex n) {tg : Expr} (h : PE X a (TEv F Ex ma)) : PI X tg a (TIv F Ex (mSeq ma)) := ev_seq g.K h
theorem cons_len {es : Nat} {m : Env → GH → Res PV} {ms : Env → GH → Res (List PV)} (h : ∀ ρ G qs G', ms ρ G = .ok qs G' → qs.length = es) : ∀ ρ G qs G', mCons m ms ρ G = .ok qs G' → qs.length = es + 1 := by
  intro ρ G qs G' e
  unfold mCons at e
  cases h1 : m ρ G with
  | ok x G1 =>
    rw [h1] at e
    cases h2 : ms ρ G1 with
    | ok xs G2 =>
      simp only [Res.bind_ok, h2] at e
      cases e
      simp [h _ _ _ _ h2]
    | exc c fs G2 => simp only [Res.bind_ok, h2] at e; cases e
    | bad => simp only [Res.bind_ok, h2] at e; cases e
  | exc c fs G2 => rw [h1] at e; cases e
  | bad => rw [h1] at e; cases e
theorem nil_len : ∀ ρ G qs G', mNil ρ G = .ok qs G' → qs.length = 0 := by
  intro ρ G qs G' e
  cases e
  rfl
theorem grng1 (g : GX X F Ex n) {tg : Expr} {p : Pos} (hm : X.mg "range" = none) (ha : PE X a (TEv F Ex ma)) (hg : X.env.kindOf "range" = some .globalImplicit := by kernel_rfl) (h1 : plainE a = true := by kernel_rfl) : PI X tg (.Call (.Name "range" p) [a] [] pos) (TIv F Ex (mRng (mCons ma mNil))) :=
  ev_rng1 hg hm (ev_cons h1 ha ev_nil) h1 (cons_len nil_len)
theorem grng2 (g : GX X F Ex n) {tg : Expr} {p : Pos} (hm : X.mg "range" = none) (ha : PE X a (TEv F Ex ma)) (hb : PE X b (TEv F Ex mb)) (hg : X.env.kindOf "range" = some .globalImplicit := by kernel_rfl) (h1 : plainE a = true := by kernel_rfl) (h2 : plainE b = true := by kernel_rfl) : PI X tg (.Call (.Name "range" p) [a, b] [] pos) (TIv F Ex (mRng (mCons ma (mCons mb mNil)))) :=
  ev_rng2 hg hm (ev_cons h1 ha (ev_cons h2 hb ev_nil)) h1 h2 (cons_len (cons_len nil_len))
theorem gcomp (g : GX X F Ex n) (ob : Bool) (own : List (Str × Nat)) {elt tg iter : Expr} {ifs : List Expr} {scope : Scope} {sl : List Nat} {ms : Env → GH → Res Src} {t : PV → Env → GH → Res Env} {tt : Env → GH → Res Bool} {el : Env → GH → Res PV}
    (hi : PI X tg iter (TIv F Ex ms))
    (hg : ∀ (s : Shared) (H : Hp) (C : Addr) (cl : List (Str × Addr)) (fp : List Addr), GX (X.blk s H scope (compEnvC scope cl C X.env) fp) F E0 n → PG (X.blk s H scope (compEnvC scope cl C X.env) fp) tg (TGv F E0 sl t))
    (ht : ∀ (s : Shared) (H : Hp) (C : Addr) (cl : List (Str × Addr)) (fp : List Addr), GX (X.blk s H scope (compEnvC scope cl C X.env) fp) F E0 n → PTs (X.blk s H scope (compEnvC scope cl C X.env) fp) ifs (TTv F E0 tt))
    (he : ∀ (s : Shared) (H : Hp) (C : Addr) (cl : List (Str × Addr)) (fp : List Addr), GX (X.blk s H scope (compEnvC scope cl C X.env) fp) F E0 n → PE (X.blk s H scope (compEnvC scope cl C X.env) fp) elt (TEv F E0 el))
    (hsl : sl.all (fun i => (own.map (·.2)).contains i) = true := by kernel_rfl) (ok : blkB X.N X.env.scope scope own = true := by kernel_rfl) (hs : ∀ x, foldedSetIterable iter X.env x = pure x := by intro _; rfl) :
    PE X (.ListComp elt [⟨tg, iter, ifs, 0⟩] scope pos) (TEv F Ex (mComp ob ms t tt el (own.map (·.2)))) :=
  ev_comp g.calm g.nd hi (blk_of ok) (fun i h => by simpa using List.all_eq_true.mp hsl i h) (fun s H C cl fp => hg s H C cl fp (g.blk ..)) (fun s H C cl fp => ht s H C cl fp (g.blk ..)) (fun s H C cl fp => he s H C cl fp (g.blk ..)) hs
theorem gasgC (g : GX X F Ex n) (ob : Bool) (k : Nat) (own : List (Str × Nat)) {y : Str} {py spos : Pos} {elt tg iter : Expr} {ifs : List Expr} {scope : Scope} {sl : List Nat} {ms : Env → GH → Res Src} {t : PV → Env → GH → Res Env} {tt : Env → GH → Res Bool} {el : Env → GH → Res PV}
    (hi : PI X tg iter (TIv F Ex ms))
    (hg : ∀ (s : Shared) (H : Hp) (C : Addr) (cl : List (Str × Addr)) (fp : List Addr), GX (X.blk s H scope (compEnvC scope cl C X.env) fp) F E0 n → PG (X.blk s H scope (compEnvC scope cl C X.env) fp) tg (TGv F E0 sl t))
    (ht : ∀ (s : Shared) (H : Hp) (C : Addr) (cl : List (Str × Addr)) (fp : List Addr), GX (X.blk s H scope (compEnvC scope cl C X.env) fp) F E0 n → PTs (X.blk s H scope (compEnvC scope cl C X.env) fp) ifs (TTv F E0 tt))
    (he : ∀ (s : Shared) (H : Hp) (C : Addr) (cl : List (Str × Addr)) (fp : List Addr), GX (X.blk s H scope (compEnvC scope cl C X.env) fp) F E0 n → PE (X.blk s H scope (compEnvC scope cl C X.env) fp) elt (TEv F E0 el))
    (hy : X.N[k]? = some y := by kernel_rfl) (hyl : X.env.scope.names.lookup y = some .local := by kernel_rfl) (hsw : swapsWith (.ListComp elt [⟨tg, iter, ifs, 0⟩] scope pos) (some (.Name y py)) spos.line X.env = pure true := by rfl)
    (hsl : sl.all (fun i => (own.map (·.2)).contains i) = true := by kernel_rfl) (ok : blkB X.N X.env.scope scope own = true := by kernel_rfl) (hs : ∀ x, foldedSetIterable iter X.env x = pure x := by intro _; rfl) :
    PS X (.Assign [.Name y py] (.ListComp elt [⟨tg, iter, ifs, 0⟩] scope pos) spos) (TSv F Ex (sAsg (mComp ob ms t tt el (own.map (·.2))) (gN k))) :=
  ev_asgC g.calm g.nd hy hyl hsw hi (blk_of ok) (fun i h => by simpa using List.all_eq_true.mp hsl i h) (fun s H C cl fp => hg s H C cl fp (g.blk ..)) (fun s H C cl fp => ht s H C cl fp (g.blk ..)) (fun s H C cl fp => he s H C cl fp (g.blk ..)) hs
theorem gmet (g : GX X F Ex n) {T id : String} {name : Str} {o e : Expr} {es : List Expr} {apos : Pos} {mo : Env → GH → Res PV} {ms : Env → GH → Res (List PV)} {f : PV → List PV → GH → Res PV} (pa : PlainAttrs T) (slot : Slot T name id) (hty : typeOf (.builtin id) = pure (.type "method_descriptor")) (hm : MtR X id (RdM F Ex f))
    (ho : PE X o (TEv F Ex mo)) (ha : PA X (e :: es) (TAv F Ex ms)) (hT : mTy T = true := by kernel_rfl) (h1 : plainE e = true := by kernel_rfl) (h2 : es.all plainE = true := by kernel_rfl) (hbase : attributeBase o name X.env (eval o X.env) = eval o X.env := by rfl)
    (hfew : ((backTo pos (starEach (e :: es) X.env)).all (fun x => !x.1) && (backToKw pos (keywordEach [] X.env)).all (fun x => x.1.isSome) && decide ((e :: es).length + ([] : List Keyword).length + (if ([] : List Keyword).isEmpty then 0 else 1) < 30)) = true := by rfl)
    (hline : (apos.endLine == pos.line) = true := by kernel_rfl) : PE X (.Call (.Attribute o name apos) (e :: es) [] pos) (TEv F Ex (mMet T mo ms f)) :=
  ev_met g.K hT pa slot hty hm ho ha h1 h2 hbase hfew hline
end
end EV
end
section
set_option Elab.async false
set_option linter.all false
set_option maxRecDepth 100000
set_option maxHeartbeats 2000000
/-! Zs: zip(a, b, strict=True) of two tuples of one length: walked by a loop, listed. -/
namespace Zs
open PySem
open PySem.Sem (wp)
open PySem.W (kdx_alive)
open RZ
abbrev IsZs (h : Heap) (z TI TO : Addr) (f0 : Value) (b : Bool) : Prop :=
  h.get? z = some { cls := .type "zip", dict := none, data := .fields #[f0, .bool b, .bool true, .ref TI, .ref TO], slots := #[] }
section
variable {prog : Program} {w : World} {A : Around} {E : Value → Shared → Prop} {s : Shared}
theorem nextOrEnd_item {it l : Addr} {i : Nat} {items} {x : Value} {Q : Option Value → Shared → Prop} (hit : s.heap.IsTupleIter it l i) (hl : s.heap.IsTuple l items) (hx : items[i]? = some x)
    (hQ : ∀ h', h'.IsTupleIter it l (i + 1) → Heap.SameBut it s.heap h' → Q (some x) { s with heap := h' }) : wpAny (model prog w) A (Builtin.SmallTypes.nextOrEnd (.ref it)) Q E s := by
  unfold Builtin.SmallTypes.nextOrEnd
  exact wpAny_bind (wpAny_attempt (nextOf_tuple_item hit hl hx fun h' a b => wpAny_pure (hQ h' a b)))
theorem nextOrEnd_end {it l : Addr} {i : Nat} {items} {Q : Option Value → Shared → Prop} (hh : A.handled = none) (hit : s.heap.IsTupleIter it l i) (hl : s.heap.IsTuple l items) (hx : items[i]? = none)
    (hQ : ∀ h', Heap.ExtBut it s.heap h' → Q none { s with heap := h' }) : wpAny (model prog w) A (Builtin.SmallTypes.nextOrEnd (.ref it)) Q E s := by
  unfold Builtin.SmallTypes.nextOrEnd
  refine wpAny_bind (wpAny_attempt (nextOf_tuple_end hh hit hl hx fun h' e he hx' => ?_))
  obtain ⟨o, ho, hc⟩ := hx'
  refine wpAny_bind (wpAny_isInstance (T := "StopIteration") (b := true) ⟨o, ho, hc⟩ isSubtype_stop ?_)
  exact wpAny_pure (hQ _ he)
theorem stop_any {α : Type} {Q : α → Shared → Prop} (hh : A.handled = none) (hE : ∀ h' e, (∀ c o, s.heap.get? c = some o → h'.get? c = some o) → (∃ o, h'.get? e = some o ∧ o.cls = .type "StopIteration") → E (.ref e) { s with heap := h' }) :
    wpAny (model prog w) A (Builtin.SmallTypes.stopIteration : Sem α) Q E s := by
  unfold Builtin.SmallTypes.stopIteration
  show wpAny _ _ (newExc (.type "StopIteration") [] >>= _) _ _ _
  refine wpAny_bind ?_
  simp only [newExc, newTuple]
  refine wpAny_bind (wpAny_newObj_type ?_ (by size_fits))
  refine wpAny_bind (m := firstArgMember _ _) (wpAny_of_eq (a := Value.none) (by first | rfl | (simp only [firstArgMember]; rfl)) ?_)
  refine wpAny_newObj_type ?_ (by size_fits)
  simp only [raiseNew]
  refine wpAny_bind (wpAny_handled ?_)
  first | rw [show A.in1.handled = none from hh] | rw [hh]
  refine wpAny_bind (wpAny_pure (wpAny_throw ?_))
  exact hE _ _ (fun c o e => Heap.get?_push_of_some _ (Heap.get?_push_of_some _ e)) ⟨_, Heap.get?_push_size _ rfl, rfl⟩
theorem zs_free_item {z TI TO i1 i2 l1 l2 : Addr} {k1 k2 : Nat} {xs ys : Array Value} {x y a b : Value} {bb : Bool} {Q : Value → Shared → Prop} (D : ZipApart z TI TO i1 i2 l1 l2)
    (hz : IsZs s.heap z TI TO .none bb) (hTI : IsPair s.heap TI (.ref i1) (.ref i2)) (hTO : IsPair s.heap TO a b)
    (h1 : s.heap.IsTupleIter i1 l1 k1) (h2 : s.heap.IsTupleIter i2 l2 k2) (hl1 : s.heap.IsTuple l1 xs) (hl2 : s.heap.IsTuple l2 ys) (hx : xs[k1]? = some x) (hy : ys[k2]? = some y)
    (hQ : ∀ h', IsZs h' z TI TO (rawInt s.heap.objs.size) false → IsPair h' TO x y → h'.IsTupleIter i1 l1 (k1 + 1) → h'.IsTupleIter i2 l2 (k2 + 1) → IsPair h' s.heap.objs.size x y → h'.objs.size = s.heap.objs.size + 1 →
      (∀ c o, c ≠ z → c ≠ TO → c ≠ i1 → c ≠ i2 → s.heap.get? c = some o → h'.get? c = some o) → Q (.ref s.heap.objs.size) { s with heap := h' }) :
    wpAny (model prog w) A (Builtin.«zip.__next__» ⟨[.ref z], []⟩) (fun fin s' => ∃ v, fin = .done (.ret v) ∧ Q v s') E s := by
  show wpAny _ _ (field (.ref z) 2 >>= _) _ _ _
  refine wpAny_bind (wpAny_field hz rfl (x := .bool true) rfl ?_)
  show wpAny _ _ (field (.ref z) 3 >>= _) _ _ _
  refine wpAny_bind (wpAny_field hz rfl (x := .ref TI) rfl ?_)
  refine wpAny_bind (wpAny_seqItems hTI rfl ?_)
  show wpAny _ _ (Builtin.SmallTypes.ownedTupleIsFree (.ref z) >>= _) _ _ _
  refine wpAny_bind ?_
  unfold Builtin.SmallTypes.ownedTupleIsFree
  refine wpAny_bind (wpAny_field hz rfl (x := .none) rfl (wpAny_pure ?_))
  simp only [if_true]
  refine wpAny_bind (wpAny_rule ?_)
  refine wpAny_bind (wpAny_field hz rfl (x := .ref TO) rfl ?_)
  refine wpAny_bind (wpAny_setField_rec hz (by simp) fun h₁ hz₁ hs₁ => ?_)
  replace hz₁ : IsZs h₁ z TI TO .ellipsis bb := hz₁
  refine wpAny_bind ?_
  simp only [List.zipIdx_cons, List.zipIdx_nil, List.forIn_cons, List.forIn_nil]
  refine wpAny_bind (wpAny_bind (wpAny_onRaise ?_))
  show wpAny _ _ (Builtin.SmallTypes.nextOrEnd (.ref i1)) _ _ _
  refine nextOrEnd_item (h1.extBut hs₁.extBut D.i1z) (hl1.extBut hs₁.extBut D.l1z) hx fun h₂ h1₂ hs₂ => ?_
  have hTO₂ : IsPair h₂ TO a b := hs₂.extBut _ _ D.TOi1 (hs₁.extBut _ _ D.TOz hTO)
  refine wpAny_bind (wpAny_seqItems hTO₂ rfl ?_)
  refine wpAny_bind (wpAny_updateSeq_pair hTO₂ fun h₃ hTO₃ hs₃ => ?_)
  replace hTO₃ : IsPair h₃ TO x b := hTO₃
  refine wpAny_bind (wpAny_letGo (wpAny_pure ?_))
  refine wpAny_bind (wpAny_bind (wpAny_onRaise ?_))
  show wpAny _ _ (Builtin.SmallTypes.nextOrEnd (.ref i2)) _ _ _
  refine nextOrEnd_item (((h2.extBut hs₁.extBut D.i2z).extBut hs₂.extBut D.i12.symm).extBut hs₃.extBut D.TOi2.symm)
    (((hl2.extBut hs₁.extBut D.l2z).extBut hs₂.extBut D.l2i1).extBut hs₃.extBut D.l2TO) hy fun h₄ h2₄ hs₄ => ?_
  have hTO₄ : IsPair h₄ TO x b := hs₄.extBut _ _ D.TOi2 hTO₃
  refine wpAny_bind (wpAny_seqItems hTO₄ rfl ?_)
  refine wpAny_bind (wpAny_updateSeq_pair hTO₄ fun h₅ hTO₅ hs₅ => ?_)
  replace hTO₅ : IsPair h₅ TO x y := hTO₅
  refine wpAny_bind (wpAny_letGo (wpAny_pure (wpAny_pure ?_)))
  refine wpAny_bind (wpAny_seqItems hTO₅ rfl ?_)
  refine wpAny_bind (wpAny_newTuple ?_)
  have hsz : h₅.objs.size = s.heap.objs.size := by rw [hs₅.1, hs₄.1, hs₃.1, hs₂.1, hs₁.1]
  have hz₅ : IsZs h₅ z TI TO .ellipsis bb := hs₅.extBut _ _ D.TOz.symm (hs₄.extBut _ _ D.i2z.symm (hs₃.extBut _ _ D.TOz.symm (hs₂.extBut _ _ D.i1z.symm hz₁)))
  have hk₅ : ∀ c o, c ≠ z → c ≠ TO → c ≠ i1 → c ≠ i2 → s.heap.get? c = some o → h₅.get? c = some o := fun c o c1 c2 c3 c4 e =>
    hs₅.extBut _ _ c2 (hs₄.extBut _ _ c4 (hs₃.extBut _ _ c2 (hs₂.extBut _ _ c3 (hs₁.extBut _ _ c1 e))))
  have h1₅ : h₅.IsTupleIter i1 l1 (k1 + 1) := ((h1₂.extBut hs₃.extBut D.TOi1.symm).extBut hs₄.extBut D.i12).extBut hs₅.extBut D.TOi1.symm
  have h2₅ : h₅.IsTupleIter i2 l2 (k2 + 1) := h2₄.extBut hs₅.extBut D.TOi2.symm
  have hzlt : z < h₅.objs.size := Heap.lt_size hz₅
  show wpAny _ _ (Builtin.SmallTypes.ownedTupleHandOut (.ref z) (.ref h₅.objs.size) >>= _) _ _ _
  refine wpAny_bind ?_
  unfold Builtin.SmallTypes.ownedTupleHandOut
  have hz₆ : IsZs (h₅.push { cls := .type "tuple", data := .seq #[x, y] }) z TI TO .ellipsis bb := Heap.get?_push_of_some _ hz₅
  refine wpAny_bind (wpAny_setField_rec hz₆ (by simp) fun h₇ hz₇ hs₇ => ?_)
  replace hz₇ : IsZs h₇ z TI TO (rawInt h₅.objs.size) bb := hz₇
  refine wpAny_setField_rec hz₇ (by simp) fun h₈ hz₈ hs₈ => ?_
  replace hz₈ : IsZs h₈ z TI TO (rawInt h₅.objs.size) false := hz₈
  have up : ∀ c o, c ≠ z → h₅.get? c = some o → h₈.get? c = some o := fun c o c1 e => hs₈.extBut _ _ c1 (hs₇.extBut _ _ c1 (Heap.get?_push_of_some _ e))
  have hT₈ : IsPair h₈ h₅.objs.size x y := hs₈.extBut _ _ (Nat.ne_of_gt hzlt) (hs₇.extBut _ _ (Nat.ne_of_gt hzlt) (Heap.get?_push_size _ rfl))
  have hz8 : h₈.objs.size = h₅.objs.size + 1 := by rw [hs₈.1, hs₇.1, Heap.size_push]
  rw [hsz] at hz₈ hT₈ hz8
  refine wpAny_pure ⟨_, rfl, ?_⟩
  show Q (.ref h₅.objs.size) _
  rw [hsz]
  exact hQ h₈ hz₈ (up _ _ D.TOz hTO₅) (h1₅.at fun o e => up _ o D.i1z e) (h2₅.at fun o e => up _ o D.i2z e) hT₈ hz8 fun c o c1 c2 c3 c4 e => up c o c1 (hk₅ c o c1 c2 c3 c4 e)
theorem zs_free_end {z TI TO i1 i2 l1 l2 : Addr} {k1 k2 : Nat} {xs ys : Array Value} {a b : Value} {bb : Bool} {Q : Fin → Shared → Prop} (hh : A.handled = none) (D : ZipApart z TI TO i1 i2 l1 l2)
    (hz : IsZs s.heap z TI TO .none bb) (hTI : IsPair s.heap TI (.ref i1) (.ref i2)) (hTO : IsPair s.heap TO a b)
    (h1 : s.heap.IsTupleIter i1 l1 k1) (h2 : s.heap.IsTupleIter i2 l2 k2) (hl1 : s.heap.IsTuple l1 xs) (hl2 : s.heap.IsTuple l2 ys) (hx : xs[k1]? = none) (hy : ys[k2]? = none)
    (hE : ∀ h' e, (∀ c o, c ≠ z → c ≠ TO → c ≠ i1 → c ≠ i2 → s.heap.get? c = some o → h'.get? c = some o) → (∃ o, h'.get? e = some o ∧ o.cls = .type "StopIteration") → E (.ref e) { s with heap := h' }) :
    wpAny (model prog w) A (Builtin.«zip.__next__» ⟨[.ref z], []⟩) Q E s := by
  show wpAny _ _ (field (.ref z) 2 >>= _) _ _ _
  refine wpAny_bind (wpAny_field hz rfl (x := .bool true) rfl ?_)
  show wpAny _ _ (field (.ref z) 3 >>= _) _ _ _
  refine wpAny_bind (wpAny_field hz rfl (x := .ref TI) rfl ?_)
  refine wpAny_bind (wpAny_seqItems hTI rfl ?_)
  show wpAny _ _ (Builtin.SmallTypes.ownedTupleIsFree (.ref z) >>= _) _ _ _
  refine wpAny_bind ?_
  unfold Builtin.SmallTypes.ownedTupleIsFree
  refine wpAny_bind (wpAny_field hz rfl (x := .none) rfl (wpAny_pure ?_))
  simp only [if_true]
  refine wpAny_bind (wpAny_rule ?_)
  refine wpAny_bind (wpAny_field hz rfl (x := .ref TO) rfl ?_)
  refine wpAny_bind (wpAny_setField_rec hz (by simp) fun h₁ hz₁ hs₁ => ?_)
  replace hz₁ : IsZs h₁ z TI TO .ellipsis bb := hz₁
  refine wpAny_bind ?_
  simp only [List.zipIdx_cons, List.zipIdx_nil, List.forIn_cons, List.forIn_nil]
  refine wpAny_bind (wpAny_bind (wpAny_onRaise ?_))
  show wpAny _ _ (Builtin.SmallTypes.nextOrEnd (.ref i1)) _ _ _
  refine nextOrEnd_end hh (h1.extBut hs₁.extBut D.i1z) (hl1.extBut hs₁.extBut D.l1z) hx fun h₂ hs₂ => ?_
  have hz₂ : IsZs h₂ z TI TO .ellipsis bb := hs₂ _ _ D.i1z.symm hz₁
  refine wpAny_bind (wpAny_setField_rec hz₂ (by simp) fun h₃ hz₃ hs₃ => ?_)
  refine wpAny_bind ?_
  wp_delta
  rw [if_neg (by decide : ¬ (0 > 0))]
  simp only [List.drop_succ_cons, List.drop_zero, List.zipIdx_cons, List.zipIdx_nil, List.forIn_cons, List.forIn_nil]
  refine wpAny_bind ?_
  refine wpAny_bind (wpAny_bind (nextOrEnd_end hh (((h2.extBut hs₁.extBut D.i2z).extBut hs₂ D.i12.symm).extBut hs₃.extBut D.i2z) (((hl2.extBut hs₁.extBut D.l2z).extBut hs₂ D.l2i1).extBut hs₃.extBut D.l2z) hy fun h₄ hs₄ => ?_))
  simp only [Option.isSome_none, Bool.false_eq_true, if_false]
  refine wpAny_pure (wpAny_pure (wpAny_bind (wpAny_rule ?_)))
  refine stop_any hh fun h₅ e hk he => hE h₅ e (fun c o c1 _ c3 c4 x => hk c o (hs₄ c o c4 (hs₃.extBut _ _ c1 (hs₂ _ _ c3 (hs₁.extBut _ _ c1 x))))) he
theorem zs_held {z TI TO T : Addr} {f : Bool} {oT : Obj} {Q : Bool → Shared → Prop} (hz : IsZs s.heap z TI TO (rawInt T) f) (hT : s.heap.get? T = some oT)
    (h : ∀ h', IsZs h' z TI TO (rawInt T) true → Heap.SameBut z s.heap h' → Q false { s with heap := h' }) : wpAny (model prog w) A (Builtin.SmallTypes.ownedTupleIsFree (.ref z)) Q E s := by
  unfold Builtin.SmallTypes.ownedTupleIsFree
  refine wpAny_bind (wpAny_field hz rfl (x := rawInt T) rfl ?_)
  show wpAny _ _ (loadIfAlive ((T : Int).toNat) >>= _) _ _ _
  rw [Int.toNat_natCast]
  refine wpAny_bind (kdx_alive hT ?_)
  simp only [Option.isNone_some, Bool.false_eq_true, if_false]
  refine wpAny_bind (wpAny_field hz rfl (x := .bool f) rfl ?_)
  cases f with
  | true =>
    rw [if_neg (show ¬ ((Value.bool true != Value.bool true) = true) from Bool.false_ne_true)]
    exact wpAny_pure (h s.heap hz (Heap.SameBut.refl _ _))
  | false =>
    rw [if_pos (show (Value.bool false != Value.bool true) = true from rfl)]
    exact wpAny_bind (wpAny_setField_rec hz (by simp) fun h₁ hz₁ hs₁ => wpAny_pure (h h₁ hz₁ hs₁))
theorem zs_held_item {z TI TO T i1 i2 l1 l2 : Addr} {f : Bool} {oT : Obj} {k1 k2 : Nat} {xs ys : Array Value} {x y : Value} {Q : Value → Shared → Prop} (D : ZipApart z TI TO i1 i2 l1 l2)
    (hz : IsZs s.heap z TI TO (rawInt T) f) (hT : s.heap.get? T = some oT) (hTI : IsPair s.heap TI (.ref i1) (.ref i2))
    (h1 : s.heap.IsTupleIter i1 l1 k1) (h2 : s.heap.IsTupleIter i2 l2 k2) (hl1 : s.heap.IsTuple l1 xs) (hl2 : s.heap.IsTuple l2 ys) (hx : xs[k1]? = some x) (hy : ys[k2]? = some y)
    (hQ : ∀ h', IsZs h' z TI TO (rawInt T) true → h'.IsTupleIter i1 l1 (k1 + 1) → h'.IsTupleIter i2 l2 (k2 + 1) → IsPair h' s.heap.objs.size x y → h'.objs.size = s.heap.objs.size + 1 →
      (∀ c o, c ≠ z → c ≠ i1 → c ≠ i2 → s.heap.get? c = some o → h'.get? c = some o) → Q (.ref s.heap.objs.size) { s with heap := h' }) :
    wpAny (model prog w) A (Builtin.«zip.__next__» ⟨[.ref z], []⟩) (fun fin s' => ∃ v, fin = .done (.ret v) ∧ Q v s') E s := by
  show wpAny _ _ (field (.ref z) 2 >>= _) _ _ _
  refine wpAny_bind (wpAny_field hz rfl (x := .bool true) rfl ?_)
  show wpAny _ _ (field (.ref z) 3 >>= _) _ _ _
  refine wpAny_bind (wpAny_field hz rfl (x := .ref TI) rfl ?_)
  refine wpAny_bind (wpAny_seqItems hTI rfl ?_)
  show wpAny _ _ (Builtin.SmallTypes.ownedTupleIsFree (.ref z) >>= _) _ _ _
  refine wpAny_bind (zs_held hz hT fun h₁ hz₁ hs₁ => ?_)
  simp only [Bool.false_eq_true, if_false]
  refine wpAny_bind ?_
  rw [← Array.forIn_toList]
  simp only [List.forIn_cons, List.forIn_nil]
  refine wpAny_bind (wpAny_bind (wpAny_holding ?_))
  show wpAny _ _ (Builtin.SmallTypes.nextOrEnd (.ref i1)) _ _ _
  refine nextOrEnd_item (s := { s with heap := h₁ }) (h1.extBut hs₁.extBut D.i1z) (hl1.extBut hs₁.extBut D.l1z) hx fun h₂ h1₂ hs₂ => ?_
  refine wpAny_pure ?_
  refine wpAny_bind (wpAny_bind (wpAny_holding ?_))
  show wpAny _ _ (Builtin.SmallTypes.nextOrEnd (.ref i2)) _ _ _
  refine nextOrEnd_item (s := { s with heap := h₂ }) ((h2.extBut hs₁.extBut D.i2z).extBut hs₂.extBut D.i12.symm) ((hl2.extBut hs₁.extBut D.l2z).extBut hs₂.extBut D.l2i1) hy fun h₃ h2₃ hs₃ => ?_
  refine wpAny_pure (wpAny_pure ?_)
  show wpAny _ _ (newTuple [x, y] >>= _) _ _ _
  refine wpAny_bind (wpAny_newTuple ?_)
  have hsz : h₃.objs.size = s.heap.objs.size := by rw [hs₃.1, hs₂.1, hs₁.1]
  have hz₃ : IsZs h₃ z TI TO (rawInt T) true := hs₃.extBut _ _ D.i2z.symm (hs₂.extBut _ _ D.i1z.symm hz₁)
  have hk : ∀ c o, c ≠ z → c ≠ i1 → c ≠ i2 → s.heap.get? c = some o → h₃.get? c = some o := fun c o c1 c2 c3 e => hs₃.extBut _ _ c3 (hs₂.extBut _ _ c2 (hs₁.extBut _ _ c1 e))
  have h1₃ : h₃.IsTupleIter i1 l1 (k1 + 1) := h1₂.extBut hs₃.extBut D.i12
  refine wpAny_pure ⟨_, rfl, ?_⟩
  show Q (.ref h₃.objs.size) _
  have hp : IsPair (h₃.push { cls := .type "tuple", data := .seq #[x, y] }) h₃.objs.size x y := Heap.get?_push_size _ rfl
  have hz4 : (h₃.push { cls := .type "tuple", data := .seq #[x, y] }).objs.size = h₃.objs.size + 1 := Heap.size_push ..
  rw [hsz] at hp hz4 ⊢
  exact hQ _ (Heap.get?_push_of_some _ hz₃) (h1₃.at fun o e => Heap.get?_push_of_some _ e) (h2₃.at fun o e => Heap.get?_push_of_some _ e) hp hz4 fun c o c1 c2 c3 e => Heap.get?_push_of_some _ (hk c o c1 c2 c3 e)
theorem zs_held_end {z TI TO T i1 i2 l1 l2 : Addr} {f : Bool} {oT : Obj} {k1 k2 : Nat} {xs ys : Array Value} {Q : Fin → Shared → Prop} (hh : A.handled = none) (D : ZipApart z TI TO i1 i2 l1 l2)
    (hz : IsZs s.heap z TI TO (rawInt T) f) (hT : s.heap.get? T = some oT) (hTI : IsPair s.heap TI (.ref i1) (.ref i2))
    (h1 : s.heap.IsTupleIter i1 l1 k1) (h2 : s.heap.IsTupleIter i2 l2 k2) (hl1 : s.heap.IsTuple l1 xs) (hl2 : s.heap.IsTuple l2 ys) (hx : xs[k1]? = none) (hy : ys[k2]? = none)
    (hE : ∀ h' e, (∀ c o, c ≠ z → c ≠ i1 → c ≠ i2 → s.heap.get? c = some o → h'.get? c = some o) → (∃ o, h'.get? e = some o ∧ o.cls = .type "StopIteration") → E (.ref e) { s with heap := h' }) :
    wpAny (model prog w) A (Builtin.«zip.__next__» ⟨[.ref z], []⟩) Q E s := by
  show wpAny _ _ (field (.ref z) 2 >>= _) _ _ _
  refine wpAny_bind (wpAny_field hz rfl (x := .bool true) rfl ?_)
  show wpAny _ _ (field (.ref z) 3 >>= _) _ _ _
  refine wpAny_bind (wpAny_field hz rfl (x := .ref TI) rfl ?_)
  refine wpAny_bind (wpAny_seqItems hTI rfl ?_)
  show wpAny _ _ (Builtin.SmallTypes.ownedTupleIsFree (.ref z) >>= _) _ _ _
  refine wpAny_bind (zs_held hz hT fun h₁ hz₁ hs₁ => ?_)
  simp only [Bool.false_eq_true, if_false]
  refine wpAny_bind ?_
  rw [← Array.forIn_toList]
  simp only [List.forIn_cons, List.forIn_nil]
  refine wpAny_bind (wpAny_bind (wpAny_holding ?_))
  show wpAny _ _ (Builtin.SmallTypes.nextOrEnd (.ref i1)) _ _ _
  refine nextOrEnd_end (s := { s with heap := h₁ }) hh (h1.extBut hs₁.extBut D.i1z) (hl1.extBut hs₁.extBut D.l1z) hx fun h₂ hs₂ => ?_
  refine wpAny_bind ?_
  wp_delta
  rw [if_neg (by decide : ¬ ((#[] : Array Value).size > 0))]
  simp only [List.drop_succ_cons, List.drop_zero, List.zipIdx_cons, List.zipIdx_nil, List.forIn_cons, List.forIn_nil]
  refine wpAny_bind ?_
  refine wpAny_bind (wpAny_bind (nextOrEnd_end (s := { s with heap := h₂ }) hh ((h2.extBut hs₁.extBut D.i2z).extBut hs₂ D.i12.symm) ((hl2.extBut hs₁.extBut D.l2z).extBut hs₂ D.l2i1) hy fun h₄ hs₄ => ?_))
  simp only [Option.isSome_none, Bool.false_eq_true, if_false]
  refine wpAny_pure (wpAny_pure (wpAny_bind (wpAny_rule ?_)))
  refine stop_any hh fun h₅ e hk he => hE h₅ e (fun c o c1 c3 c4 x => hk c o (hs₄ c o c4 (hs₂ _ _ c3 (hs₁.extBut _ _ c1 x)))) he
theorem pyNext_of {z TI TO : Addr} {f0 : Value} {b : Bool} {Q : Option Value → Shared → Prop} (hz : IsZs s.heap z TI TO f0 b)
    (h : wpAny (model prog w) A.in1 (Builtin.«zip.__next__» ⟨[.ref z], []⟩) (fun fin s' => ∃ v, fin = .done (.ret v) ∧ Q (some v) s') (fun e s' => ∃ o, e = .ref o ∧ (∃ ob, s'.heap.get? o = some ob ∧ ob.cls = .type "StopIteration") ∧ Q none s') s) :
    wpAny (model prog w) A (pyNext (.ref z)) Q E s := by
  have hTy : s.TypeIs (.ref z) "zip" := ⟨_, hz, rfl⟩
  unfold pyNext
  refine wpAny_bind (wpAny_attempt (wpAny_callSpecial?_slot (name := Str.ofString "__next__") hTy F.slot_zip_next
    (wpAny_call_entry F.slot_zip_next hTy F.entry_zip_next (wpAny_mono h (fun fin s' hq => ?_) fun e s' hq => ?_) (F.args_zip_next_1 _))))
  · obtain ⟨v, e, q⟩ := hq
    exact ⟨v, e, wpAny_pure q⟩
  · obtain ⟨o, rfl, ⟨ob, ho, hc⟩, q⟩ := hq
    refine wpAny_bind (wpAny_isInstance (T := "StopIteration") (b := true) ⟨ob, ho, hc⟩ isSubtype_stop ?_)
    exact wpAny_pure q
end
end Zs
end
section
set_option Elab.async false
set_option linter.all false
set_option maxRecDepth 100000
set_option maxHeartbeats 2000000
/-! Zs2: the call zip(a, b, strict=True); pairs made one by one, listed. -/
namespace Zs
open PySem
open PySem.Sem (wp)
open RZ
abbrev skw : List (Str × Value) := [(Str.ofString "strict", .bool true)]
abbrev zsH5 (h : Heap) (l1 l2 : Addr) : Heap := (zipTH4 h l1 l2).push { cls := .type "zip", data := .fields #[.none, .bool false, .bool true, .ref (zipTH2 h l1 l2).objs.size, .ref (zipTH3 h l1 l2).objs.size] }
theorem meets_zs_new (l1 l2 : Addr) (xs ys : Array Value) :
    Meets (Builtin.«zip.__new__» ⟨[.type "zip", .ref l1, .ref l2], skw⟩) (fun _ R s => s.heap.IsTuple l1 xs ∧ s.heap.IsTuple l2 ys ∧
      R (.ok (.ret (.ref (zipTH4 s.heap l1 l2).objs.size))) { s with heap := zsH5 s.heap l1 l2 }) :=
  .of_wp fun prog w A R s h => by
    obtain ⟨hp, g, d, tk, os⟩ := s; obtain ⟨hl1, hl2, h⟩ := h
    have hsub := sub_zip
    have hL1 : Heap.IsTuple (Shared.heap ⟨hp, g, d, tk, os⟩) l1 xs := hl1
    have hL2 : Heap.IsTuple (Shared.heap ⟨hp.push { cls := .type "tuple_iterator", data := .fields #[.ref l1, .int 0 0] }, g, d, tk, os⟩) l2 ys := Heap.IsTuple.push hl2 _
    have e1 : (Str.ofString "strict" != ("strict" : Str)) = false := by decide +kernel
    wp_walk using wpAny_pyIter_tuple hL1, wpAny_pyIter_tuple hL2
    exact ⟨_, rfl, h⟩
theorem typeCall_zs (a b : Value) : checkTypeCall "zip" ⟨[a, b], skw⟩ = pure () := by kernel_rfl
theorem newCall_zs (a b : Value) : checkBuiltinCall "zip.__new__" ⟨[.type "zip", a, b], skw⟩ = pure () := by kernel_rfl
theorem args_zs (obj a b : Value) : argsOk "object.__init__" ⟨[obj, a, b], skw⟩ := by unfold argsOk; kernel_rfl
section
variable {prog : Program} {w : World} {A : Around} {E : Value → Shared → Prop} {s : Shared}
theorem call_zs {l1 l2 : Addr} {xs ys : Array Value} {Q : Value → Shared → Prop} (hl1 : s.heap.IsTuple l1 xs) (hl2 : s.heap.IsTuple l2 ys)
    (h : ∀ h', IsZs h' (s.heap.objs.size + 4) (s.heap.objs.size + 2) (s.heap.objs.size + 3) .none false → IsPair h' (s.heap.objs.size + 2) (.ref s.heap.objs.size) (.ref (s.heap.objs.size + 1)) →
      IsPair h' (s.heap.objs.size + 3) .none .none → h'.IsTupleIter s.heap.objs.size l1 0 → h'.IsTupleIter (s.heap.objs.size + 1) l2 0 → h'.objs.size = s.heap.objs.size + 5 →
      (∀ c o, s.heap.get? c = some o → h'.get? c = some o) → Q (.ref (s.heap.objs.size + 4)) { s with heap := h' }) :
    wpAny (model prog w) A (call (.type "zip") [.ref l1, .ref l2] skw) Q E s := by
  refine callType_newKw F.called_zip (by decide) (typeCall_zs _ _) (newCall_zs _ _) (fun obj => args_zs obj _ _) F.entry_zip_new
    (meets_zs_new l1 l2 xs ys) ⟨hl1, hl2, ?_⟩
  have z1 : (zipTH1 s.heap l1).objs.size = s.heap.objs.size + 1 := Heap.size_push ..
  have z2 : (zipTH2 s.heap l1 l2).objs.size = s.heap.objs.size + 2 := by rw [Heap.size_push, z1]
  have z3 : (zipTH3 s.heap l1 l2).objs.size = s.heap.objs.size + 3 := by rw [Heap.size_push, z2]
  have z4 : (zipTH4 s.heap l1 l2).objs.size = s.heap.objs.size + 4 := by rw [Heap.size_push, z3]
  have z5 : (zsH5 s.heap l1 l2).objs.size = s.heap.objs.size + 5 := by rw [Heap.size_push, z4]
  have g5 : (zsH5 s.heap l1 l2).get? (zipTH4 s.heap l1 l2).objs.size = some _ := Heap.get?_push_size _ rfl
  have g4 : (zsH5 s.heap l1 l2).get? (zipTH3 s.heap l1 l2).objs.size = some _ := Heap.get?_push_of_some _ (Heap.get?_push_size _ rfl)
  have g3 : (zsH5 s.heap l1 l2).get? (zipTH2 s.heap l1 l2).objs.size = some _ := Heap.get?_push_of_some _ (Heap.get?_push_of_some _ (Heap.get?_push_size _ rfl))
  have g2 : (zsH5 s.heap l1 l2).get? (zipTH1 s.heap l1).objs.size = some _ := Heap.get?_push_of_some _ (Heap.get?_push_of_some _ (Heap.get?_push_of_some _ (Heap.get?_push_size _ rfl)))
  have g1 : (zsH5 s.heap l1 l2).get? s.heap.objs.size = some _ := Heap.get?_push_of_some _ (Heap.get?_push_of_some _ (Heap.get?_push_of_some _ (Heap.get?_push_of_some _ (Heap.get?_push_size _ rfl))))
  show _ ∧ _
  rw [z2, z3, z4] at g5
  rw [z1, z2] at g3
  rw [z3] at g4
  rw [z1] at g2
  rw [z4]
  exact ⟨⟨_, g5, rfl⟩, h _ g5 g3 g4 ⟨_, g1, rfl, rfl⟩ ⟨_, g2, rfl, rfl⟩ z5 fun c o x =>
    Heap.get?_push_of_some _ (Heap.get?_push_of_some _ (Heap.get?_push_of_some _ (Heap.get?_push_of_some _ (Heap.get?_push_of_some _ x))))⟩
theorem go_zs {elts : List Expr} {x1} {pos : Pos} {z TI TO T : Addr} {b : Bool} {Q : Unit → Shared → Prop} (hz : IsZs s.heap z TI TO (rawInt T) b)
    (hQ : ∀ h', IsZs h' z TI TO .none b → Heap.SameBut z s.heap h' → Q () { s with heap := h' }) : wpAny (model prog w) A (letOwnedTupleGo (.Tuple elts x1 pos) (.ref z) (.ref T)) Q E s := by
  unfold letOwnedTupleGo
  refine wpAny_bind (wpAny_load hz ?_)
  show wpAny _ _ (if (["enumerate", "zip", "dict_itemiterator", "dict_reverseitemiterator", "odict_iterator", "itertools.zip_longest", "itertools.pairwise"].contains "zip" &&
      (#[rawInt T, .bool b, .bool true, .ref TI, .ref TO] : Array Value)[0]? == some (rawInt T)) = true then _ else _) Q E s
  rw [if_pos (by simp)]
  refine wpAny_bind (wpAny_rule ?_)
  show wpAny _ _ (setField (.ref z) 0 .none) Q E s
  exact wpAny_setField_rec hz (by simp) fun h' hz' hs' => hQ h' hz' hs'
theorem iter_zs {z TI TO : Addr} {f0 : Value} {b : Bool} {Q : Value → Shared → Prop} (hz : IsZs s.heap z TI TO f0 b) (h : Q (.ref z) s) : wpAny (model prog w) A (pyIter (.ref z)) Q E s := by
  have hT : s.TypeIs (.ref z) "zip" := ⟨_, hz, rfl⟩
  refine wpAny_pyIter_slot hT F.slot_zip_iter (wpAny_call_entry F.slot_zip_iter hT F.entry_zip_iter ?_ (F.args_zip_iter_1 _))
  show wpAny _ _ (ret (.ref z)) _ _ s
  exact wpAny_pure ⟨_, rfl, "zip", _, hT, F.slot_zip_next.lookup, h⟩

/-! ### a list of pairs that are made one by one -/
/-- the pairs, new, as they stand -/
structure Prs (Pr : Nat → Value → Value → Prop) (lo : Nat) (h : Heap) (as : List Addr) : Prop where
  above : ∀ a ∈ as, lo ≤ a
  nodup : as.Pairwise (· < ·)
  pairs : ∀ (j : Nat) (a : Addr), as[j]? = some a → ∃ x y, Pr j x y ∧ h.get? a = some { cls := .type "tuple", data := .seq #[x, y] }
theorem Prs.there {Pr : Nat → Value → Value → Prop} {lo : Nat} {h : Heap} {as : List Addr} (g : Prs Pr lo h as) {a : Addr} (ha : a ∈ as) : a < h.objs.size := by
  obtain ⟨j, hj⟩ := List.mem_iff_getElem?.mp ha
  obtain ⟨_, _, _, e⟩ := g.pairs j a hj
  exact Heap.lt_size e
theorem Prs.keep {Pr : Nat → Value → Value → Prop} {lo : Nat} {h h' : Heap} {as : List Addr} (g : Prs Pr lo h as) (k : ∀ b o, lo ≤ b → h.get? b = some o → h'.get? b = some o) : Prs Pr lo h' as :=
  ⟨g.above, g.nodup, fun j a hj => let ⟨x, y, p, e⟩ := g.pairs j a hj; ⟨x, y, p, k a _ (g.above a (List.mem_of_getElem? hj)) e⟩⟩
/-- an iterator that gives a new pair at each turn; lo: below it stands what it writes -/
structure Mkr (prog : Program) (w : World) (A : Around) (I S : Addr) (lo : Nat) (wr : List Addr) (n : Nat) (Pr : Nat → Value → Value → Prop) (St : Nat → Heap → Prop) : Prop where
  low : ∀ b ∈ wr, b < lo
  nS : S ∉ wr
  frame : ∀ i h h', St i h → (∀ b o, b ≠ S → h.get? b = some o → h'.get? b = some o) → St i h'
  item : ∀ i (s : Shared) (Q : Option Value → Shared → Prop) (E : Value → Shared → Prop), i < n → St i s.heap → S < s.heap.objs.size → lo ≤ s.heap.objs.size →
    (∀ x y h' tk, Pr i x y → St (i + 1) h' → h'.get? s.heap.objs.size = some { cls := .type "tuple", data := .seq #[x, y] } → (∀ b o, b ∉ wr → s.heap.get? b = some o → h'.get? b = some o) → Q (some (.ref s.heap.objs.size)) { s with heap := h', toks := tk }) →
    wpAny (model prog w) A (pyNext (.ref I)) Q E s
  done : ∀ (s : Shared) (Q : Option Value → Shared → Prop) (E : Value → Shared → Prop), St n s.heap → (∀ h' tk, (∀ b o, b ∉ wr → s.heap.get? b = some o → h'.get? b = some o) → Q none { s with heap := h', toks := tk }) → wpAny (model prog w) A (pyNext (.ref I)) Q E s
theorem mkr_loop {I S : Addr} {lo n : Nat} {wr : List Addr} {Pr : Nat → Value → Value → Prop} {St : Nat → Heap → Prop} {R : Result → Shared → Prop} (M : Mkr prog w A.in1 I S lo wr n Pr St) (hSl : S < lo) (hn : n ≤ sizeLine) (res : Value) {h₁ : Heap}
    (hR : ∀ h' tk acc c as, (∀ b o, b ≠ S → b ∉ wr → h₁.get? b = some o → h'.get? b = some o) → h'.get? S = some { cls := .type "list", dict := none, data := .seq acc c, slots := #[] } → as.length = n → Prs Pr lo h' as →
      acc.toList = as.map Value.ref → R (.ok (.ret res)) { s with heap := h', toks := tk }) :
    ∀ (k i : Nat) (h : Heap) (tk c : Nat) (acc : Array Value) (as : List Addr), n - i = k → i ≤ n → St i h → lo ≤ h.objs.size → (∀ b o, b ≠ S → b ∉ wr → h₁.get? b = some o → h.get? b = some o) →
      h.get? S = some { cls := .type "list", dict := none, data := .seq acc c, slots := #[] } → acc.toList = as.map Value.ref → as.length = i → Prs Pr lo h as →
      codeAny (model prog w) A (.builtin "list.extend.loop" ⟨[.ref S, .ref I, res], []⟩) R { s with heap := h, toks := tk } := by
  intro k
  induction k with
  | zero =>
    intro i h tk c acc as hk hi hst hlo hkeep hS hacc hal hG
    have hin : i = n := by omega
    subst hin
    refine codeAny_builtin PySem.F.entry_extend_loop ?_
    rw [Around.under_plainId PySem.F.plain_extend_loop _]
    show wpAny _ A.in1 (pyNext (.ref I) >>= _) _ _ _
    refine wpAny_bind (M.done { s with heap := h, toks := tk } _ _ hst fun h' tk' he => ?_)
    refine wpAny_pure (hR h' tk' acc c as (fun b o h1 h2 e => he b o h2 (hkeep b o h1 h2 e)) (he S _ M.nS hS) hal (hG.keep fun b o hb e => he b o (fun m => absurd (M.low b m) (Nat.not_lt.mpr hb)) e) hacc)
  | succ k ih =>
    intro i h tk c acc as hk hi hst hlo hkeep hS hacc hal hG
    have hlt : i < n := by omega
    have hsz : acc.size = i := by rw [← Array.length_toList, hacc, List.length_map, hal]
    have hSh : S < h.objs.size := Heap.lt_size hS
    refine codeAny_builtin PySem.F.entry_extend_loop ?_
    rw [Around.under_plainId PySem.F.plain_extend_loop _]
    show wpAny _ A.in1 (pyNext (.ref I) >>= _) _ _ _
    refine wpAny_bind (M.item i { s with heap := h, toks := tk } _ _ hlt hst hSh hlo fun x y h' tk' hxy hst' ht hkp => ?_)
    dsimp only at ht hkp ⊢
    have hS' := hkp S _ M.nS hS
    have up : ∀ b o, b ≠ S → h'.get? b = some o → (h'.update S (Obj.mapSeq (·.push (Value.ref h.objs.size)))).get? b = some o := fun b o hb e => (Heap.get?_update_other _ _ (Ne.symm hb)).trans e
    have nw : ∀ b, lo ≤ b → b ∉ wr := fun b hb m => absurd (M.low b m) (Nat.not_lt.mpr hb)
    have nS : ∀ b, lo ≤ b → b ≠ S := fun b hb z => absurd hSl (by rw [← z]; exact Nat.not_lt.mpr hb)
    show wpAny _ A.in1 (updateSeq S (·.push (Value.ref h.objs.size)) >>= _) _ _ _
    refine wpAny_bind ?_
    refine wpAny_updateSeq hS' rfl (wpAny_pure ⟨plainId_quiet PySem.F.plain_extend_loop _, ih (i + 1) _ tk' _ (acc.push (Value.ref h.objs.size)) (as ++ [h.objs.size]) (by omega) hlt (M.frame _ _ _ hst' up) ?_
      (fun b o h1 h2 e => up b o h1 (hkp b o h2 (hkeep b o h1 h2 e))) (Heap.get?_update_self _ hS' rfl) (by rw [Array.toList_push, hacc, List.map_append]; rfl) (by rw [List.length_append, hal]; rfl) ⟨?_, ?_, ?_⟩⟩) (by rw [hsz]; omega) (by show (acc.push (Value.ref h.objs.size)).size ≤ sizeLine + 1; rw [Array.size_push, hsz]; omega)
    · have e : (h'.update S (Obj.mapSeq (·.push (Value.ref h.objs.size)))).get? h.objs.size = _ := up _ _ (nS _ hlo) ht
      exact Nat.le_trans hlo (Nat.le_of_lt (Heap.lt_size e))
    · intro a ha
      rcases List.mem_append.mp ha with ha | ha
      · exact hG.above a ha
      · rw [List.mem_singleton.mp ha]; exact hlo
    · refine List.pairwise_append.mpr ⟨hG.nodup, List.pairwise_singleton _ _, fun a ha b hb => ?_⟩
      rw [List.mem_singleton.mp hb]
      exact hG.there ha
    · intro j b hj
      rcases Nat.lt_trichotomy j as.length with h1 | h1 | h1
      · rw [List.getElem?_append_left h1] at hj
        obtain ⟨x', y', e1, e2⟩ := hG.pairs j b hj
        have hb := hG.above b (List.mem_of_getElem? hj)
        exact ⟨x', y', e1, up b _ (nS _ hb) (hkp b _ (nw _ hb) e2)⟩
      · subst h1
        have hb : h.objs.size = b := by simpa using hj
        subst hb
        exact ⟨x, y, by rw [hal]; exact hxy, up _ _ (nS _ hlo) ht⟩
      · have hnone : (as ++ [h.objs.size])[j]? = none := List.getElem?_eq_none (by rw [List.length_append, List.length_singleton]; omega)
        rw [hnone] at hj; cases hj
/-- list(I), I an iterator of its own -/
theorem mkr_call {I : Addr} {T : String} {n : Nat} {wr : List Addr} {Pr : Nat → Value → Value → Prop} {St : Nat → Heap → Prop} {Q : Value → Shared → Prop} (M : Mkr prog w A.in1.in1 I s.heap.objs.size (s.heap.objs.size + 1) wr n Pr St) (hn : n ≤ sizeLine) (hI : I < s.heap.objs.size)
    (ty : ∀ h : Heap, (∀ o, s.heap.get? I = some o → h.get? I = some o) → ({ s with heap := h } : Shared).TypeIs (.ref I) T) (notList : (Value.type T == Value.type "list") = false) (notTuple : (Value.type T == Value.type "tuple") = false)
    (nolen : typeLookup (.type T) "__len__" = pure none) (nohint : typeLookup (.type T) "__length_hint__" = pure none)
    (self : ∀ (A : Around) (h : Heap) (Q : Value → Shared → Prop) (E : Value → Shared → Prop), (∀ o, s.heap.get? I = some o → h.get? I = some o) → Q (.ref I) { s with heap := h } → wpAny (model prog w) A (pyIter (.ref I)) Q E { s with heap := h })
    (st : ∀ h, (∀ b o, b ≠ s.heap.objs.size → s.heap.get? b = some o → h.get? b = some o) → St 0 h)
    (hQ : ∀ h' tk acc c as, (∀ b o, b ∉ wr → s.heap.get? b = some o → h'.get? b = some o) → h'.get? s.heap.objs.size = some { cls := .type "list", dict := none, data := .seq acc c, slots := #[] } → as.length = n → Prs Pr (s.heap.objs.size + 1) h' as → acc.toList = as.map Value.ref →
      Q (.ref s.heap.objs.size) { s with heap := h', toks := tk }) : wpAny (model prog w) A (call (.type "list") [.ref I]) Q E s := by
  refine callType_codes (Q₁ := fun obj s₁ => obj = .ref s.heap.objs.size ∧ s₁ = { s with heap := s.heap.push { cls := .type "list", data := .seq #[] } }) F.called_list (F.typeCall_list_1 _) F.entry_list_init
    (code_list_new _ ⟨rfl, rfl⟩) fun obj s₁ h₁ => ?_
  obtain ⟨rfl, rfl⟩ := h₁
  have hS : (s.heap.push { cls := .type "list", data := .seq #[] }).get? s.heap.objs.size = some { cls := .type "list", data := .seq #[] } := Heap.get?_push_size _ rfl
  refine ⟨⟨_, hS, rfl⟩, F.args_list_init_2 _ _, ?_⟩
  have hIS : I ≠ s.heap.objs.size := Nat.ne_of_lt hI
  have hz0 : s.heap.objs.size + 1 ≤ (s.heap.push { cls := .type "list", data := .seq #[] }).objs.size := by rw [Heap.size_push]; exact Nat.le_refl _
  show wpAny _ A.in1.in1 (do let old ← Builtin.List.listItems (.ref s.heap.objs.size); Builtin.List.listUpdate (.ref s.heap.objs.size) (fun _ => #[]); letGo old.toList.reverse; Builtin.List.listExtendWith (.ref s.heap.objs.size) (.ref I) .none) _ _ _
  refine wpAny_bind ?_
  unfold Builtin.List.listItems
  refine wpAny_bind (wpAny_seqItems hS rfl (wpAny_pure ?_))
  show wpAny _ A.in1.in1 (updateSeq s.heap.objs.size (fun _ => #[]) >>= fun _ => letGo (#[] : Array Value).toList.reverse >>= fun _ => Builtin.List.listExtendWith (.ref s.heap.objs.size) (.ref I) .none) _ _ _
  refine wpAny_bind (wpAny_updateSeq hS rfl ?_)
  have hS₂ := Heap.get?_update_self (Obj.mapSeq (fun _ => (#[] : Array Value))) hS rfl
  have oth : ∀ b o, b ≠ s.heap.objs.size → s.heap.get? b = some o → ((s.heap.push { cls := .type "list", data := .seq #[] }).update s.heap.objs.size (Obj.mapSeq (fun _ => (#[] : Array Value)))).get? b = some o :=
    fun b o hb e => (Heap.get?_update_other _ _ (Ne.symm hb)).trans (Heap.get?_push_of_some _ e)
  have hz2 : s.heap.objs.size + 1 ≤ ((s.heap.push { cls := .type "list", data := .seq #[] }).update s.heap.objs.size (Obj.mapSeq (fun _ => (#[] : Array Value)))).objs.size := Heap.lt_size hS₂
  generalize hg : (s.heap.push { cls := .type "list", data := .seq #[] }).update s.heap.objs.size (Obj.mapSeq (fun _ => (#[] : Array Value))) = g at hS₂ oth hz2
  refine wpAny_bind (wpAny_letGo ?_)
  unfold Builtin.List.listExtendWith
  refine wpAny_bind (wpAny_typeOf (ty g fun o e => oth I o hIS e) ?_)
  have h1 : Builtin.List.listSameRef (.ref s.heap.objs.size) (.ref I) = false := by simp [Builtin.List.listSameRef, Ne.symm hIS]
  simp only [h1, notList, notTuple, Bool.or_false, Bool.false_eq_true, if_false]
  refine wpAny_bind (self _ g _ _ (fun o e => oth I o hIS e) ?_)
  refine wpAny_bind (wpAny_holding ?_)
  unfold Builtin.List.listLengthHint
  refine wpAny_bind (wpAny_specialOf (ty g fun o e => oth I o hIS e) nolen ?_)
  show wpAny _ A.in1.in1 (specialOf (Value.ref I) (Str.ofString "__length_hint__") >>= _) _ _ _
  refine wpAny_bind (wpAny_specialOf (ty g fun o e => oth I o hIS e) nohint ?_)
  refine wpAny_pure ?_
  show wpAny _ A.in1.in1 (rule "list.extend.makes-room" >>= fun _ => Builtin.List.listTouch (.ref s.heap.objs.size) >>= fun _ =>
    again (.builtin "list.extend.loop" ⟨[.ref s.heap.objs.size, .ref I, .none], []⟩)) _ _ _
  refine wpAny_bind (wpAny_rule ?_)
  refine wpAny_bind ?_
  show wpAny _ A.in1.in1 (updateSeq s.heap.objs.size (·.push .none) >>= fun _ => updateSeq s.heap.objs.size (·.pop)) _ _ _
  refine wpAny_bind (wpAny_updateSeq hS₂ rfl ?_)
  have hS₃ := Heap.get?_update_self (Obj.mapSeq (·.push Value.none)) hS₂ rfl
  refine wpAny_updateSeq (hz := by seq_fits) hS₃ rfl ?_
  have hS₄ := Heap.get?_update_self (Obj.mapSeq (·.pop)) hS₃ rfl
  have oth2 : ∀ b o, b ≠ s.heap.objs.size → s.heap.get? b = some o → ((g.update s.heap.objs.size (Obj.mapSeq (·.push Value.none))).update s.heap.objs.size (Obj.mapSeq (·.pop))).get? b = some o :=
    fun b o hb e => (Heap.get?_update_other _ _ (Ne.symm hb)).trans ((Heap.get?_update_other _ _ (Ne.symm hb)).trans (oth b o hb e))
  refine wpAny_pure ⟨plainId_quiet F.plain_extend_loop _, mkr_loop (s := s) M (Nat.lt_succ_self _) hn .none (h₁ := s.heap) (fun h' tk acc c as k1 k2 k3 k4 k5 => ?_) n 0 _ s.toks _ _ [] (by omega) (Nat.zero_le _) (st _ oth2) (Heap.lt_size hS₄) (fun b o h1 _ e => oth2 b o h1 e) hS₄ rfl rfl ⟨by simp, by simp, fun j a hj => by simp at hj⟩⟩
  exact ⟨rfl, hQ h' tk acc c as (fun b o h2 e => k1 b o (Nat.ne_of_lt (Heap.lt_size e)) h2 e) k2 k3 k4 k5⟩
end
end Zs
end
section
set_option Elab.async false
set_option linter.all false
set_option maxRecDepth 100000
set_option maxHeartbeats 1000000
/-! Ev14: zip(a, b, strict=True) of two tuples of one length, walked, listed. -/
namespace EV
open PySem PySem.Spec PyProof.Rows L2 RZ Zs
/-- the tuples at a and b, of one length, the items in new pairs -/
def ItzS (K : PySem.W.Frag) (a b : Addr) : It :=
  ⟨fun i H => ∃ (xs ys : List V) (x y : V), SqT K H a xs ∧ SqT K H b ys ∧ xs[i]? = some x ∧ ys[i]? = some y,
    fun i H v H' => ∃ T x y, ∃ o : Obj, v = .ref T ∧ H T = none ∧ o.dict = none ∧ H' = upd H T (.frz o (.tup [x, y])) ∧ (∀ xs, SqT K H a xs → xs[i]? = some x) ∧ ∀ ys, SqT K H b ys → ys[i]? = some y,
    fun i H => ∃ xs ys : List V, SqT K H a xs ∧ SqT K H b ys ∧ xs.length ≤ i ∧ ys.length ≤ i⟩
theorem turn_zs {P : Program} {w : World} {K : PySem.W.Frag} {elts : List Expr} {kk : Nat} {tpos : Pos} {a b z TI TO i1 i2 : Addr} (D : ZipApart z TI TO i1 i2 a b) :
    Turn P w K (.Tuple elts kk tpos) (ItzS K a b) [z, TI, TO, i1, i2] z (fun i h => IsZs h z TI TO .none false ∧ IsPair h TI (.ref i1) (.ref i2) ∧ (∃ x y, IsPair h TO x y) ∧ h.IsTupleIter i1 a i ∧ h.IsTupleIter i2 b i) where
  mem := by simp
  obj := fun i h st c hc => by
    obtain ⟨hz, hTI, ⟨x, y, hTO⟩, ⟨o1, e1, _, d1⟩, ⟨o2, e2, _, d2⟩⟩ := st
    have e' : c = z ∨ c = TI ∨ c = TO ∨ c = i1 ∨ c = i2 := by simpa using hc
    rcases e' with q | q | q | q | q
    · rw [q]; exact ⟨_, hz, fun v q => nomatch q⟩
    · rw [q]; exact ⟨_, hTI, fun v q => nomatch q⟩
    · rw [q]; exact ⟨_, hTO, fun v q => nomatch q⟩
    · rw [q]; exact ⟨o1, e1, fun v q => by rw [d1] at q; cases q⟩
    · rw [q]; exact ⟨o2, e2, fun v q => by rw [d2] at q; cases q⟩
  keep := fun i h h' st k => by
    obtain ⟨hz, hTI, ⟨x, y, hTO⟩, h1, h2⟩ := st
    exact ⟨k z (by simp) _ hz, k TI (by simp) _ hTI, ⟨x, y, k TO (by simp) _ hTO⟩, h1.at fun o q => k i1 (by simp) o q, h2.at fun o q => k i2 (by simp) o q⟩
  item := by
    intro X hP hw hK hc i pins s σ H E I hf st hg
    subst hP hw hK
    obtain ⟨hz, hTI, ⟨x0, y0, hTO⟩, h1, h2⟩ := st
    obtain ⟨xs, ys, x, y, hqx, hqy, hx, hy⟩ := hg
    obtain ⟨its, rv, p, _⟩ := I.tuple hqx
    obtain ⟨its2, rv2, p2, _⟩ := I.tuple hqy
    obtain ⟨u, hu, ru⟩ := rv.get hx
    obtain ⟨u2, hu2, ru2⟩ := rv2.get hy
    have hzl : z < s.heap.objs.size := Heap.lt_size hz
    refine pyNext_of hz (zs_free_item D hz hTI hTO h1 h2 p p2 (x := u) (y := u2) (by simpa using hu) (by simpa using hu2) fun h' z' TO' h1' h2' hT hsz hk => ?_)
    refine ⟨_, rfl, go_zs (s := { s with heap := h' }) z' fun h'' z'' sb => ?_⟩
    have hT2 : h''.get? s.heap.objs.size = some { cls := .type "tuple", data := .seq #[u, u2] } := (sb.2 _ (Nat.ne_of_gt hzl)).trans hT
    have new : ObjOk X.prog X.w (upd H s.heap.objs.size (.frz { cls := .type "tuple", data := .seq #[u, u2] } (.tup [x, y]))) h'' s.heap.objs.size (.frz { cls := .type "tuple", data := .seq #[u, u2] } (.tup [x, y])) :=
      ⟨hT2, by show 2 ≤ sizeLine; decide, [u, u2], .cons ru (.cons ru2 .nil), ⟨_, hT2, rfl, _, rfl⟩⟩
    have I1 : Inv X pins σ (upd H s.heap.objs.size (.frz { cls := .type "tuple", data := .seq #[u, u2] } (.tup [x, y]))) { s with heap := h'' } :=
      I.turnedNew (t' := s.toks) (ch := [z, TI, TO, i1, i2]) (fun c o hb q => (sb.2 c (fun q' => hb (by simp [q']))).trans (hk c o (fun q' => hb (by simp [q'])) (fun q' => hb (by simp [q'])) (fun q' => hb (by simp [q'])) (fun q' => hb (by simp [q'])) q)) hf (Nat.le_refl _) new
    refine ⟨.ref s.heap.objs.size, _, I1, rfl, ⟨_, x, y, _, rfl, I.hok.fresh (Nat.le_refl _), rfl, rfl, fun l hl => by rw [I.tuple_inj hl hqx]; exact hx, fun l hl => by rw [I.tuple_inj hl hqy]; exact hy⟩, ⟨z'', ?_, ⟨u, u2, ?_⟩, ?_, ?_⟩, fun c hcm => ?_⟩
    · exact (sb.2 _ D.TIz).trans (hk _ _ D.TIz D.TITO D.TIi1 D.TIi2 hTI)
    · exact (sb.2 _ D.TOz).trans TO'
    · exact h1'.at fun o q => (sb.2 _ D.i1z).trans q
    · exact h2'.at fun o q => (sb.2 _ D.i2z).trans q
    · have hlt : c < s.heap.objs.size := by
        have e' : c = z ∨ c = TI ∨ c = TO ∨ c = i1 ∨ c = i2 := by simpa using hcm
        rcases e' with q | q | q | q | q
        · rw [q]; exact hzl
        · rw [q]; exact Heap.lt_size hTI
        · rw [q]; exact Heap.lt_size hTO
        · rw [q]; obtain ⟨_, e1, _⟩ := h1; exact Heap.lt_size e1
        · rw [q]; obtain ⟨_, e2, _⟩ := h2; exact Heap.lt_size e2
      rw [upd_ne (Nat.ne_of_lt hlt)]
      exact (hf c hcm).1
  done := by
    intro X hP hw hK hc i pins s σ H E I hf st hg
    subst hP hw hK
    obtain ⟨hz, hTI, ⟨x0, y0, hTO⟩, h1, h2⟩ := st
    obtain ⟨xs, ys, hqx, hqy, e1, e2⟩ := hg
    obtain ⟨its, rv, p, _⟩ := I.tuple hqx
    obtain ⟨its2, rv2, p2, _⟩ := I.tuple hqy
    have l1 := rv.length
    have l2 := rv2.length
    refine pyNext_of hz (zs_free_end (I.ok.hd hc) D hz hTI hTO h1 h2 p p2 (by simp; omega) (by simp; omega) fun h' e hk he => ⟨e, rfl, he, rfl, ?_⟩)
    exact I.turnedL (t' := s.toks) (ch := [z, TI, TO, i1, i2]) (fun c o hb q =>
      hk c o (fun q' => hb (by simp [q'])) (fun q' => hb (by simp [q'])) (fun q' => hb (by simp [q'])) (fun q' => hb (by simp [q'])) q) hf
  self := fun A i s Q E st h => iter_zs st.1 h
section
variable {M : Model} {A : Around} {E : Value → Shared → Prop} {s : Shared} {env : PySem.Env}
theorem callWith_type_kwB {pos : Pos} {T : String} {first : List Value} {args : List (Bool × Sem Value)} {keywords : List (Option Str × Sem Value)} {Q : Value → Shared → Prop}
    (hplain : args.any (·.1) = false) (hkw : keywords.any (·.1.isNone) = false)
    (h : wpAny M A (evalArgs (.type T) true args keywords) (fun a s₁ => wpAny M A (call (.type T) (first ++ a.pos) a.kw) Q E s₁) E s) :
    wpAny M A (callWith pos (.type T) first args keywords) Q E s := by
  unfold callWith
  refine wpAny_bind (wpAny_holding (wpAny_mono h (fun a s₁ h₁ => wpAny_bind (wpAny_standAt ?_)) fun _ _ x => x))
  simp only [hplain, hkw, Bool.or_false]
  refine wpAny_bind (wpAny_pure ?_)
  exact wpAny_bind (wpAny_mono h₁ (fun r s₂ hr => wpAny_bind (wpAny_holding (wpAny_point (wpAny_pure hr)))) fun _ _ x => x)
end
def strictKw (j : Nat) (kp kp2 : Pos) : List Keyword := [⟨some "strict", .Constant (.bool true) j kp, kp2⟩]
section
variable {X : Cx} {F : Fx} {Ex : XK} {n : Nat}
/-- the call zip(e, e2, strict=True) as an argument -/
theorem run_zs {e e2 : Expr} {ta : TA} {p pos kp kp2 : Pos} {j : Nat} (hg : Gl X "zip") (hm : X.mg "zip" = none) (ha : PA X [e, e2] ta) (h1 : plainE e = true) (h2 : plainE e2 = true) {pins : List (Addr × Obj)} {s : Shared} {σ : L2.St} {H : Hp} {R : List V → Hp → Prop} {Q : Value → Shared → Prop} (I : Inv X pins σ H s) (h : ta σ H R)
    (hq : ∀ (vs : List V) (H1 : Hp) (us : List Value) (s1 : Shared), Inv X pins σ H1 s1 → Vals vs us → R vs H1 → wpAny (model X.prog X.w) X.A (call (.type "zip") us skw) Q X.xe s1) :
    wpAny (model X.prog X.w) X.A (eval (.Call (.Name "zip" p) [e, e2] [⟨some "strict", .Constant (.bool true) j kp, kp2⟩] pos) X.env) Q X.xe s := by
  refine wpAny_Call_Name_kw (ld_blt I hg hm PyProof.Rows.boot_zip ?_)
  have hs : starEach [e, e2] X.env = (false, eval e X.env) :: starEach [e2] X.env := star_plain h1
  have hs2 : starEach [e2] X.env = (false, eval e2 X.env) :: starEach [] X.env := star_plain h2
  have hpl : (backTo pos (starEach [e2] X.env)).any (·.1) = false := by rw [hs2]; rfl
  refine callWith_type_kwB (by rw [hs]; show (false || (backTo pos (starEach [e2] X.env)).any (·.1)) = false; rw [hpl]; rfl) rfl ?_
  refine evalArgs_kw2 rfl ?_ hs
  refine thn (ha.run pos pins s σ H _ I h) fun us s1 ⟨vs, H1, I1, r1, q1⟩ => ?_
  refine kwAll_cons ?_
  refine thn ((pe_bl (X := X) (b := true)).run pins s1 σ H1 (fun v H' => v = .bl true ∧ H' = H1) I1 ⟨rfl, rfl⟩) fun v s2 ⟨x, H2, I2, r2, q2⟩ => ?_
  obtain ⟨rfl, rfl⟩ := q2
  refine kwAll_nil ?_
  obtain rfl : v = .bool true := r2
  exact hq vs _ us s2 I2 r1 q1
theorem zs_fresh {pins : List (Addr × Obj)} {s : Shared} {σ : L2.St} {H : Hp} (I : Inv X pins σ H s) : ∀ c, c ∈ [s.heap.objs.size + 4, s.heap.objs.size + 2, s.heap.objs.size + 3, s.heap.objs.size, s.heap.objs.size + 1] → FpOk X pins H c := fun c hcm => by
  have e' : c = s.heap.objs.size + 4 ∨ c = s.heap.objs.size + 2 ∨ c = s.heap.objs.size + 3 ∨ c = s.heap.objs.size ∨ c = s.heap.objs.size + 1 := by simpa using hcm
  have hle : s.heap.objs.size ≤ c := by
    rcases e' with z | z | z | z | z
    · rw [z]; exact Nat.le_add_right _ _
    · rw [z]; exact Nat.le_add_right _ _
    · rw [z]; exact Nat.le_add_right _ _
    · rw [z]; exact Nat.le_refl _
    · rw [z]; exact Nat.le_add_right _ _
  exact I.fpOk hle (I.hok.fresh hle)
def iZs (K : PySem.W.Frag) (ta : TA) : TI := fun σ H R => ta σ H fun vs H1 => ∃ a b xs ys, vs = [.ref a, .ref b] ∧ SqT K H1 a xs ∧ SqT K H1 b ys ∧ R (ItzS K a b) H1
theorem pi_zs {e e2 : Expr} {ta : TA} {p pos tpos kp kp2 : Pos} {j : Nat} {elts : List Expr} {kk : Nat} (hg : Gl X "zip") (hm : X.mg "zip" = none) (ha : PA X [e, e2] ta) (h1 : plainE e = true) (h2 : plainE e2 = true) :
    PI X (.Tuple elts kk tpos) (.Call (.Name "zip" p) [e, e2] [⟨some "strict", .Constant (.bool true) j kp, kp2⟩] pos) (iZs X.K ta) := by
  refine ⟨fun pins s σ H R I h => run_zs hg hm ha h1 h2 I h fun vs H1 us s1 I1 r1 q1 => ?_⟩
  obtain ⟨a, b, xs, ys, ex, hqx, hqy, q⟩ := q1
  subst ex
  cases r1 with
  | cons r rr =>
    cases rr with
    | cons r' rr =>
      cases rr
      cases r
      cases r'
      obtain ⟨its, rv, p1, _⟩ := I1.tuple hqx
      obtain ⟨its2, rv2, p2, _⟩ := I1.tuple hqy
      obtain ⟨o1, ho1, _⟩ := id p1
      obtain ⟨o2, ho2, _⟩ := id p2
      refine call_zs (show s1.heap.IsTuple a its.toArray from p1) (show s1.heap.IsTuple b its2.toArray from p2) fun h' hz hTI hTO h1 h2 hsz hk => iter_zs hz ?_
      have I2 : Inv X pins σ H1 { s1 with heap := h' } := I1.kept (t' := s1.toks) hk
      exact ⟨s1.heap.objs.size + 4, [s1.heap.objs.size + 4, s1.heap.objs.size + 2, s1.heap.objs.size + 3, s1.heap.objs.size, s1.heap.objs.size + 1], _, _, H1, rfl, I2, turn_zs (PySem.W.ktu_apart s1.heap.objs.size a b (Heap.lt_size ho1) (Heap.lt_size ho2)), ⟨hz, hTI, ⟨_, _, hTO⟩, h1, h2⟩, zs_fresh I1, q⟩
def zipP (ps qs : List PV) : List PV := (ps.zip qs).map fun q => .tup [q.1, q.2]
theorem zipP_at {ps qs : List PV} {i : Nat} {p : PV} (h : (zipP ps qs)[i]? = some p) : ∃ a b, ps[i]? = some a ∧ qs[i]? = some b ∧ p = .tup [a, b] := by
  unfold zipP at h
  rw [List.getElem?_map] at h
  cases e : (ps.zip qs)[i]? with
  | none => rw [e] at h; cases h
  | some q =>
    rw [e] at h
    obtain ⟨h1, h2⟩ := List.getElem?_zip_eq_some.mp e
    exact ⟨q.1, q.2, h1, h2, (Option.some.inj h).symm⟩
theorem zipP_len {ps qs : List PV} (h : ps.length = qs.length) : (zipP ps qs).length = ps.length := by
  unfold zipP
  rw [List.length_map, List.length_zip]
  omega
def zsSrc (ps : List PV) (G : GH) : Res Src := match ps with
  | [.tup ps, .tup qs] => if ps.length = qs.length then .ok ⟨zipP ps qs, fun _ => true⟩ G else .bad
  | _ => .bad
def mZipS (ms : Env → GH → Res (List PV)) : Env → GH → Res Src := fun ρ G => (ms ρ G).bind zsSrc
theorem JOk.zs {K : PySem.W.Frag} (hK : F.K = K) {μ : Mu} {H : Hp} {a b : Addr} {vs ws : List V} {ps qs : List PV} (st : StT F μ H a vs) (st2 : StT F μ H b ws) (r : Reps F μ H ps vs) (r2 : Reps F μ H qs ws) (hl : ps.length = qs.length) : JOk F (ItzS K a b) μ H ⟨zipP ps qs, fun _ => true⟩ := by
  subst hK
  intro μ1 H1 G1 e g _
  have sq : SqT F.K H1 a vs := (e.t _ _ st).sq
  have sq2 : SqT F.K H1 b ws := (e.t _ _ st2).sq
  have l1 := r.length
  have l2 := r2.length
  refine ⟨fun i p hp => ?_, vs, ws, sq, sq2, by show vs.length ≤ (zipP ps qs).length; rw [zipP_len hl]; omega, by show ws.length ≤ (zipP ps qs).length; rw [zipP_len hl]; omega⟩
  obtain ⟨x, y, hx, hy, rfl⟩ := zipP_at hp
  obtain ⟨v, h1, h2⟩ := r.get hx
  obtain ⟨u, h3, h4⟩ := r2.get hy
  refine ⟨⟨vs, ws, v, u, sq, sq2, h1, h3⟩, fun z H' hy => ?_⟩
  obtain ⟨T, v', u', o, rfl, hT, hd, rfl, e1, e2⟩ := hy
  have := e1 vs sq
  rw [h1] at this; cases this
  have := e2 ws sq2
  rw [h3] at this; cases this
  refine ⟨fun c o q => by rw [upd_ne (ne_of_none q hT)]; exact q, ?_⟩
  show Rep F μ1 _ _ _
  simp only [Rep]
  exact ⟨T, [v, u], rfl, by show 2 ≤ sizeLine; decide, .inl ⟨g.fresh hT, o, upd_same, hd⟩, (Reps.cons (h2.chg e) (.one (h4.chg e))).mono (Ext.upd_new g hT)⟩
theorem gzipS (g : GX X F Ex n) {e e2 : Expr} {p pos tpos kp kp2 : Pos} {j : Nat} {elts : List Expr} {kk : Nat} {m1 m2 : Env → GH → Res PV} (hm : X.mg "zip" = none) (ha : PE X e (TEv F Ex m1)) (hb : PE X e2 (TEv F Ex m2))
    (hg : X.env.kindOf "zip" = some .globalImplicit := by kernel_rfl) (h1 : plainE e = true := by kernel_rfl) (h2 : plainE e2 = true := by kernel_rfl) :
    PI X (.Tuple elts kk tpos) (.Call (.Name "zip" p) [e, e2] [⟨some "strict", .Constant (.bool true) j kp, kp2⟩] pos) (TIv F Ex (mZipS (mCons m1 (mCons m2 mNil)))) :=
  (pi_zs hg hm (ev_cons h1 ha (ev_cons h2 hb ev_nil)) h1 h2).weak fun σ H R ⟨μ, ρ, G, s, gr, q⟩ => TAv.run s gr q fun μ1 qs G1 vs H1 e1 r1 g1 s1 p1 => by
    unfold zsSrc at p1
    split at p1
    · rename_i ps qs
      obtain ⟨v, w, rfl, ra, rb⟩ := Reps.two_inv r1
      obtain ⟨a, vs, rfl, z, st, rr⟩ := rep_tup ra
      obtain ⟨b, ws, rfl, z2, st2, rr2⟩ := rep_tup rb
      split at p1
      · rename_i hl
        exact ⟨a, b, vs, ws, rfl, by rw [← g.K]; exact st.sq, by rw [← g.K]; exact st2.sq, p1.here ⟨by show (zipP ps qs).length ≤ sizeLine; rw [zipP_len hl, rr.length]; exact z, JOk.zs g.K st st2 rr rr2 hl⟩ g1⟩
      · exact (show False from p1).elim
    · exact (show False from p1).elim
end
end EV
end
section
set_option Elab.async false
set_option linter.all false
set_option maxRecDepth 100000
namespace EV
open PySem PySem.Spec PyProof.Rows L2 RZ Zs
def mkL (ob : Bool) (ps : List PV) (G : GH) : Res PV := if ps.length ≤ sizeLine then (if ob = true then .ok (.obj G.length) (G ++ [.lst ps]) else .ok (.lst ps) G) else .bad
def bLzs (ob : Bool) (ps : List PV) (G : GH) : Res PV := match ps with
  | [.tup ps, .tup qs] => if ps.length = qs.length then mkL ob (zipP ps qs) G else .bad
  | _ => .bad
/-- the first of a pair, as data: a text or an int -/
def key0 : PV → PyData
  | .tup (.str x :: _) => .str x
  | .tup (.int i :: _) => .int i
  | _ => .none
def strs0 : PV → Bool
  | .tup (.str _ :: _) => true
  | _ => false
def ints0 : PV → Bool
  | .tup (.int _ :: _) => true
  | _ => false
def bSort0 (ob : Bool) (ps : List PV) (G : GH) : Res PV := match ps with
  | [x] => match asL x G with
    | some qs => if (qs.all strs0 || qs.all ints0) = true then mkL ob (qs.mergeSort (PySem.W.dataLe false key0)) G else .bad
    | none => .bad
  | _ => .bad
def bTupRg (ps : List PV) (G : GH) : Res PV := match ps with
  | [.int j] => if 0 ≤ j ∧ j ≤ 16777216 then .ok (.tup (rgIts 0 j.toNat)) G else .bad
  | _ => .bad
section
variable {X : Cx} {F : Fx} {Ex : XK} {n : Nat} {μ : Mu} {H : Hp} {G : GH}
theorem rg_rep (j : Int) (h : 0 ≤ j) : Reps F μ H (rgIts 0 j.toNat) (rgV 0 j) := by
  have e : (j - 0).toNat = j.toNat := by simp
  unfold rgIts rgV
  rw [e]
  generalize List.range j.toNat = l
  induction l with
  | nil => exact .nil
  | cons a l ih => exact .cons (by simp only [Rep]) ih
theorem pe_tupRgF {e : Expr} {te : L2.St → Hp → (Int → Int → Hp → Prop) → Prop} {p pos : Pos} (hc : X.calm = true) (hg : Gl X "tuple") (hm : X.mg "tuple" = none) (he : PRg X e te) (na : starEach [e] X.env = (false, eval e X.env) :: starEach [] X.env := by rfl) :
    PE X (.Call (.Name "tuple" p) [e] [] pos) (fun σ H Q => te σ H fun a b H1 => RgOk a b ∧ NewT H1 (rgV a b) Q) := by
  refine ⟨fun pins s σ H Q I h => ?_⟩
  refine Call_ (ld_blt I hg hm boot_tuple (PyProof.Rows.callWith_type1 (args_cons (thn (he pins s σ H _ I h) fun x s1 ⟨r, a, b, t, u, v, H1, ex, hr, I1, ok, q⟩ => args_nil ?_) na) na))
  subst ex
  obtain ⟨b1, b2, b3, b4, b5⟩ := ok
  refine call_tuple_range (n := (b - a).toNat) (I1.ok.hd hc) hr (small_one b1 b2 b3 b4) (rangeSize_nat a b) b5 fun h' tk acc hk hi => ?_
  have I2 : Inv X pins σ H1 { s1 with heap := h', toks := tk } := I1.kept hk
  have e2 : acc.toList.toArray = acc := by simp
  have z : (rgV a b).length ≤ sizeLine := by rw [rgV_length, sizeLine_eq]; omega
  have := fz_new (t' := tk) I2 (vals_rg hi) z q
  rw [e2] at this
  exact this
theorem gtrg (g : GX X F Ex n) {e : Expr} {p p2 pos pos2 : Pos} {m : Env → GH → Res PV} (ht : X.mg "tuple" = none) (hm : X.mg "range" = none) (ha : PE X e (TEv F Ex m)) (hg : X.env.kindOf "tuple" = some .globalImplicit := by kernel_rfl) (hg2 : X.env.kindOf "range" = some .globalImplicit := by kernel_rfl) (h1 : plainE e = true := by kernel_rfl) :
    PE X (.Call (.Name "tuple" p) [.Call (.Name "range" p2) [e] [] pos2] [] pos) (TEv F Ex (mA (mCons m mNil) bTupRg)) :=
  (pe_tupRgF g.calm hg ht (prg_1 hg2 hm ha (star_plain h1))).weak fun σ H Q ⟨μ, ρ, G, s, gr, q⟩ => by
    unfold mA mCons mNil at q
    rw [Res.bind_assoc] at q
    refine TEv.run s gr q fun μ1 a G1 v H1 e1 r1 g1 s1 p1 => ?_
    simp only [Res.bind_ok] at p1
    unfold bTupRg at p1
    split at p1
    · rename_i j heq
      cases heq
      split at p1
      · rename_i hj
        refine ⟨j, rep_int r1, RgOk.of_le (by omega) hj.2 (by omega) hj.1, fun q o hq hd => p1.ok (Ext.upd_new g1 hq) ?_ (g1.upd_new hq)⟩
        show Rep F μ1 _ _ _
        simp only [Rep]
        exact ⟨q, _, rfl, by rw [rgV_length, sizeLine_eq]; omega, .inl ⟨g1.fresh hq, o, upd_same, hd⟩, rg_rep j hj.1⟩
      · exact (show False from p1).elim
    · exact (show False from p1).elim
/-- a new list is handed out: as a value or as an object of ours -/
theorem mkL_new {ob : Bool} {ps : List PV} {vs : List V} {H' : Hp} {p : Addr} {Q : VK} (h : Post F (RV F) Ex μ H (mkL ob ps G) Q) (g : HRep F μ H G) (k : ∀ b o, H b = some o → H' b = some o) (hp : H p = none) (hp' : H' p = some (.lst vs)) (r : ∀ μ', (∀ a, μ.free a → a ≠ p → μ'.free a) → (∀ a, H a = none → a ≠ p → μ'.free a) → (∀ (n : Nat) a, μ.ob[n]? = some a → μ'.ob[n]? = some a) → Reps F μ' H' ps vs) : Q (.ref p) H' := by
  unfold mkL at h
  split at h
  · rename_i z
    have dm : ∀ a, H' a = none → H a = none := fun a e => by
      cases q : H a with
      | none => rfl
      | some o => rw [k a o q] at e; cases e
    have fr := g.fresh hp
    cases ob with
    | false =>
      simp only [Bool.false_eq_true, if_false] at h
      have r0 := r μ (fun a f _ => f) (fun a e _ => g.fresh e) fun n a e => e
      refine h.ok (Ext.same k) ?_ (g.same k)
      show Rep F μ _ _ _
      simp only [Rep]
      exact ⟨p, vs, rfl, by rw [← r0.length]; exact z, ⟨fr, hp'⟩, r0⟩
    | true =>
      simp only [if_true] at h
      have ff : ∀ a, μ.free a → a ≠ p → (μ.push p).free a := fun a f n => ⟨fun m => (List.mem_append.mp m).elim f.1 fun q => n (List.mem_singleton.mp q), f.2⟩
      have r0 := r (μ.push p) ff (fun a e n => ff a (g.fresh e) n) fun n a e => (List.getElem?_append_left (List.getElem?_eq_some_iff.mp e).1).trans e
      have ex : Ext μ (μ.push p) H H' := ⟨⟨[p], rfl⟩, rfl, fun a m n => by
        rcases List.mem_append.mp m with q | q
        · exact absurd q n
        · exact fun o z _ => (by rw [List.mem_singleton.mp q, hp] at z; cases z), fun a o e _ _ => k a o e⟩
      refine h.ok ex ?_ ?_
      · show Rep F _ _ _ _
        simp only [Rep]
        exact ⟨p, rfl, by rw [← g.len]; simp⟩
      · have g2 := g.same k
        refine ⟨by simp [Mu.push, g.len], List.nodup_append.mpr ⟨g.nd, by simp, fun a ha b hb => ?_⟩, fun i a u h1 h2 => ?_, fun a m => ?_, g2.tab⟩
        · rw [List.mem_singleton.mp hb]
          intro e
          subst e
          exact g.freshO hp ha
        · have h1 : (μ.ob ++ [p])[i]? = some a := h1
          by_cases hi : i < μ.ob.length
          · rw [List.getElem?_append_left hi] at h1
            rw [List.getElem?_append_left (by rw [← g.len]; exact hi)] at h2
            exact (g.obj i a u h1 h2).keep ex fun v q => k a v q
          · have hi' : i = μ.ob.length := by
              have := (List.getElem?_eq_some_iff.mp h1).1
              simp at this; omega
            subst hi'
            rw [List.getElem?_append_right (Nat.le_refl _)] at h1
            rw [g.len, List.getElem?_append_right (Nat.le_refl _)] at h2
            simp at h1 h2
            subst h1 h2
            exact ⟨vs, hp', by rw [← r0.length]; exact z, r0⟩
        · obtain ⟨h1, u, h2⟩ := g2.res a m
          refine ⟨fun q => ?_, u, h2⟩
          rcases List.mem_append.mp q with q | q
          · exact h1 q
          · exact fr.2 (by rw [← List.mem_singleton.mp q]; exact m)
  · exact (show False from h).elim
end
/-! ### pairs laid -/
def putP (ob : Addr → Obj) : Hp → List Addr → List (V × V) → Hp
  | H, a :: as, p :: ps => putP ob (upd H a (.frz (ob a) (.tup [p.1, p.2]))) as ps
  | H, _, _ => H
theorem putP_off {ob : Addr → Obj} {b : Addr} : ∀ (as : List Addr) (ps : List (V × V)) (H : Hp), b ∉ as → putP ob H as ps b = H b
  | [], _, _, _ => rfl
  | _ :: _, [], _, _ => rfl
  | a :: as, p :: ps, H, h => by
    unfold putP
    rw [putP_off as ps _ (fun z => h (List.mem_cons_of_mem _ z)), upd_ne (fun z => h (by rw [z]; exact List.mem_cons_self))]
theorem putP_at {ob : Addr → Obj} : ∀ (as : List Addr) (ps : List (V × V)) (H : Hp), as.length = ps.length → as.Nodup → Paired (fun (t : Addr) (p : V × V) => putP ob H as ps t = some (.frz (ob t) (.tup [p.1, p.2]))) as ps
  | [], [], _, _, _ => .nil
  | [], _ :: _, _, h, _ => by cases h
  | _ :: _, [], _, h, _ => by cases h
  | a :: as, p :: ps, H, h, hn => by
    have hn' := List.nodup_cons.mp hn
    refine .cons ?_ (putP_at as ps _ (Nat.succ.inj h) hn'.2)
    unfold putP
    rw [putP_off as ps _ hn'.1, upd_same]
/-- the tuple at t, new, its object known -/
def FzP (H : Hp) (t : Addr) (q : V × V) : Prop := Fz H t [q.1, q.2]
section
variable {X : Cx}
theorem pairs_laid {pins : List (Addr × Obj)} {σ : L2.St} {H : Hp} {s : Shared} {h' : Heap} {tk : Nat} {ps : List (V × V)} {S lo : Nat} {acc : Array Value} {c : Nat} {as : List Addr} (I : Inv X pins σ H s) (hz : ps.length ≤ sizeLine) (hSs : s.heap.objs.size ≤ S) (hSl : S < lo)
    (hk : ∀ b o, s.heap.get? b = some o → h'.get? b = some o) (hS : h'.get? S = some { cls := .type "list", dict := none, data := .seq acc c, slots := #[] }) (hl : as.length = ps.length) (hG : Prs (fun j x y => ∃ p, ps[j]? = some p ∧ RelV p.1 x ∧ RelV p.2 y) lo h' as) (hacc : acc.toList = as.map Value.ref) :
    ∃ H' : Hp, (∀ b o, H b = some o → H' b = some o) ∧ H S = none ∧ (∀ t ∈ as, H t = none) ∧ S ∉ as ∧ H' S = some (.lst (as.map V.ref)) ∧ Paired (FzP H') as ps ∧ Inv X pins σ H' { s with heap := h', toks := tk } := by
  have ab : ∀ t ∈ as, s.heap.objs.size ≤ t := fun t ht => Nat.le_trans hSs (Nat.le_trans (Nat.le_of_lt hSl) (hG.above t ht))
  have hSn : S ∉ as := fun z => absurd hSl (Nat.not_lt.mpr (hG.above _ z))
  have nd : as.Nodup := List.Pairwise.imp (fun {a b} (h : a < b) => Nat.ne_of_lt h) hG.nodup
  have new : ∀ t ∈ as, H t = none := fun t ht => I.hok.fresh (ab t ht)
  have newS : H S = none := I.hok.fresh hSs
  let ob : Addr → Obj := fun a => (h'.get? a).getD default
  have atP := putP_at (ob := ob) as ps (upd H S (.lst (as.map V.ref))) hl nd
  have off : ∀ b, b ∉ as → b ≠ S → putP ob (upd H S (.lst (as.map V.ref))) as ps b = H b := fun b h1 h2 => by rw [putP_off as ps _ h1, upd_ne h2]
  have low : ∀ b o, s.heap.get? b = some o → b ∉ as ∧ b ≠ S := fun b o e => ⟨fun z => absurd (Heap.lt_size e) (Nat.not_lt.mpr (ab b z)), Nat.ne_of_lt (Nat.lt_of_lt_of_le (Heap.lt_size e) hSs)⟩
  have kp : ∀ b u, H b = some u → (putP ob (upd H S (.lst (as.map V.ref))) as ps) b = some u := fun b u e => by
    rw [off b (fun z => by rw [new b z] at e; cases e) (fun z => by rw [z, newS] at e; cases e)]
    exact e
  have eS : putP ob (upd H S (.lst (as.map V.ref))) as ps S = some (.lst (as.map V.ref)) := by rw [putP_off as ps _ hSn, upd_same]
  refine ⟨putP ob (upd H S (.lst (as.map V.ref))) as ps, kp, newS, new, hSn, eS, ?_, ?_⟩
  · have ga : ∀ t ∈ as, (ob t).dict = none := fun t ht => by
      obtain ⟨j, hj⟩ := List.mem_iff_getElem?.mp ht
      obtain ⟨x, y, _, f4⟩ := hG.pairs j t hj
      show ((h'.get? t).getD default).dict = none
      rw [f4]
      rfl
    have : ∀ {as' : List Addr} {ps' : List (V × V)} {P : Addr → V × V → Prop}, Paired P as' ps' → (∀ t ∈ as', ∀ q, P t q → FzP (putP ob (upd H S (.lst (as.map V.ref))) as ps) t q) → Paired (FzP (putP ob (upd H S (.lst (as.map V.ref))) as ps)) as' ps' := fun h w => paired_map h w
    exact this atP fun t ht q e => ⟨ob t, e, ga t ht⟩
  refine I.call' (ch := []) rfl ⟨fun b o q _ _ _ => hk b o q, fun b o q _ _ _ => ⟨o.slots, hk b o q⟩, fun b o q n _ => ?_, fun b o q _ => ⟨o, hk b o q⟩, fun b xs q => kp b _ q, fun b o u q => kp b _ q, fun b ps q => ⟨#[], by rw [kp b _ q]; simp⟩⟩ (fun b u q => ?_) I.bare fun b z => by simp at z
  · obtain ⟨z1, z2⟩ := low b o q
    rw [off b z1 z2]
    exact n
  · by_cases hb : b ∈ as
    · obtain ⟨j, pk, e1, e2, e3⟩ := LiI.paired_ix atP hb
      rw [e3] at q
      cases q
      obtain ⟨x, y, ⟨p', f1, f2, f3⟩, f4⟩ := hG.pairs j b e1
      rw [e2] at f1
      cases f1
      have eo : ob b = { cls := .type "tuple", data := .seq #[x, y] } := by show (h'.get? b).getD default = _; rw [f4]; rfl
      rw [eo]
      exact ⟨f4, by show 2 ≤ sizeLine; decide, [x, y], .cons f2 (.cons f3 .nil), ⟨_, f4, rfl, _, rfl⟩⟩
    · by_cases hb2 : b = S
      · rw [hb2] at q ⊢
        rw [eS] at q
        cases q
        refine ⟨by rw [List.length_map]; omega, acc.toList, c, by rw [hacc]; exact LiI.vals_refs as, ?_⟩
        rw [Array.toArray_toList]
        exact hS
      · rw [off b hb hb2] at q
        exact (I.hok b u q).stay (fun d v _ y => hk d v y) (fun d y => kp d _ y) fun d xs y => kp d _ y
end
end EV
end
section
set_option Elab.async false
set_option linter.all false
set_option maxRecDepth 100000
/-! Ev16: list(zip(a, b, strict=True)). -/
namespace EV
open PySem PySem.Spec PyProof.Rows L2 RZ Zs
structure ZsSt (z TI TO i1 i2 a b : Addr) (lo : Nat) (xs ys : Array Value) (i : Nat) (h : Heap) : Prop where
  ti : IsPair h TI (.ref i1) (.ref i2)
  it1 : h.IsTupleIter i1 a i
  it2 : h.IsTupleIter i2 b i
  l1 : h.IsTuple a xs
  l2 : h.IsTuple b ys
  zz : ∃ f0 bb, IsZs h z TI TO f0 bb ∧ ((f0 = .none ∧ ∃ x y, IsPair h TO x y) ∨ ∃ (T : Addr) (oT : Obj), f0 = rawInt T ∧ h.get? T = some oT ∧ lo ≤ T)
theorem tup_keep {h h' : Heap} {a : Addr} {xs : Array Value} (x : h.IsTuple a xs) (k : ∀ o, h.get? a = some o → h'.get? a = some o) : h'.IsTuple a xs := by
  obtain ⟨o, e, q⟩ := x
  exact ⟨o, k o e, q⟩
theorem zs_mkr {prog : Program} {w : World} {A : Around} {z TI TO i1 i2 a b S lo : Addr} {xs ys : Array Value} (hh : A.handled = none) (D : ZipApart z TI TO i1 i2 a b) (hlo : S < lo) (hz : z < S) (hTI : TI < S) (hTO : TO < S) (h1 : i1 < S) (h2 : i2 < S) (ha : a < S) (hb : b < S) (hl : xs.size = ys.size) :
    Mkr prog w A z S lo [z, TO, i1, i2] xs.size (fun i x y => xs[i]? = some x ∧ ys[i]? = some y) (ZsSt z TI TO i1 i2 a b lo xs ys) where
  low := fun c hc => by
    have e : c = z ∨ c = TO ∨ c = i1 ∨ c = i2 := by simpa using hc
    rcases e with e | e | e | e <;> (rw [e]; exact Nat.lt_trans (by assumption) hlo)
  nS := fun hc => by
    have e : S = z ∨ S = TO ∨ S = i1 ∨ S = i2 := by simpa using hc
    rcases e with e | e | e | e
    · exact Nat.lt_irrefl _ (e ▸ hz)
    · exact Nat.lt_irrefl _ (e ▸ hTO)
    · exact Nat.lt_irrefl _ (e ▸ h1)
    · exact Nat.lt_irrefl _ (e ▸ h2)
  frame := fun i h h' st k => by
    have ne : ∀ {c : Addr}, c < S → c ≠ S := fun q => Nat.ne_of_lt q
    obtain ⟨f0, bb, hzs, q⟩ := st.zz
    refine ⟨k _ _ (ne hTI) st.ti, st.it1.at fun o e => k _ o (ne h1) e, st.it2.at fun o e => k _ o (ne h2) e, tup_keep st.l1 fun o e => k _ o (ne ha) e, tup_keep st.l2 fun o e => k _ o (ne hb) e, f0, bb, k _ _ (ne hz) hzs, ?_⟩
    rcases q with ⟨e, x, y, hp⟩ | ⟨T, oT, e, hT, hl⟩
    · exact .inl ⟨e, x, y, k _ _ (ne hTO) hp⟩
    · exact .inr ⟨T, oT, e, k _ _ (fun q => by rw [q] at hl; exact absurd hlo (Nat.not_lt.mpr hl)) hT, hl⟩
  item := fun i s Q E hi st hS hlos hQ => by
    obtain ⟨f0, bb, hzs, q⟩ := st.zz
    have hx : xs[i]? = some xs[i] := Array.getElem?_eq_getElem hi
    have hy : ys[i]? = some (ys[i]'(hl ▸ hi)) := Array.getElem?_eq_getElem (hl ▸ hi)
    have aw : ∀ {h' : Heap}, (∀ c o, c ≠ z → c ≠ TO → c ≠ i1 → c ≠ i2 → s.heap.get? c = some o → h'.get? c = some o) → ∀ c o, c ∉ [z, TO, i1, i2] → s.heap.get? c = some o → h'.get? c = some o := fun {h'} hk c o hc e =>
      hk c o (fun q => hc (by simp [q])) (fun q => hc (by simp [q])) (fun q => hc (by simp [q])) (fun q => hc (by simp [q])) e
    rcases q with ⟨e, x, y, hp⟩ | ⟨T, oT, e, hT, hlT⟩
    · subst e
      refine pyNext_of hzs (zs_free_item D hzs st.ti hp st.it1 st.it2 st.l1 st.l2 hx hy fun h' a1 a2 a3 a4 a5 a6 a7 => ?_)
      refine hQ _ _ h' s.toks ⟨hx, hy⟩ ⟨a7 _ _ D.TIz D.TITO D.TIi1 D.TIi2 st.ti, a3, a4, tup_keep st.l1 fun o e => a7 _ o D.l1z D.l1TO D.l1i1 D.l1i2 e, tup_keep st.l2 fun o e => a7 _ o D.l2z D.l2TO D.l2i1 D.l2i2 e, _, _, a1, .inr ⟨_, _, rfl, a5, hlos⟩⟩ a5 (aw a7)
    · subst e
      have nT : ∀ {c : Addr}, c < S → T ≠ c := fun {c} q e => by
        rw [e] at hlT
        exact absurd (Nat.lt_trans q hlo) (Nat.not_lt.mpr hlT)
      refine pyNext_of hzs (zs_held_item D hzs hT st.ti st.it1 st.it2 st.l1 st.l2 hx hy fun h' a1 a3 a4 a5 a6 a7 => ?_)
      refine hQ _ _ h' s.toks ⟨hx, hy⟩ ⟨a7 _ _ D.TIz D.TIi1 D.TIi2 st.ti, a3, a4, tup_keep st.l1 fun o e => a7 _ o D.l1z D.l1i1 D.l1i2 e, tup_keep st.l2 fun o e => a7 _ o D.l2z D.l2i1 D.l2i2 e, _, _, a1, .inr ⟨T, oT, rfl, a7 _ _ (nT hz) (nT h1) (nT h2) hT, hlT⟩⟩ a5 (aw fun c o c1 _ c3 c4 e => a7 c o c1 c3 c4 e)
  done := fun s Q E st hQ => by
    obtain ⟨f0, bb, hzs, q⟩ := st.zz
    have hx : xs[xs.size]? = none := Array.getElem?_eq_none (Nat.le_refl _)
    have hy : ys[xs.size]? = none := Array.getElem?_eq_none (by rw [hl]; exact Nat.le_refl _)
    have aw : ∀ {h' : Heap}, (∀ c o, c ≠ z → c ≠ TO → c ≠ i1 → c ≠ i2 → s.heap.get? c = some o → h'.get? c = some o) → ∀ c o, c ∉ [z, TO, i1, i2] → s.heap.get? c = some o → h'.get? c = some o := fun {h'} hk c o hc e =>
      hk c o (fun q => hc (by simp [q])) (fun q => hc (by simp [q])) (fun q => hc (by simp [q])) (fun q => hc (by simp [q])) e
    rcases q with ⟨e, x, y, hp⟩ | ⟨T, oT, e, hT, hlT⟩
    · subst e
      exact pyNext_of hzs (zs_free_end hh D hzs st.ti hp st.it1 st.it2 st.l1 st.l2 hx hy fun h' e hk he => ⟨e, rfl, he, hQ h' s.toks (aw hk)⟩)
    · subst e
      exact pyNext_of hzs (zs_held_end hh D hzs hT st.ti st.it1 st.it2 st.l1 st.l2 hx hy fun h' e hk he => ⟨e, rfl, he, hQ h' s.toks (aw fun c o c1 _ c3 c4 e => hk c o c1 c3 c4 e)⟩)
theorem zip_nolen : typeLookup (.type "zip") "__len__" = pure none := am_miss_of_fast (by decide +kernel)
theorem zip_nohint : typeLookup (.type "zip") "__length_hint__" = pure none := am_miss_of_fast (by decide +kernel)
section
variable {X : Cx} {F : Fx} {Ex : XK} {n : Nat}
def kLz (K : PySem.W.Frag) (vs : List V) (H : Hp) (Q : VK) : Prop := ∃ a b xs ys, vs = [V.ref a, V.ref b] ∧ SqT K H a xs ∧ SqT K H b ys ∧ xs.length = ys.length ∧
  ∀ (H' : Hp) (p : Addr) (ts : List Addr), (∀ b o, H b = some o → H' b = some o) → H p = none → (∀ t ∈ ts, H t = none) → p ∉ ts → H' p = some (.lst (ts.map V.ref)) → Paired (FzP H') ts (xs.zip ys) → Q (.ref p) H'
theorem pe_lzs {e e2 : Expr} {ta : TA} {p p2 pos pos2 kp kp2 : Pos} {j : Nat} (hc : X.calm = true) (hg2 : Gl X "list") (hl : X.mg "list" = none) (hg : Gl X "zip") (hm : X.mg "zip" = none) (ha : PA X [e, e2] ta) (h1 : plainE e = true) (h2 : plainE e2 = true) :
    PE X (.Call (.Name "list" p) [.Call (.Name "zip" p2) [e, e2] [⟨some "strict", .Constant (.bool true) j kp, kp2⟩] pos2] [] pos) (fun σ H Q => ta σ H fun vs H1 => kLz X.K vs H1 Q) := by
  refine ⟨fun pins s σ H Q I h => ?_⟩
  refine Call_ (ld_blt I hg2 hl boot_list (PyProof.Rows.callWith_type1 (args_cons (run_zs hg hm ha h1 h2 I h fun vs H1 us s1 I1 r1 q1 => ?_) rfl) rfl))
  obtain ⟨a, b, xs, ys, ex, hqx, hqy, hlen, q⟩ := q1
  subst ex
  cases r1 with
  | cons r rr =>
    cases rr with
    | cons r' rr =>
      cases rr
      cases r
      cases r'
      obtain ⟨its, rv, p1, hz1⟩ := I1.tuple hqx
      obtain ⟨its2, rv2, p2, _⟩ := I1.tuple hqy
      obtain ⟨o1, ho1, _⟩ := id p1
      obtain ⟨o2, ho2, _⟩ := id p2
      have la := Heap.lt_size ho1
      have lb := Heap.lt_size ho2
      have el1 := rv.length
      have el2 := rv2.length
      refine call_zs (show s1.heap.IsTuple a its.toArray from p1) (show s1.heap.IsTuple b its2.toArray from p2) fun h' hz hTI hTO h1 h2 hsz hk => args_nil ?_
      have D := PySem.W.ktu_apart s1.heap.objs.size a b la lb
      have q4 : s1.heap.objs.size + 4 < h'.objs.size := by rw [hsz]; exact Nat.lt_succ_self _
      have q3 : s1.heap.objs.size + 3 < h'.objs.size := Nat.lt_trans (Nat.lt_succ_self _) q4
      have q2 : s1.heap.objs.size + 2 < h'.objs.size := Nat.lt_trans (Nat.lt_succ_self _) q3
      have q1 : s1.heap.objs.size + 1 < h'.objs.size := Nat.lt_trans (Nat.lt_succ_self _) q2
      have q0 : s1.heap.objs.size < h'.objs.size := Nat.lt_trans (Nat.lt_succ_self _) q1
      have qa : a < h'.objs.size := Nat.lt_trans la q0
      have qb : b < h'.objs.size := Nat.lt_trans lb q0
      refine mkr_call (s := { s1 with heap := h' }) (T := "zip") (zs_mkr (xs := its.toArray) (ys := its2.toArray) (I1.ok.hd hc) D (Nat.lt_succ_self _) q4 q2 q3 q0 q1 qa qb (by simp; omega))
        (by simp; omega) q4 (fun g k => ⟨_, k _ hz, rfl⟩) (by decide +kernel) (by decide +kernel) zip_nolen zip_nohint (fun A g Q E k hq => iter_zs (s := { s1 with heap := g }) (k _ hz) hq) (fun g k => ?_) (fun g tk acc c as k1 k2 k3 k4 k5 => ?_)
      · have ne : ∀ {c : Addr}, c < h'.objs.size → c ≠ h'.objs.size := fun q => Nat.ne_of_lt q
        refine ⟨k _ _ (ne q2) hTI, h1.at fun o e => k _ o (ne q0) e, h2.at fun o e => k _ o (ne q1) e, tup_keep (show s1.heap.IsTuple a its.toArray from p1) fun o e => k _ o (ne qa) (hk _ o e), tup_keep (show s1.heap.IsTuple b its2.toArray from p2) fun o e => k _ o (ne qb) (hk _ o e), _, _, k _ _ (ne q4) hz, .inl ⟨rfl, _, _, k _ _ (ne q3) hTO⟩⟩
      · have hkk : ∀ c o, s1.heap.get? c = some o → g.get? c = some o := fun c o e => by
          have hlt := Heap.lt_size e
          refine k1 c o (fun m => ?_) (hk c o e)
          have e' : c = s1.heap.objs.size + 4 ∨ c = s1.heap.objs.size + 3 ∨ c = s1.heap.objs.size ∨ c = s1.heap.objs.size + 1 := by simpa using m
          have no : ∀ k : Nat, c = s1.heap.objs.size + k → False := fun k e => absurd (e ▸ hlt) (Nat.not_lt.mpr (Nat.le_add_right _ _))
          rcases e' with e | e | e | e
          · exact no 4 e
          · exact no 3 e
          · exact no 0 e
          · exact no 1 e
        have len : as.length = (xs.zip ys).length := by
          rw [k3, List.length_zip]
          simp
          omega
        have pr : Prs (fun j x y => ∃ p, (xs.zip ys)[j]? = some p ∧ RelV p.1 x ∧ RelV p.2 y) (h'.objs.size + 1) g as := ⟨k4.above, k4.nodup, fun jx t ht => by
          obtain ⟨x, y, ⟨e1, e2⟩, e3⟩ := k4.pairs jx t ht
          have e1' : its[jx]? = some x := by simpa using e1
          have e2' : its2[jx]? = some y := by simpa using e2
          have hj : jx < its.length := (List.getElem?_eq_some_iff.mp e1').1
          have hx : xs[jx]? = some (xs[jx]'(by omega)) := List.getElem?_eq_getElem (by omega)
          have hy : ys[jx]? = some (ys[jx]'(by omega)) := List.getElem?_eq_getElem (by omega)
          obtain ⟨u, hu, ru⟩ := rv.get hx
          obtain ⟨u2, hu2, ru2⟩ := rv2.get hy
          rw [e1'] at hu; cases hu
          rw [e2'] at hu2; cases hu2
          exact ⟨x, y, ⟨(_, _), List.getElem?_zip_eq_some.mpr ⟨hx, hy⟩, ru, ru2⟩, e3⟩⟩
        obtain ⟨H', j1, j2, j3, j4, j5, j6, J⟩ := pairs_laid (tk := tk) I1 (ps := xs.zip ys) (by rw [List.length_zip]; omega) (S := h'.objs.size) (lo := h'.objs.size + 1) (Nat.le_of_lt q0) (Nat.lt_succ_self _) hkk k2 len pr k5
        exact ⟨.ref _, H', J, rfl, q H' _ as j1 j2 j3 j4 j5 j6⟩
theorem chg_new {μ μ' : Mu} {H H' : Hp} {p : Addr} (k : ∀ b o, H b = some o → H' b = some o) (hp : H p = none) (f : ∀ a, μ.free a → a ≠ p → μ'.free a) (ob : ∀ (n : Nat) a, μ.ob[n]? = some a → μ'.ob[n]? = some a) : Chg F μ μ' H H' := by
  have aux : ∀ {a : Addr} {u : HO}, Rd H a u → a ≠ p ∧ Rd H' a u := fun {a u} r => by
    rcases r with r | ⟨o, r⟩
    · exact ⟨ne_of_none r hp, .inl (k _ _ r)⟩
    · exact ⟨ne_of_none r hp, .inr ⟨o, k _ _ r⟩⟩
  refine ⟨fun a xs h => h.imp (fun q => ⟨f a q.1 (aux q.2).1, (aux q.2).2⟩) id, fun a xs h => ⟨f a h.1 (ne_of_none h.2 hp), k _ _ h.2⟩, fun a xs h => h.imp (fun ⟨q, o, r, d⟩ => ⟨f a q (aux (.inl r)).1, o, k _ _ r, d⟩) id, ob⟩
theorem reps_zip {μ' : Mu} {H' : Hp} : ∀ {ps qs : List PV} {xs ys : List V} {ts : List Addr}, Reps F μ' H' ps xs → Reps F μ' H' qs ys → (∀ t ∈ ts, μ'.free t) → Paired (FzP H') ts (xs.zip ys) → Reps F μ' H' (zipP ps qs) (ts.map V.ref)
  | [], qs, xs, ys, ts, r, r2, f, pr => by
    rw [r.nil_inv] at pr
    have pr : Paired _ ts ([] : List (V × V)) := pr
    cases pr
    exact .nil
  | p :: ps, [], xs, ys, ts, r, r2, f, pr => by
    rw [r2.nil_inv, List.zip_nil_right] at pr
    cases pr
    exact .nil
  | p :: ps, q :: qs, xs, ys, ts, r, r2, f, pr => by
    obtain ⟨x, xr, rfl, r1, rr⟩ := r.cons_inv
    obtain ⟨y, yr, rfl, r3, rr2⟩ := r2.cons_inv
    rw [List.zip_cons_cons] at pr
    cases pr with
    | cons h t =>
      rename_i t0 ts0
      refine .cons ?_ (reps_zip rr rr2 (fun u hu => f u (List.mem_cons_of_mem _ hu)) t)
      simp only [Rep]
      exact ⟨t0, [x, y], rfl, by show 2 ≤ sizeLine; decide, .inl ⟨f _ List.mem_cons_self, h⟩, .cons r1 (.one r3)⟩
theorem glzS (g : GX X F Ex n) (ob : Bool) {e e2 : Expr} {p p2 pos pos2 kp kp2 : Pos} {j : Nat} {m1 m2 : Env → GH → Res PV} (hl : X.mg "list" = none) (hm : X.mg "zip" = none) (ha : PE X e (TEv F Ex m1)) (hb : PE X e2 (TEv F Ex m2))
    (hg : X.env.kindOf "zip" = some .globalImplicit := by kernel_rfl) (hg2 : X.env.kindOf "list" = some .globalImplicit := by kernel_rfl) (h1 : plainE e = true := by kernel_rfl) (h2 : plainE e2 = true := by kernel_rfl) :
    PE X (.Call (.Name "list" p) [.Call (.Name "zip" p2) [e, e2] [⟨some "strict", .Constant (.bool true) j kp, kp2⟩] pos2] [] pos) (TEv F Ex (mA (mCons m1 (mCons m2 mNil)) (bLzs ob))) :=
  (pe_lzs g.calm hg2 hl hg hm (ev_cons h1 ha (ev_cons h2 hb ev_nil)) h1 h2).weak fun σ H Q ⟨μ, ρ, G, s, gr, q⟩ => TAv.run s gr q fun μ1 qs G1 vs H1 e1 r1 g1 s1 p1 => by
    unfold bLzs at p1
    split at p1
    · rename_i ps qs
      obtain ⟨v, w, rfl, ra, rb⟩ := Reps.two_inv r1
      obtain ⟨a, xs, rfl, z, st, rr⟩ := rep_tup ra
      obtain ⟨b, ys, rfl, z2, st2, rr2⟩ := rep_tup rb
      split at p1
      · rename_i hl
        have l1 := rr.length
        have l2 := rr2.length
        refine ⟨a, b, xs, ys, rfl, by rw [← g.K]; exact st.sq, by rw [← g.K]; exact st2.sq, by omega, fun H' t ts k h3 h4 h5 h6 h7 => mkL_new p1 g1 k h3 h6 fun μ' f1 f2 f3 => ?_⟩
        have c := chg_new (F := F) (μ := μ1) k h3 f1 f3
        exact reps_zip (rr.chg c) (rr2.chg c) (fun u hu => f2 u (h4 u hu) fun q => h5 (q ▸ hu)) h7
      · exact (show False from p1).elim
    · exact (show False from p1).elim
end
end EV
end
section
set_option Elab.async false
set_option linter.all false
set_option maxRecDepth 100000
/-! Ev17: sorted(xs, key=lambda x: x[0]). -/
namespace EV
open PySem PySem.Spec PyProof.Rows L2 RZ Zs
section
variable {F : Fx} {μ : Mu} {H H' : Hp} {G : GH}
theorem Ext.extN (e : LamX.ExtN H H') : Ext μ μ H H' := ⟨⟨[], by simp⟩, rfl, fun a m k => absurd m k, fun a o q nt _ => e a o q nt⟩
theorem HRep.extN (h : HRep F μ H G) (e : LamX.ExtN H H') (t : LamX.Tabs F.T H') : HRep F μ H' G where
  len := h.len
  nd := h.nd
  obj := fun i a o h1 h2 => (h.obj i a o h1 h2).keep (Ext.extN e) fun u q => e a u q fun ps z => by
    obtain ⟨v, q2, q3⟩ := h.isO (List.mem_of_getElem? h1)
    rw [q, z] at q2
    cases q2
    exact q3
  res := fun a m => let ⟨h1, xs, h2⟩ := h.res a m; ⟨h1, xs, e a _ h2 fun _ z => by cases z⟩
  tab := t
end
section
variable {prog : Program} {w : World} {A : Around} {E : Value → Shared → Prop} {s : Shared}
theorem lam0_call {f c' t : Addr} {qual x : Str} {params : Arguments} {scope : Scope} {cl : List (Str × Addr)} {pm ctv : Value} {j : Nat} {p2 p3 p4 : Pos} {items : Array Value} {y : Value} {Q : Value → Shared → Prop} (hroom : A.depth < recursionLimit)
    (of1 : s.heap.get? f = some (PySem.W.kla_obj "<lambda>" qual params (.Subscript (.Name x p3) (.Constant (.int 0) j p4) p2) scope cl pm c' ctv)) (hk : scope.kind = .function) (co : scope.isCoroutine = false) (gen : scope.isGenerator = false)
    (hrec : ∃ (oc : Obj) (vs : Array Value) (t : Tok), s.heap.get? c' = some oc ∧ oc.data = .fields vs ∧ vs[1]? = some (.str qual t)) (lim : s.heap.NoLimit)
    (hbind : ∀ v, bindArgs (PySem.W.kla_fn "<lambda>" qual params (.Subscript (.Name x p3) (.Constant (.int 0) j p4) p2) scope cl pm (.ref c') ctv) ⟨[v], []⟩ = pure [(x, v)]) (hloc : scope.names.lookup x = some .local) (hnc : ∀ y ∈ scope.names, y.2 ≠ .cell) (hd : (x == ("__debug__" : Str)) = false)
    (ht : IsTup s.heap t items) (hz : items.size < 2 ^ 63) (hy : items[0]? = some y) (hQ : ∀ h' tk, (∀ b o, s.heap.get? b = some o → h'.get? b = some o) → Q y { s with heap := h', toks := tk }) :
    wpAny (model prog w) A (call (.ref f) [.ref t]) Q E s := by
  obtain ⟨oc, vs, tq, hoc, hdc, hvc⟩ := hrec
  refine wpAny_call ?_
  refine PySem.W.kla_callFunE hroom of1 rfl co gen rfl ⟨c', oc, vs, tq, rfl, hoc, hdc, hvc⟩ ?_
  rw [hbind]
  refine wpAny_pure (wpAny_newFunctionEnv hnc (fun q hq => ?_) (fun h₁ hns hsb => ⟨lim.fresh _ hsb, ?_⟩) hk)
  · rw [List.mem_singleton.mp hq]
    exact hloc
  · have kp : ∀ b o, s.heap.get? b = some o → h₁.get? b = some o := fun b o e => hsb.extBut b o (Nat.ne_of_lt (Heap.lt_size e)) (Heap.get?_push_of_some _ e)
    show codeAny _ _ (.expr (.Subscript (.Name x p3) (.Constant (.int 0) j p4) p2) _) _ _
    refine PySem.W.kla_codeExpr ?_
    refine Subscript_ (wpAny_Name (wpAny_loadName_local hk hloc hns (v := .ref t) (by simp [List.lookup]) ?_) hd)
    refine wpAny_Constant_int ?_
    refine subscriptTail_builtinR (x := y) (T := "tuple") (IsTup.typeIs (tup_keep ht fun o e => kp _ o e)) slot_tuple_getitem.lookup (PyProof.Rows.getItem_tuple (j := 0) (tup_keep ht fun o e => kp _ o e) (by omega) (by omega) ?_ hy ⟨rfl, ?_⟩) rfl
    · have hs : 0 < items.size := (Array.getElem?_eq_some_iff.mp hy).1
      show seqIndex? 0 items.size = some 0
      rw [seqIndex_of (by omega) (by omega)]
      rfl
    · exact hQ _ _ kp
end
/-- the code object and the table by which a def makes its lambdas -/
structure LamK (X : Cx) (F : Fx) : Prop where
  ex : ∃ c P, LamX.TabB X.base X.mg c P ∧ X.env.code = .ref c ∧ (P, X.env.qual ++ "<lambda>") ∈ F.T ∧ ∀ p ∈ F.T, p.1 = P → p.2 = X.env.qual ++ "<lambda>"
section
variable {X : Cx} {F : Fx} {Ex : XK} {n : Nat} {μ : Mu} {H : Hp} {G : GH}
theorem alike0 {qs : List PV} (h : (qs.all strs0 || qs.all ints0) = true) : PySem.W.AllAlike (qs.map key0) ∧ PySem.W.Sortable (qs.map key0) := by
  have key : ∀ d ∈ qs.map key0, (qs.all strs0 = true → ∃ x, d = .str x) ∧ (qs.all ints0 = true → ∃ i, d = .int i) := fun d hd => by
    obtain ⟨p, hp, rfl⟩ := List.mem_map.mp hd
    refine ⟨fun a => ?_, fun a => ?_⟩
    · have := List.all_eq_true.mp a p hp
      unfold strs0 at this
      split at this
      · exact ⟨_, rfl⟩
      · cases this
    · have := List.all_eq_true.mp a p hp
      unfold ints0 at this
      split at this
      · exact ⟨_, rfl⟩
      · cases this
  rw [Bool.or_eq_true] at h
  rcases h with h | h
  · refine ⟨fun d hd d' hd' => ?_, .inr fun d hd => ?_⟩
    · obtain ⟨x, rfl⟩ := (key d hd).1 h
      obtain ⟨y, rfl⟩ := (key d' hd').1 h
      rfl
    · obtain ⟨x, rfl⟩ := (key d hd).1 h
      exact ⟨nofun, nofun⟩
  · refine ⟨fun d hd d' hd' => ?_, .inr fun d hd => ?_⟩
    · obtain ⟨x, rfl⟩ := (key d hd).2 h
      obtain ⟨y, rfl⟩ := (key d' hd').2 h
      rfl
    · obtain ⟨x, rfl⟩ := (key d hd).2 h
      exact ⟨nofun, nofun⟩
theorem key0_depth (p : PV) : (key0 p).depth = 0 := by
  unfold key0
  split <;> rfl
/-- the first item of a pair, as the heap has it -/
theorem head0 {p : PV} {x : V} (h : (strs0 p || ints0 p) = true) (r : Rep F μ H p x) : ∃ a y ys, x = .ref a ∧ SqT F.K H a (y :: ys) ∧ ((∃ z, y = .str z ∧ key0 p = .str z) ∨ ∃ i, y = .int i ∧ key0 p = .int i) := by
  cases p with
  | tup ps =>
    obtain ⟨a, vs, rfl, z, st, rr⟩ := rep_tup r
    cases ps with
    | nil => cases h
    | cons q qs =>
      obtain ⟨y, ys, rfl, r1, _⟩ := rr.cons_inv
      refine ⟨a, y, ys, rfl, st.sq, ?_⟩
      cases q with
      | str z => exact .inl ⟨z, rep_str r1, rfl⟩
      | int i => exact .inr ⟨i, rep_int r1, rfl⟩
      | _ => cases h
  | _ => cases h
theorem each_of {ps : List PV} {xs : List V} {us : List Value} (r : Reps F μ H ps xs) (v : Vals xs us) : PySem.W.EachIs (fun u p => ∃ x, Rep F μ H p x ∧ RelV x u) us ps := by
  induction v generalizing ps with
  | nil =>
    cases ps with
    | nil => exact .nil
    | cons p ps => obtain ⟨_, _, e, _⟩ := r.cons_inv; cases e
  | cons rx rr ih =>
    cases ps with
    | nil => cases r.nil_inv
    | cons p ps =>
      obtain ⟨x, xr, e, r1, r2⟩ := r.cons_inv
      cases e
      exact .cons ⟨_, r1, rx⟩ (ih r2)
theorem each_to {ps : List PV} {us : List Value} (e : PySem.W.EachIs (fun u p => ∃ x, Rep F μ H p x ∧ RelV x u) us ps) : ∃ xs, Reps F μ H ps xs ∧ Vals xs us := by
  induction e with
  | nil => exact ⟨[], .nil, .nil⟩
  | cons h _ ih =>
    obtain ⟨x, h1, h2⟩ := h
    obtain ⟨xs, h3, h4⟩ := ih
    exact ⟨x :: xs, .cons h1 h3, .cons h2 h4⟩
theorem gsort0 (g : GX X F Ex n) (L : LamK X F) (ob : Bool) {e : Expr} {p p2 p3 p4 pos kp lp : Pos} {j : Nat} {m : Env → GH → Res PV} {x : Str} {args : Arguments} {sc : Scope} (hm : X.mg "sorted" = none) (ha : PE X e (TEv F Ex m)) (hg : X.env.kindOf "sorted" = some .globalImplicit := by kernel_rfl) (h1 : plainE e = true := by kernel_rfl)
    (hk : sc.kind = .function := by rfl) (co : sc.isCoroutine = false := by rfl) (gen : sc.isGenerator = false := by rfl) (hloc : sc.names.lookup x = some .local := by rfl) (hnc : (sc.names.all fun y => y.2 == .local) = true := by rfl) (hd : nmB x = true := by kernel_rfl) (hdef : defaultsOf args X.env = ([], []) := by rfl)
    (hbind : ∀ (c' : Addr) (pm ctv : Value) (cl : List (Str × Addr)) (q : Str) (v : Value), bindArgs (PySem.W.kla_fn "<lambda>" q args (.Subscript (.Name x p3) (.Constant (.int 0) j p4) p2) sc cl pm (.ref c') ctv) ⟨[v], []⟩ = pure [(x, v)] := by intro _ _ _ _ _ _; rfl) :
    PE X (.Call (.Name "sorted" p) [e] [⟨some "key", .Lambda args (.Subscript (.Name x p3) (.Constant (.int 0) j p4) p2) sc lp, kp⟩] pos) (TEv F Ex (mA (mCons m mNil) (bSort0 ob))) := by
  refine ⟨fun pins s σ H Q I ⟨μ, ρ, G, sr, gr, q⟩ => ?_⟩
  obtain ⟨c, P, TB, hcode, hmT, hu⟩ := L.ex
  have hall : ∀ y ∈ sc.names, y.2 = .local := fun y hy => by simpa using List.all_eq_true.mp hnc y hy
  have ra : TEv F Ex m σ H (fun x H1 => ∃ μ1 a G1, Rep F μ1 H1 a x ∧ HRep F μ1 H1 G1 ∧ Post F (RV F) Ex μ1 H1 (bSort0 ob [a] G1) Q) := by
    unfold mA mCons mNil at q
    rw [Res.bind_assoc] at q
    exact TEv.run sr gr q fun μ1 a G1 v H1 e1 r1 g1 s1 p1 => ⟨μ1, a, G1, r1, g1, p1⟩
  have na : starEach [e] X.env = (false, eval e X.env) :: starEach [] X.env := star_plain h1
  refine wpAny_Call_Name_kw (ld_blt I hg hm (u := .builtin "sorted") (by kernel_rfl) ?_)
  refine PyProof.Rows.callWith_kw (args_cons (thn (ha.run pins s σ H _ I ra) fun v s1 ⟨x1, H1, I1, rx1, μ1, a, G1, r1, g1, p1⟩ => args_nil ?_) na) (by rw [na]; rfl) (by rw [na]; rfl) rfl rfl
  refine kws_cons (LamX.lam_make2 I1 TB hcode hmT hu g1.tab hdef (fun y hy e => by rw [hall y hy] at e; cases e) fun f c' pm ctv H2 s2 I2 eN T2 of1 hfn hfr hco => kws_nil ?_)
  show wpAny _ _ (call (.builtin "sorted") [v] [(Str.ofString "key", .ref f)]) _ _ _
  unfold bSort0 at p1
  simp only at p1
  split at p1
  · rename_i qs es
    split at p1
    · rename_i hal
      obtain ⟨al, vs, rfl, z, st, rr⟩ := asL_rep es r1 g1
      obtain rfl : v = .ref al := rx1
      have e2 : Ext μ1 μ1 H1 H2 := Ext.extN eN
      have g2 := g1.extN eN T2
      have rr2 := rr.mono e2
      have st2 : SqL X.K H2 al vs := by
        rw [← g.K]
        rcases st with h | h
        · rcases h with h | ⟨o, h⟩
          · exact .inl (.inl (eN _ _ h fun _ z => by cases z))
          · exact .inl (.inr ⟨o, eN _ _ h fun _ z => by cases z⟩)
        · exact .inr h
      obtain ⟨its, rv, pl, hz⟩ := I2.list st2
      obtain ⟨hA, hS⟩ := alike0 hal
      have heads : ∀ p' ∈ qs, (strs0 p' || ints0 p') = true := fun p' hp => by
        rw [Bool.or_eq_true] at hal ⊢
        exact hal.imp (fun h => List.all_eq_true.mp h p' hp) fun h => List.all_eq_true.mp h p' hp
      have un : X.A.units + 64 < cLine := g.un
      refine PySem.W.sorted_key_data (b := false) (R := fun u p => ∃ x, Rep F μ1 H2 p x ∧ RelV x u) key0 pl.isList (each_of rr2 rv) hA hS (by rw [rr.length]; exact z) (fun y _ => by rw [key0_depth]; omega) (ksk_s1 _ _) (fun _ => ksk_l1 _ _) (fun _ => ksk_t1 _ _)
        (fun u p' ⟨xx, rp, ru⟩ hp h tk kp => ?_) fun out cc h' tk kp nS hS hlen eo => ?_
      · obtain ⟨t, y, ys, rfl, sq, hy⟩ := head0 (heads p' hp) rp
        obtain rfl : u = .ref t := ru
        rw [g.K] at sq
        obtain ⟨its', rv', p1', hz'⟩ := I2.tuple sq
        obtain ⟨w, hw, rw'⟩ := rv'.get (i := 0) (x := y) rfl
        obtain ⟨⟨oc, vs', tq, hoc, hdc, hvc⟩, _, _⟩ := I2.hok c' _ hco
        have dp := g.room.depth
        refine lam0_call (s := { s2 with heap := h, toks := tk }) (by show X.A.in1.in1.depth < _; exact dp) (kp _ _ of1) hk co gen ⟨oc, vs', tq, kp _ _ hoc, hdc, hvc⟩ (I2.nolimit.keeps kp) (fun v => hbind _ _ _ _ _ v) hloc (fun y hy e => by rw [hall y hy] at e; cases e) (nm1 hd)
          (tup_keep (show s2.heap.IsTuple t its'.toArray from p1') fun o e => kp _ o e) (by have := line63; have := rv'.length; simp; omega) (by simpa using hw) fun h2 tk2 kp2 => ⟨h2, tk2, rfl, kp2, ?_⟩
        rcases hy with ⟨zz, rfl, e3⟩ | ⟨ii, rfl, e3⟩
        · obtain ⟨t', rfl⟩ := rw'
          rw [e3]
          exact .str zz t'
        · obtain ⟨t', rfl⟩ := rw'
          rw [e3]
          exact .int ii t'
      · obtain ⟨ys, ry, vy⟩ := each_to eo
        have fr : H2 (s2.heap.objs.size + 1) = none := I2.hok.fresh (Nat.le_succ _)
        have ll : ys.length ≤ sizeLine := by rw [vy.length, hlen, rr.length]; exact z
        refine ⟨.ref _, upd H2 (s2.heap.objs.size + 1) (.lst ys), I2.laid (t' := tk) kp (Nat.le_succ _) ⟨ll, out, cc, vy, hS⟩, rfl, ?_⟩
        refine mkL_new (p1.shift e2) g2 (fun b o e => by rw [upd_ne (ne_of_none e fr)]; exact e) fr upd_same fun μ' f1 f2 f3 => ?_
        exact ry.chg (chg_new (fun b o e => by rw [upd_ne (ne_of_none e fr)]; exact e) fr f1 f3)
    · exact (show False from p1).elim
  · exact (show False from p1).elim
end
/-- a def that makes lambdas -/
def LamD (K : PySem.W.Frag) (mg : Str → Option Value) (base : Heap) (F : Fx) (f : Addr) (qual : Str) : Prop := ∀ cdv, CodeAt K f cdv → ∃ c P, LamX.TabB base mg c P ∧ cdv = .ref c ∧ (P, qual ++ ".<locals>." ++ "<lambda>") ∈ F.T ∧ ∀ p ∈ F.T, p.1 = P → p.2 = qual ++ ".<locals>." ++ "<lambda>"
theorem lamK_of {P : Program} {w : World} {K : PySem.W.Frag} {mg : Str → Option Value} {base : Heap} {F : Fx} {N : List Str} {qual : Str} {scope : Scope} {f : Addr} {cdv : Value} {A : Around} {outer : List PySem.Env} {s : Shared} {H : Hp} {E : XK} (h : LamD K mg base F f qual) (hc : CodeAt K f cdv) : LamK (CXo P w K mg base N qual scope f cdv A outer s H E) F := by
  obtain ⟨c, P', h1, h2, h3, h4⟩ := h cdv hc
  exact ⟨c, P', h1, h2, h3, h4⟩
end EV
end
section
set_option Elab.async false
set_option linter.all false
set_option maxRecDepth 100000
/-! Ev18: a law's end: the script comes in, True goes out. -/
namespace EV
open PySem PySem.Spec PyProof.Rows L2 PySem.Calls
/-- what is tracked at a law's call: the empty tables, the script's list where it is none of the written part -/
def H0 (tb : List Addr) (K : PySem.W.Frag) (a : Addr) (o : Obj) (ns : List Int) : Hp := fun b => if b ∈ tb then some (.tbl #[]) else if b = a ∧ K.lookup a = none then some (.frz o (.lst (ns.map V.int))) else none
section
variable {P : Program} {w : World} {K : PySem.W.Frag} {mg mb : Str → Option Value} {F : Fx} {k : Nat} {fa a : Addr} {cs : List (Addr × Addr)} {x : Str} {s₁ : Shared} {vs : List Value} {ns : List Int} {m : List PV → GH → Res PV}
theorem h0_cases {tb : List Addr} {o : Obj} {b : Addr} {u : HO} (e : H0 tb K a o ns b = some u) : (b ∈ tb ∧ u = .tbl #[]) ∨ (b ∉ tb ∧ b = a ∧ K.lookup a = none ∧ u = .frz o (.lst (ns.map V.int))) := by
  unfold H0 at e
  split at e
  · cases e; exact .inl ⟨by assumption, rfl⟩
  · split at e
    · rename_i h1 h2
      cases e
      exact .inr ⟨h1, h2.1, h2.2, rfl⟩
    · cases e
theorem ints_rep {μ : Mu} {H : Hp} : ∀ ns : List Int, Reps F μ H (ns.map PV.int) (ns.map V.int)
  | [] => .nil
  | n :: ns => .cons (by simp only [Rep]) (ints_rep ns)
theorem law_callG (hFK : F.K = K) (KX : K.In s₁.heap) (hns : s₁.heap.Ns mainGlobals mg) (hb : s₁.heap.Ns builtinsNs mb) (hbb : ∀ x : Str, x ≠ "__name__" → mb x = bootBuiltins x) (hlim : s₁.heap.NoLimit) (hg : s₁.gens = #[])
    (hT : ∀ p ∈ cs, s₁.heap.get? p.2 = some { cls := .none, data := .fields #[] }) (nT : ∀ p ∈ cs, K.lookup p.2 = none) (C : ∀ p ∈ cs, PySem.W.CodeHd s₁.heap p.1 p.2) (hFT : ∀ q ∈ F.T, q.1 ∈ cs.map (·.2))
    (hbm : ∃ (bm : Addr) (ob : Obj), mg "__builtins__" = some (.ref bm) ∧ bm ≠ builtinsNs ∧ s₁.heap.get? bm = some ob ∧ ob.cls = .type "module" ∧ ob.dict = some builtinsNs ∧ ob.data = .plain) (hmg : mg x = some (.ref fa))
    (ha : s₁.heap.get? a = some { cls := .type "list", data := .seq vs.toArray }) (hi : IntsAre vs ns) (hl : ns.length ≤ sizeLine) (hr : Room k callerA) (hm : ∃ G, m [.sls (ns.map PV.int)] [] = .ok (.bl true) G)
    (hF : ∀ base : Heap, K.In base → base.Ns mainGlobals mg → (∀ p ∈ cs, LamX.TabB base mg p.1 p.2) → CalleeP P w K mg base F k x 1 m) :
    codeAny (model P w) callerA (.call (.ref fa) ⟨[.ref a], []⟩) (fun r s' => r = .ok (.ret (.bool true)) ∧ OldK s₁.heap s'.heap ∧ s'.os = s₁.os ∧ AllBare s'.gens) s₁ := by
  let tb := cs.map (·.2)
  let H := H0 tb K a { cls := .type "list", data := .seq vs.toArray } ns
  have rv := vals_ints hi
  have lenV := hi.length
  have atT : ∀ b ∈ tb, s₁.heap.get? b = some { cls := .none, data := .fields #[] } ∧ K.lookup b = none ∧ H b = some (.tbl #[]) := fun b hb => by
    obtain ⟨p, hp, rfl⟩ := List.mem_map.mp hb
    exact ⟨hT p hp, nT p hp, if_pos hb⟩
  have aT : a ∉ tb := fun z => by
    have q := (atT a z).1
    rw [ha] at q
    cases congrArg Obj.data (Option.some.inj q)
  have cases_ : ∀ {b u}, H b = some u → (b ∈ tb ∧ u = .tbl #[]) ∨ (b ∉ tb ∧ b = a ∧ K.lookup a = none ∧ u = .frz { cls := .type "list", data := .seq vs.toArray } (.lst (ns.map V.int))) := h0_cases
  have hok : HOk P w H s₁.heap := fun b u e => by
    rcases cases_ e with ⟨h1, rfl⟩ | ⟨_, rfl, _, rfl⟩
    · exact (atT b h1).1
    · exact ⟨ha, by rw [List.length_map]; exact hl, vs, _, rv, ha⟩
  -- what is neither a list nor an empty record isn't hidden
  have seen : ∀ {b o}, s₁.heap.get? b = some o → (∀ us n, o.data ≠ .seq us n) → o.data ≠ .fields #[] → H b = none := fun {b o} e h1 h2 => by
    cases q : H b with
    | none => rfl
    | some u =>
      rcases cases_ q with ⟨q1, _⟩ | ⟨_, rfl, _, _⟩
      · rw [(atT b q1).1] at e; cases e; exact (h2 rfl).elim
      · rw [ha] at e; cases e; exact (h1 _ _ rfl).elim
  have inB : ∀ {b o}, s₁.heap.get? b = some o → H b = none → (hidT s₁.heap H).get? b = some o := fun e q => hidT_get e q
  have nsB : ∀ {b m}, s₁.heap.Ns b m → (hidT s₁.heap H).Ns b m := fun {b m} ⟨o, es, ep, e, d, r⟩ => ⟨o, es, ep, inB e (seen e (fun us n z => by rw [d] at z; cases z) fun z => by rw [d] at z; cases z), d, r⟩
  have kB : K.In (hidT s₁.heap H) := fun b o e => inB (KX b o e) (by
    cases q : H b with
    | none => rfl
    | some u =>
      rcases cases_ q with ⟨q1, _⟩ | ⟨_, rfl, q2, _⟩
      · rw [(atT b q1).2.1] at e; cases e
      · rw [q2] at e; cases e)
  have TB : ∀ p ∈ cs, LamX.TabB (hidT s₁.heap H) mg p.1 p.2 := fun p hp => by
    have gP : mainGlobals ≠ p.2 := fun z => by
      obtain ⟨o, es, ep, e, hd, _⟩ := hns
      rw [z, hT p hp] at e
      cases e
      cases hd
    refine ⟨?_, ?_, gP⟩
    · obtain ⟨o, us, file, tf, flags, tg, inF, text, tt, e1, e2, e3, e4, e5⟩ := C p hp
      exact ⟨o, us, file, tf, flags, tg, inF, text, tt, inB e1 (seen e1 (fun us' n z => by rw [e3] at z; cases z) fun z => by rw [e3] at z; cases z; simp at e4), e2, e3, e4, e5⟩
    · obtain ⟨bm, ob, b1, b2, b3, b4, b5, b6⟩ := hbm
      refine ⟨bm, ob, b1, b2, fun q => ?_, fun q => ?_, inB b3 (seen b3 (fun us n z => by rw [b6] at z; cases z) fun z => by rw [b6] at z; cases z), b4, b5, b6⟩
      · obtain ⟨o, es, ep, e, hd, _⟩ := hns
        rw [q, e] at b3
        cases b3
        rw [hd] at b6
        cases b6
      · rw [q, hT p hp] at b3
        cases b3
        cases b6
  have e0 : Env0 P w K mg (hidT s₁.heap H) callerA [] s₁ H := ⟨rfl, ⟨kB, nsB hns, ⟨mb, nsB hb, hbb⟩, let ⟨mc, h1, h2⟩ := hlim; ⟨mc, nsB h1, h2⟩⟩, fun b o e => of_hidT e, Nat.le_of_eq (hidT_size _ _), trivial, fun b hb => absurd hb (by simp [frs]), hok, .of_eq hg⟩
  obtain ⟨f, fd, ps, Fn, hf, _, hbd⟩ := (hF _ kB (nsB hns) TB).ex
  rw [hmg] at hf
  cases hf
  obtain ⟨G, hG⟩ := hm
  have sp : SpV F 1 m [.ref a] H (fun v _ => v = .bl true) fun _ _ _ => False := by
    refine ⟨rfl, ⟨[], []⟩, [.sls (ns.map PV.int)], [], .one ?_, ⟨rfl, List.nodup_nil, fun i b o h => by simp at h, fun b h => by simp at h, fun q hq => .nil (atT _ (hFT q hq)).2.2⟩, ?_⟩
    · simp only [Rep]
      refine ⟨a, ns.map V.int, rfl, by rw [List.length_map]; exact hl, ?_, ints_rep ns⟩
      cases hk : K.lookup a with
      | none => exact .inl ⟨⟨by simp, by simp⟩, .inr ⟨_, by show H a = _; unfold H H0; rw [if_neg aT, if_pos ⟨rfl, hk⟩]⟩⟩
      | some o =>
        have e := KX a o hk
        rw [ha] at e
        cases e
        exact .inr ⟨_, vs.toArray, _, by rw [hFK]; exact hk, rfl, rfl, rfl, by rw [List.size_toArray, lenV]; exact hl, by simpa using rv⟩
    · rw [hG]
      exact fun μ' b H' _ r _ => rep_bl r
  have hlen : ps.length = 1 := (Fn.len _ _ _ _ sp).symm
  refine codeAny_mono (Fn.run callerA [] s₁ H ⟨[.ref a], []⟩ [.ref a] [.ref a] _ _ hr rfl e0 (hbd s₁ [.ref a] KX (by rw [hlen]; rfl)) (.cons rfl .nil) sp) fun r s' h => ?_
  cases r with
  | error e =>
    obtain ⟨_, _, _, _, _, _, _, _, _, _, _, _, z⟩ := (show L2.CX P w [] H s₁ (fun _ _ _ => False) e s' from h)
    exact z.elim
  | ok fl =>
    cases fl with
    | next => exact False.elim h
    | brk => exact False.elim h
    | cont => exact False.elim h
    | ret u =>
      obtain ⟨v, H', os, bare, un, hok', r', q⟩ := h
      obtain rfl : v = .bl true := q
      obtain rfl : u = Value.bool true := r'
      have kept : ∀ b o, b ∉ tb → s₁.heap.get? b = some o → s'.heap.get? b = some o := fun b o nb e => by
        cases q : H b with
        | none => exact un.keep b o e q (by simp [frs]) (by simp)
        | some u =>
          rcases cases_ q with ⟨z, _⟩ | ⟨_, rfl, _, rfl⟩
          · exact absurd z nb
          · have z2 := hok' b _ (un.frzs b _ _ q)
            rw [ha] at e
            cases e
            exact z2.1
      have grown : ∀ b ∈ tb, ∃ more : Array Value, s'.heap.get? b = some { cls := .none, data := .fields more } := fun b hb => by
        obtain ⟨more, z⟩ := un.tbls b #[] (atT b hb).2.2
        exact ⟨_, hok' b _ z⟩
      refine ⟨rfl, ⟨fun b o e => ?_, fun b o e => ?_⟩, os, bare⟩
      · by_cases hb : b ∈ tb
        · obtain ⟨p, hp, rfl⟩ := List.mem_map.mp hb
          obtain ⟨more, hm⟩ := grown _ hb
          rw [hT p hp] at e
          cases e
          exact .inr (.inl ⟨((C p hp).tab (hT p hp)).isCodeTable, rfl, #[], more, rfl, by rw [Array.empty_append]; exact hm⟩)
        · exact .inl (kept b o hb e)
      · by_cases hb : b ∈ tb
        · obtain ⟨more, hm⟩ := grown b hb
          exact ⟨_, hm⟩
        · exact ⟨o, kept b o hb e⟩
end
/-- what is known of a law at the head's heap h -/
def LawG (l : PySem.W.OpenLaw) (w : World) (k n : Nat) (x : Str) (mg : Str → Option Value) (fa : Addr) (h : Heap) : Prop :=
  ∃ (F : Fx) (cs : List (Addr × Addr)) (m : List PV → GH → Res PV), F.K.In h ∧ (∀ p ∈ cs, h.get? p.2 = some { cls := .none, data := .fields #[] }) ∧ (∀ p ∈ cs, F.K.lookup p.2 = none) ∧ (∀ p ∈ cs, PySem.W.CodeHd h p.1 p.2) ∧ (∀ q ∈ F.T, q.1 ∈ cs.map (·.2)) ∧
    (∀ ns : List Int, ns.length ≤ n → (∀ z ∈ ns, Builtin.Int.intBits z ≤ 1048576) → ∃ G, m [.sls (ns.map PV.int)] [] = .ok (.bl true) G) ∧
    ∀ base : Heap, F.K.In base → base.Ns mainGlobals mg → (∀ p ∈ cs, LamX.TabB base mg p.1 p.2) → CalleeP l.prog w F.K mg base F k x 1 m
theorem walk_G {l : PySem.W.OpenLaw} {n k : Nat} {q : Program} {loose : List Str} {XP : (Str → Option Value) → Heap → Prop} {YP : World → Heap → Prop} {d : DefRec} (hn : l.most = some n) (hn2 : n ≤ sizeLine) (hdf : d.params.defaults = []) (hr : Room k callerA)
    (hF : ∀ (w : World) (mg : Str → Option Value) (fa : Addr) (h : Heap), YP w h → h.Ns mainGlobals mg → mg d.name = some (.ref fa) → LawG l w k n d.name mg fa h) : PySem.W.WalkO q loose XP YP l.row.toRowW d [] (fun f vs => PySem.call f vs) := by
  refine Att.attach_callB hn hdf fun w s₀ s₁ mg mb fa o pm cd doc a vs ns G Y ho hd hcd hmg hobj hints hlen hbits hg => ?_
  obtain ⟨F, cs, m, KX, hT, nT, C, hFT, hm, hC⟩ := hF w mg fa _ Y G.T.g hmg
  exact law_callG rfl KX G.T.g G.T.b G.T.builtins G.T.nolimit hg hT nT C hFT G.T.bmain hmg hobj hints (Nat.le_trans hlen hn2) hr (hm ns hlen hbits) hC
end EV
end
section
set_option Elab.async false
set_option linter.all false
set_option maxRecDepth 100000
/-! Ev19: what the head tells, for the defs. -/
namespace EV
open PySem PySem.Spec PyProof.Rows L2
/-- the tables of the defs that make lambdas are of one each -/
def oneEach (tf : List He.Defn) (K : PySem.W.Frag) : Bool := decide ((tf.map fun p => (He.cT K p).2).Nodup)
/-- their names -/
def lamT (tf : List He.Defn) (K : PySem.W.Frag) : List (Addr × Str) := tf.map fun p => ((He.cT K p).2, p.1 ++ ".<locals>." ++ "<lambda>")
theorem nodup_map_eq {α β : Type} {f : α → β} : ∀ {l : List α}, (l.map f).Nodup → ∀ {a b : α}, a ∈ l → b ∈ l → f a = f b → a = b
  | x :: l, h, a, b, ha, hb, e => by
    rw [List.map_cons, List.nodup_cons] at h
    rcases List.mem_cons.mp ha with ha | ha <;> rcases List.mem_cons.mp hb with hb | hb
    · rw [ha, hb]
    · exact absurd (List.mem_map.mpr ⟨b, hb, by rw [← e, ha]⟩) h.1
    · exact absurd (List.mem_map.mpr ⟨a, ha, by rw [e, hb]⟩) h.1
    · exact nodup_map_eq h.2 ha hb e
theorem lamD_of {K : PySem.W.Frag} {mg : Str → Option Value} {base : Heap} {F : Fx} {tf : List He.Defn} {p : He.Defn} {params : Arguments} {body : List Stmt} {scope : Scope} {dvs : List V} {kws : List (Str × V)} {fd : FuncData} (hp : p ∈ tf) (h1 : oneEach tf K = true) (hT : F.T = lamT tf K)
    (TB : ∀ p ∈ tf, LamX.TabB base mg (He.cT K p).1 (He.cT K p).2) (Fd : FunD K p.1 p.1 params body scope dvs kws (He.fAd K p) fd) : LamD K mg base F (He.fAd K p) p.1 := by
  intro cdv ⟨oc, od, osl, fd', lk, e⟩
  obtain ⟨oc2, od2, dV, kV, doc, pm, an, cdv2, ct, osl2, e2, lk2, hc, _⟩ := Fd.ex
  rw [lk] at lk2
  cases lk2
  subst e2
  have e' : cdv2 = cdv := e
  subst e'
  obtain ⟨c, rfl⟩ := He.codeIn_ref hc
  have hco : He.codeOf K p = c := He.codeOf_eq lk rfl
  refine ⟨(He.cT K p).1, (He.cT K p).2, TB p hp, by show Value.ref c = .ref (He.codeOf K p); rw [hco], ?_, fun r hr e => ?_⟩
  · rw [hT]
    exact List.mem_map.mpr ⟨p, hp, rfl⟩
  · rw [hT] at hr
    obtain ⟨p', hp', rfl⟩ := List.mem_map.mp hr
    rw [nodup_map_eq (of_decide_eq_true h1) hp' hp e]
end EV
end
section
set_option Elab.async false
set_option linter.all false
set_option maxRecDepth 100000
/-! Ev20: dicts: dict(pairs), {}, k in d, d[k], d[k] = v. -/
namespace EV
open PySem PySem.Spec PyProof.Rows L2
def keyP : PV → Option Key
  | .str x => some (.inr x)
  | .int i => some (.inl i)
  | _ => none
def pairP : PV → Option (Key × PV)
  | .tup [k, v] => (keyP k).map fun k => (k, v)
  | _ => none
def pairsP : List PV → Option (List (Key × PV))
  | [] => some []
  | p :: ps => match pairP p, pairsP ps with
    | some q, some qs => some (q :: qs)
    | _, _ => none
def getP (kps : List (Key × PV)) (k : Key) : Option PV := (kps.find? fun q => decide (q.1 = k)).map (·.2)
def hasP (kps : List (Key × PV)) (k : Key) : Bool := kps.any fun q => decide (q.1 = k)
def putD (kps : List (Key × PV)) (k : Key) (v : PV) : List (Key × PV) := if hasP kps k = true then kps.map (fun q => if q.1 = k then (q.1, v) else q) else kps ++ [(k, v)]
def mergeP (kps more : List (Key × PV)) : List (Key × PV) := more.foldl (fun acc q => putD acc q.1 q.2) kps
section
variable {F : Fx} {μ : Mu} {H : Hp} {G : GH}
theorem keyP_rep {p : PV} {k : Key} {v : V} (e : keyP p = some k) (r : Rep F μ H p v) : v = kV k := by
  cases p with
  | str x => cases e; exact rep_str r
  | int i => cases e; exact rep_int r
  | _ => cases e
theorem RepK.length {kps : List (Key × PV)} {kvs : List (Key × V)} (r : RepK F μ H kps kvs) : kps.length = kvs.length := Paired.length r
theorem RepK.get {kps : List (Key × PV)} {kvs : List (Key × V)} {k : Key} (r : RepK F μ H kps kvs) : (∀ p, getP kps k = some p → ∃ v, valV kvs k = some v ∧ Rep F μ H p v) ∧ (getP kps k = none → valV kvs k = none) := by
  replace r : Paired _ kps kvs := r
  induction r with
  | nil => exact ⟨fun p h => by simp [getP] at h, fun _ => rfl⟩
  | cons h t ih =>
    rename_i q w kps kvs
    by_cases e : q.1 = k
    · refine ⟨fun p hp => ?_, fun hn => by simp [getP, List.find?_cons, e] at hn⟩
      have : q.2 = p := by simpa [getP, List.find?_cons, e] using hp
      subst this
      exact ⟨w.2, valV_pos (by rw [← h.1]; exact e), h.2⟩
    · have e1 : getP (q :: kps) k = getP kps k := by simp [getP, List.find?_cons, e]
      have e2 : valV (w :: kvs) k = valV kvs k := valV_neg (by rw [← h.1]; exact e)
      rw [e1, e2]
      exact ih
theorem RepK.put {kps : List (Key × PV)} {kvs : List (Key × V)} {k : Key} {p : PV} {v : V} (r : RepK F μ H kps kvs) (rp : Rep F μ H p v) : RepK F μ H (putD kps k p) (putK kvs k v) := by
  replace r : Paired _ kps kvs := r
  have e : hasP kps k = kvs.any fun kv => decide (kv.1 = k) := by
    unfold hasP
    induction r with
    | nil => rfl
    | cons h t ih => simp only [List.any_cons, ih, h.1]
  unfold putD putK
  rw [e]
  split
  · show Paired _ _ _
    clear e
    rename_i z
    clear z
    induction r with
    | nil => exact .nil
    | cons h t ih =>
      rename_i q w _ _
      refine .cons ?_ ih
      show (if q.1 = k then (q.1, p) else q).1 = (if w.1 = k then (w.1, v) else w).1 ∧ Rep F μ H (if q.1 = k then (q.1, p) else q).2 (if w.1 = k then (w.1, v) else w).2
      by_cases z : q.1 = k
      · rw [if_pos z, if_pos (by rw [← h.1]; exact z)]
        exact ⟨h.1, rp⟩
      · rw [if_neg z, if_neg (by rw [← h.1]; exact z)]
        exact h
  · show Paired _ _ _
    clear e
    rename_i z
    clear z
    induction r with
    | nil => exact .cons ⟨rfl, rp⟩ .nil
    | cons h t ih => exact .cons h ih
theorem RepK.merge {more : List (Key × PV)} {ws : List (Key × V)} (r : RepK F μ H more ws) : ∀ {kps : List (Key × PV)} {kvs : List (Key × V)}, RepK F μ H kps kvs → RepK F μ H (mergeP kps more) (mergeK kvs ws) := by
  replace r : Paired _ more ws := r
  induction r with
  | nil => intro kps kvs q; exact q
  | cons h t ih =>
    rename_i q w _ _
    intro kps kvs r0
    have := ih (RepK.put (k := q.1) r0 h.2)
    unfold mergeP mergeK
    simp only [List.foldl_cons]
    rw [← h.1]
    exact this
theorem putD_len (kps : List (Key × PV)) (k : Key) (p : PV) : (putD kps k p).length ≤ kps.length + 1 := by
  unfold putD
  split
  · rw [List.length_map]; omega
  · simp
theorem mergeP_len : ∀ (more kps : List (Key × PV)), (mergeP kps more).length ≤ kps.length + more.length
  | [], kps => by simp [mergeP]
  | q :: more, kps => by
    have h1 := mergeP_len more (putD kps q.1 q.2)
    have h2 := putD_len kps q.1 q.2
    have e : mergeP kps (q :: more) = mergeP (putD kps q.1 q.2) more := rfl
    rw [e, List.length_cons]
    omega
/-- pairs, as the heap has them -/
theorem pairs_rep {ps : List PV} {kps : List (Key × PV)} {vs : List V} (e : pairsP ps = some kps) (r : Reps F μ H ps vs) : ∃ (ts : List Addr) (kvs : List (Key × V)), vs = ts.map V.ref ∧ Paired (fun p kv => SqT F.K H p [kV kv.1, kv.2]) ts kvs ∧ RepK F μ H kps kvs := by
  induction ps generalizing kps vs with
  | nil =>
    cases e
    rw [r.nil_inv]
    exact ⟨[], [], rfl, .nil, .nil⟩
  | cons p ps ih =>
    unfold pairsP at e
    split at e
    · rename_i q qs e1 e2
      cases e
      obtain ⟨v, vr, rfl, r1, rr⟩ := r.cons_inv
      obtain ⟨ts, kvs, rfl, h1, h2⟩ := ih e2 rr
      unfold pairP at e1
      split at e1
      · rename_i k x
        obtain ⟨kk, ek, rfl⟩ := Option.map_eq_some_iff.mp e1
        obtain ⟨a, ws, rfl, z, st, r2⟩ := rep_tup r1
        obtain ⟨y, w, rfl, r3, r4⟩ := Reps.two_inv r2
        refine ⟨a :: ts, (kk, w) :: kvs, rfl, .cons ?_ h1, .cons ⟨rfl, r4⟩ h2⟩
        rw [← keyP_rep ek r3]
        exact st.sq
      · cases e1
    · cases e
end
section
variable {X : Cx}
theorem pair_vals {pins : List (Addr × Obj)} {σ : L2.St} {H : Hp} {s : Shared} (I : Inv X pins σ H s) {ts : List Addr} {kvs : List (Key × V)} (h : Paired (fun p kv => SqT X.K H p [kV kv.1, kv.2]) ts kvs) :
    ∃ (prs : List (Key × Value)) (us : List (Value × Value)), KV kvs prs ∧ prs.length = ts.length ∧ us.length = ts.length ∧ ∀ (j : Nat) (q : Value × Value), us[j]? = some q → ∃ (b : Addr) (k : Key), ts[j]? = some b ∧ prs[j]? = some (k, q.2) ∧ IsTup s.heap b #[q.1, q.2] ∧ keyIs k q.1 = true := by
  induction h with
  | nil => exact ⟨[], [], .nil, rfl, rfl, fun j q e => by simp at e⟩
  | cons h t ih =>
    rename_i p kv ts kvs
    obtain ⟨prs, us, h1, h2, h3, h4⟩ := ih
    obtain ⟨its, rv, ht, _⟩ := I.tuple h
    obtain ⟨u, y, ei, ru, ry⟩ := vals2 rv
    subst ei
    refine ⟨(kv.1, y) :: prs, (u, y) :: us, .cons ⟨rfl, ry⟩ h1, by simp [h2], by simp [h3], fun j q e => ?_⟩
    cases j with
    | zero =>
      simp at e
      subst e
      exact ⟨p, kv.1, rfl, rfl, ht, kV_is (P := X.prog) (w := X.w) ru⟩
    | succ j =>
      obtain ⟨b, k, e1, e2, e3⟩ := h4 j q (by simpa using e)
      exact ⟨b, k, by simpa using e1, by simpa using e2, e3⟩
/-- dict(t), a tuple of pairs -/
theorem call_dictT {F : Fx} {μ : Mu} (hK : F.K = X.K) (hcalm : X.calm = true) : CallR X (.type "dict") (fun xs H Q => ∃ (a : Addr) (ts : List Addr) (kvs : List (Key × V)), xs = [.ref a] ∧ StT F μ H a (ts.map V.ref) ∧ Paired (fun p kv => SqT X.K H p [kV kv.1, kv.2]) ts kvs ∧
    ∀ p, H p = none → Q (.ref p) (upd H p (.dK (mergeK [] kvs)))) := by
  intro pins s σ H xs us Q I r ⟨a, ts, kvs, ex, st, hp, q⟩
  subst ex
  obtain ⟨u, eu, rx⟩ := vals1 r
  subst eu
  cases rx
  obtain ⟨its, o, rv, hz, ho, hc, hd, n, hdat⟩ : ∃ (its : List Value) (o : Obj), Vals (ts.map V.ref) its ∧ ts.length ≤ sizeLine ∧ s.heap.get? a = some o ∧ o.cls = .type "tuple" ∧ o.dict = none ∧ ∃ n, o.data = .seq its.toArray n := by
    rcases st with ⟨_, o, h, d⟩ | ⟨o, its, n, h1, h2, h3, h4, h5, h6⟩
    · obtain ⟨ho, z, its, rv, o', ho', c, n, dt⟩ := I.hok a _ h
      rw [ho] at ho'
      cases ho'
      exact ⟨its, o, rv, by rw [List.length_map] at z; exact z, ho, c, d, n, dt⟩
    · rw [hK] at h1
      have := h6.length
      refine ⟨its.toList, o, h6, ?_, I.kIn a o h1, h2, h3, n, by simpa using h4⟩
      rw [List.length_map] at this
      rw [this]
      simpa using h5
  have ei := refs_at rv
  subst ei
  obtain ⟨prs, vps, rel, hl, hl2, hpr⟩ := pair_vals I hp
  have hT : PySem.PairItems s.heap (ts.map Value.ref).toArray (fun j => ts.getD j 0) vps := by
    refine ⟨by simp [hl2], fun j k v hj => ?_⟩
    obtain ⟨b, kk, e1, _, e3, _⟩ := hpr j (k, v) hj
    refine ⟨by simp [e1, List.getD], ?_⟩
    obtain ⟨ob, hb, cb, nb, db⟩ := e3
    have eb : ts.getD j 0 = b := by rw [List.getD_eq_getElem?_getD, e1]; rfl
    show PairAt s.heap (ts.getD j 0) k v
    rw [eb]
    exact .inl ⟨ob, hb, cb, nb, db⟩
  refine PySem.call_dict_pairs (knd := mixKind X.prog X.w) (kvs := prs) (PySem.PairArg.tuple a _ (fun j => ts.getD j 0) vps) (I.ok.hd hcalm) ⟨⟨o, n, ho, hc, hd, hdat⟩, hT⟩ ⟨by omega, fun i key v e => ?_⟩ (by omega) fun h' tk hd' k => ?_
  · obtain ⟨b, kk, _, e2, _, e4⟩ := hpr i (key, v) e
    exact ⟨kk, e2, e4⟩
  · have hm : (s.heap.objs.size == sysModules) = false := beq_eq_false_iff_ne.mpr (Nat.ne_of_gt I.big)
    have hlen : (mergeK [] kvs).length ≤ sizeLine := by
      refine Nat.le_trans (length_mergeK kvs []) ?_
      have := rel.length
      simp
      omega
    exact ⟨.ref s.heap.objs.size, upd H s.heap.objs.size (.dK (mergeK [] kvs)), I.laid (t' := tk) (fun b o e => k b o (by simp) e) (Nat.le_refl _) (show ObjOk X.prog X.w _ _ _ (.dK (mergeK [] kvs)) from ⟨hlen, hm, merged [] prs, KV.merge rel .nil, hd'⟩), rfl, q _ (I.hok.fresh (Nat.le_refl _))⟩
/-- d[k] of a dict of texts and ints -/
theorem ix_dic : IxR X (fun x y H Q => ∃ a kvs k v, x = .ref a ∧ Rd H a (.dK kvs) ∧ y = kV k ∧ valV kvs k = some v ∧ Q v H) := by
  intro value slice pins s σ H x y v u Q I rx ry ⟨a, kvs, k, z, ex, hd, ey, hv, q⟩ hs
  subst ex ey
  cases rx
  obtain ⟨_, _, vs, rel, dd⟩ := dk_rd I.hok hd
  obtain ⟨w', hw, rw'⟩ := RelO.some_of (v := z) (o := valueAt vs k) (by rw [← hv]; exact rel.val k)
  exact subscriptTail_builtinR (x := w') dd.typeIs PySem.F.slot_dict_getitem.lookup (wpAny_getItem_of (kV_is ry) dd.mapOf hw ⟨rfl, z, H, I.tok _, rw', q⟩) hs
end
section
variable {X : Cx} {F : Fx} {Ex : XK} {n : Nat} {μ : Mu} {H : Hp} {G : GH}
/-- a new dict is handed out -/
theorem new_dic {kps : List (Key × PV)} {kvs : List (Key × V)} {Q : VK} (h : Post F (RV F) Ex μ H (.ok (.obj G.length) (G ++ [.dic kps])) Q) (g : HRep F μ H G) (r : RepK F μ H kps kvs) (z : kvs.length ≤ sizeLine) : ∀ p, H p = none → Q (.ref p) (upd H p (.dK kvs)) := fun p n => by
  refine h.ok (Ext.push g n) ?_ (g.push n ⟨kvs, upd_same, z, r.mono (Ext.push g n)⟩)
  show Rep F _ _ _ _
  simp only [Rep]
  exact ⟨p, rfl, by rw [← g.len]; simp⟩
def bDict (ps : List PV) (G : GH) : Res PV := match ps with
  | [.tup qs] => match pairsP qs with
    | some kps => .ok (.obj G.length) (G ++ [.dic (mergeP [] kps)])
    | none => .bad
  | [x] => match (asL x G).bind pairsP with
    | some kps => .ok (.obj G.length) (G ++ [.dic (mergeP [] kps)])
    | none => .bad
  | _ => .bad
theorem bDict_ok (hK : F.K = X.K) (hc : X.calm = true) : CallR X (.type "dict") (RdV F Ex bDict) := by
  intro pins s σ H xs us Q I rs ⟨μ, ps, G, r, g, p⟩
  unfold bDict at p
  split at p
  · rename_i qs
    obtain ⟨v, rfl, r1⟩ := Reps.one_inv r
    obtain ⟨a, vs, rfl, z, st, rr⟩ := rep_tup r1
    split at p
    · rename_i kps ek
      obtain ⟨ts, kvs, rfl, h1, h2⟩ := pairs_rep ek rr
      rw [hK] at h1
      have hz : (mergeK [] kvs).length ≤ sizeLine := by
        have a1 := Paired.length h1
        have a2 := length_mergeK kvs []
        rw [List.length_map] at z
        simp at a2
        omega
      exact call_dictT hK hc pins s σ H _ us Q I rs ⟨a, ts, kvs, rfl, st, h1, new_dic p g (RepK.merge h2 .nil) hz⟩
    · exact (show False from p).elim
  · rename_i x hx
    obtain ⟨v, rfl, r1⟩ := Reps.one_inv r
    split at p
    · rename_i kps ek
      obtain ⟨qs, es, e2⟩ := Option.bind_eq_some_iff.mp ek
      obtain ⟨a, vs, rfl, z, st, rr⟩ := asL_rep es r1 g
      obtain ⟨ts, kvs, rfl, h1, h2⟩ := pairs_rep e2 rr
      rw [hK] at h1 st
      have hz : (mergeK [] kvs).length ≤ sizeLine := by
        have a1 := Paired.length h1
        have a2 := length_mergeK kvs []
        rw [List.length_map] at z
        simp at a2
        omega
      exact call_dictP hc pins s σ H _ us Q I rs ⟨a, ts, kvs, rfl, st, h1, new_dic p g (RepK.merge h2 .nil) hz⟩
    · exact (show False from p).elim
  · exact (show False from p).elim
def mDNew : Env → GH → Res PV := fun _ G => .ok (.obj G.length) (G ++ [.dic []])
theorem gdnew {pos : Pos} : PE X (.Dict [] [] pos) (TEv F Ex mDNew) := pe_dnewK.weak fun σ H Q ⟨μ, ρ, G, s, g, p⟩ => new_dic (show Post F (RV F) Ex μ H (.ok (.obj G.length) (G ++ [.dic []])) Q from p) g .nil (by decide)
/-- a dict of ours, with what it holds at a key -/
def asD (G : GH) : PV → Option (List (Key × PV))
  | .obj n => match G[n]? with
    | some (.dic kps) => some kps
    | _ => none
  | _ => none
theorem asD_rep {x : PV} {kps : List (Key × PV)} {v : V} (e : asD G x = some kps) (r : Rep F μ H x v) (g : HRep F μ H G) : ∃ n a kvs, x = .obj n ∧ G[n]? = some (.dic kps) ∧ v = .ref a ∧ μ.ob[n]? = some a ∧ H a = some (.dK kvs) ∧ kvs.length ≤ sizeLine ∧ RepK F μ H kps kvs := by
  cases x with
  | obj n =>
    obtain ⟨a, rfl, ha⟩ := rep_obj r
    unfold asD at e
    simp only at e
    split at e
    · rename_i ks eo
      cases e
      obtain ⟨kvs, q, z, rk⟩ := g.obj n a _ ha eo
      exact ⟨n, a, kvs, rfl, eo, rfl, ha, q, z, rk⟩
    · cases e
  | _ => cases e
/-- x[k]: of a dict too -/
def opIxA (ps : List PV) (G : GH) : Res PV := match ps with
  | [x, k] => match asD G x with
    | some kps => match (keyP k).bind (getP kps) with
      | some v => .ok v G
      | none => .bad
    | none => opIx [x, k] G
  | _ => .bad
theorem opIxA_ok (hK : F.K = X.K) : IxR X (OpV F Ex opIxA) := by
  intro value slice pins s σ H x y v u Q I rx ry ⟨μ, ps, G, r, g, p⟩ hs
  unfold opIxA at p
  split at p
  · obtain ⟨vx, vk, e, r1, r2⟩ := Reps.two_inv r
    cases e
    split at p
    · rename_i kps ed
      obtain ⟨n, a, kvs, rfl, _, rfl, ha, q, z, rk⟩ := asD_rep ed r1 g
      split at p
      · rename_i w ew
        obtain ⟨kk, ek, eg⟩ := Option.bind_eq_some_iff.mp ew
        obtain ⟨v', hv, rv⟩ := (RepK.get rk).1 w eg
        exact ix_dic value slice pins s σ H _ _ v u Q I rx ry ⟨a, kvs, kk, v', rfl, .inl q, keyP_rep ek r2, hv, p.here rv g⟩ hs
      · exact (show False from p).elim
    · exact opIx_ok hK value slice pins s σ H _ _ v u Q I rx ry ⟨μ, _, G, r, g, p⟩ hs
  · exact (show False from p).elim
/-- k in x: of a dict too -/
def opInA (neg : Bool) (ps : List PV) (G : GH) : Res PV := match ps with
  | [k, x] => match asD G x with
    | some kps => match keyP k with
      | some kk => .ok (.bl (neg != (getP kps kk).isSome)) G
      | none => .bad
    | none => opInN neg [k, x] G
  | _ => .bad
theorem opInA_ok (hK : F.K = X.K) (hu : X.A.units + 1 < cLine) : OpR X (compareOp .In) (OpV F Ex (opInA false)) := by
  intro pins s σ H x y v u Q I rx ry ⟨μ, ps, G, r, g, p⟩
  unfold opInA at p
  split at p
  · obtain ⟨vk, vx, e, r2, r1⟩ := Reps.two_inv r
    cases e
    split at p
    · rename_i kps ed
      obtain ⟨n, a, kvs, rfl, _, rfl, ha, q, z, rk⟩ := asD_rep ed r1 g
      split at p
      · rename_i kk ek
        obtain rfl : u = .ref a := ry
        refine d_in (o := valV kvs kk) hu I (.inl ⟨kvs, kk, .inl q, keyP_rep ek r2, rfl⟩) rx fun s' I' => ⟨.bl _, H, I', rfl, ?_⟩
        have e1 : (getP kps kk).isSome = (valV kvs kk).isSome := by
          cases eg : getP kps kk with
          | none => rw [(RepK.get rk).2 eg]; rfl
          | some w => obtain ⟨v', hv, _⟩ := (RepK.get rk).1 w eg; rw [hv]; rfl
        rw [← e1]
        have : (false != (getP kps kk).isSome) = (getP kps kk).isSome := by cases (getP kps kk).isSome <;> rfl
        rw [this] at p
        exact p.here RV.bl g
      · exact (show False from p).elim
    · exact opIn_ok hK pins s σ H _ _ v u Q I rx ry ⟨μ, _, G, r, g, p⟩
  · exact (show False from p).elim
theorem opNotInA_ok (hK : F.K = X.K) (hu : X.A.units + 1 < cLine) : OpR X (compareOp .NotIn) (OpV F Ex (opInA true)) := by
  intro pins s σ H x y v u Q I rx ry ⟨μ, ps, G, r, g, p⟩
  unfold opInA at p
  split at p
  · obtain ⟨vk, vx, e, r2, r1⟩ := Reps.two_inv r
    cases e
    split at p
    · rename_i kps ed
      obtain ⟨n, a, kvs, rfl, _, rfl, ha, q, z, rk⟩ := asD_rep ed r1 g
      split at p
      · rename_i kk ek
        obtain rfl : u = .ref a := ry
        refine d_notIn (o := valV kvs kk) hu I (.inl ⟨kvs, kk, .inl q, keyP_rep ek r2, rfl⟩) rx fun s' I' => ⟨.bl _, H, I', rfl, ?_⟩
        have e1 : (getP kps kk).isSome = (valV kvs kk).isSome := by
          cases eg : getP kps kk with
          | none => rw [(RepK.get rk).2 eg]; rfl
          | some w => obtain ⟨v', hv, _⟩ := (RepK.get rk).1 w eg; rw [hv]; rfl
        rw [← e1]
        have : (true != (getP kps kk).isSome) = !(getP kps kk).isSome := by cases (getP kps kk).isSome <;> rfl
        rw [this] at p
        exact p.here RV.bl g
      · exact (show False from p).elim
    · exact opNotIn_ok hK pins s σ H _ _ v u Q I rx ry ⟨μ, _, G, r, g, p⟩
  · exact (show False from p).elim
/-- o[i] = e: of a dict too -/
def fSetA (ps : List PV) (G : GH) : Res Unit := match ps with
  | [.obj n, k, v] => match G[n]? with
    | some (.dic kps) => match keyP k with
      | some kk => if kps.length < sizeLine then .ok () (G.set n (.dic (putD kps kk v))) else .bad
      | none => .bad
    | _ => fSetL ps G
  | _ => .bad
theorem fSetA_ok (hu : X.A.units + 1 < cLine) : PSet X (RdSet F Ex fSetA) := by
  intro pins s σ H o i v ov iv u Q I ro ri rv ⟨μ, ps, G, r, g, p⟩
  unfold fSetA at p
  split at p
  · rename_i n k w
    split at p
    · rename_i kps eo
      obtain ⟨x1, t1, e1, r1, rr⟩ := r.cons_inv
      obtain ⟨x2, t2, e2, r2, rr⟩ := rr.cons_inv
      obtain ⟨x3, e3, r3⟩ := rr.one_inv
      subst e3
      subst e2
      cases e1
      obtain ⟨a, rfl, ha⟩ := rep_obj r1
      split at p
      · rename_i kk ek
        split at p
        · rename_i hz
          obtain ⟨kvs, q, z, rk⟩ := g.obj _ a _ ha eo
          obtain rfl : ov = .ref a := ro
          have m := List.mem_of_getElem? ha
          have l := RepK.length rk
          refine d_setItem hu I (DPut.k (k := kk) (v := v) q (by omega)) (by rw [← keyP_rep ek r2]; exact ri) rv fun s' I' => ⟨_, I', ?_⟩
          have ex : Ext μ μ H (upd H a (.dK (putK kvs kk v))) := Ext.write m
          refine p.ok (b := ()) ex trivial (g.write ha ⟨_, upd_same, ?_, (RepK.put rk r3).mono ex⟩)
          have := length_putK kvs kk v
          omega
        · exact (show False from p).elim
      · exact (show False from p).elim
    · exact fSetL_ok pins s σ H o i v ov iv u Q I ro ri rv ⟨μ, _, G, r, g, p⟩
  · exact (show False from p).elim
end
end EV
end
section
set_option Elab.async false
set_option linter.all false
set_option maxRecDepth 100000
/-! Ev21: comprehensions of two clauses. -/
namespace EV
open PySem PySem.Spec PyProof.Rows L2
def loopI (f : PV → GH → Res (Option PV)) (gd : GH → Bool) : Nat → List PV → GH → Res (List PV)
  | _, [], G => if gd G = true then .ok [] G else .bad
  | k, x :: xs, G => if gd G = true then (f x G).bind fun o G1 => match o with
    | none => loopI f gd k xs G1
    | some y => if k < sizeLine then (loopI f gd (k + 1) xs G1).bind fun r G2 => .ok (y :: r) G2 else .bad
    else .bad
def loopO (h : Nat → PV → GH → Res (List PV)) (gd : GH → Bool) : Nat → List PV → GH → Res (List PV)
  | _, [], G => if gd G = true then .ok [] G else .bad
  | k, x :: xs, G => if gd G = true then (h k x G).bind fun ys G1 => (loopO h gd (k + ys.length) xs G1).bind fun r G2 => .ok (ys ++ r) G2 else .bad
def comp2F (tg : PV → Env → GH → Res Env) (tt : Env → GH → Res Bool) (ms1 : Env → GH → Res Src) (tg1 : PV → Env → GH → Res Env) (tt1 : Env → GH → Res Bool) (el : Env → GH → Res PV) (own vs1 : List Nat) (ρ : Env) : Nat → PV → GH → Res (List PV) := fun k x G =>
  (noX (tg x (wipeE ρ own) G)).bind fun ρ1 G2 => (noX (tt ρ1 G2)).bind fun b G3 => if b = true then (noX (ms1 ρ1 G3)).bind fun S1 G4 => loopI (compF tg1 tt1 el vs1 ρ1) S1.gd k S1.its G4 else .ok [] G3
def mComp2 (ob : Bool) (ms : Env → GH → Res Src) (tg : PV → Env → GH → Res Env) (tt : Env → GH → Res Bool) (ms1 : Env → GH → Res Src) (tg1 : PV → Env → GH → Res Env) (tt1 : Env → GH → Res Bool) (el : Env → GH → Res PV) (own vs1 : List Nat) : Env → GH → Res PV := fun ρ G =>
  (ms ρ G).bind fun S G1 => (loopO (comp2F tg tt ms1 tg1 tt1 el own vs1 ρ) S.gd 0 S.its G1).bind fun ys G5 => if ob = true then .ok (.obj G5.length) (G5 ++ [.lst ys]) else .ok (.lst ys) G5
section
variable {X : Cx} {F : Fx} {Ex : XK}
/-- the list D is being made: what it holds so far -/
structure Mk2 (F : Fx) (μ1 : Mu) (H1 : Hp) (D : Addr) (l : List Addr) (H2 : Hp) (G2 : GH) (accP : List PV) (acc : List V) : Prop where
  e : Ext μ1 ⟨l, μ1.rs⟩ H1 H2
  g : HRep F ((⟨l, μ1.rs⟩ : Mu).mk1 D) H2 G2
  c : Chg F μ1 ((⟨l, μ1.rs⟩ : Mu).mk1 D) H1 H2
  at_ : H2 D = some (.lst acc)
  r : Reps F ((⟨l, μ1.rs⟩ : Mu).mk1 D) H2 accP acc
  z : acc.length ≤ sizeLine
theorem Mk2.step {μ1 : Mu} {H1 H2 H3 : Hp} {D : Addr} {l : List Addr} {G2 G3 : GH} {accP : List PV} {acc : List V} {μ3 : Mu} (hD : H1 D = none) (m : Mk2 F μ1 H1 D l H2 G2 accP acc) (e : Ext ((⟨l, μ1.rs⟩ : Mu).mk1 D) μ3 H2 H3) (g : HRep F μ3 H3 G3) : ∃ l3, μ3 = (⟨l3, μ1.rs⟩ : Mu).mk1 D ∧ Mk2 F μ1 H1 D l3 H3 G3 accP acc := by
  obtain ⟨l3, rfl⟩ := Ext.drop1 (μ := ⟨l, μ1.rs⟩) e
  have hDl : D ∉ l := (m.g.res D List.mem_cons_self).1
  have h3 : H3 D = some (.lst acc) := e.keep D _ m.at_ (fun _ z => by cases z) hDl
  have u : upd H3 D (.lst acc) = H3 := by
    funext b; unfold upd; split
    · rename_i z; rw [z, h3]
    · rfl
  have st := Ext.step1 (o := .lst acc) hD m.e e
  rw [u] at st
  exact ⟨l3, rfl, st, g, m.c.trans e.chg, h3, m.r.mono e, m.z⟩
theorem Mk2.add {μ1 : Mu} {H1 H2 H3 : Hp} {D : Addr} {l l3 : List Addr} {G2 G3 : GH} {accP : List PV} {acc : List V} {yp : PV} {y : V} (hD : H1 D = none) (m : Mk2 F μ1 H1 D l H2 G2 accP acc) (e : Ext ((⟨l, μ1.rs⟩ : Mu).mk1 D) ((⟨l3, μ1.rs⟩ : Mu).mk1 D) H2 H3) (g : HRep F ((⟨l3, μ1.rs⟩ : Mu).mk1 D) H3 G3)
    (r : Rep F ((⟨l3, μ1.rs⟩ : Mu).mk1 D) H3 yp y) (hz : acc.length < sizeLine) : Mk2 F μ1 H1 D l3 (upd H3 D (.lst (acc ++ [y]))) G3 (accP ++ [yp]) (acc ++ [y]) := by
  have c : Chg F ((⟨l, μ1.rs⟩ : Mu).mk1 D) ((⟨l3, μ1.rs⟩ : Mu).mk1 D) H2 (upd H3 D (.lst (acc ++ [y]))) := e.chg.trans Chg.other
  exact ⟨Ext.step1 hD m.e e, g.other, m.c.trans c, upd_same, (m.r.chg c).append (.one (Rep.chg Chg.other r)), by simp; omega⟩
theorem comp2_read {ob : Bool} {ms ms1 : Env → GH → Res Src} {tg tg1 : PV → Env → GH → Res Env} {tt tt1 : Env → GH → Res Bool} {el : Env → GH → Res PV} {own vs1 sl sl1 : List Nat} (hsl : ∀ i ∈ sl, i ∈ own) (hsl1 : ∀ i ∈ sl1, i ∈ vs1) {σ : L2.St} {H : Hp} {Q : VK}
    (h : TEv F Ex (mComp2 ob ms tg tt ms1 tg1 tt1 el own vs1) σ H Q) : tLc2 (TIv F Ex ms) (TGv F E0 sl tg) (TTv F E0 tt) (TIv F E0 ms1) (TGv F E0 sl1 tg1) (TTv F E0 tt1) (TEv F E0 el) own vs1 σ H Q := by
  obtain ⟨μ, ρ, G, s, g, p⟩ := h
  refine ⟨μ, ρ, G, s, g, (Post.bind (R := RI F) p).mono fun J H1 ⟨μ1, S, G1, _, e1, ⟨hsz, jok⟩, g1, p1⟩ D hD => ?_⟩
  have s1 : SRel F μ1 H1 ρ σ := s.mono e1
  let hh := comp2F tg tt ms1 tg1 tt1 el own vs1 ρ
  let fin : List PV → GH → Res PV := fun ys G5 => if ob = true then .ok (.obj G5.length) (G5 ++ [.lst ys]) else .ok (.lst ys) G5
  -- what is left to do behind the i-th turn
  let rest : Nat → List PV → GH → Res PV := fun i accP G => (loopO hh S.gd accP.length (S.its.drop i) G).bind fun ys G5 => fin (accP ++ ys) G5
  refine ⟨fun i m H2 => m = S.its.length - i ∧ i ≤ S.its.length ∧ ∃ l G2 accP acc, Mk2 F μ1 H1 D l H2 G2 accP acc ∧ Post F (RV F) Ex μ1 H1 (rest i accP G2) Q, ?_, ?_⟩
  · exact ⟨S.its.length, by simp, Nat.zero_le _, μ1.ob, G1, [], [], ⟨Ext.upd_new g1 hD, g1.start hD, Chg.start hD, upd_same, .nil, Nat.zero_le _⟩, p1⟩
  · rintro i m H2 ⟨rfl, hi, l, G2, accP, acc, mk, p2⟩
    have jk := jok _ H2 G2 mk.c mk.g
    by_cases hlt : i < S.its.length
    · have hdr : S.its.drop i = S.its[i] :: S.its.drop (i + 1) := List.drop_eq_getElem_cons hlt
      have p2 : Post F (RV F) Ex μ1 H1 ((loopO hh S.gd accP.length (S.its.drop i) G2).bind fun ys G5 => fin (accP ++ ys) G5) Q := p2
      rw [hdr] at p2
      unfold loopO at p2
      by_cases hgd : S.gd G2 = true
      · simp only [hgd, if_true] at p2
        obtain ⟨jgo, jy⟩ := (jk hgd).1 i S.its[i] (List.getElem?_eq_getElem hlt)
        refine .inr ⟨jgo, fun H' => i + 1 ≤ S.its.length ∧ ∃ l G2 accP acc, Mk2 F μ1 H1 D l H' G2 accP acc ∧ Post F (RV F) Ex μ1 H1 (rest (i + 1) accP G2) Q, fun H' q => ⟨S.its.length - (i + 1), by omega, rfl, q.1, q.2⟩, fun x H3 hy => ?_⟩
        obtain ⟨same, rx⟩ := jy x H3 hy
        obtain ⟨_, e0, mk3⟩ := mk.step hD (Ext.same same) (mk.g.same same)
        cases e0
        rw [Res.bind_assoc] at p2
        have p3 : Post F (RV F) Ex μ1 H1 ((noX (tg S.its[i] (wipeE ρ own) G2)).bind fun ρ1 Ga => ((noX (tt ρ1 Ga)).bind fun b Gb => if b = true then (noX (ms1 ρ1 Gb)).bind fun S1 Gc => loopI (compF tg1 tt1 el vs1 ρ1) S1.gd accP.length S1.its Gc else .ok [] Gb).bind fun ys Gd =>
            ((loopO hh S.gd (accP.length + ys.length) (S.its.drop (i + 1)) Gd).bind fun r Ge => .ok (ys ++ r) Ge).bind fun ys G5 => fin (accP ++ ys) G5) Q := by
          rw [← Res.bind_assoc]; exact p2
        refine ⟨_, S.its[i], wipeE ρ own, G2, rx, (s1.chg mk3.c).wipe own, mk3.g, (Post.bindX (R := RS F sl (wipe σ own)) p3).mono fun σ4 H4 ⟨μ4, ρ4, G4, _, e4, ⟨s4, l4, o4⟩, g4, p4⟩ => ⟨?_, ?_⟩⟩
        · have q : wipe σ4 own = wipe (wipe σ own) own := wipe_same l4 hsl o4
          rw [q, wipe_wipe]
        · obtain ⟨ob4, rfl, mk4⟩ := mk3.step hD e4 g4
          rw [Res.bind_assoc] at p4
          refine ⟨_, ρ4, G4, s4, g4, (Post.bindX (R := RB) p4).mono fun b H5 ⟨μ5, b', G5, _, e5, rb, g5, p5⟩ => ?_⟩
          cases (show b' = b from rb)
          obtain ⟨ob5, rfl, mk5⟩ := mk4.step hD e5 g5
          cases b with
          | false =>
            rw [if_neg Bool.false_ne_true]
            simp only [Bool.false_eq_true, if_false, Res.bind_ok, List.length_nil, Nat.add_zero, List.nil_append] at p5
            rw [Res.bind_assoc] at p5
            exact ⟨hlt, ob5, G5, accP, acc, mk5, p5⟩
          | true =>
            rw [if_pos rfl]
            simp only [if_true] at p5
            rw [Res.bind_assoc] at p5
            have s5 := s4.mono e5
            refine ⟨_, ρ4, G5, s5, g5, (Post.bindX (R := RI F) p5).mono fun J1 H6 ⟨μ6, S1, G6, _, e6, ⟨hsz1, jok1⟩, g6, p6⟩ => ?_⟩
            obtain ⟨ob6, rfl, mk6⟩ := mk5.step hD e6 g6
            have s6 := s5.mono e6
            -- what is left behind the j-th inner turn
            let rest1 : Nat → List PV → GH → Res PV := fun j accP G => (loopI (compF tg1 tt1 el vs1 ρ4) S1.gd accP.length (S1.its.drop j) G).bind fun ys Gd => (loopO hh S.gd (accP.length + ys.length) (S.its.drop (i + 1)) Gd).bind fun r Ge => fin (accP ++ (ys ++ r)) Ge
            refine ⟨fun j k H7 => k = S1.its.length - j ∧ j ≤ S1.its.length ∧ ∃ l7 G7 accP7 acc7, Mk2 F μ1 H1 D l7 H7 G7 accP7 acc7 ∧ Chg F ((⟨ob6, μ1.rs⟩ : Mu).mk1 D) ((⟨l7, μ1.rs⟩ : Mu).mk1 D) H6 H7 ∧ Post F (RV F) Ex μ1 H1 (rest1 j accP7 G7) Q, ?_, ?_⟩
            · refine ⟨S1.its.length, by simp, Nat.zero_le _, ob6, G6, accP, acc, mk6, Chg.refl, ?_⟩
              have : rest1 0 accP G6 = (loopI (compF tg1 tt1 el vs1 ρ4) S1.gd accP.length S1.its G6).bind fun ys Gd => ((loopO hh S.gd (accP.length + ys.length) (S.its.drop (i + 1)) Gd).bind fun r Ge => .ok (ys ++ r) Ge).bind fun ys G5 => fin (accP ++ ys) G5 := by
                show (loopI _ _ _ (S1.its.drop 0) G6).bind _ = _
                congr 1
                funext ys Gd
                rw [Res.bind_assoc]
                rfl
              rw [this]
              exact p6
            · rintro j k H7 ⟨rfl, hj, l7, G7, accP7, acc7, mk7, c7, p7⟩
              have jk1 := jok1 _ H7 G7 c7 mk7.g
              have p7 : Post F (RV F) Ex μ1 H1 ((loopI (compF tg1 tt1 el vs1 ρ4) S1.gd accP7.length (S1.its.drop j) G7).bind fun ys Gd => (loopO hh S.gd (accP7.length + ys.length) (S.its.drop (i + 1)) Gd).bind fun r Ge => fin (accP7 ++ (ys ++ r)) Ge) Q := p7
              by_cases hlt1 : j < S1.its.length
              · have hdr1 : S1.its.drop j = S1.its[j] :: S1.its.drop (j + 1) := List.drop_eq_getElem_cons hlt1
                rw [hdr1] at p7
                unfold loopI at p7
                by_cases hgd1 : S1.gd G7 = true
                · simp only [hgd1, if_true] at p7
                  obtain ⟨jgo1, jy1⟩ := (jk1 hgd1).1 j S1.its[j] (List.getElem?_eq_getElem hlt1)
                  refine .inr ⟨jgo1, fun H' => j + 1 ≤ S1.its.length ∧ ∃ l7 G7 accP7 acc7, Mk2 F μ1 H1 D l7 H' G7 accP7 acc7 ∧ Chg F ((⟨ob6, μ1.rs⟩ : Mu).mk1 D) ((⟨l7, μ1.rs⟩ : Mu).mk1 D) H6 H' ∧ Post F (RV F) Ex μ1 H1 (rest1 (j + 1) accP7 G7) Q, fun H' q => ⟨S1.its.length - (j + 1), by omega, rfl, q.1, q.2⟩, fun x1 H8 hy1 => ?_⟩
                  obtain ⟨same1, rx1⟩ := jy1 x1 H8 hy1
                  have e78 : Ext ((⟨l7, μ1.rs⟩ : Mu).mk1 D) ((⟨l7, μ1.rs⟩ : Mu).mk1 D) H7 H8 := Ext.same same1
                  obtain ⟨_, e0, mk8⟩ := mk7.step hD e78 (mk7.g.same same1)
                  cases e0
                  rw [Res.bind_assoc] at p7
                  have p8 : Post F (RV F) Ex μ1 H1 ((noX (tg1 S1.its[j] (wipeE ρ4 vs1) G7)).bind fun ρa Ga => ((noX (tt1 ρa Ga)).bind fun b Gb => if b = true then (noX (el ρa Gb)).bind fun y Gc => .ok (some y) Gc else .ok none Gb).bind fun o Gd => (match o with
                        | none => loopI (compF tg1 tt1 el vs1 ρ4) S1.gd accP7.length (S1.its.drop (j + 1)) Gd
                        | some y => if accP7.length < sizeLine then (loopI (compF tg1 tt1 el vs1 ρ4) S1.gd (accP7.length + 1) (S1.its.drop (j + 1)) Gd).bind fun r G2 => .ok (y :: r) G2 else .bad).bind fun ys Gd => (loopO hh S.gd (accP7.length + ys.length) (S.its.drop (i + 1)) Gd).bind fun r Ge => fin (accP7 ++ (ys ++ r)) Ge) Q := by
                    rw [← Res.bind_assoc]; exact p7
                  refine ⟨_, S1.its[j], wipeE ρ4 vs1, G7, rx1, ((s6.chg c7).mono e78).wipe vs1, mk8.g, (Post.bindX (R := RS F sl1 (wipe σ4 vs1)) p8).mono fun σ9 H9 ⟨μ9, ρ9, G9, _, e9, ⟨s9, l9, o9⟩, g9, p9⟩ => ⟨?_, ?_⟩⟩
                  · have q : wipe σ9 vs1 = wipe (wipe σ4 vs1) vs1 := wipe_same l9 hsl1 o9
                    rw [q, wipe_wipe]
                  · obtain ⟨ob9, rfl, mk9⟩ := mk8.step hD e9 g9
                    rw [Res.bind_assoc] at p9
                    refine ⟨_, ρ9, G9, s9, g9, (Post.bindX (R := RB) p9).mono fun b H10 ⟨μ10, b', G10, _, e10, rb, g10, p10⟩ => ?_⟩
                    cases (show b' = b from rb)
                    obtain ⟨ob10, rfl, mk10⟩ := mk9.step hD e10 g10
                    have c10 := c7.trans ((e78.trans e9).trans e10).chg
                    cases b with
                    | false =>
                      rw [if_neg Bool.false_ne_true]
                      simp only [Bool.false_eq_true, if_false, Res.bind_ok] at p10
                      exact ⟨hlt1, ob10, G10, accP7, acc7, mk10, c10, p10⟩
                    | true =>
                      rw [if_pos rfl]
                      simp only [if_true] at p10
                      rw [Res.bind_assoc] at p10
                      refine ⟨_, ρ9, G10, s9.mono e10, g10, (Post.bindX (R := RV F) p10).mono fun y H11 ⟨μ11, yp, G11, _, e11, ry, g11, p11⟩ => ?_⟩
                      have eD := mk10.step hD e11 g11
                      obtain ⟨ob11, rfl, mk11⟩ := eD
                      simp only [Res.bind_ok] at p11
                      split at p11
                      · rename_i hzz
                        have hz : acc7.length < sizeLine := by rw [← mk10.r.length]; exact hzz
                        refine ⟨acc7, mk11.at_, hz, hlt1, ob11, G11, accP7 ++ [yp], acc7 ++ [y], mk10.add hD e11 g11 ry hz, c10.trans (e11.chg.trans Chg.other), ?_⟩
                        rw [Res.bind_assoc] at p11
                        have : rest1 (j + 1) (accP7 ++ [yp]) G11 = (loopI (compF tg1 tt1 el vs1 ρ4) S1.gd (accP7.length + 1) (S1.its.drop (j + 1)) G11).bind fun r Ga => (Res.ok (yp :: r) Ga).bind fun ys Gd => (loopO hh S.gd (accP7.length + ys.length) (S.its.drop (i + 1)) Gd).bind fun r Ge => fin (accP7 ++ (ys ++ r)) Ge := by
                          show (loopI _ _ (accP7 ++ [yp]).length _ G11).bind _ = _
                          rw [List.length_append, List.length_singleton]
                          congr 1
                          funext r Ga
                          simp only [Res.bind_ok, List.length_cons]
                          have a1 : accP7.length + 1 + r.length = accP7.length + (r.length + 1) := by omega
                          rw [a1]
                          congr 1
                          funext r2 Ge
                          simp
                        rw [this]
                        exact p11
                      · exact (show False from p11).elim
                · simp only [hgd1] at p7
                  exact (show False from p7).elim
              · have ej : j = S1.its.length := by omega
                subst ej
                rw [List.drop_length] at p7
                unfold loopI at p7
                by_cases hgd1 : S1.gd G7 = true
                · simp only [hgd1, if_true, Res.bind_ok, List.length_nil, Nat.add_zero, List.nil_append] at p7
                  exact .inl ⟨(jk1 hgd1).2, hlt, l7, G7, accP7, acc7, mk7, p7⟩
                · simp only [hgd1] at p7
                  exact (show False from p7).elim
      · simp only [hgd] at p2
        exact (show False from p2).elim
    · have ei : i = S.its.length := by omega
      subst ei
      have p2 : Post F (RV F) Ex μ1 H1 ((loopO hh S.gd accP.length (S.its.drop S.its.length) G2).bind fun ys G5 => fin (accP ++ ys) G5) Q := p2
      rw [List.drop_length] at p2
      unfold loopO at p2
      have hDl : D ∉ l := (mk.g.res D List.mem_cons_self).1
      have hDr : D ∉ μ1.rs := (g1.fresh hD).2
      by_cases hgd : S.gd G2 = true
      · simp only [hgd, if_true, Res.bind_ok, List.append_nil] at p2
        refine .inl ⟨(jk hgd).2, ?_⟩
        cases ob with
        | false =>
          refine (show Post F (RV F) Ex μ1 H1 (.ok (.lst accP) G2) Q from p2).ok mk.e ?_ mk.g.stop
          show Rep F _ _ _ _
          simp only [Rep]
          exact ⟨D, acc, rfl, mk.z, ⟨⟨hDl, hDr⟩, mk.at_⟩, mk.r.chg Chg.stop⟩
        | true =>
          refine (show Post F (RV F) Ex μ1 H1 (.ok (.obj G2.length) (G2 ++ [.lst accP])) Q from p2).ok (μ' := (⟨l, μ1.rs⟩ : Mu).push D) ?_ ?_ (mk.g.stopO hDr ⟨acc, mk.at_, mk.z, mk.r.chg Chg.stopO⟩)
          · obtain ⟨⟨r, hr⟩, h2, h3, h4⟩ := mk.e
            have hr : l = μ1.ob ++ r := hr
            refine ⟨⟨r ++ [D], by show l ++ [D] = _; rw [hr]; simp⟩, h2, fun a m n => ?_, h4⟩
            rcases List.mem_append.mp m with q | q
            · exact h3 a q n
            · intro o z _; rw [List.mem_singleton.mp q, hD] at z; cases z
          · show Rep F _ _ _ _
            simp only [Rep]
            refine ⟨D, rfl, ?_⟩
            have : l.length = G2.length := mk.g.len
            show (l ++ [D])[G2.length]? = some D
            rw [← this]; simp
      · simp only [hgd] at p2
        exact (show False from p2).elim
theorem gcomp2 {n : Nat} (g : GX X F Ex n) (ob : Bool) (own : List (Str × Nat)) (vs1 : List Nat) {pos : Pos} {elt tg iter tg1 iter1 : Expr} {ifs ifs1 : List Expr} {scope : Scope} {sl sl1 : List Nat} {ms ms1 : Env → GH → Res Src} {t t1 : PV → Env → GH → Res Env} {tt tt1 : Env → GH → Res Bool} {el : Env → GH → Res PV}
    (hi : PI X tg iter (TIv F Ex ms)) (hg : ∀ (s : Shared) (H : Hp) (C : Addr) (cl : List (Str × Addr)) (fp : List Addr), GX (X.blk s H scope (compEnvC scope cl C X.env) fp) F E0 n → PG (X.blk s H scope (compEnvC scope cl C X.env) fp) tg (TGv F E0 sl t)) (ht : ∀ (s : Shared) (H : Hp) (C : Addr) (cl : List (Str × Addr)) (fp : List Addr), GX (X.blk s H scope (compEnvC scope cl C X.env) fp) F E0 n → PTs (X.blk s H scope (compEnvC scope cl C X.env) fp) ifs (TTv F E0 tt))
    (hi1 : ∀ (s : Shared) (H : Hp) (C : Addr) (cl : List (Str × Addr)) (fp : List Addr), GX (X.blk s H scope (compEnvC scope cl C X.env) fp) F E0 n → PI (X.blk s H scope (compEnvC scope cl C X.env) fp) tg1 iter1 (TIv F E0 ms1)) (hg1 : ∀ (s : Shared) (H : Hp) (C : Addr) (cl : List (Str × Addr)) (fp : List Addr), GX (X.blk s H scope (compEnvC scope cl C X.env) fp) F E0 n → PG (X.blk s H scope (compEnvC scope cl C X.env) fp) tg1 (TGv F E0 sl1 t1)) (ht1 : ∀ (s : Shared) (H : Hp) (C : Addr) (cl : List (Str × Addr)) (fp : List Addr), GX (X.blk s H scope (compEnvC scope cl C X.env) fp) F E0 n → PTs (X.blk s H scope (compEnvC scope cl C X.env) fp) ifs1 (TTv F E0 tt1)) (he : ∀ (s : Shared) (H : Hp) (C : Addr) (cl : List (Str × Addr)) (fp : List Addr), GX (X.blk s H scope (compEnvC scope cl C X.env) fp) F E0 n → PE (X.blk s H scope (compEnvC scope cl C X.env) fp) elt (TEv F E0 el))
    (hsl : sl.all (fun i => (own.map (·.2)).contains i) = true := by kernel_rfl) (hsl1 : sl1.all (fun i => vs1.contains i) = true := by kernel_rfl) (hv : vs1.all (fun i => (own.map (·.2)).contains i) = true := by kernel_rfl) (ok : blkB X.N X.env.scope scope own = true := by kernel_rfl) (hs : ∀ x, foldedSetIterable iter X.env x = pure x := by intro _; rfl) (hs1 : ∀ env x, foldedSetIterable iter1 env x = pure x := by intro _ _; rfl) :
    PE X (.ListComp elt [⟨tg, iter, ifs, 0⟩, ⟨tg1, iter1, ifs1, 0⟩] scope pos) (TEv F Ex (mComp2 ob ms t tt ms1 t1 tt1 el (own.map (·.2)) vs1)) :=
  (pe_lc2 g.calm g.nd hi (blk_of ok) (fun i h => by simpa using List.all_eq_true.mp hv i h) (fun s H C cl fp => hg s H C cl fp (g.blk ..)) (fun s H C cl fp => ht s H C cl fp (g.blk ..)) (fun s H C cl fp => hi1 s H C cl fp (g.blk ..)) (fun s H C cl fp => hg1 s H C cl fp (g.blk ..)) (fun s H C cl fp => ht1 s H C cl fp (g.blk ..)) (fun s H C cl fp => he s H C cl fp (g.blk ..)) hs hs1).weak fun σ H Q h => comp2_read (fun i h => by simpa using List.all_eq_true.mp hsl i h) (fun i h => by simpa using List.all_eq_true.mp hsl1 i h) h
theorem gasgC2 {n : Nat} (g : GX X F Ex n) (ob : Bool) (k : Nat) (own : List (Str × Nat)) (vs1 : List Nat) {y : Str} {pos spos py : Pos} {elt tg iter tg1 iter1 : Expr} {ifs ifs1 : List Expr} {scope : Scope} {sl sl1 : List Nat} {ms ms1 : Env → GH → Res Src} {t t1 : PV → Env → GH → Res Env} {tt tt1 : Env → GH → Res Bool} {el : Env → GH → Res PV}
    (hi : PI X tg iter (TIv F Ex ms)) (hg : ∀ (s : Shared) (H : Hp) (C : Addr) (cl : List (Str × Addr)) (fp : List Addr), GX (X.blk s H scope (compEnvC scope cl C X.env) fp) F E0 n → PG (X.blk s H scope (compEnvC scope cl C X.env) fp) tg (TGv F E0 sl t)) (ht : ∀ (s : Shared) (H : Hp) (C : Addr) (cl : List (Str × Addr)) (fp : List Addr), GX (X.blk s H scope (compEnvC scope cl C X.env) fp) F E0 n → PTs (X.blk s H scope (compEnvC scope cl C X.env) fp) ifs (TTv F E0 tt))
    (hi1 : ∀ (s : Shared) (H : Hp) (C : Addr) (cl : List (Str × Addr)) (fp : List Addr), GX (X.blk s H scope (compEnvC scope cl C X.env) fp) F E0 n → PI (X.blk s H scope (compEnvC scope cl C X.env) fp) tg1 iter1 (TIv F E0 ms1)) (hg1 : ∀ (s : Shared) (H : Hp) (C : Addr) (cl : List (Str × Addr)) (fp : List Addr), GX (X.blk s H scope (compEnvC scope cl C X.env) fp) F E0 n → PG (X.blk s H scope (compEnvC scope cl C X.env) fp) tg1 (TGv F E0 sl1 t1)) (ht1 : ∀ (s : Shared) (H : Hp) (C : Addr) (cl : List (Str × Addr)) (fp : List Addr), GX (X.blk s H scope (compEnvC scope cl C X.env) fp) F E0 n → PTs (X.blk s H scope (compEnvC scope cl C X.env) fp) ifs1 (TTv F E0 tt1)) (he : ∀ (s : Shared) (H : Hp) (C : Addr) (cl : List (Str × Addr)) (fp : List Addr), GX (X.blk s H scope (compEnvC scope cl C X.env) fp) F E0 n → PE (X.blk s H scope (compEnvC scope cl C X.env) fp) elt (TEv F E0 el))
    (hy : X.N[k]? = some y := by kernel_rfl) (hyl : X.env.scope.names.lookup y = some .local := by kernel_rfl) (hsw : swapsWith (.ListComp elt [⟨tg, iter, ifs, 0⟩, ⟨tg1, iter1, ifs1, 0⟩] scope pos) (some (.Name y py)) spos.line X.env = pure true := by rfl) (hsl : sl.all (fun i => (own.map (·.2)).contains i) = true := by kernel_rfl) (hsl1 : sl1.all (fun i => vs1.contains i) = true := by kernel_rfl) (hv : vs1.all (fun i => (own.map (·.2)).contains i) = true := by kernel_rfl) (ok : blkB X.N X.env.scope scope own = true := by kernel_rfl) (hs : ∀ x, foldedSetIterable iter X.env x = pure x := by intro _; rfl) (hs1 : ∀ env x, foldedSetIterable iter1 env x = pure x := by intro _ _; rfl) :
    PS X (.Assign [.Name y py] (.ListComp elt [⟨tg, iter, ifs, 0⟩, ⟨tg1, iter1, ifs1, 0⟩] scope pos) spos) (TSv F Ex (sAsg (mComp2 ob ms t tt ms1 t1 tt1 el (own.map (·.2)) vs1) (gN k))) :=
  (ps_setLc2 g.calm g.nd hy hyl hsw hi (blk_of ok) (fun i h => by simpa using List.all_eq_true.mp hv i h) (fun s H C cl fp => hg s H C cl fp (g.blk ..)) (fun s H C cl fp => ht s H C cl fp (g.blk ..)) (fun s H C cl fp => hi1 s H C cl fp (g.blk ..)) (fun s H C cl fp => hg1 s H C cl fp (g.blk ..)) (fun s H C cl fp => ht1 s H C cl fp (g.blk ..)) (fun s H C cl fp => he s H C cl fp (g.blk ..)) hs hs1).weak fun D σ H h => by
    obtain ⟨μ, ρ, G, s, gr, p⟩ := h
    refine comp2_read (ob := ob) (fun i h => by simpa using List.all_eq_true.mp hsl i h) (fun i h => by simpa using List.all_eq_true.mp hsl1 i h) (Q := fun x H1 => gName k x σ H1 D.nx) ?_
    exact TEv.run s gr p fun μ1 a G1 v H1 e1 r1 g1 s1 p1 => p1.here (b := FlV.next _) (s1.set r1 k) g1
end
end EV
end
section
set_option Elab.async false
set_option linter.all false
set_option maxRecDepth 100000
set_option maxHeartbeats 1000000
/-! Ev22: a, *b = t, of a tuple; the rest is a new list. -/
namespace EV
open PySem PySem.Spec PyProof.Rows L2
section
variable {prog : Program} {w : World} {A : Around} {E : Value → Shared → Prop} {s : Shared}
theorem walks_from (hh : A.handled = none) (it t : Addr) (k : Nat) (items : Array Value) (hne : t ≠ it) : Walks prog w A it [it, t] [it] (items.size - k) (fun i v => items[k + i]? = some v) (fun i h => h.IsTupleIter it t (k + i) ∧ h.IsTuple t items) where
  sub := fun b hb => by simp at hb; simp [hb]
  frame := fun i h h' st hk => ⟨st.1.at fun o e => hk it (by simp) o e, tup_keep st.2 fun o e => hk t (by simp) o e⟩
  item := fun i s Q E hi st hQ => by
    have hx : items[k + i]? = some (items[k + i]'(by omega)) := Array.getElem?_eq_getElem (by omega)
    refine next_tuple_item (show IsTupIter s.heap it t (k + i) from st.1) st.2 hx fun h' hit' sb => ?_
    exact hQ _ h' s.toks hx ⟨hit', tup_keep st.2 fun o e => sb.extBut t o hne e⟩ fun b o hb e => sb.extBut b o (fun z => hb (by simp [z])) e
  done := fun s Q E st hQ => by
    have hx : items[k + (items.size - k)]? = none := Array.getElem?_eq_none (by omega)
    refine next_tuple_end hh (show IsTupIter s.heap it t _ from st.1) st.2 hx fun h' he => ?_
    exact hQ h' s.toks fun b o hb e => he b o (fun z => hb (by simp [z])) e
  self := fun i s Q E st hQ => by
    refine wpAny_pyIter_slot st.1.typeIs F.slot_tuple_iterator_iter (wpAny_call_entry F.slot_tuple_iterator_iter st.1.typeIs F.entry_tuple_iterator_iter ?_ (F.args_tuple_iterator_iter_1 _))
    show wpAny _ _ (ret (.ref it)) _ _ s
    exact wpAny_pure ⟨_, rfl, "tuple_iterator", _, st.1.typeIs, F.slot_tuple_iterator_next.lookup, hQ⟩
theorem unpack_star {t : Addr} {items : Array Value} {k : Nat} {Q : List Value → Shared → Prop} (hh : A.handled = none) (ht : IsTup s.heap t items) (hk : k ≤ items.size) (hz : items.size ≤ sizeLine)
    (hQ : ∀ (L : Addr) h' tk, (∀ b o, s.heap.get? b = some o → h'.get? b = some o) → s.heap.get? L = none → h'.get? L = some { cls := .type "list", data := .seq (items.toList.drop k).toArray } → Q (items.toList.take k ++ [.ref L]) { s with heap := h', toks := tk }) :
    wpAny (model prog w) A (unpackItems (.ref t) (k + 1) (some k)) Q E s := by
  have hlt : t ≠ s.heap.objs.size := by obtain ⟨o, ho, _⟩ := ht; exact Nat.ne_of_lt (Heap.lt_size ho)
  unfold unpackItems
  refine wpAny_bind ?_
  unfold notIterableAtAll
  refine wpAny_bind (wpAny_specialOf ht.typeIs slot_tuple_iter.lookup ?_)
  refine wpAny_pure ?_
  simp only [Bool.false_eq_true, if_false]
  refine wpAny_bind (wpAny_holding (iter_tuple ht ?_))
  refine wpAny_bind (wpAny_holding (draw_tuple hlt k 0 _ _ ⟨_, Heap.get?_push_size _ rfl, rfl, rfl⟩ (ht.push _) (by omega) fun h₁ hit₁ hs₁ => ?_))
  rw [List.drop_zero]
  have hlen : (items.toList.take k).length = k := by simp; omega
  rw [if_neg (by rw [hlen]; omega)]
  have ht₁ : IsTup h₁ t items := (ht.push _).extBut hs₁.extBut hlt
  have hI : s.heap.objs.size < h₁.objs.size := by obtain ⟨o, e, _⟩ := hit₁; exact Heap.lt_size e
  have htl : t < h₁.objs.size := by obtain ⟨o, e, _⟩ := ht₁; exact Heap.lt_size e
  have hit₁' : h₁.IsTupleIter s.heap.objs.size t (k + 0) := by
    have := hit₁
    rw [Nat.zero_add] at this
    exact this
  refine wpAny_bind (wpAny_holding (wpAny_collect_iter (s := { s with heap := h₁ }) (T := "tuple_iterator") (.inr (.inr (.inr rfl))) (walks_from (A := A.in1) hh _ t k items hlt).toS (fun i s' st => st.1.typeIs) ⟨hit₁', ht₁⟩ (fun b hb => ?_) (by simp) (fun s' acc mv it => ?_) (by omega)))
  · have e : b = s.heap.objs.size ∨ b = t := by simpa using hb
    rcases e with e | e <;> (rw [e]; assumption)
  · have ea : acc.toList = items.toList.drop k := by
      apply List.ext_getElem?
      intro j
      rw [List.getElem?_drop]
      by_cases hj : j < acc.size
      · have h1 := it.2 j acc[j] (Array.getElem?_eq_getElem hj)
        rw [Array.getElem?_toList, Array.getElem?_toList, h1, Array.getElem?_eq_getElem hj]
      · have h0 := it.1
        rw [List.getElem?_eq_none (by simp; omega), List.getElem?_eq_none (by simp; omega)]
    rw [ea]
    have e1 : k + 1 - 1 - k = 0 := by omega
    rw [if_neg (by rw [e1]; omega)]
    rw [e1, Nat.sub_zero, List.take_length, List.drop_length]
    have kp : ∀ b o, s.heap.get? b = some o → s'.heap.get? b = some o := fun b o e => by
      have hb : b ≠ s.heap.objs.size := Nat.ne_of_lt (Heap.lt_size e)
      exact mv.heap b o (fun z => hb (by simpa using z)) (hs₁.extBut b o hb (Heap.get?_push_of_some _ e))
    refine wpAny_bind (wpAny_newList ?_ (by simp; omega))
    refine wpAny_pure ?_
    have es := Moved.eq_with mv
    rw [es, List.append_nil]
    refine hQ s'.heap.objs.size _ s'.toks (fun b o e => Heap.get?_push_of_some _ (kp b o e)) ?_ (Heap.get?_push_size _ rfl)
    cases q : s.heap.get? s'.heap.objs.size with
    | none => rfl
    | some o => exact absurd (Heap.lt_size (kp _ o q)) (Nat.lt_irrefl _)
end
section
variable {X : Cx} {F : Fx} {Ex : XK} {n : Nat}
theorem pgs_last {e : Expr} {p : Pos} {t : TGs} (h : PGs X [e] t) (hp : plainE e = true) : PGs X [.Starred e p] t := by
  refine ⟨fun pins s σ H vs us Q I r q => ?_⟩
  have := h.run pins s σ H vs us Q I r q
  rw [plain_target hp] at this
  exact this
/-- a, .., *b = a tuple -/
theorem pg_star {es : List Expr} {k j : Nat} {pos : Pos} {t : TGs} (hc : X.calm = true) (h : PGs X es t) (hn : (assignEach es X.env).length = k + 1) (hst : (assignEach es X.env).findIdx? (·.1) = some k) :
    PG X (.Tuple es j pos) (fun v σ H Q => ∃ a xs, v = .ref a ∧ SqT X.K H a xs ∧ k ≤ xs.length ∧ ∀ L, H L = none → t (xs.take k ++ [.ref L]) σ (upd H L (.lst (xs.drop k))) Q) := by
  refine ⟨fun pins s σ H v u Q I r hw => ?_⟩
  obtain ⟨a, xs, e1, hq, hl, hw⟩ := hw
  subst e1
  cases r
  obtain ⟨its, rv, ht, hz⟩ := I.tuple hq
  have hle := rv.length
  rw [assign_Tuple]
  refine wpAny_bind (wpAny_standAt ?_)
  unfold unpack
  rw [hn, hst]
  refine wpAny_bind (wpAny_holding (unpack_star (I.ok.hd hc) ht (by simp; omega) (by simp; omega) fun L h' tk kp hL hLo => ?_))
  have hn' : H L = none := I.hok.gone hL
  have I1 : Inv X pins σ (upd H L (.lst (xs.drop k))) { s with heap := h', toks := tk } := I.laidN (t' := tk) kp hL hn' ⟨by rw [List.length_drop]; omega, its.drop k, _, rv.drop k, by simpa using hLo⟩
  refine h.run pins _ σ _ (xs.take k ++ [.ref L]) _ Q I1 ?_ (hw L hn')
  have := (rv.take k).append (show Vals [V.ref L] [Value.ref L] from .cons (show RelV (.ref L) (Value.ref L) from rfl) .nil)
  simpa using this
def gStarE (k : Nat) (ms : List PV → Env → GH → Res Env) : PV → Env → GH → Res Env := fun p ρ G => match p with
  | .tup ps => if k ≤ ps.length then ms (ps.take k ++ [.lst (ps.drop k)]) ρ G else .bad
  | _ => .bad
theorem gts (g : GX X F Ex n) {es : List Expr} {j : Nat} {pos : Pos} {sl : List Nat} {ms : List PV → Env → GH → Res Env} (k : Nat) (h : PGs X es (TGvs F Ex sl ms)) (hn : (assignEach es X.env).length = k + 1 := by rfl) (hst : (assignEach es X.env).findIdx? (·.1) = some k := by rfl) :
    PG X (.Tuple es j pos) (TGv F Ex sl (gStarE k ms)) := (pg_star g.calm h hn hst).weak fun v σ H Q ⟨μ, p, ρ, G, r, s, gr, q⟩ => by
  unfold gStarE at q
  split at q
  · rename_i ps
    obtain ⟨a, vs, rfl, z, st, rr⟩ := rep_tup r
    split at q
    · rename_i hk
      have hl := rr.length
      refine ⟨a, vs, rfl, by rw [← g.K]; exact st.sq, by omega, fun L hL => ?_⟩
      have ex := Ext.upd_new gr (o := .lst (vs.drop k)) hL
      refine ⟨μ, _, ρ, G, (rr.mono ex).take k |>.append (.one ?_), s.mono ex, gr.upd_new hL, q.shift ex⟩
      simp only [Rep]
      exact ⟨L, vs.drop k, rfl, by rw [List.length_drop]; omega, ⟨gr.fresh hL, upd_same⟩, (rr.mono ex).drop k⟩
    · exact (show False from q).elim
  · exact (show False from q).elim
theorem gtl {a : Expr} {p : Pos} {sl : List Nat} {m : PV → Env → GH → Res Env} (h1 : PG X a (TGv F Ex sl m)) (hp : plainE a = true := by kernel_rfl) : PGs X [.Starred a p] (TGvs F Ex (sl ++ []) (gConsE m gNilE)) := pgs_last (ev_gcons hp h1 ev_gnil) hp
end
end EV
end
section
set_option Elab.async false
set_option linter.all false
set_option maxRecDepth 100000
set_option maxHeartbeats 2000000
/-! Zs3: enumerate of a tuple, turn by turn. -/
namespace Zs
open PySem
open PySem.Sem (wp)
open RZ
section
variable {prog : Program} {w : World} {A : Around} {E : Value → Shared → Prop} {s : Shared}
theorem enT_item {e it l : Addr} {i : Nat} {items : Array Value} {x old : Value} {Q : Value → Shared → Prop}
    (he : IsEnum s.heap e it i old) (hit : s.heap.IsTupleIter it l i) (hl : s.heap.IsTuple l items) (hx : items[i]? = some x) (hne : e ≠ it)
    (hQ : ∀ h', IsEnumOut h' e it ((i : Int) + 1) x s.heap.objs.size → h'.IsTupleIter it l (i + 1) →
      h'.get? s.heap.objs.size = some { cls := .type "tuple", data := .seq #[.int i s.toks, x] } → h'.objs.size = s.heap.objs.size + 1 →
      (∀ b o, b ≠ e → b ≠ it → s.heap.get? b = some o → h'.get? b = some o) → Q (.ref s.heap.objs.size) { s with heap := h', toks := s.toks + 1 }) :
    wpAny (model prog w) A (Builtin.«enumerate.__next__» ⟨[.ref e], []⟩) (fun fin s' => ∃ v, fin = .done (.ret v) ∧ Q v s') E s := by
  obtain ⟨hp, g, d, tk, os⟩ := s
  show wpAny _ _ (field (.ref e) 2 >>= _) _ _ _
  refine wpAny_bind (wpAny_field he rfl (x := .ref it) rfl ?_)
  refine wpAny_bind (nextOf_tuple_item hit hl hx fun h₁ hit₁ hs₁ => ?_)
  replace hs₁ : Heap.SameBut it hp h₁ := hs₁
  have he₁ : IsEnum h₁ e it i old := (hs₁.2 e hne).trans he
  show wpAny _ _ (field (.ref e) 3 >>= _) _ _ ⟨h₁, g, d, tk, os⟩
  refine wpAny_bind (wpAny_field he₁ rfl (x := rawInt i) rfl ?_)
  show wpAny _ _ (field (.ref e) 4 >>= _) _ _ ⟨h₁, g, d, tk, os⟩
  refine wpAny_bind (wpAny_field he₁ rfl (x := .none) rfl ?_)
  show wpAny _ _ (mkInt i >>= _) _ _ ⟨h₁, g, d, tk, os⟩
  refine wpAny_bind (wpAny_mkInt ?_)
  show wpAny _ _ (setField (.ref e) 3 (rawInt ((i : Int) + 1)) >>= _) _ _ ⟨h₁, g, d, tk + 1, os⟩
  refine wpAny_bind (wpAny_setField_rec he₁ (by simp) fun h₂ he₂ hs₂ => ?_)
  replace hs₂ : Heap.SameBut e h₁ h₂ := hs₂
  replace he₂ : IsEnum h₂ e it ((i : Int) + 1) old := he₂
  show wpAny _ _ (setField (.ref e) 4 .none >>= _) _ _ ⟨h₂, g, d, tk + 1, os⟩
  refine wpAny_bind (wpAny_setField_rec he₂ (by simp) fun h₃ he₃ hs₃ => ?_)
  replace hs₃ : Heap.SameBut e h₂ h₃ := hs₃
  replace he₃ : IsEnum h₃ e it ((i : Int) + 1) old := he₃
  show wpAny _ _ (newTuple [.int i tk, x] >>= _) _ _ ⟨h₃, g, d, tk + 1, os⟩
  refine wpAny_bind (wpAny_newTuple ?_)
  have he₄ : IsEnum (h₃.push { cls := .type "tuple", data := .seq #[.int i tk, x] }) e it ((i : Int) + 1) old := Heap.get?_push_of_some _ he₃
  generalize hh₄ : h₃.push { cls := .type "tuple", data := .seq #[.int i tk, x] } = h₄ at he₄
  have hsz : h₃.objs.size = hp.objs.size := by rw [hs₃.1, hs₂.1, hs₁.1]
  have hel : e < hp.objs.size := Heap.lt_size he
  have ht₄ : h₄.get? hp.objs.size = some { cls := .type "tuple", data := .seq #[.int i tk, x] } := by rw [← hh₄, ← hsz]; exact Heap.get?_push_size _ rfl
  have hz₄ : h₄.objs.size = hp.objs.size + 1 := by rw [← hh₄, Heap.size_push, hsz]
  have hk₄ : ∀ b o, b ≠ e → b ≠ it → hp.get? b = some o → h₄.get? b = some o := fun b o hbe hbi hb => by
    rw [← hh₄]; exact Heap.get?_push_of_some _ (hs₃.extBut b o hbe (hs₂.extBut b o hbe (hs₁.extBut b o hbi hb)))
  have hit₄ : h₄.IsTupleIter it l (i + 1) := by
    rw [← hh₄]; obtain ⟨o, ho, r⟩ := (hit₁.extBut hs₂.extBut (Ne.symm hne)).extBut hs₃.extBut (Ne.symm hne); exact ⟨o, Heap.get?_push_of_some _ ho, r⟩
  show wpAny _ _ (Builtin.SmallTypes.ownedTupleIsFree (.ref e) >>= _) _ _ ⟨h₄, g, d, tk + 1, os⟩
  rw [hsz]
  clear hh₄ he₃ hs₃ he₂ hs₂ he₁ hs₁ hit₁ hsz h₃ h₂ h₁
  refine wpAny_bind ?_
  · unfold Builtin.SmallTypes.ownedTupleIsFree
    refine wpAny_bind (wpAny_field he₄ rfl (x := .none) rfl (wpAny_pure ?_))
    simp only [if_true]
    refine wpAny_bind (wpAny_rule ?_)
    refine wpAny_bind (wpAny_field he₄ rfl (x := old) rfl ?_)
    refine wpAny_bind (wpAny_setField_rec he₄ (by simp) fun h₅ he₅ hs₅ => ?_)
    replace hs₅ : Heap.SameBut e h₄ h₅ := hs₅
    replace he₅ : IsEnum h₅ e it ((i : Int) + 1) x := he₅
    show wpAny _ _ (Builtin.SmallTypes.ownedTupleHandOut (.ref e) (.ref hp.objs.size) >>= _) _ _ ⟨h₅, g, d, tk + 1, os⟩
    refine wpAny_bind ?_
    · unfold Builtin.SmallTypes.ownedTupleHandOut
      refine wpAny_bind (wpAny_setField_rec he₅ (by simp) fun h₆ he₆ hs₆ => ?_)
      replace hs₆ : Heap.SameBut e h₅ h₆ := hs₆
      replace he₆ : IsEnumOut h₆ e it ((i : Int) + 1) x hp.objs.size := he₆
      refine wpAny_setField_rec he₆ (by simp) fun h₇ he₇ hs₇ => ?_
      replace hs₇ : Heap.SameBut e h₆ h₇ := hs₇
      replace he₇ : IsEnumOut h₇ e it ((i : Int) + 1) x hp.objs.size := he₇
      refine wpAny_bind (wpAny_letGo (wpAny_pure ⟨_, rfl, hQ h₇ he₇ ?_ ?_ ?_ ?_⟩))
      · exact ((hit₄.extBut hs₅.extBut (Ne.symm hne)).extBut hs₆.extBut (Ne.symm hne)).extBut hs₇.extBut (Ne.symm hne)
      · exact hs₇.extBut _ _ (Nat.ne_of_gt hel) (hs₆.extBut _ _ (Nat.ne_of_gt hel) (hs₅.extBut _ _ (Nat.ne_of_gt hel) ht₄))
      · rw [hs₇.1, hs₆.1, hs₅.1, hz₄]
      · exact fun b o hbe hbi hb => hs₇.extBut b o hbe (hs₆.extBut b o hbe (hs₅.extBut b o hbe (hk₄ b o hbe hbi hb)))
theorem enT_next {e it l : Addr} {i : Nat} {items : Array Value} {x old : Value} {Q : Option Value → Shared → Prop}
    (he : IsEnum s.heap e it i old) (hit : s.heap.IsTupleIter it l i) (hl : s.heap.IsTuple l items) (hx : items[i]? = some x) (hne : e ≠ it)
    (hQ : ∀ h', IsEnumOut h' e it ((i : Int) + 1) x s.heap.objs.size → h'.IsTupleIter it l (i + 1) →
      h'.get? s.heap.objs.size = some { cls := .type "tuple", data := .seq #[.int i s.toks, x] } → h'.objs.size = s.heap.objs.size + 1 →
      (∀ b o, b ≠ e → b ≠ it → s.heap.get? b = some o → h'.get? b = some o) → Q (some (.ref s.heap.objs.size)) { s with heap := h', toks := s.toks + 1 }) :
    wpAny (model prog w) A (pyNext (.ref e)) Q E s := by
  have hT : s.TypeIs (.ref e) "enumerate" := ⟨_, he, rfl⟩
  unfold pyNext
  exact wpAny_bind (wpAny_attempt (wpAny_callSpecial?_slot (name := Str.ofString "__next__") hT F.slot_enumerate_next
    (wpAny_call_entry F.slot_enumerate_next hT F.entry_enumerate_next
      (enT_item he hit hl hx hne fun h' a b c d k => wpAny_pure (hQ h' a b c d k)) (F.args_enumerate_next_1 _))))
theorem enT_end {e it l : Addr} {i : Nat} {items : Array Value} {old : Value} {Q : Option Value → Shared → Prop} (hh : A.handled = none)
    (he : IsEnum s.heap e it i old) (hit : s.heap.IsTupleIter it l i) (hl : s.heap.IsTuple l items) (hx : items[i]? = none)
    (hQ : ∀ h', Heap.ExtBut it s.heap h' → Q none { s with heap := h' }) : wpAny (model prog w) A (pyNext (.ref e)) Q E s := by
  have hT : s.TypeIs (.ref e) "enumerate" := ⟨_, he, rfl⟩
  unfold pyNext
  refine wpAny_bind (wpAny_attempt (wpAny_callSpecial?_slot (name := Str.ofString "__next__") hT F.slot_enumerate_next
    (wpAny_call_entry F.slot_enumerate_next hT F.entry_enumerate_next ?_ (F.args_enumerate_next_1 _))))
  show wpAny _ _ (field (.ref e) 2 >>= _) _ _ _
  refine wpAny_bind (wpAny_field he rfl (x := .ref it) rfl ?_)
  refine wpAny_bind (nextOf_tuple_end hh hit hl hx fun h' x he' hx' => ?_)
  obtain ⟨o, ho, hc⟩ := hx'
  refine wpAny_bind (wpAny_isInstance (T := "StopIteration") (b := true) ⟨o, ho, hc⟩ isSubtype_stop ?_)
  exact wpAny_pure (hQ _ he')
theorem enT_held {e it l T : Addr} {i : Nat} {items : Array Value} {x old : Value} {f : Bool} {oT : Obj} {Q : Value → Shared → Prop}
    (he : IsEnumHeld s.heap e it i old T f) (hT : s.heap.get? T = some oT) (hTe : T ≠ e) (hTi : T ≠ it) (hit : s.heap.IsTupleIter it l i) (hl : s.heap.IsTuple l items) (hx : items[i]? = some x) (hne : e ≠ it)
    (hQ : ∀ h', IsEnumHeld h' e it ((i : Int) + 1) old T true → h'.IsTupleIter it l (i + 1) →
      h'.get? s.heap.objs.size = some { cls := .type "tuple", data := .seq #[.int i s.toks, x] } → h'.objs.size = s.heap.objs.size + 1 →
      (∀ b o, b ≠ e → b ≠ it → s.heap.get? b = some o → h'.get? b = some o) → Q (.ref s.heap.objs.size) { s with heap := h', toks := s.toks + 1 }) :
    wpAny (model prog w) A (Builtin.«enumerate.__next__» ⟨[.ref e], []⟩) (fun fin s' => ∃ v, fin = .done (.ret v) ∧ Q v s') E s := by
  obtain ⟨hp, g, d, tk, os⟩ := s
  show wpAny _ _ (field (.ref e) 2 >>= _) _ _ _
  refine wpAny_bind (wpAny_field he rfl (x := .ref it) rfl ?_)
  refine wpAny_bind (nextOf_tuple_item hit hl hx fun h₁ hit₁ hs₁ => ?_)
  replace hs₁ : Heap.SameBut it hp h₁ := hs₁
  have he₁ : IsEnumHeld h₁ e it i old T f := (hs₁.2 e hne).trans he
  show wpAny _ _ (field (.ref e) 3 >>= _) _ _ ⟨h₁, g, d, tk, os⟩
  refine wpAny_bind (wpAny_field he₁ rfl (x := rawInt i) rfl ?_)
  show wpAny _ _ (field (.ref e) 4 >>= _) _ _ ⟨h₁, g, d, tk, os⟩
  refine wpAny_bind (wpAny_field he₁ rfl (x := .none) rfl ?_)
  show wpAny _ _ (mkInt i >>= _) _ _ ⟨h₁, g, d, tk, os⟩
  refine wpAny_bind (wpAny_mkInt ?_)
  show wpAny _ _ (setField (.ref e) 3 (rawInt ((i : Int) + 1)) >>= _) _ _ ⟨h₁, g, d, tk + 1, os⟩
  refine wpAny_bind (wpAny_setField_rec he₁ (by simp) fun h₂ he₂ hs₂ => ?_)
  replace hs₂ : Heap.SameBut e h₁ h₂ := hs₂
  replace he₂ : IsEnumHeld h₂ e it ((i : Int) + 1) old T f := he₂
  show wpAny _ _ (setField (.ref e) 4 .none >>= _) _ _ ⟨h₂, g, d, tk + 1, os⟩
  refine wpAny_bind (wpAny_setField_rec he₂ (by simp) fun h₃ he₃ hs₃ => ?_)
  replace hs₃ : Heap.SameBut e h₂ h₃ := hs₃
  replace he₃ : IsEnumHeld h₃ e it ((i : Int) + 1) old T f := he₃
  show wpAny _ _ (newTuple [.int i tk, x] >>= _) _ _ ⟨h₃, g, d, tk + 1, os⟩
  refine wpAny_bind (wpAny_newTuple ?_)
  have he₄ : IsEnumHeld (h₃.push { cls := .type "tuple", data := .seq #[.int i tk, x] }) e it ((i : Int) + 1) old T f := Heap.get?_push_of_some _ he₃
  generalize hh₄ : h₃.push { cls := .type "tuple", data := .seq #[.int i tk, x] } = h₄ at he₄
  have hsz : h₃.objs.size = hp.objs.size := by rw [hs₃.1, hs₂.1, hs₁.1]
  have hel : e < hp.objs.size := Heap.lt_size he
  have ht₄ : h₄.get? hp.objs.size = some { cls := .type "tuple", data := .seq #[.int i tk, x] } := by rw [← hh₄, ← hsz]; exact Heap.get?_push_size _ rfl
  have hz₄ : h₄.objs.size = hp.objs.size + 1 := by rw [← hh₄, Heap.size_push, hsz]
  have hk₄ : ∀ b o, b ≠ e → b ≠ it → hp.get? b = some o → h₄.get? b = some o := fun b o hbe hbi hb => by
    rw [← hh₄]; exact Heap.get?_push_of_some _ (hs₃.extBut b o hbe (hs₂.extBut b o hbe (hs₁.extBut b o hbi hb)))
  have hit₄ : h₄.IsTupleIter it l (i + 1) := by
    rw [← hh₄]; obtain ⟨o, ho, r⟩ := (hit₁.extBut hs₂.extBut (Ne.symm hne)).extBut hs₃.extBut (Ne.symm hne); exact ⟨o, Heap.get?_push_of_some _ ho, r⟩
  show wpAny _ _ (Builtin.SmallTypes.ownedTupleIsFree (.ref e) >>= _) _ _ ⟨h₄, g, d, tk + 1, os⟩
  rw [hsz]
  clear hh₄ he₃ hs₃ he₂ hs₂ he₁ hs₁ hit₁ hsz h₃ h₂ h₁
  refine wpAny_bind (wpAny_tupleHeld_enum (s := ⟨h₄, g, d, tk + 1, os⟩) he₄ (hk₄ T oT hTe hTi hT) fun h₅ he₅ hs₅ => ?_)
  replace hs₅ : Heap.SameBut e h₄ h₅ := hs₅
  simp only [Bool.false_eq_true, if_false]
  refine wpAny_pure ⟨_, rfl, hQ h₅ he₅ (hit₄.extBut hs₅.extBut (Ne.symm hne)) (hs₅.extBut _ _ (Nat.ne_of_gt hel) ht₄) ?_ fun b o hbe hbi hb => hs₅.extBut b o hbe (hk₄ b o hbe hbi hb)⟩
  show h₅.objs.size = hp.objs.size + 1
  rw [hs₅.1, hz₄]
theorem enT_nextH {e it l T : Addr} {i : Nat} {items : Array Value} {x old : Value} {f : Bool} {oT : Obj} {Q : Option Value → Shared → Prop}
    (he : IsEnumHeld s.heap e it i old T f) (hT : s.heap.get? T = some oT) (hTe : T ≠ e) (hTi : T ≠ it) (hit : s.heap.IsTupleIter it l i) (hl : s.heap.IsTuple l items) (hx : items[i]? = some x) (hne : e ≠ it)
    (hQ : ∀ h', IsEnumHeld h' e it ((i : Int) + 1) old T true → h'.IsTupleIter it l (i + 1) →
      h'.get? s.heap.objs.size = some { cls := .type "tuple", data := .seq #[.int i s.toks, x] } → h'.objs.size = s.heap.objs.size + 1 →
      (∀ b o, b ≠ e → b ≠ it → s.heap.get? b = some o → h'.get? b = some o) → Q (some (.ref s.heap.objs.size)) { s with heap := h', toks := s.toks + 1 }) :
    wpAny (model prog w) A (pyNext (.ref e)) Q E s := by
  have hTy : s.TypeIs (.ref e) "enumerate" := ⟨_, he, rfl⟩
  unfold pyNext
  exact wpAny_bind (wpAny_attempt (wpAny_callSpecial?_slot (name := Str.ofString "__next__") hTy F.slot_enumerate_next
    (wpAny_call_entry F.slot_enumerate_next hTy F.entry_enumerate_next
      (enT_held he hT hTe hTi hit hl hx hne fun h' a1 a2 a3 a4 a5 => wpAny_pure (hQ h' a1 a2 a3 a4 a5)) (F.args_enumerate_next_1 _))))
theorem enT_endH {e it l T : Addr} {i : Nat} {items : Array Value} {old : Value} {f : Bool} {Q : Option Value → Shared → Prop} (hh : A.handled = none)
    (he : IsEnumHeld s.heap e it i old T f) (hit : s.heap.IsTupleIter it l i) (hl : s.heap.IsTuple l items) (hx : items[i]? = none)
    (hQ : ∀ h', Heap.ExtBut it s.heap h' → Q none { s with heap := h' }) : wpAny (model prog w) A (pyNext (.ref e)) Q E s := by
  have hTy : s.TypeIs (.ref e) "enumerate" := ⟨_, he, rfl⟩
  unfold pyNext
  refine wpAny_bind (wpAny_attempt (wpAny_callSpecial?_slot (name := Str.ofString "__next__") hTy F.slot_enumerate_next
    (wpAny_call_entry F.slot_enumerate_next hTy F.entry_enumerate_next ?_ (F.args_enumerate_next_1 _))))
  show wpAny _ _ (field (.ref e) 2 >>= _) _ _ _
  refine wpAny_bind (wpAny_field he rfl (x := .ref it) rfl ?_)
  refine wpAny_bind (nextOf_tuple_end hh hit hl hx fun h' x he' hx' => ?_)
  obtain ⟨o, ho, hc⟩ := hx'
  refine wpAny_bind (wpAny_isInstance (T := "StopIteration") (b := true) ⟨o, ho, hc⟩ isSubtype_stop ?_)
  exact wpAny_pure (hQ _ he')
end
end Zs
end
section
set_option Elab.async false
set_option linter.all false
set_option maxRecDepth 100000
set_option maxHeartbeats 2000000
/-! Ev23: list(enumerate(t)), t a tuple. -/
namespace Zs
open PySem
theorem meets_en_new (l : Addr) (items : Array Value) :
    Meets (Builtin.«enumerate.__new__» ⟨[.type "enumerate", .ref l], []⟩) (fun _ R s => s.heap.IsTuple l items ∧
      R (.ok (.ret (.ref (s.heap.push { cls := .type "tuple_iterator", data := .fields #[.ref l, .int 0 0] }).objs.size)))
        { s with heap := (s.heap.push { cls := .type "tuple_iterator", data := .fields #[.ref l, .int 0 0] }).push { cls := .type "enumerate", data := .fields #[.none, .bool false, .ref s.heap.objs.size, rawInt 0, .none, .none] } }) :=
  .of_wp fun prog w A R s h => by
    obtain ⟨hp, g, d, tk, os⟩ := s; obtain ⟨hl, h⟩ := h
    have hsub := sub_enumerate
    have hL : Heap.IsTuple (Shared.heap ⟨hp, g, d, tk, os⟩) l items := hl
    wp_walk using wpAny_pyIter_tuple hL
    refine wpAny_stack_any fun st => wpAny_pure ?_
    split
    · rename_i c _ _ _ _ _
      cases (c == Value.type "enumerate")
      · wp_walk using wpAny_pyIter_tuple hL
        exact ⟨_, rfl, h⟩
      · wp_walk using wpAny_pyIter_tuple hL
        exact ⟨_, rfl, h⟩
    · wp_walk using wpAny_pyIter_tuple hL
      exact ⟨_, rfl, h⟩
theorem typeCall_en (a : Value) : checkTypeCall "enumerate" ⟨[a], []⟩ = pure () := by kernel_rfl
theorem newCall_en (a : Value) : checkBuiltinCall "enumerate.__new__" ⟨[.type "enumerate", a], []⟩ = pure () := by kernel_rfl
section
variable {prog : Program} {w : World} {A : Around} {E : Value → Shared → Prop} {s : Shared}
theorem call_en {l : Addr} {items : Array Value} {Q : Value → Shared → Prop} (hl : s.heap.IsTuple l items)
    (h : ∀ h', IsEnum h' (s.heap.objs.size + 1) s.heap.objs.size 0 .none → h'.IsTupleIter s.heap.objs.size l 0 → h'.objs.size = s.heap.objs.size + 2 → (∀ b o, s.heap.get? b = some o → h'.get? b = some o) → Q (.ref (s.heap.objs.size + 1)) { s with heap := h' }) :
    wpAny (model prog w) A (call (.type "enumerate") [.ref l]) Q E s := by
  refine callType_new F.called_enumerate (by decide) (typeCall_en _) (newCall_en _) (fun obj => F.args_object_init_2 obj _) F.entry_enumerate_new (meets_en_new l items) ⟨hl, ?_⟩
  have hz : (s.heap.push { cls := .type "tuple_iterator", data := .fields #[.ref l, .int 0 0] }).objs.size = s.heap.objs.size + 1 := Heap.size_push ..
  show _ ∧ _
  rw [hz]
  have he : IsEnum ((s.heap.push { cls := .type "tuple_iterator", data := .fields #[.ref l, .int 0 0] }).push { cls := .type "enumerate", data := .fields #[.none, .bool false, .ref s.heap.objs.size, rawInt 0, .none, .none] }) (s.heap.objs.size + 1) s.heap.objs.size 0 .none := by
    have := Heap.get?_push_size (s.heap.push { cls := .type "tuple_iterator", data := .fields #[.ref l, .int 0 0] }) (o := { cls := .type "enumerate", data := .fields #[.none, .bool false, .ref s.heap.objs.size, rawInt 0, .none, .none] }) rfl
    rw [hz] at this; exact this
  exact ⟨⟨_, he, rfl⟩, h _ he ⟨_, Heap.get?_push_of_some _ (Heap.get?_push_size _ rfl), rfl, rfl⟩ (by rw [Heap.size_push, hz]) fun b o x => Heap.get?_push_of_some _ (Heap.get?_push_of_some _ x)⟩
theorem iter_en {e : Addr} {o : Obj} {fs : Array Value} {Q : Value → Shared → Prop} (ho : s.heap.get? e = some o) (hc : o.cls = .type "enumerate") (h : Q (.ref e) s) : wpAny (model prog w) A (pyIter (.ref e)) Q E s := by
  have hT : s.TypeIs (.ref e) "enumerate" := ⟨_, ho, hc⟩
  refine wpAny_pyIter_slot hT F.slot_enumerate_iter (wpAny_call_entry F.slot_enumerate_iter hT F.entry_enumerate_iter ?_ (F.args_enumerate_iter_1 _))
  show wpAny _ _ (ret (.ref e)) _ _ s
  exact wpAny_pure ⟨_, rfl, "enumerate", _, hT, F.slot_enumerate_next.lookup, h⟩
/-- where the walk stands -/
structure EnSt (e it l : Addr) (lo : Nat) (xs : Array Value) (i : Nat) (h : Heap) : Prop where
  hit : h.IsTupleIter it l i
  hl : h.IsTuple l xs
  en : (∃ old, IsEnum h e it i old) ∨ ∃ (T : Addr) (oT : Obj) (f : Bool) (old : Value), IsEnumHeld h e it i old T f ∧ h.get? T = some oT ∧ lo ≤ T
theorem en_mkr {e it l S : Addr} {lo : Nat} {xs : Array Value} (hh : A.handled = none) (hlo : S < lo) (he : e < S) (hi : it < S) (hl : l < S) (ne : e ≠ it) (hle : l ≠ e) (hli : l ≠ it) :
    Mkr prog w A e S lo [e, it] xs.size (fun i x y => (∃ t, x = .int i t) ∧ xs[i]? = some y) (EnSt e it l lo xs) where
  low := fun c hc => by
    have q : c = e ∨ c = it := by simpa using hc
    rcases q with q | q <;> (rw [q]; exact Nat.lt_trans (by assumption) hlo)
  nS := fun hc => by
    have q : S = e ∨ S = it := by simpa using hc
    rcases q with q | q
    · exact Nat.lt_irrefl _ (q ▸ he)
    · exact Nat.lt_irrefl _ (q ▸ hi)
  frame := fun i h h' st k => by
    have ne' : ∀ {c : Addr}, c < S → c ≠ S := fun q => Nat.ne_of_lt q
    refine ⟨st.hit.at fun o q => k _ o (ne' hi) q, let ⟨o, ho, r⟩ := st.hl; ⟨o, k _ o (ne' hl) ho, r⟩, ?_⟩
    rcases st.en with ⟨old, q⟩ | ⟨T, oT, f, old, q, hT, hlT⟩
    · exact .inl ⟨old, k _ _ (ne' he) q⟩
    · exact .inr ⟨T, oT, f, old, k _ _ (ne' he) q, k _ _ (fun z => by rw [z] at hlT; exact absurd hlo (Nat.not_lt.mpr hlT)) hT, hlT⟩
  item := fun i s Q E hi' st hS hlos hQ => by
    have hx : xs[i]? = some xs[i] := Array.getElem?_eq_getElem hi'
    have aw : ∀ {h' : Heap}, (∀ b o, b ≠ e → b ≠ it → s.heap.get? b = some o → h'.get? b = some o) → ∀ b o, b ∉ [e, it] → s.heap.get? b = some o → h'.get? b = some o := fun {h'} hk b o hb q => hk b o (fun z => hb (by simp [z])) (fun z => hb (by simp [z])) q
    have lk : ∀ {h' : Heap}, (∀ b o, b ≠ e → b ≠ it → s.heap.get? b = some o → h'.get? b = some o) → h'.IsTuple l xs := fun {h'} hk => let ⟨o, ho, r⟩ := st.hl; ⟨o, hk _ o hle hli ho, r⟩
    rcases st.en with ⟨old, q⟩ | ⟨T, oT, f, old, q, hT, hlT⟩
    · refine enT_next q st.hit st.hl hx ne fun h' a b c d k => ?_
      exact hQ _ _ h' (s.toks + 1) ⟨⟨_, rfl⟩, hx⟩ ⟨b, lk k, .inr ⟨_, _, false, _, by push_cast; exact a, c, hlos⟩⟩ c (aw k)
    · have nT : ∀ {c : Addr}, c < S → T ≠ c := fun {c} z e => by
        rw [e] at hlT
        exact absurd (Nat.lt_trans z hlo) (Nat.not_lt.mpr hlT)
      refine enT_nextH q hT (nT he) (nT hi) st.hit st.hl hx ne fun h' a b c d k => ?_
      exact hQ _ _ h' (s.toks + 1) ⟨⟨_, rfl⟩, hx⟩ ⟨b, lk k, .inr ⟨T, oT, true, _, by push_cast; exact a, k _ _ (nT he) (nT hi) hT, hlT⟩⟩ c (aw k)
  done := fun s Q E st hQ => by
    have hx : xs[xs.size]? = none := Array.getElem?_eq_none (Nat.le_refl _)
    have aw : ∀ {h' : Heap}, Heap.ExtBut it s.heap h' → ∀ b o, b ∉ [e, it] → s.heap.get? b = some o → h'.get? b = some o := fun {h'} hk b o hb q => hk b o (fun z => hb (by simp [z])) q
    rcases st.en with ⟨old, q⟩ | ⟨T, oT, f, old, q, hT, hlT⟩
    · exact enT_end hh q st.hit st.hl hx fun h' k => hQ h' s.toks (aw k)
    · exact enT_endH hh q st.hit st.hl hx fun h' k => hQ h' s.toks (aw k)
end
theorem en_nolen : typeLookup (.type "enumerate") "__len__" = pure none := am_miss_of_fast (by decide +kernel)
theorem en_nohint : typeLookup (.type "enumerate") "__length_hint__" = pure none := am_miss_of_fast (by decide +kernel)
end Zs
namespace EV
open PySem PySem.Spec PyProof.Rows L2 RZ Zs
section
variable {X : Cx} {F : Fx} {Ex : XK} {n : Nat}
def enV (xs : List V) : List (V × V) := (List.range xs.length).zip xs |>.map fun q => (V.int (q.1 : Nat), q.2)
theorem pe_len {e : Expr} {te : TE} {p p2 pos pos2 : Pos} (hc : X.calm = true) (hg2 : Gl X "list") (hl : X.mg "list" = none) (hg : Gl X "enumerate") (hm : X.mg "enumerate" = none) (ha : PE X e te) (na : starEach [e] X.env = (false, eval e X.env) :: starEach [] X.env) :
    PE X (.Call (.Name "list" p) [.Call (.Name "enumerate" p2) [e] [] pos2] [] pos) (fun σ H Q => te σ H fun v H1 => ∃ a xs, v = .ref a ∧ SqT X.K H1 a xs ∧
      ∀ (H' : Hp) (p : Addr) (ts : List Addr), (∀ b o, H1 b = some o → H' b = some o) → H1 p = none → (∀ t ∈ ts, H1 t = none) → p ∉ ts → H' p = some (.lst (ts.map V.ref)) → Paired (FzP H') ts (enV xs) → Q (.ref p) H') := by
  refine ⟨fun pins s σ H Q I h => ?_⟩
  refine Call_ (ld_blt I hg2 hl boot_list (PyProof.Rows.callWith_type1 (args_cons ?_ rfl) rfl))
  refine Call_ (ld_blt I hg hm boot_enumerate (PyProof.Rows.callWith_type1 (one_arg ha I h (fun v s1 x H1 I1 r q => ?_) na) na))
  obtain ⟨a, xs, rfl, hq, q⟩ := q
  obtain rfl : v = .ref a := r
  obtain ⟨its, rv, p1, hz⟩ := I1.tuple hq
  obtain ⟨o1, ho1, _⟩ := id p1
  have la := Heap.lt_size ho1
  have el := rv.length
  refine call_en (show s1.heap.IsTuple a its.toArray from p1) fun h' he hit hsz hk => args_nil ?_
  have q1 : s1.heap.objs.size + 1 < h'.objs.size := by rw [hsz]; exact Nat.lt_succ_self _
  have q0 : s1.heap.objs.size < h'.objs.size := Nat.lt_trans (Nat.lt_succ_self _) q1
  have qa : a < h'.objs.size := Nat.lt_trans la q0
  refine mkr_call (s := { s1 with heap := h' }) (T := "enumerate") (en_mkr (xs := its.toArray) (I1.ok.hd hc) (Nat.lt_succ_self _) q1 q0 qa (Nat.ne_of_gt (Nat.lt_succ_self _)) (Nat.ne_of_lt (Nat.lt_succ_of_lt la)) (Nat.ne_of_lt la))
    (by simp; omega) q1 (fun g k => ⟨_, k _ he, rfl⟩) (by decide +kernel) (by decide +kernel) en_nolen en_nohint (fun A g Q E k hq => iter_en (s := { s1 with heap := g }) (fs := #[]) (k _ he) rfl hq) (fun g k => ?_) (fun g tk acc c as k1 k2 k3 k4 k5 => ?_)
  · have ne : ∀ {c : Addr}, c < h'.objs.size → c ≠ h'.objs.size := fun q => Nat.ne_of_lt q
    exact ⟨hit.at fun o e => k _ o (ne q0) e, tup_keep (show s1.heap.IsTuple a its.toArray from p1) fun o e => k _ o (ne qa) (hk _ o e), .inl ⟨_, k _ _ (ne q1) he⟩⟩
  · have hkk : ∀ c o, s1.heap.get? c = some o → g.get? c = some o := fun c o e => by
      have hlt := Heap.lt_size e
      refine k1 c o (fun m => ?_) (hk c o e)
      have e' : c = s1.heap.objs.size + 1 ∨ c = s1.heap.objs.size := by simpa using m
      have no : ∀ k : Nat, c = s1.heap.objs.size + k → False := fun k e => absurd (e ▸ hlt) (Nat.not_lt.mpr (Nat.le_add_right _ _))
      rcases e' with e | e
      · exact no 1 e
      · exact no 0 e
    have lenE : (enV xs).length = xs.length := by unfold enV; rw [List.length_map, List.length_zip, List.length_range]; omega
    have len : as.length = (enV xs).length := by rw [k3, lenE]; simp; omega
    have pr : Prs (fun j x y => ∃ p, (enV xs)[j]? = some p ∧ RelV p.1 x ∧ RelV p.2 y) (h'.objs.size + 1) g as := ⟨k4.above, k4.nodup, fun jx t ht => by
      obtain ⟨x, y, ⟨⟨tt, e1⟩, e2⟩, e3⟩ := k4.pairs jx t ht
      subst e1
      have e2' : its[jx]? = some y := by simpa using e2
      have hj : jx < its.length := (List.getElem?_eq_some_iff.mp e2').1
      have hx : xs[jx]? = some (xs[jx]'(by omega)) := List.getElem?_eq_getElem (by omega)
      obtain ⟨u, hu, ru⟩ := rv.get hx
      rw [e2'] at hu; cases hu
      refine ⟨_, y, ⟨(V.int (jx : Nat), xs[jx]'(by omega)), ?_, ⟨tt, rfl⟩, ru⟩, e3⟩
      unfold enV
      have hzz : ((List.range xs.length).zip xs)[jx]? = some (jx, xs[jx]'(by omega)) := List.getElem?_zip_eq_some.mpr ⟨List.getElem?_range (by omega), hx⟩
      rw [List.getElem?_map, hzz]
      rfl⟩
    obtain ⟨H', j1, j2, j3, j4, j5, j6, J⟩ := pairs_laid (tk := tk) I1 (ps := enV xs) (by rw [lenE]; exact hz) (S := h'.objs.size) (lo := h'.objs.size + 1) (Nat.le_of_lt q0) (Nat.lt_succ_self _) hkk k2 len pr k5
    exact ⟨.ref _, H', J, rfl, q H' _ as j1 j2 j3 j4 j5 j6⟩
def enP (ps : List PV) : List PV := ((List.range ps.length).zip ps).map fun q => .tup [.int (q.1 : Nat), q.2]
def bLenum (ob : Bool) (ps : List PV) (G : GH) : Res PV := match ps with
  | [.tup ps] => mkL ob (enP ps) G
  | _ => .bad
theorem gle (g : GX X F Ex n) (ob : Bool) {e : Expr} {p p2 pos pos2 : Pos} {m : Env → GH → Res PV} (hl : X.mg "list" = none) (hm : X.mg "enumerate" = none) (ha : PE X e (TEv F Ex m)) (hg : X.env.kindOf "enumerate" = some .globalImplicit := by kernel_rfl) (hg2 : X.env.kindOf "list" = some .globalImplicit := by kernel_rfl) (h1 : plainE e = true := by kernel_rfl) :
    PE X (.Call (.Name "list" p) [.Call (.Name "enumerate" p2) [e] [] pos2] [] pos) (TEv F Ex (mA (mCons m mNil) (bLenum ob))) :=
  (pe_len g.calm hg2 hl hg hm ha (star_plain h1)).weak fun σ H Q ⟨μ, ρ, G, s, gr, q⟩ => by
    unfold mA mCons mNil at q
    rw [Res.bind_assoc] at q
    refine TEv.run s gr q fun μ1 a G1 v H1 e1 r1 g1 s1 p1 => ?_
    simp only [Res.bind_ok] at p1
    unfold bLenum at p1
    split at p1
    · rename_i ps heq
      cases heq
      obtain ⟨b, xs, rfl, z, st, rr⟩ := rep_tup r1
      refine ⟨b, xs, rfl, by rw [← g.K]; exact st.sq, fun H' t ts k h3 h4 h5 h6 h7 => mkL_new p1 g1 k h3 h6 fun μ' f1 f2 f3 => ?_⟩
      have c := chg_new (F := F) (μ := μ1) k h3 f1 f3
      have rn : ∀ l : List Nat, Reps F μ' H' (l.map fun i => PV.int (i : Nat)) (l.map fun i => V.int (i : Nat)) := fun l => by
        induction l with
        | nil => exact .nil
        | cons a l ih => exact .cons (by simp only [Rep]) ih
      have e1 : enP ps = zipP ((List.range ps.length).map fun i => PV.int (i : Nat)) ps := by
        unfold enP zipP
        rw [List.zip_map_left, List.map_map]
        rfl
      have e2 : enV xs = ((List.range xs.length).map fun i => V.int (i : Nat)).zip xs := by
        unfold enV
        rw [List.zip_map_left]
        rfl
      rw [e1]
      rw [e2] at h7
      rw [rr.length]
      exact reps_zip (rn _) (rr.chg c) (fun u hu => f2 u (h4 u hu) fun q => h5 (q ▸ hu)) h7
    · exact (show False from p1).elim
variable {a b : Expr} {pos : Pos} {ma mb : Env → GH → Res PV}
theorem GX.un1 (g : GX X F Ex n) : X.A.units + 1 < cLine := by have := g.un; omega
theorem gixA (g : GX X F Ex n) (hs : PlainIx b) (ha : PE X a (TEv F Ex ma)) (hb : PE X b (TEv F Ex mb)) : PE X (.Subscript a b pos) (TEv F Ex (m2 ma mb opIxA)) := ev_ix (opIxA_ok g.K) ha hb hs
theorem ginA (g : GX X F Ex n) (ha : PE X a (TEv F Ex ma)) (hb : PE X b (TEv F Ex mb)) (hm : behindInMarks .In b = false := by kernel_rfl) : PE X (.Compare a [.In] [b] pos) (TEv F Ex (m2 ma mb (opInA false))) := ev_cmp (opInA_ok g.K g.un1) ha hb hm
theorem gniA (g : GX X F Ex n) (ha : PE X a (TEv F Ex ma)) (hb : PE X b (TEv F Ex mb)) (hm : behindInMarks .NotIn b = false := by kernel_rfl) : PE X (.Compare a [.NotIn] [b] pos) (TEv F Ex (m2 ma mb (opInA true))) := ev_cmp (opNotInA_ok g.K g.un1) ha hb hm
theorem ginAT (g : GX X F Ex n) (ha : PE X a (TEv F Ex ma)) (hb : PE X b (TEv F Ex mb)) (hm : behindInMarks .In b = false := by kernel_rfl) : PT X (.Compare a [.In] [b] pos) (TTv F Ex (mB (m2 ma mb (opInA false)))) := ev_cmpT (opInA_ok g.K g.un1) ha hb hm
theorem gniAT (g : GX X F Ex n) (ha : PE X a (TEv F Ex ma)) (hb : PE X b (TEv F Ex mb)) (hm : behindInMarks .NotIn b = false := by kernel_rfl) : PT X (.Compare a [.NotIn] [b] pos) (TTv F Ex (mB (m2 ma mb (opInA true)))) := ev_cmpT (opNotInA_ok g.K g.un1) ha hb hm
end
end EV
end
section
set_option Elab.async false
set_option linter.all false
set_option maxRecDepth 100000
/-! Ev24: a module's constants: numbers, texts, tuples of these. -/
namespace EV
open PySem PySem.Spec PyProof.Rows L2
mutual
/-- a written value reads so -/
def readB (K : PySem.W.Frag) : PV → Value → Bool
  | .non, v => decide (v = .none)
  | .bl b, v => decide (v = .bool b)
  | .int i, .int j _ => decide (i = j)
  | .str x, .str y _ => decide (x = y)
  | .tup ps, .ref a => (match K.lookup a with
    | some o => decide (o.cls = .type "tuple") && (o.dict.isNone && (match o.data with
      | .seq its _ => decide (its.size ≤ sizeLine) && readsB K ps its.toList
      | _ => false))
    | none => false)
  | _, _ => false
def readsB (K : PySem.W.Frag) : List PV → List Value → Bool
  | [], [] => true
  | p :: ps, v :: vs => readB K p v && readsB K ps vs
  | _, _ => false
end
section
variable {K : PySem.W.Frag}
mutual
theorem readB_rep : ∀ (p : PV) (u : Value), readB K p u = true → ∃ v, RelV v u ∧ ∀ (F : Fx) (μ : Mu) (H : Hp), F.K = K → Rep F μ H p v
  | .non, u, h => by
    simp only [readB, decide_eq_true_eq] at h
    exact ⟨.non, by rw [h]; rfl, fun _ _ _ _ => by simp only [Rep]⟩
  | .bl b, u, h => by
    simp only [readB, decide_eq_true_eq] at h
    exact ⟨.bl b, by rw [h]; rfl, fun _ _ _ _ => by simp only [Rep]⟩
  | .int i, u, h => by
    cases u <;> simp only [readB, decide_eq_true_eq] at h <;> first | (cases h; done) | skip
    exact ⟨.int i, ⟨_, by rw [h]⟩, fun _ _ _ _ => by simp only [Rep]⟩
  | .str x, u, h => by
    cases u <;> simp only [readB, decide_eq_true_eq] at h <;> first | (cases h; done) | skip
    exact ⟨.str x, ⟨_, by rw [h]⟩, fun _ _ _ _ => by simp only [Rep]⟩
  | .tup ps, u, h => by
    cases u <;> simp only [readB] at h <;> first | (cases h; done) | skip
    rename_i a
    split at h
    · rename_i o eo
      simp only [Bool.and_eq_true, decide_eq_true_eq, Option.isNone_iff_eq_none] at h
      obtain ⟨h1, h2, h3⟩ := h
      split at h3
      · rename_i its n ed
        simp only [Bool.and_eq_true, decide_eq_true_eq] at h3
        obtain ⟨vs, rv, rr⟩ := readsB_rep ps its.toList h3.2
        refine ⟨.ref a, rfl, fun F μ H hK => ?_⟩
        simp only [Rep]
        refine ⟨a, vs, rfl, ?_, .inr ⟨o, its, n, by rw [hK]; exact eo, h1, h2, ed, h3.1, rv⟩, rr F μ H hK⟩
        rw [rv.length]
        simpa using h3.1
      · cases h3
    · cases h
  | .lst _, u, h => by simp [readB] at h
  | .sls _, u, h => by simp [readB] at h
  | .obj _, u, h => by simp [readB] at h
theorem readsB_rep : ∀ (ps : List PV) (us : List Value), readsB K ps us = true → ∃ vs, Vals vs us ∧ ∀ (F : Fx) (μ : Mu) (H : Hp), F.K = K → Reps F μ H ps vs
  | [], [], _ => ⟨[], .nil, fun _ _ _ _ => .nil⟩
  | [], _ :: _, h => by simp [readsB] at h
  | _ :: _, [], h => by simp [readsB] at h
  | p :: ps, u :: us, h => by
    simp only [readsB, Bool.and_eq_true] at h
    obtain ⟨v, rv, r⟩ := readB_rep p u h.1
    obtain ⟨vs, rvs, rs⟩ := readsB_rep ps us h.2
    exact ⟨v :: vs, .cons rv rvs, fun F μ H hK => .cons (r F μ H hK) (rs F μ H hK)⟩
end
/-- a module's constant -/
def cstB (K : PySem.W.Frag) (q : Str × PV) : Bool := match PySem.W.nsIn K mainGlobals q.1 with
  | some (some v) => readB K q.2 v
  | _ => false
def CstOf (K : PySem.W.Frag) (mg : Str → Option Value) (x : Str) (p : PV) : Prop := ∃ u v, mg x = some u ∧ RelV v u ∧ ∀ (F : Fx) (μ : Mu) (H : Hp), F.K = K → Rep F μ H p v
theorem cst_of {h : Heap} {mg : Str → Option Value} (X : K.In h) (G : h.Ns mainGlobals mg) {x : Str} {p : PV} (c : cstB K (x, p) = true) : CstOf K mg x p := by
  unfold cstB at c
  split at c
  · rename_i v e
    obtain ⟨w, rw_, r⟩ := readB_rep p v c
    exact ⟨v, w, PySem.W.mg_of X G e, rw_, r⟩
  · cases c
end
def eachC (tf : List He.Defn) (cs : List (Str × PV)) (K : PySem.W.Frag) : Bool := oneEach tf K && cs.all (cstB K)
theorem eachC_one {tf : List He.Defn} {cs : List (Str × PV)} {K : PySem.W.Frag} (h : eachC tf cs K = true) : oneEach tf K = true := (Bool.and_eq_true_iff.mp h).1
theorem eachC_cst {tf : List He.Defn} {cs : List (Str × PV)} {K : PySem.W.Frag} {h : Heap} {mg : Str → Option Value} (X : K.In h) (G : h.Ns mainGlobals mg) (c : eachC tf cs K = true) (i : Nat) {x : Str} {p : PV} (e : cs[i]? = some (x, p)) : CstOf K mg x p :=
  cst_of X G (List.all_eq_true.mp (Bool.and_eq_true_iff.mp c).2 (x, p) (List.mem_of_getElem? e))
/-! ### a if c else b, as a test -/
def mtIf (mc ma mb : Env → GH → Res Bool) : Env → GH → Res Bool := fun ρ G => (mc ρ G).bind fun k G1 => if k = true then ma ρ G1 else mb ρ G1
section
variable {X : Cx} {F : Fx} {Ex : XK}
theorem pt_ifExp {c a b : Expr} {pos : Pos} {tc ta tb : TT} (hc : PT X c tc) (ha : PT X a ta) (hb : PT X b tb) : PT X (.IfExp c a b pos) (fun σ H Q => tc σ H fun k H1 => if k = true then ta σ H1 Q else tb σ H1 Q) := by
  refine ⟨fun pins s σ H Q I h => ?_⟩
  refine PyProof.Rows.isTrue_IfExp (thn (hc.run pins s σ H _ I h) fun d s1 ⟨H1, I1, q1⟩ => ?_)
  cases d with
  | true => exact ha.run pins s1 σ H1 Q I1 q1
  | false => exact hb.run pins s1 σ H1 Q I1 q1
theorem ev_tif {c a b : Expr} {pos : Pos} {mc ma mb : Env → GH → Res Bool} (hc : PT X c (TTv F Ex mc)) (ha : PT X a (TTv F Ex ma)) (hb : PT X b (TTv F Ex mb)) : PT X (.IfExp c a b pos) (TTv F Ex (mtIf mc ma mb)) :=
  (pt_ifExp hc ha hb).weak fun σ H Q ⟨μ, ρ, G, s, g, p⟩ => TTv.run s g p fun μ1 b G1 H1 e1 g1 s1 p1 => by
    cases b with
    | true => exact ⟨μ1, ρ, G1, s1, g1, p1⟩
    | false => exact ⟨μ1, ρ, G1, s1, g1, p1⟩
end
section
variable {X : Cx} {F : Fx} {Ex : XK} {n : Nat}
theorem gglo (g : GX X F Ex n) {x : Str} {p : PV} {pos : Pos} {K : PySem.W.Frag} (hK : F.K = K) (c : CstOf K X.mg x p) (hg : X.env.kindOf x = some .globalImplicit := by kernel_rfl) (hd : nmB x = true := by kernel_rfl) : PE X (.Name x pos) (TEv F Ex (mCst p)) := by
  obtain ⟨u, v, hm, rv, r⟩ := c
  exact ev_cst (pe_glob hg hm rv (nm1 hd)) fun μ H => r F μ H hK
end
end EV
end
section
/-! Gn: the bodies of defs that several laws share, as the evaluator has them (printed by gen.py). -/
set_option Elab.async false
set_option linter.all false
set_option maxRecDepth 100000
namespace GN
open PySem PySem.Spec PyProof.Rows L2 EV
/-- is_long(thing, many) -/
def N_is_long : List Str := ["thing", "many"]
def b_is_long : EV.Env → GH → Res Fl := sSeq (sRet (mAnd (m1 (mVar 0) (bIsi "tuple")) (m2 (mA (mCons (mVar 0) (mNil)) bLen) (mVar 1) (Cop.f .eq)))) (sNext)
/-- has_head(thing, word, many) -/
def N_has_head : List Str := ["thing", "word", "many"]
def b_has_head (f_is_long : List PV → GH → Res PV) : EV.Env → GH → Res Fl := sSeq (sRet (mAnd (mA (mCons (mVar 0) (mCons (mVar 2) (mNil))) f_is_long) (mAnd (m1 (m2 (mVar 0) (mCst (.int 0)) opIx) (bIsi "str")) (m2 (m2 (mVar 0) (mCst (.int 0)) opIx) (mVar 1) (Cop.f .eq))))) (sNext)
/-- is_row(thing) -/
def N_is_row : List Str := ["thing"]
def b_is_row (f_has_head : List PV → GH → Res PV) : EV.Env → GH → Res Fl := sSeq (sRet (mAnd (mA (mCons (mVar 0) (mCons (mCst (.str "row")) (mCons (mCst (.int 2)) (mNil)))) f_has_head) (m1 (m2 (mVar 0) (mCst (.int 1)) opIx) (bIsi "tuple")))) (sNext)
/-- is_tree(thing) -/
def N_is_tree : List Str := ["thing"]
def b_is_tree (f_has_head : List PV → GH → Res PV) : EV.Env → GH → Res Fl := sSeq (sRet (mAnd (mA (mCons (mVar 0) (mCons (mCst (.str "tree")) (mCons (mCst (.int 2)) (mNil)))) f_has_head) (m1 (m2 (mVar 0) (mCst (.int 1)) opIx) (bIsi "tuple")))) (sNext)
/-- key_of(plain) -/
def N_key_of : List Str := ["plain"]
def b_key_of : EV.Env → GH → Res Fl := sSeq (sIf (mT (m1 (mVar 0) (bIsi "bool"))) (sSeq (sRet (mA (mCons (mCst (.int 0)) (mCons (mVar 0) (mNil))) mkTup)) (sNext)) (sNext)) (sSeq (sRet (mIf (mT (m1 (mVar 0) (bIsi "int"))) (mA (mCons (mCst (.int 1)) (mCons (mVar 0) (mNil))) mkTup) (mA (mCons (mCst (.int 2)) (mCons (mVar 0) (mNil))) mkTup))) (sNext))
/-- is_like(one, other) -/
def N_is_like : List Str := ["one", "other", "pairs", "mine", "theirs"]
def b_is_like (f_is_like f_is_row f_is_tree f_key_of : List PV → GH → Res PV) : EV.Env → GH → Res Fl := sSeq (sIf (mtAnd (mT (mA (mCons (mVar 0) (mNil)) f_is_tree)) (mT (mA (mCons (mVar 1) (mNil)) f_is_tree))) (sSeq (sIf (mB (m2 (mA (mCons (m2 (mVar 0) (mCst (.int 1)) opIx) (mNil)) bLen) (mA (mCons (m2 (mVar 1) (mCst (.int 1)) opIx) (mNil)) bLen) (Cop.f .ne))) (sSeq (sRet (mCst (.bl false))) (sNext)) (sNext)) (sSeq (sAsg (mA (mCons (m2 (mVar 0) (mCst (.int 1)) opIx) (mCons (m2 (mVar 1) (mCst (.int 1)) opIx) mNil)) (bLzs false)) (gN 2)) (sSeq (sRet (mA (mCons (mComp false (mSeq (mVar 2)) (gTupE 2 (gConsE (gN 3) (gConsE (gN 4) (gNilE)))) (mYes) (mAnd (m2 (m2 (mVar 3) (mCst (.int 0)) opIx) (m2 (mVar 4) (mCst (.int 0)) opIx) (Cop.f .eq)) (mA (mCons (m2 (mVar 3) (mCst (.int 1)) opIx) (mCons (m2 (mVar 4) (mCst (.int 1)) opIx) (mNil))) f_is_like)) [3, 4]) (mNil)) bAll)) (sNext)))) (sNext)) (sSeq (sIf (mtAnd (mT (mA (mCons (mVar 0) (mNil)) f_is_row)) (mT (mA (mCons (mVar 1) (mNil)) f_is_row))) (sSeq (sIf (mB (m2 (mA (mCons (m2 (mVar 0) (mCst (.int 1)) opIx) (mNil)) bLen) (mA (mCons (m2 (mVar 1) (mCst (.int 1)) opIx) (mNil)) bLen) (Cop.f .ne))) (sSeq (sRet (mCst (.bl false))) (sNext)) (sNext)) (sSeq (sRet (mA (mCons (mComp false (mZipS (mCons (m2 (mVar 0) (mCst (.int 1)) opIx) (mCons (m2 (mVar 1) (mCst (.int 1)) opIx) mNil))) (gTupE 2 (gConsE (gN 3) (gConsE (gN 4) (gNilE)))) (mYes) (mA (mCons (mVar 3) (mCons (mVar 4) (mNil))) f_is_like) [3, 4]) (mNil)) bAll)) (sNext))) (sNext)) (sSeq (sIf (mtOr (mT (m1 (mVar 0) (bIsi "tuple"))) (mT (m1 (mVar 1) (bIsi "tuple")))) (sSeq (sRet (mCst (.bl false))) (sNext)) (sNext)) (sSeq (sRet (m2 (mA (mCons (mVar 0) (mNil)) f_key_of) (mA (mCons (mVar 1) (mNil)) f_key_of) (Cop.f .eq))) (sNext))))
/-- _law_feed(_law_script) -/
def N__law_feed : List Str := ["_law_script"]
def b__law_feed : EV.Env → GH → Res Fl := sSeq (sRet (mA (mCons (mSl (mVar 0) (mNoPart) (mPart (mCst (.int 63))) opSl) (mCons (mCst (.int 0)) (mCons (mCst (.int 0)) (mCons (mCst (.int 0)) (mNil))))) mkObj)) (sNext)
/-- _law_draw(_law_feed_here, _law_many) -/
def N__law_draw : List Str := ["_law_feed_here", "_law_many", "_law_cell", "_law_mixed", "_law_found"]
def b__law_draw : EV.Env → GH → Res Fl := sSeq (sSet (m2 (m2 (mVar 0) (mCst (.int 3)) opIx) (mCst (.int 1)) opAdd) (mVar 0) (mCst (.int 3)) fSetL) (sSeq (sIf (mB (m2 (m2 (mVar 0) (mCst (.int 2)) opIx) (mCst (.int 0)) (Cop.f .gt))) (sSeq (sAsg (m2 (m2 (mVar 0) (mCst (.int 2)) opIx) (mVar 1) opMod) (gN 4)) (sSeq (sSet (m2 (m2 (mVar 0) (mCst (.int 2)) opIx) (mVar 1) opDiv) (mVar 0) (mCst (.int 2)) fSetL) (sSeq (sRet (mVar 4)) (sNext)))) (sNext)) (sSeq (sAsg (mCst (.int 5)) (gN 2)) (sSeq (sIf (mB (m2 (m2 (mVar 0) (mCst (.int 0)) opIx) (mA (mNil) mkLst) (Cop.f .ne))) (sSeq (sAsg (m2 (m2 (mVar 0) (mCst (.int 0)) opIx) (m2 (m2 (mVar 0) (mCst (.int 1)) opIx) (mA (mCons (m2 (mVar 0) (mCst (.int 0)) opIx) (mNil)) bLen) opMod) opIx) (gN 2)) (sNext)) (sNext)) (sSeq (sSet (m2 (m2 (mVar 0) (mCst (.int 1)) opIx) (mCst (.int 1)) opAdd) (mVar 0) (mCst (.int 1)) fSetL) (sSeq (sIf (mtAnd (mB (m2 (mVar 2) (m2 (mCst (.int 10)) (mCst (.int 18)) opPow) (Cop.f .ge))) (mB (m2 (m2 (mVar 0) (mCst (.int 1)) opIx) (mA (mCons (m2 (mVar 0) (mCst (.int 0)) opIx) (mNil)) bLen) (Cop.f .le)))) (sSeq (sSet (m2 (mVar 2) (mVar 1) opDiv) (mVar 0) (mCst (.int 2)) fSetL) (sSeq (sRet (m2 (mVar 2) (mVar 1) opMod)) (sNext))) (sNext)) (sSeq (sAsg (m2 (m2 (m2 (m2 (m2 (mVar 2) (mCst (.int 2147483629)) opMod) (m2 (mCst (.int 7919)) (m2 (mVar 0) (mCst (.int 3)) opIx) opMul) opAdd) (mCst (.int 1)) opAdd) (mCst (.int 5)) opPow) (mCst (.int 2147483647)) opMod) (gN 3)) (sSeq (sRet (m2 (m2 (m2 (m2 (m2 (mVar 3) (m2 (mCst (.int 104729)) (m2 (mVar 0) (mCst (.int 3)) opIx) opMul) opAdd) (mCst (.int 5)) opPow) (mCst (.int 2147483587)) opMod) (mCst (.int 64)) opDiv) (mVar 1) opMod)) (sNext))))))))
/-- _law_plain(_law_feed_here) -/
def N__law_plain : List Str := ["_law_feed_here"]
def b__law_plain (f__law_draw : List PV → GH → Res PV) : EV.Env → GH → Res Fl := sSeq (sRet (m2 (mA (mCons (mCst (.int 0)) (mCons (mCst (.int 1)) (mCons (mCst (.int 2)) (mCons (m1 (mCst (.int 1)) opNeg) (mCons (mCst (.bl true)) (mCons (mCst (.bl false)) (mCons (mCst (.str "a")) (mCons (mCst (.str "")) (mCons (mCst (.str "1")) (mCons (mCst (.str "yes")) (mCons (mCst (.str "b2")) (mCons (mCst (.int 999999)) (mCons (m1 (mCst (.int 40)) opNeg) (mCons (mCst (.int 1)) (mNil))))))))))))))) mkLst) (mA (mCons (mVar 0) (mCons (mCst (.int 14)) (mNil))) f__law_draw) opIx)) (sNext)
/-- _law_value(_law_feed_here, _law_deep, _law_left) -/
def N__law_value : List Str := ["_law_feed_here", "_law_deep", "_law_left", "_law_way", "_law_many", "_law_some", "_law_k"]
def b__law_value (f__law_draw f__law_plain f__law_tree f__law_value : List PV → GH → Res PV) : EV.Env → GH → Res Fl := sSeq (sSet (m2 (m2 (mVar 2) (mCst (.int 0)) opIx) (mCst (.int 1)) opSub) (mVar 2) (mCst (.int 0)) fSetL) (sSeq (sAsg (mA (mCons (mVar 0) (mCons (mCst (.int 6)) (mNil))) f__law_draw) (gN 3)) (sSeq (sIf (mtOr (mB (m2 (mVar 3) (mCst (.int 2)) (Cop.f .lt))) (mtOr (mB (m2 (mVar 1) (mCst (.int 0)) (Cop.f .eq))) (mB (m2 (m2 (mVar 2) (mCst (.int 0)) opIx) (mCst (.int 2)) (Cop.f .lt))))) (sSeq (sRet (mA (mCons (mVar 0) (mNil)) f__law_plain)) (sNext)) (sNext)) (sSeq (sAsg (mA (mCons (mVar 0) (mCons (mA (mCons (mCst (.int 4)) (mCons (m2 (mVar 2) (mCst (.int 0)) opIx) (mNil))) bMin) (mNil))) f__law_draw) (gN 4)) (sSeq (sAsg (mComp false (mRng (mCons (mVar 4) (mNil))) (gN 6) (mB (m2 (m2 (mVar 2) (mCst (.int 0)) opIx) (mCst (.int 0)) (Cop.f .gt))) (mA (mCons (mVar 0) (mCons (m2 (mVar 1) (mCst (.int 1)) opSub) (mCons (mVar 2) (mNil)))) f__law_value) [6]) (gN 5)) (sSeq (sIf (mB (m2 (mVar 3) (mCst (.int 4)) (Cop.f .lt))) (sSeq (sRet (mA (mCons (mCst (.str "row")) (mCons (mA (mCons (mVar 5) (mNil)) bTup) (mNil))) mkTup)) (sNext)) (sNext)) (sSeq (sRet (mA (mCons (mVar 0) (mCons (mVar 5) (mNil))) f__law_tree)) (sNext)))))))
/-- _law_tree(_law_feed_here, _law_some) -/
def N__law_tree : List Str := ["_law_feed_here", "_law_some", "_law_pool", "_law_fields", "_law_one"]
def b__law_tree (f__law_draw : List PV → GH → Res PV) : EV.Env → GH → Res Fl := sSeq (sAsg (mA (mCons (mCst (.str "a")) (mCons (mCst (.str "b")) (mCons (mCst (.str "k")) (mCons (mCst (.str "kk")) (mCons (mCst (.str "x")) (mCons (mCst (.str "yes")) (mNil))))))) mkObj) (gN 2)) (sSeq (sAsg (mComp false (mSeq (mVar 1)) (gN 4) (mYes) (mA (mCons (mMet "list" (mVar 2) (mCons (mA (mCons (mVar 0) (mCons (mA (mCons (mVar 2) (mNil)) bLen) (mNil))) f__law_draw) (mNil)) fPopAt) (mCons (mVar 4) (mNil))) mkTup) [4]) (gN 3)) (sSeq (sRet (mA (mCons (mCst (.str "tree")) (mCons (mA (mCons (mA (mCons (mVar 3) mNil) (bSort0 false)) (mNil)) bTup) (mNil))) mkTup)) (sNext)))
/-- _law_document(_law_feed_here) -/
def N__law_document : List Str := ["_law_feed_here", "_law_k", "_law_left", "_law_some"]
def b__law_document (f__law_draw f__law_tree f__law_value : List PV → GH → Res PV) : EV.Env → GH → Res Fl := sSeq (sPar 2 3 (mCons (mA (mCons (mCst (.int 29)) (mNil)) mkObj) (mCons (mA (mNil) mkObj) (mNil)))) (sSeq (sFor (mRng (mCons (m2 (mA (mCons (mCst (.int 3)) (mCons (mCst (.int 4)) (mCons (mCst (.int 5)) (mCons (mCst (.int 0)) (mCons (mCst (.int 2)) (mNil)))))) mkLst) (mA (mCons (mVar 0) (mCons (mCst (.int 5)) (mNil))) f__law_draw) opIx) (mNil))) (gN 1) (sSeq (sIf (mB (m2 (m2 (mVar 2) (mCst (.int 0)) opIx) (mCst (.int 0)) (Cop.f .gt))) (sSeq (sDrop (mMet "list" (mVar 3) (mCons (mA (mCons (mVar 0) (mCons (mCst (.int 3)) (mCons (mVar 2) (mNil)))) f__law_value) (mNil)) fAppend)) (sNext)) (sNext)) (sNext))) (sSeq (sRet (mA (mCons (mVar 0) (mCons (mVar 3) (mNil))) f__law_tree)) (sNext)))
/-- fields_of(tree) -/
def N_fields_of : List Str := ["tree"]
def b_fields_of : EV.Env → GH → Res Fl := sSeq (sRet (mA (mCons (m2 (mVar 0) (mCst (.int 1)) opIx) (mNil)) bDict)) (sNext)
/-- fits(thing, word, plain) -/
def N_fits : List Str := ["thing", "word", "plain", "fields"]
def b_fits (f_fields_of f_is_like f_is_tree : List PV → GH → Res PV) : EV.Env → GH → Res Fl := sSeq (sIf (mtNot (mT (mA (mCons (mVar 0) (mNil)) f_is_tree))) (sSeq (sRet (mCst (.bl false))) (sNext)) (sNext)) (sSeq (sAsg (mA (mCons (mVar 0) (mNil)) f_fields_of) (gN 3)) (sSeq (sRet (mAnd (m2 (mVar 1) (mVar 3) (opInA false)) (mA (mCons (m2 (mVar 3) (mVar 1) opIxA) (mCons (mVar 2) (mNil))) f_is_like))) (sNext)))
/-- come_by(step, value) -/
def N_come_by : List Str := ["step", "value", "things", "word", "fields", "parts", "number", "thing"]
def b_come_by (f_fields_of f_fits f_is_row f_is_tree : List PV → GH → Res PV) : EV.Env → GH → Res Fl := sSeq (sAsg (mVar 0) (gStarE 1 (gConsE (gN 3) (gConsE (gN 5) gNilE)))) (sSeq (sIf (mB (m2 (mVar 3) (mCst (.str "field")) (Cop.f .eq))) (sSeq (sAsg (mIf (mT (mA (mCons (mVar 1) (mNil)) f_is_tree)) (mA (mCons (mVar 1) (mNil)) f_fields_of) (mDNew)) (gN 4)) (sSeq (sRet (mIf (mB (m2 (m2 (mVar 5) (mCst (.int 0)) opIx) (mVar 4) (opInA false))) (mA (mCons (mA (mCons (m2 (mVar 5) (mCst (.int 0)) opIx) (mCons (m2 (mVar 4) (m2 (mVar 5) (mCst (.int 0)) opIx) opIxA) (mNil))) mkTup) (mNil)) mkLst) (mA (mNil) mkLst))) (sNext))) (sNext)) (sSeq (sIf (mtNot (mT (mA (mCons (mVar 1) (mNil)) f_is_row))) (sSeq (sRet (mA (mNil) mkLst)) (sNext)) (sNext)) (sSeq (sAsg (mA (mCons (m2 (mVar 1) (mCst (.int 1)) opIx) mNil) (bLenum false)) (gN 2)) (sSeq (sIf (mB (m2 (mVar 3) (mCst (.str "at")) (Cop.f .eq))) (sSeq (sRet (mSl (mVar 2) (mPart (m2 (mVar 5) (mCst (.int 0)) opIx)) (mPart (m2 (m2 (mVar 5) (mCst (.int 0)) opIx) (mCst (.int 1)) opAdd)) opSl)) (sNext)) (sNext)) (sSeq (sIf (mB (m2 (mVar 3) (mCst (.str "where")) (Cop.f .eq))) (sSeq (sRet (mComp false (mSeq (mVar 2)) (gTupE 2 (gConsE (gN 6) (gConsE (gN 7) (gNilE)))) (mT (mA (mCons (mVar 7) (mCons (m2 (mVar 5) (mCst (.int 0)) opIx) (mCons (m2 (mVar 5) (mCst (.int 1)) opIx) (mNil)))) f_fits)) (mA (mCons (mVar 6) (mCons (mVar 7) (mNil))) mkTup) [6, 7])) (sNext)) (sNext)) (sSeq (sRet (mVar 2)) (sNext)))))))
/-- found_in(value, path) -/
def N_found_in : List Str := ["value", "path", "found", "step", "place", "own", "marker", "thing"]
def b_found_in (f_come_by : List PV → GH → Res PV) : EV.Env → GH → Res Fl := sSeq (sAsg (mA (mCons (mA (mCons (mA (mNil) mkTup) (mCons (mVar 0) (mNil))) mkTup) (mNil)) mkLst) (gN 2)) (sSeq (sFor (mSeq (mVar 1)) (gN 3) (sSeq (sAsg (mComp2 false (mSeq (mVar 2)) (gTupE 2 (gConsE (gN 4) (gConsE (gN 5) (gNilE)))) (mYes) (mSeq (mA (mCons (mVar 3) (mCons (mVar 5) (mNil))) f_come_by)) (gTupE 2 (gConsE (gN 6) (gConsE (gN 7) (gNilE)))) (mYes) (mA (mCons (m2 (mVar 4) (mA (mCons (mVar 6) (mNil)) mkTup) opAdd) (mCons (mVar 7) (mNil))) mkTup) [4, 5, 6, 7] [6, 7]) (gN 2)) (sNext))) (sSeq (sRet (mA (mCons (mVar 2) (mNil)) bTup)) (sNext)))
/-- value_at(value, place) -/
def N_value_at : List Str := ["value", "place", "marker", "step", "come"]
def b_value_at (f_come_by : List PV → GH → Res PV) : EV.Env → GH → Res Fl := sSeq (sFor (mSeq (mVar 1)) (gN 2) (sSeq (sAsg (mIf (mT (m1 (mVar 2) (bIsi "str"))) (mA (mCons (mCst (.str "field")) (mCons (mVar 2) (mNil))) mkTup) (mA (mCons (mCst (.str "at")) (mCons (mVar 2) (mNil))) mkTup)) (gN 3)) (sSeq (sAsg (mA (mCons (mVar 3) (mCons (mVar 0) (mNil))) f_come_by) (gN 4)) (sSeq (sIf (mB (m2 (mA (mCons (mVar 4) (mNil)) bLen) (mCst (.int 0)) (Cop.f .eq))) (sSeq (sRet (mCst .non)) (sNext)) (sNext)) (sSeq (sAsg (m2 (m2 (mVar 4) (mCst (.int 0)) opIx) (mCst (.int 1)) opIx) (gN 0)) (sNext)))))) (sSeq (sRet (mVar 0)) (sNext))
/-- _law_is_a(_law_value_here, _law_kind) -/
def N__law_is_a : List Str := ["_law_value_here", "_law_kind"]
def b__law_is_a : EV.Env → GH → Res Fl := sSeq (sRet (mAnd (m1 (mVar 0) (bIsi "tuple")) (m2 (m2 (mVar 0) (mCst (.int 0)) opIx) (mVar 1) (Cop.f .eq)))) (sNext)
/-- _law_step(_law_feed_here) -/
def N__law_step : List Str := ["_law_feed_here", "_law_pool", "_law_way", "_law_word"]
def b__law_step (f__law_draw f__law_plain : List PV → GH → Res PV) : EV.Env → GH → Res Fl := sSeq (sAsg (mA (mCons (mCst (.str "a")) (mCons (mCst (.str "b")) (mCons (mCst (.str "k")) (mCons (mCst (.str "kk")) (mCons (mCst (.str "x")) (mCons (mCst (.str "yes")) (mCons (mCst (.str "q")) (mNil)))))))) mkLst) (gN 1)) (sSeq (sAsg (mA (mCons (mVar 0) (mCons (mCst (.int 4)) (mNil))) f__law_draw) (gN 2)) (sSeq (sIf (mB (m2 (mVar 2) (mCst (.int 0)) (Cop.f .eq))) (sSeq (sRet (mA (mCons (mCst (.str "each")) (mNil)) mkTup)) (sNext)) (sNext)) (sSeq (sIf (mB (m2 (mVar 2) (mCst (.int 1)) (Cop.f .eq))) (sSeq (sRet (mA (mCons (mCst (.str "at")) (mCons (mA (mCons (mVar 0) (mCons (mCst (.int 4)) (mNil))) f__law_draw) (mNil))) mkTup)) (sNext)) (sNext)) (sSeq (sAsg (m2 (mVar 1) (mA (mCons (mVar 0) (mCons (mCst (.int 7)) (mNil))) f__law_draw) opIx) (gN 3)) (sSeq (sRet (mIf (mB (m2 (mVar 2) (mCst (.int 2)) (Cop.f .eq))) (mA (mCons (mCst (.str "field")) (mCons (mVar 3) (mNil))) mkTup) (mA (mCons (mCst (.str "where")) (mCons (mVar 3) (mCons (mA (mCons (mVar 0) (mNil)) f__law_plain) (mNil)))) mkTup))) (sNext))))))
/-- _law_path(_law_feed_here, _law_here, _law_most) -/
def N__law_path : List Str := ["_law_feed_here", "_law_here", "_law_most", "_law_steps", "_law_k", "_law_fields", "_law_at_here", "_law_inner", "_law_way", "_law_word", "_law_pair"]
def b__law_path (f__law_draw f__law_is_a f__law_step : List PV → GH → Res PV) : EV.Env → GH → Res Fl := sSeq (sAsg (mA (mNil) mkObj) (gN 3)) (sSeq (sFor (mRng (mCons (m2 (mCst (.int 1)) (mA (mCons (mVar 0) (mCons (mVar 2) (mNil))) f__law_draw) opAdd) (mNil))) (gN 4) (sSeq (sAsg (mIf (mT (m1 (mVar 1) (bIsi "tuple"))) (m2 (mVar 1) (mCst (.int 1)) opIx) (mA (mNil) mkTup)) (gN 5)) (sSeq (sIf (mtOr (mB (m2 (mVar 5) (mA (mNil) mkTup) (Cop.f .eq))) (mB (m2 (mA (mCons (mVar 0) (mCons (mCst (.int 8)) (mNil))) f__law_draw) (mCst (.int 0)) (Cop.f .eq)))) (sSeq (sDrop (mMet "list" (mVar 3) (mCons (mA (mCons (mVar 0) (mNil)) f__law_step) (mNil)) fAppend)) (sNext)) (sSeq (sIf (mB (m2 (m2 (mVar 1) (mCst (.int 0)) opIx) (mCst (.str "tree")) (Cop.f .eq))) (sSeq (sAsg (m2 (mVar 5) (mA (mCons (mVar 0) (mCons (mA (mCons (mVar 5) (mNil)) bLen) (mNil))) f__law_draw) opIx) (gTupE 2 (gConsE (gN 9) (gConsE (gN 1) (gNilE))))) (sSeq (sDrop (mMet "list" (mVar 3) (mCons (mA (mCons (mCst (.str "field")) (mCons (mVar 9) (mNil))) mkTup) (mNil)) fAppend)) (sNext))) (sSeq (sAsg (mA (mCons (mVar 0) (mCons (mA (mCons (mVar 5) (mNil)) bLen) (mNil))) f__law_draw) (gN 6)) (sSeq (sAsg (m2 (mVar 5) (mVar 6) opIx) (gN 1)) (sSeq (sAsg (mIf (mT (mA (mCons (mVar 1) (mCons (mCst (.str "tree")) (mNil))) f__law_is_a)) (m2 (mVar 1) (mCst (.int 1)) opIx) (mA (mNil) mkTup)) (gN 7)) (sSeq (sAsg (mComp false (mSeq (mVar 7)) (gN 10) (mtNot (mT (m1 (m2 (mVar 10) (mCst (.int 1)) opIx) (bIsi "tuple")))) (mVar 10) [10]) (gN 7)) (sSeq (sAsg (mA (mCons (mVar 0) (mCons (mCst (.int 3)) (mNil))) f__law_draw) (gN 8)) (sSeq (sIf (mtAnd (mB (m2 (mVar 8) (mCst (.int 2)) (Cop.f .eq))) (mB (m2 (mVar 7) (mA (mNil) mkLst) (Cop.f .ne)))) (sSeq (sDrop (mMet "list" (mVar 3) (mCons (m2 (mA (mCons (mCst (.str "where")) (mNil)) mkTup) (m2 (mVar 7) (mA (mCons (mVar 0) (mCons (mA (mCons (mVar 7) (mNil)) bLen) (mNil))) f__law_draw) opIx) opAdd) (mNil)) fAppend)) (sNext)) (sSeq (sDrop (mMet "list" (mVar 3) (mCons (mIf (mB (m2 (mVar 8) (mCst (.int 0)) (Cop.f .eq))) (mA (mCons (mCst (.str "at")) (mCons (mVar 6) (mNil))) mkTup) (mA (mCons (mCst (.str "each")) (mNil)) mkTup)) (mNil)) fAppend)) (sNext))) (sNext)))))))) (sNext))) (sNext)))) (sSeq (sRet (mA (mCons (mVar 3) (mNil)) bTup)) (sNext)))
/-- _law_come(_law_value_here, _law_step_here) -/
def N__law_come : List Str := ["_law_value_here", "_law_step_here", "_law_things", "_law_wanted", "_law_pair", "_law_one"]
def b__law_come (f__law_is_a : List PV → GH → Res PV) : EV.Env → GH → Res Fl := sSeq (sIf (mB (m2 (m2 (mVar 1) (mCst (.int 0)) opIx) (mCst (.str "field")) (Cop.f .eq))) (sSeq (sRet (mIf (mT (mA (mCons (mVar 0) (mCons (mCst (.str "tree")) (mNil))) f__law_is_a)) (mComp false (mSeq (m2 (mVar 0) (mCst (.int 1)) opIx)) (gN 4) (mB (m2 (m2 (mVar 4) (mCst (.int 0)) opIx) (m2 (mVar 1) (mCst (.int 1)) opIx) (Cop.f .eq))) (mVar 4) [4]) (mA (mNil) mkLst))) (sNext)) (sNext)) (sSeq (sIf (mtNot (mT (mA (mCons (mVar 0) (mCons (mCst (.str "row")) (mNil))) f__law_is_a))) (sSeq (sRet (mA (mNil) mkLst)) (sNext)) (sNext)) (sSeq (sAsg (mA (mCons (m2 (mVar 0) (mCst (.int 1)) opIx) mNil) (bLenum false)) (gN 2)) (sSeq (sIf (mB (m2 (m2 (mVar 1) (mCst (.int 0)) opIx) (mCst (.str "at")) (Cop.f .eq))) (sSeq (sRet (mSl (mVar 2) (mPart (m2 (mVar 1) (mCst (.int 1)) opIx)) (mPart (m2 (m2 (mVar 1) (mCst (.int 1)) opIx) (mCst (.int 1)) opAdd)) opSl)) (sNext)) (sNext)) (sSeq (sIf (mB (m2 (m2 (mVar 1) (mCst (.int 0)) opIx) (mCst (.str "each")) (Cop.f .eq))) (sSeq (sRet (mVar 2)) (sNext)) (sNext)) (sSeq (sAsg (mA (mCons (mA (mCons (m2 (mVar 1) (mCst (.int 1)) opIx) (mCons (m2 (mVar 1) (mCst (.int 2)) opIx) (mNil))) mkTup) (mNil)) bRepr) (gN 3)) (sSeq (sRet (mComp false (mSeq (mVar 2)) (gN 4) (mtAnd (mT (mA (mCons (m2 (mVar 4) (mCst (.int 1)) opIx) (mCons (mCst (.str "tree")) (mNil))) f__law_is_a)) (mB (m2 (mVar 3) (mComp false (mSeq (m2 (m2 (mVar 4) (mCst (.int 1)) opIx) (mCst (.int 1)) opIx)) (gN 5) (mYes) (mA (mCons (mVar 5) (mNil)) bRepr) [5]) (Cop.f .in_)))) (mVar 4) [4])) (sNext)))))))
/-- _law_found(_law_value_here, _law_path_here) -/
def N__law_found : List Str := ["_law_value_here", "_law_path_here", "_law_here", "_law_step_here", "_law_more", "_law_place", "_law_one", "_law_marker", "_law_other"]
def b__law_found (f__law_come : List PV → GH → Res PV) : EV.Env → GH → Res Fl := sSeq (sAsg (mA (mCons (mA (mCons (mA (mNil) mkTup) (mCons (mVar 0) (mNil))) mkTup) (mNil)) mkLst) (gN 2)) (sSeq (sFor (mSeq (mVar 1)) (gN 3) (sSeq (sAsg (mA (mNil) mkObj) (gN 4)) (sSeq (sFor (mSeq (mVar 2)) (gTupE 2 (gConsE (gN 5) (gConsE (gN 6) (gNilE)))) (sSeq (sDrop (mMet "list" (mVar 4) (mCons (mComp false (mSeq (mA (mCons (mVar 6) (mCons (mVar 3) (mNil))) f__law_come)) (gTupE 2 (gConsE (gN 7) (gConsE (gN 8) (gNilE)))) (mYes) (mA (mCons (m2 (mVar 5) (mA (mCons (mVar 7) (mNil)) mkTup) opAdd) (mCons (mVar 8) (mNil))) mkTup) [7, 8]) (mNil)) fExtend)) (sNext))) (sSeq (sAsg (mVar 4) (gN 2)) (sNext))))) (sSeq (sRet (mVar 2)) (sNext)))
/-- _law_at(_law_value_here, _law_place) -/
def N__law_at : List Str := ["_law_value_here", "_law_place", "_law_here", "_law_marker", "_law_step_here", "_law_pair"]
def b__law_at (f__law_come : List PV → GH → Res PV) : EV.Env → GH → Res Fl := sSeq (sAsg (mA (mCons (mVar 0) (mNil)) mkLst) (gN 2)) (sSeq (sFor (mSeq (mVar 1)) (gN 3) (sSeq (sAsg (mIf (mT (m1 (mVar 3) (bIsi "str"))) (mA (mCons (mCst (.str "field")) (mCons (mVar 3) (mNil))) mkTup) (mA (mCons (mCst (.str "at")) (mCons (mVar 3) (mNil))) mkTup)) (gN 4)) (sSeq (sAsg (mComp false (mSeq (mA (mCons (m2 (mVar 2) (mCst (.int 0)) opIx) (mCons (mVar 4) (mNil))) f__law_come)) (gN 5) (mYes) (m2 (mVar 5) (mCst (.int 1)) opIx) [5]) (gN 2)) (sSeq (sIf (mB (m2 (mVar 2) (mA (mNil) mkLst) (Cop.f .eq))) (sSeq (sRet (mA (mNil) mkLst)) (sNext)) (sNext)) (sNext))))) (sSeq (sRet (mVar 2)) (sNext)))
/-- _law_places(_law_feed_here, _law_place) -/
def N__law_places : List Str := ["_law_feed_here", "_law_place", "_law_found_here", "_law_at_here", "_law_marker"]
def b__law_places (f__law_draw : List PV → GH → Res PV) : EV.Env → GH → Res Fl := sSeq (sAsg (mA (mCons (mVar 1) (mCons (mSl (mVar 1) (mPart (mCst (.int 1))) (mNoPart) opSl) (mCons (mSl (mVar 1) (mNoPart) (mPart (m1 (mCst (.int 1)) opNeg)) opSl) (mCons (m2 (mVar 1) (mA (mCons (mCst (.int 0)) (mNil)) mkTup) opAdd) (mCons (m2 (mVar 1) (mA (mCons (mCst (.str "a")) (mNil)) mkTup) opAdd) (mCons (m2 (mVar 1) (mCst (.int 2)) opMul) (mCons (mA (mNil) mkTup) (mCons (mA (mCons (mCst (.int 0)) (mNil)) mkTup) (mCons (mA (mCons (mCst (.str "q")) (mNil)) mkTup) (mCons (mA (mCons (mCst (.str "a")) (mCons (mCst (.int 0)) (mNil))) mkTup) (mNil))))))))))) mkObj) (gN 2)) (sSeq (sIf (mB (m2 (mVar 1) (mA (mNil) mkTup) (Cop.f .ne))) (sSeq (sAsg (mA (mCons (mVar 0) (mCons (mA (mCons (mVar 1) (mNil)) bLen) (mNil))) f__law_draw) (gN 3)) (sSeq (sFor (mSeq (mA (mCons (mCst (.int 0)) (mCons (mCst (.int 1)) (mCons (mCst (.int 5)) (mCons (mCst (.str "a")) (mCons (mCst (.str "k")) (mCons (m2 (mCst (.int 10)) (mCst (.int 30)) opPow) (mNil))))))) mkTup)) (gN 4) (sSeq (sDrop (mMet "list" (mVar 2) (mCons (m2 (m2 (mSl (mVar 1) (mNoPart) (mPart (mVar 3)) opSl) (mA (mCons (mVar 4) (mNil)) mkTup) opAdd) (mSl (mVar 1) (mPart (m2 (mVar 3) (mCst (.int 1)) opAdd)) (mNoPart) opSl) opAdd) (mNil)) fAppend)) (sNext))) (sNext))) (sNext)) (sSeq (sRet (mVar 2)) (sNext)))
/-- is_number(thing) -/
def N_is_number : List Str := ["thing"]
def b_is_number : EV.Env → GH → Res Fl := sSeq (sRet (mAnd (m1 (mVar 0) (bIsi "int")) (mNot (m1 (mVar 0) (bIsi "bool"))))) (sNext)
/-- is_text(thing) -/
def N_is_text : List Str := ["thing", "sign"]
def b_is_text : EV.Env → GH → Res Fl := sSeq (sIf (mtOr (mtNot (mT (m1 (mVar 0) (bIsi "str")))) (mB (m2 (mA (mCons (mVar 0) (mNil)) bLen) (mCst (.int 16)) (Cop.f .gt)))) (sSeq (sRet (mCst (.bl false))) (sNext)) (sNext)) (sSeq (sRet (mA (mCons (mComp false (mSeq (mVar 0)) (gN 1) (mYes) (mOr (m2 (mVar 1) (mCst (.str "abcdefghijklmnopqrstuvwxyz")) (Cop.f .in_)) (m2 (mVar 1) (mCst (.str "0123456789")) (Cop.f .in_))) [1]) (mNil)) bAll)) (sNext))
/-- is_plain(thing) -/
def N_is_plain : List Str := ["thing"]
def b_is_plain (f_is_number f_is_text : List PV → GH → Res PV) : EV.Env → GH → Res Fl := sSeq (sRet (mOr (m1 (mVar 0) (bIsi "bool")) (mOr (mA (mCons (mVar 0) (mNil)) f_is_number) (mA (mCons (mVar 0) (mNil)) f_is_text)))) (sNext)
/-- is_beside(word, value, plain) -/
def N_is_beside : List Str := ["word", "value", "plain", "one", "other"]
def b_is_beside (f_is_plain f_key_of : List PV → GH → Res PV) : EV.Env → GH → Res Fl := sSeq (sIf (mtNot (mT (mA (mCons (mVar 1) (mNil)) f_is_plain))) (sSeq (sRet (mCst (.bl false))) (sNext)) (sNext)) (sSeq (sPar 3 4 (mCons (mA (mCons (mVar 1) (mNil)) f_key_of) (mCons (mA (mCons (mVar 2) (mNil)) f_key_of) (mNil)))) (sSeq (sIf (mB (m2 (m2 (mVar 3) (mCst (.int 0)) opIx) (m2 (mVar 4) (mCst (.int 0)) opIx) (Cop.f .ne))) (sSeq (sRet (mCst (.bl false))) (sNext)) (sNext)) (sSeq (sRet (mIf (mB (m2 (mVar 0) (mCst (.str "below")) (Cop.f .eq))) (m2 (mVar 3) (mVar 4) (Cop.f .lt)) (m2 (mVar 4) (mVar 3) (Cop.f .lt)))) (sNext))))
/-- meets(document, test) -/
def N_meets : List Str := ["document", "test", "values", "word", "parts", "place", "value", "one"]
def b_meets (f_found_in f_is_beside f_is_like f_meets : List PV → GH → Res PV) : EV.Env → GH → Res Fl := sSeq (sAsg (mVar 1) (gStarE 1 (gConsE (gN 3) (gConsE (gN 4) gNilE)))) (sSeq (sIf (mB (m2 (mVar 3) (mCst (.str "not")) (Cop.f .eq))) (sSeq (sRet (mNot (mA (mCons (mVar 0) (mCons (m2 (mVar 4) (mCst (.int 0)) opIx) (mNil))) f_meets))) (sNext)) (sNext)) (sSeq (sIf (mB (m2 (mVar 3) (mCst (.str "and")) (Cop.f .eq))) (sSeq (sRet (mA (mCons (mComp false (mSeq (m2 (mVar 4) (mCst (.int 0)) opIx)) (gN 7) (mYes) (mA (mCons (mVar 0) (mCons (mVar 7) (mNil))) f_meets) [7]) (mNil)) bAll)) (sNext)) (sNext)) (sSeq (sIf (mB (m2 (mVar 3) (mCst (.str "or")) (Cop.f .eq))) (sSeq (sRet (mA (mCons (mComp false (mSeq (m2 (mVar 4) (mCst (.int 0)) opIx)) (gN 7) (mYes) (mA (mCons (mVar 0) (mCons (mVar 7) (mNil))) f_meets) [7]) (mNil)) bAny)) (sNext)) (sNext)) (sSeq (sAsg (mComp false (mSeq (mA (mCons (mVar 0) (mCons (m2 (mVar 4) (mCst (.int 0)) opIx) (mNil))) f_found_in)) (gTupE 2 (gConsE (gN 5) (gConsE (gN 6) (gNilE)))) (mYes) (mVar 6) [5, 6]) (gN 2)) (sSeq (sIf (mB (m2 (mVar 3) (mCst (.str "there")) (Cop.f .eq))) (sSeq (sRet (m2 (mA (mCons (mVar 2) (mNil)) bLen) (mCst (.int 0)) (Cop.f .gt))) (sNext)) (sNext)) (sSeq (sIf (mB (m2 (mVar 3) (mCst (.str "like")) (Cop.f .eq))) (sSeq (sRet (mA (mCons (mComp false (mSeq (mVar 2)) (gN 6) (mYes) (mA (mCons (mVar 6) (mCons (m2 (mVar 4) (mCst (.int 1)) opIx) (mNil))) f_is_like) [6]) (mNil)) bAny)) (sNext)) (sNext)) (sSeq (sRet (mA (mCons (mComp false (mSeq (mVar 2)) (gN 6) (mYes) (mA (mCons (mVar 3) (mCons (mVar 6) (mCons (m2 (mVar 4) (mCst (.int 1)) opIx) (mNil)))) f_is_beside) [6]) (mNil)) bAny)) (sNext))))))))
/-- _law_leaf(_law_feed_here, _law_document_here) -/
def N__law_leaf : List Str := ["_law_feed_here", "_law_document_here", "_law_path_here", "_law_own", "_law_plain_here", "_law_way", "_law_there"]
def b__law_leaf (f__law_draw f__law_found f__law_path f__law_plain : List PV → GH → Res PV) : EV.Env → GH → Res Fl := sSeq (sAsg (mA (mCons (mVar 0) (mCons (mVar 1) (mCons (mCst (.int 5)) (mNil)))) f__law_path) (gN 2)) (sSeq (sPar 5 6 (mCons (mA (mCons (mVar 0) (mCons (mCst (.int 4)) (mNil))) f__law_draw) (mCons (mA (mCons (mVar 1) (mCons (mVar 2) (mNil))) f__law_found) (mNil)))) (sSeq (sIf (mB (m2 (mVar 5) (mCst (.int 0)) (Cop.f .eq))) (sSeq (sRet (mA (mCons (mCst (.str "there")) (mCons (mVar 2) (mNil))) mkTup)) (sNext)) (sNext)) (sSeq (sAsg (mIf (mtAnd (mB (m2 (mVar 6) (mA (mNil) mkLst) (Cop.f .ne))) (mB (m2 (mA (mCons (mVar 0) (mCons (mCst (.int 3)) (mNil))) f__law_draw) (mCst (.int 0)) (Cop.f .gt)))) (m2 (m2 (mVar 6) (mA (mCons (mVar 0) (mCons (mA (mCons (mVar 6) (mNil)) bLen) (mNil))) f__law_draw) opIx) (mCst (.int 1)) opIx) (mA (mCons (mVar 0) (mNil)) f__law_plain)) (gN 3)) (sSeq (sIf (mB (m2 (mVar 5) (mCst (.int 1)) (Cop.f .eq))) (sSeq (sRet (mA (mCons (mCst (.str "like")) (mCons (mVar 2) (mCons (mVar 3) (mNil)))) mkTup)) (sNext)) (sNext)) (sSeq (sAsg (mIf (mtOr (mT (m1 (mVar 3) (bIsi "tuple"))) (mB (m2 (mA (mCons (mVar 0) (mCons (mCst (.int 2)) (mNil))) f__law_draw) (mCst (.int 0)) (Cop.f .eq)))) (mA (mCons (mVar 0) (mNil)) f__law_plain) (mVar 3)) (gN 4)) (sSeq (sIf (mtAnd (mT (m1 (mVar 3) (bIsi "int"))) (mtAnd (mtNot (mT (m1 (mVar 3) (bIsi "bool")))) (mB (m2 (mA (mCons (mVar 0) (mCons (mCst (.int 2)) (mNil))) f__law_draw) (mCst (.int 0)) (Cop.f .eq))))) (sSeq (sAsg (m2 (mVar 3) (m2 (mA (mCons (mCst (.int 1)) (mCons (m1 (mCst (.int 1)) opNeg) (mNil))) mkLst) (mA (mCons (mVar 0) (mCons (mCst (.int 2)) (mNil))) f__law_draw) opIx) opAdd) (gN 4)) (sNext)) (sNext)) (sSeq (sRet (mA (mCons (m2 (mA (mCons (mCst (.str "below")) (mCons (mCst (.str "above")) (mNil))) mkLst) (m2 (mVar 5) (mCst (.int 2)) opSub) opIx) (mCons (mVar 2) (mCons (mVar 4) (mNil)))) mkTup)) (sNext))))))))
/-- _law_test(_law_feed_here, _law_document_here, _law_left) -/
def N__law_test : List Str := ["_law_feed_here", "_law_document_here", "_law_left", "_law_way", "_law_some", "_law_k"]
def b__law_test (f__law_draw f__law_leaf f__law_test : List PV → GH → Res PV) : EV.Env → GH → Res Fl := sSeq (sSet (m2 (m2 (mVar 2) (mCst (.int 0)) opIx) (mCst (.int 1)) opSub) (mVar 2) (mCst (.int 0)) fSetL) (sSeq (sAsg (mA (mCons (mVar 0) (mCons (mCst (.int 6)) (mNil))) f__law_draw) (gN 3)) (sSeq (sIf (mtOr (mB (m2 (mVar 3) (mCst (.int 3)) (Cop.f .lt))) (mB (m2 (m2 (mVar 2) (mCst (.int 0)) opIx) (mCst (.int 1)) (Cop.f .lt)))) (sSeq (sRet (mA (mCons (mVar 0) (mCons (mVar 1) (mNil))) f__law_leaf)) (sNext)) (sNext)) (sSeq (sIf (mB (m2 (mVar 3) (mCst (.int 3)) (Cop.f .eq))) (sSeq (sRet (mA (mCons (mCst (.str "not")) (mCons (mA (mCons (mVar 0) (mCons (mVar 1) (mCons (mVar 2) (mNil)))) f__law_test) (mNil))) mkTup)) (sNext)) (sNext)) (sSeq (sAsg (mComp false (mRng (mCons (mA (mCons (mVar 0) (mCons (mA (mCons (mCst (.int 4)) (mCons (m2 (m2 (mVar 2) (mCst (.int 0)) opIx) (mCst (.int 1)) opAdd) (mNil))) bMin) (mNil))) f__law_draw) (mNil))) (gN 5) (mB (m2 (m2 (mVar 2) (mCst (.int 0)) opIx) (mCst (.int 0)) (Cop.f .gt))) (mA (mCons (mVar 0) (mCons (mVar 1) (mCons (mVar 2) (mNil)))) f__law_test) [5]) (gN 4)) (sSeq (sRet (mA (mCons (m2 (mA (mCons (mCst (.str "and")) (mCons (mCst (.str "or")) (mNil))) mkLst) (m2 (mVar 3) (mCst (.int 4)) opSub) opIx) (mCons (mA (mCons (mVar 4) (mNil)) bTup) (mNil))) mkTup)) (sNext))))))
/-- _law_rank(_law_plain_here) -/
def N__law_rank : List Str := ["_law_plain_here"]
def b__law_rank : EV.Env → GH → Res Fl := sSeq (sIf (mT (m1 (mVar 0) (bIsi "str"))) (sSeq (sRet (mA (mCons (mCst (.int 2)) (mCons (mVar 0) (mNil))) mkTup)) (sNext)) (sNext)) (sSeq (sRet (mIf (mT (m1 (mVar 0) (bIsi "bool"))) (mA (mCons (mCst (.int 0)) (mCons (mVar 0) (mNil))) mkTup) (mA (mCons (mCst (.int 1)) (mCons (mVar 0) (mNil))) mkTup))) (sNext))
/-- _law_is_met(_law_document_here, _law_test_here) -/
def N__law_is_met : List Str := ["_law_document_here", "_law_test_here", "_law_every", "_law_rank_here", "_law_own", "_law_some", "_law_value_here", "_law_one", "_law_place"]
def b__law_is_met (f__law_found f__law_is_met f__law_rank : List PV → GH → Res PV) : EV.Env → GH → Res Fl := sSeq (sIf (mB (m2 (m2 (mVar 1) (mCst (.int 0)) opIx) (mA (mCons (mCst (.str "and")) (mCons (mCst (.str "or")) (mNil))) mkTup) (Cop.f .in_))) (sSeq (sAsg (mComp false (mSeq (m2 (mVar 1) (mCst (.int 1)) opIx)) (gN 7) (mYes) (mA (mCons (mVar 0) (mCons (mVar 7) (mNil))) f__law_is_met) [7]) (gN 5)) (sSeq (sRet (mIf (mB (m2 (m2 (mVar 1) (mCst (.int 0)) opIx) (mCst (.str "and")) (Cop.f .eq))) (m2 (mCst (.bl false)) (mVar 5) (Cop.f .notin)) (m2 (mCst (.bl true)) (mVar 5) (Cop.f .in_)))) (sNext))) (sNext)) (sSeq (sIf (mB (m2 (m2 (mVar 1) (mCst (.int 0)) opIx) (mCst (.str "not")) (Cop.f .eq))) (sSeq (sRet (mNot (mA (mCons (mVar 0) (mCons (m2 (mVar 1) (mCst (.int 1)) opIx) (mNil))) f__law_is_met))) (sNext)) (sNext)) (sSeq (sAsg (mComp false (mSeq (mA (mCons (mVar 0) (mCons (m2 (mVar 1) (mCst (.int 1)) opIx) (mNil))) f__law_found)) (gTupE 2 (gConsE (gN 8) (gConsE (gN 6) (gNilE)))) (mYes) (mVar 6) [8, 6]) (gN 2)) (sSeq (sIf (mB (m2 (m2 (mVar 1) (mCst (.int 0)) opIx) (mCst (.str "there")) (Cop.f .eq))) (sSeq (sRet (m2 (mVar 2) (mA (mNil) mkLst) (Cop.f .ne))) (sNext)) (sNext)) (sSeq (sIf (mB (m2 (m2 (mVar 1) (mCst (.int 0)) opIx) (mCst (.str "like")) (Cop.f .eq))) (sSeq (sRet (m2 (mA (mCons (m2 (mVar 1) (mCst (.int 2)) opIx) (mNil)) bRepr) (mComp false (mSeq (mVar 2)) (gN 6) (mYes) (mA (mCons (mVar 6) (mNil)) bRepr) [6]) (Cop.f .in_))) (sNext)) (sNext)) (sSeq (sAsg (mA (mCons (m2 (mVar 1) (mCst (.int 2)) opIx) (mNil)) f__law_rank) (gN 3)) (sSeq (sAsg (mComp false (mSeq (mVar 2)) (gN 6) (mtNot (mT (m1 (mVar 6) (bIsi "tuple")))) (mA (mCons (mVar 6) (mNil)) f__law_rank) [6]) (gN 4)) (sSeq (sAsg (mComp false (mSeq (mVar 4)) (gN 7) (mB (m2 (m2 (mVar 7) (mCst (.int 0)) opIx) (m2 (mVar 3) (mCst (.int 0)) opIx) (Cop.f .eq))) (mVar 7) [7]) (gN 4)) (sSeq (sRet (m2 (mComp false (mSeq (mVar 4)) (gN 7) (mtIf (mB (m2 (m2 (mVar 1) (mCst (.int 0)) opIx) (mCst (.str "below")) (Cop.f .eq))) (mB (m2 (mVar 7) (mVar 3) (Cop.f .lt))) (mB (m2 (mVar 7) (mVar 3) (Cop.f .gt)))) (mVar 7) [7]) (mA (mNil) mkLst) (Cop.f .ne))) (sNext)))))))))
end GN
end
section
/-! M0: how the evaluator runs on data: what the simplifier needs, and the small defs that all laws share. -/
set_option Elab.async false
set_option linter.all false
set_option maxRecDepth 100000
namespace EV
open PySem PySem.Spec PyProof.Rows L2

/-! ### data: no changing object within -/
mutual
def datB : PV → Bool
  | .obj _ => false
  | .tup ps => datBs ps
  | .lst ps => datBs ps
  | .sls ps => datBs ps
  | _ => true
def datBs : List PV → Bool
  | [] => true
  | p :: ps => datB p && datBs ps
end
theorem datBs_all : ∀ ps : List PV, datBs ps = ps.all datB
  | [] => rfl
  | p :: ps => by rw [datBs, List.all_cons, datBs_all ps]
theorem datBs_mem {ps : List PV} (h : datBs ps = true) : ∀ p ∈ ps, datB p = true := by
  rw [datBs_all, List.all_eq_true] at h; exact h
theorem datBs_of {ps : List PV} (h : ∀ p ∈ ps, datB p = true) : datBs ps = true := by
  rw [datBs_all, List.all_eq_true]; exact h
mutual
theorem refs_of_dat (n : Nat) : ∀ {p : PV}, datB p = true → PV.refsB n p = true
  | .obj _, h => by simp [datB] at h
  | .tup ps, h => by simp only [PV.refsB]; exact refss_of_dat n (by simpa only [datB] using h)
  | .lst ps, h => by simp only [PV.refsB]; exact refss_of_dat n (by simpa only [datB] using h)
  | .sls ps, h => by simp only [PV.refsB]; exact refss_of_dat n (by simpa only [datB] using h)
  | .non, _ => by simp only [PV.refsB]
  | .bl _, _ => by simp only [PV.refsB]
  | .int _, _ => by simp only [PV.refsB]
  | .str _, _ => by simp only [PV.refsB]
theorem refss_of_dat (n : Nat) : ∀ {ps : List PV}, datBs ps = true → PV.refsBs n ps = true
  | [], _ => by simp only [PV.refsBs]
  | p :: ps, h => by
    simp only [datBs, Bool.and_eq_true] at h
    simp only [PV.refsBs, Bool.and_eq_true]
    exact ⟨refs_of_dat n h.1, refss_of_dat n h.2⟩
end
mutual
def dOf : PV → PyData
  | .bl b => .bool b
  | .int i => .int i
  | .str x => .str x
  | .tup ps => .tuple (dOfs ps)
  | .lst ps => .list (dOfs ps)
  | .sls ps => .list (dOfs ps)
  | _ => .none
def dOfs : List PV → List PyData
  | [] => []
  | p :: ps => dOf p :: dOfs ps
end
mutual
theorem toD_dat : ∀ {p : PV}, datB p = true → toD p = some (dOf p)
  | .obj _, h => by simp [datB] at h
  | .tup ps, h => by simp only [toD, dOf, toDs_dat (ps := ps) (by simpa only [datB] using h)]; rfl
  | .lst ps, h => by simp only [toD, dOf, toDs_dat (ps := ps) (by simpa only [datB] using h)]; rfl
  | .sls ps, h => by simp only [toD, dOf, toDs_dat (ps := ps) (by simpa only [datB] using h)]; rfl
  | .non, _ => by simp only [toD, dOf]
  | .bl _, _ => by simp only [toD, dOf]
  | .int _, _ => by simp only [toD, dOf]
  | .str _, _ => by simp only [toD, dOf]
theorem toDs_dat : ∀ {ps : List PV}, datBs ps = true → toDs ps = some (dOfs ps)
  | [], _ => by simp only [toDs, dOfs]
  | p :: ps, h => by
    simp only [datBs, Bool.and_eq_true] at h
    simp only [toDs, dOfs, toD_dat h.1, toDs_dat h.2]
end
theorem toDG_dat {p : PV} (G : GH) (h : datB p = true) : toDG G p = some (dOf p) := by
  cases p with
  | obj n => simp [datB] at h
  | _ => simp only [toDG]; exact toD_dat h
/-! ### small data: what repr and == can take -/
mutual
def fitB : PV → Bool
  | .obj _ => false
  | .int i => decide (i.natAbs < 1000000000000)
  | .str x => PyData.strOk x
  | .tup ps => fitBs ps
  | .lst ps => fitBs ps
  | .sls ps => fitBs ps
  | _ => true
def fitBs : List PV → Bool
  | [] => true
  | p :: ps => fitB p && fitBs ps
end
mutual
def wgt : PV → Nat
  | .int i => i.natAbs.log2 + 1
  | .str x => x.cps.size
  | .tup ps => wgts ps
  | .lst ps => wgts ps
  | .sls ps => wgts ps
  | _ => 0
def wgts : List PV → Nat
  | [] => 0
  | p :: ps => wgt p + 1 + wgts ps
end
mutual
def dep : PV → Nat
  | .tup ps => deps ps + 1
  | .lst ps => deps ps + 1
  | .sls ps => deps ps + 1
  | _ => 0
def deps : List PV → Nat
  | [] => 0
  | p :: ps => max (dep p) (deps ps)
end
mutual
theorem dat_of_fit : ∀ {p : PV}, fitB p = true → datB p = true
  | .obj _, h => by simp [fitB] at h
  | .tup ps, h => by simp only [datB]; exact dats_of_fit (by simpa only [fitB] using h)
  | .lst ps, h => by simp only [datB]; exact dats_of_fit (by simpa only [fitB] using h)
  | .sls ps, h => by simp only [datB]; exact dats_of_fit (by simpa only [fitB] using h)
  | .non, _ => by simp only [datB]
  | .bl _, _ => by simp only [datB]
  | .int _, _ => by simp only [datB]
  | .str _, _ => by simp only [datB]
theorem dats_of_fit : ∀ {ps : List PV}, fitBs ps = true → datBs ps = true
  | [], _ => by simp only [datBs]
  | p :: ps, h => by
    simp only [fitBs, Bool.and_eq_true] at h
    simp only [datBs, Bool.and_eq_true]
    exact ⟨dat_of_fit h.1, dats_of_fit h.2⟩
end
theorem int_log {i : Int} (h : i.natAbs < 1000000000000) : i.natAbs.log2 + 1 ≤ 40 := by
  by_cases z : i.natAbs = 0
  · rw [z]; decide
  · have : i.natAbs.log2 < 40 := (Nat.log2_lt z).mpr (by omega)
    omega
mutual
theorem fit_lay : ∀ {p : PV}, fitB p = true → (dOf p).canLay0 = true ∧ (dOf p).weight ≤ wgt p ∧ (dOf p).depth ≤ dep p ∧ (dOf p).showable = true ∧ (dOf p).hasDict = false ∧ (dOf p).intsShort 13 = true
  | .obj _, h => by simp [fitB] at h
  | .tup ps, h => by
    have q := fits_lay (ps := ps) (by simpa only [fitB] using h)
    simp only [dOf, PyData.canLay0, PyData.weight, PyData.depth, PyData.showable, PyData.hasDict, PyData.intsShort, wgt, dep]
    exact ⟨q.1, q.2.1, by omega, q.2.2.2⟩
  | .lst ps, h => by
    have q := fits_lay (ps := ps) (by simpa only [fitB] using h)
    simp only [dOf, PyData.canLay0, PyData.weight, PyData.depth, PyData.showable, PyData.hasDict, PyData.intsShort, wgt, dep]
    exact ⟨q.1, q.2.1, by omega, q.2.2.2⟩
  | .sls ps, h => by
    have q := fits_lay (ps := ps) (by simpa only [fitB] using h)
    simp only [dOf, PyData.canLay0, PyData.weight, PyData.depth, PyData.showable, PyData.hasDict, PyData.intsShort, wgt, dep]
    exact ⟨q.1, q.2.1, by omega, q.2.2.2⟩
  | .non, _ => by simp [dOf, PyData.canLay0, PyData.weight, PyData.depth, PyData.showable, PyData.hasDict, PyData.intsShort, wgt, dep]
  | .bl _, _ => by simp [dOf, PyData.canLay0, PyData.weight, PyData.depth, PyData.showable, PyData.hasDict, PyData.intsShort, wgt, dep]
  | .int i, h => by
    have h : i.natAbs < 1000000000000 := by simpa [fitB] using h
    have l := int_log h
    simp only [dOf, PyData.canLay0, PyData.weight, PyData.depth, PyData.showable, PyData.hasDict, PyData.intsShort, wgt, dep, decide_eq_true_eq]
    refine ⟨trivial, by split <;> omega, by omega, by omega, trivial, ?_⟩
    have e : (toString i).length ≤ 12 + 1 := int_text_length_le10 (by decide) (by omega)
    have e2 : (PyData.shown (.int i)).length = (toString i).length := by
      rw [PyData.shown_int]; exact PySem.ofString_length _
    omega
  | .str x, h => by
    have h : PyData.strOk x = true := by simpa only [fitB] using h
    simp [dOf, PyData.canLay0, PyData.weight, PyData.depth, PyData.showable, PyData.hasDict, PyData.intsShort, wgt, dep, h]
theorem fits_lay : ∀ {ps : List PV}, fitBs ps = true → PyData.canLayAll0 (dOfs ps) = true ∧ PyData.weightAll (dOfs ps) ≤ wgts ps ∧ PyData.depthAll (dOfs ps) ≤ deps ps ∧ PyData.showableAll (dOfs ps) = true ∧ PyData.hasDictAll (dOfs ps) = false ∧ PyData.intsShortAll 13 (dOfs ps) = true
  | [], _ => by simp [dOfs, PyData.canLayAll0, PyData.weightAll, PyData.depthAll, PyData.showableAll, PyData.hasDictAll, PyData.intsShortAll, wgts, deps]
  | p :: ps, h => by
    simp only [fitBs, Bool.and_eq_true] at h
    have a := fit_lay h.1
    have b := fits_lay h.2
    simp only [dOfs, PyData.canLayAll0, PyData.weightAll, PyData.depthAll, PyData.showableAll, PyData.hasDictAll, PyData.intsShortAll, wgts, deps, Bool.and_eq_true, Bool.or_eq_false_iff]
    exact ⟨⟨a.1, b.1⟩, by omega, by omega, ⟨a.2.2.2.1, b.2.2.2.1⟩, ⟨a.2.2.2.2.1, b.2.2.2.2.1⟩, ⟨a.2.2.2.2.2, b.2.2.2.2.2⟩⟩
end
/-- what repr tells of data -/
def rep (p : PV) : Str := (dOf p).shown
theorem repr_fit {p : PV} (G : GH) (h : fitB p = true) (w : wgt p ≤ 1048576) (d : dep p ≤ 64) : bRepr [p] G = .ok (.str (rep p)) G := by
  obtain ⟨h1, h2, h3, h4, h5, h6⟩ := fit_lay h
  have l : (dOf p).layable0 = true := by
    unfold PyData.layable0
    simp only [Bool.and_eq_true, decide_eq_true_eq]
    have e : (2 : Nat) ^ 20 = 1048576 := by decide
    exact ⟨⟨h1, by omega⟩, by omega⟩
  have z := shown_le13 l h6
  have e : sizeLine = 16777216 := by decide
  have k : reprOk (dOf p) = true := by
    unfold reprOk
    simp only [Bool.and_eq_true, decide_eq_true_eq, Bool.not_eq_true']
    exact ⟨⟨⟨h4, h5⟩, by omega⟩, by omega⟩
  simp only [bRepr, toDG_dat G (dat_of_fit h), if_pos k, rep]
end EV
end
section
/-! M1: what the evaluator's parts come to, for the simplifier; the feed and the draw. -/
set_option Elab.async false
set_option linter.all false
set_option maxRecDepth 100000
namespace EV
open PySem PySem.Spec PyProof.Rows L2
section
variable {m ma mb n : Env → GH → Res PV} {ms : Env → GH → Res (List PV)} {f : List PV → GH → Res PV} {ρ : Env} {G : GH}
@[simp] theorem mVar_ap (i : Nat) : mVar i ρ G = match ρ[i]? with
  | some (some v) => .ok v G
  | _ => .bad := rfl
@[simp] theorem mCst_ap (v : PV) : mCst v ρ G = .ok v G := rfl
@[simp] theorem m2_ap : m2 ma mb f ρ G = (ma ρ G).bind fun x G1 => (mb ρ G1).bind fun y G2 => f [x, y] G2 := rfl
@[simp] theorem m1_ap : m1 ma f ρ G = (ma ρ G).bind fun x G1 => f [x] G1 := rfl
@[simp] theorem mA_ap : mA ms f ρ G = (ms ρ G).bind f := rfl
@[simp] theorem mNil_ap : mNil ρ G = .ok [] G := rfl
@[simp] theorem mCons_ap : mCons m ms ρ G = (m ρ G).bind fun x G1 => (ms ρ G1).bind fun xs G2 => .ok (x :: xs) G2 := rfl
@[simp] theorem mkTup_ap {ps : List PV} : mkTup ps G = if ps.length ≤ sizeLine then .ok (.tup ps) G else .bad := rfl
@[simp] theorem mkLst_ap {ps : List PV} : mkLst ps G = if ps.length ≤ sizeLine then .ok (.lst ps) G else .bad := rfl
@[simp] theorem mkObj_ap {ps : List PV} : mkObj ps G = if ps.length ≤ sizeLine then .ok (.obj G.length) (G ++ [.lst ps]) else .bad := rfl
@[simp] theorem mAnd_ap : mAnd ma mb ρ G = (ma ρ G).bind fun x G1 => (truth x G1).bind fun k G2 => if k = true then mb ρ G2 else .ok x G2 := rfl
@[simp] theorem mOr_ap : mOr ma mb ρ G = (ma ρ G).bind fun x G1 => (truth x G1).bind fun k G2 => if k = true then .ok x G2 else mb ρ G2 := rfl
@[simp] theorem mNot_ap : mNot m ρ G = (m ρ G).bind fun x G1 => (truth x G1).bind fun k G2 => .ok (.bl (!k)) G2 := rfl
@[simp] theorem mtNot_ap {c : Env → GH → Res Bool} : mtNot c ρ G = (c ρ G).bind fun k G1 => .ok (!k) G1 := rfl
@[simp] theorem mtAnd_ap {c d : Env → GH → Res Bool} : mtAnd c d ρ G = (c ρ G).bind fun k G1 => if k = true then d ρ G1 else .ok false G1 := rfl
@[simp] theorem mtOr_ap {c d : Env → GH → Res Bool} : mtOr c d ρ G = (c ρ G).bind fun k G1 => if k = true then .ok true G1 else d ρ G1 := rfl
@[simp] theorem mIf_ap {c : Env → GH → Res Bool} : mIf c ma mb ρ G = (c ρ G).bind fun k G1 => if k = true then ma ρ G1 else mb ρ G1 := rfl
@[simp] theorem mB_ap : mB m ρ G = (m ρ G).bind asB := rfl
@[simp] theorem mT_ap : mT m ρ G = (m ρ G).bind truth := rfl
@[simp] theorem asB_bl {b : Bool} : asB (.bl b) G = .ok b G := rfl
@[simp] theorem truth_bl {b : Bool} : truth (.bl b) G = .ok b G := rfl
@[simp] theorem truth_int {i : Int} : truth (.int i) G = .ok (i != 0) G := rfl
@[simp] theorem sSeq_ap {s t : Env → GH → Res Fl} : sSeq s t ρ G = (s ρ G).bind fun f G1 => match f with
  | .next ρ1 => t ρ1 G1
  | f => .ok f G1 := rfl
@[simp] theorem sNext_ap : sNext ρ G = .ok (.next ρ) G := rfl
@[simp] theorem sRet_ap : sRet m ρ G = (m ρ G).bind fun v G1 => .ok (.ret v) G1 := rfl
@[simp] theorem sDrop_ap : sDrop m ρ G = (m ρ G).bind fun _ G1 => .ok (.next ρ) G1 := rfl
@[simp] theorem sIf_ap {c : Env → GH → Res Bool} {s t : Env → GH → Res Fl} : sIf c s t ρ G = (c ρ G).bind fun b G1 => if b = true then s ρ G1 else t ρ G1 := rfl
@[simp] theorem sAsg_ap {t : PV → Env → GH → Res Env} : sAsg m t ρ G = (m ρ G).bind fun v G1 => (t v ρ G1).bind fun ρ1 G2 => .ok (.next ρ1) G2 := rfl
@[simp] theorem sSet_ap {f : List PV → GH → Res Unit} : sSet m ma mb f ρ G = (m ρ G).bind fun v G1 => (ma ρ G1).bind fun o G2 => (mb ρ G2).bind fun i G3 => (f [o, i, v] G3).bind fun _ G4 => .ok (.next ρ) G4 := rfl
@[simp] theorem gN_ap {i : Nat} {p : PV} : gN i p ρ G = .ok (ρ.set i (some p)) G := rfl
@[simp] theorem end_ret {p : PV} : bodyEnd (.ret p) G = .ok p G := rfl
@[simp] theorem end_next : bodyEnd (.next ρ) G = .ok .non G := rfl
@[simp] theorem mPart_ap : mPart m ρ G = (m ρ G).bind fun x G1 => match x with
  | .int i => .ok (some i) G1
  | _ => .bad := rfl
@[simp] theorem mNoPart_ap : mNoPart ρ G = .ok none G := rfl
@[simp] theorem mSl_ap {l h : Env → GH → Res (Option Int)} {f : PV → Option Int → Option Int → GH → Res PV} : mSl m l h f ρ G = (m ρ G).bind fun x G1 => (l ρ G1).bind fun i G2 => (h ρ G2).bind fun j G3 => f x i j G3 := rfl
end
/-- a continuation, kept out of the simplifier's sight as an instance -/
class Ctn (α β : Type) where
  k : α → GH → Res β
def bnd {α β : Type} (r : Res α) [c : Ctn α β] : Res β := r.bind c.k
@[simp ↓] theorem bind_bnd {α β : Type} (r : Res α) (f : α → GH → Res β) : r.bind f = @bnd α β r ⟨f⟩ := rfl
@[simp] theorem bnd_ok {α β : Type} (a : α) (G : GH) (f : α → GH → Res β) : @bnd α β (.ok a G) ⟨f⟩ = f a G := rfl
@[simp] theorem bnd_bad {α β : Type} (f : α → GH → Res β) : @bnd α β .bad ⟨f⟩ = .bad := rfl
@[simp] theorem bnd_exc {α β : Type} (c : Nat) (fs : List (Str × PV)) (G : GH) (f : α → GH → Res β) : @bnd α β (.exc c fs G) ⟨f⟩ = .exc c fs G := rfl
section
variable {G : GH} {ps qs : List PV} {i j : Int} {k : Nat} {x y z : PV}
theorem ixN_ok {n : Nat} {i : Int} (h : 0 ≤ i) (k : i < n) : ixN n i = some i.toNat := by unfold ixN; rw [if_pos h, if_pos k]
@[simp] theorem atI_0 : atI (x :: ps) 0 = some x := by unfold atI; rw [ixN_ok (by omega) (by simp only [List.length_cons]; omega)]; rfl
@[simp] theorem atI_1 : atI (x :: y :: ps) 1 = some y := by unfold atI; rw [ixN_ok (by omega) (by simp only [List.length_cons]; omega)]; rfl
@[simp] theorem atI_2 {z} : atI (x :: y :: z :: ps) 2 = some z := by unfold atI; rw [ixN_ok (by omega) (by simp only [List.length_cons]; omega)]; rfl
@[simp] theorem atI_3 {z u} : atI (x :: y :: z :: u :: ps) 3 = some u := by unfold atI; rw [ixN_ok (by omega) (by simp only [List.length_cons]; omega)]; rfl
/-- an item -/
def ixR (ps : List PV) (i : Int) (G : GH) : Res PV := match atI ps i with
  | some p => .ok p G
  | none => .bad
theorem ixR_some (h : atI ps i = some x) : ixR ps i G = .ok x G := by unfold ixR; rw [h]
@[simp] theorem ixR_0 : ixR (x :: ps) 0 G = .ok x G := ixR_some atI_0
@[simp] theorem ixR_1 : ixR (x :: y :: ps) 1 G = .ok y G := ixR_some atI_1
@[simp] theorem ixR_2 : ixR (x :: y :: z :: ps) 2 G = .ok z G := ixR_some atI_2
@[simp] theorem ixR_3 {u} : ixR (x :: y :: z :: u :: ps) 3 G = .ok u G := ixR_some atI_3
@[simp] theorem opIx_tup : opIx [.tup ps, .int i] G = ixR ps i G := rfl
@[simp] theorem opIx_lst : opIx [.lst ps, .int i] G = ixR ps i G := rfl
@[simp] theorem opIx_sls : opIx [.sls ps, .int i] G = ixR ps i G := rfl
theorem opIx_obj (h : G[k]? = some (.lst ps)) : opIx [.obj k, .int i] G = ixR ps i G := by simp only [opIx, asS, asL, h]; rfl
@[simp] theorem opIx_obj0 {R : GH} : opIx [.obj 0, .int i] (.lst ps :: R) = ixR ps i (.lst ps :: R) := rfl
@[simp] theorem opIx_obj1 {R : GH} {o} : opIx [.obj 1, .int i] (o :: .lst ps :: R) = ixR ps i (o :: .lst ps :: R) := rfl
@[simp] theorem opAdd_ii : opAdd [.int i, .int j] G = .ok (.int (i + j)) G := rfl
@[simp] theorem opSub_ii : opSub [.int i, .int j] G = .ok (.int (i - j)) G := rfl
theorem opMod_ii (h : j ≠ 0) : opMod [.int i, .int j] G = .ok (.int (i.fmod j)) G := by simp only [opMod, opII, decide_eq_true h, if_true]
theorem opDiv_ii (h : j ≠ 0) (h2 : j.natAbs < 1073741824) : opDiv [.int i, .int j] G = .ok (.int (i.fdiv j)) G := by simp only [opDiv, opII, decide_eq_true (And.intro h h2), if_true]
theorem opPow_ii (h : 0 ≤ j) (h2 : j ≤ 1000000) (h3 : i.natAbs < 2 ^ 64) : opPow [.int i, .int j] G = .ok (.int (i ^ j.toNat)) G := by simp only [opPow, opII, decide_eq_true (And.intro h (And.intro h2 h3)), if_true]
theorem opMul_ii (h : -(2 ^ 64) < i ∧ i < 2 ^ 64) : opMul [.int i, .int j] G = .ok (.int (i * j)) G := by simp only [opMul, if_pos (Or.inl h : (-(2 ^ 64) < i ∧ i < 2 ^ 64) ∨ (-(2 ^ 64) < j ∧ j < 2 ^ 64))]
@[simp] theorem opNeg_i : opNeg [.int i] G = .ok (.int (-i)) G := rfl
@[simp] theorem opLt_ii : Cop.lt.f [.int i, .int j] G = .ok (.bl (decide (i < j))) G := rfl
@[simp] theorem opLe_ii : Cop.le.f [.int i, .int j] G = .ok (.bl (decide (i ≤ j))) G := rfl
@[simp] theorem opGt_ii : Cop.gt.f [.int i, .int j] G = .ok (.bl (decide (j < i))) G := rfl
@[simp] theorem opGe_ii : Cop.ge.f [.int i, .int j] G = .ok (.bl (decide (j ≤ i))) G := rfl
@[simp] theorem opEq_ii : Cop.eq.f [.int i, .int j] G = .ok (.bl (decide (i = j))) G := rfl
@[simp] theorem opNe_ii : Cop.ne.f [.int i, .int j] G = .ok (.bl (!decide (i = j))) G := rfl
@[simp] theorem opEq_ss {s t : Str} : Cop.eq.f [.str s, .str t] G = .ok (.bl (decide (s = t))) G := rfl
@[simp] theorem opNe_ss {s t : Str} : Cop.ne.f [.str s, .str t] G = .ok (.bl (!decide (s = t))) G := rfl
@[simp] theorem bLen_tup : bLen [.tup ps] G = .ok (.int ps.length) G := rfl
@[simp] theorem bLen_lst : bLen [.lst ps] G = .ok (.int ps.length) G := rfl
@[simp] theorem bLen_sls : bLen [.sls ps] G = .ok (.int ps.length) G := rfl
theorem bLen_obj (h : G[k]? = some (.lst ps)) : bLen [.obj k] G = .ok (.int ps.length) G := by simp only [bLen, asS, asL, h]
theorem fSetL_obj (h : G[k]? = some (.lst ps)) (h0 : 0 ≤ i) (h1 : i < ps.length) : fSetL [.obj k, .int i, x] G = .ok () (G.set k (.lst (ps.set i.toNat x))) := by simp only [fSetL, h, ixN_ok h0 h1]
@[simp] theorem fSetL_00 {R : GH} : fSetL [.obj 0, .int 0, x] (.lst (y :: ps) :: R) = .ok () (.lst (x :: ps) :: R) := fSetL_obj (i := 0) (ps := y :: ps) rfl (by decide) (by simp only [List.length_cons]; omega)
@[simp] theorem fSetL_01 {R : GH} : fSetL [.obj 0, .int 1, x] (.lst (y :: z :: ps) :: R) = .ok () (.lst (y :: x :: ps) :: R) := fSetL_obj (i := 1) (ps := y :: z :: ps) rfl (by decide) (by simp only [List.length_cons]; omega)
@[simp] theorem fSetL_02 {R : GH} {u} : fSetL [.obj 0, .int 2, x] (.lst (y :: z :: u :: ps) :: R) = .ok () (.lst (y :: z :: x :: ps) :: R) := fSetL_obj (i := 2) (ps := y :: z :: u :: ps) rfl (by decide) (by simp only [List.length_cons]; omega)
@[simp] theorem fSetL_03 {R : GH} {u w} : fSetL [.obj 0, .int 3, x] (.lst (y :: z :: u :: w :: ps) :: R) = .ok () (.lst (y :: z :: u :: x :: ps) :: R) := fSetL_obj (i := 3) (ps := y :: z :: u :: w :: ps) rfl (by decide) (by simp only [List.length_cons]; omega)
@[simp] theorem fSetL_10 {R : GH} {o} : fSetL [.obj 1, .int 0, x] (o :: .lst (y :: ps) :: R) = .ok () (o :: .lst (x :: ps) :: R) := fSetL_obj (i := 0) (ps := y :: ps) rfl (by decide) (by simp only [List.length_cons]; omega)
end
theorem size_line : sizeLine = 16777216 := by decide
/-- the feed: the numbers, how many were taken, what is left of a great one, how many draws -/
def feedO (cs : List Int) (a b d : Int) : GO := .lst [.lst (cs.map .int), .int a, .int b, .int d]
theorem dOfs_ints : ∀ cs : List Int, dOfs (cs.map .int) = cs.map .int
  | [] => rfl
  | c :: cs => by simp only [List.map_cons, dOfs, dOf, dOfs_ints cs]
theorem dat_ints : ∀ cs : List Int, datBs (cs.map .int) = true
  | [] => rfl
  | c :: cs => by simp only [List.map_cons, datBs, datB, dat_ints cs, Bool.and_self]
theorem lay_ints : ∀ cs : List Int, PyData.canLayAll0 (cs.map PyData.int) = true
  | [] => by simp [PyData.canLayAll0]
  | c :: cs => by simp [PyData.canLayAll0, PyData.canLay0, lay_ints cs]
theorem dep_ints : ∀ cs : List Int, PyData.depthAll (cs.map PyData.int) ≤ 1
  | [] => by simp [PyData.depthAll]
  | c :: cs => by
    have := dep_ints cs
    rw [List.map_cons, PyData.depthAll, PyData.depth]; exact Nat.max_le.mpr ⟨by decide, this⟩
theorem eqP_ints (G : GH) (cs : List Int) : eqP G (.lst (cs.map .int)) (.lst []) = some (decide (cs = [])) := by
  have d := dep_ints cs
  simp only [eqP, scalP, toDG, toD, toDs_dat (dat_ints cs), toDs, Option.map_some, dOfs_ints, eqD]
  have h1 : SeqAt.shaped (.list (cs.map .int)) = true := by
    simp only [SeqAt.shaped, PyData.canLay0, PyData.depth, lay_ints, Bool.true_and]; apply decide_eq_true; omega
  have h2 : SeqAt.shaped (.list []) = true := by decide
  rw [if_pos ⟨h1, h2⟩]
  cases cs with
  | nil => simp [PyData.eqv, PyData.eqvAll]
  | cons c cs => simp [PyData.eqv, PyData.eqvAll]
@[simp] theorem ne_ints {G : GH} {cs : List Int} : Cop.ne.f [.lst (cs.map .int), .lst []] G = .ok (.bl (!decide (cs = []))) G := by
  simp only [Cop.f, opNe, opEqN, eqP_ints, if_true]
@[simp] theorem ne_nil {G : GH} : Cop.ne.f [.lst [], .lst []] G = .ok (.bl false) G := ne_ints (cs := [])
def SpFeed (f : List PV → GH → Res PV) : Prop := ∀ (ns : List Int) (G : GH), ns.length ≤ 63 → f [.sls (ns.map .int)] G = .ok (.obj G.length) (G ++ [feedO ns 0 0 0])
theorem feed_sp : SpFeed (defV 1 GN.N__law_feed GN.b__law_feed) := by
  intro ns G h
  have e : cutP (ns.map PV.int) none (some 63) = ns.map .int := by
    unfold cutP HT.sIx
    simp only [List.drop_zero, List.length_map]
    rw [if_neg (by decide)]
    apply List.take_of_length_le
    simp only [List.length_map]
    omega
  simp [defV, GN.b__law_feed, GN.N__law_feed, env0, opSl, asL, e, size_line, feedO, trimR, PV.refsB]
end EV
end
section
/-! M2: the draw. -/
set_option Elab.async false
set_option linter.all false
set_option maxRecDepth 100000
namespace EV
open PySem PySem.Spec PyProof.Rows L2
theorem trim_len {G0 G1 : GH} (a : PV) (h : G1.length = G0.length) : trimR G0 (.ok a G1) = .ok a G1 := by
  unfold trimR
  simp only
  rw [← h, List.take_length]
  split <;> rfl
@[simp] theorem trim_cons (g g' : GO) (R : GH) (a : PV) : trimR (g :: R) (.ok a (g' :: R)) = .ok a (g' :: R) := trim_len a rfl
theorem atI_map {cs : List Int} {i : Int} (h : 0 ≤ i) (k : i < cs.length) : ∃ c, atI (cs.map PV.int) i = some (.int c) := by
  unfold atI
  rw [ixN_ok h (by simpa using k)]
  have : i.toNat < cs.length := by omega
  exact ⟨cs[i.toNat], by simp [List.getElem?_map, List.getElem?_eq_getElem this]⟩
/-- what a draw tells -/
def SpDraw (f : List PV → GH → Res PV) : Prop := ∀ (cs : List Int) (a b d n : Int) (R : GH), 0 < n → n ≤ 1000000 → 0 ≤ a → 0 ≤ b → 0 ≤ d → d ≤ 1099511627776 → 
  ∃ r a' b', 0 ≤ r ∧ r < n ∧ 0 ≤ a' ∧ 0 ≤ b' ∧ f [.obj 0, .int n] (feedO cs a b d :: R) = .ok (.int r) (feedO cs a' b' (d + 1) :: R)
theorem fmod_lt' {a n : Int} (h : 0 < n) : 0 ≤ a.fmod n ∧ a.fmod n < n := ⟨Int.fmod_nonneg_of_pos a h, Int.fmod_lt_of_pos a h⟩
theorem fdiv_nn {a n : Int} (ha : 0 ≤ a) (h : 0 < n) : 0 ≤ a.fdiv n := Int.fdiv_nonneg ha (Int.le_of_lt h)
theorem draw_sp : SpDraw (defV 2 GN.N__law_draw GN.b__law_draw) := by
  intro cs a b d n R n0 n1 ha hb hd0 hd1
  have n2 : n ≠ 0 := by omega
  have n3 : n.natAbs < 1073741824 := by omega
  by_cases hb0 : 0 < b
  · refine ⟨b.fmod n, a, b.fdiv n, (fmod_lt' n0).1, (fmod_lt' n0).2, ha, fdiv_nn hb n0, ?_⟩
    simp [defV, GN.b__law_draw, GN.N__law_draw, env0, feedO, opMod_ii n2, opDiv_ii n2 n3, hb0]
  · have hb1 : b = 0 := by omega
    subst hb1
    have p18 : (10 : Int) ^ (18 : Nat) = 1000000000000000000 := by decide
    have cell : ∃ c : Int, cs = [] ∧ c = 5 ∨ cs ≠ [] ∧ atI (cs.map PV.int) (a.fmod cs.length) = some (.int c) := by
      by_cases hc : cs = []
      · exact ⟨5, .inl ⟨hc, rfl⟩⟩
      · have hl : 0 < (cs.length : Int) := by
          cases cs with
          | nil => exact absurd rfl hc
          | cons _ _ => simp only [List.length_cons]; omega
        obtain ⟨c, e⟩ := atI_map (cs := cs) (fmod_lt' (a := a) hl).1 (fmod_lt' hl).2
        exact ⟨c, .inr ⟨hc, e⟩⟩
    obtain ⟨c, cell⟩ := cell
    have hp18 : opPow [.int 10, .int 18] = fun G => .ok (.int 1000000000000000000) G := by
      funext G; rw [opPow_ii (by decide) (by decide) (by decide)]; rfl
    have mm : ∀ x : Int, 0 ≤ x.fmod 2147483629 ∧ x.fmod 2147483629 < 2147483629 := fun x => fmod_lt' (by decide)
    have mm2 : ∀ x : Int, 0 ≤ x.fmod 2147483647 ∧ x.fmod 2147483647 < 2147483647 := fun x => fmod_lt' (by decide)
    by_cases big : (1000000000000000000 ≤ c ∧ a + 1 ≤ cs.length)
    · refine ⟨c.fmod n, a + 1, c.fdiv n, (fmod_lt' n0).1, (fmod_lt' n0).2, by omega, fdiv_nn (by omega) n0, ?_⟩
      rcases cell with ⟨hc, rfl⟩ | ⟨hc, cell⟩
      · omega
      · have hl2 : (cs.length : Int) ≠ 0 := by
          cases cs with
          | nil => exact absurd rfl hc
          | cons _ _ => simp only [List.length_cons]; omega
        have ne : decide (cs = []) = false := by simpa using hc
        simp [defV, GN.b__law_draw, GN.N__law_draw, env0, feedO, opMod_ii n2, opDiv_ii n2 n3, hc, opMod_ii hl2, ixR_some cell, hp18, big]
    · have big' : ¬(1000000000000000000 ≤ c ∧ a + 1 ≤ cs.length) := big
      have hk : ∀ X : Int, 0 ≤ X → X < 2147483647 → (X + 104729 * (d + 1)).natAbs < 2 ^ 64 := fun X h1 h2 => by omega
      have hk2 : ∀ X : Int, 0 ≤ X → X < 2147483629 → (X + 7919 * (d + 1) + 1).natAbs < 2 ^ 64 := fun X h1 h2 => by omega
      have e1 : ∀ G, opMod [.int c, .int 2147483629] G = .ok (.int (c.fmod 2147483629)) G := fun G => opMod_ii (by decide)
      have e2 : ∀ (i : Int) G, opMod [.int i, .int 2147483647] G = .ok (.int (i.fmod 2147483647)) G := fun i G => opMod_ii (by decide)
      have e3 : ∀ (i : Int) G, opMod [.int i, .int 2147483587] G = .ok (.int (i.fmod 2147483587)) G := fun i G => opMod_ii (by decide)
      have e4 : ∀ (i : Int) G, opDiv [.int i, .int 64] G = .ok (.int (i.fdiv 64)) G := fun i G => opDiv_ii (by decide) (by decide)
      have e5 : ∀ (j : Int) G, opMul [.int 7919, .int j] G = .ok (.int (7919 * j)) G := fun i G => opMul_ii (by decide)
      have e6 : ∀ (j : Int) G, opMul [.int 104729, .int j] G = .ok (.int (104729 * j)) G := fun i G => opMul_ii (by decide)
      have e7 : ∀ G, opPow [.int (c.fmod 2147483629 + 7919 * (d + 1) + 1), .int 5] G = .ok (.int ((c.fmod 2147483629 + 7919 * (d + 1) + 1) ^ 5)) G := fun G => opPow_ii (by decide) (by decide) (hk2 _ (mm c).1 (mm c).2)
      have e8 : ∀ (i : Int) G, opPow [.int (i.fmod 2147483647 + 104729 * (d + 1)), .int 5] G = .ok (.int ((i.fmod 2147483647 + 104729 * (d + 1)) ^ 5)) G := fun i G => opPow_ii (by decide) (by decide) (hk _ (mm2 i).1 (mm2 i).2)
      refine ⟨(((((c.fmod 2147483629 + 7919 * (d + 1) + 1) ^ 5).fmod 2147483647 + 104729 * (d + 1)) ^ 5).fmod 2147483587).fdiv 64 |>.fmod n, a + 1, 0, (fmod_lt' n0).1, (fmod_lt' n0).2, by omega, by omega, ?_⟩
      rcases cell with ⟨hc, rfl⟩ | ⟨hc, cell⟩
      · subst hc
        simp at e1 e7
        simp [defV, GN.b__law_draw, GN.N__law_draw, env0, feedO, opMod_ii n2, hp18, e1, e2, e3, e4, e5, e6, e7, e8]
      · have hl2 : (cs.length : Int) ≠ 0 := by
          cases cs with
          | nil => exact absurd rfl hc
          | cons _ _ => simp only [List.length_cons]; omega
        by_cases b1 : 1000000000000000000 ≤ c
        · have b2 : ¬(a + 1 ≤ cs.length) := fun h => big ⟨b1, h⟩
          simp [defV, GN.b__law_draw, GN.N__law_draw, env0, feedO, opMod_ii n2, hc, opMod_ii hl2, ixR_some cell, hp18, b1, b2, e1, e2, e3, e4, e5, e6, e7, e8]
        · simp [defV, GN.b__law_draw, GN.N__law_draw, env0, feedO, opMod_ii n2, hc, opMod_ii hl2, ixR_some cell, hp18, b1, e1, e2, e3, e4, e5, e6, e7, e8]
end EV
end
section
/-! M3: the small defs: is_long, has_head, is_row, is_tree, key_of; plains. -/
set_option Elab.async false
set_option linter.all false
set_option maxRecDepth 100000
namespace EV
open PySem PySem.Spec PyProof.Rows L2
def isTup : PV → Bool
  | .tup _ => true
  | _ => false
def isStr : PV → Bool
  | .str _ => true
  | _ => false
@[simp] theorem isi_tup {p : PV} {G : GH} (h : datB p = true) : bIsi "tuple" [p] G = .ok (.bl (isTup p)) G := by
  cases p <;> first | rfl | (simp [datB] at h)
@[simp] theorem isi_str {p : PV} {G : GH} (h : datB p = true) : bIsi "str" [p] G = .ok (.bl (isStr p)) G := by
  cases p <;> first | rfl | (simp [datB] at h)
def isBl : PV → Bool
  | .bl _ => true
  | _ => false
def isInt : PV → Bool
  | .bl _ => true
  | .int _ => true
  | _ => false
@[simp] theorem isi_bool {p : PV} {G : GH} (h : datB p = true) : bIsi "bool" [p] G = .ok (.bl (isBl p)) G := by
  cases p <;> first | rfl | (simp [datB] at h)
@[simp] theorem isi_int {p : PV} {G : GH} (h : datB p = true) : bIsi "int" [p] G = .ok (.bl (isInt p)) G := by
  cases p <;> first | rfl | (simp [datB] at h)
/-- the things of a ("row", things), of a ("tree", fields) -/
def headed (w : Str) : PV → Option (List PV)
  | .tup [.str s, .tup xs] => if s = w then some xs else none
  | _ => none
def longB (k : Int) : PV → Bool
  | .tup ps => decide ((ps.length : Int) = k)
  | _ => false
def SpLong (f : List PV → GH → Res PV) : Prop := ∀ p k G, datB p = true → f [p, .int k] G = .ok (.bl (longB k p)) G
theorem long_sp : SpLong (defV 2 GN.N_is_long GN.b_is_long) := by
  intro p k G h
  cases p <;> simp [defV, GN.b_is_long, GN.N_is_long, env0, h, isTup, longB, trim_same]
def headB (w : Str) : PV → Bool
  | .tup [.str s, _] => decide (s = w)
  | _ => false
def SpHead (f : List PV → GH → Res PV) : Prop := ∀ p w G, datB p = true → f [p, .str w, .int 2] G = .ok (.bl (headB w p)) G
theorem head_sp {f} (hf : SpLong f) : SpHead (defV 3 GN.N_has_head (GN.b_has_head f)) := by
  intro p w G h
  have e := hf p 2 G h
  match p, h with
  | .tup [x, y], h =>
    have hx : datB x = true := by simp [datB, datBs] at h; exact h.1
    have e2 : longB 2 (.tup [x, y]) = true := rfl
    rw [e2] at e
    cases x <;> simp [defV, GN.b_has_head, GN.N_has_head, env0, e, isi_str hx, isStr, headB, trim_same]
  | .tup [], h =>
    have e2 : longB 2 (.tup []) = false := rfl
    rw [e2] at e
    simp [defV, GN.b_has_head, GN.N_has_head, env0, e, headB, trim_same]
  | .tup [x], h =>
    have e2 : longB 2 (.tup [x]) = false := rfl
    rw [e2] at e
    simp [defV, GN.b_has_head, GN.N_has_head, env0, e, headB, trim_same]
  | .tup (x :: y :: z :: r), h =>
    have e2 : longB 2 (.tup (x :: y :: z :: r)) = false := by
      simp only [longB, decide_eq_false_iff_not, List.length_cons]; omega
    rw [e2] at e
    simp [defV, GN.b_has_head, GN.N_has_head, env0, e, headB, trim_same]
  | .non, h => simp [defV, GN.b_has_head, GN.N_has_head, env0, e, headB, longB, trim_same]
  | .bl _, h => simp [defV, GN.b_has_head, GN.N_has_head, env0, e, headB, longB, trim_same]
  | .int _, h => simp [defV, GN.b_has_head, GN.N_has_head, env0, e, headB, longB, trim_same]
  | .str _, h => simp [defV, GN.b_has_head, GN.N_has_head, env0, e, headB, longB, trim_same]
  | .lst _, h => simp [defV, GN.b_has_head, GN.N_has_head, env0, e, headB, longB, trim_same]
  | .sls _, h => simp [defV, GN.b_has_head, GN.N_has_head, env0, e, headB, longB, trim_same]
/-- is_row (w = "row"), is_tree (w = "tree") -/
def SpKind (w : Str) (f : List PV → GH → Res PV) : Prop := ∀ p G, datB p = true → f [p] G = .ok (.bl (headed w p).isSome) G
theorem kind_end {w : Str} {p : PV} {G : GH} {f : List PV → GH → Res PV} (hf : SpHead f) (h : datB p = true) (N : List Str) (hN : N.length = 1) :
    defV 1 N (sSeq (sRet (mAnd (mA (mCons (mVar 0) (mCons (mCst (.str w)) (mCons (mCst (.int 2)) (mNil)))) f) (m1 (m2 (mVar 0) (mCst (.int 1)) opIx) (bIsi "tuple")))) (sNext)) [p] G = .ok (.bl (headed w p).isSome) G := by
  have e := hf p w G h
  by_cases k : ∃ s y, p = .tup [.str s, y]
  · obtain ⟨s, y, rfl⟩ := k
    have hy : datB y = true := by simp [datB, datBs] at h; exact h
    have e2 : headB w (.tup [.str s, y]) = decide (s = w) := rfl
    rw [e2] at e
    by_cases sw : s = w
    · subst sw
      simp at e
      cases y <;> simp [defV, env0, hN, e, isi_tup hy, isTup, headed, trim_same]
    · simp [sw] at e
      cases y <;> simp [defV, env0, hN, e, headed, sw, trim_same]
  · have e2 : headB w p = false := by
      unfold headB; split
      · exact absurd ⟨_, _, rfl⟩ k
      · rfl
    have e3 : headed w p = none := by
      unfold headed; split
      · exact absurd ⟨_, _, rfl⟩ k
      · rfl
    rw [e2] at e
    simp [defV, env0, hN, e, e3, trim_same]
theorem row_sp {f} (hf : SpHead f) : SpKind "row" (defV 1 GN.N_is_row (GN.b_is_row f)) := fun p G h => kind_end hf h _ rfl
theorem tree_sp {f} (hf : SpHead f) : SpKind "tree" (defV 1 GN.N_is_tree (GN.b_is_tree f)) := fun p G h => kind_end hf h _ rfl
def keyV (p : PV) : PV := .tup [.int (if isBl p then 0 else if isInt p then 1 else 2), p]
def SpKey (f : List PV → GH → Res PV) : Prop := ∀ p G, datB p = true → f [p] G = .ok (keyV p) G
theorem key_sp : SpKey (defV 1 GN.N_key_of GN.b_key_of) := by
  intro p G h
  cases p <;> simp [defV, GN.b_key_of, GN.N_key_of, env0, h, isBl, isInt, keyV, size_line, trim_same]
end EV
end
section
/-! M4: plains, fields, trees as the laws make them. -/
set_option Elab.async false
set_option linter.all false
set_option maxRecDepth 100000
namespace EV
open PySem PySem.Spec PyProof.Rows L2
theorem refs_ints (n : Nat) (cs : List Int) : PV.refsBs n (cs.map .int) = true := refss_of_dat n (dat_ints cs)
theorem refs_feed (n : Nat) (cs : List Int) (a b d : Int) : GO.refsB n (feedO cs a b d) = true := by
  simp [feedO, GO.refsB, PV.refsBs, PV.refsB, refs_ints]
theorem trim_feed {g : GO} {R S : GH} {p : PV} {cs : List Int} {a b d : Int} (h : datB p = true) : trimR (g :: R) (.ok p (feedO cs a b d :: (R ++ S))) = .ok p (feedO cs a b d :: R) := by
  have e : (feedO cs a b d :: (R ++ S)).take (g :: R).length = feedO cs a b d :: R := by simp
  simp only [trimR, e]
  rw [if_pos ⟨by rw [refs_of_dat _ h]; simp only [okB, refs_feed, Bool.or_true, Bool.true_and, okB_self], by simp⟩]
def plains : List PV := [.int 0, .int 1, .int 2, .int (-1), .bl true, .bl false, .str "a", .str "", .str "1", .str "yes", .str "b2", .int 999999, .int (-40), .int 1]
theorem atI_mem {ps : List PV} {i : Int} (h : 0 ≤ i) (k : i < ps.length) : ∃ p, atI ps i = some p ∧ p ∈ ps := by
  have z : i.toNat < ps.length := by omega
  exact ⟨ps[i.toNat], by unfold atI; rw [ixN_ok h k]; simp [List.getElem?_eq_getElem z], List.getElem_mem z⟩
/-- a maker of plains -/
def SpPlain (f : List PV → GH → Res PV) : Prop := ∀ (cs : List Int) (a b d : Int) (R : GH), 0 ≤ a → 0 ≤ b → 0 ≤ d → d ≤ 1099511627776 → 
  ∃ p a' b', p ∈ plains ∧ 0 ≤ a' ∧ 0 ≤ b' ∧ f [.obj 0] (feedO cs a b d :: R) = .ok p (feedO cs a' b' (d + 1) :: R)
theorem plain_sp {f} (hf : SpDraw f) : SpPlain (defV 1 GN.N__law_plain (GN.b__law_plain f)) := by
  intro cs a b d R ha hb hd hd2
  obtain ⟨r, a', b', h0, h1, h2, h3, e⟩ := hf cs a b d 14 R (by decide) (by decide) ha hb hd hd2
  obtain ⟨p, e2, hp⟩ := atI_mem (ps := plains) h0 (by simpa [plains] using h1)
  have e3 := ixR_some (G := feedO cs a' b' (d + 1) :: R) e2
  refine ⟨p, a', b', hp, h2, h3, ?_⟩
  simp only [plains] at e3
  simp [defV, GN.b__law_plain, GN.N__law_plain, env0, e, size_line, e3, trim_len]
/-- a field -/
abbrev fldV (q : Str × PV) : PV := .tup [.str q.1, q.2]
theorem dat_flds {kv : List (Str × PV)} (h : ∀ q ∈ kv, datB q.2 = true) : datBs (kv.map fldV) = true := by
  refine datBs_of fun p hp => ?_
  obtain ⟨q, hq, rfl⟩ := List.mem_map.mp hp
  simp [datB, datBs, h q hq]
def pool6 : List Str := ["a", "b", "k", "kk", "x", "yes"]
theorem get_last {G : GH} {o : GO} : (G ++ [o])[G.length]? = some o := by simp
theorem set_last {G : GH} {o u : GO} : (G ++ [o]).set G.length u = G ++ [u] := by simp
theorem popAt_ok {G : GH} {ps : List PV} {i : Int} (h : 0 ≤ i) (k : i < ps.length) (z : ps.length ≤ 1000000) (n : Nat) (hn : G[n]? = some (.lst ps)) : ∃ p, ps[i.toNat]? = some p ∧ fPopAt (.obj n) [.int i] G = .ok p (G.set n (.lst (ps.eraseIdx i.toNat))) := by
  have z2 : i.toNat < ps.length := by omega
  refine ⟨ps[i.toNat], List.getElem?_eq_getElem z2, ?_⟩
  have e : seqIndex? i ps.length = some i.toNat := by
    unfold seqIndex?
    simp only [if_neg (show ¬ i < 0 by omega)]
    rw [if_pos (by simp; omega)]
  simp only [fPopAt, hn, e, List.getElem?_eq_getElem z2]
  rw [if_pos ⟨by omega, by omega⟩]
theorem map_erase {α β : Type} (g : α → β) : ∀ (xs : List α) (i : Nat), (xs.map g).eraseIdx i = (xs.eraseIdx i).map g
  | [], _ => rfl
  | x :: xs, 0 => rfl
  | x :: xs, i + 1 => by simp only [List.map_cons, List.eraseIdx_cons_succ, map_erase g xs i]
theorem erase_out {α : Type} : ∀ {xs : List α} {i : Nat} (h : i < xs.length), xs.Nodup → xs[i] ∉ xs.eraseIdx i
  | x :: xs, 0, h, n => by simpa using (List.nodup_cons.mp n).1
  | x :: xs, i + 1, h, n => by
    have n := List.nodup_cons.mp n
    have h2 : i < xs.length := by simpa using h
    simp only [List.getElem_cons_succ, List.eraseIdx_cons_succ, List.mem_cons, not_or]
    exact ⟨fun e => n.1 (e ▸ List.getElem_mem h2), erase_out h2 n.2⟩
theorem tree_loop {f} (hf : SpDraw f) (cs : List Int) (R : GH) (gd : GH → Bool) (ρ : Env) (x2 : Option PV) (x3 : Option PV) (hρ : ρ = [some (.obj 0), x2, some (.obj (R.length + 1)), x3, none]) (hg : ∀ a b d X, gd (feedO cs a b d :: (R ++ [X])) = true) :
    ∀ (vs : List PV) (ws : List Str) (a b d : Int), vs.length ≤ ws.length → ws.length ≤ 6 → ws.Nodup → 0 ≤ a → 0 ≤ b → 0 ≤ d → d + vs.length ≤ 1099511627776 → 
      ∃ (kv : List (Str × PV)) (ws' : List Str) (a' b' : Int), 0 ≤ a' ∧ 0 ≤ b' ∧ kv.map (·.2) = vs ∧ (kv.map (·.1)).Nodup ∧ (∀ q ∈ kv, q.1 ∈ ws) ∧
        loopC (compF (gN 4) mYes (mA (mCons (mMet "list" (mVar 2) (mCons (mA (mCons (mVar 0) (mCons (mA (mCons (mVar 2) (mNil)) bLen) (mNil))) f) (mNil)) fPopAt) (mCons (mVar 4) (mNil))) mkTup) [4] ρ) gd vs (feedO cs a b d :: (R ++ [.lst (ws.map .str)])) =
          .ok (kv.map fldV) (feedO cs a' b' (d + vs.length) :: (R ++ [.lst (ws'.map .str)]))
  | [], ws, a, b, d, _, _, _, ha, hb, _, _ => ⟨[], ws, a, b, ha, hb, rfl, by simp, by simp, by simp [loopC, hg]⟩
  | v :: vs, ws, a, b, d, h1, h2, h3, ha, hb, hd, hd2 => by
    simp only [List.length_cons] at h1 hd2
    obtain ⟨r, a', b', r0, r1, ha', hb', e⟩ := hf cs a b d ws.length (R ++ [.lst (ws.map .str)]) (by omega) (by omega) ha hb hd (by omega)
    have hl : (feedO cs a' b' (d + 1) :: (R ++ [GO.lst (ws.map PV.str)]))[R.length + 1]? = some (.lst (ws.map .str)) := by simp
    obtain ⟨p, hp, e2⟩ := popAt_ok r0 (by simpa using r1) (by simp; omega) _ hl
    have hr : r.toNat < ws.length := by omega
    have hp2 : p = .str ws[r.toNat] := by simpa [List.getElem?_map, List.getElem?_eq_getElem hr] using hp.symm
    have hs : (feedO cs a' b' (d + 1) :: (R ++ [GO.lst (ws.map PV.str)])).set (R.length + 1) (.lst ((ws.map PV.str).eraseIdx r.toNat)) = feedO cs a' b' (d + 1) :: (R ++ [.lst ((ws.eraseIdx r.toNat).map .str)]) := by
      simp [map_erase]
    rw [hs, hp2] at e2
    obtain ⟨kv, ws', a2, b2, ha2, hb2, q1, q2, q3, q4⟩ := tree_loop hf cs R gd ρ x2 x3 hρ hg vs (ws.eraseIdx r.toNat) a' b' (d + 1) (by rw [List.length_eraseIdx_of_lt hr]; omega) (by rw [List.length_eraseIdx_of_lt hr]; omega) (h3.sublist (List.eraseIdx_sublist _ _)) ha' hb' (by omega) (by omega)
    refine ⟨(ws[r.toNat], v) :: kv, ws', a2, b2, ha2, hb2, by simp [q1], ?_, ?_, ?_⟩
    · simp only [List.map_cons, List.nodup_cons]
      refine ⟨fun m => ?_, q2⟩
      obtain ⟨q, hq, hq2⟩ := List.mem_map.mp m
      have := q3 q hq
      rw [hq2] at this
      exact erase_out hr h3 this
    · intro q hq
      rcases List.mem_cons.mp hq with rfl | hq
      · exact List.getElem_mem hr
      · exact (List.eraseIdx_sublist _ _).mem (q3 q hq)
    · have hl0 : bLen [.obj (R.length + 1)] (feedO cs a b d :: (R ++ [GO.lst (ws.map PV.str)])) = .ok (.int ws.length) (feedO cs a b d :: (R ++ [GO.lst (ws.map PV.str)])) := by
        rw [bLen_obj (ps := ws.map .str) (by simp)]; simp
      have ht : tyP (feedO cs a b d :: (R ++ [GO.lst (ws.map PV.str)])) (.obj (R.length + 1)) = some "list" := by simp [tyP]
      have ed : (d + 1 + (vs.length : Int)) = d + ((vs.length + 1 : Nat) : Int) := by omega
      rw [ed] at q4
      rw [hρ] at q4
      simp [loopC, hg, compF, wipeE, hρ, mYes, mMet, ht, hl0, e, e2, size_line, q4]
end EV
end
section
/-! M5: trees, values, documents as the laws make them. -/
set_option Elab.async false
set_option linter.all false
set_option maxRecDepth 100000
namespace EV
open PySem PySem.Spec PyProof.Rows L2
abbrev treeV (kv : List (Str × PV)) : PV := .tup [.str "tree", .tup (kv.map fldV)]
abbrev rowV (xs : List PV) : PV := .tup [.str "row", .tup xs]
/-- a maker of a tree -/
def SpMk (f : List PV → GH → Res PV) : Prop := ∀ (cs : List Int) (a b d : Int) (R : GH) (x : PV) (vs : List PV) (gd : GH → Bool), vs.length ≤ 6 → (∀ v ∈ vs, datB v = true) →
  (∀ X, seqSrc x (feedO cs a b d :: (R ++ [X])) = .ok ⟨vs, gd⟩ (feedO cs a b d :: (R ++ [X]))) → (∀ a b d X, gd (feedO cs a b d :: (R ++ [X])) = true) → 0 ≤ a → 0 ≤ b → 0 ≤ d → d + vs.length ≤ 1099511627776 →
  ∃ (kv : List (Str × PV)) (a' b' : Int), 0 ≤ a' ∧ 0 ≤ b' ∧ (kv.map (·.2)).Perm vs ∧ (kv.map (·.1)).Nodup ∧ (∀ q ∈ kv, q.1 ∈ pool6) ∧
    f [.obj 0, x] (feedO cs a b d :: R) = .ok (treeV kv) (feedO cs a' b' (d + vs.length) :: R)
theorem mk_sp {f} (hf : SpDraw f) : SpMk (defV 2 GN.N__law_tree (GN.b__law_tree f)) := by
  intro cs a b d R x vs gd hl hdat hs hg ha hb hd hd2
  obtain ⟨kv, ws', a', b', ha', hb', q1, q2, q3, q4⟩ := tree_loop hf cs R gd _ (some x) none rfl hg vs pool6 a b d (by simpa [pool6] using hl) (by decide) (by decide) ha hb hd hd2
  have hP := List.mergeSort_perm kv (fun p q => PySem.W.dataLe false key0 (fldV p) (fldV q))
  refine ⟨kv.mergeSort (fun p q => PySem.W.dataLe false key0 (fldV p) (fldV q)), a', b', ha', hb', q1 ▸ hP.map _, (hP.map _).nodup_iff.mpr q2, fun q hq => q3 q (hP.mem_iff.mp hq), ?_⟩
  · have hmap : (kv.map fldV).mergeSort (PySem.W.dataLe false key0) = (kv.mergeSort (fun p q => PySem.W.dataLe false key0 (fldV p) (fldV q))).map fldV := (List.map_mergeSort (f := fldV) (r := fun p q => PySem.W.dataLe false key0 (fldV p) (fldV q)) (s := PySem.W.dataLe false key0) (fun _ _ _ _ => rfl)).symm
    have hsort : bSort0 false [.lst (kv.map fldV)] (feedO cs a' b' (d + vs.length) :: (R ++ [.lst (ws'.map .str)])) = .ok (.lst ((kv.mergeSort (fun p q => PySem.W.dataLe false key0 (fldV p) (fldV q))).map fldV)) (feedO cs a' b' (d + vs.length) :: (R ++ [.lst (ws'.map .str)])) := by
      have h1 : (kv.map fldV).all strs0 = true := by simp [List.all_eq_true, strs0]
      have h2 : (kv.map fldV).length ≤ sizeLine := by
        rw [size_line, List.length_map]
        have : (kv.map (·.2)).length = vs.length := by rw [q1]
        simp at this; omega
      simp only [bSort0, asL, h1, Bool.true_or, if_true, mkL, hmap, List.length_map, List.length_mergeSort]
      rw [if_pos (by simpa using h2)]
      rfl
    have hdat2 : datB (treeV (kv.mergeSort (fun p q => PySem.W.dataLe false key0 (fldV p) (fldV q)))) = true := by
      have h := dat_flds (kv := kv.mergeSort (fun p q => PySem.W.dataLe false key0 (fldV p) (fldV q))) fun q hq => hdat _ (by rw [← q1]; exact List.mem_map.mpr ⟨q, hP.mem_iff.mp hq, rfl⟩)
      simp [treeV, datB, datBs, h]
    have hpool : (List.map PV.str pool6) = [.str "a", .str "b", .str "k", .str "kk", .str "x", .str "yes"] := rfl
    rw [hpool] at q4
    simp [defV, GN.b__law_tree, GN.N__law_tree, env0, size_line, mComp, mSeq, hs, q4, hsort, bTup, asS, asL]
    exact trim_feed hdat2
/-- the values of documents, by their depth -/
def Doc : Nat → PV → Prop
  | 0, p => p ∈ plains
  | n + 1, p => p ∈ plains ∨ (∃ xs, p = rowV xs ∧ xs.length ≤ 3 ∧ ∀ x ∈ xs, Doc n x) ∨ (∃ kv : List (Str × PV), p = treeV kv ∧ kv.length ≤ 3 ∧ (kv.map (·.1)).Nodup ∧ (∀ q ∈ kv, q.1 ∈ pool6) ∧ ∀ q ∈ kv, Doc n q.2)
theorem plain_dat {p : PV} (h : p ∈ plains) : datB p = true := by
  have : plains.all datB = true := by decide +kernel
  exact List.all_eq_true.mp this p h
theorem Doc.plain {p : PV} (h : p ∈ plains) : ∀ n, Doc n p
  | 0 => h
  | n + 1 => .inl h
theorem Doc.dat : ∀ {n : Nat} {p : PV}, Doc n p → datB p = true
  | 0, p, h => plain_dat h
  | n + 1, p, h => by
    rcases h with h | ⟨xs, rfl, _, h⟩ | ⟨kv, rfl, _, _, _, h⟩
    · exact plain_dat h
    · simp [rowV, datB, datBs, datBs_of fun x hx => Doc.dat (h x hx)]
    · simp [treeV, datB, datBs, dat_flds fun q hq => Doc.dat (h q hq)]
/-- how many draws a value takes at most -/
def most : Nat → Nat
  | 0 => 2
  | n + 1 => 5 + 3 * most n
section
variable {G R1 R2 : GH} {ps : List PV} {i : Int} {o : GO} {x y : PV}
@[simp] theorem opIx_mid : opIx [.obj (R1.length + 1), .int i] (o :: (R1 ++ .lst ps :: R2)) = ixR ps i (o :: (R1 ++ .lst ps :: R2)) := opIx_obj (by simp)
@[simp] theorem fSetL_mid : fSetL [.obj (R1.length + 1), .int 0, x] (o :: (R1 ++ .lst (y :: ps) :: R2)) = .ok () (o :: (R1 ++ .lst (x :: ps) :: R2)) := by
  rw [fSetL_obj (ps := y :: ps) (by simp) (by decide) (by simp only [List.length_cons]; omega)]; simp
end
def SpVal (n : Nat) (f : List PV → GH → Res PV) : Prop := ∀ (cs : List Int) (a b d l : Int) (R1 R2 : GH), 0 ≤ a → 0 ≤ b → 0 ≤ d → d + most n ≤ 1099511627776 →
  ∃ (p : PV) (a' b' d' l' : Int), Doc n p ∧ 0 ≤ a' ∧ 0 ≤ b' ∧ d ≤ d' ∧ d' ≤ d + most n ∧ f [.obj 0, .int n, .obj (R1.length + 1)] (feedO cs a b d :: (R1 ++ .lst [.int l] :: R2)) = .ok p (feedO cs a' b' d' :: (R1 ++ .lst [.int l'] :: R2))
theorem val_sp0 {fd fp ft fv} (hd : SpDraw fd) (hp : SpPlain fp) : SpVal 0 (defV 3 GN.N__law_value (GN.b__law_value fd fp ft fv)) := by
  intro cs a b d l R1 R2 ha hb hd0 hd2
  obtain ⟨r, a1, b1, r0, r1, ha1, hb1, e⟩ := hd cs a b d 6 (R1 ++ .lst [.int (l - 1)] :: R2) (by decide) (by decide) ha hb hd0 (by simp only [most] at hd2; omega)
  obtain ⟨p, a2, b2, hp, ha2, hb2, e2⟩ := hp cs a1 b1 (d + 1) (R1 ++ .lst [.int (l - 1)] :: R2) ha1 hb1 (by omega) (by simp only [most] at hd2; omega)
  refine ⟨p, a2, b2, d + 1 + 1, l - 1, hp, ha2, hb2, by omega, by simp only [most]; omega, ?_⟩
  by_cases h1 : r < 2
  · simp [defV, GN.b__law_value, GN.N__law_value, env0, e, e2, h1, trim_len]
  · simp [defV, GN.b__law_value, GN.N__law_value, env0, e, e2, h1, trim_len]
end EV
end
section
/-! M6: values deeper, documents. -/
set_option Elab.async false
set_option linter.all false
set_option maxRecDepth 100000
namespace EV
open PySem PySem.Spec PyProof.Rows L2
theorem val_loop {n : Nat} {fv} (hv : SpVal n fv) (cs : List Int) (ρ : Env) (R1 R2 : GH) (x3 x4 x5 : Option PV) (hρ : ρ = [some (.obj 0), some (.int ((n : Int) + 1)), some (.obj (R1.length + 1)), x3, x4, x5, none]) :
    ∀ (its : List PV) (a b d l : Int), 0 ≤ a → 0 ≤ b → 0 ≤ d → d + its.length * most n ≤ 1099511627776 →
      ∃ (vs : List PV) (a' b' d' l' : Int), 0 ≤ a' ∧ 0 ≤ b' ∧ d ≤ d' ∧ d' ≤ d + its.length * most n ∧ vs.length ≤ its.length ∧ (∀ v ∈ vs, Doc n v) ∧
        loopC (compF (gN 6) (mB (m2 (m2 (mVar 2) (mCst (.int 0)) opIx) (mCst (.int 0)) (Cop.f .gt))) (mA (mCons (mVar 0) (mCons (m2 (mVar 1) (mCst (.int 1)) opSub) (mCons (mVar 2) (mNil)))) fv) [6] ρ) (fun _ => true) its (feedO cs a b d :: (R1 ++ .lst [.int l] :: R2)) =
          .ok vs (feedO cs a' b' d' :: (R1 ++ .lst [.int l'] :: R2))
  | [], a, b, d, l, ha, hb, hd, _ => ⟨[], a, b, d, l, ha, hb, by omega, by simp, by simp, by simp, by simp [loopC]⟩
  | x :: its, a, b, d, l, ha, hb, hd, hd2 => by
    have em : ((its.length + 1 : Nat) : Int) * (most n : Int) = its.length * most n + most n := by
      rw [Int.natCast_add, Int.add_mul]; simp
    have en : 0 ≤ (its.length : Int) * (most n : Int) := Int.mul_nonneg (by omega) (by omega)
    rw [List.length_cons, em] at hd2
    rw [List.length_cons, em]
    by_cases hl : 0 < l
    · obtain ⟨p, a1, b1, d1, l1, hp, ha1, hb1, hd1, hd12, e⟩ := hv cs a b d l R1 R2 ha hb hd (by omega)
      obtain ⟨vs, a2, b2, d2, l2, ha2, hb2, h1, h2, h3, h4, e2⟩ := val_loop hv cs ρ R1 R2 x3 x4 x5 hρ its a1 b1 d1 l1 ha1 hb1 (by omega) (by omega)
      refine ⟨p :: vs, a2, b2, d2, l2, ha2, hb2, by omega, by omega, by simpa using h3, ?_, ?_⟩
      · intro v hv
        rcases List.mem_cons.mp hv with rfl | hv
        · exact hp
        · exact h4 v hv
      · rw [hρ] at e2
        have es : ((n : Int) + 1 - 1) = n := by omega
        simp [loopC, compF, wipeE, hρ, hl, es, e, e2]
    · obtain ⟨vs, a2, b2, d2, l2, ha2, hb2, h1, h2, h3, h4, e2⟩ := val_loop hv cs ρ R1 R2 x3 x4 x5 hρ its a b d l ha hb hd (by omega)
      refine ⟨vs, a2, b2, d2, l2, ha2, hb2, by omega, by omega, by omega, h4, ?_⟩
      rw [hρ] at e2
      simp [loopC, compF, wipeE, hρ, hl, e2]
theorem val_spS {n : Nat} {fd fp ft fv} (hd : SpDraw fd) (hp : SpPlain fp) (ht : SpMk ft) (hv : SpVal n fv) : SpVal (n + 1) (defV 3 GN.N__law_value (GN.b__law_value fd fp ft fv)) := by
  intro cs a b d l R1 R2 ha hb hd0 hd2
  simp only [most] at hd2
  obtain ⟨r, a1, b1, r0, r1, ha1, hb1, e⟩ := hd cs a b d 6 (R1 ++ .lst [.int (l - 1)] :: R2) (by decide) (by decide) ha hb hd0 (by omega)
  by_cases h1 : r < 2 ∨ l - 1 < 2
  · obtain ⟨p, a2, b2, hp, ha2, hb2, e2⟩ := hp cs a1 b1 (d + 1) (R1 ++ .lst [.int (l - 1)] :: R2) ha1 hb1 (by omega) (by omega)
    refine ⟨p, a2, b2, d + 1 + 1, l - 1, .inl hp, ha2, hb2, by omega, by simp only [most]; omega, ?_⟩
    have nz : ¬ ((n : Int) + 1 = 0) := by omega
    by_cases h2 : r < 2
    · simp [defV, GN.b__law_value, GN.N__law_value, env0, e, e2, h2, trim_len]
    · have h3 : l - 1 < 2 := by omega
      simp [defV, GN.b__law_value, GN.N__law_value, env0, e, e2, h2, h3, nz, trim_len]
  · have h2 : ¬ r < 2 := by omega
    have h3 : ¬ l - 1 < 2 := by omega
    have nz : ¬ ((n : Int) + 1 = 0) := by omega
    have hmin : bMin [.int 4, .int (l - 1)] (feedO cs a1 b1 (d + 1) :: (R1 ++ .lst [.int (l - 1)] :: R2)) = .ok (.int (min 4 (l - 1))) (feedO cs a1 b1 (d + 1) :: (R1 ++ .lst [.int (l - 1)] :: R2)) := by
      simp only [bMin]; congr 2; omega
    obtain ⟨q, a2, b2, q0, q1, ha2, hb2, e2⟩ := hd cs a1 b1 (d + 1) (min 4 (l - 1)) (R1 ++ .lst [.int (l - 1)] :: R2) (by omega) (by omega) ha1 hb1 (by omega) (by omega)
    have hq : (rgIts 0 q.toNat).length = q.toNat := by simp [rgIts]
    have hr : ∀ G, rgSrc [.int q] G = .ok ⟨rgIts 0 q.toNat, fun _ => true⟩ G := fun G => by
      simp only [rgSrc]; rw [if_pos ⟨by omega, by omega, by rw [size_line]; omega⟩]
    have em : (((rgIts 0 q.toNat).length : Nat) : Int) * (most n : Int) ≤ 3 * most n := by
      rw [hq]; exact Int.mul_le_mul_of_nonneg_right (by omega) (by omega)
    obtain ⟨vs, a3, b3, d3, l3, ha3, hb3, k1, k2, k3, k4, e3⟩ := val_loop hv cs _ R1 R2 (some (.int r)) (some (.int q)) none rfl (rgIts 0 q.toNat) a2 b2 (d + 1 + 1) (l - 1) ha2 hb2 (by omega) (by omega)
    have hvs : vs.length ≤ 3 := by rw [hq] at k3; omega
    by_cases h4 : r < 4
    · refine ⟨rowV vs, a3, b3, d3, l3, .inr (.inl ⟨vs, rfl, hvs, k4⟩), ha3, hb3, by omega, by simp only [most]; omega, ?_⟩
      simp [defV, GN.b__law_value, GN.N__law_value, env0, e, h2, h3, nz, hmin, e2, mComp, mRng, hr, e3, h4, bTup, asS, asL, size_line, trim_len]
    · obtain ⟨kv, a4, b4, ha4, hb4, j1, j2, j3, e4⟩ := ht cs a3 b3 d3 (R1 ++ .lst [.int l3] :: R2) (.lst vs) vs (fun _ => true) (by omega) (fun v hv => (k4 v hv).dat) (fun X => rfl) (fun _ _ _ _ => rfl) ha3 hb3 (by omega) (by omega)
      have hkl : kv.length = vs.length := by simpa using j1.length_eq
      refine ⟨treeV kv, a4, b4, d3 + vs.length, l3, .inr (.inr ⟨kv, rfl, by omega, j2, j3, fun q hq => k4 _ (j1.mem_iff.mp (List.mem_map.mpr ⟨q, hq, rfl⟩))⟩), ha4, hb4, by omega, by simp only [most]; omega, ?_⟩
      simp [defV, GN.b__law_value, GN.N__law_value, env0, e, h2, h3, nz, hmin, e2, mComp, mRng, hr, e3, h4, e4, trim_len]
end EV
end
section
/-! M7: documents. -/
set_option Elab.async false
set_option linter.all false
set_option maxRecDepth 100000
namespace EV
open PySem PySem.Spec PyProof.Rows L2
/-- a document: a tree of up to five fields -/
def DocT (p : PV) : Prop := ∃ kv : List (Str × PV), p = treeV kv ∧ kv.length ≤ 5 ∧ (kv.map (·.1)).Nodup ∧ (∀ q ∈ kv, q.1 ∈ pool6) ∧ ∀ q ∈ kv, Doc 3 q.2
def SpDoc (f : List PV → GH → Res PV) : Prop := ∀ (cs : List Int) (a b d : Int) (R : GH), 0 ≤ a → 0 ≤ b → 0 ≤ d → d + 1000 ≤ 1099511627776 →
  ∃ (p : PV) (a' b' d' : Int), DocT p ∧ 0 ≤ a' ∧ 0 ≤ b' ∧ d ≤ d' ∧ d' ≤ d + 1000 ∧ f [.obj 0] (feedO cs a b d :: R) = .ok p (feedO cs a' b' d' :: R)
theorem app_mid {R : GH} {o l : GO} {vs : List PV} {y : PV} (h : vs.length ≤ 100) : fAppend (.obj (R.length + 2)) [y] (o :: (R ++ [l, .lst vs])) = .ok .non (o :: (R ++ [l, .lst (vs ++ [y])])) := by
  have e : (o :: (R ++ [l, GO.lst vs]))[R.length + 2]? = some (.lst vs) := by simp [List.getElem?_append]
  simp only [fAppend, e]
  rw [if_pos (by rw [size_line]; omega)]
  simp [List.set_append]
def forStep (t : PV → Env → GH → Res Env) (b : Env → GH → Res Fl) : PV → Env → GH → Res Fl := fun x ρ G => (t x ρ G).bind b
theorem forStep_ap {t : PV → Env → GH → Res Env} {b : Env → GH → Res Fl} {x : PV} {ρ : Env} {G : GH} : forStep t b x ρ G = (t x ρ G).bind b := rfl
@[simp] theorem sFor_ap {ms : Env → GH → Res Src} {t : PV → Env → GH → Res Env} {b : Env → GH → Res Fl} {ρ : Env} {G : GH} : sFor ms t b ρ G = (ms ρ G).bind fun S G1 => loopF (forStep t b) S.gd S.its ρ G1 := rfl
theorem loopF_next {f : PV → Env → GH → Res Fl} {gd : GH → Bool} {x : PV} {xs : List PV} {ρ ρ1 : Env} {G G1 : GH} (hg : gd G = true) (h : f x ρ G = .ok (.next ρ1) G1) : loopF f gd (x :: xs) ρ G = loopF f gd xs ρ1 G1 := by
  simp only [loopF, if_pos hg, h, Res.bind_ok]
theorem loopF_nil {f : PV → Env → GH → Res Fl} {gd : GH → Bool} {ρ : Env} {G : GH} (hg : gd G = true) : loopF f gd [] ρ G = .ok (.next ρ) G := by
  simp only [loopF, if_pos hg]
theorem doc_loop {fv} (hv : SpVal 3 fv) (cs : List Int) (R : GH) (gd : GH → Bool) (hg : ∀ G, gd G = true) :
    ∀ (its : List PV) (a b d l : Int) (vs : List PV) (x1 : Option PV), 0 ≤ a → 0 ≤ b → 0 ≤ d → vs.length + its.length ≤ 50 → (∀ v ∈ vs, Doc 3 v) → d + its.length * 150 ≤ 1099511627776 →
      ∃ (us : List PV) (a' b' d' l' : Int) (x1' : Option PV), 0 ≤ a' ∧ 0 ≤ b' ∧ d ≤ d' ∧ d' ≤ d + its.length * 150 ∧ us.length ≤ vs.length + its.length ∧ (∀ v ∈ us, Doc 3 v) ∧
        loopF (forStep (gN 1) (sSeq (sIf (mB (m2 (m2 (mVar 2) (mCst (.int 0)) opIx) (mCst (.int 0)) (Cop.f .gt))) (sSeq (sDrop (mMet "list" (mVar 3) (mCons (mA (mCons (mVar 0) (mCons (mCst (.int 3)) (mCons (mVar 2) (mNil)))) fv) (mNil)) fAppend)) (sNext)) (sNext)) (sNext))) gd its [some (.obj 0), x1, some (.obj (R.length + 1)), some (.obj (R.length + 2))] (feedO cs a b d :: (R ++ [.lst [.int l], .lst vs])) =
          .ok (.next [some (.obj 0), x1', some (.obj (R.length + 1)), some (.obj (R.length + 2))]) (feedO cs a' b' d' :: (R ++ [.lst [.int l'], .lst us]))
  | [], a, b, d, l, vs, x1, ha, hb, hd, _, h, _ => ⟨vs, a, b, d, l, x1, ha, hb, by omega, by simp, by simp, h, loopF_nil (hg _)⟩
  | x :: its, a, b, d, l, vs, x1, ha, hb, hd, h50, h, hd2 => by
    rw [List.length_cons] at hd2 h50
    rw [List.length_cons]
    have ht : ∀ o : GO, ∀ l us, tyP (o :: (R ++ [l, GO.lst us])) (.obj (R.length + 2)) = some "list" := fun o l us => by simp [tyP, List.getElem?_append]
    by_cases hl : 0 < l
    · obtain ⟨p, a1, b1, d1, l1, hp, ha1, hb1, hd1, hd12, e⟩ := hv cs a b d l R [.lst vs] ha hb hd (by simp only [most]; omega)
      simp only [most] at hd12
      obtain ⟨us, a2, b2, d2, l2, x2, ha2, hb2, h1, h2, h3, h4, e2⟩ := doc_loop hv cs R gd hg its a1 b1 d1 l1 (vs ++ [p]) (some x) ha1 hb1 (by omega) (by simp; omega) (by
        intro v hv
        rcases List.mem_append.mp hv with hv | hv
        · exact h v hv
        · rw [List.mem_singleton.mp hv]; exact hp) (by omega)
      refine ⟨us, a2, b2, d2, l2, x2, ha2, hb2, by omega, by omega, by simp at h3; omega, h4, ?_⟩
      have e' : fv [.obj 0, .int 3, .obj (R.length + 1)] (feedO cs a b d :: (R ++ [.lst [.int l], .lst vs])) = .ok p (feedO cs a1 b1 d1 :: (R ++ [.lst [.int l1], .lst vs])) := e
      rw [← e2]
      exact loopF_next (hg _) (by simp [forStep_ap, hl, mMet, ht, e', app_mid (show vs.length ≤ 100 by omega)])
    · obtain ⟨us, a2, b2, d2, l2, x2, ha2, hb2, h1, h2, h3, h4, e2⟩ := doc_loop hv cs R gd hg its a b d l vs (some x) ha hb hd (by omega) h (by omega)
      refine ⟨us, a2, b2, d2, l2, x2, ha2, hb2, by omega, by omega, by omega, h4, ?_⟩
      rw [← e2]
      exact loopF_next (hg _) (by simp [forStep_ap, hl])
theorem doc_sp {fd ft fv} (hd : SpDraw fd) (ht : SpMk ft) (hv : SpVal 3 fv) : SpDoc (defV 1 GN.N__law_document (GN.b__law_document fd ft fv)) := by
  intro cs a b d R ha hb hd0 hd2
  obtain ⟨r, a1, b1, r0, r1, ha1, hb1, e⟩ := hd cs a b d 5 (R ++ [.lst [.int 29], .lst []]) (by decide) (by decide) ha hb hd0 (by omega)
  obtain ⟨q, eq, hq⟩ := atI_mem (ps := [PV.int 3, .int 4, .int 5, .int 0, .int 2]) r0 (by simpa using r1)
  obtain ⟨k, hk, k0, k5⟩ : ∃ k : Int, q = .int k ∧ 0 ≤ k ∧ k ≤ 5 := by
    simp at hq
    rcases hq with rfl | rfl | rfl | rfl | rfl <;> exact ⟨_, rfl, by decide, by decide⟩
  subst hk
  have hr : ∀ G, rgSrc [.int k] G = .ok ⟨rgIts 0 k.toNat, fun _ => true⟩ G := fun G => by
    simp only [rgSrc]; rw [if_pos ⟨by omega, by omega, by rw [size_line]; omega⟩]
  have hl : (rgIts 0 k.toNat).length = k.toNat := by simp [rgIts]
  obtain ⟨us, a2, b2, d2, l2, x2, ha2, hb2, h1, h2, h3, h4, e2⟩ := doc_loop hv cs R (fun _ => true) (fun _ => rfl) (rgIts 0 k.toNat) a1 b1 (d + 1) 29 [] none ha1 hb1 (by omega) (by rw [hl]; simp; omega) (by simp) (by rw [hl]; omega)
  rw [hl] at h2 h3
  simp at h3
  have hx : ∀ X, seqSrc (.obj (R.length + 2)) (feedO cs a2 b2 d2 :: ((R ++ [.lst [.int l2], .lst us]) ++ [X])) = .ok ⟨us, isLstAt (R.length + 2) us⟩ (feedO cs a2 b2 d2 :: ((R ++ [.lst [.int l2], .lst us]) ++ [X])) := fun X => by
    simp [seqSrc, List.getElem?_append]
  have hg : ∀ a b d X, isLstAt (R.length + 2) us (feedO cs a b d :: ((R ++ [.lst [.int l2], .lst us]) ++ [X])) = true := fun a b d X => by
    simp [isLstAt, List.getElem?_append, PV.sames_self]
  obtain ⟨kv, a3, b3, ha3, hb3, j1, j2, j3, e3⟩ := ht cs a2 b2 d2 (R ++ [.lst [.int l2], .lst us]) (.obj (R.length + 2)) us _ (by omega) (fun v hv => (h4 v hv).dat) hx hg ha2 hb2 (by omega) (by omega)
  have hkl : kv.length = us.length := by simpa using j1.length_eq
  have hD : ∀ q ∈ kv, Doc 3 q.2 := fun q hq => h4 _ (j1.mem_iff.mp (List.mem_map.mpr ⟨q, hq, rfl⟩))
  refine ⟨treeV kv, a3, b3, d2 + us.length, ⟨kv, rfl, by omega, j2, j3, hD⟩, ha3, hb3, by omega, by omega, ?_⟩
  have hdat : datB (treeV kv) = true := by
    have := dat_flds fun q hq => (hD q hq).dat
    simp [treeV, datB, datBs, this]
  have e' := ixR_some (G := feedO cs a1 b1 (d + 1) :: (R ++ [GO.lst [.int 29], .lst []])) eq
  have h12 : R.length + 1 + 1 = R.length + 2 := rfl
  have tf := trim_feed (g := feedO cs a b d) (R := R) (S := [.lst [.int l2], .lst us]) (cs := cs) (a := a3) (b := b3) (d := d2 + us.length) hdat
  simp [defV, GN.b__law_document, GN.N__law_document, env0, size_line, sPar, e, e', mRng, hr, h12, e2, e3, tf]
end EV
end
section
/-! M8: fields as dicts; alike values. -/
set_option Elab.async false
set_option linter.all false
set_option maxRecDepth 100000
namespace EV
open PySem PySem.Spec PyProof.Rows L2
def kd (kv : List (Str × PV)) : List (Key × PV) := kv.map fun q => (.inr q.1, q.2)
theorem pairs_kd : ∀ kv : List (Str × PV), pairsP (kv.map fldV) = some (kd kv)
  | [] => rfl
  | q :: kv => by simp only [List.map_cons, pairsP, pairs_kd kv]; rfl
theorem has_kd {kv : List (Str × PV)} {w : Str} (h : w ∉ kv.map (·.1)) : hasP (kd kv) (.inr w) = false := by
  simp only [hasP, kd, List.any_map, List.any_eq_false]
  intro q hq
  simp only [Function.comp, decide_eq_true_eq]
  intro e
  have : q.1 = w := by injection e
  exact h (List.mem_map.mpr ⟨q, hq, this⟩)
theorem merge_kd : ∀ (kv acc : List (Str × PV)), ((acc ++ kv).map (·.1)).Nodup → mergeP (kd acc) (kd kv) = kd (acc ++ kv)
  | [], acc, _ => by simp [mergeP, kd]
  | q :: kv, acc, h => by
    have hq : q.1 ∉ acc.map (·.1) := by
      simp only [List.map_append, List.map_cons] at h
      intro m
      exact (List.nodup_append.mp h).2.2 _ m _ (List.mem_cons_self ..) rfl
    have e : putD (kd acc) (.inr q.1) q.2 = kd (acc ++ [q]) := by
      unfold putD
      rw [has_kd hq]
      simp [kd]
    have : mergeP (kd acc) (kd (q :: kv)) = mergeP (putD (kd acc) (.inr q.1) q.2) (kd kv) := rfl
    rw [this, e, merge_kd kv (acc ++ [q]) (by simpa using h)]
    simp
theorem dict_tree {kv : List (Str × PV)} (G : GH) (h : (kv.map (·.1)).Nodup) : bDict [.tup (kv.map fldV)] G = .ok (.obj G.length) (G ++ [.dic (kd kv)]) := by
  have e := merge_kd kv [] (by simpa using h)
  have e2 : kd [] = [] := rfl
  rw [e2] at e
  simp only [bDict, pairs_kd, e, List.nil_append]
def getF (kv : List (Str × PV)) (w : Str) : Option PV := (kv.find? fun q => decide (q.1 = w)).map (·.2)
theorem get_kd : ∀ (kv : List (Str × PV)) (w : Str), getP (kd kv) (.inr w) = getF kv w
  | [], w => rfl
  | q :: kv, w => by
    have ih := get_kd kv w
    unfold getP kd getF at *
    simp only [List.map_cons, List.find?_cons]
    by_cases e : q.1 = w
    · simp [e]
    · have e2 : ¬ ((Sum.inr q.1 : Key) = .inr w) := fun h => e (by injection h)
      simp only [decide_eq_false e, decide_eq_false e2]
      exact ih
theorem inA_last {G : GH} {kv : List (Str × PV)} {w : Str} : opInA false [.str w, .obj G.length] (G ++ [.dic (kd kv)]) = .ok (.bl (getF kv w).isSome) (G ++ [.dic (kd kv)]) := by
  simp [opInA, asD, keyP, get_kd]
theorem ixA_last {G : GH} {kv : List (Str × PV)} {w : Str} {v : PV} (h : getF kv w = some v) : opIxA [.obj G.length, .str w] (G ++ [.dic (kd kv)]) = .ok v (G ++ [.dic (kd kv)]) := by
  simp [opIxA, asD, keyP, get_kd, h]
/-- the fields of one word -/
theorem filter_get : ∀ {kv : List (Str × PV)} (w : Str), (kv.map (·.1)).Nodup → kv.filter (fun q => decide (q.1 = w)) = (match getF kv w with | some v => [(w, v)] | none => [])
  | [], w, _ => rfl
  | q :: kv, w, h => by
    simp only [List.map_cons, List.nodup_cons] at h
    have ih := filter_get w h.2
    by_cases e : q.1 = w
    · subst e
      have : kv.filter (fun p => decide (p.1 = q.1)) = [] := by
        rw [List.filter_eq_nil_iff]
        intro p hp
        simp only [decide_eq_true_eq]
        intro e
        exact h.1 (List.mem_map.mpr ⟨p, hp, e⟩)
      simp [List.filter_cons, getF, this]
    · simp only [List.filter_cons, decide_eq_false e, ih]
      simp [getF, e]
end EV
end
section
/-! M9: a value like a plain. -/
set_option Elab.async false
set_option linter.all false
set_option maxRecDepth 100000
namespace EV
open PySem PySem.Spec PyProof.Rows L2
theorem plain_head {p : PV} (h : p ∈ plains) (w : Str) : headed w p = none := by
  simp only [plains, List.mem_cons, List.not_mem_nil, or_false] at h
  rcases h with rfl | rfl | rfl | rfl | rfl | rfl | rfl | rfl | rfl | rfl | rfl | rfl | rfl | rfl <;> rfl
theorem plain_tup {p : PV} (h : p ∈ plains) : isTup p = false := by
  simp only [plains, List.mem_cons, List.not_mem_nil, or_false] at h
  rcases h with rfl | rfl | rfl | rfl | rfl | rfl | rfl | rfl | rfl | rfl | rfl | rfl | rfl | rfl <;> rfl
/-- plains, and the numbers of a wide row -/
def leafs : List PV := plains ++ rgIts 0 25 ++ [.str "k", .str "b"]
theorem leaf_tup {p : PV} (h : p ∈ leafs) : isTup p = false := by
  have t : leafs.all (fun p => !isTup p) = true := by decide +kernel
  simpa using List.all_eq_true.mp t p h
theorem head_tup {p : PV} (h : isTup p = false) (w : Str) : headed w p = none := by cases p <;> first | rfl | cases h
theorem leaf_of {p : PV} (h : p ∈ plains) : p ∈ leafs := List.mem_append_left _ (List.mem_append_left _ h)
theorem leaf_fit {p : PV} (h : p ∈ leafs) : fitB p = true := by
  have t : leafs.all fitB = true := by decide +kernel
  exact List.all_eq_true.mp t p h
theorem leaf_dat {p : PV} (h : p ∈ leafs) : datB p = true := dat_of_fit (leaf_fit h)
theorem key_table : (leafs.all fun p => leafs.all fun q => eqP [] (keyV p) (keyV q) == some (decide (rep p = rep q))) = true := by decide +kernel
theorem key_eq {p q : PV} (G : GH) (hp : p ∈ leafs) (hq : q ∈ leafs) : Cop.eq.f [keyV p, keyV q] G = .ok (.bl (decide (rep p = rep q))) G := by
  have h := List.all_eq_true.mp (List.all_eq_true.mp key_table p hp) q hq
  have h2 : eqP G (keyV p) (keyV q) = some (decide (rep p = rep q)) := by
    have : eqP G (keyV p) (keyV q) = eqP [] (keyV p) (keyV q) := rfl
    rw [this]; exact eq_of_beq h
  simp only [Cop.f, opEq, opEqN, h2]
  rfl
/-- is_like of a value and a plain -/
def SpLikeP (f : List PV → GH → Res PV) : Prop := ∀ V p G, datB V = true → (isTup V = true ∨ V ∈ leafs) → p ∈ leafs → f [V, p] G = .ok (.bl (!isTup V && decide (rep V = rep p))) G
theorem likeP_sp {fl fr ft fk} (hr : SpKind "row" fr) (ht : SpKind "tree" ft) (hk : SpKey fk) : SpLikeP (defV 2 GN.N_is_like (GN.b_is_like fl fr ft fk)) := by
  intro V p G hV hV2 hp
  have hd := leaf_dat hp
  have e1 := ht V G hV
  have e2 := ht p G hd
  have e3 := hr V G hV
  have e4 := hr p G hd
  rw [head_tup (leaf_tup hp)] at e2 e4
  have e5 := hk V G hV
  have e6 := hk p G hd
  have i1 := isi_tup (G := G) hV
  have i2 := isi_tup (G := G) hd
  rw [leaf_tup hp] at i2
  cases hT : isTup V with
  | true =>
    rw [hT] at i1
    by_cases t1 : (headed "tree" V).isSome = true <;> by_cases t2 : (headed "row" V).isSome = true <;>
      simp [defV, GN.b_is_like, GN.N_is_like, env0, e1, e2, e3, e4, i1, i2, t1, t2, trim_same]
  | false =>
    rw [hT] at i1
    have hV3 : V ∈ leafs := by
      rcases hV2 with h | h
      · rw [h] at hT; cases hT
      · exact h
    rw [head_tup hT] at e1 e3
    have e7 := key_eq G hV3 hp
    simp [defV, GN.b_is_like, GN.N_is_like, env0, e1, e2, e3, e4, e5, e6, e7, i1, i2, trim_same]
end EV
end
section
/-! M10: what repr tells of fields. -/
set_option Elab.async false
set_option linter.all false
set_option maxRecDepth 100000
namespace EV
open PySem PySem.Spec PyProof.Rows L2
def pool7 : List Str := ["a", "b", "k", "kk", "x", "yes", "q"]
def sg (x : Str) : List Nat := x.cps.toList
theorem sg_app (x y : Str) : sg (x ++ y) = sg x ++ sg y := by
  show (x.cps ++ y.cps).toList = _
  simp [sg]
theorem sg_inj {x y : Str} (h : sg x = sg y) : x = y := by
  cases x; cases y; simp only [sg] at h; congr 1; exact Array.toList_inj.mp h
def pre (w : Str) : List Nat := sg (reprText w) ++ sg ", "
theorem rep_pair (w : Str) (x : PV) : sg (rep (.tup [.str w, x])) = 40 :: (pre w ++ (sg (rep x) ++ [41])) := by
  have e : rep (.tup [.str w, x]) = ("(" : Str) ++ (reprText w ++ ", " ++ rep x) ++ (")" : String) := rfl
  rw [e, sg_app, sg_app, sg_app, sg_app]
  have h1 : sg ("(" : Str) = [40] := rfl
  have h2 : sg (Str.ofString ")") = [41] := rfl
  rw [h1, h2, pre]
  simp
def diff : List Nat → List Nat → Bool
  | a :: as, b :: bs => a != b || diff as bs
  | _, _ => false
theorem diff_ne : ∀ {l m : List Nat} (s t : List Nat), diff l m = true → l ++ s ≠ m ++ t
  | a :: as, b :: bs, s, t, h, e => by
    simp only [List.cons_append, List.cons.injEq] at e
    simp only [diff, Bool.or_eq_true, bne_iff_ne] at h
    rcases h with h | h
    · exact h e.1
    · exact diff_ne s t h e.2
  | [], _, _, _, h, _ => by simp [diff] at h
  | _ :: _, [], _, _, h, _ => by simp [diff] at h
theorem pre_table : (pool7.all fun w => pool7.all fun v => decide (w = v) || diff (pre w) (pre v)) = true := by decide +kernel
theorem pair_inj {w v : Str} {x y : PV} (hw : w ∈ pool7) (hv : v ∈ pool7) (h : rep (.tup [.str w, x]) = rep (.tup [.str v, y])) : w = v ∧ rep x = rep y := by
  have e : sg (rep (.tup [.str w, x])) = sg (rep (.tup [.str v, y])) := by rw [h]
  rw [rep_pair, rep_pair] at e
  have e := (List.cons.inj e).2
  have t := List.all_eq_true.mp (List.all_eq_true.mp pre_table w hw) v hv
  simp only [Bool.or_eq_true, decide_eq_true_eq] at t
  rcases t with t | t
  · subst t
    refine ⟨rfl, sg_inj ?_⟩
    have e := List.append_cancel_left e
    exact List.append_cancel_right e
  · exact absurd e (diff_ne _ _ t)
theorem head_table : (leafs.all fun p => (sg (rep p)).head? != some 40) = true := by decide +kernel
theorem tup_ne {V p : PV} (hV : isTup V = true) (hp : p ∈ leafs) : rep V ≠ rep p := by
  intro e
  have t := List.all_eq_true.mp head_table p hp
  cases V with
  | tup xs =>
    have h : (sg (rep (.tup xs))).head? = some 40 := by
      have e : rep (.tup xs) = ("(" : Str) ++ Str.join ", " (PyData.shownAll (dOfs xs)) ++ ((if (PyData.shownAll (dOfs xs)).length == 1 then ",)" else ")" : String) : Str) := rfl
      rw [e, sg_app, sg_app]
      rfl
    rw [e] at h
    simp [h] at t
  | _ => cases hV
theorem pair_eq {w v : Str} {V p : PV} (hw : w ∈ pool7) (hv : v ∈ pool7) (hp : p ∈ leafs) : decide (rep (.tup [.str w, V]) = rep (.tup [.str v, p])) = (decide (w = v) && (!isTup V && decide (rep V = rep p))) := by
  by_cases h : rep (.tup [.str w, V]) = rep (.tup [.str v, p])
  · obtain ⟨rfl, e⟩ := pair_inj hw hv h
    have : isTup V = false := by
      cases hT : isTup V with
      | true => exact absurd e (tup_ne hT hp)
      | false => rfl
    simp [h, this, e]
  · rw [decide_eq_false h]
    by_cases e : w = v
    · subst e
      by_cases e2 : rep V = rep p
      · exfalso; apply h; apply sg_inj; rw [rep_pair, rep_pair, e2]
      · simp [e2]
    · simp [e]
end EV
end
section
/-! M11: steps, what comes by a step. -/
set_option Elab.async false
set_option linter.all false
set_option maxRecDepth 100000
namespace EV
open PySem PySem.Spec PyProof.Rows L2
/-- values: plains, rows, trees whose words differ -/
inductive Val : PV → Prop where
  | plain {p : PV} : p ∈ leafs → Val p
  | row {xs : List PV} : (∀ x ∈ xs, Val x) → Val (rowV xs)
  | tree {kv : List (Str × PV)} : (kv.map (·.1)).Nodup → (∀ q ∈ kv, q.1 ∈ pool7) → (∀ q ∈ kv, Val q.2) → Val (treeV kv)
theorem leaf_head {p : PV} (h : p ∈ leafs) (w : Str) : headed w p = none := head_tup (leaf_tup h) w
theorem pool67 {w : Str} (h : w ∈ pool6) : w ∈ pool7 := by
  simp only [pool6, pool7, List.mem_cons, List.not_mem_nil, or_false] at *
  rcases h with h | h | h | h | h | h <;> simp [h]
theorem Doc.val : ∀ {n : Nat} {p : PV}, Doc n p → Val p
  | 0, p, h => .plain (leaf_of h)
  | n + 1, p, h => by
    rcases h with h | ⟨xs, rfl, _, h⟩ | ⟨kv, rfl, _, h1, h2, h⟩
    · exact .plain (leaf_of h)
    · exact .row fun x hx => (h x hx).val
    · exact .tree h1 (fun q hq => pool67 (h2 q hq)) fun q hq => (h q hq).val
theorem DocT.val {p : PV} (h : DocT p) : Val p := by
  obtain ⟨kv, rfl, _, h1, h2, h⟩ := h
  exact .tree h1 (fun q hq => pool67 (h2 q hq)) fun q hq => (h q hq).val
theorem Val.dat {p : PV} (h : Val p) : datB p = true := by
  induction h with
  | plain h => exact leaf_dat h
  | row _ ih => simp [rowV, datB, datBs, datBs_of ih]
  | tree _ _ _ ih => simp [treeV, datB, datBs, dat_flds ih]
theorem Val.tup {p : PV} (h : Val p) : isTup p = true ∨ p ∈ leafs := by
  cases h with
  | plain h => exact .inr h
  | row _ => exact .inl rfl
  | tree _ _ _ => exact .inl rfl
abbrev fieldS (w : Str) : PV := .tup [.str "field", .str w]
abbrev atS (i : Int) : PV := .tup [.str "at", .int i]
abbrev eachS : PV := .tup [.str "each"]
abbrev whereS (w : Str) (p : PV) : PV := .tup [.str "where", .str w, p]
def rowsOf (V : PV) : List PV := (headed "row" V).getD []
def fldsOf (V : PV) : List PV := (headed "tree" V).getD []
def keyIs (w : Str) : PV → Bool
  | .tup [.str k, _] => decide (k = w)
  | _ => false
def sndV : PV → PV
  | .tup [_, v] => v
  | _ => .non
def fieldC (w : Str) (V : PV) : List PV := (fldsOf V).filter (keyIs w)
def atC (i : Int) (V : PV) : List PV := cutP (enP (rowsOf V)) (some i) (some (i + 1))
def eachM (V : PV) : List PV := enP (rowsOf V)
def fitsP (w : Str) (p V : PV) : Bool := (fldsOf V).any fun t => decide (rep t = rep (.tup [.str w, p]))
def whereC (w : Str) (p V : PV) : List PV := (enP (rowsOf V)).filter fun t => fitsP w p (sndV t)
/-- steps -/
inductive Stp where
  | field (w : Str)
  | at (i : Int)
  | each
  | wh (w : Str) (p : PV)
def Stp.pv : Stp → PV
  | .field w => fieldS w
  | .at i => atS i
  | .each => eachS
  | .wh w p => whereS w p
def Stp.c : Stp → PV → List PV
  | .field w => fieldC w
  | .at i => atC i
  | .each => eachM
  | .wh w p => whereC w p
def Stp.ok : Stp → Prop
  | .wh w p => w ∈ pool7 ∧ p ∈ leafs
  | _ => True
def SpFields (f : List PV → GH → Res PV) : Prop := ∀ kv G, (kv.map (·.1)).Nodup → f [treeV kv] G = .ok (.obj G.length) (G ++ [.dic (kd kv)])
theorem fields_sp : SpFields (defV 1 GN.N_fields_of GN.b_fields_of) := by
  intro kv G h
  have e := dict_tree G h
  have ht : trimR G (.ok (.obj G.length) (G ++ [.dic (kd kv)])) = .ok (.obj G.length) (G ++ [.dic (kd kv)]) := by
    simp [trimR, PV.refsB]
  simp [defV, GN.b_fields_of, GN.N_fields_of, env0, e, ht]
def SpFits (f : List PV → GH → Res PV) : Prop := ∀ V w p G, Val V → w ∈ pool7 → p ∈ leafs → f [V, .str w, p] G = .ok (.bl (fitsP w p V)) G
theorem trim_back {G S : GH} {p : PV} (h : datB p = true) : trimR G (.ok p (G ++ S)) = .ok p G := by
  have e : (G ++ S).take G.length = G := by simp
  simp only [trimR, e]
  rw [if_pos ⟨by rw [refs_of_dat _ h, okB_self]; rfl, by simp⟩]
theorem any_mem {α : Type} {f g : α → Bool} : ∀ {xs : List α}, (∀ x ∈ xs, f x = g x) → xs.any f = xs.any g
  | [], _ => rfl
  | x :: xs, h => by rw [List.any_cons, List.any_cons, h x (List.mem_cons_self ..), any_mem fun y hy => h y (List.mem_cons_of_mem _ hy)]
theorem fits_tree {kv : List (Str × PV)} {w : Str} {p : PV} (h1 : (kv.map (·.1)).Nodup) (h2 : ∀ q ∈ kv, q.1 ∈ pool7) (hw : w ∈ pool7) (hp : p ∈ leafs) :
    fitsP w p (treeV kv) = (match getF kv w with | some v => !isTup v && decide (rep v = rep p) | none => false) := by
  have e : fitsP w p (treeV kv) = kv.any fun q => (decide (q.1 = w) && (!isTup q.2 && decide (rep q.2 = rep p))) := by
    have : fldsOf (treeV kv) = kv.map fldV := rfl
    rw [fitsP, this, List.any_map]
    refine any_mem fun q hq => ?_
    exact pair_eq (h2 q hq) hw hp
  rw [e]
  have e2 : kv.any (fun q => (decide (q.1 = w) && (!isTup q.2 && decide (rep q.2 = rep p)))) = (kv.filter fun q => decide (q.1 = w)).any fun q => (!isTup q.2 && decide (rep q.2 = rep p)) := by
    rw [List.any_filter]
  rw [e2, filter_get w h1]
  cases getF kv w <;> simp
theorem fits_sp {ff fl ft} (hf : SpFields ff) (hl : SpLikeP fl) (ht : SpKind "tree" ft) : SpFits (defV 3 GN.N_fits (GN.b_fits ff fl ft)) := by
  intro V w p G hV hw hp
  have e1 := ht V G hV.dat
  cases hV with
  | plain h =>
    have e2 : fitsP w p V = false := by simp [fitsP, fldsOf, leaf_head h]
    rw [leaf_head h] at e1
    simp [defV, GN.b_fits, GN.N_fits, env0, e1, e2, trim_same]
  | row h =>
    rename_i xs
    have e2 : fitsP w p (rowV xs) = false := rfl
    have e3 : headed "tree" (rowV xs) = none := rfl
    rw [e3] at e1
    simp [defV, GN.b_fits, GN.N_fits, env0, e1, e2, trim_same]
  | tree h1 h2 h3 =>
    rename_i kv
    have e3 : headed "tree" (treeV kv) = some (kv.map fldV) := rfl
    rw [e3] at e1
    have e4 := hf kv G h1
    have e5 := fits_tree h1 h2 hw hp
    have e6 := inA_last (G := G) (kv := kv) (w := w)
    cases hg : getF kv w with
    | none =>
      rw [hg] at e5 e6
      have tb : trimR G (.ok (.bl false) (G ++ [.dic (kd kv)])) = .ok (.bl false) G := trim_back rfl
      simp [defV, GN.b_fits, GN.N_fits, env0, e1, e4, e5, e6, tb]
    | some v =>
      rw [hg] at e5 e6
      have e7 := ixA_last (G := G) hg
      have hv : Val v := by
        unfold getF at hg
        obtain ⟨q, hq, rfl⟩ := Option.map_eq_some_iff.mp hg
        exact h3 q (List.mem_of_find?_eq_some hq)
      have e8 := hl v p (G ++ [.dic (kd kv)]) hv.dat hv.tup hp
      have tb : trimR G (.ok (.bl (!isTup v && decide (rep v = rep p))) (G ++ [.dic (kd kv)])) = .ok (.bl (!isTup v && decide (rep v = rep p))) G := trim_back rfl
      simp [defV, GN.b_fits, GN.N_fits, env0, e1, e4, e5, e6, e7, e8, tb]
end EV
end
section
/-! M12: loops that turn nothing; what comes by a step. -/
set_option Elab.async false
set_option linter.all false
set_option maxRecDepth 100000
namespace EV
open PySem PySem.Spec PyProof.Rows L2
@[simp] theorem wne1 : (("field" : Str) = "at") = False := by decide
@[simp] theorem wne2 : (("field" : Str) = "each") = False := by decide
@[simp] theorem wne3 : (("field" : Str) = "where") = False := by decide
@[simp] theorem wne4 : (("field" : Str) = "row") = False := by decide
@[simp] theorem wne5 : (("field" : Str) = "tree") = False := by decide
@[simp] theorem wne6 : (("at" : Str) = "field") = False := by decide
@[simp] theorem wne7 : (("at" : Str) = "each") = False := by decide
@[simp] theorem wne8 : (("at" : Str) = "where") = False := by decide
@[simp] theorem wne9 : (("at" : Str) = "row") = False := by decide
@[simp] theorem wne10 : (("at" : Str) = "tree") = False := by decide
@[simp] theorem wne11 : (("each" : Str) = "field") = False := by decide
@[simp] theorem wne12 : (("each" : Str) = "at") = False := by decide
@[simp] theorem wne13 : (("each" : Str) = "where") = False := by decide
@[simp] theorem wne14 : (("each" : Str) = "row") = False := by decide
@[simp] theorem wne15 : (("each" : Str) = "tree") = False := by decide
@[simp] theorem wne16 : (("where" : Str) = "field") = False := by decide
@[simp] theorem wne17 : (("where" : Str) = "at") = False := by decide
@[simp] theorem wne18 : (("where" : Str) = "each") = False := by decide
@[simp] theorem wne19 : (("where" : Str) = "row") = False := by decide
@[simp] theorem wne20 : (("where" : Str) = "tree") = False := by decide
@[simp] theorem wne21 : (("row" : Str) = "field") = False := by decide
@[simp] theorem wne22 : (("row" : Str) = "at") = False := by decide
@[simp] theorem wne23 : (("row" : Str) = "each") = False := by decide
@[simp] theorem wne24 : (("row" : Str) = "where") = False := by decide
@[simp] theorem wne25 : (("row" : Str) = "tree") = False := by decide
@[simp] theorem wne26 : (("tree" : Str) = "field") = False := by decide
@[simp] theorem wne27 : (("tree" : Str) = "at") = False := by decide
@[simp] theorem wne28 : (("tree" : Str) = "each") = False := by decide
@[simp] theorem wne29 : (("tree" : Str) = "where") = False := by decide
@[simp] theorem wne30 : (("tree" : Str) = "row") = False := by decide
theorem fm_filter {α : Type} {P : α → Bool} : ∀ {xs : List α}, xs.filterMap (fun t => if P t = true then some t else none) = xs.filter P
  | [] => rfl
  | x :: xs => by
    rw [List.filterMap_cons, List.filter_cons, fm_filter (xs := xs)]
    cases P x <;> rfl
theorem loop_pure {f : PV → GH → Res (Option PV)} {h : PV → Option PV} {gd : GH → Bool} {G : GH} (hg : gd G = true) : ∀ {xs : List PV}, (∀ x ∈ xs, f x G = .ok (h x) G) → loopC f gd xs G = .ok (xs.filterMap h) G
  | [], _ => by simp [loopC, hg]
  | x :: xs, e => by
    have e1 := e x (List.mem_cons_self ..)
    have e2 := loop_pure (f := f) (h := h) hg (xs := xs) fun y hy => e y (List.mem_cons_of_mem _ hy)
    simp only [loopC, hg, if_true, e1, e2, Res.bind_ok, List.filterMap_cons]
    cases h x <;> rfl
theorem loopI_pure {f : PV → GH → Res (Option PV)} {h : PV → Option PV} {gd : GH → Bool} {G : GH} (hg : gd G = true) : ∀ {xs : List PV} {k : Nat}, (∀ x ∈ xs, f x G = .ok (h x) G) → k + xs.length ≤ sizeLine → loopI f gd k xs G = .ok (xs.filterMap h) G
  | [], k, _, _ => by simp [loopI, hg]
  | x :: xs, k, e, z => by
    have e1 := e x (List.mem_cons_self ..)
    rw [List.length_cons] at z
    simp only [loopI, hg, if_true, e1, Res.bind_ok, List.filterMap_cons]
    cases h x with
    | none => exact loopI_pure (f := f) hg (fun y hy => e y (List.mem_cons_of_mem _ hy)) (by omega)
    | some y =>
      have e2 := loopI_pure (f := f) (h := h) hg (xs := xs) (k := k + 1) (fun y hy => e y (List.mem_cons_of_mem _ hy)) (by omega)
      simp only [e2, Res.bind_ok, if_pos (show k < sizeLine by omega)]
theorem loopO_pure {hh : Nat → PV → GH → Res (List PV)} {g : PV → List PV} {gd : GH → Bool} {G : GH} (hg : gd G = true) : ∀ {xs : List PV} {k : Nat}, (∀ x ∈ xs, ∀ k, k + (g x).length ≤ sizeLine → hh k x G = .ok (g x) G) → k + (xs.flatMap g).length ≤ sizeLine → loopO hh gd k xs G = .ok (xs.flatMap g) G
  | [], k, _, _ => by simp [loopO, hg]
  | x :: xs, k, e, z => by
    rw [List.flatMap_cons, List.length_append] at z
    have e1 := e x (List.mem_cons_self ..) k (by omega)
    have e2 := loopO_pure (hh := hh) (g := g) hg (xs := xs) (k := k + (g x).length) (fun y hy => e y (List.mem_cons_of_mem _ hy)) (by omega)
    simp only [loopO, hg, if_true, e1, e2, Res.bind_ok, List.flatMap_cons]
/-- small values -/
structure Sm (V : PV) : Prop where
  val : Val V
  w : wgt V ≤ 100000
  d : dep V ≤ 40
theorem fits_of {ps : List PV} (h : ∀ p ∈ ps, fitB p = true) : fitBs ps = true := by
  induction ps with
  | nil => rfl
  | cons p ps ih => simp [fitBs, h p (List.mem_cons_self ..), ih fun q hq => h q (List.mem_cons_of_mem _ hq)]
theorem word_fit {w : Str} (h : w ∈ pool7) : PyData.strOk w = true := by
  have t : pool7.all PyData.strOk = true := by decide +kernel
  exact List.all_eq_true.mp t w h
theorem Val.fit {p : PV} (h : Val p) : fitB p = true := by
  induction h with
  | plain h => exact leaf_fit h
  | row _ ih =>
    have e := fits_of ih
    have e2 : PyData.strOk "row" = true := by decide +kernel
    simp [rowV, fitB, fitBs, e, e2]
  | tree h1 h2 h3 ih =>
    rename_i kv
    have e : fitBs (kv.map fldV) = true := fits_of fun p hp => by
      obtain ⟨q, hq, rfl⟩ := List.mem_map.mp hp
      simp [fitB, fitBs, word_fit (h2 q hq), ih q hq]
    have e2 : PyData.strOk "tree" = true := by decide +kernel
    simp [treeV, fitB, fitBs, e, e2]
theorem wgts_len : ∀ ps : List PV, ps.length ≤ wgts ps
  | [] => by simp [wgts]
  | p :: ps => by have := wgts_len ps; simp only [List.length_cons, wgts]; omega
theorem wgts_mem {ps : List PV} {p : PV} (h : p ∈ ps) : wgt p + 1 ≤ wgts ps := by
  induction ps with
  | nil => cases h
  | cons q ps ih =>
    simp only [wgts]
    rcases List.mem_cons.mp h with rfl | h
    · omega
    · have := ih h; omega
theorem deps_mem {ps : List PV} {p : PV} (h : p ∈ ps) : dep p ≤ deps ps := by
  induction ps with
  | nil => cases h
  | cons q ps ih =>
    simp only [deps]
    rcases List.mem_cons.mp h with rfl | h
    · exact Nat.le_max_left _ _
    · exact Nat.le_trans (ih h) (Nat.le_max_right _ _)
theorem wgt_row (xs : List PV) : wgts xs ≤ wgt (rowV xs) := by simp only [rowV, wgt, wgts]; omega
theorem wgt_tree (kv : List (Str × PV)) : wgts (kv.map fldV) ≤ wgt (treeV kv) := by simp only [treeV, wgt, wgts]; omega
theorem dep_row (xs : List PV) : deps xs + 2 ≤ dep (rowV xs) := by simp only [rowV, dep, deps]; omega
theorem dep_tree (kv : List (Str × PV)) : deps (kv.map fldV) + 2 ≤ dep (treeV kv) := by simp only [treeV, dep, deps]; omega
theorem Sm.row {xs : List PV} (h : Sm (rowV xs)) : ∀ x ∈ xs, Sm x := fun x hx => by
  have v : ∀ x ∈ xs, Val x := by
    have := h.val
    generalize hV : rowV xs = V at this
    cases this with
    | plain h => rw [← hV] at h; exact absurd (leaf_tup h) (by simp [rowV, isTup])
    | row h => simp only [rowV, PV.tup.injEq, List.cons.injEq, and_true, true_and] at hV; subst hV; exact h
    | tree _ _ _ =>
      simp [rowV, treeV] at hV
  have h1 := wgts_mem hx
  have h2 := deps_mem hx
  have h3 := wgt_row xs
  have h4 := dep_row xs
  have h5 := h.w
  have h6 := h.d
  exact ⟨v x hx, by omega, by omega⟩
theorem Sm.tree {kv : List (Str × PV)} (h : Sm (treeV kv)) (h2 : ∀ q ∈ kv, Val q.2) : ∀ q ∈ kv, Sm q.2 := fun q hq => by
  have h1 := wgts_mem (List.mem_map.mpr ⟨q, hq, rfl⟩ : fldV q ∈ kv.map fldV)
  have h2' := deps_mem (List.mem_map.mpr ⟨q, hq, rfl⟩ : fldV q ∈ kv.map fldV)
  have h3 := wgt_tree kv
  have h4 := dep_tree kv
  have h5 := h.w
  have h6 := h.d
  simp only [fldV, wgt, wgts, dep, deps] at h1 h2'
  exact ⟨h2 q hq, by omega, by omega⟩
def SpCome (f : List PV → GH → Res PV) : Prop := ∀ (s : Stp) V G, s.ok → Sm V → f [s.pv, V] G = .ok (.lst (s.c V)) G
def SpComeL (f : List PV → GH → Res PV) : Prop := ∀ (s : Stp) V G, s.ok → Sm V → f [V, s.pv] G = .ok (.lst (s.c V)) G
section
variable {G : GH} {ρ : Env}
theorem gStar_1 {i j : Nat} {x : PV} {ps : List PV} : gStarE 1 (gConsE (gN i) (gConsE (gN j) gNilE)) (.tup (x :: ps)) ρ G = .ok ((ρ.set i (some x)).set j (some (.lst ps))) G := by
  simp [gStarE, gConsE, gNilE, gN]
theorem lenum_ok {ps : List PV} (h : ps.length ≤ 1000000) : bLenum false [.tup ps] G = .ok (.lst (enP ps)) G := by
  have : (enP ps).length ≤ sizeLine := by rw [size_line]; simp [enP]; omega
  simp only [bLenum, mkL, if_pos this]; rfl
theorem mem_enP {ps : List PV} {t : PV} (h : t ∈ enP ps) : ∃ i x, t = .tup [.int i, x] ∧ x ∈ ps ∧ 0 ≤ i ∧ i < ps.length := by
  obtain ⟨q, hq, rfl⟩ := List.mem_map.mp h
  have h1 := (List.of_mem_zip hq).1
  have h2 := (List.of_mem_zip hq).2
  exact ⟨_, _, rfl, h2, by omega, by have := List.mem_range.mp h1; omega⟩
@[simp] theorem opSl_lst {ps : List PV} {lo hi : Option Int} : opSl (.lst ps) lo hi G = .ok (.lst (cutP ps lo hi)) G := rfl
@[simp] theorem opSl_tup {ps : List PV} {lo hi : Option Int} : opSl (.tup ps) lo hi G = .ok (.tup (cutP ps lo hi)) G := rfl
@[simp] theorem gTup2_ap {i j : Nat} {x y : PV} : gTupE 2 (gConsE (gN i) (gConsE (gN j) gNilE)) (.tup [x, y]) ρ G = .ok ((ρ.set i (some x)).set j (some y)) G := by
  simp [gTupE, gConsE, gNilE]
@[simp] theorem mDNew_ap : mDNew ρ G = .ok (.obj G.length) (G ++ [.dic []]) := rfl
@[simp] theorem mSeq_ap {m : Env → GH → Res PV} : mSeq m ρ G = (m ρ G).bind seqSrc := rfl
@[simp] theorem seqSrc_tup {ps : List PV} : seqSrc (.tup ps) G = .ok ⟨ps, fun _ => true⟩ G := rfl
@[simp] theorem seqSrc_lst {ps : List PV} : seqSrc (.lst ps) G = .ok ⟨ps, fun _ => true⟩ G := rfl
theorem mComp_ap {ms : Env → GH → Res Src} {tg : PV → Env → GH → Res Env} {tt : Env → GH → Res Bool} {el : Env → GH → Res PV} {own : List Nat} : mComp false ms tg tt el own ρ G = (ms ρ G).bind fun S G1 => (loopC (compF tg tt el own ρ) S.gd S.its G1).bind fun ys G5 => .ok (.lst ys) G5 := rfl
end
end EV
end
section
set_option Elab.async false
set_option linter.all false
set_option maxRecDepth 100000
/-! Ev30: sets of texts: one more text. -/
namespace EV
open PySem PySem.Spec PyProof.Rows L2
abbrev KT (P : Program) (w : World) := PySem.strKind P w
def keyT (e : Int × Value) : Str := match e.2 with
  | .str k _ => k
  | _ => Str.empty
def TxtE (P : Program) (w : World) (e : Int × Value) : Prop := ∃ k tk, e.2 = Value.str k tk ∧ e.1 = (KT P w).hash k
/-- the set at a holds the texts of L, in some order -/
structure SetT (P : Program) (w : World) (h : Heap) (a : Addr) (L : List Str) : Prop where
  ex : ∃ o es ep t, h.get? a = some o ∧ o.ExactSet ∧ o.data = .set es ep t ∧ (∀ e ∈ es.toList, TxtE P w e) ∧ (es.toList.map keyT).Perm L ∧ es.size < scanBound ∧ t.fits es.size = true ∧ Ris t.place.toList ∧ (w.params.followText "set-order" = true ∨ t.led = true)
  nd : L.Nodup
/-- one more -/
def insT (L : List Str) (k : Str) : List Str := if k ∈ L then L else k :: L
section
variable {P : Program} {w : World} {h h' : Heap} {a : Addr} {L : List Str}
theorem SetT.at (R : SetT P w h a L) (k : ∀ o, h.get? a = some o → h'.get? a = some o) : SetT P w h' a L := by
  obtain ⟨⟨o, es, ep, t, ho, r⟩, nd⟩ := R
  exact ⟨⟨o, es, ep, t, k o ho, r⟩, nd⟩
theorem txt_elems {l : List (Int × Value)} (g : ∀ e ∈ l, TxtE P w e) : ElemsOf (KT P w) l := fun e he => by
  obtain ⟨k, tk, h1, h2⟩ := g e he
  refine ⟨⟨k, ?_, h2⟩, ?_⟩
  · rw [h1]; exact strKind_is P w k tk
  · rw [h1]; rfl
theorem txt_is {e : Int × Value} (g : TxtE P w e) (k : Str) : (KT P w).is k e.2 = true ↔ keyT e = k := by
  obtain ⟨x, tk, h1, _⟩ := g
  unfold keyT
  rw [h1]
  show ((x == k) = true) ↔ x = k
  exact beq_iff_eq
theorem txt_mem {l : List (Int × Value)} (g : ∀ e ∈ l, TxtE P w e) (k : Str) : k ∈ l.map keyT ↔ ∃ e ∈ l, (KT P w).is k e.2 = true := by
  rw [List.mem_map]
  exact ⟨fun ⟨e, he, q⟩ => ⟨e, he, (txt_is (g e he) k).2 q⟩, fun ⟨e, he, q⟩ => ⟨e, he, (txt_is (g e he) k).1 q⟩⟩
end
section
variable {P : Program} {w : World} {A : Around} {E : Value → Shared → Prop} {s : Shared} {a : Addr} {L : List Str}
theorem gave_way {gv : Bool} {s1 : Shared} {Q : Unit → Shared → Prop} (q : Q () s1) : wpAny (model P w) A (match gv with
    | true => rule "set.scan.the-table-gave-way"
    | false => pure ()) Q E s1 := by
  cases gv
  · exact wpAny_pure q
  · exact wpAny_rule q
/-- the new table is laid, all anew where it is too full -/
theorem txt_lay {g : Bool → Sem Unit} (hg : ∀ (b : Bool) (s1 : Shared) (Q : Unit → Shared → Prop), Q () s1 → wpAny (model P w) A (g b) Q E s1) {o : Obj} {es es1 : Array (Int × Value)} {ep : Nat} {t t2 : SetTable} {M : List Str} {dm : Bool} {R : Option Bool → Shared → Prop}
    (ho : s.heap.get? a = some o) (hex : o.ExactSet) (hd : o.data = .set es ep t) (g1 : ∀ e ∈ es1.toList, TxtE P w e) (p1 : (es1.toList.map keyT).Perm M) (nd : M.Nodup) (hb1 : es1.size < scanBound) (hf2 : t2.fits es1.size = true) (hr : Ris t2.place.toList)
    (hl : w.params.followText "set-order" = true ∨ t2.led = true) (hR : ∀ h', Heap.SameBut a s.heap h' → SetT P w h' a M → R (some true) { s with heap := h' }) :
    wpAny (model P w) A (do
        storeSet a es1 t2
        if (!dm && t2.tooFull) = true then do
            g (relayAll t2 es1 (SetTable.grown es1.size)).2.2
            storeSet a (relayAll t2 es1 (SetTable.grown es1.size)).1 (relayAll t2 es1 (SetTable.grown es1.size)).2.1
            pure (some true)
          else pure (some true)) R E s := by
  have o1 := store_at (es' := es1) (t' := t2) ho hd
  have b1 := Heap.SameBut.update s.heap a (Obj.putSet es1 t2)
  refine wpAny_bind (wpAny_storeSet_of ho hd ?_ (fits_of_scanBound hb1))
  by_cases full : (!dm && t2.tooFull) = true
  · rw [if_pos full]
    have pm := relayAll_perm t2 es1 (SetTable.grown es1.size)
    have f3 := relayAll_fits t2 es1 (SetTable.grown es1.size)
    have r3 := relayAll_ris t2 es1 (SetTable.grown es1.size)
    have l3 := relayAll_led t2 es1 (SetTable.grown es1.size)
    generalize relayAll t2 es1 (SetTable.grown es1.size) = Z at pm f3 r3 l3 ⊢
    obtain ⟨es2, t3, gv⟩ := Z
    dsimp only at pm f3 r3 l3 ⊢
    have z2 : es2.size = es1.size := by rw [← Array.length_toList, pm.length_eq, Array.length_toList]
    have hb2 : es2.size < scanBound := z2 ▸ hb1
    refine wpAny_bind (hg _ _ _ (wpAny_bind (wpAny_storeSet_of o1 rfl ?_ (fits_of_scanBound hb2))))
    have o2 := store_at (es' := es2) (t' := t3) o1 rfl
    exact wpAny_pure (hR _ (b1.trans (Heap.SameBut.update _ a _)) ⟨⟨_, es2, _, t3, o2, hex, rfl, fun e he => g1 e (pm.mem_iff.mp he), (pm.map keyT).trans p1, hb2, f3, r3, hl.imp id fun z => l3.trans z⟩, nd⟩)
  · rw [if_neg full]
    exact wpAny_pure (hR _ b1 ⟨⟨_, es1, _, t2, o1, hex, rfl, g1, p1, hb1, hf2, hr, hl⟩, nd⟩)
theorem txt_add {k : Str} {tk : Tok} {Q : Bool → Shared → Prop} (R : SetT P w s.heap a L) (room : L.length + 1 < scanBound) (hQ : ∀ h' b, Heap.SameBut a s.heap h' → SetT P w h' a (insT L k) → Q b { s with heap := h' }) :
    wpAny (model P w) A (setAddHashed a (.str k tk) ((KT P w).hash k)) Q E s := by
  obtain ⟨⟨o, es, ep, t, ho, hex, hd, g, pl, hb, hf, hr, hl⟩, nd⟩ := R
  have isk : (KT P w).is k (.str k tk) = true := strKind_is P w k tk
  have sc : (Value.str k tk).scannable = true := rfl
  have el : ElemsOf (KT P w) es.toList := txt_elems g
  unfold setAddHashed setAddHashedIn
  refine wpAny_holding (wpAny_bind (wpAny_setState_of ho hd hf ?_))
  dsimp only
  rw [byScan_of sc hb el]
  simp only [↓reduceIte]
  unfold setAddByScan
  refine wpAny_bind (wpAny_bind (wpAny_rule (wpAny_bind (wpAny_setScan_of isk ho hd hf el ?_))))
  cases fi : List.findIdx? (fun e => (KT P w).is k e.2) es.toList with
  | some j =>
    dsimp only
    obtain ⟨hj, pj, _⟩ := List.findIdx?_eq_some_iff_getElem.mp fi
    have inL : k ∈ L := pl.mem_iff.mp ((txt_mem g k).2 ⟨_, List.getElem_mem hj, pj⟩)
    refine wpAny_pure (wpAny_pure (hQ s.heap _ (Heap.SameBut.refl a s.heap) ?_))
    unfold insT
    rw [if_pos inL]
    exact ⟨⟨o, es, ep, t, ho, hex, hd, g, pl, hb, hf, hr, hl⟩, nd⟩
  | none =>
    dsimp only
    have outL : k ∉ L := fun z => by
      obtain ⟨e, he, q⟩ := (txt_mem g k).1 (pl.mem_iff.mpr z)
      have c := List.findIdx?_eq_none_iff.mp fi e he
      rw [q] at c
      cases c
    have eL : insT L k = k :: L := by unfold insT; rw [if_neg outL]
    rw [eL] at hQ
    have pm := layNew_perm t es ((KT P w).hash k) (.str k tk)
    have f1 := layNew_fits t es ((KT P w).hash k) (.str k tk)
    have r1 := layNew_ris t es ((KT P w).hash k) (.str k tk) hr
    have l1 := layNew_led t es ((KT P w).hash k) (.str k tk)
    generalize layNew t es ((KT P w).hash k) (.str k tk) = Z at pm f1 r1 l1 ⊢
    obtain ⟨es1, t1, dm, gv⟩ := Z
    dsimp only at pm f1 r1 l1 ⊢
    rw [Array.toList_push] at pm
    have pc : es1.toList.Perm (((KT P w).hash k, Value.str k tk) :: es.toList) := pm.trans (List.perm_append_singleton _ _)
    have g1 : ∀ e ∈ es1.toList, TxtE P w e := fun e he => (List.mem_cons.mp (pc.mem_iff.mp he)).elim (fun z => ⟨k, tk, by rw [z], by rw [z]⟩) (g e)
    have p1 : (es1.toList.map keyT).Perm (k :: L) := (pc.map keyT).trans (pl.cons k)
    have n1 : (k :: L).Nodup := List.nodup_cons.mpr ⟨outL, nd⟩
    have b1 : es1.size < scanBound := by
      have q := p1.length_eq
      rw [List.length_map, Array.length_toList, List.length_cons] at q
      rw [q]; exact room
    have led : w.params.followText "set-order" = true ∨ t1.led = true := hl.imp id fun z => l1.trans z
    have way : ∀ (b : Bool) (s1 : Shared) (Q' : Unit → Shared → Prop), Q' () s1 → wpAny (model P w) A (match b with
        | true => rule "set.scan.the-table-gave-way"
        | false => pure ()) Q' E s1 := fun b s1 Q' q => gave_way q
    refine wpAny_bind (way _ _ _ ?_)
    split
    · refine wpAny_bind ?_
      rw [hashByValue_scannable 8 sc]
      refine wpAny_pure (txt_lay (fun b s1 Q' q => by cases b <;> first | exact wpAny_pure q | exact wpAny_rule q) ho hex hd g1 p1 n1 b1 ?_ ?_ ?_ fun h' sb r => ?_)
      · first | (split <;> first | exact f1 | exact SetTable.fits_plain_off f1) | exact f1
      · first | (split <;> exact r1) | exact r1
      · first | (split <;> exact led) | exact led
      · dsimp only; exact wpAny_pure (hQ h' _ sb r)
    · refine wpAny_bind (wpAny_pure ?_)
      simp only [↓reduceIte]
      refine txt_lay (fun b s1 Q' q => by cases b <;> first | exact wpAny_pure q | exact wpAny_rule q) ho hex hd g1 p1 n1 b1 f1 r1 led fun h' sb r => ?_
      dsimp only; exact wpAny_pure (hQ h' _ sb r)
theorem setT_fresh {h : Heap} : SetT P w (h.push { cls := .type "set", dict := none, data := .set #[] 0 (.fresh 0 0 (!w.params.followText "set-order")) }) h.objs.size [] :=
  ⟨⟨_, #[], 0, _, Heap.get?_push_size _ rfl, ⟨rfl, rfl, rfl⟩, rfl, fun e he => by simp at he, List.Perm.refl _, by decide, rfl, List.Pairwise.nil, by
    cases e : w.params.followText "set-order"
    · exact .inr rfl
    · exact .inl rfl⟩, List.nodup_nil⟩
end
end EV
end
section
set_option Elab.async false
set_option linter.all false
set_option maxRecDepth 100000
/-! Ev31: sorted(set(texts)). -/
namespace EV
open PySem PySem.Spec PyProof.Rows L2
theorem insT_len (L : List Str) (k : Str) : (insT L k).length ≤ L.length + 1 := by
  unfold insT; split <;> simp
theorem insT_mem {L : List Str} {k x : Str} : x ∈ insT L k ↔ x = k ∨ x ∈ L := by
  unfold insT; split
  · rename_i h; exact ⟨.inr, fun h' => h'.elim (fun e => e ▸ h) id⟩
  · exact List.mem_cons
section
variable {P : Program} {w : World} {A : Around} {E : Value → Shared → Prop} {s : Shared}
theorem set_update_txts {I : Addr} {fp wr : List Addr} {G : Array GenState → Array GenState → Prop} {n : Nat} {Pv : Nat → Value → Prop} {St : Nat → Shared → Prop} {R : Result → Shared → Prop}
    (W : WalksS P w A.in1 I fp wr G n Pv St) (S : Addr) (hSf : S ∉ fp) (xs : List Str) (hn : n = xs.length) (hfew : xs.length + 1 < scanBound) (hval : ∀ i v, Pv i v → ∃ x t, xs[i]? = some x ∧ v = .str x t) :
    ∀ (k i : Nat) (s : Shared), n - i = k → i ≤ n → St i s → (∃ L, SetT P w s.heap S L ∧ L.length ≤ i ∧ ∀ x, x ∈ L ↔ x ∈ xs.take i) →
      (∀ s' L, Moved (S :: wr) G s s' → SetT P w s'.heap S L → L.length ≤ xs.length → (∀ x, x ∈ L ↔ x ∈ xs) → R (.ok (.ret .none)) s') →
      codeAny (model P w) A (.builtin "set.update.loop" ⟨[.ref S, .ref I], []⟩) R s := by
  have hSw : S ∉ wr := fun h => hSf (W.sub _ h)
  have hsub : ∀ b ∈ wr, b ∈ S :: wr := fun b hb => List.mem_cons_of_mem _ hb
  intro k
  induction k with
  | zero =>
    intro i s hk' hi hst ⟨L, hS, hl, g⟩ hR
    have hin : i = n := by omega
    subst hin
    refine codeAny_builtin F.entry_set_update_loop ?_
    rw [Around.under_plainId F.plain_set_update_loop _]
    show wpAny _ A.in1 (pyNext (.ref I) >>= _) _ _ s
    refine wpAny_bind (W.done s _ _ hst fun s' hm => ?_)
    show wpAny _ A.in1 (ret Value.none) _ _ s'
    refine wpAny_pure (hR s' L (hm.mono hsub) (hS.at fun o e => hm.heap S o hSw e) (by omega) fun x => ?_)
    rw [g x, hn, List.take_length]
  | succ k ih =>
    intro i s hk' hi hst ⟨L, hS, hl, g⟩ hR
    have hlt : i < n := by omega
    refine codeAny_builtin F.entry_set_update_loop ?_
    rw [Around.under_plainId F.plain_set_update_loop _]
    show wpAny _ A.in1 (pyNext (.ref I) >>= _) _ _ s
    refine wpAny_bind (W.item i s _ _ hlt hst fun v s' hP hst' hm => ?_)
    obtain ⟨x, t, hx, rfl⟩ := hval i v hP
    have hS' : SetT P w s'.heap S L := hS.at fun o e => hm.heap S o hSw e
    show wpAny _ A.in1 (holding [Value.str x t] (setAdd S (.str x t)) >>= _) _ _ s'
    refine wpAny_bind (wpAny_holding ?_)
    unfold setAdd
    refine wpAny_holding ?_
    refine wpAny_bind ((PySem.strKind P w).pyHash (k := x) (strKind_is _ _ _ _) ?_)
    refine txt_add (s := { s' with toks := s'.toks + 1 }) hS' (by omega) fun h' b hsb hS2 => ?_
    have tk : xs.take (i + 1) = xs.take i ++ [x] := by rw [List.take_succ, hx]; rfl
    refine wpAny_pure ⟨plainId_quiet F.plain_set_update_loop _, ih (i + 1) _ (by omega) hlt (W.frame _ s' _ _ hst' (Nat.le_succ _) fun b hb o e => ?_) ⟨_, hS2, ?_, fun y => ?_⟩ fun s'' L2 hm'' hS'' hl'' g'' => ?_⟩
    · rw [hsb.2 b (fun h : b = S => hSf (by rw [← h]; exact hb))]; exact e
    · have := insT_len L x; omega
    · rw [insT_mem, g y, tk, List.mem_append, List.mem_singleton]; exact or_comm
    · refine hR s'' L2 (Moved.trans W.gtrans ((hm.mono hsub).then_heap (Nat.le_succ _) fun b o hb e => ?_) hm'') hS'' hl'' g''
      rw [hsb.2 b (fun h : b = S => hb (by rw [h]; exact List.mem_cons_self))]; exact e
theorem strsX_at : ∀ {us : List Value} {xs : List Str}, StrsAre us xs → ∀ (i : Nat) (v : Value), us[i]? = some v → ∃ t, v = .str (xs.getD i Str.empty) t
  | _, _, .nil, i, v, h => by simp at h
  | _, _, .cons k t r, 0, v, h => by cases h; exact ⟨t, rfl⟩
  | _, _, .cons k t r, i + 1, v, h => strsX_at r i v h
set_option maxHeartbeats 3200000 in
theorem call_set_txts {l : Addr} {items : Array Value} (xs : List Str) {Q : Value → Shared → Prop} (hh : A.handled = none) (hl : s.heap.IsList l items) (hi : PyProof.Rows.StrsAre items.toList xs) (hfew : xs.length + 1 < scanBound)
    (h : ∀ (h' : Heap) (tk : Nat) L, SetT P w h' s.heap.objs.size L → L.length ≤ xs.length → (∀ x, x ∈ L ↔ x ∈ xs) → (∀ b o, s.heap.get? b = some o → h'.get? b = some o) → Q (.ref s.heap.objs.size) { s with heap := h', toks := tk }) :
    wpAny (model P w) A (call (.type "set") [.ref l]) Q E s := by
  have hisz : items.size = xs.length := by rw [← StrsAre.len_eq hi, Array.length_toList]
  obtain ⟨c, tl, hmro⟩ := F.called_set.mro
  have hmade := F.called_set.made
  have hsub := F.called_set.sub
  refine wpAny_call (codeAny_of_tree ?_)
  show wpAny _ _ (callAny (.type "set") _) _ _ _
  refine wpAny_pure ⟨Code.quiet_builtin _ (by decide +kernel), codeAny_builtin F.entry_type_call ?_⟩
  rw [Around.under_plain (weight_type_call_type "set" [.ref l] []) rfl]
  have h1 := F.called_set.notType
  have h2 := F.called_set.canCreate
  have hct := F.typeCall_set_1 (.ref l)
  repeat (any_goals (first | assumption | wp_step))

  refine codeAny_mono (code_set_led1 (.ref l) (E := E) (Q₁ := fun obj s₁ => obj = .ref s.heap.objs.size ∧ s₁ = { s with heap := s.heap.push { cls := .type "set", dict := none, data := .set #[] 0 (.fresh 0 0 (!w.params.followText "set-order")) } }) ⟨rfl, rfl⟩) fun r s₁ hr => ?_
  cases r with
  | error e => exact hr
  | ok fl =>
    cases fl with
    | ret obj =>
      obtain ⟨rfl, rfl⟩ := hr
      have hS : (s.heap.push { cls := .type "set", dict := none, data := .set #[] 0 (.fresh 0 0 (!w.params.followText "set-order")) }).get? s.heap.objs.size = some { cls := .type "set", dict := none, data := .set #[] 0 (.fresh 0 0 (!w.params.followText "set-order")) } := Heap.get?_push_size _ rfl
      have hT : Shared.TypeIs { s with heap := s.heap.push { cls := .type "set", dict := none, data := .set #[] 0 (.fresh 0 0 (!w.params.followText "set-order")) } } (.ref s.heap.objs.size) "set" := ⟨_, hS, rfl⟩
      have hli := F.called_set.init.lookup
      have hbi := F.called_set.init.bind (.ref s.heap.objs.size)
      repeat (any_goals (first | assumption | wp_step))

      refine codeAny_mono (codeAny_call_builtin (R := wants (fun r s₂ => r = .none ∧ ∃ h' tk L, s₂ = { s with heap := h', toks := tk } ∧ SetT P w h' s.heap.objs.size L ∧ L.length ≤ xs.length ∧ (∀ x, x ∈ L ↔ x ∈ xs) ∧
          (∀ b o, s.heap.get? b = some o → h'.get? b = some o)) E) F.called_set.init.plain F.entry_set_init (check_set_init_1 hT ?_)) fun r₂ s₂ hr₂ => ?_
      · obtain ⟨ol, hol, hcl, nl, hdl⟩ := hl
        obtain ⟨ocls, odict, odata, oslots⟩ := ol
        simp only at hcl hdl
        subst hcl; subst hdl
        have hol' : (s.heap.push { cls := .type "set", dict := none, data := .set #[] 0 (.fresh 0 0 (!w.params.followText "set-order")) }).get? l = some { cls := .type "list", dict := odict, data := .seq items nl, slots := oslots } := Heap.get?_push_of_some _ hol
        have hsls := F.sub_list_set
        have hslf := F.sub_list_frozenset
        have hne : (Value.type "list" == Value.type "dict") = false := by decide
        have hl1 : (s.heap.push { cls := .type "set", dict := none, data := .set #[] 0 (.fresh 0 0 (!w.params.followText "set-order")) }).IsList l items := ⟨_, hol', rfl, nl, rfl⟩
        unfold Builtin.«set.__init__» noKeywords Builtin.Frozenset.updateFrom
        generalize hPI : pyIter = PI
        wp_walk
        subst hPI

        refine wpAny_pyIter_list hl1 ?_
        refine wpAny_bind (wpAny_runValue ?_)
        have hlS : l < s.heap.objs.size := Heap.lt_size hol
        have hh3 : A.in1.in1.in1.handled = none := by simp [hh]
        have hneI : l ≠ (s.heap.push { cls := .type "set", dict := none, data := .set #[] 0 (.fresh 0 0 (!w.params.followText "set-order")) }).objs.size := by
          rw [Heap.size_push]; exact Nat.ne_of_lt (Nat.lt_succ_of_lt hlS)
        have hSf : s.heap.objs.size ∉ [(s.heap.push { cls := .type "set", dict := none, data := .set #[] 0 (.fresh 0 0 (!w.params.followText "set-order")) }).objs.size, l] := by
          rw [Heap.size_push]; simp only [List.mem_cons, List.mem_singleton, List.not_mem_nil, or_false, not_or]
          exact ⟨Nat.ne_of_lt (Nat.lt_succ_self _), Nat.ne_of_gt hlS⟩
        have hval : ∀ (i : Nat) (v : Value), items[i]? = some v → ∃ x t, xs[i]? = some x ∧ v = .str x t := fun i v hv => by
          obtain ⟨t, e⟩ := strsX_at hi i v (by rw [Array.getElem?_toList]; exact hv)
          have hlt : i < xs.length := by
            have := (Array.getElem?_eq_some_iff.mp hv).1
            omega
          exact ⟨xs.getD i Str.empty, t, by simp [List.getD, List.getElem?_eq_getElem hlt], e⟩
        refine set_update_txts ((Walks.list hh3 _ l hneI items).toS) s.heap.objs.size
          hSf xs hisz hfew hval (items.size - 0) 0 _ (by omega) (Nat.zero_le _)
          ⟨⟨_, Heap.get?_push_size _ rfl, rfl, rfl⟩, (hl1.push _)⟩ ?hS0 ?hR
        case hS0 => exact ⟨[], setT_fresh.at fun o e => Heap.get?_push_of_some _ e, Nat.le_refl _, fun x => by simp⟩
        case hR =>
          intro s' L hm hS' hl' g'
          obtain ⟨h', g2, d', tk', os'⟩ := s'
          have eg : g2 = s.gens := hm.gens
          have ed : d' = s.drawn := hm.drawn
          have eo : os' = s.os := hm.os
          subst eg; subst ed; subst eo
          show wpAny _ _ _ _ _ _
          refine wpAny_pure ?_
          show wpAny _ _ (ret Value.none) _ _ _
          refine wpAny_pure ⟨rfl, h', tk', L, rfl, hS', hl', g', fun b o e => ?_⟩
          have hb := Heap.lt_size e
          have hb1 : b ≠ s.heap.objs.size := Nat.ne_of_lt hb
          have hb2 : b ≠ (s.heap.push { cls := .type "set", dict := none, data := .set #[] 0 (.fresh 0 0 (!w.params.followText "set-order")) }).objs.size := by
            rw [Heap.size_push]; exact Nat.ne_of_lt (Nat.lt_succ_of_lt hb)
          exact hm.heap b o (by simp only [List.mem_cons, List.mem_singleton, List.not_mem_nil, or_false, not_or]; exact ⟨hb1, hb2⟩) (Heap.get?_push_of_some _ (Heap.get?_push_of_some _ e))

      · cases r₂ with
        | error e => exact hr₂
        | ok fl₂ =>
          cases fl₂ with
          | ret r =>
            obtain ⟨rfl, h', tk, L, rfl, hS', hl', g', hk'⟩ := hr₂
            repeat (any_goals (first | assumption | wp_step))
            exact h _ _ _ hS' hl' g' hk'
          | _ => exact hr₂.elim
    | _ => exact hr.elim
/-! ### sorted -/
theorem str_lt_trans {a b c : List Nat} (h : a ≤ b) (k : b ≤ c) : a ≤ c := List.le_trans h k
theorem rising_pw : ∀ (r : List Str) (p : Str), risingS p r = true → (p :: r).Pairwise fun a b => a.cps.toList ≤ b.cps.toList
  | [], p, _ => List.pairwise_singleton ..
  | x :: r, p, h => by
    simp only [risingS, Bool.and_eq_true, Bool.not_eq_true'] at h
    have h1 : p.cps.toList ≤ x.cps.toList := by
      have := h.1
      rw [← gt_meets] at this
      exact List.not_lt.mp (by simpa using this)
    have ih := rising_pw r x h.2
    refine List.pairwise_cons.mpr ⟨fun y hy => ?_, ih⟩
    rcases List.mem_cons.mp hy with rfl | hy
    · exact h1
    · exact List.le_trans h1 (List.rel_of_pairwise_cons ih hy)
theorem sortedS_pw {r : List Str} (h : sortedS r = true) : r.Pairwise fun a b => a.cps.toList ≤ b.cps.toList := by
  cases r with
  | nil => exact .nil
  | cons x r => exact rising_pw r x h
theorem strsAre_of_txt : ∀ (vs : List Value), (∀ v ∈ vs, ∃ k tk, v = Value.str k tk) → StrsAre vs (vs.map fun v => keyT (0, v))
  | [], _ => .nil
  | v :: l, h => by
    obtain ⟨k, tk, rfl⟩ := h v List.mem_cons_self
    exact .cons k tk (strsAre_of_txt l fun u hu => h u (List.mem_cons_of_mem _ hu))
theorem sorted_txts {a : Addr} {L : List Str} {Q : Value → Shared → Prop} (R : SetT P w s.heap a L) (hh : A.handled = none)
    (hQ : ∀ s' p (out : Array Value) (c : Nat) (ys : List Str), (∀ b o, s.heap.get? b = some o → s'.heap.get? b = some o) → s'.gens = s.gens → s'.os = s.os → s.heap.objs.size ≤ p →
      s'.heap.get? p = some (seqObj "list" out c) → StrsAre out.toList ys → ys.Perm L → ys.Pairwise (fun a b => a.cps.toList ≤ b.cps.toList) → Q (.ref p) s') :
    wpAny (model P w) A (call (.builtin "sorted") [.ref a]) Q E s := by
  obtain ⟨⟨o, es, ep, t, ho, hex, hd, g, pl, hb, hf, hr, hl⟩, nd⟩ := R
  refine Calls.call_function_entry kind_sorted plain_sorted entry_sorted (args_sorted1 _) ?_
  unfold Builtin.«sorted»
  refine wpAny_bind (m := checkCount "sorted" 1 1 _) (wpAny_pure ?_)
  refine wpAny_bind (collect_set (A := A.in1) hh ⟨o, ho, hex.1, hd⟩ hf hb hr hl fun s1 vs k1 hz g1 o1 pm => ?_)
  have hvl : vs.length = es.size := by rw [pm.length_eq, List.length_map, Array.length_toList]
  have hL : vs.length ≤ sizeLine := by rw [hvl]; exact fits_of_scanBound hb
  have hI : StrsAre vs (vs.map fun v => keyT (0, v)) := strsAre_of_txt vs fun v hv => by
    obtain ⟨e, he, q⟩ := List.mem_map.mp (pm.mem_iff.mp hv)
    obtain ⟨k, tk, h1, _⟩ := g e he
    exact ⟨k, tk, by rw [← q]; exact h1⟩
  have pk : (vs.map fun v => keyT (0, v)).Perm L := by
    have q := pm.map fun v => keyT (0, v)
    rw [List.map_map] at q
    exact q.trans pl
  refine wpAny_bind (wpAny_newList ?_ hL)
  have hoL : (s1.heap.push (seqObj "list" vs.toArray 0)).get? s1.heap.objs.size = some (seqObj "list" vs.toArray 0) := Heap.get?_push_size _ rfl
  refine wpAny_bind (wpAny_holding (wpAny_call_entry slot_list_sort ⟨_, hoL, rfl⟩ entry_list_sort (list_sort_treeKAny strKind_oneLt hoL hI.keysOf (fun v₁ v₂ rest e => keyKind_strs (by rw [← e]; exact hI)) hL fun st' hp hs => ⟨_, rfl, ?_⟩) (args_list_sort _)))
  obtain ⟨ys, a1, a2, a3⟩ := sorted_out_str hI hp hs
  obtain ⟨c, hc⟩ := sortedHeap_at (vs := vs) (out := (arrOf st').map (·.2)) hoL
  refine wpAny_pure ⟨_, rfl, hQ _ s1.heap.objs.size _ c ys (fun b u e => ?_) g1 o1 hz hc a1 (a2.trans pk) (sortedS_pw a3)⟩
  have q := k1 b u e
  have hlt := Heap.lt_size q
  show (sortedHeap (s1.heap.push (seqObj "list" vs.toArray 0)) s1.heap.objs.size vs _).get? b = some u
  rw [sortedHeap_old (Nat.ne_of_lt hlt) (by rw [size_push']; exact Nat.lt_succ_of_lt hlt)]
  exact Heap.get?_push_of_some _ q
end
/-! ### over the layer -/
def SetTx (P : Program) (w : World) (a : Addr) (L : List Str) : HO := .ext fun h => SetT P w h a L
theorem setTx_new {P : Program} {w : World} {H : Hp} {h : Heap} {a : Addr} {L : List Str} (R : SetT P w h a L) : ObjOk P w H h a (SetTx P w a L) :=
  ⟨R, R.ex.elim fun o ⟨_, _, _, ho, _⟩ => ⟨o, ho⟩, fun h1 h2 p k => SetT.at p k⟩
section
variable {X : Cx}
def rSetTx (K : PySem.W.Frag) (P : Program) (w : World) : List V → Hp → VK → Prop := fun xs H Q => ∃ (l : Addr) (zs : List Str), xs = [V.ref l] ∧ SqL K H l (zs.map V.str) ∧ zs.length ≤ 4000 ∧
  ∀ a L, H a = none → L.length ≤ zs.length → (∀ x, x ∈ L ↔ x ∈ zs) → Q (.ref a) (upd H a (SetTx P w a L))
theorem cr_setTx (hc : X.calm = true) : CallR X (.type "set") (rSetTx X.K X.prog X.w) := by
  intro pins s σ H xs us Q I r h
  obtain ⟨l, zs, rfl, hl, hf, q⟩ := h
  rw [Vals.ref1 r]
  obtain ⟨its, rv, pl, hz⟩ := I.list hl
  have hn : H s.heap.objs.size = none := I.hok.fresh (Nat.le_refl _)
  refine call_set_txts (P := X.prog) (w := X.w) zs (I.ok.hd hc) pl.isList (by simpa using strsAre_of rv) (by unfold scanBound; omega) fun h' tk L R hl' g k => ?_
  exact ⟨.ref s.heap.objs.size, upd H s.heap.objs.size (SetTx X.prog X.w s.heap.objs.size L), I.laid (t' := tk) k (Nat.le_refl _) (setTx_new R), rfl, q _ L hn hl' g⟩
def rSortedTx (P : Program) (w : World) : List V → Hp → VK → Prop := fun vs H Q => ∃ (a : Addr) (L : List Str), vs = [V.ref a] ∧ H a = some (SetTx P w a L) ∧ L.length ≤ 4000 ∧
  ∀ (ys : List Str) (p : Addr), ys.Perm L → L.Nodup → ys.Pairwise (fun a b => a.cps.toList ≤ b.cps.toList) → H p = none → Q (.ref p) (upd H p (.lst (ys.map V.str)))
theorem vals_of_strs : ∀ {us : List Value} {ys : List Str}, StrsAre us ys → Vals (ys.map V.str) us
  | _, _, .nil => .nil
  | _, _, .cons k t r => .cons ⟨t, rfl⟩ (vals_of_strs r)
theorem cr_sortedTx (hc : X.calm = true) : CallR X (.builtin "sorted") (rSortedTx X.prog X.w) := by
  intro pins s σ H vs us Q I r h
  obtain ⟨a, L, rfl, ha, hl, q⟩ := h
  have R : SetT X.prog X.w s.heap a L := (I.hok a _ ha).1
  rw [Vals.ref1 r]
  refine sorted_txts R (I.ok.hd hc) fun s' p out c ys k g o hp hg hi pm pw => ?_
  have hlen : (ys.map V.str).length ≤ sizeLine := by rw [List.length_map, pm.length_eq, sizeLine_eq]; omega
  have hn : H p = none := I.hok.fresh hp
  have J : Inv X pins σ (upd H p (.lst (ys.map V.str))) { s with heap := s'.heap, gens := s'.gens, drawn := s'.drawn, toks := s'.toks } :=
    I.call (ch := []) (Un.laid k hp hn) (I.hok.laid k hp ⟨hlen, out.toList, c, vals_of_strs hi, hg⟩) (by rw [g]; exact I.bare) (fun _ z => nomatch z)
  have e : s' = { s with heap := s'.heap, gens := s'.gens, drawn := s'.drawn, toks := s'.toks } := by
    cases s'
    cases s
    cases o
    rfl
  rw [e]
  exact ⟨.ref p, _, J, rfl, q ys p pm R.nd pw hn⟩
end
end EV
end
section
set_option Elab.async false
set_option linter.all false
set_option maxRecDepth 100000
/-! Ev32: the rule of sorted(set(texts)). -/
namespace EV
open PySem PySem.Spec PyProof.Rows L2
def leT (x y : Str) : Bool := decide (x.cps.toList ≤ y.cps.toList)
def dedT : List Str → List Str
  | [] => []
  | x :: r => insT (dedT r) x
/-- texts, each once, rising -/
def sortT (xs : List Str) : List Str := (dedT xs).mergeSort leT
theorem dedT_mem : ∀ {xs : List Str} {x : Str}, x ∈ dedT xs ↔ x ∈ xs
  | [], x => Iff.rfl
  | y :: r, x => by rw [dedT, insT_mem, dedT_mem (xs := r), List.mem_cons]
theorem insT_nodup {L : List Str} {k : Str} (h : L.Nodup) : (insT L k).Nodup := by
  unfold insT; split
  · exact h
  · rename_i n; exact List.nodup_cons.mpr ⟨n, h⟩
theorem dedT_nodup : ∀ xs : List Str, (dedT xs).Nodup
  | [] => List.nodup_nil
  | x :: r => insT_nodup (dedT_nodup r)
theorem leT_trans (a b c : Str) (h : leT a b = true) (k : leT b c = true) : leT a c = true := by
  simp only [leT, decide_eq_true_eq] at *; exact List.le_trans h k
theorem leT_total (a b : Str) : (leT a b || leT b a) = true := by
  simp only [leT, Bool.or_eq_true, decide_eq_true_eq]; exact List.le_total _ _
theorem str_ext {x y : Str} (h : x.cps.toList = y.cps.toList) : x = y := by
  cases x; cases y
  simp only [Str.mk.injEq]
  exact Array.toList_inj.mp h
theorem leT_anti {a b : Str} (h : leT a b = true) (k : leT b a = true) : a = b := by
  simp only [leT, decide_eq_true_eq] at *; exact str_ext (List.le_antisymm h k)
theorem sortT_pw (xs : List Str) : (sortT xs).Pairwise fun a b => leT a b = true := List.pairwise_mergeSort leT_trans leT_total _
theorem sortT_mem {xs : List Str} {x : Str} : x ∈ sortT xs ↔ x ∈ xs := by rw [sortT, (List.mergeSort_perm _ _).mem_iff, dedT_mem]
theorem sortT_nodup (xs : List Str) : (sortT xs).Nodup := (List.mergeSort_perm _ _).nodup_iff.mpr (dedT_nodup xs)
theorem sortT_unique {ys xs : List Str} (nd : ys.Nodup) (pw : ys.Pairwise fun a b => leT a b = true) (h : ∀ x, x ∈ ys ↔ x ∈ xs) : ys = sortT xs :=
  List.Perm.eq_of_pairwise (le := fun a b => leT a b = true) (fun a b _ _ h k => leT_anti h k) pw (sortT_pw xs) ((List.perm_ext_iff_of_nodup nd (sortT_nodup xs)).mpr fun x => (h x).trans sortT_mem.symm)
def strsOf : List PV → Option (List Str)
  | [] => some []
  | .str x :: r => (strsOf r).map (x :: ·)
  | _ => none
theorem strsOf_map : ∀ xs : List Str, strsOf (xs.map .str) = some xs
  | [] => rfl
  | x :: r => by simp [strsOf, strsOf_map r]
theorem strsOf_inv : ∀ {ps : List PV} {xs : List Str}, strsOf ps = some xs → ps = xs.map .str
  | [], _, h => by cases h; rfl
  | p :: r, xs, h => by
    cases p <;> simp only [strsOf] at h <;> first | (cases h; done) | skip
    rename_i x
    cases e : strsOf r with
    | none => rw [e] at h; cases h
    | some zs => rw [e] at h; cases h; rw [strsOf_inv e]; rfl
def bSortSet (ob : Bool) (ps : List PV) (G : GH) : Res PV := match ps with
  | [x] => match asL x G with
    | some qs => match strsOf qs with
      | some xs => if xs.length ≤ 4000 then mkL ob ((sortT xs).map .str) G else .bad
      | none => .bad
    | none => .bad
  | _ => .bad
section
variable {F : Fx} {μ : Mu} {H : Hp} {G : GH}
theorem reps_strs : ∀ {xs : List Str} {vs : List V}, Reps F μ H (xs.map .str) vs → vs = xs.map V.str
  | [], _, h => h.nil_inv
  | x :: r, _, h => by
    obtain ⟨v, t, rfl, h1, h2⟩ := h.cons_inv
    rw [rep_str h1, reps_strs h2]; rfl
theorem reps_of_strs : ∀ (xs : List Str), Reps F μ H (xs.map .str) (xs.map V.str)
  | [] => .nil
  | x :: r => .cons (by simp only [Rep]) (reps_of_strs r)
end
section
variable {X : Cx} {F : Fx} {Ex : XK} {n : Nat}
theorem gsortSet (g : GX X F Ex n) (ob : Bool) {e : Expr} {p p2 pq pos : Pos} {m : Env → GH → Res PV} (hm : X.mg "sorted" = none) (hm2 : X.mg "set" = none) (ha : PE X e (TEv F Ex m)) (hg : X.env.kindOf "sorted" = some .globalImplicit := by kernel_rfl) (hg2 : X.env.kindOf "set" = some .globalImplicit := by kernel_rfl) (h1 : plainE e = true := by kernel_rfl) :
    PE X (.Call (.Name "sorted" p) [.Call (.Name "set" p2) [e] [] pq] [] pos) (TEv F Ex (mA (mCons m mNil) (bSortSet ob))) := by
  refine (pe_callB (r := rSortedTx X.prog X.w) (cr_sortedTx g.calm) hg hm (by kernel_rfl) (pa_cons (pe_callTy (r := rSetTx X.K X.prog X.w) (cr_setTx g.calm) hg2 hm2 (by kernel_rfl) (pa_cons ha pa_nil (star_plain h1)) (by decide) (by decide) (star_plain h1) rfl) pa_nil)).weak fun σ H Q ⟨μ, ρ, G, sr, gr, q⟩ => ?_
  unfold mA mCons mNil at q
  rw [Res.bind_assoc] at q
  refine TEv.run sr gr q fun μ1 a G1 v H1 e1 r1 g1 s1 p1 => ?_
  simp only [Res.bind_ok] at p1
  unfold bSortSet at p1
  simp only at p1
  split at p1
  · rename_i qs es
    split at p1
    · rename_i xs hxs
      split at p1
      · rename_i hlen
        obtain ⟨al, vs, rfl, z, st, rr⟩ := asL_rep es r1 g1
        have eq := strsOf_inv hxs
        subst eq
        have ev := reps_strs rr
        subst ev
        rw [g.K] at st
        refine ⟨al, xs, rfl, st, hlen, fun b L hb hl hL => ?_⟩
        refine ⟨b, L, rfl, upd_same, by omega, fun ys c hp nd pw hc => ?_⟩
        have hc1 : H1 c = none := upd_dom hc
        have ey : ys = sortT xs := sortT_unique (hp.nodup_iff.mpr nd) (pw.imp fun h => by simpa [leT] using h) fun x => by rw [hp.mem_iff, hL]
        subst ey
        have keep : ∀ a o, H1 a = some o → upd (upd H1 b (SetTx X.prog X.w b L)) c (.lst ((sortT xs).map V.str)) a = some o := fun a o e => by
          rw [upd_ne (ne_of_none e hc1), upd_ne (ne_of_none e hb)]; exact e
        exact mkL_new p1 g1 keep hc1 upd_same fun μ' _ _ _ => reps_of_strs _
      · exact (show False from p1).elim
    · exact (show False from p1).elim
  · exact (show False from p1).elim
end
end EV
end
section
set_option Elab.async false
set_option linter.all false
set_option maxRecDepth 100000
/-! Ev33: xs[::-1], sep.join(texts), o[i] as a target, sum(numbers). -/
namespace EV
open PySem PySem.Spec PyProof.Rows L2 HT
theorem filterMap_same {α β : Type} {f g : α → Option β} : ∀ {l : List α}, (∀ x ∈ l, f x = g x) → l.filterMap f = l.filterMap g
  | [], _ => rfl
  | x :: l, h => by
    rw [List.filterMap_cons, List.filterMap_cons, h x (List.mem_cons_self ..), filterMap_same fun y hy => h y (List.mem_cons_of_mem _ hy)]
section
variable {prog : Program} {w : World} {A : Around} {E : Value → Shared → Prop} {s : Shared}
theorem revPick (xs : Array Value) : ((List.range xs.size).filterMap fun (m : Nat) => xs[(((xs.size : Int) - 1) + (m : Int) * (-1)).toNat]?).toArray = xs.toList.reverse.toArray := by
  have h := PySem.W.krv_pick xs
  unfold slicePick at h
  rw [PySem.W.krv_bounds] at h
  dsimp only at h
  rw [PySem.W.krv_sliceRange, List.filterMap_map] at h
  rw [← h]
  congr 1
  apply filterMap_same
  intro m hm
  have := List.mem_range.mp hm
  show xs[_]? = xs[xs.size - 1 - m]?
  congr 1
  omega
theorem sliceApplied_rev {sl : Addr} {vl vu vs : Value} {n : Nat} {Q : Int × Int × Nat → Shared → Prop} (hs : s.heap.IsSliceOf sl vl vu vs) (pl : IsPart vl none) (pu : IsPart vu none) (ps : IsPart vs (some (-1)))
    (h : Q ((n : Int) - 1, -1, n) s) : wpAny (model prog w) A (Builtin.Slice.sliceApplied (.ref sl) (pure (n : Int))) Q E s := by
  obtain ⟨os, hos, hcs, hds⟩ := id hs
  unfold Builtin.Slice.sliceApplied Builtin.Slice.sliceFields
  refine wpAny_bind (wpAny_bind (wpAny_field hos hds (x := vl) rfl (wpAny_bind (wpAny_field hos hds (x := vu) rfl (wpAny_bind (wpAny_field hos hds (x := vs) rfl (wpAny_pure ?_)))))))
  refine wpAny_bind (slicePart_ ps ?_)
  show wpAny _ _ (if ((-1 : Int) == 0) = true then _ else _) _ _ s
  rw [if_neg (by decide)]
  refine wpAny_bind (slicePart_ pl (wpAny_bind (slicePart_ pu (wpAny_bind (wpAny_pure ?_)))))
  show wpAny _ _ (pure (((n : Int) - 1), (-1 : Int), Builtin.Slice.slicePlaces ((n : Int) - 1) (-1) (-1))) _ _ s
  have e : Builtin.Slice.slicePlaces ((n : Int) - 1) (-1) (-1) = n := by
    unfold Builtin.Slice.slicePlaces
    rw [if_neg (by decide)]
    split
    · rw [show (-(-1) : Int) = 1 by decide, Int.ediv_one]; omega
    · simp only [Int.toNat_zero]; omega
  rw [e]
  exact wpAny_pure h
theorem getItem_tuple_rev {t sl : Addr} {items : Array Value} {vl vu vs : Value} {Q : Value → Shared → Prop} (ht : IsTup s.heap t items) (hs : s.heap.IsSliceOf sl vl vu vs) (pl : IsPart vl none) (pu : IsPart vu none) (ps : IsPart vs (some (-1)))
    (h : Q (.ref s.heap.objs.size) { s with heap := s.heap.push { cls := .type "tuple", data := .seq items.toList.reverse.toArray } })
    (hsz : items.size ≤ sizeLine) : wpAny (model prog w) A (getItem (.ref t) (.ref sl)) Q E s := by
  obtain ⟨os, hos, hcs, hds⟩ := id hs
  have hTs : s.TypeIs (.ref sl) "slice" := ⟨os, hos, hcs⟩
  have htake : sizeOk (.seq items.toList.reverse.toArray) := by
    show items.toList.reverse.toArray.size ≤ sizeLine
    rw [List.size_toArray, List.length_reverse, Array.length_toList]; exact hsz
  unfold getItem
  try with_reducible refine wpAny_holding ?_
  first | refine wpAny_bind (wpAny_pure ?_) | skip
  refine wpAny_bind (wpAny_sequenceKey ht.typeIs (by decide) ?_)
  refine wpAny_bind (wpAny_callSpecial?_slot (name := Str.ofString "__getitem__") ht.typeIs PyProof.Rows.slot_tuple_getitem
    (wpAny_call_entry PyProof.Rows.slot_tuple_getitem ht.typeIs entry_tuple_getitem ?_ (args_tuple_getitem _ _)))
  show wpAny _ _ (Builtin.Tuple.tupleItemsOf (.ref t) >>= _) _ _ s
  refine wpAny_bind (tupleItemsOf_ ht ?_)
  refine wpAny_bind (wpAny_typeOf hTs ?_)
  rw [if_pos (by decide)]
  refine wpAny_bind (sliceApplied_rev hs pl pu ps ?_)
  show wpAny _ _ (if (((items.size : Int) - 1) == 0 && (-1 : Int) == 1 && items.size == items.size) = true then _ else _) _ _ s
  rw [if_neg (by simp), revPick]
  first
    | exact wpAny_bind (m := Builtin.Tuple.tupleExact _) (wpAny_newObj_type (wpAny_pure ⟨_, rfl, wpAny_pure h⟩) htake)
    | exact wpAny_bind (m := Builtin.Tuple.tupleExact _) (wpAny_newObj_type (wpAny_bind (wpAny_pure (wpAny_pure ⟨_, rfl, wpAny_pure h⟩))) htake)
    | exact wpAny_bind (wpAny_bind (m := Builtin.Tuple.tupleExact _) (wpAny_newObj_type (wpAny_pure (wpAny_pure ⟨_, rfl, wpAny_pure h⟩)) htake))
    | exact wpAny_bind (wpAny_bind (m := Builtin.Tuple.tupleExact _) (wpAny_newObj_type (wpAny_pure ⟨_, rfl, wpAny_pure h⟩) htake))
end
def tRevX (K : PySem.W.Frag) (te : TE) : TE := fun σ H Q => te σ H fun x H1 => (∃ a xs, x = .ref a ∧ SqT K H1 a xs ∧ NewT H1 xs.reverse Q) ∨ (∃ a xs, x = .ref a ∧ SqL K H1 a xs ∧ ∀ p, H1 p = none → Q (.ref p) (upd H1 p (.lst xs.reverse)))
section
variable {X : Cx} {F : Fx} {Ex : XK} {n : Nat}
theorem pe_revX {e : Expr} {te : TE} {k : Nat} {p1 p2 p3 pos : Pos} (he : PE X e te) : PE X (.Subscript e (.Slice none none (some (.UnaryOp .USub (.Constant (.int 1) k p1) p2)) p3) pos) (tRevX X.K te) := by
  refine ⟨fun pins s σ H Q I h => ?_⟩
  refine Subscript_ (thn (he.run pins s σ H _ I h) fun v s1 ⟨x, H1, I1, r1, q1⟩ => ?_)
  have hst : PO X (some (.UnaryOp .USub (.Constant (.int 1) k p1) p2)) (tPart (tUn (rU fun i => .int (-i)) (tC (.int 1)))) := po_some (pe_un un_neg pe_int)
  refine wpAny_Slice (thn (po_none.run pins s1 σ H1 (fun o H2 => o = none ∧ H2 = H1) I1 ⟨rfl, rfl⟩) fun vl s2 ⟨l, H2, I2, pl, el, e2⟩ => ?_)
  subst el e2
  refine thn (po_none.run pins s2 σ H2 (fun o H3 => o = none ∧ H3 = H2) I2 ⟨rfl, rfl⟩) fun vu s3 ⟨u, H3, I3, pu, eu, e3⟩ => ?_
  subst eu e3
  refine thn (hst.run pins s3 σ H3 (fun o H4 => o = some (-1) ∧ H4 = H3) I3 ⟨1, rfl, -1, rfl, rfl, rfl⟩) fun vs s4 ⟨o, H4, I4, ps, eo, e4⟩ => ?_
  subst eo e4
  have I5 : Inv X pins σ H4 { s4 with heap := s4.heap.push { cls := .type "slice", data := .fields #[vl, vu, vs] } } := I4.kept (t' := s4.toks) fun b ob q => Heap.get?_push_of_some _ q
  rcases q1 with ⟨a, xs, ex, hx, q⟩ | ⟨a, xs, ex, hx, q⟩
  · subst ex
    cases r1
    obtain ⟨its, r, ht, hz⟩ := I5.tuple hx
    have hlen := r.length
    show wpAny (model X.prog X.w) X.A (subscriptTail e (.Slice none none (some (.UnaryOp .USub (.Constant (.int 1) k p1) p2)) p3) (.ref a) (.ref s4.heap.objs.size)) (EP X pins σ Q) X.xe { s4 with heap := s4.heap.push { cls := .type "slice", data := .fields #[vl, vu, vs] } }
    refine tail_any (ops := [.ref a, .ref s4.heap.objs.size]) ht.typeIs (PyProof.Rows.slot_tuple_getitem.lookup) ?_ (by with_unfolding_all rfl)
    refine getItem_tuple_rev ht (Heap.IsSliceOf.new _ vl vu vs) pl pu ps ?_ (by rw [List.size_toArray]; omega)
    exact fz_new (t' := s4.toks) I5 (by simpa using r.reverse) (by rw [List.length_reverse]; exact hz) q
  · subst ex
    cases r1
    obtain ⟨its, r, ht, hz⟩ := I5.list hx
    have hlen := r.length
    show wpAny (model X.prog X.w) X.A (subscriptTail e (.Slice none none (some (.UnaryOp .USub (.Constant (.int 1) k p1) p2)) p3) (.ref a) (.ref s4.heap.objs.size)) (EP X pins σ Q) X.xe { s4 with heap := s4.heap.push { cls := .type "slice", data := .fields #[vl, vu, vs] } }
    refine tail_any (ops := [.ref a, .ref s4.heap.objs.size]) ht.isList.typeIs (PySem.slot_list_getitem.lookup) ?_ (by with_unfolding_all rfl)
    refine wpAny_getItem_list_slice ht.isList (Heap.IsSliceOf.new _ vl vu vs) pl pu ps (by decide) ?_ (by rw [List.size_toArray]; omega)
    rw [PySem.W.krv_pick]
    refine ⟨.ref _, _, I5.laid (t' := s4.toks) (o := .lst xs.reverse) (fun b ob q => Heap.get?_push_of_some _ q) (Nat.le_refl _) ?_, rfl, q _ (I5.hok.fresh (Nat.le_refl _))⟩
    exact ⟨by rw [List.length_reverse]; exact hz, _, 0, r.reverse, Heap.get?_push_size _ rfl⟩
/-- xs[::-1] -/
def opRev (ps : List PV) (G : GH) : Res PV := match ps with
  | [.tup xs] => .ok (.tup xs.reverse) G
  | [x] => match asL x G with
    | some xs => .ok (.lst xs.reverse) G
    | none => .bad
  | _ => .bad
theorem Reps.reverse {μ : Mu} {H : Hp} : ∀ {ps : List PV} {vs : List V}, Reps F μ H ps vs → Reps F μ H ps.reverse vs.reverse
  | [], _, h => by rw [h.nil_inv]; exact .nil
  | p :: ps, _, h => by
    obtain ⟨v, r, rfl, h1, t⟩ := h.cons_inv
    rw [List.reverse_cons, List.reverse_cons]
    exact (Reps.reverse t).append (.one h1)
theorem grev (g : GX X F Ex n) {e : Expr} {m : Env → GH → Res PV} {k : Nat} {p1 p2 p3 pos : Pos} (he : PE X e (TEv F Ex m)) :
    PE X (.Subscript e (.Slice none none (some (.UnaryOp .USub (.Constant (.int 1) k p1) p2)) p3) pos) (TEv F Ex (m1 m opRev)) := by
  refine (pe_revX he).weak fun σ H Q ⟨μ, ρ, G, sr, gr, q⟩ => ?_
  refine TEv.run sr gr q fun μ1 a G1 v H1 e1 r1 g1 s1 p1 => ?_
  unfold opRev at p1
  split at p1
  · rename_i xs hx
    cases hx
    obtain ⟨a, vs, rfl, z, st, rr⟩ := rep_tup r1
    exact .inl ⟨a, vs, rfl, by rw [← g.K]; exact st.sq, p1.tup g1 (Reps.reverse rr) (by rw [List.length_reverse]; exact z)⟩
  · rename_i x _ hx
    cases hx
    split at p1
    · rename_i xs es
      obtain ⟨al, vs, rfl, z, st, rr⟩ := asL_rep es r1 g1
      exact .inr ⟨al, vs, rfl, by rw [← g.K]; exact st, p1.lst g1 (Reps.reverse rr) (by rw [List.length_reverse]; exact z)⟩
    · exact (show False from p1).elim
  · exact (show False from p1).elim
/-! ### sep.join(texts) -/
def fJoin (o : PV) (xs : List PV) (G : GH) : Res PV := match o, xs with
  | .str a, [x] => match asS x G with
    | some qs => match strsOf qs with
      | some ys => if (ys.map (·.length)).sum + ys.length * a.length ≤ 16777216 then .ok (.str (Txt.join a ys)) G else .bad
      | none => .bad
    | none => .bad
  | _, _ => .bad
theorem fJoin_ok {K : PySem.W.Frag} (hK : F.K = K) (hX : X.K = K) : MtR X "str.join" (RdM F Ex fJoin) := by
  intro pins s σ H x xs v us Q I rx rxs ⟨μ, o, ps, G, ro, rp, gr, p⟩
  unfold fJoin at p
  split at p
  · rename_i a y
    obtain ⟨w, rfl, r1⟩ := rp.one_inv
    split at p
    · rename_i qs es
      split at p
      · rename_i ys hys
        split at p
        · rename_i hz
          have eq := strsOf_inv hys
          subst eq
          refine mt_join pins s σ H _ _ v us Q I rx rxs ?_
          unfold asS at es
          split at es
          · cases es
            obtain ⟨a', vs, rfl, z, st, rr⟩ := rep_tup r1
            have ev := reps_strs rr
            subst ev
            exact ⟨a, a', ys, rep_str ro, rfl, .inr (by rw [hX, ← hK]; exact st.sq), hz, p.here RV.str gr⟩
          · obtain ⟨al, vs, rfl, z, st, rr⟩ := asL_rep es r1 gr
            have ev := reps_strs rr
            subst ev
            exact ⟨a, al, ys, rep_str ro, rfl, .inl (by rw [hX, ← hK]; exact st), hz, p.here RV.str gr⟩
        · exact (show False from p).elim
      · exact (show False from p).elim
    · exact (show False from p).elim
  · exact (show False from p).elim
/-! ### o[i] as a target -/
def gSubE (mo mi : Env → GH → Res PV) (f : List PV → GH → Res Unit) : PV → Env → GH → Res Env := fun v ρ G => (mo ρ G).bind fun o G1 => (mi ρ G1).bind fun i G2 => (f [o, i, v] G2).bind fun _ G3 => .ok ρ G3
theorem gsub1 (g : GX X F Ex n) {o i : Expr} {pos : Pos} {mo mi : Env → GH → Res PV} {f : List PV → GH → Res Unit} (hf : PSet X (RdSet F Ex f)) (ho : PE X o (TEv F Ex mo)) (hi : PE X i (TEv F Ex mi))
    (hA : ∀ v, assign (.Subscript o i pos) X.env v = (do
      let ov ← holding [v] (eval o X.env)
      let iv ← holding [v, ov] (eval i X.env)
      standAt pos
      holding [v, ov, iv] (setItem ov iv v)
      release [v, ov, iv] []) := by intro _; rfl) :
    PG X (.Subscript o i pos) (TGv F Ex [] (gSubE mo mi f)) := by
  refine (pg_sub (to := TEv F Ex mo) (ti := TEv F Ex mi) ho hi hf hA).weak fun v σ H Q ⟨μ, p, ρ, G, r, sr, gr, q⟩ => ?_
  unfold gSubE at q
  refine TEv.run sr gr q fun μ1 a G1 w H1 e1 r1 g1 s1 p1 => ?_
  refine TEv.run s1 g1 p1 fun μ2 b G2 u H2 e2 r2 g2 s2 p2 => ?_
  refine ⟨μ2, [a, b, p], G2, .cons (r1.mono e2) (.cons r2 (.one ((r.mono e1).mono e2))), g2, (Post.bind (R := fun (_ : Mu) (_ : Hp) (_ : Unit) (_ : Unit) => True) p2).mono fun _ H4 ⟨μ4, _, G4, _, e4, _, g4, p4⟩ => ?_⟩
  exact p4.here ⟨s2.mono e4, rfl, fun _ _ => rfl⟩ g4
/-! ### sum(numbers) -/
def intsOf : List PV → Option (List Int)
  | [] => some []
  | .int x :: r => (intsOf r).map (x :: ·)
  | _ => none
theorem intsOf_map : ∀ xs : List Int, intsOf (xs.map .int) = some xs
  | [] => rfl
  | x :: r => by simp [intsOf, intsOf_map r]
theorem intsOf_inv : ∀ {ps : List PV} {xs : List Int}, intsOf ps = some xs → ps = xs.map .int
  | [], _, h => by cases h; rfl
  | p :: r, xs, h => by
    cases p <;> simp only [intsOf] at h <;> first | (cases h; done) | skip
    rename_i x
    cases e : intsOf r with
    | none => rw [e] at h; cases h
    | some zs => rw [e] at h; cases h; rw [intsOf_inv e]; rfl
theorem reps_ints {μ : Mu} {H : Hp} : ∀ {xs : List Int} {vs : List V}, Reps F μ H (xs.map .int) vs → vs = xs.map V.int
  | [], _, h => h.nil_inv
  | x :: r, _, h => by
    obtain ⟨v, t, rfl, h1, h2⟩ := h.cons_inv
    rw [rep_int h1, reps_ints h2]; rfl
def bSum (ps : List PV) (G : GH) : Res PV := match ps with
  | [x] => match asL x G with
    | some qs => match intsOf qs with
      | some ys => .ok (.int ys.sum) G
      | none => .bad
    | none => .bad
  | _ => .bad
theorem bSum_ok (hK : F.K = X.K) (hc : X.calm = true) : CallR X (.builtin "sum") (RdV F Ex bSum) := by
  intro pins s σ H xs us Q I rs ⟨μ, ps, G, r, g, p⟩
  unfold bSum at p
  split at p
  · obtain ⟨v, rfl, r1⟩ := Reps.one_inv r
    split at p
    · rename_i qs es
      split at p
      · rename_i ys hys
        have eq := intsOf_inv hys
        subst eq
        obtain ⟨al, vs, rfl, z, st, rr⟩ := asL_rep es r1 g
        have ev := reps_ints rr
        subst ev
        exact cr_sum hc pins s σ H _ us Q I rs ⟨al, ys, rfl, by rw [← hK]; exact st, p.here (by show Rep F μ H _ _; simp only [Rep]) g⟩
      · exact (show False from p).elim
    · exact (show False from p).elim
  · exact (show False from p).elim
end
end EV
end
section
set_option Elab.async false
set_option linter.all false
set_option maxRecDepth 100000
set_option maxHeartbeats 1000000
/-! Ev34: zip(a, b) of two tuples, walked. -/
namespace EV
open PySem PySem.Spec PyProof.Rows L2 RZ Zs
/-- the tuples at a and b, the items in new pairs -/
def ItzF (K : PySem.W.Frag) (a b : Addr) : It :=
  ⟨fun i H => ∃ (xs ys : List V) (x y : V), SqT K H a xs ∧ SqT K H b ys ∧ xs[i]? = some x ∧ ys[i]? = some y,
    fun i H v H' => ∃ T x y, ∃ o : Obj, v = .ref T ∧ H T = none ∧ o.dict = none ∧ H' = upd H T (.frz o (.tup [x, y])) ∧ (∀ xs, SqT K H a xs → xs[i]? = some x) ∧ ∀ ys, SqT K H b ys → ys[i]? = some y,
    fun i H => ∃ xs ys : List V, SqT K H a xs ∧ SqT K H b ys ∧ (xs.length ≤ i ∨ ys.length ≤ i)⟩
theorem turn_zipF {P : Program} {w : World} {K : PySem.W.Frag} {elts : List Expr} {kk : Nat} {tpos : Pos} {a b z TI TO i1 i2 : Addr} (D : ZipApart z TI TO i1 i2 a b) :
    Turn P w K (.Tuple elts kk tpos) (ItzF K a b) [z, TI, TO, i1, i2] z (fun i h => IsZip h z TI TO .none ∧ IsPair h TI (.ref i1) (.ref i2) ∧ (∃ x y, IsPair h TO x y) ∧ h.IsTupleIter i1 a i ∧ h.IsTupleIter i2 b i) where
  mem := by simp
  obj := fun i h st c hc => by
    obtain ⟨hz, hTI, ⟨x, y, hTO⟩, ⟨o1, e1, _, d1⟩, ⟨o2, e2, _, d2⟩⟩ := st
    have e' : c = z ∨ c = TI ∨ c = TO ∨ c = i1 ∨ c = i2 := by simpa using hc
    rcases e' with q | q | q | q | q
    · rw [q]; exact ⟨_, hz, fun v q => nomatch q⟩
    · rw [q]; exact ⟨_, hTI, fun v q => nomatch q⟩
    · rw [q]; exact ⟨_, hTO, fun v q => nomatch q⟩
    · rw [q]; exact ⟨o1, e1, fun v q => by rw [d1] at q; cases q⟩
    · rw [q]; exact ⟨o2, e2, fun v q => by rw [d2] at q; cases q⟩
  keep := fun i h h' st k => by
    obtain ⟨hz, hTI, ⟨x, y, hTO⟩, h1, h2⟩ := st
    exact ⟨k z (by simp) _ hz, k TI (by simp) _ hTI, ⟨x, y, k TO (by simp) _ hTO⟩, h1.at fun o q => k i1 (by simp) o q, h2.at fun o q => k i2 (by simp) o q⟩
  item := by
    intro X hP hw hK hc i pins s σ H E I hf st hg
    subst hP hw hK
    obtain ⟨hz, hTI, ⟨x0, y0, hTO⟩, h1, h2⟩ := st
    obtain ⟨xs, ys, x, y, hqx, hqy, hx, hy⟩ := hg
    obtain ⟨its, rv, p, _⟩ := I.tuple hqx
    obtain ⟨its2, rv2, p2, _⟩ := I.tuple hqy
    obtain ⟨u, hu, ru⟩ := rv.get hx
    obtain ⟨u2, hu2, ru2⟩ := rv2.get hy
    have hzl : z < s.heap.objs.size := Heap.lt_size hz
    refine pyNext_zipT_item D hz hTI hTO h1 h2 p p2 (x := u) (y := u2) (by simpa using hu) (by simpa using hu2) fun h' z' TO' h1' h2' hT hsz hk => ?_
    refine ⟨_, rfl, wpAny_letOwnedTupleGo_zip (s := { s with heap := h' }) z' fun h'' z'' sb => ?_⟩
    have hT2 : h''.get? s.heap.objs.size = some { cls := .type "tuple", data := .seq #[u, u2] } := (sb.2 _ (Nat.ne_of_gt hzl)).trans hT
    have new : ObjOk X.prog X.w (upd H s.heap.objs.size (.frz { cls := .type "tuple", data := .seq #[u, u2] } (.tup [x, y]))) h'' s.heap.objs.size (.frz { cls := .type "tuple", data := .seq #[u, u2] } (.tup [x, y])) :=
      ⟨hT2, by show 2 ≤ sizeLine; decide, [u, u2], .cons ru (.cons ru2 .nil), ⟨_, hT2, rfl, _, rfl⟩⟩
    have I1 : Inv X pins σ (upd H s.heap.objs.size (.frz { cls := .type "tuple", data := .seq #[u, u2] } (.tup [x, y]))) { s with heap := h'' } :=
      I.turnedNew (t' := s.toks) (ch := [z, TI, TO, i1, i2]) (fun c o hb q => (sb.2 c (fun q' => hb (by simp [q']))).trans (hk c o (fun q' => hb (by simp [q'])) (fun q' => hb (by simp [q'])) (fun q' => hb (by simp [q'])) (fun q' => hb (by simp [q'])) q)) hf (Nat.le_refl _) new
    refine ⟨.ref s.heap.objs.size, _, I1, rfl, ⟨_, x, y, _, rfl, I.hok.fresh (Nat.le_refl _), rfl, rfl, fun l hl => by rw [I.tuple_inj hl hqx]; exact hx, fun l hl => by rw [I.tuple_inj hl hqy]; exact hy⟩, ⟨z'', ?_, ⟨u, u2, ?_⟩, ?_, ?_⟩, fun c hcm => ?_⟩
    · exact (sb.2 _ D.TIz).trans (hk _ _ D.TIz D.TITO D.TIi1 D.TIi2 hTI)
    · exact (sb.2 _ D.TOz).trans TO'
    · exact h1'.at fun o q => (sb.2 _ D.i1z).trans q
    · exact h2'.at fun o q => (sb.2 _ D.i2z).trans q
    · have hlt : c < s.heap.objs.size := by
        have e' : c = z ∨ c = TI ∨ c = TO ∨ c = i1 ∨ c = i2 := by simpa using hcm
        rcases e' with q | q | q | q | q
        · rw [q]; exact hzl
        · rw [q]; exact Heap.lt_size hTI
        · rw [q]; exact Heap.lt_size hTO
        · rw [q]; obtain ⟨_, e1, _⟩ := h1; exact Heap.lt_size e1
        · rw [q]; obtain ⟨_, e2, _⟩ := h2; exact Heap.lt_size e2
      rw [upd_ne (Nat.ne_of_lt hlt)]
      exact (hf c hcm).1
  done := by
    intro X hP hw hK hc i pins s σ H E I hf st hg
    subst hP hw hK
    obtain ⟨hz, hTI, ⟨x0, y0, hTO⟩, h1, h2⟩ := st
    obtain ⟨xs, ys, hqx, hqy, hend⟩ := hg
    obtain ⟨its, rv, p, _⟩ := I.tuple hqx
    obtain ⟨its2, rv2, p2, _⟩ := I.tuple hqy
    have l1 := rv.length
    have l2 := rv2.length
    have he : its.toArray[i]? = none ∨ its2.toArray[i]? = none := by
      rcases hend with q | q
      · exact .inl (by simp; omega)
      · exact .inr (by simp; omega)
    exact pyNext_zipT_end (I.ok.hd hc) D hz hTI hTO h1 h2 p p2 he fun h' hk => ⟨rfl, I.turnedL (t' := s.toks) (ch := [z, TI, TO, i1, i2]) (fun c o hb q =>
      hk c o (fun q' => hb (by simp [q'])) (fun q' => hb (by simp [q'])) (fun q' => hb (by simp [q'])) (fun q' => hb (by simp [q'])) q) hf⟩
  self := fun A i s Q E st h => wpAny_pyIter_zip st.1 h

def iZipF (K : PySem.W.Frag) (ta : TA) : TI := fun σ H R => ta σ H fun vs H1 => ∃ a b xs ys, vs = [.ref a, .ref b] ∧ SqT K H1 a xs ∧ SqT K H1 b ys ∧ R (ItzF K a b) H1
theorem pi_zipF {X : Cx} {e e2 : Expr} {ta : TA} {p pos tpos : Pos} {elts : List Expr} {kk : Nat} (hg : Gl X "zip") (hm : X.mg "zip" = none) (ha : PA X [e, e2] ta)
    (hs : starEach [e, e2] X.env = (false, eval e X.env) :: starEach [e2] X.env) (hpl : (backTo pos (starEach [e2] X.env)).any (·.1) = false) :
    PI X (.Tuple elts kk tpos) (.Call (.Name "zip" p) [e, e2] [] pos) (iZipF X.K ta) := by
  refine ⟨fun pins s σ H R I h => ?_⟩
  refine Call_ (ld_blt I hg hm PyProof.Rows.boot_zip (PyProof.Rows.callWith_type1 (thn (ha.run pos pins s σ H _ I h) fun us s1 ⟨vs, H1, I1, r1, q1⟩ => ?_) hs hpl))
  obtain ⟨a, b, xs, ys, ex, hqx, hqy, q⟩ := q1
  subst ex
  cases r1 with
  | cons r rr =>
    cases rr with
    | cons r' rr =>
      cases rr
      cases r
      cases r'
      obtain ⟨its, rv, p1, _⟩ := I1.tuple hqx
      obtain ⟨its2, rv2, p2, _⟩ := I1.tuple hqy
      obtain ⟨o1, ho1, _⟩ := id p1
      obtain ⟨o2, ho2, _⟩ := id p2
      refine call_zipT (show s1.heap.IsTuple a its.toArray from p1) (show s1.heap.IsTuple b its2.toArray from p2) fun h' hz hTI hTO h1 h2 hsz hk => wpAny_pyIter_zip hz ?_
      have I2 : Inv X pins σ H1 { s1 with heap := h' } := I1.kept (t' := s1.toks) hk
      exact ⟨s1.heap.objs.size + 4, [s1.heap.objs.size + 4, s1.heap.objs.size + 2, s1.heap.objs.size + 3, s1.heap.objs.size, s1.heap.objs.size + 1], _, _, H1, rfl, I2, turn_zipF (PySem.W.ktu_apart s1.heap.objs.size a b (Heap.lt_size ho1) (Heap.lt_size ho2)), ⟨hz, hTI, ⟨_, _, hTO⟩, h1, h2⟩, zs_fresh I1, q⟩
theorem zipP_lenM (ps qs : List PV) : (zipP ps qs).length = min ps.length qs.length := by
  unfold zipP
  rw [List.length_map, List.length_zip]
def zfSrc (ps : List PV) (G : GH) : Res Src := match ps with
  | [.tup ps, .tup qs] => .ok ⟨zipP ps qs, fun _ => true⟩ G
  | _ => .bad
def mZip (ms : Env → GH → Res (List PV)) : Env → GH → Res Src := fun ρ G => (ms ρ G).bind zfSrc
section
variable {X : Cx} {F : Fx} {Ex : XK} {n : Nat}
theorem JOk.zf {K : PySem.W.Frag} (hK : F.K = K) {μ : Mu} {H : Hp} {a b : Addr} {vs ws : List V} {ps qs : List PV} (st : StT F μ H a vs) (st2 : StT F μ H b ws) (r : Reps F μ H ps vs) (r2 : Reps F μ H qs ws) : JOk F (ItzF K a b) μ H ⟨zipP ps qs, fun _ => true⟩ := by
  subst hK
  intro μ1 H1 G1 e g _
  have sq : SqT F.K H1 a vs := (e.t _ _ st).sq
  have sq2 : SqT F.K H1 b ws := (e.t _ _ st2).sq
  have l1 := r.length
  have l2 := r2.length
  refine ⟨fun i p hp => ?_, vs, ws, sq, sq2, by show vs.length ≤ (zipP ps qs).length ∨ ws.length ≤ (zipP ps qs).length; rw [zipP_lenM]; omega⟩
  obtain ⟨x, y, hx, hy, rfl⟩ := zipP_at hp
  obtain ⟨v, h1, h2⟩ := r.get hx
  obtain ⟨u, h3, h4⟩ := r2.get hy
  refine ⟨⟨vs, ws, v, u, sq, sq2, h1, h3⟩, fun z H' hy => ?_⟩
  obtain ⟨T, v', u', o, rfl, hT, hd, rfl, e1, e2⟩ := hy
  have := e1 vs sq
  rw [h1] at this; cases this
  have := e2 ws sq2
  rw [h3] at this; cases this
  refine ⟨fun c o q => by rw [upd_ne (ne_of_none q hT)]; exact q, ?_⟩
  show Rep F μ1 _ _ _
  simp only [Rep]
  exact ⟨T, [v, u], rfl, by show 2 ≤ sizeLine; decide, .inl ⟨g.fresh hT, o, upd_same, hd⟩, (Reps.cons (h2.chg e) (.one (h4.chg e))).mono (Ext.upd_new g hT)⟩
theorem gzip (g : GX X F Ex n) {e e2 : Expr} {p pos tpos : Pos} {elts : List Expr} {kk : Nat} {m1 m2 : Env → GH → Res PV} (hm : X.mg "zip" = none) (ha : PE X e (TEv F Ex m1)) (hb : PE X e2 (TEv F Ex m2))
    (hg : X.env.kindOf "zip" = some .globalImplicit := by kernel_rfl) (h1 : plainE e = true := by kernel_rfl) (h2 : plainE e2 = true := by kernel_rfl) :
    PI X (.Tuple elts kk tpos) (.Call (.Name "zip" p) [e, e2] [] pos) (TIv F Ex (mZip (mCons m1 (mCons m2 mNil)))) :=
  (pi_zipF hg hm (ev_cons h1 ha (ev_cons h2 hb ev_nil)) (star_plain h1) (any_star (e := e) (es := [e2]) (by rw [List.all_cons, h2]; rfl))).weak fun σ H R ⟨μ, ρ, G, s, gr, q⟩ => TAv.run s gr q fun μ1 qs G1 vs H1 e1 r1 g1 s1 p1 => by
    unfold zfSrc at p1
    split at p1
    · rename_i ps qs
      obtain ⟨v, w, rfl, ra, rb⟩ := Reps.two_inv r1
      obtain ⟨a, vs, rfl, z, st, rr⟩ := rep_tup ra
      obtain ⟨b, ws, rfl, z2, st2, rr2⟩ := rep_tup rb
      have := rr.length
      exact ⟨a, b, vs, ws, rfl, by rw [← g.K]; exact st.sq, by rw [← g.K]; exact st2.sq, p1.here ⟨by show (zipP ps qs).length ≤ sizeLine; rw [zipP_lenM]; omega, JOk.zf g.K st st2 rr rr2⟩ g1⟩
    · exact (show False from p1).elim
end
end EV
end
section
/-! N0: what is wanted of an end, for the simplifier; data that repr and == can take; loops by what stays. -/
set_option Elab.async false
set_option linter.all false
set_option maxRecDepth 100000
namespace EV.NV
open PySem PySem.Spec PyProof.Rows L2
/-! ### wanted of an end -/
class Pst (α : Type) where
  q : α → GH → Prop
@[irreducible] def wq {α : Type} (r : Res α) [p : Pst α] : Prop := match r with
  | .ok a G => p.q a G
  | _ => False
@[simp] theorem wq_ok {α : Type} (a : α) (G : GH) (Q : α → GH → Prop) : @wq α (.ok a G) ⟨Q⟩ = Q a G := by unfold wq; rfl
@[simp] theorem wq_bad {α : Type} (Q : α → GH → Prop) : @wq α .bad ⟨Q⟩ = False := by unfold wq; rfl
theorem wq_exc {α : Type} (c : Nat) (fs : List (Str × PV)) (G : GH) (Q : α → GH → Prop) : @wq α (.exc c fs G) ⟨Q⟩ = False := by unfold wq; rfl
@[simp ↓] theorem wq_bind {α β : Type} (r : Res α) (f : α → GH → Res β) (Q : β → GH → Prop) : @wq β (r.bind f) ⟨Q⟩ = @wq α r ⟨fun a G => @wq β (f a G) ⟨Q⟩⟩ := by
  cases r with
  | ok a G => rw [wq_ok]; rfl
  | exc c fs G => rw [wq_exc]; exact wq_exc c fs G Q
  | bad => rw [wq_bad]; exact wq_bad Q
theorem wq_use {α : Type} {r : Res α} {P Q : α → GH → Prop} (h : @wq α r ⟨P⟩) (k : ∀ a G, P a G → Q a G) : @wq α r ⟨Q⟩ := by
  cases r with
  | ok a G => rw [wq_ok] at h ⊢; exact k a G h
  | exc => rw [wq_exc] at h; exact h.elim
  | bad => rw [wq_bad] at h; exact h.elim
theorem wq_eq {α : Type} {r : Res α} {a : α} {G : GH} {Q : α → GH → Prop} (e : r = .ok a G) (k : Q a G) : @wq α r ⟨Q⟩ := by rw [e, wq_ok]; exact k
theorem wq_ex {α : Type} {r : Res α} {P : α → GH → Prop} (h : @wq α r ⟨P⟩) : ∃ a G, r = .ok a G ∧ P a G := by
  cases r with
  | ok a G => rw [wq_ok] at h; exact ⟨a, G, rfl, h⟩
  | exc => rw [wq_exc] at h; exact h.elim
  | bad => rw [wq_bad] at h; exact h.elim
theorem wq_if {α : Type} {c : Prop} [Decidable c] {r r' : Res α} {Q : α → GH → Prop} (h1 : c → @wq α r ⟨Q⟩) (h2 : ¬ c → @wq α r' ⟨Q⟩) : @wq α (if c then r else r') ⟨Q⟩ := by
  split
  · exact h1 ‹_›
  · exact h2 ‹_›
/-! ### data that repr can take -/
mutual
def fitX : PV → Bool
  | .obj _ => false
  | .int i => decide (i.natAbs < 10 ^ 60)
  | .str x => PyData.strOk x && decide (x.cps.size ≤ 4000)
  | .tup ps => fitXs ps
  | .lst ps => fitXs ps
  | .sls ps => fitXs ps
  | _ => true
def fitXs : List PV → Bool
  | [] => true
  | p :: ps => fitX p && fitXs ps
end
theorem fitXs_all : ∀ ps : List PV, fitXs ps = ps.all fitX
  | [] => rfl
  | p :: ps => by rw [fitXs, List.all_cons, fitXs_all ps]
theorem fitXs_mem {ps : List PV} (h : fitXs ps = true) : ∀ p ∈ ps, fitX p = true := by
  rw [fitXs_all, List.all_eq_true] at h; exact h
theorem fitXs_of {ps : List PV} (h : ∀ p ∈ ps, fitX p = true) : fitXs ps = true := by
  rw [fitXs_all, List.all_eq_true]; exact h
mutual
theorem dat_of_fitX : ∀ {p : PV}, fitX p = true → datB p = true
  | .obj _, h => by simp [fitX] at h
  | .tup ps, h => by simp only [datB]; exact dats_of_fitX (by simpa only [fitX] using h)
  | .lst ps, h => by simp only [datB]; exact dats_of_fitX (by simpa only [fitX] using h)
  | .sls ps, h => by simp only [datB]; exact dats_of_fitX (by simpa only [fitX] using h)
  | .non, _ => by simp only [datB]
  | .bl _, _ => by simp only [datB]
  | .int _, _ => by simp only [datB]
  | .str _, _ => by simp only [datB]
theorem dats_of_fitX : ∀ {ps : List PV}, fitXs ps = true → datBs ps = true
  | [], _ => by simp only [datBs]
  | p :: ps, h => by
    simp only [fitXs, Bool.and_eq_true] at h
    simp only [datBs, Bool.and_eq_true]
    exact ⟨dat_of_fitX h.1, dats_of_fitX h.2⟩
end
theorem int_logX {i : Int} (h : i.natAbs < 10 ^ 60) : i.natAbs.log2 + 1 ≤ 200 := by
  by_cases z : i.natAbs = 0
  · rw [z]; decide
  · have : i.natAbs.log2 < 200 := (Nat.log2_lt z).mpr (Nat.lt_trans h (by decide))
    omega
mutual
theorem fit_layX : ∀ {p : PV}, fitX p = true → (dOf p).canLay0 = true ∧ (dOf p).weight ≤ wgt p ∧ (dOf p).depth ≤ dep p ∧ (dOf p).showable = true ∧ (dOf p).hasDict = false ∧ (dOf p).intsShort 61 = true
  | .obj _, h => by simp [fitX] at h
  | .tup ps, h => by
    have q := fits_layX (ps := ps) (by simpa only [fitX] using h)
    simp only [dOf, PyData.canLay0, PyData.weight, PyData.depth, PyData.showable, PyData.hasDict, PyData.intsShort, wgt, dep]
    exact ⟨q.1, q.2.1, by omega, q.2.2.2⟩
  | .lst ps, h => by
    have q := fits_layX (ps := ps) (by simpa only [fitX] using h)
    simp only [dOf, PyData.canLay0, PyData.weight, PyData.depth, PyData.showable, PyData.hasDict, PyData.intsShort, wgt, dep]
    exact ⟨q.1, q.2.1, by omega, q.2.2.2⟩
  | .sls ps, h => by
    have q := fits_layX (ps := ps) (by simpa only [fitX] using h)
    simp only [dOf, PyData.canLay0, PyData.weight, PyData.depth, PyData.showable, PyData.hasDict, PyData.intsShort, wgt, dep]
    exact ⟨q.1, q.2.1, by omega, q.2.2.2⟩
  | .non, _ => by simp [dOf, PyData.canLay0, PyData.weight, PyData.depth, PyData.showable, PyData.hasDict, PyData.intsShort, wgt, dep]
  | .bl _, _ => by simp [dOf, PyData.canLay0, PyData.weight, PyData.depth, PyData.showable, PyData.hasDict, PyData.intsShort, wgt, dep]
  | .int i, h => by
    have h : i.natAbs < 10 ^ 60 := by simpa only [fitX, decide_eq_true_eq] using h
    have l := int_logX h
    simp only [dOf, PyData.canLay0, PyData.weight, PyData.depth, PyData.showable, PyData.hasDict, PyData.intsShort, wgt, dep, decide_eq_true_eq]
    refine ⟨trivial, by split <;> omega, by omega, by omega, trivial, ?_⟩
    have e : (toString i).length ≤ 60 + 1 := int_text_length_le10 (by decide) h
    have e2 : (PyData.shown (.int i)).length = (toString i).length := by
      rw [PyData.shown_int]; exact PySem.ofString_length _
    omega
  | .str x, h => by
    have h : PyData.strOk x = true := by
      simp only [fitX, Bool.and_eq_true] at h; exact h.1
    simp [dOf, PyData.canLay0, PyData.weight, PyData.depth, PyData.showable, PyData.hasDict, PyData.intsShort, wgt, dep, h]
theorem fits_layX : ∀ {ps : List PV}, fitXs ps = true → PyData.canLayAll0 (dOfs ps) = true ∧ PyData.weightAll (dOfs ps) ≤ wgts ps ∧ PyData.depthAll (dOfs ps) ≤ deps ps ∧ PyData.showableAll (dOfs ps) = true ∧ PyData.hasDictAll (dOfs ps) = false ∧ PyData.intsShortAll 61 (dOfs ps) = true
  | [], _ => by simp [dOfs, PyData.canLayAll0, PyData.weightAll, PyData.depthAll, PyData.showableAll, PyData.hasDictAll, PyData.intsShortAll, wgts, deps]
  | p :: ps, h => by
    simp only [fitXs, Bool.and_eq_true] at h
    have a := fit_layX h.1
    have b := fits_layX h.2
    simp only [dOfs, PyData.canLayAll0, PyData.weightAll, PyData.depthAll, PyData.showableAll, PyData.hasDictAll, PyData.intsShortAll, wgts, deps, Bool.and_eq_true, Bool.or_eq_false_iff]
    exact ⟨⟨a.1, b.1⟩, by omega, by omega, ⟨a.2.2.2.1, b.2.2.2.1⟩, ⟨a.2.2.2.2.1, b.2.2.2.2.1⟩, ⟨a.2.2.2.2.2, b.2.2.2.2.2⟩⟩
end
mutual
/-- the longest tuple or list within -/
def lnm : PV → Nat
  | .tup ps => max ps.length (lnms ps)
  | .lst ps => max ps.length (lnms ps)
  | .sls ps => max ps.length (lnms ps)
  | _ => 0
def lnms : List PV → Nat
  | [] => 0
  | p :: ps => max (lnm p) (lnms ps)
end
/-- small data: its weight, its depth, its longest part -/
structure Sm (w d m : Nat) (p : PV) : Prop where
  f : fitX p = true
  w : wgt p ≤ w
  d : dep p ≤ d
  m : lnm p ≤ m
theorem Sm.dat {w d m : Nat} {p : PV} (h : Sm w d m p) : datB p = true := dat_of_fitX h.f
theorem Sm.mono {w d m w' d' m' : Nat} {p : PV} (h : Sm w d m p) (hw : w ≤ w') (hd : d ≤ d') (hm : m ≤ m') : Sm w' d' m' p := ⟨h.f, Nat.le_trans h.w hw, Nat.le_trans h.d hd, Nat.le_trans h.m hm⟩
theorem wgts_le {w : Nat} : ∀ {ps : List PV}, (∀ p ∈ ps, wgt p ≤ w) → wgts ps ≤ ps.length * (w + 1)
  | [], _ => by simp [wgts]
  | p :: ps, h => by
    have h1 := h p (List.mem_cons_self ..)
    have h2 := wgts_le (ps := ps) fun q hq => h q (List.mem_cons_of_mem _ hq)
    rw [wgts, List.length_cons, Nat.succ_mul]
    omega
theorem deps_le {d : Nat} : ∀ {ps : List PV}, (∀ p ∈ ps, dep p ≤ d) → deps ps ≤ d
  | [], _ => by simp [deps]
  | p :: ps, h => by
    have h1 := h p (List.mem_cons_self ..)
    have h2 := deps_le (ps := ps) fun q hq => h q (List.mem_cons_of_mem _ hq)
    rw [deps]; omega
theorem wgts_mem : ∀ {ps : List PV} {p : PV}, p ∈ ps → wgt p + 1 ≤ wgts ps
  | q :: ps, p, h => by
    rw [wgts]
    rcases List.mem_cons.mp h with rfl | h
    · omega
    · have := wgts_mem h; omega
theorem deps_mem : ∀ {ps : List PV} {p : PV}, p ∈ ps → dep p ≤ deps ps
  | q :: ps, p, h => by
    rw [deps]
    rcases List.mem_cons.mp h with rfl | h
    · omega
    · have := deps_mem h; omega
theorem wgts_len : ∀ ps : List PV, ps.length ≤ wgts ps
  | [] => by simp [wgts]
  | p :: ps => by have := wgts_len ps; rw [wgts, List.length_cons]; omega
theorem wgts_append : ∀ (ps qs : List PV), wgts (ps ++ qs) = wgts ps + wgts qs
  | [], qs => by simp [wgts]
  | p :: ps, qs => by rw [List.cons_append, wgts, wgts, wgts_append ps qs]; omega
theorem deps_append : ∀ (ps qs : List PV), deps (ps ++ qs) = max (deps ps) (deps qs)
  | [], qs => by simp [deps]
  | p :: ps, qs => by rw [List.cons_append, deps, deps, deps_append ps qs]; omega
theorem lnms_le {d : Nat} : ∀ {ps : List PV}, (∀ p ∈ ps, lnm p ≤ d) → lnms ps ≤ d
  | [], _ => by simp [lnms]
  | p :: ps, h => by
    have h1 := h p (List.mem_cons_self ..)
    have h2 := lnms_le (ps := ps) fun q hq => h q (List.mem_cons_of_mem _ hq)
    rw [lnms]; omega
theorem lnms_mem : ∀ {ps : List PV} {p : PV}, p ∈ ps → lnm p ≤ lnms ps
  | q :: ps, p, h => by
    rw [lnms]
    rcases List.mem_cons.mp h with rfl | h
    · omega
    · have := lnms_mem h; omega
theorem lnms_append : ∀ (ps qs : List PV), lnms (ps ++ qs) = max (lnms ps) (lnms qs)
  | [], qs => by simp [lnms]
  | p :: ps, qs => by rw [List.cons_append, lnms, lnms, lnms_append ps qs]; omega
/-- a part of a tuple -/
theorem Sm.tup {w d m : Nat} {ps : List PV} (h : Sm w (d + 1) m (.tup ps)) : ∀ p ∈ ps, Sm (w - 1) d m p := fun p hp => by
  have hf : fitXs ps = true := by simpa only [fitX] using h.f
  have h1 := wgts_mem hp
  have h2 := deps_mem hp
  have h3 := lnms_mem hp
  have hw := h.w
  have hd := h.d
  have hm := h.m
  simp only [wgt, dep, lnm] at hw hd hm
  exact ⟨fitXs_mem hf p hp, by omega, by omega, by omega⟩
theorem Sm.tup' {w d m : Nat} {ps : List PV} (h : Sm w d m (.tup ps)) : ∀ p ∈ ps, Sm w d m p := fun p hp => (Sm.tup (h.mono (Nat.le_refl _) (Nat.le_succ _) (Nat.le_refl _)) p hp).mono (by omega) (by omega) (Nat.le_refl _)
theorem Sm.len {w d m : Nat} {ps : List PV} (h : Sm w d m (.tup ps)) : ps.length ≤ m := by
  have hm := h.m
  simp only [lnm] at hm
  omega
theorem repr_sm {p : PV} {w d m : Nat} (G : GH) (h : Sm w d m p) (hw : w ≤ 200000) (hd : d ≤ 60) : bRepr [p] G = .ok (.str (rep p)) G := by
  obtain ⟨h1, h2, h3, h4, h5, h6⟩ := fit_layX h.f
  have l1 := h.w
  have l2 := h.d
  have z := PyData.shown_le 61 (by decide) (dOf p) (PyData.leavesShort_of_canLay0 61 _ h1 h6)
  have hm : (61 + 2) * (dOf p).weight ≤ 63 * 200000 := Nat.mul_le_mul (by decide) (by omega)
  have e : sizeLine = 16777216 := by decide
  have k : reprOk (dOf p) = true := by
    unfold reprOk
    simp only [Bool.and_eq_true, decide_eq_true_eq, Bool.not_eq_true']
    exact ⟨⟨⟨h4, h5⟩, by omega⟩, by omega⟩
  simp only [bRepr, toDG_dat G h.dat, if_pos k, rep]
/-! ### the feed -/
/-- the feed with at most D draws behind it -/
def Fd (D : Nat) (g : GO) : Prop := ∃ (cs : List Int) (a b d : Int), g = feedO cs a b d ∧ 0 ≤ a ∧ 0 ≤ b ∧ 0 ≤ d ∧ d ≤ D
theorem Fd.mono {D D' : Nat} {g : GO} (h : Fd D g) (hd : D ≤ D') : Fd D' g := by
  obtain ⟨cs, a, b, d, e, h1, h2, h3, h4⟩ := h
  exact ⟨cs, a, b, d, e, h1, h2, h3, by omega⟩
theorem Fd.refs {D : Nat} {g : GO} (h : Fd D g) (n : Nat) : GO.refsB n g = true := by
  obtain ⟨cs, a, b, d, rfl, _⟩ := h
  exact refs_feed _ _ _ _ _
/-- behind a def that draws: the data alone is kept -/
theorem trim_fd {D : Nat} {g g' : GO} {R S : GH} {p : PV} (hg : Fd D g') (h : datB p = true) : trimR (g :: R) (.ok p (g' :: (R ++ S))) = .ok p (g' :: R) := by
  obtain ⟨cs, a, b, d, rfl, _⟩ := hg
  exact trim_feed h
theorem wq_draw {f : List PV → GH → Res PV} (hf : SpDraw f) {D : Nat} {g : GO} (hg : Fd D g) {n : Int} {R : GH} {Q : PV → GH → Prop} (hn : 0 < n) (hn2 : n ≤ 1000000) (hD : D ≤ 1000000000)
    (k : ∀ (r : Int) (g' : GO), 0 ≤ r → r < n → Fd (D + 1) g' → Q (.int r) (g' :: R)) : @wq PV (f [.obj 0, .int n] (g :: R)) ⟨Q⟩ := by
  obtain ⟨cs, a, b, d, rfl, h1, h2, h3, h4⟩ := hg
  obtain ⟨r, a', b', q1, q2, q3, q4, e⟩ := hf cs a b d n R hn hn2 h1 h2 h3 (by omega)
  exact wq_eq e (k r _ q1 q2 ⟨cs, a', b', d + 1, rfl, q3, q4, by omega, by omega⟩)
/-! ### loops by what stays -/
theorem wq_loopC {f : PV → GH → Res (Option PV)} {gd : GH → Bool} (I : Nat → GH → Prop) (P : PV → Prop) : ∀ (its : List PV) (i : Nat) {G : GH}, I i G → (∀ j G, I j G → gd G = true) →
    (∀ x ∈ its, ∀ j G, i ≤ j → j < i + its.length → I j G → @wq (Option PV) (f x G) ⟨fun o G' => I (j + 1) G' ∧ ∀ y ∈ o, P y⟩) →
    @wq (List PV) (loopC f gd its G) ⟨fun ys G' => I (i + its.length) G' ∧ (∀ y ∈ ys, P y) ∧ ys.length ≤ its.length⟩
  | [], i, G, h, hg, _ => by
    simp only [loopC, if_pos (hg i G h), wq_ok]
    exact ⟨h, ⟨fun y hy => absurd hy List.not_mem_nil, Nat.le_refl _⟩⟩
  | x :: xs, i, G, h, hg, hs => by
    simp only [loopC, if_pos (hg i G h), wq_bind, wq_ok]
    refine wq_use (hs x (List.mem_cons_self ..) i G (Nat.le_refl _) (by rw [List.length_cons]; omega) h) fun o G1 ⟨h1, h2⟩ => ?_
    simp only [wq_bind, wq_ok]
    refine wq_use (wq_loopC I P xs (i + 1) h1 hg fun y hy j G' p1 p2 => hs y (List.mem_cons_of_mem _ hy) j G' (by omega) (by rw [List.length_cons]; omega)) fun ys G2 ⟨h3, h4, h5⟩ => (wq_ok _ _ _).mpr ⟨?_, ?_, ?_⟩
    · rw [List.length_cons, show i + (xs.length + 1) = i + 1 + xs.length by omega]; exact h3
    · intro y hy
      rcases List.mem_append.mp hy with q | q
      · exact h2 y (by simpa using q)
      · exact h4 y q
    · have : o.toList.length ≤ 1 := by cases o <;> simp
      rw [List.length_append, List.length_cons]; omega
/-- .. where each gives one -/
theorem wq_loopC1 {f : PV → GH → Res (Option PV)} {gd : GH → Bool} (I : Nat → GH → Prop) (P : PV → Prop) : ∀ (its : List PV) (i : Nat) {G : GH}, I i G → (∀ j G, I j G → gd G = true) →
    (∀ x ∈ its, ∀ j G, i ≤ j → j < i + its.length → I j G → @wq (Option PV) (f x G) ⟨fun o G' => I (j + 1) G' ∧ ∃ y, o = some y ∧ P y⟩) →
    @wq (List PV) (loopC f gd its G) ⟨fun ys G' => I (i + its.length) G' ∧ (∀ y ∈ ys, P y) ∧ ys.length = its.length⟩
  | [], i, G, h, hg, _ => by
    simp only [loopC, if_pos (hg i G h), wq_ok]
    exact ⟨h, ⟨fun y hy => absurd hy List.not_mem_nil, by simp⟩⟩
  | x :: xs, i, G, h, hg, hs => by
    simp only [loopC, if_pos (hg i G h), wq_bind, wq_ok]
    refine wq_use (hs x (List.mem_cons_self ..) i G (Nat.le_refl _) (by rw [List.length_cons]; omega) h) fun o G1 ⟨h1, z, e, h2⟩ => ?_
    subst e
    simp only [wq_bind, wq_ok]
    refine wq_use (wq_loopC1 I P xs (i + 1) h1 hg fun y hy j G' p1 p2 => hs y (List.mem_cons_of_mem _ hy) j G' (by omega) (by rw [List.length_cons]; omega)) fun ys G2 ⟨h3, h4, h5⟩ => (wq_ok _ _ _).mpr ⟨?_, ?_, ?_⟩
    · rw [List.length_cons, show i + (xs.length + 1) = i + 1 + xs.length by omega]; exact h3
    · intro y hy
      rcases List.mem_append.mp hy with q | q
      · rw [show y = z by simpa using q]; exact h2
      · exact h4 y q
    · simp only [List.length_append, Option.toList_some, List.length_cons, List.length_nil]; omega
/-- a for that always goes on -/
theorem wq_loopF {f : PV → Env → GH → Res Fl} {gd : GH → Bool} (I : Nat → Env → GH → Prop) : ∀ (its : List PV) (i : Nat) {ρ : Env} {G : GH}, I i ρ G → (∀ j ρ G, I j ρ G → gd G = true) →
    (∀ x ∈ its, ∀ j ρ G, i ≤ j → j < i + its.length → I j ρ G → @wq Fl (f x ρ G) ⟨fun fl G' => ∃ ρ', (fl = .next ρ' ∨ fl = .cont ρ') ∧ I (j + 1) ρ' G'⟩) →
    @wq Fl (loopF f gd its ρ G) ⟨fun fl G' => ∃ ρ', fl = .next ρ' ∧ I (i + its.length) ρ' G'⟩
  | [], i, ρ, G, h, hg, _ => by
    simp only [loopF, if_pos (hg i ρ G h), wq_ok]
    exact ⟨ρ, rfl, h⟩
  | x :: xs, i, ρ, G, h, hg, hs => by
    simp only [loopF, if_pos (hg i ρ G h), wq_bind, wq_ok]
    refine wq_use (hs x (List.mem_cons_self ..) i ρ G (Nat.le_refl _) (by rw [List.length_cons]; omega) h) fun fl G1 ⟨ρ1, e, h1⟩ => ?_
    have go := wq_loopF I xs (i + 1) h1 hg fun y hy j ρ' G' p1 p2 => hs y (List.mem_cons_of_mem _ hy) j ρ' G' (by omega) (by rw [List.length_cons]; omega)
    have e2 : i + (x :: xs).length = i + 1 + xs.length := by rw [List.length_cons]; omega
    rw [e2]
    rcases e with rfl | rfl <;> (simp only; exact go)
end EV.NV
end
section
set_option Elab.async false
set_option linter.all false
set_option maxRecDepth 100000
/-! Ev35: list + list as an object that changes; abs. -/
namespace EV
open PySem PySem.Spec PyProof.Rows L2
def opAddO (ps : List PV) (G : GH) : Res PV := match ps with
  | [x, y] => match asL x G, asL y G with
    | some a, some b => if a.length + b.length ≤ sizeLine then .ok (.obj G.length) (G ++ [.lst (a ++ b)]) else .bad
    | _, _ => .bad
  | _ => .bad
def bAbs (ps : List PV) (G : GH) : Res PV := match ps with
  | [.int i] => .ok (.int (if i < 0 then -i else i)) G
  | _ => .bad
section
variable {X : Cx} {F : Fx} {Ex : XK} {n : Nat}
theorem opAddO_ok (hK : F.K = X.K) : OpR X (binaryOp .Add) (OpV F Ex opAddO) := by
  intro pins s σ H x y v u Q I rx ry ⟨μ, ps, G, r, g, p⟩
  unfold opAddO at p
  split at p
  · obtain ⟨_, _, e, r1, r2⟩ := Reps.two_inv r
    cases e
    split at p
    · rename_i ea eb
      split at p
      · rename_i hz
        obtain ⟨a, vs, e1, z1, st1, rr1⟩ := asL_rep ea r1 g
        obtain ⟨b, ws, e2, z2, st2, rr2⟩ := asL_rep eb r2 g
        have l1 := rr1.length
        have l2 := rr2.length
        exact op_catS pins s σ H _ _ v u Q I rx ry ⟨a, b, vs, ws, e1, e2, by rw [← hK]; exact st1, by rw [← hK]; exact st2, by omega, Post.newL (ob := true) (by simpa using p) g (rr1.append rr2) (by rw [List.length_append]; omega)⟩
      · exact (show False from p).elim
    · exact (show False from p).elim
  · exact (show False from p).elim
theorem gaddO (g : GX X F Ex n) {a b : Expr} {pos : Pos} {ma mb : Env → GH → Res PV} (ha : PE X a (TEv F Ex ma)) (hb : PE X b (TEv F Ex mb)) : PE X (.BinOp a .Add b pos) (TEv F Ex (m2 ma mb opAddO)) := ev_bin (opAddO_ok g.K) ha hb
theorem bAbs_ok : CallR X (.builtin "abs") (RdV F Ex bAbs) := by
  intro pins s σ H xs us Q I rs ⟨μ, ps, G, r, g, p⟩
  unfold bAbs at p
  split at p
  · obtain ⟨v, rfl, r1⟩ := Reps.one_inv r
    exact call_abs pins s σ H _ us Q I rs ⟨_, by rw [rep_int r1], p.here RV.int g⟩
  · exact (show False from p).elim
end
end EV
end
section
/-! printed by gen.py: the defs of the law, as the evaluator has them, and that they compute so. -/
set_option Elab.async false
set_option linter.all false
set_option maxRecDepth 100000
set_option maxHeartbeats 4000000
namespace K01
open PySem PySem.Spec PyProof.Rows L2 EV
/-- is_word(thing) -/
def N_is_word : List Str := ["thing", "sign"]
def b_is_word : EV.Env → GH → Res Fl := sSeq (sIf (mtOr (mtNot (mT (m1 (mVar 0) (bIsi "str")))) (mtNot (mB (m3c (mCst (.int 1)) (mA (mCons (mVar 0) (mNil)) bLen) (mCst (.int 8)) (Cop.f .le) (Cop.f .le))))) (sSeq (sRet (mCst (.bl false))) (sNext)) (sNext)) (sSeq (sRet (mA (mCons (mComp false (mSeq (mVar 0)) (gN 1) (mYes) (m2 (mVar 1) (mCst (.str "abcdefghijklmnopqrstuvwxyz")) (Cop.f .in_)) [1]) (mNil)) bAll)) (sNext))
/-- are_fields(thing) -/
def N_are_fields : List Str := ["thing", "one", "other"]
def b_are_fields (f_is_long f_is_value f_is_word : List PV → GH → Res PV) : EV.Env → GH → Res Fl := sSeq (sIf (mtNot (mT (mA (mCons (mComp false (mSeq (mVar 0)) (gN 1) (mYes) (mAnd (mA (mCons (mVar 1) (mCons (mCst (.int 2)) (mNil))) f_is_long) (mAnd (mA (mCons (m2 (mVar 1) (mCst (.int 0)) opIx) (mNil)) f_is_word) (mA (mCons (m2 (mVar 1) (mCst (.int 1)) opIx) (mNil)) f_is_value))) [1]) (mNil)) bAll))) (sSeq (sRet (mCst (.bl false))) (sNext)) (sNext)) (sSeq (sRet (mA (mCons (mComp false (mZip (mCons (mVar 0) (mCons (mSl (mVar 0) (mPart (mCst (.int 1))) (mNoPart) opSl) mNil))) (gTupE 2 (gConsE (gN 1) (gConsE (gN 2) (gNilE)))) (mYes) (m2 (m2 (mVar 1) (mCst (.int 0)) opIx) (m2 (mVar 2) (mCst (.int 0)) opIx) (Cop.f .lt)) [1, 2]) (mNil)) bAll)) (sNext))
/-- is_value(thing) -/
def N_is_value : List Str := ["thing", "one"]
def b_is_value (f_are_fields f_is_plain f_is_row f_is_tree f_is_value : List PV → GH → Res PV) : EV.Env → GH → Res Fl := sSeq (sIf (mT (mA (mCons (mVar 0) (mNil)) f_is_tree)) (sSeq (sRet (mA (mCons (m2 (mVar 0) (mCst (.int 1)) opIx) (mNil)) f_are_fields)) (sNext)) (sNext)) (sSeq (sIf (mT (mA (mCons (mVar 0) (mNil)) f_is_row)) (sSeq (sRet (mA (mCons (mComp false (mSeq (m2 (mVar 0) (mCst (.int 1)) opIx)) (gN 1) (mYes) (mA (mCons (mVar 1) (mNil)) f_is_value) [1]) (mNil)) bAll)) (sNext)) (sNext)) (sSeq (sRet (mA (mCons (mVar 0) (mNil)) f_is_plain)) (sNext)))
/-- is_document(thing) -/
def N_is_document : List Str := ["thing"]
def b_is_document (f_are_fields f_is_tree : List PV → GH → Res PV) : EV.Env → GH → Res Fl := sSeq (sRet (mAnd (mA (mCons (mVar 0) (mNil)) f_is_tree) (mA (mCons (m2 (mVar 0) (mCst (.int 1)) opIx) (mNil)) f_are_fields))) (sNext)
/-- _law_spoilt(_law_feed_here, _law_thing, _law_menu) -/
def N__law_spoilt : List Str := ["_law_feed_here", "_law_thing", "_law_menu", "_law_way", "_law_at", "_law_other", "_law_some"]
def b__law_spoilt (f__law_draw f__law_spoilt : List PV → GH → Res PV) : EV.Env → GH → Res Fl := sSeq (sAsg (mA (mCons (mVar 0) (mCons (mCst (.int 9)) (mNil))) f__law_draw) (gN 3)) (sSeq (sIf (mtOr (mtNot (mT (m1 (mVar 1) (bIsi "tuple")))) (mtOr (mB (m2 (mVar 1) (mA (mNil) mkTup) (Cop.f .eq))) (mB (m2 (mVar 3) (mCst (.int 0)) (Cop.f .eq))))) (sSeq (sRet (m2 (mVar 2) (mA (mCons (mVar 0) (mCons (mA (mCons (mVar 2) (mNil)) bLen) (mNil))) f__law_draw) opIx)) (sNext)) (sNext)) (sSeq (sAsg (mA (mCons (mVar 0) (mCons (mA (mCons (mVar 1) (mNil)) bLen) (mNil))) f__law_draw) (gN 4)) (sSeq (sIf (mB (m2 (mVar 3) (mCst (.int 1)) (Cop.f .eq))) (sSeq (sRet (m2 (mSl (mVar 1) (mNoPart) (mPart (mVar 4)) opSl) (mSl (mVar 1) (mPart (m2 (mVar 4) (mCst (.int 1)) opAdd)) (mNoPart) opSl) opAdd)) (sNext)) (sNext)) (sSeq (sIf (mB (m2 (mVar 3) (mCst (.int 2)) (Cop.f .eq))) (sSeq (sRet (m2 (m2 (mSl (mVar 1) (mNoPart) (mPart (mVar 4)) opSl) (mSl (mVar 1) (mPart (mVar 4)) (mPart (m2 (mVar 4) (mCst (.int 1)) opAdd)) opSl) opAdd) (mSl (mVar 1) (mPart (mVar 4)) (mNoPart) opSl) opAdd)) (sNext)) (sNext)) (sSeq (sIf (mB (m2 (mVar 3) (mCst (.int 3)) (Cop.f .eq))) (sSeq (sRet (m2 (m2 (mSl (mVar 1) (mNoPart) (mPart (mVar 4)) opSl) (mA (mCons (m2 (mVar 2) (mA (mCons (mVar 0) (mCons (mA (mCons (mVar 2) (mNil)) bLen) (mNil))) f__law_draw) opIx) (mNil)) mkTup) opAdd) (mSl (mVar 1) (mPart (mVar 4)) (mNoPart) opSl) opAdd)) (sNext)) (sNext)) (sSeq (sIf (mB (m2 (mVar 3) (mCst (.int 4)) (Cop.f .eq))) (sSeq (sPar 5 6 (mCons (mA (mCons (mVar 0) (mCons (mA (mCons (mVar 1) (mNil)) bLen) (mNil))) f__law_draw) (mCons (mA (mCons (mVar 1) (mNil)) (bLst true)) (mNil)))) (sSeq (sAsg (mA (mCons (m2 (mVar 1) (mVar 5) opIx) (mCons (m2 (mVar 1) (mVar 4) opIx) (mNil))) mkTup) (gTupE 2 (gConsE (gSubE (mVar 6) (mVar 4) fSetL) (gConsE (gSubE (mVar 6) (mVar 5) fSetL) (gNilE))))) (sSeq (sRet (mA (mCons (mVar 6) (mNil)) bTup)) (sNext)))) (sNext)) (sSeq (sIf (mB (m2 (mVar 3) (mCst (.int 5)) (Cop.f .eq))) (sSeq (sRet (mA (mCons (mVar 1) (mNil)) (bLst false))) (sNext)) (sNext)) (sSeq (sRet (m2 (m2 (mSl (mVar 1) (mNoPart) (mPart (mVar 4)) opSl) (mA (mCons (mA (mCons (mVar 0) (mCons (m2 (mVar 1) (mVar 4) opIx) (mCons (mVar 2) (mNil)))) f__law_spoilt) (mNil)) mkTup) opAdd) (mSl (mVar 1) (mPart (m2 (mVar 4) (mCst (.int 1)) opAdd)) (mNoPart) opSl) opAdd)) (sNext)))))))))
/-- _law_is_number(_law_thing) -/
def N__law_is_number : List Str := ["_law_thing"]
def b__law_is_number : EV.Env → GH → Res Fl := sSeq (sRet (mAnd (m1 (mVar 0) (bIsi "int")) (mNot (m1 (mVar 0) (bIsi "bool"))))) (sNext)
/-- _law_is_word(_law_thing) -/
def N__law_is_word : List Str := ["_law_thing", "_law_s"]
def b__law_is_word : EV.Env → GH → Res Fl := sSeq (sRet (mAnd (m1 (mVar 0) (bIsi "str")) (mAnd (m3c (mCst (.int 0)) (mA (mCons (mVar 0) (mNil)) bLen) (mCst (.int 9)) (Cop.f .lt) (Cop.f .lt)) (m2 (mComp false (mSeq (mVar 0)) (gN 1) (mtNot (mB (m3c (mCst (.str "a")) (mVar 1) (mCst (.str "z")) (Cop.f .le) (Cop.f .le)))) (mVar 1) [1]) (mA (mNil) mkLst) (Cop.f .eq))))) (sNext)
/-- _law_is_text(_law_thing) -/
def N__law_is_text : List Str := ["_law_thing", "_law_signs", "_law_s"]
def b__law_is_text : EV.Env → GH → Res Fl := sSeq (sAsg (mCst (.str "abcdefghijklmnopqrstuvwxyz0123456789")) (gN 1)) (sSeq (sRet (mAnd (m1 (mVar 0) (bIsi "str")) (mAnd (m2 (mA (mCons (mVar 0) (mNil)) bLen) (mCst (.int 17)) (Cop.f .lt)) (m2 (mComp false (mSeq (mVar 0)) (gN 2) (mB (m2 (mVar 2) (mVar 1) (Cop.f .notin))) (mVar 2) [2]) (mA (mNil) mkLst) (Cop.f .eq))))) (sNext))
/-- _law_is_plain(_law_thing) -/
def N__law_is_plain : List Str := ["_law_thing"]
def b__law_is_plain (f__law_is_text : List PV → GH → Res PV) : EV.Env → GH → Res Fl := sSeq (sRet (mOr (m1 (mVar 0) (bIsi "int")) (mA (mCons (mVar 0) (mNil)) f__law_is_text))) (sNext)
/-- _law_is_value(_law_thing) -/
def N__law_is_value : List Str := ["_law_thing", "_law_pair", "_law_names", "_law_one"]
def b__law_is_value (f__law_is_plain f__law_is_value f__law_is_word : List PV → GH → Res PV) : EV.Env → GH → Res Fl := sSeq (sIf (mtNot (mT (m1 (mVar 0) (bIsi "tuple")))) (sSeq (sRet (mA (mCons (mVar 0) (mNil)) f__law_is_plain)) (sNext)) (sNext)) (sSeq (sIf (mtOr (mB (m2 (mA (mCons (mVar 0) (mNil)) bLen) (mCst (.int 2)) (Cop.f .ne))) (mtOr (mtNot (mT (m1 (m2 (mVar 0) (mCst (.int 0)) opIx) (bIsi "str")))) (mtNot (mT (m1 (m2 (mVar 0) (mCst (.int 1)) opIx) (bIsi "tuple")))))) (sSeq (sRet (mCst (.bl false))) (sNext)) (sNext)) (sSeq (sIf (mB (m2 (m2 (mVar 0) (mCst (.int 0)) opIx) (mCst (.str "row")) (Cop.f .eq))) (sSeq (sRet (m2 (mComp false (mSeq (m2 (mVar 0) (mCst (.int 1)) opIx)) (gN 3) (mtNot (mT (mA (mCons (mVar 3) (mNil)) f__law_is_value))) (mVar 3) [3]) (mA (mNil) mkLst) (Cop.f .eq))) (sNext)) (sNext)) (sSeq (sIf (mB (m2 (m2 (mVar 0) (mCst (.int 0)) opIx) (mCst (.str "tree")) (Cop.f .ne))) (sSeq (sRet (mCst (.bl false))) (sNext)) (sNext)) (sSeq (sFor (mSeq (m2 (mVar 0) (mCst (.int 1)) opIx)) (gN 1) (sSeq (sIf (mtOr (mtNot (mT (m1 (mVar 1) (bIsi "tuple")))) (mtOr (mB (m2 (mA (mCons (mVar 1) (mNil)) bLen) (mCst (.int 2)) (Cop.f .ne))) (mtOr (mtNot (mT (mA (mCons (m2 (mVar 1) (mCst (.int 0)) opIx) (mNil)) f__law_is_word))) (mtNot (mT (mA (mCons (m2 (mVar 1) (mCst (.int 1)) opIx) (mNil)) f__law_is_value)))))) (sSeq (sRet (mCst (.bl false))) (sNext)) (sNext)) (sNext))) (sSeq (sAsg (mComp false (mSeq (m2 (mVar 0) (mCst (.int 1)) opIx)) (gN 1) (mYes) (m2 (mVar 1) (mCst (.int 0)) opIx) [1]) (gN 2)) (sSeq (sRet (m2 (mVar 2) (mA (mCons (mVar 2) mNil) (bSortSet false)) (Cop.f .eq))) (sNext)))))))
/-- _law_letters(_law_feed_here) -/
def N__law_letters : List Str := ["_law_feed_here", "_law_signs", "_law_size", "_law_k"]
def b__law_letters (f__law_draw : List PV → GH → Res PV) : EV.Env → GH → Res Fl := sSeq (sAsg (m2 (mCst (.str "abz019yt")) (m2 (mA (mCons (mCst (.str "a")) (mCons (mCst (.str "A")) (mCons (mCst (.str " ")) (mCons (mCst (.str "_")) (mCons (mCst (.str "`")) (mCons (mCst (.str "{")) (mCons (mCst (.str "/")) (mCons (mCst (.str ":")) (mNil))))))))) mkLst) (mA (mCons (mVar 0) (mCons (mCst (.int 8)) (mNil))) f__law_draw) opIx) opAdd) (gN 1)) (sSeq (sAsg (m2 (mA (mCons (mA (mCons (mVar 0) (mCons (mCst (.int 10)) (mNil))) f__law_draw) (mCons (mCst (.int 8)) (mCons (mCst (.int 9)) (mCons (mCst (.int 16)) (mCons (mCst (.int 17)) (mNil)))))) mkLst) (mA (mCons (mVar 0) (mCons (mCst (.int 5)) (mNil))) f__law_draw) opIx) (gN 2)) (sSeq (sRet (mMet "str" (mCst (.str "")) (mCons (mComp false (mRng (mCons (mVar 2) (mNil))) (gN 3) (mYes) (m2 (mVar 1) (mA (mCons (mVar 0) (mCons (mCst (.int 9)) (mNil))) f__law_draw) opIx) [3]) (mNil)) fJoin)) (sNext)))
/-- _law_near(_law_one) -/
def N__law_near : List Str := ["_law_one", "_law_found"]
def b__law_near : EV.Env → GH → Res Fl := sSeq (sAsg (mA (mCons (mVar 0) (mCons (mA (mCons (mCst (.str "row")) (mCons (mA (mCons (mVar 0) (mNil)) mkTup) (mNil))) mkTup) (mCons (mA (mCons (mCst (.str "tree")) (mCons (mA (mCons (mA (mCons (mCst (.str "a")) (mCons (mVar 0) (mNil))) mkTup) (mNil)) mkTup) (mNil))) mkTup) (mCons (mA (mCons (mCst (.str "row")) (mCons (mVar 0) (mNil))) mkTup) (mCons (mA (mCons (mCst (.str "row")) (mCons (mA (mCons (mVar 0) (mNil)) mkLst) (mNil))) mkTup) (mCons (mA (mCons (mCst (.str "rows")) (mCons (mA (mCons (mVar 0) (mNil)) mkTup) (mNil))) mkTup) (mNil))))))) mkObj) (gN 1)) (sSeq (sAsg (m2 (mVar 1) (mA (mCons (mA (mCons (mCst (.str "tree")) (mCons (mA (mCons (mA (mCons (mCst (.str "a")) (mCons (mVar 0) (mNil))) mkTup) (mCons (mA (mCons (mCst (.str "a")) (mCons (mVar 0) (mNil))) mkTup) (mNil))) mkTup) (mNil))) mkTup) (mCons (mA (mCons (mCst (.str "tree")) (mCons (mA (mCons (mA (mCons (mCst (.str "b")) (mCons (mVar 0) (mNil))) mkTup) (mCons (mA (mCons (mCst (.str "a")) (mCons (mVar 0) (mNil))) mkTup) (mNil))) mkTup) (mNil))) mkTup) (mNil))) mkLst) opAddO) (gN 1)) (sSeq (sAsg (m2 (mVar 1) (mA (mCons (mA (mCons (mCst (.str "tree")) (mCons (mA (mCons (mA (mCons (mCst (.str "a")) (mCons (mVar 0) (mNil))) mkTup) (mCons (mA (mCons (mCst (.str "b")) (mCons (mCst (.int 1)) (mNil))) mkTup) (mNil))) mkTup) (mNil))) mkTup) (mCons (mA (mCons (mCst (.str "tree")) (mCons (mA (mCons (mA (mCons (mCst (.str "A")) (mCons (mVar 0) (mNil))) mkTup) (mNil)) mkTup) (mNil))) mkTup) (mCons (mA (mCons (mCst (.str "tree")) (mCons (mA (mCons (mA (mCons (mCst (.str "a")) (mCons (mVar 0) (mCons (mVar 0) (mNil)))) mkTup) (mNil)) mkTup) (mNil))) mkTup) (mNil)))) mkLst) opAddO) (gN 1)) (sSeq (sAsg (m2 (mVar 1) (mA (mCons (mA (mCons (mCst (.str "tree")) (mCons (mA (mCons (mA (mCons (mCst (.str "a")) (mCons (mVar 0) (mNil))) mkLst) (mNil)) mkTup) (mNil))) mkTup) (mCons (mA (mCons (mCst (.str "tree")) (mCons (mA (mCons (mA (mCons (mCst (.int 1)) (mCons (mVar 0) (mNil))) mkTup) (mNil)) mkTup) (mNil))) mkTup) (mCons (mA (mCons (mCst (.str "row")) (mCons (mA (mCons (mVar 0) (mNil)) mkTup) (mNil))) mkLst) (mCons (mA (mCons (mCst (.str "row")) (mCons (mA (mCons (mVar 0) (mNil)) mkTup) (mCons (mVar 0) (mNil)))) mkTup) (mNil))))) mkLst) opAddO) (gN 1)) (sSeq (sAsg (m2 (mVar 1) (mA (mCons (mA (mCons (mCst (.str "tree")) (mNil)) mkTup) (mCons (mA (mCons (mCst (.str "row")) (mNil)) mkTup) (mCons (mA (mCons (mCst (.str "row")) (mCons (mA (mNil) mkTup) (mNil))) mkTup) (mCons (mA (mCons (mCst (.str "tree")) (mCons (mA (mNil) mkTup) (mNil))) mkTup) (mCons (mA (mCons (mCst .non) (mCons (mA (mNil) mkTup) (mNil))) mkTup) (mCons (mA (mCons (mCst (.str "tree")) (mCons (mVar 0) (mNil))) mkTup) (mCons (mA (mCons (mCst (.str "row")) (mCons (mA (mCons (mVar 0) (mCons (mCst .non) (mNil))) mkTup) (mNil))) mkTup) (mNil)))))))) mkLst) opAddO) (gN 1)) (sSeq (sDrop (mMet "list" (mVar 1) (mCons (mA (mCons (mCst (.str "")) (mCons (mA (mNil) mkTup) (mNil))) mkTup) (mNil)) fAppend)) (sSeq (sIf (mT (m1 (mVar 0) (bIsi "tuple"))) (sSeq (sAsg (m2 (mVar 1) (mA (mCons (m1 (mVar 0) opRev) (mCons (mA (mCons (m2 (mVar 0) (mCst (.int 0)) opIx) (mCons (m1 (m2 (mVar 0) (mCst (.int 1)) opIx) opRev) (mNil))) mkTup) (mCons (mA (mCons (m2 (mVar 0) (mCst (.int 0)) opIx) (mCons (m2 (m2 (mVar 0) (mCst (.int 1)) opIx) (mCst (.int 2)) opMul) (mNil))) mkTup) (mCons (mA (mCons (m2 (mVar 0) (mCst (.int 0)) opIx) (mCons (mA (mCons (m2 (mVar 0) (mCst (.int 1)) opIx) (mNil)) (bLst false)) (mNil))) mkTup) (mCons (m2 (mVar 0) (mCst (.int 1)) opIx) (mNil)))))) mkLst) opAddO) (gN 1)) (sNext)) (sNext)) (sSeq (sRet (mVar 1)) (sNext))))))))
/-- law(_law_script) -/
def N_law : List Str := ["_law_script", "_law_feed_here", "_law_deep", "_law_k", "_law_rows", "_law_menu", "_law_some", "_law_turn", "_law_thing", "_law_one", "_law_due", "_law_told", "_law_bent", "_law_kept", "_law_is_one"]
def b_law (f__law_document f__law_feed f__law_is_number f__law_is_plain f__law_is_text f__law_is_value f__law_is_word f__law_letters f__law_near f__law_plain f__law_spoilt f__law_value f_is_document f_is_number f_is_plain f_is_text f_is_value f_is_word : List PV → GH → Res PV) : EV.Env → GH → Res Fl := sSeq (sAsg (mA (mCons (mVar 0) (mNil)) f__law_feed) (gN 1)) (sSeq (sAsg (mCst (.int 1)) (gN 2)) (sSeq (sFor (mRng (mCons (mCst (.int 10)) (mNil))) (gN 3) (sSeq (sAsg (m2 (mA (mCons (mA (mCons (mCst (.str "row")) (mCons (mA (mCons (mVar 2) (mNil)) mkTup) (mNil))) mkTup) (mCons (mA (mCons (mCst (.str "tree")) (mCons (mA (mCons (mA (mCons (mCst (.str "a")) (mCons (mVar 2) (mNil))) mkTup) (mNil)) mkTup) (mNil))) mkTup) (mNil))) mkLst) (m2 (mVar 3) (mCst (.int 2)) opMod) opIx) (gN 2)) (sNext))) (sSeq (sAsg (mCst (.int 1)) (gN 4)) (sSeq (sFor (mRng (mCons (mCst (.int 18)) (mNil))) (gN 3) (sSeq (sAsg (mA (mCons (mCst (.str "row")) (mCons (mA (mCons (mVar 4) (mNil)) mkTup) (mNil))) mkTup) (gN 4)) (sNext))) (sSeq (sAsg (mA (mCons (mCst .non) (mCons (mCst (.bl true)) (mCons (mCst (.bl false)) (mCons (mCst (.int 0)) (mCons (mCst (.int 1)) (mCons (m1 (mCst (.int 1)) opNeg) (mCons (mCst (.str "")) (mCons (mCst (.str "a")) (mCons (mCst (.str "row")) (mCons (mCst (.str "tree")) (mCons (mCst (.str "yes")) (mCons (mA (mNil) mkTup) (mCons (mA (mNil) mkLst) (mCons (mCst (.str "A")) (mCons (mCst (.str "a1")) (mCons (m2 (mCst (.int 10)) (mCst (.int 40)) opPow) (mCons (mA (mCons (mCst (.str "row")) (mCons (mA (mNil) mkTup) (mNil))) mkTup) (mNil)))))))))))))))))) mkLst) (gN 5)) (sSeq (sAsg (m2 (mVar 5) (mA (mCons (mVar 2) (mCons (mA (mCons (mCst (.str "row")) (mCons (m2 (mA (mCons (mCst (.int 0)) (mNil)) mkTup) (mCst (.int 300)) opMul) (mNil))) mkTup) (mCons (mA (mCons (mCst (.str "row")) (mCons (m2 (m2 (mA (mCons (mCst (.int 0)) (mNil)) mkTup) (mCst (.int 300)) opMul) (mA (mCons (mCst .non) (mNil)) mkTup) opAdd) (mNil))) mkTup) (mCons (mA (mCons (mCst (.str "row")) (mCons (m2 (mA (mCons (mVar 2) (mNil)) mkTup) (mCst (.int 20)) opMul) (mNil))) mkTup) (mNil))))) mkLst) opAdd) (gN 6)) (sSeq (sAsg (m2 (mVar 6) (mA (mCons (mVar 4) (mCons (mA (mCons (mCst (.str "row")) (mCons (mA (mCons (mVar 4) (mNil)) mkTup) (mNil))) mkTup) (mNil))) mkLst) opAdd) (gN 6)) (sSeq (sFor (mRng (mCons (mCst (.int 3)) (mNil))) (gN 7) (sSeq (sAsg (m2 (mA (mCons (mA (mCons (mVar 1) (mNil)) f__law_document) (mCons (mA (mCons (mVar 1) (mCons (mCst (.int 3)) (mCons (mA (mCons (mCst (.int 12)) (mNil)) mkObj) (mNil)))) f__law_value) (mCons (mA (mCons (mVar 1) (mNil)) f__law_plain) (mNil)))) mkLst) (mVar 7) opIx) (gN 9)) (sSeq (sAsg (m2 (m2 (mVar 6) (mA (mCons (mVar 9) (mNil)) f__law_near) opAdd) (mComp false (mRng (mCons (mCst (.int 7)) (mNil))) (gN 3) (mYes) (mA (mCons (mVar 1) (mNil)) f__law_letters) [3]) opAdd) (gN 6)) (sSeq (sFor (mRng (mCons (mCst (.int 6)) (mNil))) (gN 3) (sSeq (sAsg (mA (mCons (mVar 1) (mCons (mVar 9) (mCons (mVar 5) (mNil)))) f__law_spoilt) (gN 12)) (sSeq (sAsg (m2 (mVar 6) (mA (mCons (mVar 12) (mCons (mA (mCons (mVar 1) (mCons (mVar 12) (mCons (mVar 5) (mNil)))) f__law_spoilt) (mNil))) mkLst) opAdd) (gN 6)) (sNext)))) (sNext))))) (sSeq (sFor (mSeq (mVar 6)) (gN 8) (sSeq (sPar 13 14 (mCons (mA (mCons (mVar 8) (mNil)) bRepr) (mCons (mA (mCons (mVar 8) (mNil)) f__law_is_value) (mNil)))) (sSeq (sAsg (mA (mCons (mA (mCons (mVar 8) (mNil)) f__law_is_word) (mCons (mA (mCons (mVar 8) (mNil)) f__law_is_number) (mCons (mA (mCons (mVar 8) (mNil)) f__law_is_text) (mCons (mA (mCons (mVar 8) (mNil)) f__law_is_plain) (mCons (mVar 14) (mNil)))))) mkObj) (gN 10)) (sSeq (sDrop (mMet "list" (mVar 10) (mCons (mAnd (mVar 14) (mAnd (m1 (mVar 8) (bIsi "tuple")) (m2 (m2 (mVar 8) (mCst (.int 0)) opIx) (mCst (.str "tree")) (Cop.f .eq)))) (mNil)) fAppend)) (sSeq (sAsg (mA (mCons (mA (mCons (mVar 8) (mNil)) f_is_word) (mCons (mA (mCons (mVar 8) (mNil)) f_is_number) (mCons (mA (mCons (mVar 8) (mNil)) f_is_text) (mCons (mA (mCons (mVar 8) (mNil)) f_is_plain) (mCons (mA (mCons (mVar 8) (mNil)) f_is_value) (mCons (mA (mCons (mVar 8) (mNil)) f_is_document) (mNil))))))) mkLst) (gN 11)) (sSeq (sIf (mtOr (mB (m2 (mA (mCons (mVar 11) (mNil)) bRepr) (mA (mCons (mVar 10) (mNil)) bRepr) (Cop.f .ne))) (mB (m2 (mA (mCons (mVar 8) (mNil)) bRepr) (mVar 13) (Cop.f .ne)))) (sSeq (sRet (mCst (.bl false))) (sNext)) (sNext)) (sNext))))))) (sSeq (sRet (mCst (.bl true))) (sNext)))))))))))
def step (r : Nat → List PV → GH → Res PV) : Nat → List PV → GH → Res PV
  | 0 => defV 1 GN.N_is_number (GN.b_is_number)
  | 1 => defV 1 N_is_word (b_is_word)
  | 2 => defV 1 GN.N_is_text (GN.b_is_text)
  | 3 => defV 2 GN.N_is_long (GN.b_is_long)
  | 4 => defV 3 GN.N_has_head (GN.b_has_head (r 3))
  | 5 => defV 1 GN.N_is_plain (GN.b_is_plain (r 0) (r 2))
  | 6 => defV 1 GN.N_is_row (GN.b_is_row (r 4))
  | 7 => defV 1 GN.N_is_tree (GN.b_is_tree (r 4))
  | 8 => defV 1 N_are_fields (b_are_fields (r 3) (r 9) (r 1))
  | 9 => defV 1 N_is_value (b_is_value (r 8) (r 5) (r 6) (r 7) (r 9))
  | 10 => defV 1 N_is_document (b_is_document (r 8) (r 7))
  | 11 => defV 1 GN.N__law_feed (GN.b__law_feed)
  | 12 => defV 2 GN.N__law_draw (GN.b__law_draw)
  | 13 => defV 3 N__law_spoilt (b__law_spoilt (r 12) (r 13))
  | 14 => defV 1 N__law_is_number (b__law_is_number)
  | 15 => defV 1 N__law_is_word (b__law_is_word)
  | 16 => defV 1 N__law_is_text (b__law_is_text)
  | 17 => defV 1 N__law_is_plain (b__law_is_plain (r 16))
  | 18 => defV 1 N__law_is_value (b__law_is_value (r 17) (r 18) (r 15))
  | 19 => defV 1 GN.N__law_plain (GN.b__law_plain (r 12))
  | 20 => defV 3 GN.N__law_value (GN.b__law_value (r 12) (r 19) (r 21) (r 20))
  | 21 => defV 2 GN.N__law_tree (GN.b__law_tree (r 12))
  | 22 => defV 1 GN.N__law_document (GN.b__law_document (r 12) (r 21) (r 20))
  | 23 => defV 1 N__law_letters (b__law_letters (r 12))
  | 24 => defV 1 N__law_near (b__law_near)
  | 25 => defV 1 N_law (b_law (r 22) (r 11) (r 14) (r 17) (r 16) (r 18) (r 15) (r 23) (r 24) (r 19) (r 13) (r 20) (r 10) (r 0) (r 5) (r 2) (r 9) (r 1))
  | _ => fun _ _ => .bad
def prog : Nat → Nat → List PV → GH → Res PV
  | 0 => fun _ _ _ => .bad
  | n + 1 => step (prog n)
def top (i : Nat) : Stmt := PySem.Challenge.pw_pathfolios_k01_values_by_kind.main.body.getD i (.Pass ⟨0, 0, 0, 0⟩)
abbrev FnP (K : PySem.W.Frag) (x : Str) (st : Stmt) (f : Addr) (fd : FuncData) : Prop := FunD K x x (defArgs st) (defBody st) (defScope st) [] [] f fd
structure Free (K : PySem.W.Frag) (mg : Str → Option Value) : Prop where
  f_none : True
  f_all : mg "all" = none
  f_bool : mg "bool" = none
  f_int : mg "int" = none
  f_isinstance : mg "isinstance" = none
  f_len : mg "len" = none
  f_list : mg "list" = none
  f_min : mg "min" = none
  f_range : mg "range" = none
  f_repr : mg "repr" = none
  f_set : mg "set" = none
  f_sorted : mg "sorted" = none
  f_str : mg "str" = none
  f_tuple : mg "tuple" = none
  f_zip : mg "zip" = none
  k_FIGURES : CstOf K mg "FIGURES" (.str "0123456789")
  k_LETTERS : CstOf K mg "LETTERS" (.str "abcdefghijklmnopqrstuvwxyz")
  k_LONGEST_TEXT : CstOf K mg "LONGEST_TEXT" (.int 16)
  k_LONGEST_WORD : CstOf K mg "LONGEST_WORD" (.int 8)
structure AllC (P : Program) (w : World) (K : PySem.W.Frag) (mg : Str → Option Value) (base : Heap) (F : Fx) (n : Nat) (r : Nat → List PV → GH → Res PV) : Prop where
  c0 : CalleeP P w K mg base F n "is_number" 1 (r 0)
  c1 : CalleeP P w K mg base F n "is_word" 1 (r 1)
  c2 : CalleeP P w K mg base F n "is_text" 1 (r 2)
  c3 : CalleeP P w K mg base F n "is_long" 2 (r 3)
  c4 : CalleeP P w K mg base F n "has_head" 3 (r 4)
  c5 : CalleeP P w K mg base F n "is_plain" 1 (r 5)
  c6 : CalleeP P w K mg base F n "is_row" 1 (r 6)
  c7 : CalleeP P w K mg base F n "is_tree" 1 (r 7)
  c8 : CalleeP P w K mg base F n "are_fields" 1 (r 8)
  c9 : CalleeP P w K mg base F n "is_value" 1 (r 9)
  c10 : CalleeP P w K mg base F n "is_document" 1 (r 10)
  c11 : CalleeP P w K mg base F n "_law_feed" 1 (r 11)
  c12 : CalleeP P w K mg base F n "_law_draw" 2 (r 12)
  c13 : CalleeP P w K mg base F n "_law_spoilt" 3 (r 13)
  c14 : CalleeP P w K mg base F n "_law_is_number" 1 (r 14)
  c15 : CalleeP P w K mg base F n "_law_is_word" 1 (r 15)
  c16 : CalleeP P w K mg base F n "_law_is_text" 1 (r 16)
  c17 : CalleeP P w K mg base F n "_law_is_plain" 1 (r 17)
  c18 : CalleeP P w K mg base F n "_law_is_value" 1 (r 18)
  c19 : CalleeP P w K mg base F n "_law_plain" 1 (r 19)
  c20 : CalleeP P w K mg base F n "_law_value" 3 (r 20)
  c21 : CalleeP P w K mg base F n "_law_tree" 2 (r 21)
  c22 : CalleeP P w K mg base F n "_law_document" 1 (r 22)
  c23 : CalleeP P w K mg base F n "_law_letters" 1 (r 23)
  c24 : CalleeP P w K mg base F n "_law_near" 1 (r 24)
  c25 : CalleeP P w K mg base F n "law" 1 (r 25)
structure Defs (K : PySem.W.Frag) (mg : Str → Option Value) (base : Heap) (F : Fx) : Prop where
  d0 : ∃ (f : Addr) (fd : FuncData), FnP K "is_number" (top 5) f fd ∧ mg "is_number" = some (.ref f)
  d1 : ∃ (f : Addr) (fd : FuncData), FnP K "is_word" (top 6) f fd ∧ mg "is_word" = some (.ref f)
  d2 : ∃ (f : Addr) (fd : FuncData), FnP K "is_text" (top 7) f fd ∧ mg "is_text" = some (.ref f)
  d3 : ∃ (f : Addr) (fd : FuncData), FnP K "is_long" (top 8) f fd ∧ mg "is_long" = some (.ref f)
  d4 : ∃ (f : Addr) (fd : FuncData), FnP K "has_head" (top 9) f fd ∧ mg "has_head" = some (.ref f)
  d5 : ∃ (f : Addr) (fd : FuncData), FnP K "is_plain" (top 11) f fd ∧ mg "is_plain" = some (.ref f)
  d6 : ∃ (f : Addr) (fd : FuncData), FnP K "is_row" (top 12) f fd ∧ mg "is_row" = some (.ref f)
  d7 : ∃ (f : Addr) (fd : FuncData), FnP K "is_tree" (top 13) f fd ∧ mg "is_tree" = some (.ref f)
  d8 : ∃ (f : Addr) (fd : FuncData), FnP K "are_fields" (top 14) f fd ∧ mg "are_fields" = some (.ref f)
  d9 : ∃ (f : Addr) (fd : FuncData), FnP K "is_value" (top 15) f fd ∧ mg "is_value" = some (.ref f)
  d10 : ∃ (f : Addr) (fd : FuncData), FnP K "is_document" (top 16) f fd ∧ mg "is_document" = some (.ref f)
  d11 : ∃ (f : Addr) (fd : FuncData), FnP K "_law_feed" (top 18) f fd ∧ mg "_law_feed" = some (.ref f)
  d12 : ∃ (f : Addr) (fd : FuncData), FnP K "_law_draw" (top 19) f fd ∧ mg "_law_draw" = some (.ref f)
  d13 : ∃ (f : Addr) (fd : FuncData), FnP K "_law_spoilt" (top 20) f fd ∧ mg "_law_spoilt" = some (.ref f)
  d14 : ∃ (f : Addr) (fd : FuncData), FnP K "_law_is_number" (top 21) f fd ∧ mg "_law_is_number" = some (.ref f)
  d15 : ∃ (f : Addr) (fd : FuncData), FnP K "_law_is_word" (top 22) f fd ∧ mg "_law_is_word" = some (.ref f)
  d16 : ∃ (f : Addr) (fd : FuncData), FnP K "_law_is_text" (top 23) f fd ∧ mg "_law_is_text" = some (.ref f)
  d17 : ∃ (f : Addr) (fd : FuncData), FnP K "_law_is_plain" (top 24) f fd ∧ mg "_law_is_plain" = some (.ref f)
  d18 : ∃ (f : Addr) (fd : FuncData), FnP K "_law_is_value" (top 25) f fd ∧ mg "_law_is_value" = some (.ref f)
  d19 : ∃ (f : Addr) (fd : FuncData), FnP K "_law_plain" (top 26) f fd ∧ mg "_law_plain" = some (.ref f)
  d20 : ∃ (f : Addr) (fd : FuncData), FnP K "_law_value" (top 27) f fd ∧ mg "_law_value" = some (.ref f)
  d21 : ∃ (f : Addr) (fd : FuncData), FnP K "_law_tree" (top 28) f fd ∧ mg "_law_tree" = some (.ref f) ∧ LamD K mg base F f "_law_tree"
  d22 : ∃ (f : Addr) (fd : FuncData), FnP K "_law_document" (top 29) f fd ∧ mg "_law_document" = some (.ref f)
  d23 : ∃ (f : Addr) (fd : FuncData), FnP K "_law_letters" (top 30) f fd ∧ mg "_law_letters" = some (.ref f)
  d24 : ∃ (f : Addr) (fd : FuncData), FnP K "_law_near" (top 31) f fd ∧ mg "_law_near" = some (.ref f)
  d25 : ∃ (f : Addr) (fd : FuncData), FnP K "law" (top 32) f fd ∧ mg "law" = some (.ref f)
section
variable {P : Program} {w : World} {K : PySem.W.Frag} {mg : Str → Option Value} {base : Heap} {F : Fx} {n : Nat} {r : Nat → List PV → GH → Res PV} {f : Addr} {fd : FuncData}
theorem sc0 : FnScope GN.N_is_number ["thing"] (defScope (top 5)) := ⟨rfl, rfl, rfl, by decide +kernel, rfl, by decide +kernel, by decide +kernel⟩
theorem bi0 (Fd : FnP K "is_number" (top 5) f fd) : Binds K fd ["thing"] [] := Fd.bindsN fun _ _ _ _ _ _ us hl => match us, hl with | [_], _ => rfl
theorem ok0 (hK : F.K = K) (fr : Free K mg) (c : AllC P w K mg base F n r) (Fd : FnP K "is_number" (top 5) f fd) (hm : mg "is_number" = some (.ref f)) : CalleeP P w K mg base F (n + 1) "is_number" 1 (step r 0) :=
  def_ok (ps := ["thing"]) (m := (GN.b_is_number)) hK Fd sc0 hm (bi0 Fd) fun cdv A outer s H E g po hcd => ev_scons (gret (gand g (gisi g "int" fr.f_isinstance fr.f_int (gvar 0)) (ev_one (gnot g (gisi g "bool" fr.f_isinstance fr.f_bool (gvar 0)))))) (ev_snil)
theorem sc1 : FnScope N_is_word ["thing"] (defScope (top 6)) := ⟨rfl, rfl, rfl, by decide +kernel, rfl, by decide +kernel, by decide +kernel⟩
theorem bi1 (Fd : FnP K "is_word" (top 6) f fd) : Binds K fd ["thing"] [] := Fd.bindsN fun _ _ _ _ _ _ us hl => match us, hl with | [_], _ => rfl
theorem ok1 (hK : F.K = K) (fr : Free K mg) (c : AllC P w K mg base F n r) (Fd : FnP K "is_word" (top 6) f fd) (hm : mg "is_word" = some (.ref f)) : CalleeP P w K mg base F (n + 1) "is_word" 1 (step r 1) :=
  def_ok (ps := ["thing"]) (m := (b_is_word)) hK Fd sc1 hm (bi1 Fd) fun cdv A outer s H E g po hcd => ev_scons (ev_sif (L2.PW.pt (ev_tor (ev_tnot (gtru g (gisi g "str" fr.f_isinstance fr.f_str (gvar 0)))) (ev_tor1 (ev_tnot (gchnT g .le .le (ev_int) (gblt (bLen_ok g.K) fr.f_len (gcons (gvar 0) (ev_nil))) (gglo g hK fr.k_LONGEST_WORD)))))) (ev_scons (gret (ev_bl)) (ev_snil)) (ev_snil)) (ev_scons (gret (gblt (bAll_ok g.K g.calm) fr.f_all (gcons (gcomp g false [("sign", 1)] (gseq g (gvar 0)) (fun _ _ _ _ _ g1 => gtn g1 1) (fun _ _ _ _ _ g1 => ev_yes) (fun _ _ _ _ _ g1 => gcmp g1 .in_ (gvar 1) (gglo g1 hK fr.k_LETTERS))) (ev_nil)))) (ev_snil))
theorem sc2 : FnScope GN.N_is_text ["thing"] (defScope (top 7)) := ⟨rfl, rfl, rfl, by decide +kernel, rfl, by decide +kernel, by decide +kernel⟩
theorem bi2 (Fd : FnP K "is_text" (top 7) f fd) : Binds K fd ["thing"] [] := Fd.bindsN fun _ _ _ _ _ _ us hl => match us, hl with | [_], _ => rfl
theorem ok2 (hK : F.K = K) (fr : Free K mg) (c : AllC P w K mg base F n r) (Fd : FnP K "is_text" (top 7) f fd) (hm : mg "is_text" = some (.ref f)) : CalleeP P w K mg base F (n + 1) "is_text" 1 (step r 2) :=
  def_ok (ps := ["thing"]) (m := (GN.b_is_text)) hK Fd sc2 hm (bi2 Fd) fun cdv A outer s H E g po hcd => ev_scons (ev_sif (L2.PW.pt (ev_tor (ev_tnot (gtru g (gisi g "str" fr.f_isinstance fr.f_str (gvar 0)))) (ev_tor1 (gcmpT g .gt (gblt (bLen_ok g.K) fr.f_len (gcons (gvar 0) (ev_nil))) (gglo g hK fr.k_LONGEST_TEXT))))) (ev_scons (gret (ev_bl)) (ev_snil)) (ev_snil)) (ev_scons (gret (gblt (bAll_ok g.K g.calm) fr.f_all (gcons (gcomp g false [("sign", 1)] (gseq g (gvar 0)) (fun _ _ _ _ _ g1 => gtn g1 1) (fun _ _ _ _ _ g1 => ev_yes) (fun _ _ _ _ _ g1 => gor g1 (gcmp g1 .in_ (gvar 1) (gglo g1 hK fr.k_LETTERS)) (ev_one (gcmp g1 .in_ (gvar 1) (gglo g1 hK fr.k_FIGURES))))) (ev_nil)))) (ev_snil))
theorem sc3 : FnScope GN.N_is_long ["thing", "many"] (defScope (top 8)) := ⟨rfl, rfl, rfl, by decide +kernel, rfl, by decide +kernel, by decide +kernel⟩
theorem bi3 (Fd : FnP K "is_long" (top 8) f fd) : Binds K fd ["thing", "many"] [] := Fd.bindsN fun _ _ _ _ _ _ us hl => match us, hl with | [_, _], _ => rfl
theorem ok3 (hK : F.K = K) (fr : Free K mg) (c : AllC P w K mg base F n r) (Fd : FnP K "is_long" (top 8) f fd) (hm : mg "is_long" = some (.ref f)) : CalleeP P w K mg base F (n + 1) "is_long" 2 (step r 3) :=
  def_ok (ps := ["thing", "many"]) (m := (GN.b_is_long)) hK Fd sc3 hm (bi3 Fd) fun cdv A outer s H E g po hcd => ev_scons (gret (gand g (gisi g "tuple" fr.f_isinstance fr.f_tuple (gvar 0)) (ev_one (gcmp g .eq (gblt (bLen_ok g.K) fr.f_len (gcons (gvar 0) (ev_nil))) (gvar 1))))) (ev_snil)
theorem sc4 : FnScope GN.N_has_head ["thing", "word", "many"] (defScope (top 9)) := ⟨rfl, rfl, rfl, by decide +kernel, rfl, by decide +kernel, by decide +kernel⟩
theorem bi4 (Fd : FnP K "has_head" (top 9) f fd) : Binds K fd ["thing", "word", "many"] [] := Fd.bindsN fun _ _ _ _ _ _ us hl => match us, hl with | [_, _, _], _ => rfl
theorem ok4 (hK : F.K = K) (fr : Free K mg) (c : AllC P w K mg base F n r) (Fd : FnP K "has_head" (top 9) f fd) (hm : mg "has_head" = some (.ref f)) : CalleeP P w K mg base F (n + 1) "has_head" 3 (step r 4) :=
  def_ok (ps := ["thing", "word", "many"]) (m := (GN.b_has_head (r 3))) hK Fd sc4 hm (bi4 Fd) fun cdv A outer s H E g po hcd => ev_scons (gret (gand g (gown g c.c3 (gcons (gvar 0) (gcons (gvar 2) (ev_nil)))) (gand g (gisi g "str" fr.f_isinstance fr.f_str (gix g (by exact fun _ _ => rfl) (gvar 0) (ev_int))) (ev_one (gcmp g .eq (gix g (by exact fun _ _ => rfl) (gvar 0) (ev_int)) (gvar 1)))))) (ev_snil)
theorem sc5 : FnScope GN.N_is_plain ["thing"] (defScope (top 11)) := ⟨rfl, rfl, rfl, by decide +kernel, rfl, by decide +kernel, by decide +kernel⟩
theorem bi5 (Fd : FnP K "is_plain" (top 11) f fd) : Binds K fd ["thing"] [] := Fd.bindsN fun _ _ _ _ _ _ us hl => match us, hl with | [_], _ => rfl
theorem ok5 (hK : F.K = K) (fr : Free K mg) (c : AllC P w K mg base F n r) (Fd : FnP K "is_plain" (top 11) f fd) (hm : mg "is_plain" = some (.ref f)) : CalleeP P w K mg base F (n + 1) "is_plain" 1 (step r 5) :=
  def_ok (ps := ["thing"]) (m := (GN.b_is_plain (r 0) (r 2))) hK Fd sc5 hm (bi5 Fd) fun cdv A outer s H E g po hcd => ev_scons (gret (gor g (gisi g "bool" fr.f_isinstance fr.f_bool (gvar 0)) (gor g (gown g c.c0 (gcons (gvar 0) (ev_nil))) (ev_one (gown g c.c2 (gcons (gvar 0) (ev_nil))))))) (ev_snil)
theorem sc6 : FnScope GN.N_is_row ["thing"] (defScope (top 12)) := ⟨rfl, rfl, rfl, by decide +kernel, rfl, by decide +kernel, by decide +kernel⟩
theorem bi6 (Fd : FnP K "is_row" (top 12) f fd) : Binds K fd ["thing"] [] := Fd.bindsN fun _ _ _ _ _ _ us hl => match us, hl with | [_], _ => rfl
theorem ok6 (hK : F.K = K) (fr : Free K mg) (c : AllC P w K mg base F n r) (Fd : FnP K "is_row" (top 12) f fd) (hm : mg "is_row" = some (.ref f)) : CalleeP P w K mg base F (n + 1) "is_row" 1 (step r 6) :=
  def_ok (ps := ["thing"]) (m := (GN.b_is_row (r 4))) hK Fd sc6 hm (bi6 Fd) fun cdv A outer s H E g po hcd => ev_scons (gret (gand g (gown g c.c4 (gcons (gvar 0) (gcons (ev_str) (gcons (ev_int) (ev_nil))))) (ev_one (gisi g "tuple" fr.f_isinstance fr.f_tuple (gix g (by exact fun _ _ => rfl) (gvar 0) (ev_int)))))) (ev_snil)
theorem sc7 : FnScope GN.N_is_tree ["thing"] (defScope (top 13)) := ⟨rfl, rfl, rfl, by decide +kernel, rfl, by decide +kernel, by decide +kernel⟩
theorem bi7 (Fd : FnP K "is_tree" (top 13) f fd) : Binds K fd ["thing"] [] := Fd.bindsN fun _ _ _ _ _ _ us hl => match us, hl with | [_], _ => rfl
theorem ok7 (hK : F.K = K) (fr : Free K mg) (c : AllC P w K mg base F n r) (Fd : FnP K "is_tree" (top 13) f fd) (hm : mg "is_tree" = some (.ref f)) : CalleeP P w K mg base F (n + 1) "is_tree" 1 (step r 7) :=
  def_ok (ps := ["thing"]) (m := (GN.b_is_tree (r 4))) hK Fd sc7 hm (bi7 Fd) fun cdv A outer s H E g po hcd => ev_scons (gret (gand g (gown g c.c4 (gcons (gvar 0) (gcons (ev_str) (gcons (ev_int) (ev_nil))))) (ev_one (gisi g "tuple" fr.f_isinstance fr.f_tuple (gix g (by exact fun _ _ => rfl) (gvar 0) (ev_int)))))) (ev_snil)
theorem sc8 : FnScope N_are_fields ["thing"] (defScope (top 14)) := ⟨rfl, rfl, rfl, by decide +kernel, rfl, by decide +kernel, by decide +kernel⟩
theorem bi8 (Fd : FnP K "are_fields" (top 14) f fd) : Binds K fd ["thing"] [] := Fd.bindsN fun _ _ _ _ _ _ us hl => match us, hl with | [_], _ => rfl
theorem ok8 (hK : F.K = K) (fr : Free K mg) (c : AllC P w K mg base F n r) (Fd : FnP K "are_fields" (top 14) f fd) (hm : mg "are_fields" = some (.ref f)) : CalleeP P w K mg base F (n + 1) "are_fields" 1 (step r 8) :=
  def_ok (ps := ["thing"]) (m := (b_are_fields (r 3) (r 9) (r 1))) hK Fd sc8 hm (bi8 Fd) fun cdv A outer s H E g po hcd => ev_scons (ev_sif (ev_tnot (gtru g (gblt (bAll_ok g.K g.calm) fr.f_all (gcons (gcomp g false [("one", 1)] (gseq g (gvar 0)) (fun _ _ _ _ _ g1 => gtn g1 1) (fun _ _ _ _ _ g1 => ev_yes) (fun _ _ _ _ _ g1 => gand g1 (gown g1 c.c3 (gcons (gvar 1) (gcons (ev_int) (ev_nil)))) (gand g1 (gown g1 c.c1 (gcons (gix g1 (by exact fun _ _ => rfl) (gvar 1) (ev_int)) (ev_nil))) (ev_one (gown g1 c.c9 (gcons (gix g1 (by exact fun _ _ => rfl) (gvar 1) (ev_int)) (ev_nil))))))) (ev_nil))))) (ev_scons (gret (ev_bl)) (ev_snil)) (ev_snil)) (ev_scons (gret (gblt (bAll_ok g.K g.calm) fr.f_all (gcons (gcomp g false [("one", 1), ("other", 2)] (gzip g fr.f_zip (gvar 0) (gsl g (gvar 0) (ev_poS (ev_int)) (ev_poN))) (fun _ _ _ _ _ g1 => gtt g1 2 (gtc (gtn g1 1) (gtc (gtn g1 2) (ev_gnil)))) (fun _ _ _ _ _ g1 => ev_yes) (fun _ _ _ _ _ g1 => gcmp g1 .lt (gix g1 (by exact fun _ _ => rfl) (gvar 1) (ev_int)) (gix g1 (by exact fun _ _ => rfl) (gvar 2) (ev_int)))) (ev_nil)))) (ev_snil))
theorem sc9 : FnScope N_is_value ["thing"] (defScope (top 15)) := ⟨rfl, rfl, rfl, by decide +kernel, rfl, by decide +kernel, by decide +kernel⟩
theorem bi9 (Fd : FnP K "is_value" (top 15) f fd) : Binds K fd ["thing"] [] := Fd.bindsN fun _ _ _ _ _ _ us hl => match us, hl with | [_], _ => rfl
theorem ok9 (hK : F.K = K) (fr : Free K mg) (c : AllC P w K mg base F n r) (Fd : FnP K "is_value" (top 15) f fd) (hm : mg "is_value" = some (.ref f)) : CalleeP P w K mg base F (n + 1) "is_value" 1 (step r 9) :=
  def_ok (ps := ["thing"]) (m := (b_is_value (r 8) (r 5) (r 6) (r 7) (r 9))) hK Fd sc9 hm (bi9 Fd) fun cdv A outer s H E g po hcd => ev_scons (ev_sif (gtru g (gown g c.c7 (gcons (gvar 0) (ev_nil)))) (ev_scons (gret (gown g c.c8 (gcons (gix g (by exact fun _ _ => rfl) (gvar 0) (ev_int)) (ev_nil)))) (ev_snil)) (ev_snil)) (ev_scons (ev_sif (gtru g (gown g c.c6 (gcons (gvar 0) (ev_nil)))) (ev_scons (gret (gblt (bAll_ok g.K g.calm) fr.f_all (gcons (gcomp g false [("one", 1)] (gseq g (gix g (by exact fun _ _ => rfl) (gvar 0) (ev_int))) (fun _ _ _ _ _ g1 => gtn g1 1) (fun _ _ _ _ _ g1 => ev_yes) (fun _ _ _ _ _ g1 => gown g1 c.c9 (gcons (gvar 1) (ev_nil)))) (ev_nil)))) (ev_snil)) (ev_snil)) (ev_scons (gret (gown g c.c5 (gcons (gvar 0) (ev_nil)))) (ev_snil)))
theorem sc10 : FnScope N_is_document ["thing"] (defScope (top 16)) := ⟨rfl, rfl, rfl, by decide +kernel, rfl, by decide +kernel, by decide +kernel⟩
theorem bi10 (Fd : FnP K "is_document" (top 16) f fd) : Binds K fd ["thing"] [] := Fd.bindsN fun _ _ _ _ _ _ us hl => match us, hl with | [_], _ => rfl
theorem ok10 (hK : F.K = K) (fr : Free K mg) (c : AllC P w K mg base F n r) (Fd : FnP K "is_document" (top 16) f fd) (hm : mg "is_document" = some (.ref f)) : CalleeP P w K mg base F (n + 1) "is_document" 1 (step r 10) :=
  def_ok (ps := ["thing"]) (m := (b_is_document (r 8) (r 7))) hK Fd sc10 hm (bi10 Fd) fun cdv A outer s H E g po hcd => ev_scons (gret (gand g (gown g c.c7 (gcons (gvar 0) (ev_nil))) (ev_one (gown g c.c8 (gcons (gix g (by exact fun _ _ => rfl) (gvar 0) (ev_int)) (ev_nil)))))) (ev_snil)
theorem sc11 : FnScope GN.N__law_feed ["_law_script"] (defScope (top 18)) := ⟨rfl, rfl, rfl, by decide +kernel, rfl, by decide +kernel, by decide +kernel⟩
theorem bi11 (Fd : FnP K "_law_feed" (top 18) f fd) : Binds K fd ["_law_script"] [] := Fd.bindsN fun _ _ _ _ _ _ us hl => match us, hl with | [_], _ => rfl
theorem ok11 (hK : F.K = K) (fr : Free K mg) (c : AllC P w K mg base F n r) (Fd : FnP K "_law_feed" (top 18) f fd) (hm : mg "_law_feed" = some (.ref f)) : CalleeP P w K mg base F (n + 1) "_law_feed" 1 (step r 11) :=
  def_ok (ps := ["_law_script"]) (m := (GN.b__law_feed)) hK Fd sc11 hm (bi11 Fd) fun cdv A outer s H E g po hcd => ev_scons (gret (ev_lso (gcons (gsl g (gvar 0) (ev_poN) (ev_poS (ev_int))) (gcons (ev_int) (gcons (ev_int) (gcons (ev_int) (ev_nil))))))) (ev_snil)
theorem sc12 : FnScope GN.N__law_draw ["_law_feed_here", "_law_many"] (defScope (top 19)) := ⟨rfl, rfl, rfl, by decide +kernel, rfl, by decide +kernel, by decide +kernel⟩
theorem bi12 (Fd : FnP K "_law_draw" (top 19) f fd) : Binds K fd ["_law_feed_here", "_law_many"] [] := Fd.bindsN fun _ _ _ _ _ _ us hl => match us, hl with | [_, _], _ => rfl
theorem ok12 (hK : F.K = K) (fr : Free K mg) (c : AllC P w K mg base F n r) (Fd : FnP K "_law_draw" (top 19) f fd) (hm : mg "_law_draw" = some (.ref f)) : CalleeP P w K mg base F (n + 1) "_law_draw" 2 (step r 12) :=
  def_ok (ps := ["_law_feed_here", "_law_many"]) (m := (GN.b__law_draw)) hK Fd sc12 hm (bi12 Fd) fun cdv A outer s H E g po hcd => ev_scons (gset g fSetL_ok (gadd g (gix g (by exact fun _ _ => rfl) (gvar 0) (ev_int)) (ev_int)) (gvar 0) (ev_int)) (ev_scons (ev_sif (gcmpT g .gt (gix g (by exact fun _ _ => rfl) (gvar 0) (ev_int)) (ev_int)) (ev_scons (gasg (gmod g (gix g (by exact fun _ _ => rfl) (gvar 0) (ev_int)) (gvar 1)) (gtn g 4)) (ev_scons (gset g fSetL_ok (gdiv g (gix g (by exact fun _ _ => rfl) (gvar 0) (ev_int)) (gvar 1)) (gvar 0) (ev_int)) (ev_scons (gret (gvar 4)) (ev_snil)))) (ev_snil)) (ev_scons (gasg (ev_int) (gtn g 2)) (ev_scons (ev_sif (gcmpT g .ne (gix g (by exact fun _ _ => rfl) (gvar 0) (ev_int)) (ev_lst (ev_nil))) (ev_scons (gasg (gix g (by exact fun _ _ => rfl) (gix g (by exact fun _ _ => rfl) (gvar 0) (ev_int)) (gmod g (gix g (by exact fun _ _ => rfl) (gvar 0) (ev_int)) (gblt (bLen_ok g.K) fr.f_len (gcons (gix g (by exact fun _ _ => rfl) (gvar 0) (ev_int)) (ev_nil))))) (gtn g 2)) (ev_snil)) (ev_snil)) (ev_scons (gset g fSetL_ok (gadd g (gix g (by exact fun _ _ => rfl) (gvar 0) (ev_int)) (ev_int)) (gvar 0) (ev_int)) (ev_scons (ev_sif (L2.PW.pt (ev_tand (gcmpT g .ge (gvar 2) (gpow g (ev_int) (ev_int))) (ev_tand1 (gcmpT g .le (gix g (by exact fun _ _ => rfl) (gvar 0) (ev_int)) (gblt (bLen_ok g.K) fr.f_len (gcons (gix g (by exact fun _ _ => rfl) (gvar 0) (ev_int)) (ev_nil))))))) (ev_scons (gset g fSetL_ok (gdiv g (gvar 2) (gvar 1)) (gvar 0) (ev_int)) (ev_scons (gret (gmod g (gvar 2) (gvar 1))) (ev_snil))) (ev_snil)) (ev_scons (gasg (gmod g (gpow g (gadd g (gadd g (gmod g (gvar 2) (ev_int)) (gmul g (ev_int) (gix g (by exact fun _ _ => rfl) (gvar 0) (ev_int)))) (ev_int)) (ev_int)) (ev_int)) (gtn g 3)) (ev_scons (gret (gmod g (gdiv g (gmod g (gpow g (gadd g (gvar 3) (gmul g (ev_int) (gix g (by exact fun _ _ => rfl) (gvar 0) (ev_int)))) (ev_int)) (ev_int)) (ev_int)) (gvar 1))) (ev_snil))))))))
theorem sc13 : FnScope N__law_spoilt ["_law_feed_here", "_law_thing", "_law_menu"] (defScope (top 20)) := ⟨rfl, rfl, rfl, by decide +kernel, rfl, by decide +kernel, by decide +kernel⟩
theorem bi13 (Fd : FnP K "_law_spoilt" (top 20) f fd) : Binds K fd ["_law_feed_here", "_law_thing", "_law_menu"] [] := Fd.bindsN fun _ _ _ _ _ _ us hl => match us, hl with | [_, _, _], _ => rfl
theorem ok13 (hK : F.K = K) (fr : Free K mg) (c : AllC P w K mg base F n r) (Fd : FnP K "_law_spoilt" (top 20) f fd) (hm : mg "_law_spoilt" = some (.ref f)) : CalleeP P w K mg base F (n + 1) "_law_spoilt" 3 (step r 13) :=
  def_ok (ps := ["_law_feed_here", "_law_thing", "_law_menu"]) (m := (b__law_spoilt (r 12) (r 13))) hK Fd sc13 hm (bi13 Fd) fun cdv A outer s H E g po hcd => ev_scons (gasg (gown g c.c12 (gcons (gvar 0) (gcons (ev_int) (ev_nil)))) (gtn g 3)) (ev_scons (ev_sif (L2.PW.pt (ev_tor (ev_tnot (gtru g (gisi g "tuple" fr.f_isinstance fr.f_tuple (gvar 1)))) (ev_tor (gcmpT g .eq (gvar 1) (ev_tup (ev_nil))) (ev_tor1 (gcmpT g .eq (gvar 3) (ev_int)))))) (ev_scons (gret (gix g (by exact fun _ _ => rfl) (gvar 2) (gown g c.c12 (gcons (gvar 0) (gcons (gblt (bLen_ok g.K) fr.f_len (gcons (gvar 2) (ev_nil))) (ev_nil)))))) (ev_snil)) (ev_snil)) (ev_scons (gasg (gown g c.c12 (gcons (gvar 0) (gcons (gblt (bLen_ok g.K) fr.f_len (gcons (gvar 1) (ev_nil))) (ev_nil)))) (gtn g 4)) (ev_scons (ev_sif (gcmpT g .eq (gvar 3) (ev_int)) (ev_scons (gret (gadd g (gsl g (gvar 1) (ev_poN) (ev_poS (gvar 4))) (gsl g (gvar 1) (ev_poS (gadd g (gvar 4) (ev_int))) (ev_poN)))) (ev_snil)) (ev_snil)) (ev_scons (ev_sif (gcmpT g .eq (gvar 3) (ev_int)) (ev_scons (gret (gadd g (gadd g (gsl g (gvar 1) (ev_poN) (ev_poS (gvar 4))) (gsl g (gvar 1) (ev_poS (gvar 4)) (ev_poS (gadd g (gvar 4) (ev_int))))) (gsl g (gvar 1) (ev_poS (gvar 4)) (ev_poN)))) (ev_snil)) (ev_snil)) (ev_scons (ev_sif (gcmpT g .eq (gvar 3) (ev_int)) (ev_scons (gret (gadd g (gadd g (gsl g (gvar 1) (ev_poN) (ev_poS (gvar 4))) (ev_tup (gcons (gix g (by exact fun _ _ => rfl) (gvar 2) (gown g c.c12 (gcons (gvar 0) (gcons (gblt (bLen_ok g.K) fr.f_len (gcons (gvar 2) (ev_nil))) (ev_nil))))) (ev_nil)))) (gsl g (gvar 1) (ev_poS (gvar 4)) (ev_poN)))) (ev_snil)) (ev_snil)) (ev_scons (ev_sif (gcmpT g .eq (gvar 3) (ev_int)) (ev_scons (gpar g 5 6 (gcons (gown g c.c12 (gcons (gvar 0) (gcons (gblt (bLen_ok g.K) fr.f_len (gcons (gvar 1) (ev_nil))) (ev_nil)))) (gcons (gbty (bLst_ok g.K) fr.f_list (gcons (gvar 1) (ev_nil))) (ev_nil)))) (ev_scons (gasg (ev_tup (gcons (gix g (by exact fun _ _ => rfl) (gvar 1) (gvar 5)) (gcons (gix g (by exact fun _ _ => rfl) (gvar 1) (gvar 4)) (ev_nil)))) (gtt g 2 (gtc (gsub1 g fSetL_ok (gvar 6) (gvar 4)) (gtc (gsub1 g fSetL_ok (gvar 6) (gvar 5)) (ev_gnil))))) (ev_scons (gret (gbty (bTup_ok g.K) fr.f_tuple (gcons (gvar 6) (ev_nil)))) (ev_snil)))) (ev_snil)) (ev_scons (ev_sif (gcmpT g .eq (gvar 3) (ev_int)) (ev_scons (gret (gbty (bLst_ok g.K) fr.f_list (gcons (gvar 1) (ev_nil)))) (ev_snil)) (ev_snil)) (ev_scons (gret (gadd g (gadd g (gsl g (gvar 1) (ev_poN) (ev_poS (gvar 4))) (ev_tup (gcons (gown g c.c13 (gcons (gvar 0) (gcons (gix g (by exact fun _ _ => rfl) (gvar 1) (gvar 4)) (gcons (gvar 2) (ev_nil))))) (ev_nil)))) (gsl g (gvar 1) (ev_poS (gadd g (gvar 4) (ev_int))) (ev_poN)))) (ev_snil)))))))))
theorem sc14 : FnScope N__law_is_number ["_law_thing"] (defScope (top 21)) := ⟨rfl, rfl, rfl, by decide +kernel, rfl, by decide +kernel, by decide +kernel⟩
theorem bi14 (Fd : FnP K "_law_is_number" (top 21) f fd) : Binds K fd ["_law_thing"] [] := Fd.bindsN fun _ _ _ _ _ _ us hl => match us, hl with | [_], _ => rfl
theorem ok14 (hK : F.K = K) (fr : Free K mg) (c : AllC P w K mg base F n r) (Fd : FnP K "_law_is_number" (top 21) f fd) (hm : mg "_law_is_number" = some (.ref f)) : CalleeP P w K mg base F (n + 1) "_law_is_number" 1 (step r 14) :=
  def_ok (ps := ["_law_thing"]) (m := (b__law_is_number)) hK Fd sc14 hm (bi14 Fd) fun cdv A outer s H E g po hcd => ev_scons (gret (gand g (gisi g "int" fr.f_isinstance fr.f_int (gvar 0)) (ev_one (gnot g (gisi g "bool" fr.f_isinstance fr.f_bool (gvar 0)))))) (ev_snil)
theorem sc15 : FnScope N__law_is_word ["_law_thing"] (defScope (top 22)) := ⟨rfl, rfl, rfl, by decide +kernel, rfl, by decide +kernel, by decide +kernel⟩
theorem bi15 (Fd : FnP K "_law_is_word" (top 22) f fd) : Binds K fd ["_law_thing"] [] := Fd.bindsN fun _ _ _ _ _ _ us hl => match us, hl with | [_], _ => rfl
theorem ok15 (hK : F.K = K) (fr : Free K mg) (c : AllC P w K mg base F n r) (Fd : FnP K "_law_is_word" (top 22) f fd) (hm : mg "_law_is_word" = some (.ref f)) : CalleeP P w K mg base F (n + 1) "_law_is_word" 1 (step r 15) :=
  def_ok (ps := ["_law_thing"]) (m := (b__law_is_word)) hK Fd sc15 hm (bi15 Fd) fun cdv A outer s H E g po hcd => ev_scons (gret (gand g (gisi g "str" fr.f_isinstance fr.f_str (gvar 0)) (gand g (gchn g .lt .lt (ev_int) (gblt (bLen_ok g.K) fr.f_len (gcons (gvar 0) (ev_nil))) (ev_int)) (ev_one (gcmp g .eq (gcomp g false [("_law_s", 1)] (gseq g (gvar 0)) (fun _ _ _ _ _ g1 => gtn g1 1) (fun _ _ _ _ _ g1 => ev_if1 (ev_tnot (gchnT g1 .le .le (ev_str) (gvar 1) (ev_str)))) (fun _ _ _ _ _ g1 => gvar 1)) (ev_lst (ev_nil))))))) (ev_snil)
theorem sc16 : FnScope N__law_is_text ["_law_thing"] (defScope (top 23)) := ⟨rfl, rfl, rfl, by decide +kernel, rfl, by decide +kernel, by decide +kernel⟩
theorem bi16 (Fd : FnP K "_law_is_text" (top 23) f fd) : Binds K fd ["_law_thing"] [] := Fd.bindsN fun _ _ _ _ _ _ us hl => match us, hl with | [_], _ => rfl
theorem ok16 (hK : F.K = K) (fr : Free K mg) (c : AllC P w K mg base F n r) (Fd : FnP K "_law_is_text" (top 23) f fd) (hm : mg "_law_is_text" = some (.ref f)) : CalleeP P w K mg base F (n + 1) "_law_is_text" 1 (step r 16) :=
  def_ok (ps := ["_law_thing"]) (m := (b__law_is_text)) hK Fd sc16 hm (bi16 Fd) fun cdv A outer s H E g po hcd => ev_scons (gasg (ev_str) (gtn g 1)) (ev_scons (gret (gand g (gisi g "str" fr.f_isinstance fr.f_str (gvar 0)) (gand g (gcmp g .lt (gblt (bLen_ok g.K) fr.f_len (gcons (gvar 0) (ev_nil))) (ev_int)) (ev_one (gcmp g .eq (gcomp g false [("_law_s", 2)] (gseq g (gvar 0)) (fun _ _ _ _ _ g1 => gtn g1 2) (fun _ _ _ _ _ g1 => ev_if1 (gcmpT g1 .notin (gvar 2) (gvar 1))) (fun _ _ _ _ _ g1 => gvar 2)) (ev_lst (ev_nil))))))) (ev_snil))
theorem sc17 : FnScope N__law_is_plain ["_law_thing"] (defScope (top 24)) := ⟨rfl, rfl, rfl, by decide +kernel, rfl, by decide +kernel, by decide +kernel⟩
theorem bi17 (Fd : FnP K "_law_is_plain" (top 24) f fd) : Binds K fd ["_law_thing"] [] := Fd.bindsN fun _ _ _ _ _ _ us hl => match us, hl with | [_], _ => rfl
theorem ok17 (hK : F.K = K) (fr : Free K mg) (c : AllC P w K mg base F n r) (Fd : FnP K "_law_is_plain" (top 24) f fd) (hm : mg "_law_is_plain" = some (.ref f)) : CalleeP P w K mg base F (n + 1) "_law_is_plain" 1 (step r 17) :=
  def_ok (ps := ["_law_thing"]) (m := (b__law_is_plain (r 16))) hK Fd sc17 hm (bi17 Fd) fun cdv A outer s H E g po hcd => ev_scons (gret (gor g (gisi g "int" fr.f_isinstance fr.f_int (gvar 0)) (ev_one (gown g c.c16 (gcons (gvar 0) (ev_nil)))))) (ev_snil)
theorem sc18 : FnScope N__law_is_value ["_law_thing"] (defScope (top 25)) := ⟨rfl, rfl, rfl, by decide +kernel, rfl, by decide +kernel, by decide +kernel⟩
theorem bi18 (Fd : FnP K "_law_is_value" (top 25) f fd) : Binds K fd ["_law_thing"] [] := Fd.bindsN fun _ _ _ _ _ _ us hl => match us, hl with | [_], _ => rfl
theorem ok18 (hK : F.K = K) (fr : Free K mg) (c : AllC P w K mg base F n r) (Fd : FnP K "_law_is_value" (top 25) f fd) (hm : mg "_law_is_value" = some (.ref f)) : CalleeP P w K mg base F (n + 1) "_law_is_value" 1 (step r 18) :=
  def_ok (ps := ["_law_thing"]) (m := (b__law_is_value (r 17) (r 18) (r 15))) hK Fd sc18 hm (bi18 Fd) fun cdv A outer s H E g po hcd => ev_scons (ev_sif (ev_tnot (gtru g (gisi g "tuple" fr.f_isinstance fr.f_tuple (gvar 0)))) (ev_scons (gret (gown g c.c17 (gcons (gvar 0) (ev_nil)))) (ev_snil)) (ev_snil)) (ev_scons (ev_sif (L2.PW.pt (ev_tor (gcmpT g .ne (gblt (bLen_ok g.K) fr.f_len (gcons (gvar 0) (ev_nil))) (ev_int)) (ev_tor (ev_tnot (gtru g (gisi g "str" fr.f_isinstance fr.f_str (gix g (by exact fun _ _ => rfl) (gvar 0) (ev_int))))) (ev_tor1 (ev_tnot (gtru g (gisi g "tuple" fr.f_isinstance fr.f_tuple (gix g (by exact fun _ _ => rfl) (gvar 0) (ev_int))))))))) (ev_scons (gret (ev_bl)) (ev_snil)) (ev_snil)) (ev_scons (ev_sif (gcmpT g .eq (gix g (by exact fun _ _ => rfl) (gvar 0) (ev_int)) (ev_str)) (ev_scons (gret (gcmp g .eq (gcomp g false [("_law_one", 3)] (gseq g (gix g (by exact fun _ _ => rfl) (gvar 0) (ev_int))) (fun _ _ _ _ _ g1 => gtn g1 3) (fun _ _ _ _ _ g1 => ev_if1 (ev_tnot (gtru g1 (gown g1 c.c18 (gcons (gvar 3) (ev_nil)))))) (fun _ _ _ _ _ g1 => gvar 3)) (ev_lst (ev_nil)))) (ev_snil)) (ev_snil)) (ev_scons (ev_sif (gcmpT g .ne (gix g (by exact fun _ _ => rfl) (gvar 0) (ev_int)) (ev_str)) (ev_scons (gret (ev_bl)) (ev_snil)) (ev_snil)) (ev_scons (gfor g po (gseq g (gix g (by exact fun _ _ => rfl) (gvar 0) (ev_int))) (gtn g 1) (ev_scons (ev_sif (L2.PW.pt (ev_tor (ev_tnot (gtru g (gisi g "tuple" fr.f_isinstance fr.f_tuple (gvar 1)))) (ev_tor (gcmpT g .ne (gblt (bLen_ok g.K) fr.f_len (gcons (gvar 1) (ev_nil))) (ev_int)) (ev_tor (ev_tnot (gtru g (gown g c.c15 (gcons (gix g (by exact fun _ _ => rfl) (gvar 1) (ev_int)) (ev_nil))))) (ev_tor1 (ev_tnot (gtru g (gown g c.c18 (gcons (gix g (by exact fun _ _ => rfl) (gvar 1) (ev_int)) (ev_nil)))))))))) (ev_scons (gret (ev_bl)) (ev_snil)) (ev_snil)) (ev_snil))) (ev_scons (gasgC g false 2 [("_law_pair", 1)] (gseq g (gix g (by exact fun _ _ => rfl) (gvar 0) (ev_int))) (fun _ _ _ _ _ g1 => gtn g1 1) (fun _ _ _ _ _ g1 => ev_yes) (fun _ _ _ _ _ g1 => gix g1 (by exact fun _ _ => rfl) (gvar 1) (ev_int))) (ev_scons (gret (gcmp g .eq (gvar 2) (gsortSet g false fr.f_sorted fr.f_set (gvar 2)))) (ev_snil)))))))
theorem sc19 : FnScope GN.N__law_plain ["_law_feed_here"] (defScope (top 26)) := ⟨rfl, rfl, rfl, by decide +kernel, rfl, by decide +kernel, by decide +kernel⟩
theorem bi19 (Fd : FnP K "_law_plain" (top 26) f fd) : Binds K fd ["_law_feed_here"] [] := Fd.bindsN fun _ _ _ _ _ _ us hl => match us, hl with | [_], _ => rfl
theorem ok19 (hK : F.K = K) (fr : Free K mg) (c : AllC P w K mg base F n r) (Fd : FnP K "_law_plain" (top 26) f fd) (hm : mg "_law_plain" = some (.ref f)) : CalleeP P w K mg base F (n + 1) "_law_plain" 1 (step r 19) :=
  def_ok (ps := ["_law_feed_here"]) (m := (GN.b__law_plain (r 12))) hK Fd sc19 hm (bi19 Fd) fun cdv A outer s H E g po hcd => ev_scons (gret (gix g (by exact fun _ _ => rfl) (ev_lst (gcons (ev_int) (gcons (ev_int) (gcons (ev_int) (gcons (gneg g (ev_int)) (gcons (ev_bl) (gcons (ev_bl) (gcons (ev_str) (gcons (ev_str) (gcons (ev_str) (gcons (ev_str) (gcons (ev_str) (gcons (ev_int) (gcons (gneg g (ev_int)) (gcons (ev_int) (ev_nil)))))))))))))))) (gown g c.c12 (gcons (gvar 0) (gcons (ev_int) (ev_nil)))))) (ev_snil)
theorem sc20 : FnScope GN.N__law_value ["_law_feed_here", "_law_deep", "_law_left"] (defScope (top 27)) := ⟨rfl, rfl, rfl, by decide +kernel, rfl, by decide +kernel, by decide +kernel⟩
theorem bi20 (Fd : FnP K "_law_value" (top 27) f fd) : Binds K fd ["_law_feed_here", "_law_deep", "_law_left"] [] := Fd.bindsN fun _ _ _ _ _ _ us hl => match us, hl with | [_, _, _], _ => rfl
theorem ok20 (hK : F.K = K) (fr : Free K mg) (c : AllC P w K mg base F n r) (Fd : FnP K "_law_value" (top 27) f fd) (hm : mg "_law_value" = some (.ref f)) : CalleeP P w K mg base F (n + 1) "_law_value" 3 (step r 20) :=
  def_ok (ps := ["_law_feed_here", "_law_deep", "_law_left"]) (m := (GN.b__law_value (r 12) (r 19) (r 21) (r 20))) hK Fd sc20 hm (bi20 Fd) fun cdv A outer s H E g po hcd => ev_scons (gset g fSetL_ok (gsub g (gix g (by exact fun _ _ => rfl) (gvar 2) (ev_int)) (ev_int)) (gvar 2) (ev_int)) (ev_scons (gasg (gown g c.c12 (gcons (gvar 0) (gcons (ev_int) (ev_nil)))) (gtn g 3)) (ev_scons (ev_sif (L2.PW.pt (ev_tor (gcmpT g .lt (gvar 3) (ev_int)) (ev_tor (gcmpT g .eq (gvar 1) (ev_int)) (ev_tor1 (gcmpT g .lt (gix g (by exact fun _ _ => rfl) (gvar 2) (ev_int)) (ev_int)))))) (ev_scons (gret (gown g c.c19 (gcons (gvar 0) (ev_nil)))) (ev_snil)) (ev_snil)) (ev_scons (gasg (gown g c.c12 (gcons (gvar 0) (gcons (gblt (bMin_ok g.calm) fr.f_min (gcons (ev_int) (gcons (gix g (by exact fun _ _ => rfl) (gvar 2) (ev_int)) (ev_nil)))) (ev_nil)))) (gtn g 4)) (ev_scons (gasgC g false 5 [("_law_k", 6)] (grng1 g fr.f_range (gvar 4)) (fun _ _ _ _ _ g1 => gtn g1 6) (fun _ _ _ _ _ g1 => ev_if1 (gcmpT g1 .gt (gix g1 (by exact fun _ _ => rfl) (gvar 2) (ev_int)) (ev_int))) (fun _ _ _ _ _ g1 => gown g1 c.c20 (gcons (gvar 0) (gcons (gsub g1 (gvar 1) (ev_int)) (gcons (gvar 2) (ev_nil)))))) (ev_scons (ev_sif (gcmpT g .lt (gvar 3) (ev_int)) (ev_scons (gret (ev_tup (gcons (ev_str) (gcons (gbty (bTup_ok g.K) fr.f_tuple (gcons (gvar 5) (ev_nil))) (ev_nil))))) (ev_snil)) (ev_snil)) (ev_scons (gret (gown g c.c21 (gcons (gvar 0) (gcons (gvar 5) (ev_nil))))) (ev_snil)))))))
theorem sc21 : FnScope GN.N__law_tree ["_law_feed_here", "_law_some"] (defScope (top 28)) := ⟨rfl, rfl, rfl, by decide +kernel, rfl, by decide +kernel, by decide +kernel⟩
theorem bi21 (Fd : FnP K "_law_tree" (top 28) f fd) : Binds K fd ["_law_feed_here", "_law_some"] [] := Fd.bindsN fun _ _ _ _ _ _ us hl => match us, hl with | [_, _], _ => rfl
theorem ok21 (hK : F.K = K) (fr : Free K mg) (c : AllC P w K mg base F n r) (Fd : FnP K "_law_tree" (top 28) f fd) (hm : mg "_law_tree" = some (.ref f)) (lam : LamD K mg base F f "_law_tree") : CalleeP P w K mg base F (n + 1) "_law_tree" 2 (step r 21) :=
  def_ok (ps := ["_law_feed_here", "_law_some"]) (m := (GN.b__law_tree (r 12))) hK Fd sc21 hm (bi21 Fd) fun cdv A outer s H E g po hcd => have lk := lamK_of lam hcd; ev_scons (gasg (ev_lso (gcons (ev_str) (gcons (ev_str) (gcons (ev_str) (gcons (ev_str) (gcons (ev_str) (gcons (ev_str) (ev_nil)))))))) (gtn g 2)) (ev_scons (gasgC g false 3 [("_law_one", 4)] (gseq g (gvar 1)) (fun _ _ _ _ _ g1 => gtn g1 4) (fun _ _ _ _ _ g1 => ev_yes) (fun _ _ _ _ _ g1 => ev_tup (gcons (gmet g1 PySem.F.plainAttrs_list PySem.F.slot_list_pop PySem.F.type_list_pop fPopAt_ok (gvar 2) (gcons (gown g1 c.c12 (gcons (gvar 0) (gcons (gblt (bLen_ok g1.K) fr.f_len (gcons (gvar 2) (ev_nil))) (ev_nil)))) (ev_nil))) (gcons (gvar 4) (ev_nil))))) (ev_scons (gret (ev_tup (gcons (ev_str) (gcons (gbty (bTup_ok g.K) fr.f_tuple (gcons (gsort0 g lk false fr.f_sorted (gvar 3)) (ev_nil))) (ev_nil))))) (ev_snil)))
theorem sc22 : FnScope GN.N__law_document ["_law_feed_here"] (defScope (top 29)) := ⟨rfl, rfl, rfl, by decide +kernel, rfl, by decide +kernel, by decide +kernel⟩
theorem bi22 (Fd : FnP K "_law_document" (top 29) f fd) : Binds K fd ["_law_feed_here"] [] := Fd.bindsN fun _ _ _ _ _ _ us hl => match us, hl with | [_], _ => rfl
theorem ok22 (hK : F.K = K) (fr : Free K mg) (c : AllC P w K mg base F n r) (Fd : FnP K "_law_document" (top 29) f fd) (hm : mg "_law_document" = some (.ref f)) : CalleeP P w K mg base F (n + 1) "_law_document" 1 (step r 22) :=
  def_ok (ps := ["_law_feed_here"]) (m := (GN.b__law_document (r 12) (r 21) (r 20))) hK Fd sc22 hm (bi22 Fd) fun cdv A outer s H E g po hcd => ev_scons (gpar g 2 3 (gcons (ev_lso (gcons (ev_int) (ev_nil))) (gcons (ev_lso (ev_nil)) (ev_nil)))) (ev_scons (gfor g po (grng1 g fr.f_range (gix g (by exact fun _ _ => rfl) (ev_lst (gcons (ev_int) (gcons (ev_int) (gcons (ev_int) (gcons (ev_int) (gcons (ev_int) (ev_nil))))))) (gown g c.c12 (gcons (gvar 0) (gcons (ev_int) (ev_nil)))))) (gtn g 1) (ev_scons (ev_sif (gcmpT g .gt (gix g (by exact fun _ _ => rfl) (gvar 2) (ev_int)) (ev_int)) (ev_scons (gexp (gmet g PySem.F.plainAttrs_list PySem.F.slot_list_append PySem.F.type_list_append fAppend_ok (gvar 3) (gcons (gown g c.c20 (gcons (gvar 0) (gcons (ev_int) (gcons (gvar 2) (ev_nil))))) (ev_nil)))) (ev_snil)) (ev_snil)) (ev_snil))) (ev_scons (gret (gown g c.c21 (gcons (gvar 0) (gcons (gvar 3) (ev_nil))))) (ev_snil)))
theorem sc23 : FnScope N__law_letters ["_law_feed_here"] (defScope (top 30)) := ⟨rfl, rfl, rfl, by decide +kernel, rfl, by decide +kernel, by decide +kernel⟩
theorem bi23 (Fd : FnP K "_law_letters" (top 30) f fd) : Binds K fd ["_law_feed_here"] [] := Fd.bindsN fun _ _ _ _ _ _ us hl => match us, hl with | [_], _ => rfl
theorem ok23 (hK : F.K = K) (fr : Free K mg) (c : AllC P w K mg base F n r) (Fd : FnP K "_law_letters" (top 30) f fd) (hm : mg "_law_letters" = some (.ref f)) : CalleeP P w K mg base F (n + 1) "_law_letters" 1 (step r 23) :=
  def_ok (ps := ["_law_feed_here"]) (m := (b__law_letters (r 12))) hK Fd sc23 hm (bi23 Fd) fun cdv A outer s H E g po hcd => ev_scons (gasg (gadd g (ev_str) (gix g (by exact fun _ _ => rfl) (ev_lst (gcons (ev_str) (gcons (ev_str) (gcons (ev_str) (gcons (ev_str) (gcons (ev_str) (gcons (ev_str) (gcons (ev_str) (gcons (ev_str) (ev_nil)))))))))) (gown g c.c12 (gcons (gvar 0) (gcons (ev_int) (ev_nil)))))) (gtn g 1)) (ev_scons (gasg (gix g (by exact fun _ _ => rfl) (ev_lst (gcons (gown g c.c12 (gcons (gvar 0) (gcons (ev_int) (ev_nil)))) (gcons (ev_int) (gcons (ev_int) (gcons (ev_int) (gcons (ev_int) (ev_nil))))))) (gown g c.c12 (gcons (gvar 0) (gcons (ev_int) (ev_nil))))) (gtn g 2)) (ev_scons (gret (gmet g PySem.F.plainAttrs_str PySem.F.slot_str_join PySem.F.type_str_join (fJoin_ok g.K rfl) (ev_str) (gcons (gcomp g false [("_law_k", 3)] (grng1 g fr.f_range (gvar 2)) (fun _ _ _ _ _ g1 => gtn g1 3) (fun _ _ _ _ _ g1 => ev_yes) (fun _ _ _ _ _ g1 => gix g1 (by exact fun _ _ => rfl) (gvar 1) (gown g1 c.c12 (gcons (gvar 0) (gcons (ev_int) (ev_nil)))))) (ev_nil)))) (ev_snil)))
theorem sc24 : FnScope N__law_near ["_law_one"] (defScope (top 31)) := ⟨rfl, rfl, rfl, by decide +kernel, rfl, by decide +kernel, by decide +kernel⟩
theorem bi24 (Fd : FnP K "_law_near" (top 31) f fd) : Binds K fd ["_law_one"] [] := Fd.bindsN fun _ _ _ _ _ _ us hl => match us, hl with | [_], _ => rfl
theorem ok24 (hK : F.K = K) (fr : Free K mg) (c : AllC P w K mg base F n r) (Fd : FnP K "_law_near" (top 31) f fd) (hm : mg "_law_near" = some (.ref f)) : CalleeP P w K mg base F (n + 1) "_law_near" 1 (step r 24) :=
  def_ok (ps := ["_law_one"]) (m := (b__law_near)) hK Fd sc24 hm (bi24 Fd) fun cdv A outer s H E g po hcd => ev_scons (gasg (ev_lso (gcons (gvar 0) (gcons (ev_tup (gcons (ev_str) (gcons (ev_tup (gcons (gvar 0) (ev_nil))) (ev_nil)))) (gcons (ev_tup (gcons (ev_str) (gcons (ev_tup (gcons (ev_tup (gcons (ev_str) (gcons (gvar 0) (ev_nil)))) (ev_nil))) (ev_nil)))) (gcons (ev_tup (gcons (ev_str) (gcons (gvar 0) (ev_nil)))) (gcons (ev_tup (gcons (ev_str) (gcons (ev_lst (gcons (gvar 0) (ev_nil))) (ev_nil)))) (gcons (ev_tup (gcons (ev_str) (gcons (ev_tup (gcons (gvar 0) (ev_nil))) (ev_nil)))) (ev_nil)))))))) (gtn g 1)) (ev_scons (gasg (gaddO g (gvar 1) (ev_lst (gcons (ev_tup (gcons (ev_str) (gcons (ev_tup (gcons (ev_tup (gcons (ev_str) (gcons (gvar 0) (ev_nil)))) (gcons (ev_tup (gcons (ev_str) (gcons (gvar 0) (ev_nil)))) (ev_nil)))) (ev_nil)))) (gcons (ev_tup (gcons (ev_str) (gcons (ev_tup (gcons (ev_tup (gcons (ev_str) (gcons (gvar 0) (ev_nil)))) (gcons (ev_tup (gcons (ev_str) (gcons (gvar 0) (ev_nil)))) (ev_nil)))) (ev_nil)))) (ev_nil))))) (gtn g 1)) (ev_scons (gasg (gaddO g (gvar 1) (ev_lst (gcons (ev_tup (gcons (ev_str) (gcons (ev_tup (gcons (ev_tup (gcons (ev_str) (gcons (gvar 0) (ev_nil)))) (gcons (ev_tup (gcons (ev_str) (gcons (ev_int) (ev_nil)))) (ev_nil)))) (ev_nil)))) (gcons (ev_tup (gcons (ev_str) (gcons (ev_tup (gcons (ev_tup (gcons (ev_str) (gcons (gvar 0) (ev_nil)))) (ev_nil))) (ev_nil)))) (gcons (ev_tup (gcons (ev_str) (gcons (ev_tup (gcons (ev_tup (gcons (ev_str) (gcons (gvar 0) (gcons (gvar 0) (ev_nil))))) (ev_nil))) (ev_nil)))) (ev_nil)))))) (gtn g 1)) (ev_scons (gasg (gaddO g (gvar 1) (ev_lst (gcons (ev_tup (gcons (ev_str) (gcons (ev_tup (gcons (ev_lst (gcons (ev_str) (gcons (gvar 0) (ev_nil)))) (ev_nil))) (ev_nil)))) (gcons (ev_tup (gcons (ev_str) (gcons (ev_tup (gcons (ev_tup (gcons (ev_int) (gcons (gvar 0) (ev_nil)))) (ev_nil))) (ev_nil)))) (gcons (ev_lst (gcons (ev_str) (gcons (ev_tup (gcons (gvar 0) (ev_nil))) (ev_nil)))) (gcons (ev_tup (gcons (ev_str) (gcons (ev_tup (gcons (gvar 0) (ev_nil))) (gcons (gvar 0) (ev_nil))))) (ev_nil))))))) (gtn g 1)) (ev_scons (gasg (gaddO g (gvar 1) (ev_lst (gcons (ev_tup (gcons (ev_str) (ev_nil))) (gcons (ev_tup (gcons (ev_str) (ev_nil))) (gcons (ev_tup (gcons (ev_str) (gcons (ev_tup (ev_nil)) (ev_nil)))) (gcons (ev_tup (gcons (ev_str) (gcons (ev_tup (ev_nil)) (ev_nil)))) (gcons (ev_tup (gcons (ev_non) (gcons (ev_tup (ev_nil)) (ev_nil)))) (gcons (ev_tup (gcons (ev_str) (gcons (gvar 0) (ev_nil)))) (gcons (ev_tup (gcons (ev_str) (gcons (ev_tup (gcons (gvar 0) (gcons (ev_non) (ev_nil)))) (ev_nil)))) (ev_nil)))))))))) (gtn g 1)) (ev_scons (gexp (gmet g PySem.F.plainAttrs_list PySem.F.slot_list_append PySem.F.type_list_append fAppend_ok (gvar 1) (gcons (ev_tup (gcons (ev_str) (gcons (ev_tup (ev_nil)) (ev_nil)))) (ev_nil)))) (ev_scons (ev_sif (gtru g (gisi g "tuple" fr.f_isinstance fr.f_tuple (gvar 0))) (ev_scons (gasg (gaddO g (gvar 1) (ev_lst (gcons (grev g (gvar 0)) (gcons (ev_tup (gcons (gix g (by exact fun _ _ => rfl) (gvar 0) (ev_int)) (gcons (grev g (gix g (by exact fun _ _ => rfl) (gvar 0) (ev_int))) (ev_nil)))) (gcons (ev_tup (gcons (gix g (by exact fun _ _ => rfl) (gvar 0) (ev_int)) (gcons (gmul g (gix g (by exact fun _ _ => rfl) (gvar 0) (ev_int)) (ev_int)) (ev_nil)))) (gcons (ev_tup (gcons (gix g (by exact fun _ _ => rfl) (gvar 0) (ev_int)) (gcons (gbty (bLst_ok g.K) fr.f_list (gcons (gix g (by exact fun _ _ => rfl) (gvar 0) (ev_int)) (ev_nil))) (ev_nil)))) (gcons (gix g (by exact fun _ _ => rfl) (gvar 0) (ev_int)) (ev_nil)))))))) (gtn g 1)) (ev_snil)) (ev_snil)) (ev_scons (gret (gvar 1)) (ev_snil))))))))
theorem sc25 : FnScope N_law ["_law_script"] (defScope (top 32)) := ⟨rfl, rfl, rfl, by decide +kernel, rfl, by decide +kernel, by decide +kernel⟩
theorem bi25 (Fd : FnP K "law" (top 32) f fd) : Binds K fd ["_law_script"] [] := Fd.bindsN fun _ _ _ _ _ _ us hl => match us, hl with | [_], _ => rfl
theorem ok25 (hK : F.K = K) (fr : Free K mg) (c : AllC P w K mg base F n r) (Fd : FnP K "law" (top 32) f fd) (hm : mg "law" = some (.ref f)) : CalleeP P w K mg base F (n + 1) "law" 1 (step r 25) :=
  def_ok (ps := ["_law_script"]) (m := (b_law (r 22) (r 11) (r 14) (r 17) (r 16) (r 18) (r 15) (r 23) (r 24) (r 19) (r 13) (r 20) (r 10) (r 0) (r 5) (r 2) (r 9) (r 1))) hK Fd sc25 hm (bi25 Fd) fun cdv A outer s H E g po hcd => ev_scons (gasg (gown g c.c11 (gcons (gvar 0) (ev_nil))) (gtn g 1)) (ev_scons (gasg (ev_int) (gtn g 2)) (ev_scons (gfor g po (grng1 g fr.f_range (ev_int)) (gtn g 3) (ev_scons (gasg (gix g (by exact fun _ _ => rfl) (ev_lst (gcons (ev_tup (gcons (ev_str) (gcons (ev_tup (gcons (gvar 2) (ev_nil))) (ev_nil)))) (gcons (ev_tup (gcons (ev_str) (gcons (ev_tup (gcons (ev_tup (gcons (ev_str) (gcons (gvar 2) (ev_nil)))) (ev_nil))) (ev_nil)))) (ev_nil)))) (gmod g (gvar 3) (ev_int))) (gtn g 2)) (ev_snil))) (ev_scons (gasg (ev_int) (gtn g 4)) (ev_scons (gfor g po (grng1 g fr.f_range (ev_int)) (gtn g 3) (ev_scons (gasg (ev_tup (gcons (ev_str) (gcons (ev_tup (gcons (gvar 4) (ev_nil))) (ev_nil)))) (gtn g 4)) (ev_snil))) (ev_scons (gasg (ev_lst (gcons (ev_non) (gcons (ev_bl) (gcons (ev_bl) (gcons (ev_int) (gcons (ev_int) (gcons (gneg g (ev_int)) (gcons (ev_str) (gcons (ev_str) (gcons (ev_str) (gcons (ev_str) (gcons (ev_str) (gcons (ev_tup (ev_nil)) (gcons (ev_lst (ev_nil)) (gcons (ev_str) (gcons (ev_str) (gcons (gpow g (ev_int) (ev_int)) (gcons (ev_tup (gcons (ev_str) (gcons (ev_tup (ev_nil)) (ev_nil)))) (ev_nil))))))))))))))))))) (gtn g 5)) (ev_scons (gasg (gadd g (gvar 5) (ev_lst (gcons (gvar 2) (gcons (ev_tup (gcons (ev_str) (gcons (gmul g (ev_tup (gcons (ev_int) (ev_nil))) (ev_int)) (ev_nil)))) (gcons (ev_tup (gcons (ev_str) (gcons (gadd g (gmul g (ev_tup (gcons (ev_int) (ev_nil))) (ev_int)) (ev_tup (gcons (ev_non) (ev_nil)))) (ev_nil)))) (gcons (ev_tup (gcons (ev_str) (gcons (gmul g (ev_tup (gcons (gvar 2) (ev_nil))) (ev_int)) (ev_nil)))) (ev_nil))))))) (gtn g 6)) (ev_scons (gasg (gadd g (gvar 6) (ev_lst (gcons (gvar 4) (gcons (ev_tup (gcons (ev_str) (gcons (ev_tup (gcons (gvar 4) (ev_nil))) (ev_nil)))) (ev_nil))))) (gtn g 6)) (ev_scons (gfor g po (grng1 g fr.f_range (ev_int)) (gtn g 7) (ev_scons (gasg (gix g (by exact fun _ _ => rfl) (ev_lst (gcons (gown g c.c22 (gcons (gvar 1) (ev_nil))) (gcons (gown g c.c20 (gcons (gvar 1) (gcons (ev_int) (gcons (ev_lso (gcons (ev_int) (ev_nil))) (ev_nil))))) (gcons (gown g c.c19 (gcons (gvar 1) (ev_nil))) (ev_nil))))) (gvar 7)) (gtn g 9)) (ev_scons (gasg (gadd g (gadd g (gvar 6) (gown g c.c24 (gcons (gvar 9) (ev_nil)))) (gcomp g false [("_law_k", 3)] (grng1 g fr.f_range (ev_int)) (fun _ _ _ _ _ g1 => gtn g1 3) (fun _ _ _ _ _ g1 => ev_yes) (fun _ _ _ _ _ g1 => gown g1 c.c23 (gcons (gvar 1) (ev_nil))))) (gtn g 6)) (ev_scons (gfor g po (grng1 g fr.f_range (ev_int)) (gtn g 3) (ev_scons (gasg (gown g c.c13 (gcons (gvar 1) (gcons (gvar 9) (gcons (gvar 5) (ev_nil))))) (gtn g 12)) (ev_scons (gasg (gadd g (gvar 6) (ev_lst (gcons (gvar 12) (gcons (gown g c.c13 (gcons (gvar 1) (gcons (gvar 12) (gcons (gvar 5) (ev_nil))))) (ev_nil))))) (gtn g 6)) (ev_snil)))) (ev_snil))))) (ev_scons (gfor g po (gseq g (gvar 6)) (gtn g 8) (ev_scons (gpar g 13 14 (gcons (gblt (bRepr_ok g.K g.room g.gd) fr.f_repr (gcons (gvar 8) (ev_nil))) (gcons (gown g c.c18 (gcons (gvar 8) (ev_nil))) (ev_nil)))) (ev_scons (gasg (ev_lso (gcons (gown g c.c15 (gcons (gvar 8) (ev_nil))) (gcons (gown g c.c14 (gcons (gvar 8) (ev_nil))) (gcons (gown g c.c16 (gcons (gvar 8) (ev_nil))) (gcons (gown g c.c17 (gcons (gvar 8) (ev_nil))) (gcons (gvar 14) (ev_nil))))))) (gtn g 10)) (ev_scons (gexp (gmet g PySem.F.plainAttrs_list PySem.F.slot_list_append PySem.F.type_list_append fAppend_ok (gvar 10) (gcons (gand g (gvar 14) (gand g (gisi g "tuple" fr.f_isinstance fr.f_tuple (gvar 8)) (ev_one (gcmp g .eq (gix g (by exact fun _ _ => rfl) (gvar 8) (ev_int)) (ev_str))))) (ev_nil)))) (ev_scons (gasg (ev_lst (gcons (gown g c.c1 (gcons (gvar 8) (ev_nil))) (gcons (gown g c.c0 (gcons (gvar 8) (ev_nil))) (gcons (gown g c.c2 (gcons (gvar 8) (ev_nil))) (gcons (gown g c.c5 (gcons (gvar 8) (ev_nil))) (gcons (gown g c.c9 (gcons (gvar 8) (ev_nil))) (gcons (gown g c.c10 (gcons (gvar 8) (ev_nil))) (ev_nil)))))))) (gtn g 11)) (ev_scons (ev_sif (L2.PW.pt (ev_tor (gcmpT g .ne (gblt (bRepr_ok g.K g.room g.gd) fr.f_repr (gcons (gvar 11) (ev_nil))) (gblt (bRepr_ok g.K g.room g.gd) fr.f_repr (gcons (gvar 10) (ev_nil)))) (ev_tor1 (gcmpT g .ne (gblt (bRepr_ok g.K g.room g.gd) fr.f_repr (gcons (gvar 8) (ev_nil))) (gvar 13))))) (ev_scons (gret (ev_bl)) (ev_snil)) (ev_snil)) (ev_snil))))))) (ev_scons (gret (ev_bl)) (ev_snil)))))))))))
theorem all (hK : F.K = K) (fr : Free K mg) (D : Defs K mg base F) : ∀ n, AllC P w K mg base F n (prog n)
  | 0 => ⟨(let ⟨_, _, h, g⟩ := D.d0; callee0 (ps := ["thing"]) h g (bi0 h)), (let ⟨_, _, h, g⟩ := D.d1; callee0 (ps := ["thing"]) h g (bi1 h)), (let ⟨_, _, h, g⟩ := D.d2; callee0 (ps := ["thing"]) h g (bi2 h)), (let ⟨_, _, h, g⟩ := D.d3; callee0 (ps := ["thing", "many"]) h g (bi3 h)), (let ⟨_, _, h, g⟩ := D.d4; callee0 (ps := ["thing", "word", "many"]) h g (bi4 h)), (let ⟨_, _, h, g⟩ := D.d5; callee0 (ps := ["thing"]) h g (bi5 h)), (let ⟨_, _, h, g⟩ := D.d6; callee0 (ps := ["thing"]) h g (bi6 h)), (let ⟨_, _, h, g⟩ := D.d7; callee0 (ps := ["thing"]) h g (bi7 h)), (let ⟨_, _, h, g⟩ := D.d8; callee0 (ps := ["thing"]) h g (bi8 h)), (let ⟨_, _, h, g⟩ := D.d9; callee0 (ps := ["thing"]) h g (bi9 h)), (let ⟨_, _, h, g⟩ := D.d10; callee0 (ps := ["thing"]) h g (bi10 h)), (let ⟨_, _, h, g⟩ := D.d11; callee0 (ps := ["_law_script"]) h g (bi11 h)), (let ⟨_, _, h, g⟩ := D.d12; callee0 (ps := ["_law_feed_here", "_law_many"]) h g (bi12 h)), (let ⟨_, _, h, g⟩ := D.d13; callee0 (ps := ["_law_feed_here", "_law_thing", "_law_menu"]) h g (bi13 h)), (let ⟨_, _, h, g⟩ := D.d14; callee0 (ps := ["_law_thing"]) h g (bi14 h)), (let ⟨_, _, h, g⟩ := D.d15; callee0 (ps := ["_law_thing"]) h g (bi15 h)), (let ⟨_, _, h, g⟩ := D.d16; callee0 (ps := ["_law_thing"]) h g (bi16 h)), (let ⟨_, _, h, g⟩ := D.d17; callee0 (ps := ["_law_thing"]) h g (bi17 h)), (let ⟨_, _, h, g⟩ := D.d18; callee0 (ps := ["_law_thing"]) h g (bi18 h)), (let ⟨_, _, h, g⟩ := D.d19; callee0 (ps := ["_law_feed_here"]) h g (bi19 h)), (let ⟨_, _, h, g⟩ := D.d20; callee0 (ps := ["_law_feed_here", "_law_deep", "_law_left"]) h g (bi20 h)), (let ⟨_, _, h, g, l⟩ := D.d21; callee0 (ps := ["_law_feed_here", "_law_some"]) h g (bi21 h)), (let ⟨_, _, h, g⟩ := D.d22; callee0 (ps := ["_law_feed_here"]) h g (bi22 h)), (let ⟨_, _, h, g⟩ := D.d23; callee0 (ps := ["_law_feed_here"]) h g (bi23 h)), (let ⟨_, _, h, g⟩ := D.d24; callee0 (ps := ["_law_one"]) h g (bi24 h)), (let ⟨_, _, h, g⟩ := D.d25; callee0 (ps := ["_law_script"]) h g (bi25 h))⟩
  | n + 1 => ⟨(let ⟨_, _, h, g⟩ := D.d0; ok0 hK fr (all hK fr D n) h g), (let ⟨_, _, h, g⟩ := D.d1; ok1 hK fr (all hK fr D n) h g), (let ⟨_, _, h, g⟩ := D.d2; ok2 hK fr (all hK fr D n) h g), (let ⟨_, _, h, g⟩ := D.d3; ok3 hK fr (all hK fr D n) h g), (let ⟨_, _, h, g⟩ := D.d4; ok4 hK fr (all hK fr D n) h g), (let ⟨_, _, h, g⟩ := D.d5; ok5 hK fr (all hK fr D n) h g), (let ⟨_, _, h, g⟩ := D.d6; ok6 hK fr (all hK fr D n) h g), (let ⟨_, _, h, g⟩ := D.d7; ok7 hK fr (all hK fr D n) h g), (let ⟨_, _, h, g⟩ := D.d8; ok8 hK fr (all hK fr D n) h g), (let ⟨_, _, h, g⟩ := D.d9; ok9 hK fr (all hK fr D n) h g), (let ⟨_, _, h, g⟩ := D.d10; ok10 hK fr (all hK fr D n) h g), (let ⟨_, _, h, g⟩ := D.d11; ok11 hK fr (all hK fr D n) h g), (let ⟨_, _, h, g⟩ := D.d12; ok12 hK fr (all hK fr D n) h g), (let ⟨_, _, h, g⟩ := D.d13; ok13 hK fr (all hK fr D n) h g), (let ⟨_, _, h, g⟩ := D.d14; ok14 hK fr (all hK fr D n) h g), (let ⟨_, _, h, g⟩ := D.d15; ok15 hK fr (all hK fr D n) h g), (let ⟨_, _, h, g⟩ := D.d16; ok16 hK fr (all hK fr D n) h g), (let ⟨_, _, h, g⟩ := D.d17; ok17 hK fr (all hK fr D n) h g), (let ⟨_, _, h, g⟩ := D.d18; ok18 hK fr (all hK fr D n) h g), (let ⟨_, _, h, g⟩ := D.d19; ok19 hK fr (all hK fr D n) h g), (let ⟨_, _, h, g⟩ := D.d20; ok20 hK fr (all hK fr D n) h g), (let ⟨_, _, h, g, l⟩ := D.d21; ok21 hK fr (all hK fr D n) h g l), (let ⟨_, _, h, g⟩ := D.d22; ok22 hK fr (all hK fr D n) h g), (let ⟨_, _, h, g⟩ := D.d23; ok23 hK fr (all hK fr D n) h g), (let ⟨_, _, h, g⟩ := D.d24; ok24 hK fr (all hK fr D n) h g), (let ⟨_, _, h, g⟩ := D.d25; ok25 hK fr (all hK fr D n) h g)⟩
end
end K01
end
section
/-! N1: words, numbers, texts, plains: what the program and the law tell of any data. -/
set_option Elab.async false
set_option linter.all false
set_option maxRecDepth 100000
namespace EV.NV
open PySem PySem.Spec PyProof.Rows L2
section
variable {G : GH} {ρ : Env}
@[simp] theorem m3c_ap {ma mb mc : Env → GH → Res PV} {f f' : List PV → GH → Res PV} : m3c ma mb mc f f' ρ G = (ma ρ G).bind fun x G1 => (mb ρ G1).bind fun y G2 => (f [x, y] G2).bind fun z G3 => (asB z G3).bind fun k G4 =>
  if k = true then (mc ρ G4).bind fun c G5 => f' [y, c] G5 else .ok (.bl false) G4 := rfl
@[simp] theorem mYes_ap : mYes ρ G = .ok true G := rfl
theorem len_str {x : Str} (h : x.cps.size ≤ 4000) : bLen [.str x] G = .ok (.int x.cps.size) G := by
  have : x.length ≤ sizeLine := by rw [size_line]; show x.cps.size ≤ _; omega
  simp only [bLen, if_pos this]; rfl
theorem seq_str {x : Str} (h : x.cps.size ≤ 4000) : seqSrc (.str x) G = .ok ⟨signs x, fun _ => true⟩ G := by
  have : x.length ≤ sizeLine := by rw [size_line]; show x.cps.size ≤ _; omega
  simp only [seqSrc, if_pos this]
/-- one sign -/
def sg (c : Nat) : PV := .str ⟨#[c]⟩
theorem signs_eq (x : Str) : signs x = x.cps.toList.map sg := rfl
def inS (c : Nat) (y : Str) : Bool := decide (c ∈ y.cps.toList)
@[simp] theorem in_sg (c : Nat) (y : Str) : Cop.in_.f [sg c, .str y] G = .ok (.bl (inS c y)) G := rfl
@[simp] theorem notin_sg (c : Nat) (y : Str) : Cop.notin.f [sg c, .str y] G = .ok (.bl (!inS c y)) G := rfl
theorem bools_map : ∀ bs : List Bool, bools (bs.map PV.bl) = some bs
  | [] => rfl
  | b :: bs => by simp [bools, bools_map bs]
theorem all_bl {α : Type} (g : α → Bool) (l : List α) : bAll [.lst (l.map fun c => .bl (g c))] G = .ok (.bl (l.all g)) G := by
  have : l.map (fun c => PV.bl (g c)) = (l.map g).map PV.bl := by simp
  rw [this]
  have e := bools_map (l.map g)
  simp only [bAll, asL, Option.bind_some, e, List.all_map]
  rfl
theorem eq_nil {ys : List PV} (h : fitXs ys = true) (d : deps ys ≤ 60) : Cop.eq.f [.lst ys, .lst []] G = .ok (.bl ys.isEmpty) G := by
  have q := fits_layX h
  have h1 : SeqAt.shaped (.list (dOfs ys)) = true := by
    simp only [SeqAt.shaped, PyData.canLay0, PyData.depth, q.1, Bool.true_and, decide_eq_true_eq]
    have := q.2.2.1
    exact decide_eq_true (by omega)
  have h2 : SeqAt.shaped (.list []) = true := by decide
  simp only [Cop.f, opEqN, eqP, scalP, toDG, toD, toDs_dat (dats_of_fitX h), toDs, Option.map_some, eqD]
  rw [if_pos ⟨h1, h2⟩]
  cases ys with
  | nil => simp [dOfs, PyData.eqv, PyData.eqvAll]
  | cons y ys => simp [dOfs, PyData.eqv, PyData.eqvAll]
end
def letB (c : Nat) : Bool := decide (97 ≤ c) && decide (c ≤ 122)
def figB (c : Nat) : Bool := decide (48 ≤ c) && decide (c ≤ 57)
def wordB : PV → Bool
  | .str x => decide (1 ≤ x.cps.size) && decide (x.cps.size ≤ 8) && x.cps.toList.all letB
  | _ => false
def textB : PV → Bool
  | .str x => decide (x.cps.size ≤ 16) && x.cps.toList.all fun c => letB c || figB c
  | _ => false
def numB : PV → Bool
  | .int _ => true
  | _ => false
def plainB (p : PV) : Bool := isInt p || textB p
/-- tells a truth of any small data -/
def SpB (w d m : Nat) (P : PV → Bool) (f : List PV → GH → Res PV) : Prop := ∀ p G, Sm w d m p → f [p] G = .ok (.bl (P p)) G
@[simp] theorem let_in (c : Nat) : inS c "abcdefghijklmnopqrstuvwxyz" = letB c := by
  unfold inS
  have e : ("abcdefghijklmnopqrstuvwxyz" : Str).cps.toList = [97, 98, 99, 100, 101, 102, 103, 104, 105, 106, 107, 108, 109, 110, 111, 112, 113, 114, 115, 116, 117, 118, 119, 120, 121, 122] := by decide +kernel
  rw [e, letB, ← Bool.decide_and, decide_eq_decide]
  simp only [List.mem_cons, List.not_mem_nil, or_false]
  omega
@[simp] theorem fig_in (c : Nat) : inS c "0123456789" = figB c := by
  unfold inS
  have e : ("0123456789" : Str).cps.toList = [48, 49, 50, 51, 52, 53, 54, 55, 56, 57] := by decide +kernel
  rw [e, figB, ← Bool.decide_and, decide_eq_decide]
  simp only [List.mem_cons, List.not_mem_nil, or_false]
  omega
@[simp] theorem letfig_in (c : Nat) : inS c "abcdefghijklmnopqrstuvwxyz0123456789" = (letB c || figB c) := by
  have e : ("abcdefghijklmnopqrstuvwxyz0123456789" : Str).cps.toList = ("abcdefghijklmnopqrstuvwxyz" : Str).cps.toList ++ ("0123456789" : Str).cps.toList := by decide +kernel
  rw [← let_in, ← fig_in]
  unfold inS
  rw [e, ← Bool.decide_or, decide_eq_decide, List.mem_append]
theorem le_sg (c : Nat) : (decide (("a" : Str).cps.toList ≤ [c]) && decide ([c] ≤ ("z" : Str).cps.toList)) = letB c := by
  have e : ("a" : Str).cps.toList = [97] := by decide +kernel
  have e2 : ("z" : Str).cps.toList = [122] := by decide +kernel
  rw [e, e2, letB, ← Bool.decide_and, ← Bool.decide_and, decide_eq_decide]
  have h : ∀ a b : Nat, ([a] ≤ [b] ↔ a ≤ b) := fun a b => by
    rw [← List.not_lt, List.cons_lt_cons_iff]
    simp
  rw [h, h]
theorem sz_of {w d m : Nat} {x : Str} (h : Sm w d m (.str x)) : x.cps.size ≤ 4000 := by
  have := h.f
  simp only [fitX, Bool.and_eq_true, decide_eq_true_eq] at this
  exact this.2
theorem isi (T : String) (p : PV) (G : GH) (h : datB p = true) : True := trivial
theorem num_sp {w d m : Nat} : SpB w d m numB (defV 1 GN.N_is_number GN.b_is_number) := by
  intro p G h
  have hd := h.dat
  cases p <;> simp [defV, GN.b_is_number, GN.N_is_number, env0, hd, isi_int hd, isi_bool hd, isInt, isBl, numB, trim_same]
theorem lnum_sp {w d m : Nat} : SpB w d m numB (defV 1 K01.N__law_is_number K01.b__law_is_number) := by
  intro p G h
  have hd := h.dat
  cases p <;> simp [defV, K01.b__law_is_number, K01.N__law_is_number, env0, hd, isi_int hd, isi_bool hd, isInt, isBl, numB, trim_same]
/-- a comprehension over the signs of a text -/
theorem loop_sg {f : PV → GH → Res (Option PV)} {h : Nat → Option PV} {gd : GH → Bool} {G : GH} (hg : gd G = true) (x : Str) (e : ∀ c ∈ x.cps.toList, f (sg c) G = .ok (h c) G) : loopC f gd (signs x) G = .ok (x.cps.toList.filterMap h) G := by
  rw [signs_eq]
  generalize x.cps.toList = l at e ⊢
  induction l with
  | nil => simp [loopC, hg]
  | cons c l ih =>
    have e1 := e c (List.mem_cons_self ..)
    have e2 := ih fun y hy => e y (List.mem_cons_of_mem _ hy)
    simp only [List.map_cons, loopC, hg, if_true, e1, e2, Res.bind_ok, List.filterMap_cons]
    cases h c <;> rfl
theorem fm_some {α β : Type} (g : α → β) : ∀ l : List α, l.filterMap (fun c => some (g c)) = l.map g
  | [] => rfl
  | x :: l => by rw [List.filterMap_cons, List.map_cons, fm_some g l]
theorem word_sp {w d m : Nat} : SpB w d m wordB (defV 1 K01.N_is_word K01.b_is_word) := by
  intro p G h
  have hd := h.dat
  cases p with
  | str x =>
    have hz := sz_of h
    have l1 := len_str (G := G) hz
    have s1 := seq_str (G := G) hz
    have c1 := loop_sg (f := compF (gN 1) mYes (m2 (mVar 1) (mCst (.str "abcdefghijklmnopqrstuvwxyz")) (Cop.f .in_)) [1] [some (.str x), none]) (h := fun c => some (.bl (letB c))) (gd := fun _ => true) (G := G) rfl x fun c _ => by
      simp [compF, wipeE, noX]
    rw [fm_some] at c1
    by_cases h1 : (1 : Int) ≤ (x.cps.size : Int)
    · by_cases h2 : (x.cps.size : Int) ≤ 8
      · have k1 : 1 ≤ x.cps.size := by omega
        have k2 : x.cps.size ≤ 8 := by omega
        simp [defV, K01.b_is_word, K01.N_is_word, env0, isi_str hd, isStr, l1, h1, h2, k1, k2, mComp_ap, s1, c1, all_bl, wordB, trim_same]
      · have k2 : ¬ x.cps.size ≤ 8 := by omega
        simp [defV, K01.b_is_word, K01.N_is_word, env0, isi_str hd, isStr, l1, h1, h2, k2, wordB, trim_same]
    · have k1 : x.cps.size = 0 := by omega
      simp [defV, K01.b_is_word, K01.N_is_word, env0, isi_str hd, isStr, l1, h1, k1, wordB, trim_same]
  | _ => simp [defV, K01.b_is_word, K01.N_is_word, env0, isi_str hd, isStr, wordB, trim_same]
/-- the signs that are picked -/
def pick (P : Nat → Bool) (l : List Nat) : List PV := l.filterMap fun c => if P c = true then some (sg c) else none
theorem isEmpty_filter {α β : Type} (g : α → β) (P : α → Bool) : ∀ l : List α, (l.filterMap fun c => if P c = true then some (g c) else none).isEmpty = l.all fun c => !P c
  | [] => rfl
  | x :: l => by
    rw [List.filterMap_cons, List.all_cons, ← isEmpty_filter g P l]
    cases P x <;> simp
theorem fit_sg {x : Str} {w d m : Nat} (h : Sm w d m (.str x)) (P : Nat → Bool) : fitXs (pick P x.cps.toList) = true := by
  refine fitXs_of fun p hp => ?_
  obtain ⟨c, hc, e⟩ := List.mem_filterMap.mp hp
  have hf := h.f
  simp only [fitX, Bool.and_eq_true, PyData.strOk, Array.all_eq_true_iff_forall_mem] at hf
  have q := hf.1 c (Array.mem_toList_iff.mp hc)
  split at e
  · cases e
    simp only [sg, fitX, Bool.and_eq_true]
    exact ⟨by simpa [PyData.strOk] using q, by simp⟩
  · cases e
theorem dep_sg {x : Str} (P : Nat → Bool) : deps (pick P x.cps.toList) ≤ 60 := by
  refine Nat.le_trans (deps_le (d := 0) fun p hp => ?_) (by decide)
  obtain ⟨c, hc, e⟩ := List.mem_filterMap.mp hp
  split at e
  · cases e; simp [sg, dep]
  · cases e
theorem lword_sp {w d m : Nat} : SpB w d m wordB (defV 1 K01.N__law_is_word K01.b__law_is_word) := by
  intro p G h
  have hd := h.dat
  cases p with
  | str x =>
    have hz := sz_of h
    have l1 := len_str (G := G) hz
    have s1 := seq_str (G := G) hz
    have c1 : loopC (compF (gN 1) (mtNot (mB (m3c (mCst (.str "a")) (mVar 1) (mCst (.str "z")) (Cop.f .le) (Cop.f .le)))) (mVar 1) [1] [some (.str x), none]) (fun _ => true) (signs x) G = .ok (pick (fun c => !letB c) x.cps.toList) G := loop_sg (h := fun c => if (!letB c) = true then some (sg c) else none) rfl x fun c _ => by
      have e1 : Cop.le.f [.str "a", sg c] G = .ok (.bl (decide (("a" : Str).cps.toList ≤ [c]))) G := by
        exact congrArg (fun b => Res.ok (PV.bl b) G) (PySem.W.not_lt_str _ _)
      have e2 : Cop.le.f [sg c, .str "z"] G = .ok (.bl (decide ([c] ≤ ("z" : Str).cps.toList))) G := by
        exact congrArg (fun b => Res.ok (PV.bl b) G) (PySem.W.not_lt_str _ _)
      have e3 := le_sg c
      cases h1 : decide (("a" : Str).cps.toList ≤ [c]) with
      | false =>
        rw [h1] at e1 e3
        have e3 : letB c = false := by rw [← e3]; rfl
        simp [compF, wipeE, noX, e1, e3]
      | true =>
        rw [h1] at e1 e3
        rw [Bool.true_and] at e3
        rw [e3] at e2
        cases h2 : letB c <;> (rw [h2] at e2; simp [compF, wipeE, noX, e1, e2])
    have q1 := eq_nil (G := G) (fit_sg h fun c => !letB c) (dep_sg fun c => !letB c)
    rw [show (pick _ _).isEmpty = _ from isEmpty_filter sg _ _] at q1
    by_cases h1 : (0 : Int) < (x.cps.size : Int)
    · by_cases h2 : (x.cps.size : Int) < 9
      · have k1 : 1 ≤ x.cps.size := by omega
        have k0 : 0 < x.cps.size := by omega
        have k2 : x.cps.size ≤ 8 := by omega
        simp [k0, defV, K01.b__law_is_word, K01.N__law_is_word, env0, isi_str hd, isStr, l1, h1, h2, k1, k2, mComp_ap, s1, c1, q1, wordB, trim_same]
      · have k2 : ¬ x.cps.size ≤ 8 := by omega
        have k0 : 0 < x.cps.size := by omega
        simp [k0, defV, K01.b__law_is_word, K01.N__law_is_word, env0, isi_str hd, isStr, l1, h1, h2, k2, wordB, trim_same]
    · have k1 : x.cps.size = 0 := by omega
      simp [defV, K01.b__law_is_word, K01.N__law_is_word, env0, isi_str hd, isStr, l1, h1, k1, wordB, trim_same]
  | _ => simp [defV, K01.b__law_is_word, K01.N__law_is_word, env0, isi_str hd, isStr, wordB, trim_same]
theorem text_sp {w d m : Nat} : SpB w d m textB (defV 1 GN.N_is_text GN.b_is_text) := by
  intro p G h
  have hd := h.dat
  cases p with
  | str x =>
    have hz := sz_of h
    have l1 := len_str (G := G) hz
    have s1 := seq_str (G := G) hz
    have c1 := loop_sg (f := compF (gN 1) mYes (mOr (m2 (mVar 1) (mCst (.str "abcdefghijklmnopqrstuvwxyz")) (Cop.f .in_)) (m2 (mVar 1) (mCst (.str "0123456789")) (Cop.f .in_))) [1] [some (.str x), none]) (h := fun c => some (.bl (letB c || figB c))) (gd := fun _ => true) (G := G) rfl x fun c _ => by
      cases h1 : letB c <;> simp [compF, wipeE, noX, h1]
    rw [fm_some] at c1
    by_cases h2 : 16 < (x.cps.size : Int)
    · have k2 : ¬ x.cps.size ≤ 16 := by omega
      simp [defV, GN.b_is_text, GN.N_is_text, env0, isi_str hd, isStr, l1, h2, k2, textB, trim_same]
    · have k2 : x.cps.size ≤ 16 := by omega
      simp [defV, GN.b_is_text, GN.N_is_text, env0, isi_str hd, isStr, l1, h2, k2, mComp_ap, s1, c1, all_bl, textB, trim_same]
  | _ => simp [defV, GN.b_is_text, GN.N_is_text, env0, isi_str hd, isStr, textB, trim_same]
/-- neither letter nor figure -/
def nlf (c : Nat) : Bool := !(letB c || figB c)
theorem nlf_all (l : List Nat) : (l.all fun c => !nlf c) = l.all fun c => letB c || figB c := by simp [nlf]
theorem ltext_sp {w d m : Nat} : SpB w d m textB (defV 1 K01.N__law_is_text K01.b__law_is_text) := by
  intro p G h
  have hd := h.dat
  cases p with
  | str x =>
    have hz := sz_of h
    have l1 := len_str (G := G) hz
    have s1 := seq_str (G := G) hz
    have c1 : loopC (compF (gN 2) (mB (m2 (mVar 2) (mVar 1) (Cop.f .notin))) (mVar 2) [2] [some (.str x), some (.str "abcdefghijklmnopqrstuvwxyz0123456789"), none]) (fun _ => true) (signs x) G = .ok (pick (nlf) x.cps.toList) G := loop_sg (h := fun c => if nlf c = true then some (sg c) else none) rfl x fun c _ => by
      cases h1 : letB c <;> cases h2 : figB c <;> simp [compF, wipeE, noX, h1, h2, nlf]
    have q1 := eq_nil (G := G) (fit_sg h nlf) (dep_sg nlf)
    rw [show (pick _ _).isEmpty = _ from isEmpty_filter sg _ _, nlf_all] at q1
    by_cases h2 : (x.cps.size : Int) < 17
    · have k2 : x.cps.size ≤ 16 := by omega
      simp [defV, K01.b__law_is_text, K01.N__law_is_text, env0, isi_str hd, isStr, l1, h2, k2, mComp_ap, s1, c1, q1, textB, trim_same]
    · have k2 : ¬ x.cps.size ≤ 16 := by omega
      simp [defV, K01.b__law_is_text, K01.N__law_is_text, env0, isi_str hd, isStr, l1, h2, k2, textB, trim_same]
  | _ => simp [defV, K01.b__law_is_text, K01.N__law_is_text, env0, isi_str hd, isStr, textB, trim_same]
theorem plain_sp {w d m : Nat} {f g} (hf : SpB w d m numB f) (hg : SpB w d m textB g) : SpB w d m plainB (defV 1 GN.N_is_plain (GN.b_is_plain f g)) := by
  intro p G h
  have hd := h.dat
  have e1 := hf p G h
  have e2 := hg p G h
  cases p <;> simp [defV, GN.b_is_plain, GN.N_is_plain, env0, isi_bool hd, isBl, e1, e2, numB, plainB, isInt, trim_same]
theorem lplain_sp {w d m : Nat} {f} (hf : SpB w d m textB f) : SpB w d m plainB (defV 1 K01.N__law_is_plain (K01.b__law_is_plain f)) := by
  intro p G h
  have hd := h.dat
  have e1 := hf p G h
  cases p <;> simp [defV, K01.b__law_is_plain, K01.N__law_is_plain, env0, isi_int hd, isInt, e1, plainB, trim_same]
end EV.NV
end
section
/-! N2: values, documents: what the program and the law tell of any data. -/
set_option Elab.async false
set_option linter.all false
set_option maxRecDepth 100000
namespace EV.NV
open PySem PySem.Spec PyProof.Rows L2
def fldB (V : PV → Bool) : PV → Bool
  | .tup [a, b] => wordB a && V b
  | _ => false
def nameP : PV → Str
  | .tup (.str x :: _) => x
  | _ => Str.empty
def rise (xs : List Str) : Bool := (xs.zip xs.tail).all fun q => cltS q.1 q.2
def fldsB (V : PV → Bool) (xs : List PV) : Bool := xs.all (fldB V) && rise (xs.map nameP)
def valN : Nat → PV → Bool
  | 0, p => plainB p
  | n + 1, p => match headed "tree" p with
    | some xs => fldsB (valN n) xs
    | none => match headed "row" p with
      | some xs => xs.all (valN n)
      | none => plainB p
def docN (n : Nat) (p : PV) : Bool := match headed "tree" p with
  | some xs => fldsB (valN n) xs
  | none => false
/-! ### names that rise -/
theorem rise_cons {x y : Str} {l : List Str} : rise (x :: y :: l) = (cltS x y && rise (y :: l)) := rfl
theorem rise_pw : ∀ {xs : List Str}, rise xs = true → xs.Pairwise fun a b => cltS a b = true
  | [], _ => .nil
  | [x], _ => List.pairwise_singleton ..
  | x :: y :: l, h => by
    rw [rise_cons, Bool.and_eq_true] at h
    have ih := rise_pw h.2
    refine List.pairwise_cons.mpr ⟨fun z hz => ?_, ih⟩
    rcases List.mem_cons.mp hz with rfl | hz
    · exact h.1
    · have h2 := List.rel_of_pairwise_cons ih hz
      have h1 := h.1
      simp only [cltS, decide_eq_true_eq] at h1 h2 ⊢
      exact List.lt_trans h1 h2
theorem pw_rise : ∀ {xs : List Str}, (xs.Pairwise fun a b => cltS a b = true) → rise xs = true
  | [], _ => rfl
  | [x], _ => rfl
  | x :: y :: l, h => by
    obtain ⟨h1, h2⟩ := List.pairwise_cons.mp h
    rw [rise_cons, Bool.and_eq_true]
    exact ⟨h1 y (List.mem_cons_self ..), pw_rise h2⟩
theorem clt_leT {a b : Str} (h : cltS a b = true) : leT a b = true := by
  simp only [cltS, leT, decide_eq_true_eq] at *
  exact List.le_of_lt h
theorem clt_irrefl (a : Str) : cltS a a = false := by
  simp only [cltS, decide_eq_false_iff_not]
  exact List.lt_irrefl _
theorem clt_of {a b : Str} (h : leT a b = true) (n : a ≠ b) : cltS a b = true := by
  simp only [cltS, leT, decide_eq_true_eq] at *
  rcases Classical.em (a.cps.toList < b.cps.toList) with q | q
  · exact q
  · exact absurd (str_ext (List.le_antisymm h (List.not_lt.mp q))) n
theorem rise_sort (xs : List Str) : decide (xs = sortT xs) = rise xs := by
  cases h : rise xs with
  | true =>
    have pw := rise_pw h
    have nd : xs.Nodup := pw.imp fun {a b} q e => by rw [e, clt_irrefl] at q; cases q
    exact decide_eq_true (sortT_unique nd (pw.imp clt_leT) fun _ => Iff.rfl)
  | false =>
    refine decide_eq_false fun e => ?_
    have pw := sortT_pw xs
    have nd := sortT_nodup xs
    rw [← e] at pw nd
    have : rise xs = true := pw_rise (List.Pairwise.imp₂ (fun a b h1 h2 => clt_of h1 h2) pw nd)
    rw [h] at this; cases this
theorem dedT_len : ∀ xs : List Str, (dedT xs).length ≤ xs.length
  | [] => Nat.le_refl _
  | x :: r => by
    have h1 := insT_len (dedT r) x
    have h2 := dedT_len r
    rw [dedT, List.length_cons]; omega
theorem headed_inv {w : Str} {p : PV} {xs : List PV} (h : headed w p = some xs) : p = .tup [.str w, .tup xs] := by
  unfold headed at h
  split at h
  · split at h
    · rename_i s ys e; subst e; cases h; rfl
    · cases h
  · cases h
theorem headed_self (w : Str) (xs : List PV) : headed w (.tup [.str w, .tup xs]) = some xs := by simp [headed]
theorem plain_tup (xs : List PV) : plainB (.tup xs) = false := rfl
section
variable {G : GH}
theorem eqvAll_strs : ∀ xs ys : List Str, PyData.eqvAll (dOfs (xs.map .str)) (dOfs (ys.map .str)) = decide (xs = ys)
  | [], [] => rfl
  | [], y :: ys => by simp [dOfs, PyData.eqvAll]
  | x :: xs, [] => by simp [dOfs, PyData.eqvAll]
  | x :: xs, y :: ys => by
    have ih := eqvAll_strs xs ys
    simp only [List.map_cons, dOfs, dOf, PyData.eqvAll, PyData.eqv, ih, List.cons.injEq]
    by_cases h : x = y <;> simp [h]
theorem lay_strs : ∀ xs : List Str, (∀ x ∈ xs, PyData.strOk x = true) → PyData.canLayAll0 (dOfs (xs.map .str)) = true ∧ PyData.depthAll (dOfs (xs.map .str)) = 0
  | [], _ => by simp [dOfs, PyData.canLayAll0, PyData.depthAll]
  | x :: xs, h => by
    have ih := lay_strs xs fun y hy => h y (List.mem_cons_of_mem _ hy)
    simp only [List.map_cons, dOfs, dOf, PyData.canLayAll0, PyData.canLay0, PyData.depthAll, PyData.depth, ih, h x (List.mem_cons_self ..)]
    simp
theorem dat_strs : ∀ xs : List Str, datBs (xs.map .str) = true
  | [] => rfl
  | x :: xs => by simp only [List.map_cons, datBs, datB, dat_strs xs, Bool.and_self]
theorem eq_strs {xs ys : List Str} (hx : ∀ x ∈ xs, PyData.strOk x = true) (hy : ∀ x ∈ ys, PyData.strOk x = true) : Cop.eq.f [.lst (xs.map .str), .lst (ys.map .str)] G = .ok (.bl (decide (xs = ys))) G := by
  have q := lay_strs xs hx
  have r := lay_strs ys hy
  have h1 : SeqAt.shaped (.list (dOfs (xs.map .str))) = true := by
    simp only [SeqAt.shaped, PyData.canLay0, PyData.depth, q.1, q.2, Bool.true_and]; decide
  have h2 : SeqAt.shaped (.list (dOfs (ys.map .str))) = true := by
    simp only [SeqAt.shaped, PyData.canLay0, PyData.depth, r.1, r.2, Bool.true_and]; decide
  simp only [Cop.f, opEqN, eqP, scalP, toDG, toD, toDs_dat (dat_strs xs), toDs_dat (dat_strs ys), Option.map_some, eqD]
  rw [if_pos ⟨h1, h2⟩]
  simp only [PyData.eqv, eqvAll_strs]
  simp
theorem cut1 (ps : List PV) : cutP ps (some 1) none = ps.tail := by
  unfold cutP HT.sIx
  simp
  cases ps with
  | nil => rfl
  | cons p ps => simp
end
theorem dep_pair {a b : PV} {w d m : Nat} (h : Sm w (d + 1) m (.tup [a, b])) : Sm w d m a ∧ Sm w d m b :=
  ⟨(Sm.tup h a (by simp)).mono (by omega) (Nat.le_refl _) (Nat.le_refl _), (Sm.tup h b (by simp)).mono (by omega) (Nat.le_refl _) (Nat.le_refl _)⟩
def SpV (w m n : Nat) (f : List PV → GH → Res PV) : Prop := ∀ p G, Sm w n m p → f [p] G = .ok (.bl (valN n p)) G
def SpF (w m n : Nat) (f : List PV → GH → Res PV) : Prop := ∀ xs G, Sm w (n + 1) m (.tup xs) → f [.tup xs] G = .ok (.bl (fldsB (valN n) xs)) G
/-- one field, as the program looks -/
theorem fld_step {w m n : Nat} {fl fv fw} (hl : SpLong fl) (hv : SpV w m n fv) (hw : SpB w n m wordB fw) {xs : List PV} {o o2 : Option PV} {x : PV} (h : Sm w n m x) (G : GH) :
    compF (gN 1) (mYes) (mAnd (mA (mCons (mVar 1) (mCons (mCst (.int 2)) (mNil))) fl) (mAnd (mA (mCons (m2 (mVar 1) (mCst (.int 0)) opIx) (mNil)) fw) (mA (mCons (m2 (mVar 1) (mCst (.int 1)) opIx) (mNil)) fv))) [1] [some (.tup xs), o, o2] x G = .ok (some (.bl (fldB (valN n) x))) G := by
  have e1 := hl x 2 G h.dat
  by_cases k : ∃ a b, x = .tup [a, b]
  · obtain ⟨a, b, rfl⟩ := k
    have hp := dep_pair (h.mono (Nat.le_refl _) (Nat.le_succ _) (Nat.le_refl _))
    have e2 := hw a G hp.1
    have e3 := hv b G hp.2
    have e4 : longB 2 (.tup [a, b]) = true := rfl
    rw [e4] at e1
    cases hb : wordB a <;> simp [compF, wipeE, noX, e1, e2, e3, fldB, hb]
  · have e4 : longB 2 x = false := by
      cases x with
      | tup ps =>
        match ps, k with
        | [], _ => rfl
        | [_], _ => rfl
        | [a, b], k => exact absurd ⟨a, b, rfl⟩ k
        | a :: b :: c :: r, _ => simp only [longB, decide_eq_false_iff_not, List.length_cons]; omega
      | _ => rfl
    have e5 : fldB (valN n) x = false := by
      unfold fldB; split
      · exact absurd ⟨_, _, rfl⟩ k
      · rfl
    rw [e4] at e1
    simp [compF, wipeE, noX, e1, e5]
theorem fld_name {V : PV → Bool} {x : PV} (h : fldB V x = true) : ∃ (s : Str) (b : PV), x = .tup [.str s, b] ∧ nameP x = s := by
  unfold fldB at h; split at h
  · rename_i a b
    rw [Bool.and_eq_true] at h
    have := h.1
    unfold wordB at this; split at this
    · exact ⟨_, b, rfl, rfl⟩
    · cases this
  · cases h
def ltP : PV → Option PV
  | .tup [p, q] => some (.bl (cltS (nameP p) (nameP q)))
  | _ => none
theorem zip_lt (xs : List PV) : (zipP xs xs.tail).filterMap ltP = ((xs.map nameP).zip (xs.map nameP).tail).map fun q => .bl (cltS q.1 q.2) := by
  have e : (xs.map nameP).tail = xs.tail.map nameP := by cases xs <;> rfl
  rw [e]
  generalize xs.tail = ys
  unfold zipP
  induction xs generalizing ys with
  | nil => rfl
  | cons x xs ih =>
    cases ys with
    | nil => rfl
    | cons y ys => simp [ltP, ih]
theorem flds_sp {w m n : Nat} {fl fv fw} (hl : SpLong fl) (hv : SpV w m n fv) (hw : SpB w n m wordB fw) (hm : m ≤ 4000) : SpF w m n (defV 1 K01.N_are_fields (K01.b_are_fields fl fv fw)) := by
  intro xs G h
  have hx : ∀ x ∈ xs, Sm w n m x := fun x hx => (Sm.tup h x hx).mono (by omega) (Nat.le_refl _) (Nat.le_refl _)
  have c1 := loop_pure (f := compF (gN 1) (mYes) (mAnd (mA (mCons (mVar 1) (mCons (mCst (.int 2)) (mNil))) fl) (mAnd (mA (mCons (m2 (mVar 1) (mCst (.int 0)) opIx) (mNil)) fw) (mA (mCons (m2 (mVar 1) (mCst (.int 1)) opIx) (mNil)) fv))) [1] [some (.tup xs), none, none])
    (h := fun x => some (.bl (fldB (valN n) x))) (gd := fun _ => true) (G := G) rfl (xs := xs) fun x hx' => fld_step hl hv hw (hx x hx') G
  rw [fm_some] at c1
  have sl : opSl (.tup xs) (some 1) none G = .ok (.tup xs.tail) G := by rw [opSl_tup, cut1]
  cases ha : xs.all (fldB (valN n)) with
  | false => simp [defV, K01.b_are_fields, K01.N_are_fields, env0, mComp_ap, c1, all_bl, ha, fldsB, trim_same]
  | true =>
    have ha' : ∀ x ∈ xs, fldB (valN n) x = true := List.all_eq_true.mp ha
    have c2 := loop_pure (f := compF (gTupE 2 (gConsE (gN 1) (gConsE (gN 2) (gNilE)))) (mYes) (m2 (m2 (mVar 1) (mCst (.int 0)) opIx) (m2 (mVar 2) (mCst (.int 0)) opIx) (Cop.f .lt)) [1, 2] [some (.tup xs), none, none])
      (h := ltP) (gd := fun _ => true) (G := G) rfl (xs := zipP xs xs.tail) fun t ht => by
        obtain ⟨q, hq, rfl⟩ := List.mem_map.mp ht
        have m1 := (List.of_mem_zip hq).1
        have m2 := List.mem_of_mem_tail (List.of_mem_zip hq).2
        obtain ⟨s, b, e1, n1⟩ := fld_name (ha' _ m1)
        obtain ⟨s', b', e2, n2⟩ := fld_name (ha' _ m2)
        have e3 : Cop.lt.f [.str s, .str s'] G = .ok (.bl (cltS s s')) G := rfl
        simp only [ltP, n1, n2]
        rw [e1, e2]
        simp [compF, wipeE, noX, e3]
    rw [zip_lt] at c2
    have a2 := all_bl (G := G) (fun q : Str × Str => cltS q.1 q.2) ((xs.map nameP).zip (xs.map nameP).tail)
    simp [defV, K01.b_are_fields, K01.N_are_fields, env0, mComp_ap, c1, all_bl, ha, fldsB, trim_same, mZip, zfSrc, sl, c2, a2, rise]
theorem val_sp0 {w m : Nat} {ff fp fr ft fv} (hp : SpB w 0 m plainB fp) (hr : SpKind "row" fr) (ht : SpKind "tree" ft) : SpV w m 0 (defV 1 K01.N_is_value (K01.b_is_value ff fp fr ft fv)) := by
  intro p G h
  have e1 := hr p G h.dat
  have e2 := ht p G h.dat
  have e3 := hp p G h
  have nt : ∀ w, headed w p = none := fun w => by
    cases p with
    | tup ps => have := h.d; simp [dep] at this
    | _ => rfl
  rw [nt] at e1 e2
  simp [defV, K01.b_is_value, K01.N_is_value, env0, e1, e2, e3, valN, trim_same]
theorem val_spS {w m n : Nat} {ff fp fr ft fv} (hp : SpB w (n + 1) m plainB fp) (hr : SpKind "row" fr) (ht : SpKind "tree" ft) (hf : SpF w m n ff) (hv : SpV w m n fv) : SpV w m (n + 1) (defV 1 K01.N_is_value (K01.b_is_value ff fp fr ft fv)) := by
  intro p G h
  have e1 := hr p G h.dat
  have e2 := ht p G h.dat
  have e3 := hp p G h
  cases h1 : headed "tree" p with
  | some xs =>
    have ep := headed_inv h1
    subst ep
    rw [h1] at e2
    have e4 := hf xs G (((dep_pair h).2).mono (Nat.le_refl _) (by omega) (Nat.le_refl _))
    simp [defV, K01.b_is_value, K01.N_is_value, env0, e2, e4, valN, h1, trim_same]
  | none =>
    rw [h1] at e2
    cases h2 : headed "row" p with
    | some xs =>
      have ep := headed_inv h2
      subst ep
      rw [h2] at e1
      have hx : ∀ x ∈ xs, Sm w n m x := fun x hx => Sm.tup' ((dep_pair h).2) x hx
      have c1 := loop_pure (f := compF (gN 1) (mYes) (mA (mCons (mVar 1) (mNil)) fv) [1] [some (.tup [.str "row", .tup xs]), none]) (h := fun x => some (.bl (valN n x))) (gd := fun _ => true) (G := G) rfl (xs := xs) fun x hx' => by
        have := hv x G (hx x hx')
        simp [compF, wipeE, noX, this]
      rw [fm_some] at c1
      simp [defV, K01.b_is_value, K01.N_is_value, env0, e1, e2, mComp_ap, c1, all_bl, valN, h1, h2, trim_same]
    | none =>
      rw [h2] at e1
      simp [defV, K01.b_is_value, K01.N_is_value, env0, e1, e2, e3, valN, h1, h2, trim_same]
theorem doc_sp {w m n : Nat} {ff ft} (ht : SpKind "tree" ft) (hf : SpF w m n ff) : SpB w (n + 1) m (docN n) (defV 1 K01.N_is_document (K01.b_is_document ff ft)) := by
  intro p G h
  have e2 := ht p G h.dat
  cases h1 : headed "tree" p with
  | some xs =>
    have ep := headed_inv h1
    subst ep
    rw [h1] at e2
    have e4 := hf xs G (((dep_pair h).2).mono (Nat.le_refl _) (by omega) (Nat.le_refl _))
    simp [defV, K01.b_is_document, K01.N_is_document, env0, e2, e4, docN, h1, trim_same]
  | none =>
    rw [h1] at e2
    simp [defV, K01.b_is_document, K01.N_is_document, env0, e2, docN, h1, trim_same]
/-! ### the law's look -/
/-- a for that leaves where a test fails -/
theorem loopF_all {f : PV → EV.Env → GH → Res Fl} {gd : GH → Bool} {G : GH} (hg : gd G = true) {P : PV → Bool} {E : Option PV → EV.Env} {v : PV} : ∀ {its : List PV}, (∀ x ∈ its, ∀ o, f x (E o) G = if P x = true then .ok (.next (E (some x))) G else .ok (.ret v) G) →
    ∀ o, ∃ o', loopF f gd its (E o) G = if its.all P = true then .ok (.next (E o')) G else .ok (.ret v) G
  | [], _, o => ⟨o, by simp [loopF, hg]⟩
  | x :: xs, h, o => by
    have e1 := h x (List.mem_cons_self ..) o
    obtain ⟨o', e2⟩ := loopF_all hg (fun y hy => h y (List.mem_cons_of_mem _ hy)) (some x)
    refine ⟨o', ?_⟩
    by_cases hp : P x = true
    · rw [if_pos hp] at e1
      simp only [loopF, if_pos hg, e1, Res.bind_ok, e2, List.all_cons, hp, Bool.true_and]
    · rw [if_neg hp] at e1
      have hp2 : P x = false := by simpa using hp
      simp [loopF, hg, e1, hp2]
theorem ty_tup {p : PV} {G : GH} (h : datB p = true) : bIsi "tuple" [p] G = .ok (.bl (isTup p)) G := isi_tup h
theorem names_ok {V : PV → Bool} {w d m : Nat} {xs : List PV} (h : Sm w d m (.tup xs)) (ha : xs.all (fldB V) = true) : ∀ s ∈ xs.map nameP, PyData.strOk s = true := by
  intro s hs
  obtain ⟨x, hx, rfl⟩ := List.mem_map.mp hs
  obtain ⟨s, b, rfl, e⟩ := fld_name (List.all_eq_true.mp ha x hx)
  rw [e]
  have := (Sm.tup' h _ hx).f
  simp only [fitX, fitXs, Bool.and_eq_true] at this
  exact this.1.1
theorem lval_sp0 {w m : Nat} {fp fv fw} (hp : SpB w 0 m plainB fp) : SpV w m 0 (defV 1 K01.N__law_is_value (K01.b__law_is_value fp fv fw)) := by
  intro p G h
  have e3 := hp p G h
  have nt : isTup p = false := by
    cases p with
    | tup ps => have := h.d; simp [dep] at this
    | _ => rfl
  simp [defV, K01.b__law_is_value, K01.N__law_is_value, env0, ty_tup h.dat, nt, e3, valN, trim_same]
theorem lval_spS {w m n : Nat} {fp fv fw} (hp : SpB w (n + 1) m plainB fp) (hv : SpV w m n fv) (hw : SpB w n m wordB fw) (hm : m ≤ 4000) (hn : n ≤ 60) : SpV w m (n + 1) (defV 1 K01.N__law_is_value (K01.b__law_is_value fp fv fw)) := by
  intro p G h
  have e3 := hp p G h
  cases ht : isTup p with
  | false =>
    have h1 : ∀ w, headed w p = none := fun w => by cases p <;> first | rfl | (cases ht)
    simp [defV, K01.b__law_is_value, K01.N__law_is_value, env0, ty_tup h.dat, ht, e3, valN, h1, trim_same]
  | true =>
    obtain ⟨ps, rfl⟩ : ∃ ps, p = .tup ps := by cases p <;> first | exact ⟨_, rfl⟩ | (cases ht)
    by_cases k : ∃ a b, ps = [a, b]
    · obtain ⟨a, b, rfl⟩ := k
      have hp2 := dep_pair h
      have ia := isi_str (G := G) hp2.1.dat
      have ib := isi_tup (G := G) hp2.2.dat
      by_cases k2 : ∃ s xs, a = .str s ∧ b = .tup xs
      · obtain ⟨s, xs, rfl, rfl⟩ := k2
        have hx : ∀ x ∈ xs, Sm w n m x := fun x hx => Sm.tup' hp2.2 x hx
        by_cases s1 : s = "row"
        · subst s1
          have c1 := loop_pure (f := compF (gN 3) (mtNot (mT (mA (mCons (mVar 3) (mNil)) fv))) (mVar 3) [3] [some (.tup [.str "row", .tup xs]), none, none, none]) (h := fun x => if (!valN n x) = true then some x else none) (gd := fun _ => true) (G := G) rfl (xs := xs) fun x hx' => by
            have := hv x G (hx x hx')
            cases hb : valN n x <;> simp [compF, wipeE, noX, this, hb]
          have hf : fitXs (xs.filterMap fun x => if (!valN n x) = true then some x else none) = true := fitXs_of fun y hy => by
            obtain ⟨x, hx', e⟩ := List.mem_filterMap.mp hy
            split at e
            · cases e; exact (hx _ hx').f
            · cases e
          have hd : deps (xs.filterMap fun x => if (!valN n x) = true then some x else none) ≤ 60 := deps_le fun y hy => by
            obtain ⟨x, hx', e⟩ := List.mem_filterMap.mp hy
            split at e
            · cases e; have := (hx _ hx').d; omega
            · cases e
          have q1 := eq_nil (G := G) hf hd
          rw [isEmpty_filter (fun x => x) (fun x => !valN n x)] at q1
          have h1 : headed "tree" (.tup [.str "row", .tup xs]) = none := by simp [headed]
          have h2 : headed "row" (.tup [.str "row", .tup xs]) = some xs := by simp [headed]
          generalize hY : (xs.filterMap fun x => if (!valN n x) = true then some x else none) = Y at c1 q1
          simp only [Bool.not_not] at q1
          simp [defV, K01.b__law_is_value, K01.N__law_is_value, env0, ty_tup h.dat, isTup, ia, ib, isStr, mComp_ap, c1, q1, valN, h1, h2, trim_same]
        · by_cases s2 : s = "tree"
          · subst s2
            have h1 : headed "tree" (.tup [.str "tree", .tup xs]) = some xs := by simp [headed]
            obtain ⟨o', l1⟩ := loopF_all (f := forStep (gN 1) (sSeq (sIf (mtOr (mtNot (mT (m1 (mVar 1) (bIsi "tuple")))) (mtOr (mB (m2 (mA (mCons (mVar 1) (mNil)) bLen) (mCst (.int 2)) (Cop.f .ne))) (mtOr (mtNot (mT (mA (mCons (m2 (mVar 1) (mCst (.int 0)) opIx) (mNil)) fw))) (mtNot (mT (mA (mCons (m2 (mVar 1) (mCst (.int 1)) opIx) (mNil)) fv)))))) (sSeq (sRet (mCst (.bl false))) (sNext)) (sNext)) (sNext)))
              (gd := fun _ => true) (G := G) rfl (P := fldB (valN n)) (E := fun o => [some (.tup [.str "tree", .tup xs]), o, none, none]) (v := .bl false) (its := xs) (fun x hx' o => by
                have hs := hx x hx'
                have it := isi_tup (G := G) hs.dat
                by_cases k : ∃ a b, x = .tup [a, b]
                · obtain ⟨a, b, rfl⟩ := k
                  have hp3 := dep_pair (hs.mono (Nat.le_refl _) (Nat.le_succ _) (Nat.le_refl _))
                  have e2 := hw a G hp3.1
                  have e4 := hv b G hp3.2
                  cases hb : wordB a <;> cases hc : valN n b <;> simp [forStep_ap, it, isTup, e2, e4, hb, hc, fldB]
                · have e5 : fldB (valN n) x = false := by
                    unfold fldB; split
                    · exact absurd ⟨_, _, rfl⟩ k
                    · rfl
                  cases x with
                  | tup ys =>
                    have hl : ¬ ((ys.length : Int) = 2) := fun e => by
                      match ys, e, k with
                      | [], e, _ => simp at e
                      | [_], e, _ => simp at e
                      | [a, b], _, k => exact k ⟨a, b, rfl⟩
                      | a :: b :: c :: r, e, _ => simp only [List.length_cons] at e; omega
                    simp [forStep_ap, it, isTup, hl, e5]
                  | _ => simp [forStep_ap, it, isTup, e5]) none
            cases ha : xs.all (fldB (valN n)) with
            | false =>
              rw [ha] at l1
              simp [defV, K01.b__law_is_value, K01.N__law_is_value, env0, ty_tup h.dat, isTup, ia, ib, isStr, l1, valN, h1, fldsB, ha, trim_same]
            | true =>
              rw [ha] at l1
              have c2 := loop_pure (f := compF (gN 1) (mYes) (m2 (mVar 1) (mCst (.int 0)) opIx) [1] [some (.tup [.str "tree", .tup xs]), o', none, none]) (h := fun x => some (.str (nameP x))) (gd := fun _ => true) (G := G) rfl (xs := xs) fun x hx' => by
                obtain ⟨s, b, rfl, e⟩ := fld_name (List.all_eq_true.mp ha x hx')
                simp [compF, wipeE, noX, nameP]
              rw [fm_some] at c2
              have e6 : (xs.map fun x => PV.str (nameP x)) = (xs.map nameP).map PV.str := by rw [List.map_map]; rfl
              rw [e6] at c2
              have nm := names_ok hp2.2 ha
              have hl : (xs.map nameP).length ≤ 4000 := by
                rw [List.length_map]
                have := hp2.2.len
                omega
              have hl2 : ((sortT (xs.map nameP)).map PV.str).length ≤ sizeLine := by
                have : (sortT (xs.map nameP)).length ≤ (xs.map nameP).length := by
                  rw [sortT, List.length_mergeSort]
                  exact dedT_len _
                rw [size_line, List.length_map]; omega
              have so : bSortSet false [.lst ((xs.map nameP).map PV.str)] G = .ok (.lst ((sortT (xs.map nameP)).map PV.str)) G := by
                simp only [bSortSet, asL, strsOf_map, if_pos hl, mkL, if_pos hl2]
                rfl
              have q2 := eq_strs (G := G) (xs := xs.map nameP) (ys := sortT (xs.map nameP)) nm fun x hx' => nm x (sortT_mem.mp hx')
              rw [rise_sort] at q2
              generalize (xs.map nameP).map PV.str = L at c2 so q2
              simp [defV, K01.b__law_is_value, K01.N__law_is_value, env0, ty_tup h.dat, isTup, ia, ib, isStr, l1, mComp_ap, c2, so, q2, valN, h1, fldsB, ha, trim_same]
          · have h1 : headed "tree" (.tup [.str s, .tup xs]) = none := by simp [headed, s2]
            have h2 : headed "row" (.tup [.str s, .tup xs]) = none := by simp [headed, s1]
            simp [defV, K01.b__law_is_value, K01.N__law_is_value, env0, ty_tup h.dat, isTup, ia, ib, isStr, valN, h1, h2, s1, s2, plain_tup, trim_same]
      · have h1 : ∀ w, headed w (.tup [a, b]) = none := fun w => by
          unfold headed; split
          · rename_i s xs e
            cases e
            exact absurd ⟨_, _, rfl, rfl⟩ k2
          · rfl
        cases a with
        | str s => cases b <;> first | exact absurd ⟨_, _, rfl, rfl⟩ k2 | simp [defV, K01.b__law_is_value, K01.N__law_is_value, env0, ty_tup h.dat, isTup, ia, ib, isStr, valN, h1, plain_tup, trim_same]
        | _ => simp [defV, K01.b__law_is_value, K01.N__law_is_value, env0, ty_tup h.dat, isTup, ia, isStr, valN, h1, plain_tup, trim_same]
    · have hl : ¬ ((ps.length : Int) = 2) := fun e => by
        match ps, e, k with
        | [], e, _ => simp at e
        | [_], e, _ => simp at e
        | [a, b], _, k => exact k ⟨a, b, rfl⟩
        | a :: b :: c :: r, e, _ => simp only [List.length_cons] at e; omega
      have h1 : ∀ w, headed w (.tup ps) = none := fun w => by
        unfold headed; split
        · rename_i s xs e
          cases e
          exact absurd ⟨_, _, rfl⟩ k
        · rfl
      simp [defV, K01.b__law_is_value, K01.N__law_is_value, env0, ty_tup h.dat, isTup, hl, valN, h1, plain_tup, trim_same]
end EV.NV
end
section
/-! M13: what comes by a step, in the program. -/
set_option Elab.async false
set_option linter.all false
set_option maxRecDepth 100000
namespace EV
open PySem PySem.Spec PyProof.Rows L2
theorem headR_row (xs : List PV) : headed "row" (rowV xs) = some xs := rfl
theorem headT_row (xs : List PV) : headed "tree" (rowV xs) = none := rfl
theorem headR_tree (kv : List (Str × PV)) : headed "row" (treeV kv) = none := rfl
theorem headT_tree (kv : List (Str × PV)) : headed "tree" (treeV kv) = some (kv.map fldV) := rfl
theorem fieldC_tree {kv : List (Str × PV)} {w : Str} (h : (kv.map (·.1)).Nodup) : fieldC w (treeV kv) = (match getF kv w with | some v => [.tup [.str w, v]] | none => []) := by
  have e : fieldC w (treeV kv) = (kv.filter fun q => decide (q.1 = w)).map fldV := by
    have : fieldC w (treeV kv) = (kv.map fldV).filter (keyIs w) := rfl
    rw [this, List.filter_map]
    rfl
  rw [e, filter_get w h]
  cases getF kv w <;> rfl
theorem come_loop {fi} (hi : SpFits fi) {w : Str} {p : PV} (hw : w ∈ pool7) (hp : p ∈ leafs) {G : GH} {xs : List PV} (hx : ∀ x ∈ xs, Val x) {ρ : Env} (hρ : ∀ i x, ((wipeE ρ [6, 7]).set 6 i).set 7 x = [ρ[0]?.join, ρ[1]?.join, ρ[2]?.join, ρ[3]?.join, ρ[4]?.join, some (.lst [.str w, p]), i, x]) :
    loopC (compF (gTupE 2 (gConsE (gN 6) (gConsE (gN 7) (gNilE)))) (mT (mA (mCons (mVar 7) (mCons (m2 (mVar 5) (mCst (.int 0)) opIx) (mCons (m2 (mVar 5) (mCst (.int 1)) opIx) (mNil)))) fi)) (mA (mCons (mVar 6) (mCons (mVar 7) (mNil))) mkTup) [6, 7] ρ) (fun _ => true) (enP xs) G = .ok ((enP xs).filter fun t => fitsP w p (sndV t)) G := by
  rw [loop_pure (h := fun t => if fitsP w p (sndV t) = true then some t else none) rfl]
  · rw [fm_filter]
  · intro t ht
    obtain ⟨i, x, rfl, hx2, _, _⟩ := mem_enP ht
    have e := hi x w p G (hx x hx2) hw hp
    cases hb : fitsP w p x <;> simp [compF, hρ, e, hb, sndV, size_line]
theorem come_sp {ff fi fr ft} (hf : SpFields ff) (hi : SpFits fi) (hr : SpKind "row" fr) (ht : SpKind "tree" ft) : SpCome (defV 2 GN.N_come_by (GN.b_come_by ff fi fr ft)) := by
  intro s V G hs hV
  have hd := dat_of_fit hV.val.fit
  have e1 := ht V G hd
  have e2 := hr V G hd
  have hw1 := hV.w
  have hv := hV.val
  have i0 : ∀ w, opInA false [.str w, .obj G.length] (G ++ [.dic []]) = .ok (.bl false) (G ++ [.dic []]) := fun w => inA_last (kv := [])
  have t0 : ∀ o, trimR G (.ok (.lst []) (G ++ [o])) = .ok (.lst []) G := fun o => trim_back rfl
  cases hv with
  | plain h =>
    rw [leaf_head h] at e1 e2
    cases s with
    | field w =>
      have : fieldC w V = [] := by simp [fieldC, fldsOf, leaf_head h]
      simp [defV, GN.b_come_by, GN.N_come_by, env0, Stp.pv, Stp.c, gStar_1, e1, e2, i0, t0, this, size_line]
    | «at» i =>
      have : atC i V = [] := by simp [atC, rowsOf, leaf_head h, enP, cutP]
      simp [defV, GN.b_come_by, GN.N_come_by, env0, Stp.pv, Stp.c, gStar_1, e1, e2, i0, t0, this, size_line, trim_same]
    | each =>
      have : eachM V = [] := by simp [eachM, rowsOf, leaf_head h, enP]
      simp [defV, GN.b_come_by, GN.N_come_by, env0, Stp.pv, Stp.c, gStar_1, e1, e2, i0, t0, this, size_line, trim_same]
    | wh w p =>
      have : whereC w p V = [] := by simp [whereC, rowsOf, leaf_head h, enP]
      simp [defV, GN.b_come_by, GN.N_come_by, env0, Stp.pv, Stp.c, gStar_1, e1, e2, i0, t0, this, size_line, trim_same]
  | row h =>
    rename_i xs
    rw [headT_row] at e1
    rw [headR_row] at e2
    have hl : xs.length ≤ 1000000 := by
      have := wgts_len xs
      have := wgt_row xs
      omega
    have en := lenum_ok (G := G) hl
    have hdx : ∀ t ∈ enP xs, datB t = true := fun t ht => by
      obtain ⟨i, x, rfl, hx, _, _⟩ := mem_enP ht
      simp [datB, datBs, (h x hx).dat]
    cases s with
    | field w =>
      have : fieldC w (rowV xs) = [] := rfl
      simp [defV, GN.b_come_by, GN.N_come_by, env0, Stp.pv, Stp.c, gStar_1, e1, e2, i0, t0, this, size_line]
    | «at» i =>
      have : atC i (rowV xs) = cutP (enP xs) (some i) (some (i + 1)) := rfl
      simp [defV, GN.b_come_by, GN.N_come_by, env0, Stp.pv, Stp.c, gStar_1, e1, e2, en, this, trim_same]
    | each =>
      have : eachM (rowV xs) = enP xs := rfl
      simp [defV, GN.b_come_by, GN.N_come_by, env0, Stp.pv, Stp.c, gStar_1, e1, e2, en, this, trim_same]
    | wh w p =>
      have : whereC w p (rowV xs) = (enP xs).filter fun t => fitsP w p (sndV t) := rfl
      have cl := come_loop hi hs.1 hs.2 (G := G) h (ρ := [some (whereS w p), some (rowV xs), some (.lst (enP xs)), some (.str "where"), none, some (.lst [.str w, p]), none, none]) (fun _ _ => rfl)
      simp [defV, GN.b_come_by, GN.N_come_by, env0, Stp.pv, Stp.c, gStar_1, e1, e2, en, this, trim_same, mComp_ap, cl, wipeE]
  | tree h1 h2 h3 =>
    rename_i kv
    rw [headT_tree] at e1
    rw [headR_tree] at e2
    have e4 := hf kv G h1
    cases s with
    | field w =>
      have e6 := inA_last (G := G) (kv := kv) (w := w)
      have e7 := fieldC_tree (w := w) h1
      cases hg : getF kv w with
      | none =>
        rw [hg] at e6 e7
        simp [defV, GN.b_come_by, GN.N_come_by, env0, Stp.pv, Stp.c, gStar_1, e1, e2, e4, e6, e7, t0, size_line]
      | some v =>
        rw [hg] at e6 e7
        have e8 := ixA_last (G := G) hg
        have hv : Val v := by
          unfold getF at hg
          obtain ⟨q, hq, rfl⟩ := Option.map_eq_some_iff.mp hg
          exact h3 q (List.mem_of_find?_eq_some hq)
        have t1 : trimR G (.ok (.lst [.tup [.str w, v]]) (G ++ [.dic (kd kv)])) = .ok (.lst [.tup [.str w, v]]) G := trim_back (by simp [datB, datBs, hv.dat])
        simp [defV, GN.b_come_by, GN.N_come_by, env0, Stp.pv, Stp.c, gStar_1, e1, e2, e4, e6, e7, e8, t1, size_line]
    | «at» i =>
      have : atC i (treeV kv) = [] := by simp [atC, rowsOf, headR_tree, enP, cutP]
      simp [defV, GN.b_come_by, GN.N_come_by, env0, Stp.pv, Stp.c, gStar_1, e1, e2, this, size_line, trim_same]
    | each =>
      have : eachM (treeV kv) = [] := rfl
      simp [defV, GN.b_come_by, GN.N_come_by, env0, Stp.pv, Stp.c, gStar_1, e1, e2, this, size_line, trim_same]
    | wh w p =>
      have : whereC w p (treeV kv) = [] := rfl
      simp [defV, GN.b_come_by, GN.N_come_by, env0, Stp.pv, Stp.c, gStar_1, e1, e2, this, size_line, trim_same]
end EV
end
section
/-! M14: what comes by a step, as the law goes. -/
set_option Elab.async false
set_option linter.all false
set_option maxRecDepth 100000
namespace EV
open PySem PySem.Spec PyProof.Rows L2
def SpIsA (f : List PV → GH → Res PV) : Prop := ∀ (w : Str) V G, Val V → f [V, .str w] G = .ok (.bl (headed w V).isSome) G
theorem isa_sp : SpIsA (defV 2 GN.N__law_is_a GN.b__law_is_a) := by
  intro w V G hV
  have i1 := isi_tup (G := G) hV.dat
  cases hV with
  | plain h =>
    rw [leaf_tup h] at i1
    simp [defV, GN.b__law_is_a, GN.N__law_is_a, env0, i1, leaf_head h, trim_same]
  | row h =>
    have e : ∀ xs, (headed w (rowV xs)).isSome = decide (("row" : Str) = w) := fun xs => by
      simp only [headed, rowV]; split <;> simp_all
    have i2 : ∀ xs, isTup (rowV xs) = true := fun _ => rfl
    rw [i2] at i1
    simp [defV, GN.b__law_is_a, GN.N__law_is_a, env0, i1, e, trim_same]
  | tree h1 h2 h3 =>
    have e : ∀ kv, (headed w (treeV kv)).isSome = decide (("tree" : Str) = w) := fun xs => by
      simp only [headed, treeV]; split <;> simp_all
    have i2 : ∀ xs, isTup (treeV xs) = true := fun _ => rfl
    rw [i2] at i1
    simp [defV, GN.b__law_is_a, GN.N__law_is_a, env0, i1, e, trim_same]
theorem fld_mem {kv : List (Str × PV)} {t : PV} (h : t ∈ kv.map fldV) : ∃ q ∈ kv, t = fldV q := by
  obtain ⟨q, hq, rfl⟩ := List.mem_map.mp h
  exact ⟨q, hq, rfl⟩
theorem plain_fit {p : PV} (h : p ∈ leafs) : fitB p = true ∧ wgt p ≤ 40 ∧ dep p = 0 := by
  have t : leafs.all (fun p => fitB p && decide (wgt p ≤ 40) && decide (dep p = 0)) = true := by decide +kernel
  have := List.all_eq_true.mp t p h
  simp only [Bool.and_eq_true, decide_eq_true_eq] at this
  exact ⟨this.1.1, this.1.2, this.2⟩
theorem word_w {w : Str} (h : w ∈ pool7) : w.cps.size ≤ 10 := by
  have t : pool7.all (fun w => decide (w.cps.size ≤ 10)) = true := by decide +kernel
  simpa using List.all_eq_true.mp t w h
theorem pair_repr {w : Str} {p : PV} (hw : w ∈ pool7) (hp : p ∈ leafs) (G : GH) : bRepr [.tup [.str w, p]] G = .ok (.str (rep (.tup [.str w, p]))) G := by
  have h := plain_fit hp
  have h2 := word_w hw
  refine repr_fit G ?_ ?_ ?_
  · simp [fitB, fitBs, word_fit hw, h.1]
  · simp only [wgt, wgts]; omega
  · simp only [dep, deps, h.2.2]; omega
theorem fld_repr {q : Str × PV} (hw : q.1 ∈ pool7) (hp : Sm q.2) (G : GH) : bRepr [fldV q] G = .ok (.str (rep (fldV q))) G := by
  have h := hp.val.fit
  have h1 := hp.w
  have h3 := hp.d
  have h2 := word_w hw
  refine repr_fit G ?_ ?_ ?_
  · simp [fitB, fitBs, word_fit hw, h]
  · simp only [wgt, wgts]; omega
  · simp only [dep, deps]; omega
theorem in_strs {G : GH} {s : Str} {ps : List Str} : Cop.in_.f [.str s, .lst (ps.map .str)] G = .ok (.bl (ps.any fun t => decide (t = s))) G := by
  have e : (ps.map PV.str).all flatP = true := by simp [List.all_eq_true, flatP]
  have e2 : inP G (.str s) (.lst (ps.map .str)) = some ((ps.map PV.str).any fun z => eqFl z (.str s)) := by
    simp only [inP, asS, asL, e, flatP, Bool.and_self, if_true]
  simp only [Cop.f, opInN, e2]
  simp only [List.any_map]
  rfl
theorem fits_row {w : Str} {p : PV} {V : PV} : fitsP w p V = ((headed "tree" V).getD []).any fun t => decide (rep t = rep (.tup [.str w, p])) := rfl
theorem fm_map {α β : Type} {g : α → β} : ∀ {xs : List α}, xs.filterMap (fun t => some (g t)) = xs.map g
  | [] => rfl
  | x :: xs => by rw [List.filterMap_cons, fm_map (xs := xs)]; rfl
theorem comeL_field (w : Str) {kv : List (Str × PV)} {G : GH} {ρ : Env} (hρ : ∀ i, (wipeE ρ [4]).set 4 i = [ρ[0]?.join, some (fieldS w), ρ[2]?.join, ρ[3]?.join, i, ρ[5]?.join]) :
    loopC (compF (gN 4) (mB (m2 (m2 (mVar 4) (mCst (.int 0)) opIx) (m2 (mVar 1) (mCst (.int 1)) opIx) (Cop.f .eq))) (mVar 4) [4] ρ) (fun _ => true) (kv.map fldV) G = .ok ((kv.map fldV).filter (keyIs w)) G := by
  rw [loop_pure (h := fun t => if keyIs w t = true then some t else none) rfl]
  · rw [fm_filter]
  · intro t ht
    obtain ⟨q, hq, rfl⟩ := fld_mem ht
    cases hb : keyIs w (fldV q) <;> (simp only [keyIs, fldV, decide_eq_true_eq, decide_eq_false_iff_not] at hb; simp [compF, hρ, hb, keyIs, size_line])
theorem comeL_in {kv : List (Str × PV)} {G : GH} {ρ : Env} (h2 : ∀ q ∈ kv, q.1 ∈ pool7) (h3 : ∀ q ∈ kv, Sm q.2) (hρ : ∀ i, ((wipeE ρ [5]).set 5 i)[5]? = some i) :
    loopC (compF (gN 5) mYes (mA (mCons (mVar 5) (mNil)) bRepr) [5] ρ) (fun _ => true) (kv.map fldV) G = .ok ((kv.map fun q => rep (fldV q)).map .str) G := by
  rw [loop_pure (h := fun t => some (.str (rep t))) rfl]
  · rw [fm_map, List.map_map, List.map_map]; rfl
  · intro t ht
    obtain ⟨q, hq, rfl⟩ := fld_mem ht
    have e := fld_repr (h2 q hq) (h3 q hq) G
    simp only [fldV] at e
    simp [compF, hρ, mYes, e]
theorem comeL_wh {fi} (hi : SpIsA fi) {w : Str} {p : PV} {G : GH} {xs : List PV} (hx : ∀ x ∈ xs, Sm x) {ρ : Env} {v0 v1 v2 : Option PV} (hρ : ρ = [v0, v1, v2, some (.str (rep (.tup [.str w, p]))), none, none]) :
    loopC (compF (gN 4) (mtAnd (mT (mA (mCons (m2 (mVar 4) (mCst (.int 1)) opIx) (mCons (mCst (.str "tree")) (mNil))) fi)) (mB (m2 (mVar 3) (mComp false (mSeq (m2 (m2 (mVar 4) (mCst (.int 1)) opIx) (mCst (.int 1)) opIx)) (gN 5) (mYes) (mA (mCons (mVar 5) (mNil)) bRepr) [5]) (Cop.f .in_)))) (mVar 4) [4] ρ) (fun _ => true) (enP xs) G = .ok ((enP xs).filter fun t => fitsP w p (sndV t)) G := by
  rw [loop_pure (h := fun t => if fitsP w p (sndV t) = true then some t else none) rfl]
  · rw [fm_filter]
  · intro t ht
    obtain ⟨i, x, rfl, hx2, _, _⟩ := mem_enP ht
    have hS := hx x hx2
    have e := hi "tree" x G hS.val
    have hv := hS.val
    cases hv with
    | plain h =>
      rw [leaf_head h] at e
      have : fitsP w p x = false := by simp [fitsP, fldsOf, leaf_head h]
      simp [compF, hρ, wipeE, e, this, sndV]
    | row h =>
      rename_i ys
      have e2 : fitsP w p (rowV ys) = false := rfl
      have e3 : headed "tree" (rowV ys) = none := rfl
      rw [e3] at e
      simp [compF, hρ, wipeE, e, e2, sndV]
    | tree h1 h2 h3 =>
      rename_i kv
      have e3 : headed "tree" (treeV kv) = some (kv.map fldV) := rfl
      rw [e3] at e
      have l := fun (ρ : Env) (hρ : ∀ i, ((wipeE ρ [5]).set 5 i)[5]? = some i) => comeL_in (G := G) (ρ := ρ) h2 (hS.tree h3) hρ
      have e4 : fitsP w p (treeV kv) = (kv.map fun q => rep (fldV q)).any fun t => decide (t = rep (.tup [.str w, p])) := by
        have : fitsP w p (treeV kv) = (kv.map fldV).any fun t => decide (rep t = rep (.tup [.str w, p])) := rfl
        rw [this, List.any_map, List.any_map]; rfl
      have l2 := l [v0, v1, v2, some (.str (rep (.tup [.str w, p]))), some (.tup [.int i, treeV kv]), none] (fun i => rfl)
      have e5 := in_strs (G := G) (s := rep (.tup [.str w, p])) (ps := kv.map fun q => rep (fldV q))
      rw [← e4] at e5
      simp only [List.map_map] at l2 e5
      cases hb : fitsP w p (treeV kv) <;> (rw [hb] at e5; simp [compF, hρ, wipeE, e, mComp_ap, l2, e5, hb, sndV])
theorem comeL_sp {fi} (hi : SpIsA fi) : SpComeL (defV 2 GN.N__law_come (GN.b__law_come fi)) := by
  intro s V G hs hV
  have e1 := hi "tree" V G hV.val
  have e2 := hi "row" V G hV.val
  have hw1 := hV.w
  have hv := hV.val
  cases hv with
  | plain h =>
    rw [leaf_head h] at e1 e2
    cases s with
    | field w =>
      have : fieldC w V = [] := by simp [fieldC, fldsOf, leaf_head h]
      simp [defV, GN.b__law_come, GN.N__law_come, env0, Stp.pv, Stp.c, e1, e2, this, size_line, trim_same]
    | «at» i =>
      have : atC i V = [] := by simp [atC, rowsOf, leaf_head h, enP, cutP]
      simp [defV, GN.b__law_come, GN.N__law_come, env0, Stp.pv, Stp.c, e1, e2, this, size_line, trim_same]
    | each =>
      have : eachM V = [] := by simp [eachM, rowsOf, leaf_head h, enP]
      simp [defV, GN.b__law_come, GN.N__law_come, env0, Stp.pv, Stp.c, e1, e2, this, size_line, trim_same]
    | wh w p =>
      have : whereC w p V = [] := by simp [whereC, rowsOf, leaf_head h, enP]
      simp [defV, GN.b__law_come, GN.N__law_come, env0, Stp.pv, Stp.c, e1, e2, this, size_line, trim_same]
  | row h =>
    rename_i xs
    rw [headT_row] at e1
    rw [headR_row] at e2
    have hl : xs.length ≤ 1000000 := by
      have := wgts_len xs
      have := wgt_row xs
      omega
    have en := lenum_ok (G := G) hl
    cases s with
    | field w =>
      have : fieldC w (rowV xs) = [] := rfl
      simp [defV, GN.b__law_come, GN.N__law_come, env0, Stp.pv, Stp.c, e1, e2, this, size_line, trim_same]
    | «at» i =>
      have : atC i (rowV xs) = cutP (enP xs) (some i) (some (i + 1)) := rfl
      simp [defV, GN.b__law_come, GN.N__law_come, env0, Stp.pv, Stp.c, e1, e2, en, this, trim_same]
    | each =>
      have : eachM (rowV xs) = enP xs := rfl
      simp [defV, GN.b__law_come, GN.N__law_come, env0, Stp.pv, Stp.c, e1, e2, en, this, trim_same]
    | wh w p =>
      have : whereC w p (rowV xs) = (enP xs).filter fun t => fitsP w p (sndV t) := rfl
      have cl := comeL_wh hi (w := w) (p := p) (G := G) hV.row (v0 := some (rowV xs)) (v1 := some (whereS w p)) (v2 := some (.lst (enP xs))) rfl
      have rp := pair_repr hs.1 hs.2 G
      simp [defV, GN.b__law_come, GN.N__law_come, env0, Stp.pv, Stp.c, e1, e2, en, this, trim_same, mComp_ap, cl, rp, size_line]
  | tree h1 h2 h3 =>
    rename_i kv
    rw [headT_tree] at e1
    rw [headR_tree] at e2
    cases s with
    | field w =>
      have : fieldC w (treeV kv) = (kv.map fldV).filter (keyIs w) := rfl
      have cl := comeL_field w (kv := kv) (G := G) (ρ := [some (treeV kv), some (fieldS w), none, none, none, none]) (fun i => rfl)
      simp [defV, GN.b__law_come, GN.N__law_come, env0, Stp.pv, Stp.c, e1, e2, this, size_line, trim_same, mComp_ap, cl]
    | «at» i =>
      have : atC i (treeV kv) = [] := by simp [atC, rowsOf, headR_tree, enP, cutP]
      simp [defV, GN.b__law_come, GN.N__law_come, env0, Stp.pv, Stp.c, e1, e2, this, size_line, trim_same]
    | each =>
      have : eachM (treeV kv) = [] := rfl
      simp [defV, GN.b__law_come, GN.N__law_come, env0, Stp.pv, Stp.c, e1, e2, this, size_line, trim_same]
    | wh w p =>
      have : whereC w p (treeV kv) = [] := rfl
      simp [defV, GN.b__law_come, GN.N__law_come, env0, Stp.pv, Stp.c, e1, e2, this, size_line, trim_same]
end EV
end
section
/-! M15: what is found, its weight. -/
set_option Elab.async false
set_option linter.all false
set_option maxRecDepth 100000
namespace EV
open PySem PySem.Spec PyProof.Rows L2
/-- markers -/
def mk (m : PV) : Prop := (∃ w, m = .str w ∧ w ∈ pool7) ∨ (∃ i : Int, m = .int i ∧ 0 ≤ i ∧ i < 1000000)
theorem mk_fit {m : PV} (h : mk m) : fitB m = true ∧ wgt m ≤ 20 ∧ dep m = 0 := by
  rcases h with ⟨w, rfl, h⟩ | ⟨i, rfl, h1, h2⟩
  · have := word_w h
    exact ⟨by simp [fitB, word_fit h], by simp only [wgt]; omega, rfl⟩
  · refine ⟨by simp [fitB]; omega, ?_, rfl⟩
    simp only [wgt]
    by_cases z : i.natAbs = 0
    · rw [z]; decide
    · have : i.natAbs.log2 < 20 := (Nat.log2_lt z).mpr (by omega)
      omega
theorem wgts_app : ∀ xs ys : List PV, wgts (xs ++ ys) = wgts xs + wgts ys
  | [], ys => by simp [wgts]
  | x :: xs, ys => by simp only [List.cons_append, wgts, wgts_app xs ys]; omega
theorem deps_le {ps : List PV} {n : Nat} (h : ∀ p ∈ ps, dep p ≤ n) : deps ps ≤ n := by
  induction ps with
  | nil => simp [deps]
  | cons p ps ih =>
    simp only [deps]
    exact Nat.max_le.mpr ⟨h p (List.mem_cons_self ..), ih fun q hq => h q (List.mem_cons_of_mem _ hq)⟩
theorem wgts_sub {xs ys : List PV} (h : xs.Sublist ys) : wgts xs ≤ wgts ys := by
  induction h with
  | slnil => simp
  | cons a _ ih => simp only [wgts]; omega
  | cons_cons a _ ih => simp only [wgts]; omega
theorem enP_snd (xs : List PV) : (enP xs).map sndV = xs := by
  have e : (enP xs).map sndV = ((List.range xs.length).zip xs).map Prod.snd := by
    rw [enP, List.map_map]; rfl
  rw [e, List.map_snd_zip]
  simp
theorem wgts_fld : ∀ kv : List (Str × PV), wgts ((kv.map fldV).map sndV) ≤ wgts (kv.map fldV)
  | [] => by simp
  | q :: kv => by
    have := wgts_fld kv
    simp only [List.map_cons, wgts, wgt, fldV, sndV] at *
    omega
def kids (V : PV) : List PV := fldsOf V ++ enP (rowsOf V)
theorem cutP_sub (xs : List PV) (a b : Option Int) : (cutP xs a b).Sublist xs := by
  unfold cutP
  exact (List.take_sublist _ _).trans (List.drop_sublist _ _)
theorem step_sub (s : Stp) (V : PV) : (s.c V).Sublist (kids V) := by
  unfold kids
  cases s with
  | field w => exact (List.filter_sublist (p := keyIs w)).trans (List.sublist_append_left ..)
  | «at» i => exact (cutP_sub ..).trans (List.sublist_append_right ..)
  | each => exact List.sublist_append_right ..
  | wh w p => exact List.filter_sublist.trans (List.sublist_append_right ..)
theorem kids_leaf {V : PV} (h : V ∈ leafs) : kids V = [] := by simp [kids, fldsOf, rowsOf, leaf_head h, enP]
theorem kids_row (xs : List PV) : kids (rowV xs) = enP xs := rfl
theorem kids_tree (kv : List (Str × PV)) : kids (treeV kv) = kv.map fldV := by
  have : kids (treeV kv) = kv.map fldV ++ [] := rfl
  rw [this, List.append_nil]
theorem kids_w {V : PV} (h : Val V) : wgts ((kids V).map sndV) ≤ wgt V := by
  cases h with
  | plain h => rw [kids_leaf h]; simp [wgts]
  | row h => rw [kids_row, enP_snd]; exact wgt_row _
  | tree _ _ _ => rw [kids_tree]; exact Nat.le_trans (wgts_fld _) (wgt_tree _)
theorem step_w (s : Stp) {V : PV} (h : Val V) : wgts ((s.c V).map sndV) ≤ wgt V :=
  Nat.le_trans (wgts_sub ((step_sub s V).map sndV)) (kids_w h)
theorem kid_of (s : Stp) {V t : PV} (h : Sm V) (ht : t ∈ s.c V) : ∃ m v, t = .tup [m, v] ∧ mk m ∧ Sm v := by
  replace ht := (step_sub s V).mem ht
  have hv := h.val
  cases hv with
  | plain h => rw [kids_leaf h] at ht; cases ht
  | row h2 =>
    rename_i xs
    rw [kids_row] at ht
    obtain ⟨i, x, rfl, hx, i0, i1⟩ := mem_enP ht
    have := wgts_len xs
    have := wgt_row xs
    have := h.w
    exact ⟨_, _, rfl, .inr ⟨i, rfl, i0, by omega⟩, h.row x hx⟩
  | tree h1 h2 h3 =>
    rw [kids_tree] at ht
    obtain ⟨q, hq, rfl⟩ := fld_mem ht
    exact ⟨_, _, rfl, .inl ⟨_, rfl, h2 q hq⟩, h.tree h3 q hq⟩
def fstV : PV → PV
  | .tup [m, _] => m
  | _ => .non
def mk1 (pl : List PV) (t : PV) : List PV × PV := (pl ++ [fstV t], sndV t)
abbrev encP (q : List PV × PV) : PV := .tup [.tup q.1, q.2]
/-- a step of all that came -/
def goS (c : PV → List PV) (F : List (List PV × PV)) : List (List PV × PV) := F.flatMap fun q => (c q.2).map (mk1 q.1)
def goA : List Stp → List (List PV × PV) → List (List PV × PV)
  | [], F => F
  | s :: ss, F => goA ss (goS s.c F)
structure okQ (n : Nat) (q : List PV × PV) : Prop where
  l : q.1.length = n
  m : ∀ m ∈ q.1, mk m
  s : Sm q.2
theorem goS_ok (s : Stp) {n : Nat} {F : List (List PV × PV)} (h : ∀ q ∈ F, okQ n q) : ∀ q ∈ goS s.c F, okQ (n + 1) q := by
  intro q hq
  obtain ⟨r, hr, hq⟩ := List.mem_flatMap.mp hq
  obtain ⟨t, ht, rfl⟩ := List.mem_map.mp hq
  obtain ⟨m, v, rfl, hm, hv⟩ := kid_of s (h r hr).s ht
  refine ⟨by simp [mk1, (h r hr).l], fun m' hm' => ?_, hv⟩
  rcases List.mem_append.mp hm' with hm' | hm'
  · exact (h r hr).m m' hm'
  · rw [List.mem_singleton.mp hm']; exact hm
def wF (F : List (List PV × PV)) : Nat := wgts (F.map (·.2))
theorem goS_w (s : Stp) {n : Nat} : ∀ {F : List (List PV × PV)}, (∀ q ∈ F, okQ n q) → wF (goS s.c F) ≤ wF F
  | [], _ => by simp [goS, wF]
  | q :: F, h => by
    have ih := goS_w s (F := F) fun r hr => h r (List.mem_cons_of_mem _ hr)
    have e : goS s.c (q :: F) = (s.c q.2).map (mk1 q.1) ++ goS s.c F := by simp [goS]
    have e2 : ((s.c q.2).map (mk1 q.1)).map (·.2) = (s.c q.2).map sndV := by rw [List.map_map]; rfl
    have := step_w s (h q (List.mem_cons_self ..)).s.val
    rw [e]
    simp only [wF, List.map_append, wgts_app, e2, List.map_cons, wgts] at *
    omega
theorem wF_len (F : List (List PV × PV)) : F.length ≤ wF F := by
  have := wgts_len (F.map (·.2))
  simpa [wF] using this
theorem goA_ok : ∀ (ss : List Stp) {n : Nat} {F : List (List PV × PV)}, (∀ q ∈ F, okQ n q) → (∀ q ∈ goA ss F, okQ (n + ss.length) q) ∧ wF (goA ss F) ≤ wF F
  | [], n, F, h => ⟨h, Nat.le_refl _⟩
  | s :: ss, n, F, h => by
    have a := goA_ok ss (goS_ok s h)
    refine ⟨fun q hq => ?_, Nat.le_trans a.2 (goS_w s h)⟩
    have := a.1 q hq
    rw [List.length_cons]
    have e : n + (ss.length + 1) = n + 1 + ss.length := by omega
    rw [e]
    exact this
theorem place_w {ms : List PV} (h : ∀ m ∈ ms, mk m) : wgts ms ≤ 21 * ms.length := by
  induction ms with
  | nil => simp [wgts]
  | cons m ms ih =>
    have := (mk_fit (h m (List.mem_cons_self ..))).2.1
    have := ih fun m hm => h m (List.mem_cons_of_mem _ hm)
    simp only [wgts, List.length_cons]
    omega
theorem enc_w {n : Nat} : ∀ {F : List (List PV × PV)}, (∀ q ∈ F, okQ n q) → wgts (F.map encP) ≤ (21 * n + 4) * wF F
  | [], _ => by simp [wgts, wF]
  | q :: F, h => by
    have ih := enc_w (F := F) fun r hr => h r (List.mem_cons_of_mem _ hr)
    have hq := h q (List.mem_cons_self ..)
    have := place_w hq.m
    rw [hq.l] at this
    have e : wF (q :: F) = wgt q.2 + 1 + wF F := rfl
    rw [e]
    have e2 : (21 * n + 4) * (wgt q.2 + 1 + wF F) = (21 * n + 4) * (wgt q.2 + 1) + (21 * n + 4) * wF F := Nat.mul_add ..
    rw [e2]
    have e3 : 1 * (wgt q.2 + 1) ≤ (21 * n + 3) * (wgt q.2 + 1) := Nat.mul_le_mul_right _ (by omega)
    have e4 : (21 * n + 4) * (wgt q.2 + 1) = (21 * n + 4) * wgt q.2 + (21 * n + 4) := by rw [Nat.mul_add, Nat.mul_one]
    have e5 : 1 * wgt q.2 ≤ (21 * n + 4) * wgt q.2 := Nat.mul_le_mul_right _ (by omega)
    simp only [List.map_cons, wgts, wgt, encP]
    omega
theorem enc_fit {n : Nat} {q : List PV × PV} (h : okQ n q) : fitB (encP q) = true ∧ dep (encP q) ≤ 42 := by
  have h1 : fitBs q.1 = true := fits_of fun m hm => (mk_fit (h.m m hm)).1
  have h2 : deps q.1 ≤ 0 := deps_le fun m hm => by rw [(mk_fit (h.m m hm)).2.2]; exact Nat.le_refl _
  have := h.s.d
  refine ⟨by simp [fitB, fitBs, h1, h.s.val.fit], ?_⟩
  simp only [dep, deps]
  omega
theorem start_ok {V : PV} (h : Sm V) : ∀ q ∈ [(([] : List PV), V)], okQ 0 q := fun q hq => by
  rw [List.mem_singleton.mp hq]
  exact ⟨rfl, fun m hm => by (cases hm), h⟩
/-- all that is found -/
def foundA (ss : List Stp) (V : PV) : List (List PV × PV) := goA ss [([], V)]
theorem found_len {ss : List Stp} {V : PV} (h : Sm V) : (foundA ss V).length ≤ wgt V + 1 := by
  have := (goA_ok ss (start_ok h)).2
  have := wF_len (foundA ss V)
  unfold foundA at *
  simp only [wF, List.map_cons, List.map_nil, wgts] at *
  omega
theorem found_repr {ss : List Stp} {V : PV} (h : Sm V) (hw : wgt V ≤ 8000) (hs : ss.length ≤ 5) (G : GH) : bRepr [.tup ((foundA ss V).map encP)] G = .ok (.str (rep (.tup ((foundA ss V).map encP)))) G := by
  have a := goA_ok ss (start_ok h)
  have b := enc_w a.1
  have e : wF [(([] : List PV), V)] = wgt V + 1 := by simp [wF, wgts]
  refine repr_fit G ?_ ?_ ?_
  · simp only [fitB]
    exact fits_of fun p hp => by
      obtain ⟨q, hq, rfl⟩ := List.mem_map.mp hp
      exact (enc_fit (a.1 q hq)).1
  · simp only [wgt]
    have : (21 * (0 + ss.length) + 4) * wF (goA ss [([], V)]) ≤ 109 * 8001 := Nat.mul_le_mul (by omega) (by omega)
    unfold foundA
    omega
  · simp only [dep]
    have : deps ((foundA ss V).map encP) ≤ 42 := deps_le fun p hp => by
      obtain ⟨q, hq, rfl⟩ := List.mem_map.mp hp
      exact (enc_fit (a.1 q hq)).2
    omega
end EV
end
section
/-! M16: found_in, _law_found. -/
set_option Elab.async false
set_option linter.all false
set_option maxRecDepth 100000
namespace EV
open PySem PySem.Spec PyProof.Rows L2
@[simp] theorem bTup_lst {ps : List PV} {G : GH} : bTup [.lst ps] G = .ok (.tup ps) G := rfl
@[simp] theorem mYes_ap {ρ : Env} {G : GH} : mYes ρ G = .ok true G := rfl
@[simp] theorem opAdd_tt {a b : List PV} {G : GH} : opAdd [.tup a, .tup b] G = if a.length + b.length ≤ sizeLine then .ok (.tup (a ++ b)) G else .bad := rfl
theorem mComp2_ap {ms : Env → GH → Res Src} {tg : PV → Env → GH → Res Env} {tt : Env → GH → Res Bool} {ms1 : Env → GH → Res Src} {tg1 : PV → Env → GH → Res Env} {tt1 : Env → GH → Res Bool} {el : Env → GH → Res PV} {own vs1 : List Nat} {ρ : Env} {G : GH} :
    mComp2 false ms tg tt ms1 tg1 tt1 el own vs1 ρ G = (ms ρ G).bind fun S G1 => (loopO (comp2F tg tt ms1 tg1 tt1 el own vs1 ρ) S.gd 0 S.its G1).bind fun ys G5 => .ok (.lst ys) G5 := rfl
def encs (s : Stp) : PV → List PV
  | .tup [.tup pl, v] => (s.c v).map fun t => encP (mk1 pl t)
  | _ => []
theorem encs_all (s : Stp) : ∀ F : List (List PV × PV), (F.map encP).flatMap (encs s) = (goS s.c F).map encP
  | [] => rfl
  | q :: F => by
    have ih := encs_all s F
    have e : goS s.c (q :: F) = (s.c q.2).map (mk1 q.1) ++ goS s.c F := by simp [goS]
    rw [List.map_cons, List.flatMap_cons, ih, e, List.map_append, List.map_map]
    rfl
def elF : Env → GH → Res PV := mA (mCons (m2 (mVar 4) (mA (mCons (mVar 6) (mNil)) mkTup) opAdd) (mCons (mVar 7) (mNil))) mkTup
theorem in_loop {s : Stp} {pl : List PV} {V : PV} (hV : Sm V) (hl : pl.length ≤ 100) {G : GH} {k : Nat} (hk : k + (s.c V).length ≤ sizeLine) {v0 v1 v2 v3 v5 : Option PV} {ρ : Env} (hρ : ρ = [v0, v1, v2, v3, some (.tup pl), v5, none, none]) :
    loopI (compF (gTupE 2 (gConsE (gN 6) (gConsE (gN 7) (gNilE)))) mYes elF [6, 7] ρ) (fun _ => true) k (s.c V) G = .ok ((s.c V).map fun t => encP (mk1 pl t)) G := by
  rw [loopI_pure (h := fun t => some (encP (mk1 pl t))) rfl _ hk]
  · rw [fm_map]
  · intro t ht
    obtain ⟨m, v, rfl, hm, hv⟩ := kid_of s hV ht
    have z : pl.length + 1 ≤ 16777216 := by omega
    simp [compF, hρ, wipeE, elF, size_line, mk1, fstV, sndV, z]
theorem step_loop {f} (hf : SpCome f) {s : Stp} (hs : s.ok) {n : Nat} {F : List (List PV × PV)} (hF : ∀ q ∈ F, okQ n q) (hn : n ≤ 5) (hw : wF F ≤ 1000000) {G : GH} {v0 v1 : Option PV} {ρ : Env} (hρ : ρ = [v0, v1, some (.lst (F.map encP)), some s.pv, none, none, none, none]) :
    mComp2 false (mSeq (mVar 2)) (gTupE 2 (gConsE (gN 4) (gConsE (gN 5) (gNilE)))) (mYes) (mSeq (mA (mCons (mVar 3) (mCons (mVar 5) (mNil))) f)) (gTupE 2 (gConsE (gN 6) (gConsE (gN 7) (gNilE)))) (mYes) (mA (mCons (m2 (mVar 4) (mA (mCons (mVar 6) (mNil)) mkTup) opAdd) (mCons (mVar 7) (mNil))) mkTup) [4, 5, 6, 7] [6, 7] ρ G = .ok (.lst ((goS s.c F).map encP)) G := by
  have l : 0 + ((F.map encP).flatMap (encs s)).length ≤ sizeLine := by
    rw [encs_all, List.length_map, size_line]
    have := wF_len (goS s.c F)
    have := goS_w s hF
    omega
  have e := loopO_pure (hh := comp2F (gTupE 2 (gConsE (gN 4) (gConsE (gN 5) (gNilE)))) (mYes) (mSeq (mA (mCons (mVar 3) (mCons (mVar 5) (mNil))) f)) (gTupE 2 (gConsE (gN 6) (gConsE (gN 7) (gNilE)))) (mYes) elF [4, 5, 6, 7] [6, 7] ρ) (g := encs s) (gd := fun _ => true) (G := G) rfl (xs := F.map encP) (k := 0) (fun x hx k hk => by
    obtain ⟨q, hq, rfl⟩ := List.mem_map.mp hx
    have hS := (hF q hq).s
    have e1 := hf s q.2 G hs hS
    have hl : q.1.length ≤ 100 := by rw [(hF q hq).l]; omega
    have e2 := in_loop (s := s) hS hl (G := G) (k := k) (v0 := v0) (v1 := v1) (v2 := some (.lst (F.map encP))) (v3 := some s.pv) (v5 := some q.2) (by simpa [encs] using hk) rfl
    simp [comp2F, hρ, wipeE, e1, e2, encs]) l
  rw [encs_all] at e
  rw [mComp2_ap]
  have e3 : ρ[2]? = some (some (.lst (F.map encP))) := by rw [hρ]; rfl
  simp only [mSeq_ap, mVar_ap, e3, Res.bind_ok, seqSrc_lst]
  have : (mA (mCons (m2 (mVar 4) (mA (mCons (mVar 6) (mNil)) mkTup) opAdd) (mCons (mVar 7) (mNil))) mkTup) = elF := rfl
  rw [this, e]
  rfl
theorem found_loop {f} (hf : SpCome f) {G : GH} {v0 v1 : Option PV} : ∀ (ss : List Stp) (n : Nat) (F : List (List PV × PV)) (x3 : Option PV), (∀ s ∈ ss, s.ok) → (∀ q ∈ F, okQ n q) → n + ss.length ≤ 5 → wF F ≤ 1000000 →
    ∃ x3', loopF (forStep (gN 3) (sSeq (sAsg (mComp2 false (mSeq (mVar 2)) (gTupE 2 (gConsE (gN 4) (gConsE (gN 5) (gNilE)))) (mYes) (mSeq (mA (mCons (mVar 3) (mCons (mVar 5) (mNil))) f)) (gTupE 2 (gConsE (gN 6) (gConsE (gN 7) (gNilE)))) (mYes) (mA (mCons (m2 (mVar 4) (mA (mCons (mVar 6) (mNil)) mkTup) opAdd) (mCons (mVar 7) (mNil))) mkTup) [4, 5, 6, 7] [6, 7]) (gN 2)) (sNext))) (fun _ => true) (ss.map Stp.pv) [v0, v1, some (.lst (F.map encP)), x3, none, none, none, none] G
      = .ok (.next [v0, v1, some (.lst ((goA ss F).map encP)), x3', none, none, none, none]) G
  | [], n, F, x3, _, _, _, _ => ⟨x3, loopF_nil rfl⟩
  | s :: ss, n, F, x3, h1, h2, h3, h4 => by
    rw [List.length_cons] at h3
    have hs := h1 s (List.mem_cons_self ..)
    obtain ⟨x3', e⟩ := found_loop hf (G := G) (v0 := v0) (v1 := v1) ss (n + 1) (goS s.c F) (some s.pv) (fun t ht => h1 t (List.mem_cons_of_mem _ ht)) (goS_ok s h2) (by omega) (Nat.le_trans (goS_w s h2) h4)
    refine ⟨x3', ?_⟩
    rw [List.map_cons]
    have e0 := step_loop hf hs h2 (by omega) h4 (G := G) (v0 := v0) (v1 := v1) rfl
    exact (loopF_next (f := forStep _ _) rfl (by simp [forStep_ap, e0])).trans e
def SpFound (f : List PV → GH → Res PV) : Prop := ∀ (ss : List Stp) V G, (∀ s ∈ ss, s.ok) → ss.length ≤ 5 → Sm V → f [V, .tup (ss.map Stp.pv)] G = .ok (.tup ((foundA ss V).map encP)) G
theorem found_sp {f} (hf : SpCome f) : SpFound (defV 2 GN.N_found_in (GN.b_found_in f)) := by
  intro ss V G h1 h2 hV
  have hw : wF [(([] : List PV), V)] ≤ 1000000 := by
    have := hV.w
    simp only [wF, List.map_cons, List.map_nil, wgts]; omega
  obtain ⟨x3, e⟩ := found_loop hf (G := G) (v0 := some V) (v1 := some (.tup (ss.map Stp.pv))) ss 0 [([], V)] none h1 (start_ok hV) (by omega) hw
  have e2 : ([(([] : List PV), V)].map encP) = [.tup [.tup [], V]] := rfl
  rw [e2] at e
  simp [defV, GN.b_found_in, GN.N_found_in, env0, size_line, e, foundA, trim_same]
end EV
end
section
/-! M17: _law_found. -/
set_option Elab.async false
set_option linter.all false
set_option maxRecDepth 100000
namespace EV
open PySem PySem.Spec PyProof.Rows L2
/-- a list to go through, whatever the last object is -/
def Srcs (x : PV) (L : List PV) (T : GH) : Prop := ∃ gd, (∀ X, seqSrc x (T ++ [X]) = .ok ⟨L, gd⟩ (T ++ [X])) ∧ ∀ X, gd (T ++ [X]) = true
theorem srcs_lst (L : List PV) (T : GH) : Srcs (.lst L) L T := ⟨fun _ => true, fun _ => rfl, fun _ => rfl⟩
theorem srcs_obj {k : Nat} {L : List PV} {T : GH} (h : T[k]? = some (.lst L)) : Srcs (.obj k) L T := by
  have hk : k < T.length := (List.getElem?_eq_some_iff.mp h).1
  have e : ∀ X, (T ++ [X])[k]? = some (.lst L) := fun X => by rw [List.getElem?_append_left hk]; exact h
  exact ⟨isLstAt k L, fun X => by simp only [seqSrc, e X], fun X => by simp [isLstAt, e X, PV.sames_self]⟩
theorem ext_last {T : GH} {a b : List PV} (h : a.length + b.length ≤ 1000000) : fExtend (.obj T.length) [.lst b] (T ++ [.lst a]) = .ok .non (T ++ [.lst (a ++ b)]) := by
  simp only [fExtend, get_last, asX]
  rw [if_pos (by rw [size_line]; omega), set_last]
theorem ty_last {T : GH} {a : List PV} : tyP (T ++ [.lst a]) (.obj T.length) = some "list" := by simp [tyP]
def elL : Env → GH → Res PV := mA (mCons (m2 (mVar 5) (mA (mCons (mVar 7) (mNil)) mkTup) opAdd) (mCons (mVar 8) (mNil))) mkTup
theorem inL_loop {s : Stp} {pl : List PV} {V : PV} (hV : Sm V) (hl : pl.length ≤ 100) {G : GH} {v0 v1 v2 v3 v4 v6 : Option PV} {ρ : Env} (hρ : ρ = [v0, v1, v2, v3, v4, some (.tup pl), v6, none, none]) :
    loopC (compF (gTupE 2 (gConsE (gN 7) (gConsE (gN 8) (gNilE)))) mYes elL [7, 8] ρ) (fun _ => true) (s.c V) G = .ok ((s.c V).map fun t => encP (mk1 pl t)) G := by
  rw [loop_pure (h := fun t => some (encP (mk1 pl t))) rfl]
  · rw [fm_map]
  · intro t ht
    obtain ⟨m, v, rfl, hm, hv⟩ := kid_of s hV ht
    have z : pl.length + 1 ≤ 16777216 := by omega
    simp [compF, hρ, wipeE, elL, size_line, mk1, fstV, sndV, z]
def bodyL (f : List PV → GH → Res PV) : Env → GH → Res Fl := sSeq (sDrop (mMet "list" (mVar 4) (mCons (mComp false (mSeq (mA (mCons (mVar 6) (mCons (mVar 3) (mNil))) f)) (gTupE 2 (gConsE (gN 7) (gConsE (gN 8) (gNilE)))) (mYes) elL [7, 8]) (mNil)) fExtend)) (sNext)
theorem inner_loop {f} (hf : SpComeL f) {s : Stp} (hs : s.ok) {T : GH} {gd : GH → Bool} (hg : ∀ X, gd (T ++ [X]) = true) {v0 v1 v2 : Option PV} : ∀ (F : List (List PV × PV)) (acc : List PV) (n : Nat) (v5 v6 : Option PV), (∀ q ∈ F, okQ n q) → n ≤ 5 → acc.length + wF F ≤ 1000000 →
    ∃ v5' v6', loopF (forStep (gTupE 2 (gConsE (gN 5) (gConsE (gN 6) (gNilE)))) (bodyL f)) gd (F.map encP) [v0, v1, v2, some s.pv, some (.obj T.length), v5, v6, none, none] (T ++ [.lst acc])
      = .ok (.next [v0, v1, v2, some s.pv, some (.obj T.length), v5', v6', none, none]) (T ++ [.lst (acc ++ (goS s.c F).map encP)])
  | [], acc, n, v5, v6, _, _, _ => ⟨v5, v6, by
    have : goS s.c [] = [] := rfl
    rw [this, List.map_nil, List.append_nil]
    exact loopF_nil (hg _)⟩
  | q :: F, acc, n, v5, v6, h, hn, hw => by
    have hq := h q (List.mem_cons_self ..)
    have hl : q.1.length ≤ 100 := by rw [hq.l]; omega
    have e1 := hf s q.2 (T ++ [.lst acc]) hs hq.s
    have e2 := inL_loop (s := s) hq.s hl (G := T ++ [.lst acc]) (v0 := v0) (v1 := v1) (v2 := v2) (v3 := some s.pv) (v4 := some (.obj T.length)) (v6 := some q.2) rfl
    have w1 : (s.c q.2).length ≤ wgt q.2 := by
      have := step_w s hq.s.val
      have := wgts_len ((s.c q.2).map sndV)
      rw [List.length_map] at this
      omega
    have w2 : wF (q :: F) = wgt q.2 + 1 + wF F := rfl
    rw [w2] at hw
    have e3 := ext_last (T := T) (a := acc) (b := (s.c q.2).map fun t => encP (mk1 q.1 t)) (by rw [List.length_map]; omega)
    have eg : goS s.c (q :: F) = (s.c q.2).map (mk1 q.1) ++ goS s.c F := by simp [goS]
    obtain ⟨v5', v6', e⟩ := inner_loop hf hs hg (v0 := v0) (v1 := v1) (v2 := v2) F (acc ++ (s.c q.2).map fun t => encP (mk1 q.1 t)) n (some (.tup q.1)) (some q.2) (fun r hr => h r (List.mem_cons_of_mem _ hr)) hn (by rw [List.length_append, List.length_map]; omega)
    refine ⟨v5', v6', ?_⟩
    rw [List.map_cons]
    refine (loopF_next (f := forStep _ _) (hg _) (ρ1 := [v0, v1, v2, some s.pv, some (.obj T.length), some (.tup q.1), some q.2, none, none]) (G1 := T ++ [.lst (acc ++ (s.c q.2).map fun t => encP (mk1 q.1 t))]) ?_).trans ?_
    · simp [forStep_ap, bodyL, mMet, ty_last, mComp_ap, e1, e2, e3]
    · rw [e, eg, List.map_append, List.map_map, List.append_assoc]; rfl
theorem foundL_loop {f} (hf : SpComeL f) {v0 v1 : Option PV} : ∀ (ss : List Stp) (n : Nat) (F : List (List PV × PV)) (x : PV) (T : GH) (v3 v4 v5 v6 : Option PV), Srcs x (F.map encP) T → (∀ s ∈ ss, s.ok) → (∀ q ∈ F, okQ n q) → n + ss.length ≤ 5 → wF F ≤ 1000000 → ss ≠ [] →
    ∃ v3' v4' v5' v6' S, loopF (forStep (gN 3) (sSeq (sAsg (mA (mNil) mkObj) (gN 4)) (sSeq (sFor (mSeq (mVar 2)) (gTupE 2 (gConsE (gN 5) (gConsE (gN 6) (gNilE)))) (bodyL f)) (sSeq (sAsg (mVar 4) (gN 2)) (sNext))))) (fun _ => true) (ss.map Stp.pv) [v0, v1, some x, v3, v4, v5, v6, none, none] T
      = .ok (.next [v0, v1, some (.obj (T ++ S).length), v3', v4', v5', v6', none, none]) (T ++ S ++ [.lst ((goA ss F).map encP)])
  | [], _, _, _, _, _, _, _, _, _, _, _, _, _, h => absurd rfl h
  | s :: ss, n, F, x, T, v3, v4, v5, v6, hx, h1, h2, h3, h4, _ => by
    rw [List.length_cons] at h3
    have hs := h1 s (List.mem_cons_self ..)
    obtain ⟨gd, hx1, hx2⟩ := hx
    obtain ⟨u5, u6, e1⟩ := inner_loop hf hs hx2 (v0 := v0) (v1 := v1) (v2 := some x) F [] n v5 v6 h2 (by omega) (by simpa using h4)
    rw [List.nil_append] at e1
    have e2 : loopF (forStep (gN 3) (sSeq (sAsg (mA (mNil) mkObj) (gN 4)) (sSeq (sFor (mSeq (mVar 2)) (gTupE 2 (gConsE (gN 5) (gConsE (gN 6) (gNilE)))) (bodyL f)) (sSeq (sAsg (mVar 4) (gN 2)) (sNext))))) (fun _ => true) ((s :: ss).map Stp.pv) [v0, v1, some x, v3, v4, v5, v6, none, none] T =
        loopF (forStep (gN 3) (sSeq (sAsg (mA (mNil) mkObj) (gN 4)) (sSeq (sFor (mSeq (mVar 2)) (gTupE 2 (gConsE (gN 5) (gConsE (gN 6) (gNilE)))) (bodyL f)) (sSeq (sAsg (mVar 4) (gN 2)) (sNext))))) (fun _ => true) (ss.map Stp.pv) [v0, v1, some (.obj T.length), some s.pv, some (.obj T.length), u5, u6, none, none] (T ++ [.lst ((goS s.c F).map encP)]) := by
      rw [List.map_cons]
      exact loopF_next (f := forStep _ _) rfl (by simp [forStep_ap, size_line, hx1, e1])
    rw [e2]
    by_cases hss : ss = []
    · subst hss
      refine ⟨some s.pv, some (.obj T.length), u5, u6, [], ?_⟩
      rw [List.append_nil]
      exact loopF_nil rfl
    · obtain ⟨v3', v4', v5', v6', S, e⟩ := foundL_loop hf (v0 := v0) (v1 := v1) ss (n + 1) (goS s.c F) (.obj T.length) (T ++ [.lst ((goS s.c F).map encP)]) (some s.pv) (some (.obj T.length)) u5 u6 (srcs_obj get_last) (fun t ht => h1 t (List.mem_cons_of_mem _ ht)) (goS_ok s h2) (by omega) (Nat.le_trans (goS_w s h2) h4) hss
      refine ⟨v3', v4', v5', v6', [.lst ((goS s.c F).map encP)] ++ S, ?_⟩
      rw [e]
      have : T ++ ([GO.lst ((goS s.c F).map encP)] ++ S) = T ++ [GO.lst ((goS s.c F).map encP)] ++ S := (List.append_assoc ..).symm
      rw [this]
      rfl
def SpFoundL (f : List PV → GH → Res PV) : Prop := ∀ (ss : List Stp) V G, (∀ s ∈ ss, s.ok) → ss.length ≤ 5 → ss ≠ [] → Sm V → ∃ S, f [V, .tup (ss.map Stp.pv)] G = .ok (.obj (G ++ S).length) (G ++ S ++ [.lst ((foundA ss V).map encP)])
theorem trim_new {G : GH} {n : Nat} {T : GH} (h : G.length ≤ n) : trimR G (.ok (.obj n) T) = .ok (.obj n) T := by
  simp only [trimR]
  rw [if_neg]
  rintro ⟨h1, _⟩
  simp only [Bool.and_eq_true, PV.refsB, decide_eq_true_eq] at h1
  omega
theorem foundL_sp {f} (hf : SpComeL f) : SpFoundL (defV 2 GN.N__law_found (GN.b__law_found f)) := by
  intro ss V G h1 h2 hne hV
  have hw : wF [(([] : List PV), V)] ≤ 1000000 := by
    have := hV.w
    simp only [wF, List.map_cons, List.map_nil, wgts]; omega
  obtain ⟨v3, v4, v5, v6, S, e⟩ := foundL_loop hf (v0 := some V) (v1 := some (.tup (ss.map Stp.pv))) ss 0 [([], V)] (.lst [.tup [.tup [], V]]) G none none none none (srcs_lst _ _) h1 (start_ok hV) (by omega) hw hne
  refine ⟨S, ?_⟩
  have t := trim_new (G := G) (n := (G ++ S).length) (T := G ++ S ++ [.lst ((foundA ss V).map encP)]) (by simp)
  have ef : (sSeq (sDrop (mMet "list" (mVar 4) (mCons (mComp false (mSeq (mA (mCons (mVar 6) (mCons (mVar 3) (mNil))) f)) (gTupE 2 (gConsE (gN 7) (gConsE (gN 8) (gNilE)))) (mYes) (mA (mCons (m2 (mVar 5) (mA (mCons (mVar 7) (mNil)) mkTup) opAdd) (mCons (mVar 8) (mNil))) mkTup) [7, 8]) (mNil)) fExtend)) (sNext)) = bodyL f := rfl
  simp only [defV, GN.b__law_found, ef]
  simp only [foundA] at t ⊢
  simp only [List.length_append, List.append_assoc] at t e ⊢
  simp [GN.N__law_found, env0, size_line, e, t]
end EV
end
section
/-! M18: value_at, _law_at. -/
set_option Elab.async false
set_option linter.all false
set_option maxRecDepth 100000
namespace EV
open PySem PySem.Spec PyProof.Rows L2
theorem eqv_nilL : ∀ ps : List PV, PyData.eqv (.list (dOfs ps)) (.list []) = decide (ps = [])
  | [] => by simp [dOfs, PyData.eqv, PyData.eqvAll]
  | p :: ps => by simp [dOfs, PyData.eqv, PyData.eqvAll]
theorem eqv_nilT : ∀ ps : List PV, PyData.eqv (.tuple (dOfs ps)) (.tuple []) = decide (ps = [])
  | [] => by simp [dOfs, PyData.eqv, PyData.eqvAll]
  | p :: ps => by simp [dOfs, PyData.eqv, PyData.eqvAll]
theorem eqP_nilL {ps : List PV} (G : GH) (h : fitBs ps = true) (d : deps ps ≤ 60) : eqP G (.lst ps) (.lst []) = some (decide (ps = [])) := by
  have q := fits_lay h
  simp only [eqP, scalP, toDG, toD, toDs_dat (dats_of_fit h), toDs, Option.map_some, eqD]
  have h1 : SeqAt.shaped (.list (dOfs ps)) = true := by
    simp only [SeqAt.shaped, PyData.canLay0, PyData.depth, q.1, Bool.true_and]; apply decide_eq_true; omega
  have h2 : SeqAt.shaped (.list []) = true := by decide
  rw [if_pos ⟨h1, h2⟩, eqv_nilL]
theorem eqP_nilT {ps : List PV} (G : GH) (h : fitBs ps = true) (d : deps ps ≤ 60) : eqP G (.tup ps) (.tup []) = some (decide (ps = [])) := by
  have q := fits_lay h
  simp only [eqP, scalP, toDG, toD, toDs_dat (dats_of_fit h), toDs, Option.map_some, eqD]
  have h1 : SeqAt.shaped (.tuple (dOfs ps)) = true := by
    simp only [SeqAt.shaped, PyData.canLay0, PyData.depth, q.1, Bool.true_and]; apply decide_eq_true; omega
  have h2 : SeqAt.shaped (.tuple []) = true := by decide
  rw [if_pos ⟨h1, h2⟩, eqv_nilT]
theorem eq_nilL {ps : List PV} {G : GH} (h : fitBs ps = true) (d : deps ps ≤ 60) : Cop.eq.f [.lst ps, .lst []] G = .ok (.bl (decide (ps = []))) G := by
  simp only [Cop.f, opEq, opEqN, eqP_nilL G h d]; rfl
theorem ne_nilL {ps : List PV} {G : GH} (h : fitBs ps = true) (d : deps ps ≤ 60) : Cop.ne.f [.lst ps, .lst []] G = .ok (.bl (!decide (ps = []))) G := by
  simp only [Cop.f, opNe, opEqN, eqP_nilL G h d]; rfl
theorem eq_nilT {ps : List PV} {G : GH} (h : fitBs ps = true) (d : deps ps ≤ 60) : Cop.eq.f [.tup ps, .tup []] G = .ok (.bl (decide (ps = []))) G := by
  simp only [Cop.f, opEq, opEqN, eqP_nilT G h d]; rfl
theorem ne_nilT {ps : List PV} {G : GH} (h : fitBs ps = true) (d : deps ps ≤ 60) : Cop.ne.f [.tup ps, .tup []] G = .ok (.bl (!decide (ps = []))) G := by
  simp only [Cop.f, opNe, opEqN, eqP_nilT G h d]; rfl
/-- markers handed in: words, numbers -/
def anyM : PV → Bool
  | .str _ => true
  | .int _ => true
  | _ => false
def stpOf : PV → Stp
  | .str w => .field w
  | .int i => .at i
  | _ => .each
theorem stpOf_ok (m : PV) : (stpOf m).ok := by cases m <;> trivial
def atGo : List PV → PV → Option PV
  | [], V => some V
  | m :: ms, V => match (stpOf m).c V with
    | [] => none
    | t :: _ => atGo ms (sndV t)
theorem any_dat {m : PV} (h : anyM m = true) : datB m = true := by cases m <;> first | rfl | cases h
theorem any_str {m : PV} (h : anyM m = true) : (if isStr m = true then (.tup [.str "field", m] : PV) else .tup [.str "at", m]) = (stpOf m).pv := by
  cases m <;> first | rfl | cases h
theorem sm_kid {s : Stp} {V t : PV} {ts : List PV} (h : Sm V) (e : s.c V = t :: ts) : ∃ m, t = .tup [m, sndV t] ∧ Sm (sndV t) := by
  obtain ⟨m, v, rfl, _, hv⟩ := kid_of s h (t := t) (by rw [e]; exact List.mem_cons_self ..)
  exact ⟨m, rfl, hv⟩
theorem atGo_sm : ∀ {ms : List PV} {V v : PV}, Sm V → atGo ms V = some v → Sm v
  | [], V, v, h, e => by cases e; exact h
  | m :: ms, V, v, h, e => by
    simp only [atGo] at e
    split at e
    · cases e
    · rename_i t ts ec
      obtain ⟨_, _, hs⟩ := sm_kid h ec
      exact atGo_sm hs e
def bodyA (f : List PV → GH → Res PV) : Env → GH → Res Fl := (sSeq (sAsg (mIf (mT (m1 (mVar 2) (bIsi "str"))) (mA (mCons (mCst (.str "field")) (mCons (mVar 2) (mNil))) mkTup) (mA (mCons (mCst (.str "at")) (mCons (mVar 2) (mNil))) mkTup)) (gN 3)) (sSeq (sAsg (mA (mCons (mVar 3) (mCons (mVar 0) (mNil))) f) (gN 4)) (sSeq (sIf (mB (m2 (mA (mCons (mVar 4) (mNil)) bLen) (mCst (.int 0)) (Cop.f .eq))) (sSeq (sRet (mCst .non)) (sNext)) (sNext)) (sSeq (sAsg (m2 (m2 (mVar 4) (mCst (.int 0)) opIx) (mCst (.int 1)) opIx) (gN 0)) (sNext)))))
theorem loopF_ret {f : PV → Env → GH → Res Fl} {gd : GH → Bool} {x p : PV} {xs : List PV} {ρ : Env} {G G1 : GH} (hg : gd G = true) (h : f x ρ G = .ok (.ret p) G1) : loopF f gd (x :: xs) ρ G = .ok (.ret p) G1 := by
  simp only [loopF, if_pos hg, h, Res.bind_ok]
theorem at_loop {f} (hf : SpCome f) {G : GH} {v1 : Option PV} : ∀ (ms : List PV) (V : PV) (v2 v3 v4 : Option PV), (∀ m ∈ ms, anyM m = true) → Sm V →
    (∀ v, atGo ms V = some v → ∃ v2' v3' v4', loopF (forStep (gN 2) (bodyA f)) (fun _ => true) ms [some V, v1, v2, v3, v4] G = .ok (.next [some v, v1, v2', v3', v4']) G) ∧
    (atGo ms V = none → loopF (forStep (gN 2) (bodyA f)) (fun _ => true) ms [some V, v1, v2, v3, v4] G = .ok (.ret .non) G)
  | [], V, v2, v3, v4, _, _ => ⟨fun v h => by cases h; exact ⟨v2, v3, v4, loopF_nil rfl⟩, fun h => by cases h⟩
  | m :: ms, V, v2, v3, v4, hm, hV => by
    have h1 := hm m (List.mem_cons_self ..)
    have i1 := isi_str (G := G) (any_dat h1)
    have a1 := any_str h1
    have e1 := hf (stpOf m) V G (stpOf_ok m) hV
    cases ec : (stpOf m).c V with
    | nil =>
      rw [ec] at e1
      have e0 : atGo (m :: ms) V = none := by simp only [atGo, ec]
      rw [e0]
      refine ⟨fun v h => by (cases h), fun _ => loopF_ret (f := forStep _ _) rfl ?_⟩
      cases hs : isStr m <;> (rw [hs] at i1 a1; simp only [Bool.false_eq_true, if_false, if_true] at a1; rw [← a1] at e1; simp [forStep_ap, bodyA, i1, size_line, e1])
    | cons t ts =>
      rw [ec] at e1
      obtain ⟨k, et, hs2⟩ := sm_kid hV ec
      have e0 : atGo (m :: ms) V = atGo ms (sndV t) := by simp only [atGo, ec]
      have ih := at_loop hf (G := G) (v1 := v1) ms (sndV t) (some m) (some (stpOf m).pv) (some (.lst (t :: ts))) (fun x hx => hm x (List.mem_cons_of_mem _ hx)) hs2
      have st : forStep (gN 2) (bodyA f) m [some V, v1, v2, v3, v4] G = .ok (.next [some (sndV t), v1, some m, some (stpOf m).pv, some (.lst (t :: ts))]) G := by
        rw [et] at e1 ⊢
        have es : sndV (.tup [k, sndV t]) = sndV t := rfl
        have ln : ¬ ((ts.length : Int) + 1 = 0) := by omega
        cases hs : isStr m <;> (rw [hs] at i1 a1; simp only [Bool.false_eq_true, if_false, if_true] at a1; rw [← a1] at e1 ⊢; simp [forStep_ap, bodyA, i1, size_line, e1, es, ln])
      rw [e0, loopF_next (f := forStep _ _) (xs := ms) rfl st]
      exact ih
def SpAt (f : List PV → GH → Res PV) : Prop := ∀ (ms : List PV) V G, (∀ m ∈ ms, anyM m = true) → Sm V → f [V, .tup ms] G = .ok ((atGo ms V).getD .non) G
theorem at_sp {f} (hf : SpCome f) : SpAt (defV 2 GN.N_value_at (GN.b_value_at f)) := by
  intro ms V G hm hV
  have e := at_loop hf (G := G) (v1 := some (.tup ms)) ms V none none none hm hV
  have ef : GN.b_value_at f = sSeq (sFor (mSeq (mVar 1)) (gN 2) (bodyA f)) (sSeq (sRet (mVar 0)) (sNext)) := rfl
  cases hg : atGo ms V with
  | none =>
    have e2 := e.2 hg
    simp [defV, ef, GN.N_value_at, env0, e2, trim_same]
  | some v =>
    obtain ⟨x2, x3, x4, e2⟩ := e.1 v hg
    simp [defV, ef, GN.N_value_at, env0, e2, trim_same]
def bodyB (f : List PV → GH → Res PV) : Env → GH → Res Fl := (sSeq (sAsg (mIf (mT (m1 (mVar 3) (bIsi "str"))) (mA (mCons (mCst (.str "field")) (mCons (mVar 3) (mNil))) mkTup) (mA (mCons (mCst (.str "at")) (mCons (mVar 3) (mNil))) mkTup)) (gN 4)) (sSeq (sAsg (mComp false (mSeq (mA (mCons (m2 (mVar 2) (mCst (.int 0)) opIx) (mCons (mVar 4) (mNil))) f)) (gN 5) (mYes) (m2 (mVar 5) (mCst (.int 1)) opIx) [5]) (gN 2)) (sSeq (sIf (mB (m2 (mVar 2) (mA (mNil) mkLst) (Cop.f .eq))) (sSeq (sRet (mA (mNil) mkLst)) (sNext)) (sNext)) (sNext))))
theorem snd_loop {s : Stp} {V : PV} (hV : Sm V) {G : GH} {ρ : Env} (hρ : ∀ i, ((wipeE ρ [5]).set 5 i)[5]? = some i) :
    loopC (compF (gN 5) (mYes) (m2 (mVar 5) (mCst (.int 1)) opIx) [5] ρ) (fun _ => true) (s.c V) G = .ok ((s.c V).map sndV) G := by
  rw [loop_pure (h := fun t => some (sndV t)) rfl]
  · rw [fm_map]
  · intro t ht
    obtain ⟨m, v, rfl, hm, hv⟩ := kid_of s hV ht
    simp [compF, hρ, sndV]
theorem snd_fit (s : Stp) {V : PV} (hV : Sm V) : fitBs ((s.c V).map sndV) = true ∧ deps ((s.c V).map sndV) ≤ 60 := by
  have h : ∀ p ∈ (s.c V).map sndV, Sm p := fun p hp => by
    obtain ⟨t, ht, rfl⟩ := List.mem_map.mp hp
    obtain ⟨m, v, rfl, _, hv⟩ := kid_of s hV ht
    exact hv
  exact ⟨fits_of fun p hp => (h p hp).val.fit, deps_le fun p hp => by have := (h p hp).d; omega⟩
theorem atL_loop {f} (hf : SpComeL f) {G : GH} {v0 v1 : Option PV} : ∀ (ms : List PV) (V : PV) (rest : List PV) (v3 v4 : Option PV), (∀ m ∈ ms, anyM m = true) → Sm V → rest.length ≤ 100000 →
    (∀ v, atGo ms V = some v → ∃ rest' v3' v4', rest'.length ≤ 100000 ∧ loopF (forStep (gN 3) (bodyB f)) (fun _ => true) ms [v0, v1, some (.lst (V :: rest)), v3, v4, none] G = .ok (.next [v0, v1, some (.lst (v :: rest')), v3', v4', none]) G) ∧
    (atGo ms V = none → loopF (forStep (gN 3) (bodyB f)) (fun _ => true) ms [v0, v1, some (.lst (V :: rest)), v3, v4, none] G = .ok (.ret (.lst [])) G)
  | [], V, rest, v3, v4, _, _, hr => ⟨fun v h => by cases h; exact ⟨rest, v3, v4, hr, loopF_nil rfl⟩, fun h => by cases h⟩
  | m :: ms, V, rest, v3, v4, hm, hV, hr => by
    have h1 := hm m (List.mem_cons_self ..)
    have i1 := isi_str (G := G) (any_dat h1)
    have a1 := any_str h1
    have e1 := hf (stpOf m) V G (stpOf_ok m) hV
    have l1 := snd_loop (s := stpOf m) hV (G := G) (ρ := [v0, v1, some (.lst (V :: rest)), some m, some (stpOf m).pv, none]) (fun i => rfl)
    have fb := snd_fit (stpOf m) hV
    have q1 := eq_nilL (G := G) fb.1 fb.2
    cases ec : (stpOf m).c V with
    | nil =>
      rw [ec] at e1 l1 q1
      have e0 : atGo (m :: ms) V = none := by simp only [atGo, ec]
      rw [e0]
      refine ⟨fun v h => by (cases h), fun _ => loopF_ret (f := forStep _ _) rfl ?_⟩
      cases hs : isStr m <;> (rw [hs] at i1 a1; simp only [Bool.false_eq_true, if_false, if_true] at a1; rw [← a1] at e1 l1; simp only [List.map_nil] at l1 q1; simp [forStep_ap, bodyB, i1, size_line, e1, mComp_ap, l1, q1])
    | cons t ts =>
      rw [ec] at e1 l1 q1
      obtain ⟨k, et, hs2⟩ := sm_kid hV ec
      have e0 : atGo (m :: ms) V = atGo ms (sndV t) := by simp only [atGo, ec]
      have ih := atL_loop hf (G := G) (v0 := v0) (v1 := v1) ms (sndV t) (ts.map sndV) (some m) (some (stpOf m).pv) (fun x hx => hm x (List.mem_cons_of_mem _ hx)) hs2 (by
        have h1 := step_w (stpOf m) hV.val
        have h2 := wgts_len (((stpOf m).c V).map sndV)
        have h3 := hV.w
        rw [ec, List.map_cons, List.length_cons] at h2
        rw [ec, List.map_cons] at h1
        omega)
      have st : forStep (gN 3) (bodyB f) m [v0, v1, some (.lst (V :: rest)), v3, v4, none] G = .ok (.next [v0, v1, some (.lst (sndV t :: ts.map sndV)), some m, some (stpOf m).pv, none]) G := by
        cases hs : isStr m <;> (rw [hs] at i1 a1; simp only [Bool.false_eq_true, if_false, if_true] at a1; rw [← a1] at e1 l1 ⊢; simp only [List.map_cons] at l1 q1; simp [forStep_ap, bodyB, i1, size_line, e1, mComp_ap, l1, q1])
      rw [e0, loopF_next (f := forStep _ _) (xs := ms) rfl st]
      exact ih
def SpAtL (f : List PV → GH → Res PV) : Prop := ∀ (ms : List PV) V G, (∀ m ∈ ms, anyM m = true) → Sm V → ∃ rest, f [V, .tup ms] G = .ok (.lst ((atGo ms V).toList ++ rest)) G ∧ (atGo ms V = none → rest = []) ∧ rest.length ≤ 100000
theorem atL_sp {f} (hf : SpComeL f) : SpAtL (defV 2 GN.N__law_at (GN.b__law_at f)) := by
  intro ms V G hm hV
  have e := atL_loop hf (G := G) (v0 := some V) (v1 := some (.tup ms)) ms V [] none none hm hV (by simp)
  have ef : GN.b__law_at f = sSeq (sAsg (mA (mCons (mVar 0) (mNil)) mkLst) (gN 2)) (sSeq (sFor (mSeq (mVar 1)) (gN 3) (bodyB f)) (sSeq (sRet (mVar 2)) (sNext))) := rfl
  cases hg : atGo ms V with
  | none =>
    have e2 := e.2 hg
    refine ⟨[], ?_, fun _ => rfl, by simp⟩
    simp [defV, ef, GN.N__law_at, env0, e2, trim_same, size_line]
  | some v =>
    obtain ⟨rest, x3, x4, hr, e2⟩ := e.1 v hg
    refine ⟨rest, ?_, (fun h => by cases h), hr⟩
    simp [defV, ef, GN.N__law_at, env0, e2, trim_same, size_line]
end EV
end
section
/-! M19: places, steps. -/
set_option Elab.async false
set_option linter.all false
set_option maxRecDepth 100000
namespace EV
open PySem PySem.Spec PyProof.Rows L2
theorem app_end {R : GH} {o : GO} {vs : List PV} {y : PV} (h : vs.length ≤ 1000) : fAppend (.obj (R.length + 1)) [y] (o :: (R ++ [.lst vs])) = .ok .non (o :: (R ++ [.lst (vs ++ [y])])) := by
  have e : (o :: (R ++ [GO.lst vs]))[R.length + 1]? = some (.lst vs) := by simp
  simp only [fAppend, e]
  rw [if_pos (by rw [size_line]; omega)]
  simp [List.set_append]
theorem ty_end {R : GH} {o : GO} {vs : List PV} : tyP (o :: (R ++ [.lst vs])) (.obj (R.length + 1)) = some "list" := by simp [tyP]
theorem mk_any {m : PV} (h : mk m) : anyM m = true := by
  rcases h with ⟨w, rfl, _⟩ | ⟨i, rfl, _, _⟩ <;> rfl
theorem any_cut {ms : List PV} {a b : Option Int} (h : ∀ m ∈ ms, anyM m = true) : ∀ m ∈ cutP ms a b, anyM m = true := fun m hm => h m ((cutP_sub ms a b).mem hm)
theorem any_app {ms ns : List PV} (h : ∀ m ∈ ms, anyM m = true) (h2 : ∀ m ∈ ns, anyM m = true) : ∀ m ∈ ms ++ ns, anyM m = true := fun m hm => by
  rcases List.mem_append.mp hm with hm | hm
  · exact h m hm
  · exact h2 m hm
theorem cut_len (ms : List PV) (a b : Option Int) : (cutP ms a b).length ≤ ms.length := (cutP_sub ms a b).length_le
def bodyC : Env → GH → Res Fl := (sSeq (sDrop (mMet "list" (mVar 2) (mCons (m2 (m2 (mSl (mVar 1) (mNoPart) (mPart (mVar 3)) opSl) (mA (mCons (mVar 4) (mNil)) mkTup) opAdd) (mSl (mVar 1) (mPart (m2 (mVar 3) (mCst (.int 1)) opAdd)) (mNoPart) opSl) opAdd) (mNil)) fAppend)) (sNext))
theorem places_loop {ms : List PV} (hm : ∀ m ∈ ms, anyM m = true) (hl : ms.length ≤ 100) {o : GO} {R : GH} {at_ : Int} : ∀ (xs : List PV) (Ps : List (List PV)) (x4 : Option PV), (∀ x ∈ xs, anyM x = true) → (∀ P ∈ Ps, ∀ m ∈ P, anyM m = true) → Ps.length + xs.length ≤ 100 →
    ∃ (Qs : List (List PV)) (x4' : Option PV), (∀ P ∈ Qs, ∀ m ∈ P, anyM m = true) ∧ loopF (forStep (gN 4) bodyC) (fun _ => true) xs [some (.obj 0), some (.tup ms), some (.obj (R.length + 1)), some (.int at_), x4] (o :: (R ++ [.lst (Ps.map .tup)])) = .ok (.next [some (.obj 0), some (.tup ms), some (.obj (R.length + 1)), some (.int at_), x4']) (o :: (R ++ [.lst (Qs.map .tup)]))
  | [], Ps, x4, _, h, _ => ⟨Ps, x4, h, loopF_nil rfl⟩
  | x :: xs, Ps, x4, hx, h, hn => by
    rw [List.length_cons] at hn
    obtain ⟨Qs, x4', h1, e⟩ := places_loop hm hl (o := o) (R := R) (at_ := at_) xs (Ps ++ [cutP ms none (some at_) ++ [x] ++ cutP ms (some (at_ + 1)) none]) (some x) (fun y hy => hx y (List.mem_cons_of_mem _ hy)) (fun P hP => by
      rcases List.mem_append.mp hP with hP | hP
      · exact h P hP
      · rw [List.mem_singleton.mp hP]
        exact any_app (any_app (any_cut hm) fun m hm => by rw [List.mem_singleton.mp hm]; exact hx x (List.mem_cons_self ..)) (any_cut hm)) (by simp; omega)
    refine ⟨Qs, x4', h1, ?_⟩
    rw [← e]
    have c1 := cut_len ms none (some at_)
    have c2 := cut_len ms (some (at_ + 1)) none
    have z1 : (cutP ms none (some at_)).length + 1 ≤ 16777216 := by omega
    have z2 : (cutP ms none (some at_)).length + 1 + (cutP ms (some (at_ + 1)) none).length ≤ 16777216 := by omega
    have z2' : (cutP ms none (some at_)).length + ((cutP ms (some (at_ + 1)) none).length + 1) ≤ 16777216 := by omega
    have ap := app_end (R := R) (o := o) (vs := Ps.map .tup) (y := .tup (cutP ms none (some at_) ++ [x] ++ cutP ms (some (at_ + 1)) none)) (by simp; omega)
    rw [List.map_append]
    refine loopF_next (f := forStep _ _) rfl ?_
    simp only [List.append_assoc, List.cons_append, List.nil_append] at ap ⊢
    simp [forStep_ap, bodyC, mMet, ty_end, size_line, z1, z2, z2', ap]
def SpPlaces (f : List PV → GH → Res PV) : Prop := ∀ (cs : List Int) (a b d : Int) (R : GH) (ms : List PV), (∀ m ∈ ms, mk m) → ms.length ≤ 5 → 0 ≤ a → 0 ≤ b → 0 ≤ d → d + 1 ≤ 1099511627776 →
  ∃ (Qs : List (List PV)) (a' b' d' : Int), (∀ P ∈ Qs, ∀ m ∈ P, anyM m = true) ∧ 0 ≤ a' ∧ 0 ≤ b' ∧ d ≤ d' ∧ d' ≤ d + 1 ∧ f [.obj 0, .tup ms] (feedO cs a b d :: R) = .ok (.obj (R.length + 1)) (feedO cs a' b' d' :: (R ++ [.lst (Qs.map .tup)]))
theorem places_sp {f} (hf : SpDraw f) : SpPlaces (defV 2 GN.N__law_places (GN.b__law_places f)) := by
  intro cs a b d R ms hms hl ha hb hd hd2
  have hm : ∀ m ∈ ms, anyM m = true := fun m h => mk_any (hms m h)
  have hfit : fitBs ms = true := fits_of fun m h => (mk_fit (hms m h)).1
  have hdep : deps ms ≤ 60 := deps_le fun m h => by rw [(mk_fit (hms m h)).2.2]; omega
  have hmul : ∀ G, opMul [.tup ms, .int 2] G = .ok (.tup (ms ++ ms)) G := fun G => by
    simp only [opMul]; rw [if_pos ⟨by decide, by decide, by omega⟩]
    have : (List.replicate (2 : Int).toNat ms).flatten = ms ++ ms := by simp [List.replicate]
    rw [this]
  have hne := fun G => ne_nilT (G := G) hfit hdep
  have hpow : ∀ G, opPow [.int 10, .int 30] G = .ok (.int 1000000000000000000000000000000) G := fun G => opPow_ii (by decide) (by decide) (by decide)
  have ef : GN.b__law_places f = sSeq (sAsg (mA (mCons (mVar 1) (mCons (mSl (mVar 1) (mPart (mCst (.int 1))) (mNoPart) opSl) (mCons (mSl (mVar 1) (mNoPart) (mPart (m1 (mCst (.int 1)) opNeg)) opSl) (mCons (m2 (mVar 1) (mA (mCons (mCst (.int 0)) (mNil)) mkTup) opAdd) (mCons (m2 (mVar 1) (mA (mCons (mCst (.str "a")) (mNil)) mkTup) opAdd) (mCons (m2 (mVar 1) (mCst (.int 2)) opMul) (mCons (mA (mNil) mkTup) (mCons (mA (mCons (mCst (.int 0)) (mNil)) mkTup) (mCons (mA (mCons (mCst (.str "q")) (mNil)) mkTup) (mCons (mA (mCons (mCst (.str "a")) (mCons (mCst (.int 0)) (mNil))) mkTup) (mNil))))))))))) mkObj) (gN 2)) (sSeq (sIf (mB (m2 (mVar 1) (mA (mNil) mkTup) (Cop.f .ne))) (sSeq (sAsg (mA (mCons (mVar 0) (mCons (mA (mCons (mVar 1) (mNil)) bLen) (mNil))) f) (gN 3)) (sSeq (sFor (mSeq (mA (mCons (mCst (.int 0)) (mCons (mCst (.int 1)) (mCons (mCst (.int 5)) (mCons (mCst (.str "a")) (mCons (mCst (.str "k")) (mCons (m2 (mCst (.int 10)) (mCst (.int 30)) opPow) (mNil))))))) mkTup)) (gN 4) bodyC) (sNext))) (sNext)) (sSeq (sRet (mVar 2)) (sNext))) := rfl
  generalize hPs : [ms, cutP ms (some 1) none, cutP ms none (some (-1)), ms ++ [.int 0], ms ++ [.str "a"], ms ++ ms, [], [.int 0], [.str "q"], [.str "a", .int 0]] = Ps
  have hP : ∀ P ∈ Ps, ∀ m ∈ P, anyM m = true := by
    rw [← hPs]
    intro P hP
    simp only [List.mem_cons, List.not_mem_nil, or_false] at hP
    rcases hP with rfl | rfl | rfl | rfl | rfl | rfl | rfl | rfl | rfl | rfl
    · exact hm
    · exact any_cut hm
    · exact any_cut hm
    · exact any_app hm (by simp [anyM])
    · exact any_app hm (by simp [anyM])
    · exact any_app hm hm
    · simp
    · simp [anyM]
    · simp [anyM]
    · simp [anyM]
  have hPl : Ps.length = 10 := by rw [← hPs]; rfl
  have z1 : ms.length + 1 ≤ 16777216 := by omega
  have hT : Ps.map PV.tup = [.tup ms, .tup (cutP ms (some 1) none), .tup (cutP ms none (some (-1))), .tup (ms ++ [.int 0]), .tup (ms ++ [.str "a"]), .tup (ms ++ ms), .tup [], .tup [.int 0], .tup [.str "q"], .tup [.str "a", .int 0]] := by rw [← hPs]; rfl
  by_cases h0 : ms = []
  · refine ⟨Ps, a, b, d, hP, ha, hb, by omega, by omega, ?_⟩
    have ht := trim_new (G := feedO cs a b d :: R) (n := R.length + 1) (T := feedO cs a b d :: (R ++ [.lst (Ps.map .tup)])) (by simp)
    rw [hT]
    have hne' := hne
    simp only [h0, decide_true, Bool.not_true] at hne'
    simp only [h0] at hmul ⊢
    simp [defV, ef, GN.N__law_places, env0, size_line, hmul, hne']
    exact trim_new (by simp)
  · have hlen : 0 < ms.length := List.length_pos_iff.mpr h0
    obtain ⟨r, a1, b1, r0, r1, ha1, hb1, e⟩ := hf cs a b d ms.length (R ++ [.lst (Ps.map .tup)]) (by omega) (by omega) ha hb hd (by omega)
    obtain ⟨Qs, x4, hQ, el⟩ := places_loop hm (by omega) (o := feedO cs a1 b1 (d + 1)) (R := R) (at_ := r) [.int 0, .int 1, .int 5, .str "a", .str "k", .int 1000000000000000000000000000000] Ps none (by simp [anyM]) hP (by rw [hPl]; decide)
    refine ⟨Qs, a1, b1, d + 1, hQ, ha1, hb1, by omega, by omega, ?_⟩
    have ht := trim_new (G := feedO cs a b d :: R) (n := R.length + 1) (T := feedO cs a1 b1 (d + 1) :: (R ++ [.lst (Qs.map .tup)])) (by simp)
    have hne' := hne
    simp only [decide_eq_false h0, Bool.not_false] at hne'
    rw [hT] at e el
    simp [defV, ef, GN.N__law_places, env0, size_line, z1, hmul, hne', hpow, e, el, ht]
/-- steps as they are drawn -/
def Stp.sm : Stp → Prop
  | .field w => w ∈ pool7
  | .at i => 0 ≤ i ∧ i < 1000000
  | .each => True
  | .wh w p => w ∈ pool7 ∧ p ∈ leafs
theorem Stp.sm_ok {s : Stp} (h : s.sm) : s.ok := by
  cases s <;> first | exact h | trivial
theorem Stp.sm_fit {s : Stp} (h : s.sm) : fitB s.pv = true ∧ wgt s.pv ≤ 100 ∧ dep s.pv ≤ 1 := by
  have w1 : PyData.strOk "field" = true ∧ PyData.strOk "at" = true ∧ PyData.strOk "each" = true ∧ PyData.strOk "where" = true := by decide +kernel
  have w2 : ("field" : Str).cps.size = 5 ∧ ("at" : Str).cps.size = 2 ∧ ("each" : Str).cps.size = 4 ∧ ("where" : Str).cps.size = 5 := by decide +kernel
  cases s with
  | field w =>
    have := word_w h
    refine ⟨by simp [Stp.pv, fitB, fitBs, w1, word_fit h], ?_, by simp [Stp.pv, dep, deps]⟩
    simp only [Stp.pv, wgt, wgts, w2]; omega
  | «at» i =>
    have k := mk_fit (.inr ⟨i, rfl, h⟩ : mk (.int i))
    refine ⟨by simp [Stp.pv, fitB, fitBs, w1] at k ⊢; exact k.1, ?_, by simp [Stp.pv, dep, deps]⟩
    have k2 := k.2.1
    simp only [Stp.pv, wgt, wgts, w2] at k2 ⊢; omega
  | each => exact ⟨by simp [Stp.pv, fitB, fitBs, w1], by simp only [Stp.pv, wgt, wgts, w2]; omega, by simp [Stp.pv, dep, deps]⟩
  | wh w p =>
    have := word_w h.1
    have k := plain_fit h.2
    refine ⟨by simp [Stp.pv, fitB, fitBs, w1, word_fit h.1, k.1], ?_, by simp [Stp.pv, dep, deps, k.2.2]⟩
    simp only [Stp.pv, wgt, wgts, w2]; omega
def SpStep (f : List PV → GH → Res PV) : Prop := ∀ (cs : List Int) (a b d : Int) (R : GH), 0 ≤ a → 0 ≤ b → 0 ≤ d → d + 10 ≤ 1099511627776 →
  ∃ (s : Stp) (a' b' d' : Int), s.sm ∧ 0 ≤ a' ∧ 0 ≤ b' ∧ d ≤ d' ∧ d' ≤ d + 3 ∧ f [.obj 0] (feedO cs a b d :: R) = .ok s.pv (feedO cs a' b' d' :: R)
theorem step_sp {fd fp} (hd : SpDraw fd) (hp : SpPlain fp) : SpStep (defV 1 GN.N__law_step (GN.b__law_step fd fp)) := by
  intro cs a b d R ha hb h0 h1
  obtain ⟨r, a1, b1, r0, r1, ha1, hb1, e1⟩ := hd cs a b d 4 R (by decide) (by decide) ha hb h0 (by omega)
  by_cases c0 : r = 0
  · subst c0
    refine ⟨.each, a1, b1, d + 1, trivial, ha1, hb1, by omega, by omega, ?_⟩
    simp [defV, GN.b__law_step, GN.N__law_step, env0, size_line, e1, Stp.pv, trim_len]
  by_cases c1 : r = 1
  · subst c1
    obtain ⟨q, a2, b2, q0, q1, ha2, hb2, e2⟩ := hd cs a1 b1 (d + 1) 4 R (by decide) (by decide) ha1 hb1 (by omega) (by omega)
    refine ⟨.at q, a2, b2, d + 1 + 1, ⟨q0, by omega⟩, ha2, hb2, by omega, by omega, ?_⟩
    simp [defV, GN.b__law_step, GN.N__law_step, env0, size_line, e1, e2, Stp.pv, trim_len]
  obtain ⟨q, a2, b2, q0, q1, ha2, hb2, e2⟩ := hd cs a1 b1 (d + 1) 7 R (by decide) (by decide) ha1 hb1 (by omega) (by omega)
  obtain ⟨x, ex, hx⟩ := atI_mem (ps := pool7.map PV.str) q0 (by simpa [pool7] using q1)
  obtain ⟨w, hw, rfl⟩ := List.mem_map.mp hx
  have ei := ixR_some (G := feedO cs a2 b2 (d + 1 + 1) :: R) ex
  have hpool : (List.map PV.str pool7) = [.str "a", .str "b", .str "k", .str "kk", .str "x", .str "yes", .str "q"] := rfl
  rw [hpool] at ei
  by_cases c2 : r = 2
  · subst c2
    refine ⟨.field w, a2, b2, d + 1 + 1, hw, ha2, hb2, by omega, by omega, ?_⟩
    simp [defV, GN.b__law_step, GN.N__law_step, env0, size_line, e1, e2, ei, Stp.pv, trim_len]
  obtain ⟨p, a3, b3, hp3, ha3, hb3, e3⟩ := hp cs a2 b2 (d + 1 + 1) R ha2 hb2 (by omega) (by omega)
  refine ⟨.wh w p, a3, b3, d + 1 + 1 + 1, ⟨hw, leaf_of hp3⟩, ha3, hb3, by omega, by omega, ?_⟩
  simp [defV, GN.b__law_step, GN.N__law_step, env0, size_line, e1, e2, e3, ei, c0, c1, c2, Stp.pv, trim_len]
end EV
end
section
/-! M20: paths as the law draws them. -/
set_option Elab.async false
set_option linter.all false
set_option maxRecDepth 100000
namespace EV
open PySem PySem.Spec PyProof.Rows L2
def bodyR (fd : List PV → GH → Res PV) : Env → GH → Res Fl := (sSeq (sAsg (mA (mCons (mVar 0) (mCons (mCst (.int 3)) (mNil))) fd) (gN 8)) (sSeq (sIf (mtAnd (mB (m2 (mVar 8) (mCst (.int 2)) (Cop.f .eq))) (mB (m2 (mVar 7) (mA (mNil) mkLst) (Cop.f .ne)))) (sSeq (sDrop (mMet "list" (mVar 3) (mCons (m2 (mA (mCons (mCst (.str "where")) (mNil)) mkTup) (m2 (mVar 7) (mA (mCons (mVar 0) (mCons (mA (mCons (mVar 7) (mNil)) bLen) (mNil))) fd) opIx) opAdd) (mNil)) fAppend)) (sNext)) (sSeq (sDrop (mMet "list" (mVar 3) (mCons (mIf (mB (m2 (mVar 8) (mCst (.int 0)) (Cop.f .eq))) (mA (mCons (mCst (.str "at")) (mCons (mVar 6) (mNil))) mkTup) (mA (mCons (mCst (.str "each")) (mNil)) mkTup)) (mNil)) fAppend)) (sNext))) (sNext)))
def bodyQ (fd fi : List PV → GH → Res PV) : Env → GH → Res Fl := (sSeq (sAsg (mIf (mT (mA (mCons (mVar 1) (mCons (mCst (.str "tree")) (mNil))) fi)) (m2 (mVar 1) (mCst (.int 1)) opIx) (mA (mNil) mkTup)) (gN 7)) (sSeq (sAsg (mComp false (mSeq (mVar 7)) (gN 10) (mtNot (mT (m1 (m2 (mVar 10) (mCst (.int 1)) opIx) (bIsi "tuple")))) (mVar 10) [10]) (gN 7)) (bodyR fd)))
def bodyP (fd fi fs : List PV → GH → Res PV) : Env → GH → Res Fl := (sSeq (sAsg (mIf (mT (m1 (mVar 1) (bIsi "tuple"))) (m2 (mVar 1) (mCst (.int 1)) opIx) (mA (mNil) mkTup)) (gN 5)) (sSeq (sIf (mtOr (mB (m2 (mVar 5) (mA (mNil) mkTup) (Cop.f .eq))) (mB (m2 (mA (mCons (mVar 0) (mCons (mCst (.int 8)) (mNil))) fd) (mCst (.int 0)) (Cop.f .eq)))) (sSeq (sDrop (mMet "list" (mVar 3) (mCons (mA (mCons (mVar 0) (mNil)) fs) (mNil)) fAppend)) (sNext)) (sSeq (sIf (mB (m2 (m2 (mVar 1) (mCst (.int 0)) opIx) (mCst (.str "tree")) (Cop.f .eq))) (sSeq (sAsg (m2 (mVar 5) (mA (mCons (mVar 0) (mCons (mA (mCons (mVar 5) (mNil)) bLen) (mNil))) fd) opIx) (gTupE 2 (gConsE (gN 9) (gConsE (gN 1) (gNilE))))) (sSeq (sDrop (mMet "list" (mVar 3) (mCons (mA (mCons (mCst (.str "field")) (mCons (mVar 9) (mNil))) mkTup) (mNil)) fAppend)) (sNext))) (sSeq (sAsg (mA (mCons (mVar 0) (mCons (mA (mCons (mVar 5) (mNil)) bLen) (mNil))) fd) (gN 6)) (sSeq (sAsg (m2 (mVar 5) (mVar 6) opIx) (gN 1)) (bodyQ fd fi)))) (sNext))) (sNext)))
section
variable {fd fi fs : List PV → GH → Res PV} {cs : List Int} {a b d : Int} {R : GH} {us : List Stp}
theorem bodyR_sp (hd : SpDraw fd) {kv : List (Str × PV)} (hk : ∀ q ∈ kv, q.1 ∈ pool7 ∧ q.2 ∈ leafs) (hl : kv.length ≤ 100000) {v1 x2 x4 x5 x8 x9 : Option PV} {q : Int} (hq : 0 ≤ q ∧ q < 1000000) (hu : us.length ≤ 100) (ha : 0 ≤ a) (hb : 0 ≤ b) (h0 : 0 ≤ d) (h1 : d + 2 ≤ 1099511627776) :
    ∃ (s : Stp) (a' b' d' : Int) (y8 : Option PV), s.sm ∧ 0 ≤ a' ∧ 0 ≤ b' ∧ d ≤ d' ∧ d' ≤ d + 2 ∧ bodyR fd [some (.obj 0), v1, x2, some (.obj (R.length + 1)), x4, x5, some (.int q), some (.lst (kv.map fldV)), x8, x9, none] (feedO cs a b d :: (R ++ [.lst (us.map Stp.pv)])) =
      .ok (.next [some (.obj 0), v1, x2, some (.obj (R.length + 1)), x4, x5, some (.int q), some (.lst (kv.map fldV)), y8, x9, none]) (feedO cs a' b' d' :: (R ++ [.lst ((us ++ [s]).map Stp.pv)])) := by
  obtain ⟨r, a1, b1, r0, r1, ha1, hb1, e1⟩ := hd cs a b d 3 (R ++ [.lst (us.map Stp.pv)]) (by decide) (by decide) ha hb h0 (by omega)
  have hfit : fitBs (kv.map fldV) = true := fits_of fun p hp => by
    obtain ⟨t, ht, rfl⟩ := fld_mem hp
    simp [fitB, fitBs, word_fit (hk t ht).1, leaf_fit (hk t ht).2]
  have hdep : deps (kv.map fldV) ≤ 60 := deps_le fun p hp => by
    obtain ⟨t, ht, rfl⟩ := fld_mem hp
    simp [dep, deps, (plain_fit (hk t ht).2).2.2]
  have hne := fun G => ne_nilL (G := G) hfit hdep
  have app := fun (s : Stp) (o : GO) => app_end (R := R) (o := o) (vs := us.map Stp.pv) (y := s.pv) (by simp; omega)
  by_cases c : r = 2 ∧ kv ≠ []
  · obtain ⟨c1, c2⟩ := c
    subst c1
    have hpos : 0 < kv.length := List.length_pos_iff.mpr c2
    obtain ⟨j, a2, b2, j0, j1, ha2, hb2, e2⟩ := hd cs a1 b1 (d + 1) kv.length (R ++ [.lst (us.map Stp.pv)]) (by omega) (by omega) ha1 hb1 (by omega) (by omega)
    obtain ⟨p, ep, hp⟩ := atI_mem (ps := kv.map fldV) j0 (by simpa using j1)
    obtain ⟨t, ht, rfl⟩ := fld_mem hp
    have ei := ixR_some (G := feedO cs a2 b2 (d + 1 + 1) :: (R ++ [.lst (us.map Stp.pv)])) ep
    have ap := app (.wh t.1 t.2) (feedO cs a2 b2 (d + 1 + 1))
    refine ⟨.wh t.1 t.2, a2, b2, d + 1 + 1, some (.int 2), hk t ht, ha2, hb2, by omega, by omega, ?_⟩
    simp only [Stp.pv] at ap
    simp [bodyR, e1, hne, c2, mMet, ty_end, size_line, e2, ei, ap, Stp.pv]
  · by_cases c0 : r = 0
    · subst c0
      have ap := app (.at q) (feedO cs a1 b1 (d + 1))
      refine ⟨.at q, a1, b1, d + 1, some (.int 0), hq, ha1, hb1, by omega, by omega, ?_⟩
      simp only [Stp.pv] at ap
      simp [bodyR, e1, mMet, ty_end, size_line, ap, Stp.pv]
    · have ap := app .each (feedO cs a1 b1 (d + 1))
      refine ⟨.each, a1, b1, d + 1, some (.int r), trivial, ha1, hb1, by omega, by omega, ?_⟩
      simp only [Stp.pv] at ap
      by_cases c2 : r = 2
      · have c3 : kv = [] := Classical.not_not.mp fun h => c ⟨c2, h⟩
        have hne' := hne
        simp only [c3, List.map_nil, decide_true, Bool.not_true] at hne'
        subst c2
        subst c3
        simp [bodyR, e1, hne', mMet, ty_end, size_line, ap, Stp.pv]
      · simp [bodyR, e1, c2, c0, mMet, ty_end, size_line, ap, Stp.pv]
theorem val_leaf {p : PV} (h : Val p) (h2 : isTup p = false) : p ∈ leafs := by
  rcases h.tup with h | h
  · rw [h] at h2; cases h2
  · exact h
theorem inner_loop2 {kv : List (Str × PV)} (hk : ∀ q ∈ kv, Val q.2) {G : GH} {ρ : Env} (hρ : ∀ i, ((wipeE ρ [10]).set 10 i)[10]? = some i) :
    loopC (compF (gN 10) (mtNot (mT (m1 (m2 (mVar 10) (mCst (.int 1)) opIx) (bIsi "tuple")))) (mVar 10) [10] ρ) (fun _ => true) (kv.map fldV) G = .ok ((kv.filter fun q => !isTup q.2).map fldV) G := by
  rw [loop_pure (h := fun t => if (!isTup (sndV t)) = true then some t else none) rfl]
  · rw [fm_filter, List.filter_map]; rfl
  · intro t ht
    obtain ⟨q, hq, rfl⟩ := fld_mem ht
    have i := isi_tup (G := G) (hk q hq).dat
    cases hb : isTup q.2 <;> (rw [hb] at i; simp [compF, hρ, i, hb, sndV])
theorem bodyQ_sp (hd : SpDraw fd) (hi : SpIsA fi) {V : PV} (hV : Sm V) {x2 x4 x5 x7 x8 x9 : Option PV} {q : Int} (hq : 0 ≤ q ∧ q < 1000000) (hu : us.length ≤ 100) (ha : 0 ≤ a) (hb : 0 ≤ b) (h0 : 0 ≤ d) (h1 : d + 2 ≤ 1099511627776) :
    ∃ (s : Stp) (a' b' d' : Int) (y7 y8 : Option PV), s.sm ∧ 0 ≤ a' ∧ 0 ≤ b' ∧ d ≤ d' ∧ d' ≤ d + 2 ∧ bodyQ fd fi [some (.obj 0), some V, x2, some (.obj (R.length + 1)), x4, x5, some (.int q), x7, x8, x9, none] (feedO cs a b d :: (R ++ [.lst (us.map Stp.pv)])) =
      .ok (.next [some (.obj 0), some V, x2, some (.obj (R.length + 1)), x4, x5, some (.int q), y7, y8, x9, none]) (feedO cs a' b' d' :: (R ++ [.lst ((us ++ [s]).map Stp.pv)])) := by
  have e1 := hi "tree" V (feedO cs a b d :: (R ++ [.lst (us.map Stp.pv)])) hV.val
  have hv := hV.val
  cases hT : headed "tree" V with
  | none =>
    rw [hT] at e1
    have il := fun (ρ : Env) (hρ : ∀ i, ((wipeE ρ [10]).set 10 i)[10]? = some i) => inner_loop2 (kv := []) (by simp) (G := feedO cs a b d :: (R ++ [.lst (us.map Stp.pv)])) hρ
    obtain ⟨s, a', b', d', y8, h2, h3, h4, h5, h6, e⟩ := bodyR_sp (cs := cs) (R := R) (us := us) hd (kv := []) (by simp) (by simp) (v1 := some V) (x2 := x2) (x4 := x4) (x5 := x5) (x8 := x8) (x9 := x9) hq hu ha hb h0 h1
    refine ⟨s, a', b', d', some (.lst []), y8, h2, h3, h4, h5, h6, ?_⟩
    have il2 := il [some (.obj 0), some V, x2, some (.obj (R.length + 1)), x4, x5, some (.int q), some (.tup []), x8, x9, none] (fun _ => rfl)
    simp only [List.map_nil, List.filter_nil] at il2 e
    rw [← e]
    simp [bodyQ, e1, size_line, mComp_ap, il2]
  | some fl =>
    have hk : ∃ kv : List (Str × PV), V = treeV kv ∧ (∀ q ∈ kv, q.1 ∈ pool7) ∧ (∀ q ∈ kv, Val q.2) ∧ kv.length ≤ 100000 := by
      cases hv with
      | plain h => rw [leaf_head h] at hT; cases hT
      | row h => rw [headT_row] at hT; cases hT
      | tree g1 g2 g3 =>
        rename_i kv
        refine ⟨kv, rfl, g2, g3, ?_⟩
        have := hV.w
        have := wgt_tree kv
        have := wgts_len (kv.map fldV)
        rw [List.length_map] at this
        omega
    obtain ⟨kv, rfl, g2, g3, g4⟩ := hk
    rw [headT_tree] at e1
    have hkl : ∀ t ∈ kv.filter (fun q => !isTup q.2), t.1 ∈ pool7 ∧ t.2 ∈ leafs := fun t ht => by
      obtain ⟨h1, h2⟩ := List.mem_filter.mp ht
      exact ⟨g2 t h1, val_leaf (g3 t h1) (by simpa using h2)⟩
    have hl : (kv.filter fun q => !isTup q.2).length ≤ 100000 := Nat.le_trans (List.length_filter_le _ _) g4
    obtain ⟨s, a', b', d', y8, h2, h3, h4, h5, h6, e⟩ := bodyR_sp (cs := cs) (R := R) (us := us) hd hkl hl (v1 := some (treeV kv)) (x2 := x2) (x4 := x4) (x5 := x5) (x8 := x8) (x9 := x9) hq hu ha hb h0 h1
    refine ⟨s, a', b', d', some (.lst ((kv.filter fun q => !isTup q.2).map fldV)), y8, h2, h3, h4, h5, h6, ?_⟩
    have il2 := inner_loop2 g3 (G := feedO cs a b d :: (R ++ [.lst (us.map Stp.pv)])) (ρ := [some (.obj 0), some (treeV kv), x2, some (.obj (R.length + 1)), x4, x5, some (.int q), some (.tup (kv.map fldV)), x8, x9, none]) (fun _ => rfl)
    rw [← e]
    simp [bodyQ, e1, size_line, mComp_ap, il2]
def StepEnd (fd fi fs : List PV → GH → Res PV) (cs : List Int) (a b d : Int) (R : GH) (us : List Stp) (V : PV) : Prop := ∀ (x2 x4 x5 x6 x7 x8 x9 : Option PV) (it : PV),
    ∃ (s : Stp) (V' : PV) (a' b' d' : Int) (y5 y6 y7 y8 y9 : Option PV), s.sm ∧ Sm V' ∧ 0 ≤ a' ∧ 0 ≤ b' ∧ d ≤ d' ∧ d' ≤ d + 10 ∧ forStep (gN 4) (bodyP fd fi fs) it [some (.obj 0), some V, x2, some (.obj (R.length + 1)), x4, x5, x6, x7, x8, x9, none] (feedO cs a b d :: (R ++ [.lst (us.map Stp.pv)])) =
      .ok (.next [some (.obj 0), some V', x2, some (.obj (R.length + 1)), some it, y5, y6, y7, y8, y9, none]) (feedO cs a' b' d' :: (R ++ [.lst ((us ++ [s]).map Stp.pv)]))
/-- a drawn step is put -/
theorem path_any (hs : SpStep fs) (hd : SpDraw fd) {V : PV} (hV : Sm V) {F : List PV} (hu : us.length ≤ 100) (ha : 0 ≤ a) (hb : 0 ≤ b) (h0 : 0 ≤ d) (h1 : d + 20 ≤ 1099511627776)
    (hF : (isTup V = false ∧ F = []) ∨ (∃ w, V = .tup [w, .tup F])) (hf : fitBs F = true) (hp : deps F ≤ 60)
    (hz : F = [] ∨ ∃ a1 b1 : Int, 0 ≤ a1 ∧ 0 ≤ b1 ∧ fd [.obj 0, .int 8] (feedO cs a b d :: (R ++ [.lst (us.map Stp.pv)])) = .ok (.int 0) (feedO cs a1 b1 (d + 1) :: (R ++ [.lst (us.map Stp.pv)]))) : StepEnd fd fi fs cs a b d R us V := by
  intro x2 x4 x5 x6 x7 x8 x9 it
  have i1 := isi_tup (G := feedO cs a b d :: (R ++ [.lst (us.map Stp.pv)])) hV.val.dat
  have heq := fun G => eq_nilT (G := G) hf hp
  have app := fun (s : Stp) (o : GO) => app_end (R := R) (o := o) (vs := us.map Stp.pv) (y := s.pv) (by simp; omega)
  have fin : ∀ (hh : F = []), ∃ (s : Stp) (V' : PV) (a' b' d' : Int) (y5 y6 y7 y8 y9 : Option PV), s.sm ∧ Sm V' ∧ 0 ≤ a' ∧ 0 ≤ b' ∧ d ≤ d' ∧ d' ≤ d + 10 ∧ forStep (gN 4) (bodyP fd fi fs) it [some (.obj 0), some V, x2, some (.obj (R.length + 1)), x4, x5, x6, x7, x8, x9, none] (feedO cs a b d :: (R ++ [.lst (us.map Stp.pv)])) =
      .ok (.next [some (.obj 0), some V', x2, some (.obj (R.length + 1)), some it, y5, y6, y7, y8, y9, none]) (feedO cs a' b' d' :: (R ++ [.lst ((us ++ [s]).map Stp.pv)])) := by
    intro hh
    obtain ⟨s, a2, b2, d2, hs2, ha2, hb2, k1, k2, e2⟩ := hs cs a b d (R ++ [.lst (us.map Stp.pv)]) ha hb h0 (by omega)
    have ap := app s (feedO cs a2 b2 d2)
    refine ⟨s, V, a2, b2, d2, some (.tup F), x6, x7, x8, x9, hs2, hV, ha2, hb2, k1, by omega, ?_⟩
    subst hh
    have heq' : ∀ G, Cop.eq.f [.tup [], .tup []] G = .ok (.bl true) G := fun G => heq G
    rcases hF with ⟨hT, _⟩ | ⟨w, rfl⟩
    · rw [hT] at i1
      simp [forStep_ap, bodyP, i1, size_line, heq', mMet, ty_end, e2, ap]
    · have hT : isTup (.tup [w, .tup []]) = true := rfl
      rw [hT] at i1
      simp [forStep_ap, bodyP, i1, size_line, heq', mMet, ty_end, e2, ap]
  rcases hz with hz | ⟨a1, b1, ha1, hb1, e1⟩
  · exact fin hz
  · by_cases hh : F = []
    · exact fin hh
    · obtain ⟨s, a2, b2, d2, hs2, ha2, hb2, k1, k2, e2⟩ := hs cs a1 b1 (d + 1) (R ++ [.lst (us.map Stp.pv)]) ha1 hb1 (by omega) (by omega)
      have ap := app s (feedO cs a2 b2 d2)
      refine ⟨s, V, a2, b2, d2, some (.tup F), x6, x7, x8, x9, hs2, hV, ha2, hb2, by omega, by omega, ?_⟩
      rcases hF with ⟨_, hF⟩ | ⟨w, rfl⟩
      · exact absurd hF hh
      · have hT : isTup (.tup [w, .tup F]) = true := rfl
        rw [hT] at i1
        simp [forStep_ap, bodyP, i1, size_line, heq, hh, mMet, ty_end, e1, e2, ap]
theorem path_step (hd : SpDraw fd) (hi : SpIsA fi) (hs : SpStep fs) {V : PV} (hV : Sm V) (hu : us.length ≤ 100) (ha : 0 ≤ a) (hb : 0 ≤ b) (h0 : 0 ≤ d) (h1 : d + 20 ≤ 1099511627776) : StepEnd fd fi fs cs a b d R us V := by
  have hv := hV.val
  have i1 := isi_tup (G := feedO cs a b d :: (R ++ [.lst (us.map Stp.pv)])) hV.val.dat
  have app := fun (s : Stp) (o : GO) => app_end (R := R) (o := o) (vs := us.map Stp.pv) (y := s.pv) (by simp; omega)
  obtain ⟨r, a1, b1, r0, r1, ha1, hb1, e1⟩ := hd cs a b d 8 (R ++ [.lst (us.map Stp.pv)]) (by decide) (by decide) ha hb h0 (by omega)
  cases hv with
  | plain h => exact path_any hs hd hV hu ha hb h0 h1 (.inl ⟨leaf_tup h, rfl⟩) rfl (by simp [deps]) (.inl rfl)
  | row h =>
    rename_i xs
    have hf : fitBs xs = true := fits_of fun p hp => (h p hp).fit
    have hp : deps xs ≤ 60 := by have := dep_row xs; have := hV.d; omega
    by_cases hx : xs = []
    · exact path_any hs hd hV hu ha hb h0 h1 (.inr ⟨_, rfl⟩) hf hp (.inl hx)
    by_cases hr : r = 0
    · subst hr
      exact path_any hs hd hV hu ha hb h0 h1 (.inr ⟨_, rfl⟩) hf hp (.inr ⟨a1, b1, ha1, hb1, e1⟩)
    intro x2 x4 x5 x6 x7 x8 x9 it
    have heq := fun G => eq_nilT (G := G) hf hp
    have hpos : 0 < xs.length := List.length_pos_iff.mpr hx
    have hlen : xs.length ≤ 100000 := by
      have := hV.w
      have := wgt_row xs
      have := wgts_len xs
      omega
    obtain ⟨j, a2, b2, j0, j1, ha2, hb2, e2⟩ := hd cs a1 b1 (d + 1) xs.length (R ++ [.lst (us.map Stp.pv)]) (by omega) (by omega) ha1 hb1 (by omega) (by omega)
    obtain ⟨p, ep, hpx⟩ := atI_mem (ps := xs) j0 (by simpa using j1)
    have ei := ixR_some (G := feedO cs a2 b2 (d + 1 + 1) :: (R ++ [.lst (us.map Stp.pv)])) ep
    have hS := hV.row p hpx
    obtain ⟨s, a3, b3, d3, y7, y8, k1, k2, k3, k4, k5, e3⟩ := bodyQ_sp (cs := cs) (a := a2) (b := b2) (d := d + 1 + 1) (R := R) (us := us) hd hi hS (x2 := x2) (x4 := some it) (x5 := some (.tup xs)) (x7 := x7) (x8 := x8) (x9 := x9) (q := j) ⟨j0, by omega⟩ hu ha2 hb2 (by omega) (by omega)
    refine ⟨s, p, a3, b3, d3, some (.tup xs), some (.int j), y7, y8, x9, k1, hS, k2, k3, by omega, by omega, ?_⟩
    have hT : isTup (rowV xs) = true := rfl
    rw [hT] at i1
    simp [forStep_ap, bodyP, i1, size_line, heq, hx, e1, hr, e2, ei, e3]
  | tree g1 g2 g3 =>
    rename_i kv
    have hf : fitBs (kv.map fldV) = true := fits_of fun p hp => by
      obtain ⟨t, ht, rfl⟩ := fld_mem hp
      simp [fitB, fitBs, word_fit (g2 t ht), (g3 t ht).fit]
    have hp : deps (kv.map fldV) ≤ 60 := by have := dep_tree kv; have := hV.d; omega
    by_cases hx : kv = []
    · exact path_any hs hd hV hu ha hb h0 h1 (.inr ⟨_, rfl⟩) hf hp (.inl (by rw [hx]; rfl))
    by_cases hr : r = 0
    · subst hr
      exact path_any hs hd hV hu ha hb h0 h1 (.inr ⟨_, rfl⟩) hf hp (.inr ⟨a1, b1, ha1, hb1, e1⟩)
    intro x2 x4 x5 x6 x7 x8 x9 it
    have hx2 : kv.map fldV ≠ [] := by simpa using hx
    have heq := fun G => eq_nilT (G := G) hf hp
    simp only [decide_eq_false hx2] at heq
    have hpos : 0 < kv.length := List.length_pos_iff.mpr hx
    have hlen : kv.length ≤ 100000 := by
      have := hV.w
      have := wgt_tree kv
      have := wgts_len (kv.map fldV)
      rw [List.length_map] at this
      omega
    obtain ⟨j, a2, b2, j0, j1, ha2, hb2, e2⟩ := hd cs a1 b1 (d + 1) kv.length (R ++ [.lst (us.map Stp.pv)]) (by omega) (by omega) ha1 hb1 (by omega) (by omega)
    obtain ⟨p, ep, hpx⟩ := atI_mem (ps := kv.map fldV) j0 (by simpa using j1)
    obtain ⟨t, ht, rfl⟩ := fld_mem hpx
    have ei := ixR_some (G := feedO cs a2 b2 (d + 1 + 1) :: (R ++ [.lst (us.map Stp.pv)])) ep
    have hS := hV.tree g3 t ht
    have ap := app (.field t.1) (feedO cs a2 b2 (d + 1 + 1))
    refine ⟨.field t.1, t.2, a2, b2, d + 1 + 1, some (.tup (kv.map fldV)), x6, x7, x8, some (.str t.1), g2 t ht, hS, ha2, hb2, by omega, by omega, ?_⟩
    have hT : isTup (treeV kv) = true := rfl
    rw [hT] at i1
    simp only [Stp.pv] at ap
    simp [forStep_ap, bodyP, i1, size_line, heq, e1, hr, e2, ei, mMet, ty_end, ap, Stp.pv]
theorem path_loop (hd : SpDraw fd) (hi : SpIsA fi) (hs : SpStep fs) : ∀ (its : List PV) (a b d : Int) (us : List Stp) (V : PV) (x2 x4 x5 x6 x7 x8 x9 : Option PV), Sm V → us.length + its.length ≤ 100 → (∀ s ∈ us, s.sm) → 0 ≤ a → 0 ≤ b → 0 ≤ d → d + 20 * its.length ≤ 1099511627776 →
    ∃ (ss : List Stp) (a' b' d' : Int) (v1 y4 y5 y6 y7 y8 y9 : Option PV), (∀ s ∈ ss, s.sm) ∧ ss.length = us.length + its.length ∧ 0 ≤ a' ∧ 0 ≤ b' ∧ d ≤ d' ∧ d' ≤ d + 10 * its.length ∧
      loopF (forStep (gN 4) (bodyP fd fi fs)) (fun _ => true) its [some (.obj 0), some V, x2, some (.obj (R.length + 1)), x4, x5, x6, x7, x8, x9, none] (feedO cs a b d :: (R ++ [.lst (us.map Stp.pv)])) =
        .ok (.next [some (.obj 0), v1, x2, some (.obj (R.length + 1)), y4, y5, y6, y7, y8, y9, none]) (feedO cs a' b' d' :: (R ++ [.lst (ss.map Stp.pv)]))
  | [], a, b, d, us, V, x2, x4, x5, x6, x7, x8, x9, hV, hu, hs2, ha, hb, h0, h1 => ⟨us, a, b, d, some V, x4, x5, x6, x7, x8, x9, hs2, rfl, ha, hb, by omega, by simp, loopF_nil rfl⟩
  | it :: its, a, b, d, us, V, x2, x4, x5, x6, x7, x8, x9, hV, hu, hs2, ha, hb, h0, h1 => by
    rw [List.length_cons] at hu h1 ⊢
    obtain ⟨s, V', a1, b1, d1, y5, y6, y7, y8, y9, k1, k2, k3, k4, k5, k6, e⟩ := path_step (cs := cs) (R := R) hd hi hs hV (us := us) (by omega) ha hb h0 (by omega) x2 x4 x5 x6 x7 x8 x9 it
    obtain ⟨ss, a2, b2, d2, v1, z4, z5, z6, z7, z8, z9, j1, j2, j3, j4, j5, j6, e2⟩ := path_loop hd hi hs its a1 b1 d1 (us ++ [s]) V' x2 (some it) y5 y6 y7 y8 y9 k2 (by simp; omega) (fun t ht => by
      rcases List.mem_append.mp ht with ht | ht
      · exact hs2 t ht
      · rw [List.mem_singleton.mp ht]; exact k1) k3 k4 (by omega) (by omega)
    refine ⟨ss, a2, b2, d2, v1, z4, z5, z6, z7, z8, z9, j1, by rw [j2]; simp; omega, j3, j4, by omega, by omega, ?_⟩
    exact (loopF_next (f := forStep _ _) rfl e).trans e2
def SpPath (f : List PV → GH → Res PV) : Prop := ∀ (cs : List Int) (a b d : Int) (R : GH) (V : PV), Sm V → 0 ≤ a → 0 ≤ b → 0 ≤ d → d + 200 ≤ 1099511627776 →
  ∃ (ss : List Stp) (a' b' d' : Int), (∀ s ∈ ss, s.sm) ∧ ss ≠ [] ∧ ss.length ≤ 5 ∧ 0 ≤ a' ∧ 0 ≤ b' ∧ d ≤ d' ∧ d' ≤ d + 60 ∧ f [.obj 0, V, .int 5] (feedO cs a b d :: R) = .ok (.tup (ss.map Stp.pv)) (feedO cs a' b' d' :: R)
theorem bTup_end {R : GH} {o : GO} {ps : List PV} : bTup [.obj (R.length + 1)] (o :: (R ++ [.lst ps])) = .ok (.tup ps) (o :: (R ++ [.lst ps])) := by
  simp [bTup, asS, asL]
theorem path_sp (hd : SpDraw fd) (hi : SpIsA fi) (hs : SpStep fs) : SpPath (defV 3 GN.N__law_path (GN.b__law_path fd fi fs)) := by
  intro cs a b d R V hV ha hb h0 h1
  obtain ⟨r, a1, b1, r0, r1, ha1, hb1, e1⟩ := hd cs a b d 5 (R ++ [.lst []]) (by decide) (by decide) ha hb h0 (by omega)
  have hl : (rgIts 0 (1 + r).toNat).length = (1 + r).toNat := by simp [rgIts]
  have hrg : ∀ G, rgSrc [.int (1 + r)] G = .ok ⟨rgIts 0 (1 + r).toNat, fun _ => true⟩ G := fun G => by
    simp only [rgSrc]; rw [if_pos ⟨by omega, by omega, by rw [size_line]; omega⟩]
  obtain ⟨ss, a2, b2, d2, v1, y4, y5, y6, y7, y8, y9, j1, j2, j3, j4, j5, j6, e2⟩ := path_loop (cs := cs) (R := R) hd hi hs (rgIts 0 (1 + r).toNat) a1 b1 (d + 1) [] V (some (.int 5)) none none none none none none hV (by rw [hl]; simp; omega) (by simp) ha1 hb1 (by omega) (by rw [hl]; omega)
  rw [hl] at j2 j6
  simp only [List.length_nil, Nat.zero_add] at j2
  refine ⟨ss, a2, b2, d2, j1, fun h => ?_, by omega, j3, j4, by omega, by omega, ?_⟩
  · rw [h] at j2; simp at j2; omega
  have ef : GN.b__law_path fd fi fs = sSeq (sAsg (mA (mNil) mkObj) (gN 3)) (sSeq (sFor (mRng (mCons (m2 (mCst (.int 1)) (mA (mCons (mVar 0) (mCons (mVar 2) (mNil))) fd) opAdd) (mNil))) (gN 4) (bodyP fd fi fs)) (sSeq (sRet (mA (mCons (mVar 3) (mNil)) bTup)) (sNext))) := rfl
  have hdat : datB (.tup (ss.map Stp.pv)) = true := by
    refine dat_of_fit ?_
    simp only [fitB]
    exact fits_of fun p hp => by
      obtain ⟨s, hs3, rfl⟩ := List.mem_map.mp hp
      exact (Stp.sm_fit (j1 s hs3)).1
  have tf := trim_feed (g := feedO cs a b d) (R := R) (S := [.lst (ss.map Stp.pv)]) (cs := cs) (a := a2) (b := b2) (d := d2) hdat
  simp only [List.map_nil] at e2
  simp [defV, ef, GN.N__law_path, env0, size_line, e1, mRng, hrg, e2, bTup_end, tf]
end
end EV
end
section
/-! M21: how great documents are; environments. -/
set_option Elab.async false
set_option linter.all false
set_option maxRecDepth 100000
namespace EV
open PySem PySem.Spec PyProof.Rows L2
theorem wgts_le {ps : List PV} {k : Nat} (h : ∀ p ∈ ps, wgt p ≤ k) : wgts ps ≤ ps.length * (k + 1) := by
  induction ps with
  | nil => simp [wgts]
  | cons p ps ih =>
    have := h p (List.mem_cons_self ..)
    have := ih fun q hq => h q (List.mem_cons_of_mem _ hq)
    have e : (ps.length + 1) * (k + 1) = ps.length * (k + 1) + (k + 1) := Nat.succ_mul ..
    simp only [wgts, List.length_cons, e]
    omega
theorem leaf_w {p : PV} (h : p ∈ leafs) : wgt p ≤ 20 ∧ dep p = 0 := by
  have t : leafs.all (fun p => decide (wgt p ≤ 20) && decide (dep p = 0)) = true := by decide +kernel
  have := List.all_eq_true.mp t p h
  simpa only [Bool.and_eq_true, decide_eq_true_eq] using this
def WD : Nat → Nat
  | 0 => 20
  | n + 1 => 3 * (WD n + 13) + 6
theorem WD_ge : ∀ n, 20 ≤ WD n
  | 0 => Nat.le_refl _
  | n + 1 => by have := WD_ge n; simp only [WD]; omega
theorem row_size : ("row" : Str).cps.size = 3 ∧ ("tree" : Str).cps.size = 4 := by decide +kernel
theorem tree_wd {kv : List (Str × PV)} {k n : Nat} (h1 : ∀ q ∈ kv, q.1 ∈ pool7) (h2 : ∀ q ∈ kv, wgt q.2 ≤ k ∧ dep q.2 ≤ n) : wgt (treeV kv) ≤ kv.length * (k + 13) + 6 ∧ dep (treeV kv) ≤ n + 3 := by
  have a : wgts (kv.map fldV) ≤ (kv.map fldV).length * (k + 12 + 1) := wgts_le fun p hp => by
    obtain ⟨q, hq, rfl⟩ := fld_mem hp
    have := word_w (h1 q hq)
    have := (h2 q hq).1
    simp only [wgt, wgts]; omega
  have b : deps (kv.map fldV) ≤ n + 1 := deps_le fun p hp => by
    obtain ⟨q, hq, rfl⟩ := fld_mem hp
    have := (h2 q hq).2
    simp only [dep, deps]; omega
  rw [List.length_map, show k + 12 + 1 = k + 13 from rfl] at a
  simp only [treeV, wgt, wgts, dep, deps, row_size]
  exact ⟨by omega, by omega⟩
theorem row_wd {xs : List PV} {k n : Nat} (h2 : ∀ q ∈ xs, wgt q ≤ k ∧ dep q ≤ n) : wgt (rowV xs) ≤ xs.length * (k + 1) + 5 ∧ dep (rowV xs) ≤ n + 2 := by
  have a : wgts xs ≤ xs.length * (k + 1) := wgts_le fun p hp => (h2 p hp).1
  have b : deps xs ≤ n := deps_le fun p hp => (h2 p hp).2
  simp only [rowV, wgt, wgts, dep, deps, row_size]
  exact ⟨by omega, by omega⟩
theorem Doc.wd : ∀ {n : Nat} {p : PV}, Doc n p → wgt p ≤ WD n ∧ dep p ≤ 3 * n
  | 0, p, h => by have := leaf_w (leaf_of h); exact ⟨this.1, by omega⟩
  | n + 1, p, h => by
    have w := WD_ge n
    rcases h with h | ⟨xs, rfl, hl, h⟩ | ⟨kv, rfl, hl, h1, h2, h⟩
    · have := leaf_w (leaf_of h)
      simp only [WD]
      exact ⟨by omega, by omega⟩
    · have := row_wd fun x hx => (h x hx).wd
      have m : xs.length * (WD n + 1) ≤ 3 * (WD n + 1) := Nat.mul_le_mul_right _ hl
      simp only [WD]
      exact ⟨by omega, by omega⟩
    · have := tree_wd (fun q hq => pool67 (h2 q hq)) fun q hq => (h q hq).wd
      have m : kv.length * (WD n + 13) ≤ 3 * (WD n + 13) := Nat.mul_le_mul_right _ hl
      simp only [WD]
      exact ⟨by omega, by omega⟩
/-- values as great as a document at most -/
structure Md (V : PV) : Prop where
  s : Sm V
  w : wgt V ≤ 8000
theorem DocT.md {p : PV} (h : DocT p) : Md p := by
  have hv := h.val
  obtain ⟨kv, rfl, hl, h1, h2, h⟩ := h
  have := tree_wd (fun q hq => pool67 (h2 q hq)) fun q hq => (h q hq).wd
  have m : kv.length * (WD 3 + 13) ≤ 5 * (WD 3 + 13) := Nat.mul_le_mul_right _ hl
  have e : WD 3 = 1125 := by decide
  exact ⟨⟨hv, by omega, by omega⟩, by omega⟩
theorem Doc.md {p : PV} (h : Doc 3 p) : Md p := by
  have := h.wd
  have e : WD 3 = 1125 := by decide
  exact ⟨⟨h.val, by omega, by omega⟩, by omega⟩
theorem leaf_md {p : PV} (h : p ∈ leafs) : Md p := by
  have := leaf_w h
  exact ⟨⟨.plain h, by omega, by omega⟩, by omega⟩
theorem sm_repr {V : PV} (h : Sm V) (G : GH) : bRepr [V] G = .ok (.str (rep V)) G := by
  have := h.w
  have := h.d
  exact repr_fit G h.val.fit (by omega) (by omega)
theorem path_repr {ss : List Stp} (h : ∀ s ∈ ss, s.sm) (hl : ss.length ≤ 5) (G : GH) : bRepr [.tup (ss.map Stp.pv)] G = .ok (.str (rep (.tup (ss.map Stp.pv)))) G := by
  have hm : ∀ p ∈ ss.map Stp.pv, fitB p = true ∧ wgt p ≤ 100 ∧ dep p ≤ 1 := fun p hp => by
    obtain ⟨s, hs, rfl⟩ := List.mem_map.mp hp
    exact Stp.sm_fit (h s hs)
  have a : wgts (ss.map Stp.pv) ≤ (ss.map Stp.pv).length * (100 + 1) := wgts_le fun p hp => (hm p hp).2.1
  have b : deps (ss.map Stp.pv) ≤ 1 := deps_le fun p hp => (hm p hp).2.2
  rw [List.length_map] at a
  refine repr_fit G ?_ ?_ ?_
  · simp only [fitB]; exact fits_of fun p hp => (hm p hp).1
  · simp only [wgt]; omega
  · simp only [dep]; omega
/-- the same but at some places -/
structure Same (S : List Nat) (ρ ρ' : Env) : Prop where
  l : ρ'.length = ρ.length
  e : ∀ j, j ∉ S → ρ'[j]? = ρ[j]?
theorem Same.refl (S : List Nat) (ρ : Env) : Same S ρ ρ := ⟨rfl, fun _ _ => rfl⟩
theorem Same.set {S : List Nat} {ρ ρ' : Env} (h : Same S ρ ρ') {i : Nat} {v : Option PV} (hi : i ∈ S) : Same S ρ (ρ'.set i v) := ⟨by rw [List.length_set, h.l], fun j hj => by
  rw [List.getElem?_set_ne (fun e : i = j => hj (by rw [← e]; exact hi)), h.e j hj]⟩
theorem Same.trans {S : List Nat} {ρ ρ' ρ'' : Env} (h : Same S ρ ρ') (k : Same S ρ' ρ'') : Same S ρ ρ'' := ⟨by rw [k.l, h.l], fun j hj => by rw [k.e j hj, h.e j hj]⟩
theorem Same.mono {S T : List Nat} {ρ ρ' : Env} (h : Same S ρ ρ') (k : ∀ i ∈ S, i ∈ T) : Same T ρ ρ' := ⟨h.l, fun j hj => h.e j fun m => hj (k j m)⟩
end EV
end
section
/-! M22: the law's loops: places, paths. -/
set_option Elab.async false
set_option linter.all false
set_option maxRecDepth 100000
namespace EV
open PySem PySem.Spec PyProof.Rows L2
@[simp] theorem opAdd_ll {a b : List PV} {G : GH} : opAdd [.lst a, .lst b] G = if a.length + b.length ≤ sizeLine then .ok (.lst (a ++ b)) G else .bad := rfl
theorem place_repr {P : List PV} {V : PV} (hV : Sm V) (G : GH) : bRepr [(atGo P V).getD .non] G = .ok (.str (rep ((atGo P V).getD .non))) G := by
  cases h : atGo P V with
  | none => exact repr_fit G rfl (by decide) (by decide)
  | some v => exact sm_repr (atGo_sm hV h) G
theorem len_cons {α : Type} {l : List α} {n : Nat} (h : l.length = n + 1) : ∃ v t, l = v :: t ∧ t.length = n := by
  cases l with
  | nil => cases h
  | cons v t => exact ⟨v, t, rfl, by simpa using h⟩
theorem env19 {r0 : Env} (n0 : r0.length = 19) : ∃ v0 v1 v2 v3 v4 v5 v6 v7 v8 v9 v10 v11 v12 v13 v14 v15 v16 v17 v18, r0 = [v0, v1, v2, v3, v4, v5, v6, v7, v8, v9, v10, v11, v12, v13, v14, v15, v16, v17, v18] := by
  obtain ⟨v0, r1, rfl, n1⟩ := len_cons n0
  obtain ⟨v1, r2, rfl, n2⟩ := len_cons n1
  obtain ⟨v2, r3, rfl, n3⟩ := len_cons n2
  obtain ⟨v3, r4, rfl, n4⟩ := len_cons n3
  obtain ⟨v4, r5, rfl, n5⟩ := len_cons n4
  obtain ⟨v5, r6, rfl, n6⟩ := len_cons n5
  obtain ⟨v6, r7, rfl, n7⟩ := len_cons n6
  obtain ⟨v7, r8, rfl, n8⟩ := len_cons n7
  obtain ⟨v8, r9, rfl, n9⟩ := len_cons n8
  obtain ⟨v9, r10, rfl, n10⟩ := len_cons n9
  obtain ⟨v10, r11, rfl, n11⟩ := len_cons n10
  obtain ⟨v11, r12, rfl, n12⟩ := len_cons n11
  obtain ⟨v12, r13, rfl, n13⟩ := len_cons n12
  obtain ⟨v13, r14, rfl, n14⟩ := len_cons n13
  obtain ⟨v14, r15, rfl, n15⟩ := len_cons n14
  obtain ⟨v15, r16, rfl, n16⟩ := len_cons n15
  obtain ⟨v16, r17, rfl, n17⟩ := len_cons n16
  obtain ⟨v17, r18, rfl, n18⟩ := len_cons n17
  obtain ⟨v18, r19, rfl, n19⟩ := len_cons n18
  cases r19 with
  | nil => exact ⟨v0, v1, v2, v3, v4, v5, v6, v7, v8, v9, v10, v11, v12, v13, v14, v15, v16, v17, v18, rfl⟩
  | cons _ _ => cases n19
/-- one place is looked at -/
def bPlc (fl fv : List PV → GH → Res PV) : Env → GH → Res Fl := (sSeq (sAsg (m2 (m2 (mA (mCons (mVar 8) (mCons (mVar 14) (mNil))) fl) (mA (mCons (mCst .non) (mNil)) mkLst) opAdd) (mCst (.int 0)) opIx) (gN 17)) (sSeq (sIf (mB (m2 (mA (mCons (mA (mCons (mVar 8) (mCons (mVar 14) (mNil))) fv) (mNil)) bRepr) (mA (mCons (mVar 17) (mNil)) bRepr) (Cop.f .ne))) (sSeq (sRet (mCst (.bl false))) (sNext)) (sNext)) (sNext)))
section
variable {fl fv ff fo fp fq : List PV → GH → Res PV} {V : PV}
theorem plc_step (hl : SpAtL fl) (hv : SpAt fv) (hV : Sm V) {P : List PV} (hP : ∀ m ∈ P, anyM m = true) {ρ : Env} (n : ρ.length = 19) (h8 : ρ[8]? = some (some V)) (G : GH) :
    ∃ ρ', Same [14, 17] ρ ρ' ∧ forStep (gN 14) (bPlc fl fv) (.tup P) ρ G = .ok (.next ρ') G := by
  obtain ⟨v0, v1, v2, v3, v4, v5, v6, v7, v8, v9, v10, v11, v12, v13, v14, v15, v16, v17, v18, rfl⟩ := env19 n
  have h8 : v8 = some V := by simpa using h8
  subst h8
  obtain ⟨rest, e1, e2, e3⟩ := hl P V G hP hV
  have e4 := hv P V G hP hV
  have e5 := place_repr (P := P) hV G
  refine ⟨(List.set _ 14 (some (.tup P))).set 17 (some ((atGo P V).getD .non)), ((Same.refl _ _).set (by decide)).set (by decide), ?_⟩
  cases hg : atGo P V with
  | none =>
    rw [hg] at e1 e4 e5
    rw [e2 hg] at e1
    simp only [Option.toList_none, Option.getD_none, List.nil_append] at e1 e4 e5
    simp [forStep_ap, bPlc, e1, e4, e5, size_line]
  | some v =>
    rw [hg] at e1 e4 e5
    simp only [Option.toList_some, Option.getD_some, List.cons_append, List.nil_append] at e1 e4 e5
    have z : rest.length + 1 + 1 ≤ 16777216 := by omega
    simp [forStep_ap, bPlc, e1, e4, e5, size_line, z]
theorem plc_loop (hl : SpAtL fl) (hv : SpAt fv) (hV : Sm V) (G : GH) {gd : GH → Bool} (hg : gd G = true) : ∀ (Qs : List (List PV)) (ρ : Env), (∀ P ∈ Qs, ∀ m ∈ P, anyM m = true) → ρ.length = 19 → ρ[8]? = some (some V) →
    ∃ ρ', Same [14, 17] ρ ρ' ∧ loopF (forStep (gN 14) (bPlc fl fv)) gd (Qs.map .tup) ρ G = .ok (.next ρ') G
  | [], ρ, _, _, _ => ⟨ρ, Same.refl _ _, loopF_nil hg⟩
  | P :: Qs, ρ, h, n, h8 => by
    obtain ⟨ρ1, s1, e1⟩ := plc_step hl hv hV (h P (List.mem_cons_self ..)) n h8 G
    obtain ⟨ρ2, s2, e2⟩ := plc_loop hl hv hV G hg Qs ρ1 (fun Q hQ => h Q (List.mem_cons_of_mem _ hQ)) (by rw [s1.l, n]) (by rw [s1.e 8 (by decide), h8])
    exact ⟨ρ2, s1.trans s2, (loopF_next (f := forStep _ _) hg e1).trans e2⟩
/-- the first place found, or the void one -/
def place0 (F : List (List PV × PV)) : List PV := match F with
  | [] => []
  | q :: _ => q.1
theorem first_ap (F : List (List PV × PV)) : ∃ w, ∀ G, ixR (F.map encP ++ [.tup [.tup [], .non]]) 0 G = .ok (.tup [.tup (place0 F), w]) G := by
  cases F with
  | nil => exact ⟨.non, fun G => ixR_0⟩
  | cons q F => exact ⟨q.2, fun G => ixR_0⟩
theorem place0_ok {ss : List Stp} (hs : ss.length ≤ 5) (hV : Sm V) : (∀ m ∈ place0 (foundA ss V), mk m) ∧ (place0 (foundA ss V)).length ≤ 5 := by
  have a := (goA_ok ss (start_ok hV)).1
  unfold place0
  split
  · exact ⟨by simp, by simp⟩
  · rename_i q F e
    have := a q (by unfold foundA at e; rw [e]; exact List.mem_cons_self ..)
    exact ⟨this.m, by rw [this.l]; omega⟩
/-- one path is gone -/
def bPth (ff fo fl fv fp fq : List PV → GH → Res PV) : Env → GH → Res Fl := (sSeq (sAsg (mA (mCons (mVar 1) (mCons (mVar 8) (mCons (mCst (.int 5)) (mNil)))) fp) (gN 13)) (sSeq (sPar 15 16 (mCons (mA (mCons (mA (mCons (mVar 8) (mCons (mVar 13) (mNil))) fo) (mNil)) bTup) (mCons (mA (mCons (mVar 13) (mNil)) bRepr) (mNil)))) (sSeq (sIf (mtOr (mB (m2 (mA (mCons (mA (mCons (mVar 8) (mCons (mVar 13) (mNil))) ff) (mNil)) bRepr) (mA (mCons (mVar 15) (mNil)) bRepr) (Cop.f .ne))) (mB (m2 (mA (mCons (mVar 13) (mNil)) bRepr) (mVar 16) (Cop.f .ne)))) (sSeq (sRet (mCst (.bl false))) (sNext)) (sNext)) (sSeq (sFor (mSeq (mA (mCons (mVar 1) (mCons (m2 (m2 (m2 (mVar 15) (mA (mCons (mA (mCons (mA (mNil) mkTup) (mCons (mCst .non) (mNil))) mkTup) (mNil)) mkTup) opAdd) (mCst (.int 0)) opIx) (mCst (.int 0)) opIx) (mNil))) fq)) (gN 14) (bPlc fl fv)) (sNext)))))
theorem bTup_last {G : GH} {ps : List PV} : bTup [.obj G.length] (G ++ [.lst ps]) = .ok (.tup ps) (G ++ [.lst ps]) := by
  simp [bTup, asS, asL]
theorem pth_step (hf : SpFound ff) (ho : SpFoundL fo) (hl : SpAtL fl) (hv : SpAt fv) (hp : SpPath fp) (hq : SpPlaces fq) (hV : Md V) {ρ : Env} (n : ρ.length = 19) (h1 : ρ[1]? = some (some (.obj 0))) (h8 : ρ[8]? = some (some V)) (it : PV) (cs : List Int) (a b d : Int) (R : GH) (ha : 0 ≤ a) (hb : 0 ≤ b) (h0 : 0 ≤ d) (hd : d + 300 ≤ 1099511627776) :
    ∃ (ρ' : Env) (a' b' d' : Int) (R' : GH), Same [11, 13, 14, 15, 16, 17] ρ ρ' ∧ 0 ≤ a' ∧ 0 ≤ b' ∧ d ≤ d' ∧ d' ≤ d + 100 ∧ forStep (gN 11) (bPth ff fo fl fv fp fq) it ρ (feedO cs a b d :: R) = .ok (.next ρ') (feedO cs a' b' d' :: R') := by
  obtain ⟨v0, v1, v2, v3, v4, v5, v6, v7, v8, v9, v10, v11, v12, v13, v14, v15, v16, v17, v18, rfl⟩ := env19 n
  have g1 : v1 = some (.obj 0) := by simpa using h1
  have g8 : v8 = some V := by simpa using h8
  subst g1
  subst g8
  obtain ⟨ss, a1, b1, d1, hs, hne, hlen, ha1, hb1, hd1, hd2, e1⟩ := hp cs a b d R V hV.s ha hb h0 (by omega)
  obtain ⟨S, e2⟩ := ho ss V (feedO cs a1 b1 d1 :: R) (fun s h => Stp.sm_ok (hs s h)) hlen hne hV.s
  have e3 := bTup_last (G := feedO cs a1 b1 d1 :: R ++ S) (ps := (foundA ss V).map encP)
  have e4 := fun G => path_repr hs hlen G
  have e5 := fun G => hf ss V G (fun s h => Stp.sm_ok (hs s h)) hlen hV.s
  have e6 := fun G => found_repr (ss := ss) hV.s hV.w hlen G
  have hF : (foundA ss V).length ≤ 10000 := by have := found_len (ss := ss) hV.s; have := hV.w; omega
  obtain ⟨w7, e7⟩ := first_ap (foundA ss V)
  have z7 : (foundA ss V).length + 1 ≤ 16777216 := by omega
  have pk := place0_ok hlen hV.s
  obtain ⟨Qs, a2, b2, d3, hQ, ha2, hb2, hd3, hd4, e8⟩ := hq cs a1 b1 d1 (R ++ S ++ [.lst ((foundA ss V).map encP)]) (place0 (foundA ss V)) pk.1 pk.2 ha1 hb1 (by omega) (by omega)
  generalize hk : (feedO cs a1 b1 d1 :: R ++ S).length = k at e2 e3
  have hG : (feedO cs a1 b1 d1 :: R ++ S ++ [GO.lst ((foundA ss V).map encP)]) = feedO cs a1 b1 d1 :: (R ++ S ++ [GO.lst ((foundA ss V).map encP)]) := by simp
  generalize hR1 : R ++ S ++ [GO.lst ((foundA ss V).map encP)] = R1 at e8 hG
  rw [hG] at e2 e3
  have hsrc : seqSrc (.obj (R1.length + 1)) (feedO cs a2 b2 d3 :: (R1 ++ [.lst (Qs.map .tup)])) = .ok ⟨Qs.map .tup, isLstAt (R1.length + 1) (Qs.map .tup)⟩ (feedO cs a2 b2 d3 :: (R1 ++ [.lst (Qs.map .tup)])) := by
    simp [seqSrc]
  have hgd : isLstAt (R1.length + 1) (Qs.map .tup) (feedO cs a2 b2 d3 :: (R1 ++ [.lst (Qs.map .tup)])) = true := by
    simp [isLstAt, PV.sames_self]
  let ρ1 : Env := ((([v0, some (.obj 0), v2, v3, v4, v5, v6, v7, some V, v9, v10, v11, v12, v13, v14, v15, v16, v17, v18].set 11 (some it)).set 13 (some (.tup (ss.map Stp.pv)))).set 15 (some (.tup ((foundA ss V).map encP)))).set 16 (some (.str (rep (.tup (ss.map Stp.pv)))))
  have s1 : Same [11, 13, 14, 15, 16, 17] _ ρ1 := ((((Same.refl _ _).set (by decide)).set (by decide)).set (by decide)).set (by decide)
  obtain ⟨ρ2, s2, e9⟩ := plc_loop hl hv hV.s (feedO cs a2 b2 d3 :: (R1 ++ [.lst (Qs.map .tup)])) hgd Qs ρ1 hQ (by rw [s1.l]; rfl) (by rw [s1.e 8 (by decide)]; rfl)
  refine ⟨ρ2, a2, b2, d3, R1 ++ [.lst (Qs.map .tup)], s1.trans (s2.mono (by decide)), ha2, hb2, by omega, by omega, ?_⟩
  simp only [ρ1, List.set_cons_succ, List.set_cons_zero] at e9
  simp [forStep_ap, bPth, sPar, e1, e2, e3, e4, e5, e6, size_line, e8, hsrc, e9, e7, z7]
end
end EV
end
section
/-! N3: one step otherwise at any place. -/
set_option Elab.async false
set_option linter.all false
set_option maxRecDepth 100000
namespace EV.NV
open PySem PySem.Spec PyProof.Rows L2
@[simp] theorem wq_bnd {α β : Type} (r : Res α) (f : α → GH → Res β) (Q : β → GH → Prop) : @wq β (@bnd α β r ⟨f⟩) ⟨Q⟩ = @wq α r ⟨fun a G => @wq β (f a G) ⟨Q⟩⟩ := wq_bind r f Q
theorem wq_def {np : Nat} {N : List Str} {m : EV.Env → GH → Res Fl} {ps : List PV} {G : GH} {Q : PV → GH → Prop} (hl : ps.length = np) (h : @wq Fl (m (env0 N.length ps) G) ⟨fun fl G1 => @wq PV (bodyEnd fl G1) ⟨fun v G2 => @wq PV (trimR G (.ok v G2)) ⟨Q⟩⟩⟩) : @wq PV (defV np N m ps G) ⟨Q⟩ := by
  unfold defV
  rw [if_pos hl]
  rw [← wq_bind] at h
  generalize (m (env0 N.length ps) G).bind bodyEnd = r at h ⊢
  cases r with
  | ok v G2 => rw [wq_ok] at h; exact h
  | exc => rw [wq_exc] at h; exact h.elim
  | bad => rw [wq_bad] at h; exact h.elim
section
variable {ps : List PV} {i j : Int}
theorem cut_hi (h : 0 ≤ i) : cutP ps none (some i) = ps.take i.toNat := by
  unfold cutP HT.sIx
  simp only [List.drop_zero, Nat.sub_zero]
  rw [if_neg (by omega)]
  rcases Nat.le_total i.toNat ps.length with q | q
  · rw [Nat.min_eq_left q]
  · rw [Nat.min_eq_right q, List.take_length, List.take_of_length_le q]
theorem cut_lo (h : 0 ≤ i) : cutP ps (some i) none = ps.drop i.toNat := by
  unfold cutP HT.sIx
  simp only
  rw [if_neg (by omega)]
  rcases Nat.le_total i.toNat ps.length with q | q
  · rw [Nat.min_eq_left q, List.take_of_length_le (by rw [List.length_drop]; omega)]
  · rw [Nat.min_eq_right q, List.drop_of_length_le q]; simp
theorem cut_mid (h : 0 ≤ i) (k : i ≤ j) (l : j ≤ ps.length) : cutP ps (some i) (some j) = (ps.drop i.toNat).take (j - i).toNat := by
  unfold cutP HT.sIx
  simp only
  rw [if_neg (by omega), if_neg (by omega), Nat.min_eq_left (by omega), Nat.min_eq_left (by omega)]
  congr 1
  omega
end
theorem sm_tup {w d m : Nat} {qs : List PV} (h : ∀ x ∈ qs, fitX x = true ∧ dep x ≤ d ∧ lnm x ≤ m) (hw : wgts qs ≤ w) (hl : qs.length ≤ m) : Sm w (d + 1) m (.tup qs) := by
  refine ⟨by simp only [fitX]; exact fitXs_of fun x hx => (h x hx).1, by simp only [wgt]; exact hw, ?_, ?_⟩
  · have := deps_le fun x hx => (h x hx).2.1
    simp only [dep]; omega
  · have := lnms_le fun x hx => (h x hx).2.2
    simp only [lnm]; omega
theorem sm_lst {w d m : Nat} {qs : List PV} (h : ∀ x ∈ qs, fitX x = true ∧ dep x ≤ d ∧ lnm x ≤ m) (hw : wgts qs ≤ w) (hl : qs.length ≤ m) : Sm w (d + 1) m (.lst qs) := by
  refine ⟨by simp only [fitX]; exact fitXs_of fun x hx => (h x hx).1, by simp only [wgt]; exact hw, ?_, ?_⟩
  · have := deps_le fun x hx => (h x hx).2.1
    simp only [dep]; omega
  · have := lnms_le fun x hx => (h x hx).2.2
    simp only [lnm]; omega
theorem Sm.each {w d m : Nat} {ps : List PV} (h : Sm w (d + 1) m (.tup ps)) : ∀ x ∈ ps, fitX x = true ∧ dep x ≤ d ∧ lnm x ≤ m := fun x hx => let q := Sm.tup h x hx; ⟨q.f, q.d, q.m⟩
theorem Sm.ws {w d m : Nat} {ps : List PV} (h : Sm w d m (.tup ps)) : wgts ps ≤ w := by have := h.w; simpa only [wgt] using this
theorem wgts_split (ps : List PV) (k : Nat) : wgts (ps.take k) + wgts (ps.drop k) = wgts ps := by
  rw [← wgts_append, List.take_append_drop]
theorem wgts_drop_le (ps : List PV) (k : Nat) : wgts (ps.drop k) ≤ wgts ps := by have := wgts_split ps k; omega
theorem wgts_take_le (ps : List PV) (k : Nat) : wgts (ps.take k) ≤ wgts ps := by have := wgts_split ps k; omega
theorem wgts_set : ∀ (ps : List PV) (k : Nat) (x : PV), wgts (ps.set k x) ≤ wgts ps + wgt x
  | [], _, _ => by simp [wgts]
  | p :: ps, 0, x => by simp only [List.set_cons_zero, wgts]; omega
  | p :: ps, k + 1, x => by have := wgts_set ps k x; simp only [List.set_cons_succ, wgts]; omega
theorem wq_ix {ps : List PV} {i : Int} {G : GH} {Q : PV → GH → Prop} (h0 : 0 ≤ i) (h1 : i < ps.length) (k : ∀ x ∈ ps, Q x G) : @wq PV (ixR ps i G) ⟨Q⟩ := by
  obtain ⟨p, e, hp⟩ := atI_mem h0 h1
  exact wq_eq (ixR_some e) (k p hp)
theorem eq_tnil {ys : List PV} {G : GH} (h : fitXs ys = true) (d : deps ys ≤ 60) : Cop.eq.f [.tup ys, .tup []] G = .ok (.bl ys.isEmpty) G := by
  have q := fits_layX h
  have h1 : SeqAt.shaped (.tuple (dOfs ys)) = true := by
    simp only [SeqAt.shaped, PyData.canLay0, PyData.depth, q.1, Bool.true_and, decide_eq_true_eq]
    have := q.2.2.1
    exact decide_eq_true (by omega)
  have h2 : SeqAt.shaped (.tuple []) = true := by decide
  simp only [Cop.f, opEqN, eqP, scalP, toDG, toD, toDs_dat (dats_of_fitX h), toDs, Option.map_some, eqD]
  rw [if_pos ⟨h1, h2⟩]
  cases ys with
  | nil => simp [dOfs, PyData.eqv, PyData.eqvAll]
  | cons y ys => simp [dOfs, PyData.eqv, PyData.eqvAll]
def MenuOk (mn : List PV) : Prop := mn.length ≤ 100 ∧ 0 < mn.length ∧ ∀ x ∈ mn, Sm 1000 2 2 x
def SpSp (n : Nat) (f : List PV → GH → Res PV) : Prop := ∀ (D : Nat) (g : GO) (R : GH) (p : PV) (mn : List PV) (w m : Nat), Fd D g → D + 1000 * n ≤ 800000000 → Sm w n m p → m ≤ 4000 → MenuOk mn →
  @wq PV (f [.obj 0, p, .lst mn] (g :: R)) ⟨fun q G' => ∃ g', G' = g' :: R ∧ Fd (D + 3 * n + 3) g' ∧ Sm (3 * w + 1001) (n + 2) (m + 2) q⟩
theorem spoilt0 {fd fs} (hd : SpDraw fd) {n : Nat} {D : Nat} {g : GO} {R : GH} {p : PV} {mn : List PV} {w m : Nat} (hg : Fd D g) (hD : D ≤ 900000000) (hp : Sm w n m p) (hm : m ≤ 4000) (hmn : MenuOk mn) (nt : isTup p = false) :
    @wq PV (defV 3 K01.N__law_spoilt (K01.b__law_spoilt fd fs) [.obj 0, p, .lst mn] (g :: R)) ⟨fun q G' => ∃ g', G' = g' :: R ∧ Fd (D + 3 * n + 3) g' ∧ Sm (3 * w + 1001) (n + 2) (m + 2) q⟩ := by
  refine wq_def rfl ?_
  have it := isi_tup (G := g :: R) hp.dat
  obtain ⟨k1, k2, k3⟩ := hmn
  simp [K01.b__law_spoilt, K01.N__law_spoilt, env0]
  refine wq_draw hd hg (by decide) (by decide) (by omega) fun r g1 r0 r1 hg1 => ?_
  simp [isi_tup hp.dat, nt]
  refine wq_draw hd hg1 (by omega) (by omega) (by omega) fun r2 g2 q0 q1 hg2 => ?_
  simp
  refine wq_ix q0 q1 fun x hx => ?_
  simp
  exact ⟨hg2.mono (by omega), (k3 x hx).mono (by omega) (by omega) (by omega)⟩
theorem perm_sw {ps : List PV} {i j : Nat} {a b : PV} (hi : ps[i]? = some a) (hj : ps[j]? = some b) : wgts ((ps.set i b).set j a) ≤ 3 * wgts ps ∧ ∀ x ∈ (ps.set i b).set j a, x ∈ ps := by
  have ha := List.mem_of_getElem? hi
  have hb := List.mem_of_getElem? hj
  have h1 := wgts_set ps i b
  have h2 := wgts_set (ps.set i b) j a
  have w1 := wgts_mem ha
  have w2 := wgts_mem hb
  refine ⟨by omega, fun x hx => ?_⟩
  rcases List.mem_or_eq_of_mem_set hx with q | rfl
  · rcases List.mem_or_eq_of_mem_set q with q | rfl
    · exact q
    · exact hb
  · exact ha
theorem spoiltT {fd fs} (hd : SpDraw fd) {n : Nat} (hs : SpSp n fs) {D : Nat} {g : GO} {R : GH} {ps : List PV} {mn : List PV} {w m : Nat} (hg : Fd D g) (hD : D + 1000 * (n + 1) ≤ 800000000) (hp : Sm w (n + 1) m (.tup ps)) (hm : m ≤ 4000) (hn : n ≤ 50) (hmn : MenuOk mn) :
    @wq PV (defV 3 K01.N__law_spoilt (K01.b__law_spoilt fd fs) [.obj 0, .tup ps, .lst mn] (g :: R)) ⟨fun q G' => ∃ g', G' = g' :: R ∧ Fd (D + 3 * (n + 1) + 3) g' ∧ Sm (3 * w + 1001) (n + 1 + 2) (m + 2) q⟩ := by
  refine wq_def rfl ?_
  have hf : fitXs ps = true := by simpa only [fitX] using hp.f
  have hdp : deps ps ≤ 60 := by have := hp.d; simp only [dep] at this; omega
  have hw := hp.ws
  have hlen := hp.len
  have each := hp.each
  have eq0 := fun G => eq_tnil (G := G) hf hdp
  obtain ⟨k1, k2, k3⟩ := hmn
  simp [K01.b__law_spoilt, K01.N__law_spoilt, env0]
  refine wq_draw hd hg (by decide) (by decide) (by omega) fun r g1 r0 r1 hg1 => ?_
  have it := fun G => isi_tup (G := G) hp.dat
  simp [it, isTup, eq0]
  by_cases hz : ps = []
  · subst hz
    simp
    refine wq_draw hd hg1 (by omega) (by omega) (by omega) fun r2 g2 q0 q1 hg2 => ?_
    simp
    refine wq_ix q0 q1 fun x hx => ?_
    simp
    exact ⟨hg2.mono (by omega), (k3 x hx).mono (by omega) (by omega) (by omega)⟩
  have hpos : 0 < ps.length := List.length_pos_iff.mpr hz
  have hz2 : ps.isEmpty = false := by simpa using hz
  simp [hz]
  by_cases w0 : r = 0
  · subst w0
    simp
    refine wq_draw hd hg1 (by omega) (by omega) (by omega) fun r2 g2 q0 q1 hg2 => ?_
    simp
    refine wq_ix q0 q1 fun x hx => ?_
    simp
    exact ⟨hg2.mono (by omega), (k3 x hx).mono (by omega) (by omega) (by omega)⟩
  simp [w0]
  refine wq_draw hd hg1 (by omega) (by omega) (by omega) fun at_ g2 a0 a1 hg2 => ?_
  have a1' : at_.toNat < ps.length := by omega
  simp
  -- the parts
  have c1 : cutP ps none (some at_) = ps.take at_.toNat := cut_hi a0
  have c2 : cutP ps (some (at_ + 1)) none = ps.drop (at_ + 1).toNat := cut_lo (by omega)
  have c3 : cutP ps (some at_) none = ps.drop at_.toNat := cut_lo a0
  have c4 : cutP ps (some at_) (some (at_ + 1)) = (ps.drop at_.toNat).take 1 := by
    rw [cut_mid a0 (by omega) (by omega)]
    congr 1; omega
  have s1 := wgts_split ps at_.toNat
  have s2 := wgts_drop_le ps (at_ + 1).toNat
  have s3 := wgts_take_le (ps.drop at_.toNat) 1
  have e0 : ∀ x ∈ ps, fitX x = true ∧ dep x ≤ n + 2 ∧ lnm x ≤ m + 2 := fun x hx => by
    have q := each x hx
    exact ⟨q.1, by omega, by omega⟩
  have memT : ∀ k, ∀ x ∈ ps.take k, x ∈ ps := fun k x hx => List.mem_of_mem_take hx
  have memD : ∀ k, ∀ x ∈ ps.drop k, x ∈ ps := fun k x hx => List.mem_of_mem_drop hx
  have sz := size_line
  by_cases w1 : r = 1
  · subst w1
    simp [c1, c2, c3, c4, sz]
    rw [if_pos (by omega)]
    simp [c1, c2, c3, c4, sz]
    refine ⟨hg2.mono (by omega), sm_tup (d := n + 2) (fun x hx => ?_) ?_ ?_⟩
    · rcases List.mem_append.mp hx with q | q
      · exact e0 x (memT _ x q)
      · exact e0 x (memD _ x q)
    · rw [wgts_append]; omega
    · simp only [List.length_append, List.length_take, List.length_drop]; omega
  simp [w1]
  by_cases w2 : r = 2
  · subst w2
    simp [c1, c2, c3, c4, sz]
    rw [if_pos (by omega)]
    simp [c1, c2, c3, c4, sz]
    rw [if_pos (by omega)]
    simp [c1, c2, c3, c4, sz]
    refine ⟨hg2.mono (by omega), sm_tup (d := n + 2) (fun x hx => ?_) ?_ ?_⟩
    · simp only [List.mem_append] at hx
      rcases hx with q | q | q
      · exact e0 x (memT _ x q)
      · exact e0 x (memD _ x (List.mem_of_mem_take q))
      · exact e0 x (memD _ x q)
    · simp only [wgts_append]; omega
    · simp only [List.length_append, List.length_take, List.length_drop]; omega
  simp [w2]
  by_cases w3 : r = 3
  · subst w3
    simp [c1, c2, c3, c4, sz]
    refine wq_draw hd hg2 (by omega) (by omega) (by omega) fun r2 g3 q0 q1 hg3 => ?_
    simp [c1, c2, c3, c4, sz]
    refine wq_ix q0 q1 fun y hy => ?_
    have ky := k3 y hy
    have y1 := ky.w
    have y2 := ky.d
    have y3 := ky.m
    simp [c1, c2, c3, c4, sz]
    rw [if_pos (by omega)]
    simp [c1, c2, c3, c4, sz]
    rw [if_pos (by omega)]
    simp [c1, c2, c3, c4, sz]
    refine ⟨hg3.mono (by omega), sm_tup (d := n + 2) (fun x hx => ?_) ?_ ?_⟩
    · simp only [List.mem_append, List.mem_cons] at hx
      rcases hx with q | rfl | q
      · exact e0 x (memT _ x q)
      · exact ⟨ky.f, by omega, by omega⟩
      · exact e0 x (memD _ x q)
    · simp only [wgts_append, wgts]; omega
    · simp only [List.length_append, List.length_take, List.length_drop, List.length_cons]; omega
  simp [w3]
  by_cases w4 : r = 4
  · subst w4
    simp [sPar]
    refine wq_draw hd hg2 (by omega) (by omega) (by omega) fun ot g3 q0 q1 hg3 => ?_
    have ot1 : ot.toNat < ps.length := by omega
    obtain ⟨b, hb⟩ : ∃ b, ps[ot.toNat]? = some b := ⟨_, List.getElem?_eq_getElem ot1⟩
    obtain ⟨a, ha⟩ : ∃ a, ps[at_.toNat]? = some a := ⟨_, List.getElem?_eq_getElem a1'⟩
    obtain ⟨pw, pm⟩ := perm_sw ha hb
    have x1 : ∀ G, ixR ps ot G = .ok b G := fun G => ixR_some (by unfold L2.atI; rw [ixN_ok q0 (by omega)]; exact hb)
    have x2 : ∀ G, ixR ps at_ G = .ok a G := fun G => ixR_some (by unfold L2.atI; rw [ixN_ok a0 (by omega)]; exact ha)
    have f1 := fSetL_obj (G := g3 :: (R ++ [.lst ps])) (k := R.length + 1) (ps := ps) (i := at_) (x := b) (by simp) a0 (by omega)
    have f2 := fSetL_obj (G := g3 :: (R ++ [.lst (ps.set at_.toNat b)])) (k := R.length + 1) (ps := ps.set at_.toNat b) (i := ot) (x := a) (by simp) q0 (by rw [List.length_set]; omega)
    have tr := fun p (h : datB p = true) => trim_fd (g := g) (R := R) (S := [.lst ((ps.set at_.toNat b).set ot.toNat a)]) (p := p) hg3 h
    simp [bLst, asS, x1, x2, sz, gSubE, gTupE, gConsE, gNilE]
    refine wq_eq f1 ?_
    simp [gSubE, gConsE, gNilE]
    refine wq_eq f2 ?_
    have e4 : asS (.obj (R.length + 1)) (g3 :: (R ++ [.lst ((ps.set at_.toNat b).set ot.toNat a)])) = some ((ps.set at_.toNat b).set ot.toNat a) := by simp [asS, asL]
    have hq : Sm (3 * w + 1001) (n + 1 + 2) (m + 2) (.tup ((ps.set at_.toNat b).set ot.toNat a)) := sm_tup (d := n + 2) (fun x hx => e0 x (pm x hx)) (by omega) (by simp only [List.length_set]; omega)
    simp [bTup, e4, gNilE]
    rw [tr _ hq.dat]
    simp
    exact ⟨hg3.mono (by omega), hq⟩
  simp [w4]
  by_cases w5 : r = 5
  · subst w5
    simp [bLst, asS]
    refine ⟨hg2.mono (by omega), sm_lst (d := n + 2) (fun x hx => e0 x hx) (by omega) (by omega)⟩
  simp [w5]
  have hy : ps[at_.toNat] ∈ ps := List.getElem_mem a1'
  have hwd : wgts (ps.drop at_.toNat) = wgt (ps[at_.toNat]) + 1 + wgts (ps.drop (at_.toNat + 1)) := by
    rw [List.drop_eq_getElem_cons a1', wgts]
  have x2 : ∀ G, ixR ps at_ G = .ok (ps[at_.toNat]) G := fun G => ixR_some (by unfold L2.atI; rw [ixN_ok a0 (by omega)]; exact List.getElem?_eq_getElem a1')
  refine wq_eq (x2 _) ?_
  generalize ps[at_.toNat] = y at hy hwd
  have hy' := Sm.tup hp y hy
  have hwy := wgts_mem hy
  simp
  refine wq_use (hs _ g2 R y mn (wgt y) m hg2 (by omega) ⟨hy'.f, Nat.le_refl _, hy'.d, hy'.m⟩ hm ⟨k1, k2, k3⟩) fun q G' ⟨g3, e, hg3, hq⟩ => ?_
  subst e
  simp [c1, c2, c3, c4, sz]
  rw [if_pos (by omega)]
  simp [c1, c2, c3, c4, sz]
  rw [if_pos (by omega)]
  simp
  have hqw := hq.w
  have hqd := hq.d
  have hqm := hq.m
  have e7 : (at_ + 1).toNat = at_.toNat + 1 := by omega
  refine ⟨hg3.mono (by omega), sm_tup (d := n + 2) (fun x hx => ?_) ?_ ?_⟩
  · simp only [List.mem_append, List.mem_cons] at hx
    rcases hx with q | rfl | q
    · exact e0 x (memT _ x q)
    · exact ⟨hq.f, by omega, by omega⟩
    · exact e0 x (memD _ x q)
  · simp only [wgts_append, wgts, e7]; omega
  · simp only [List.length_append, List.length_take, List.length_drop, List.length_cons]; omega
theorem spoiltS {fd fs} (hd : SpDraw fd) {n : Nat} (hs : SpSp n fs) (hn : n ≤ 50) {D : Nat} {g : GO} {R : GH} {p : PV} {mn : List PV} {w m : Nat} (hg : Fd D g) (hD : D + 1000 * (n + 1) ≤ 800000000) (hp : Sm w (n + 1) m p) (hm : m ≤ 4000) (hmn : MenuOk mn) :
    @wq PV (defV 3 K01.N__law_spoilt (K01.b__law_spoilt fd fs) [.obj 0, p, .lst mn] (g :: R)) ⟨fun q G' => ∃ g', G' = g' :: R ∧ Fd (D + 3 * (n + 1) + 3) g' ∧ Sm (3 * w + 1001) (n + 1 + 2) (m + 2) q⟩ := by
  cases p with
  | tup ps => exact spoiltT hd hs hg hD hp hm hn hmn
  | _ => exact spoilt0 hd hg (by omega) hp hm hmn rfl
end EV.NV
end
section
/-! N4: texts by draws, things beside a value. -/
set_option Elab.async false
set_option linter.all false
set_option maxRecDepth 100000
namespace EV.NV
open PySem PySem.Spec PyProof.Rows L2
theorem app_list (x y : Str) : (x ++ y).cps.toList = x.cps.toList ++ y.cps.toList := by
  show (x.cps ++ y.cps).toList = _
  simp
theorem join_sg : ∀ l : List Nat, (Txt.join "" (l.map fun c => (⟨#[c]⟩ : Str))).cps.toList = l
  | [] => by rw [Txt.join, PySem.StrLaws.glued_eq_join]; rfl
  | [c] => by rw [Txt.join, PySem.StrLaws.glued_eq_join]; rfl
  | c :: d :: l => by
    have ih := join_sg (d :: l)
    rw [Txt.join, PySem.StrLaws.glued_eq_join] at ih ⊢
    simp only [List.map_cons] at ih ⊢
    rw [Str.join, app_list, app_list, ih]
    · rfl
    · simp
theorem sum_one : ∀ l : List Nat, ((l.map fun c => (⟨#[c]⟩ : Str)).map (·.length)).sum = l.length
  | [] => rfl
  | c :: l => by
    have ih := sum_one l
    rw [List.map_cons, List.map_cons, List.sum_cons, ih, List.length_cons]
    exact Nat.add_comm 1 l.length
theorem sm_str {x : Str} {k w d m : Nat} (h : ∀ c ∈ x.cps.toList, c < 1114112) (hl : x.cps.toList.length ≤ k) (hk : k ≤ 4000) (hw : k ≤ w) : Sm w d m (.str x) := by
  have e : x.cps.size = x.cps.toList.length := by simp
  refine ⟨?_, by simp only [wgt]; omega, by simp [dep], by simp [lnm]⟩
  simp only [fitX, Bool.and_eq_true, decide_eq_true_eq]
  refine ⟨?_, by omega⟩
  simp only [PyData.strOk, Array.all_eq_true_iff_forall_mem]
  intro c hc
  simpa using h c (Array.mem_toList_iff.mpr hc)
section
variable {G : GH}
theorem ix_str {z : Str} {i : Int} {c : Nat} (hz : z.cps.size ≤ 4000) (h : L2.atI z.cps.toList i = some c) : opIx [.str z, .int i] G = .ok (sg c) G := by
  have : z.length ≤ sizeLine := by rw [size_line]; show z.cps.size ≤ _; omega
  simp only [opIx, if_pos this, h]; rfl
theorem atI_memN {ps : List Nat} {i : Int} (h : 0 ≤ i) (k : i < ps.length) : ∃ p, L2.atI ps i = some p ∧ p ∈ ps := by
  have z : i.toNat < ps.length := by omega
  refine ⟨ps[i.toNat], ?_, List.getElem_mem z⟩
  unfold L2.atI
  rw [ixN_ok h k]
  exact List.getElem?_eq_getElem z
theorem rg_ok {i : Int} (h0 : 0 ≤ i) (h1 : i ≤ 1000000) : rgSrc [.int i] G = .ok ⟨rgIts 0 i.toNat, fun _ => true⟩ G := by
  simp only [rgSrc]; rw [if_pos ⟨by omega, by omega, by rw [size_line]; omega⟩]
end
/-- the first n numbers, walked -/
theorem rg_len (n : Nat) : (rgIts 0 n).length = n := by simp [rgIts]
@[simp] theorem wq_noX {α : Type} (r : Res α) (Q : α → GH → Prop) : @wq α (noX r) ⟨Q⟩ = @wq α r ⟨Q⟩ := by
  cases r with
  | ok a G => rfl
  | exc c fs G => rw [wq_exc]; exact wq_bad Q
  | bad => rfl
def SpG (c : Nat) (P : PV → Prop) (f : List PV → GH → Res PV) (args : List PV) : Prop := ∀ (D : Nat) (g : GO) (R : GH), Fd D g → D + c ≤ 900000000 → @wq PV (f (.obj 0 :: args) (g :: R)) ⟨fun q G' => ∃ g', G' = g' :: R ∧ Fd (D + c) g' ∧ P q⟩
/-- signs that are drawn -/
theorem draw_signs {fd} (hd : SpDraw fd) {z : Str} (hz : z.cps.toList.length = 9) {tg : PV → EV.Env → GH → Res EV.Env} {el : EV.Env → GH → Res PV} {own : List Nat} {ρ : EV.Env} {R : GH}
    (he : ∀ x g (Q : Option PV → GH → Prop), @wq PV (fd [.obj 0, .int 9] (g :: R)) ⟨fun i G2 => @wq PV (opIx [.str z, i] G2) ⟨fun y G3 => @wq (Option PV) (.ok (some y) G3) ⟨Q⟩⟩⟩ → @wq (Option PV) (compF tg mYes el own ρ x (g :: R)) ⟨Q⟩) :
    ∀ (its : List PV) (D : Nat) (g : GO), Fd D g → D + its.length ≤ 900000000 → @wq (List PV) (loopC (compF tg mYes el own ρ) (fun _ => true) its (g :: R)) ⟨fun ys G' => ∃ (g' : GO) (l : List Nat), G' = g' :: R ∧ Fd (D + its.length) g' ∧ ys = l.map sg ∧ l.length = its.length ∧ ∀ c ∈ l, c ∈ z.cps.toList⟩
  | [], D, g, hg, _ => by
    simp only [loopC, if_true, wq_ok]
    exact ⟨g, [], rfl, hg, rfl, rfl, fun c hc => absurd hc List.not_mem_nil⟩
  | x :: xs, D, g, hg, hD => by
    rw [List.length_cons] at hD
    simp only [loopC, if_true, wq_bind, wq_ok]
    refine he _ _ _ ?_
    refine wq_draw hd hg (by decide) (by decide) (by omega) fun i g1 i0 i1 hg1 => ?_
    obtain ⟨c, e, hc⟩ := atI_memN (ps := z.cps.toList) i0 (by omega)
    have hz' : z.cps.size ≤ 4000 := by have : z.cps.size = z.cps.toList.length := by simp
                                       omega
    simp only [wq_bind, ix_str hz' e, wq_ok]
    refine wq_use (draw_signs hd hz he xs (D + 1) g1 hg1 (by omega)) fun ys G' ⟨g2, l, e1, h2, e2, e3, e4⟩ => ?_
    subst e1 e2
    refine (wq_ok _ _ _).mpr ⟨g2, c :: l, rfl, h2.mono (by rw [List.length_cons]; omega), rfl, by rw [List.length_cons, List.length_cons, e3], fun d hd => ?_⟩
    rcases List.mem_cons.mp hd with rfl | hd
    · exact hc
    · exact e4 d hd
theorem letters_sp {fd} (hd : SpDraw fd) {d m : Nat} : SpG 30 (Sm 20 d m) (defV 1 K01.N__law_letters (K01.b__law_letters fd)) [] := by
  intro D g R hg hD
  refine wq_def rfl ?_
  simp [K01.b__law_letters, K01.N__law_letters, env0, size_line]
  refine wq_draw hd hg (by decide) (by decide) (by omega) fun r g1 r0 r1 hg1 => ?_
  simp
  refine wq_ix r0 (by simpa using r1) fun x hx => ?_
  obtain ⟨c, rfl, hc⟩ : ∃ c, x = sg c ∧ c < 200 := by
    simp only [List.mem_cons, List.not_mem_nil, or_false] at hx
    rcases hx with rfl | rfl | rfl | rfl | rfl | rfl | rfl | rfl
    · exact ⟨97, rfl, by decide⟩
    · exact ⟨65, rfl, by decide⟩
    · exact ⟨32, rfl, by decide⟩
    · exact ⟨95, rfl, by decide⟩
    · exact ⟨96, rfl, by decide⟩
    · exact ⟨123, rfl, by decide⟩
    · exact ⟨47, rfl, by decide⟩
    · exact ⟨58, rfl, by decide⟩
  have z0 : ("abz019yt" : Str).cps.toList = [97, 98, 122, 48, 49, 57, 121, 116] := by decide +kernel
  have z1 : (("abz019yt" : Str) ++ ⟨#[c]⟩).cps.toList = [97, 98, 122, 48, 49, 57, 121, 116, c] := by rw [app_list, z0]; rfl
  have a1 : ∀ G, opAdd [.str "abz019yt", sg c] G = .ok (.str (("abz019yt" : Str) ++ ⟨#[c]⟩)) G := fun G => by
    have : ("abz019yt" : Str).length + (⟨#[c]⟩ : Str).length ≤ sizeLine := by
      have e1 : ("abz019yt" : Str).length = 8 := by decide +kernel
      have e2 : (⟨#[c]⟩ : Str).length = 1 := rfl
      rw [e1, e2, size_line]; decide
    show opAdd [.str "abz019yt", .str ⟨#[c]⟩] G = _
    simp only [opAdd, if_pos this]
  generalize ("abz019yt" : Str) ++ ⟨#[c]⟩ = z at z1 a1
  simp [a1]
  refine wq_draw hd hg1 (by decide) (by decide) (by omega) fun r2 g2 p0 p1 hg2 => ?_
  simp [size_line]
  refine wq_draw hd hg2 (by decide) (by decide) (by omega) fun r3 g3 q0 q1 hg3 => ?_
  simp
  refine wq_ix q0 (by simpa using q1) fun y hy => ?_
  obtain ⟨k, rfl, k0, k1⟩ : ∃ k : Int, y = .int k ∧ 0 ≤ k ∧ k ≤ 17 := by
    simp only [List.mem_cons, List.not_mem_nil, or_false] at hy
    rcases hy with rfl | rfl | rfl | rfl | rfl
    · exact ⟨r2, rfl, by omega, by omega⟩
    · exact ⟨8, rfl, by omega, by omega⟩
    · exact ⟨9, rfl, by omega, by omega⟩
    · exact ⟨16, rfl, by omega, by omega⟩
    · exact ⟨17, rfl, by omega, by omega⟩
  have rl := rg_len k.toNat
  simp [mMet, tyP, mComp_ap, mRng, rg_ok k0 (show k ≤ 1000000 by omega)]
  refine wq_use (draw_signs hd (z := z) (by rw [z1]; rfl) (fun x g Q h => by
      simp only [compF, wipeE, List.set, gN_ap, mYes_ap, wq_bind, wq_noX, wq_ok, if_true, m2_ap, mA_ap, mCons_ap, mVar_ap, mCst_ap, mNil_ap, List.getElem?_cons_zero, List.getElem?_cons_succ]
      exact h) (rgIts 0 k.toNat) _ g3 hg3 (by rw [rl]; omega)) fun ys G' ⟨g4, l, e1, h4, e2, e3, e4⟩ => ?_
  subst e1 e2
  have jl := join_sg l
  have fj : fJoin (.str "") [.lst (l.map sg)] (g4 :: R) = .ok (.str (Txt.join "" (l.map fun c => (⟨#[c]⟩ : Str)))) (g4 :: R) := by
    have es : strsOf (l.map sg) = some (l.map fun c => (⟨#[c]⟩ : Str)) := by
      rw [show l.map sg = (l.map fun c => (⟨#[c]⟩ : Str)).map PV.str by rw [List.map_map]; rfl, strsOf_map]
    have hs : ((l.map fun c => (⟨#[c]⟩ : Str)).map (·.length)).sum + (l.map fun c => (⟨#[c]⟩ : Str)).length * ("" : Str).length ≤ 16777216 := by
      have e0 : ("" : Str).length = 0 := by decide +kernel
      rw [e0, Nat.mul_zero, Nat.add_zero, sum_one]
      omega
    simp only [fJoin, asS, asL, es, if_pos hs]
  simp [fj]
  refine ⟨h4.mono (by omega), sm_str (k := 17) (fun c hc => ?_) (by rw [jl]; omega) (by decide) (by decide)⟩
  rw [jl] at hc
  have := e4 c hc
  rw [z1] at this
  simp only [List.mem_cons, List.not_mem_nil, or_false] at this
  omega
end EV.NV
end
section
/-! N5: things beside a value. -/
set_option Elab.async false
set_option linter.all false
set_option maxRecDepth 100000
namespace EV.NV
open PySem PySem.Spec PyProof.Rows L2
theorem wq_trim_obj {G G1 : GH} {k : Nat} {Q : PV → GH → Prop} (h : G.length ≤ k) (q : Q (.obj k) G1) : @wq PV (trimR G (.ok (.obj k) G1)) ⟨Q⟩ := by
  have e : trimR G (.ok (.obj k) G1) = .ok (.obj k) G1 := by
    simp only [trimR]
    rw [if_neg]
    intro z
    have := z.1
    simp only [PV.refsB, Bool.and_eq_true, decide_eq_true_eq] at this
    omega
  rw [e, wq_ok]; exact q
theorem ok1 : PyData.strOk "row" = true := by decide +kernel
theorem sz1 : ("row" : Str).cps.size = 3 := by decide +kernel
theorem ok2 : PyData.strOk "tree" = true := by decide +kernel
theorem sz2 : ("tree" : Str).cps.size = 4 := by decide +kernel
theorem ok3 : PyData.strOk "rows" = true := by decide +kernel
theorem sz3 : ("rows" : Str).cps.size = 4 := by decide +kernel
theorem ok4 : PyData.strOk "a" = true := by decide +kernel
theorem sz4 : ("a" : Str).cps.size = 1 := by decide +kernel
theorem ok5 : PyData.strOk "b" = true := by decide +kernel
theorem sz5 : ("b" : Str).cps.size = 1 := by decide +kernel
theorem ok6 : PyData.strOk "A" = true := by decide +kernel
theorem sz6 : ("A" : Str).cps.size = 1 := by decide +kernel
theorem ok7 : PyData.strOk "" = true := by decide +kernel
theorem sz7 : ("" : Str).cps.size = 0 := by decide +kernel
theorem log1 : Nat.log2 1 = 0 := by decide +kernel
theorem wgts_rev (ps : List PV) : wgts ps.reverse = wgts ps := by
  induction ps with
  | nil => rfl
  | cons p ps ih => rw [List.reverse_cons, wgts_append, ih]; simp only [wgts]; omega
theorem deps_rev (ps : List PV) : deps ps.reverse = deps ps := by
  induction ps with
  | nil => rfl
  | cons p ps ih => rw [List.reverse_cons, deps_append, ih]; simp only [deps]; omega
theorem lnms_rev (ps : List PV) : lnms ps.reverse = lnms ps := by
  induction ps with
  | nil => rfl
  | cons p ps ih => rw [List.reverse_cons, lnms_append, ih]; simp only [lnms]; omega
theorem fitXs_rev (ps : List PV) : fitXs ps.reverse = fitXs ps := by
  rw [fitXs_all, fitXs_all, List.all_reverse]
theorem fitXs_app (ps qs : List PV) : fitXs (ps ++ qs) = (fitXs ps && fitXs qs) := by
  rw [fitXs_all, fitXs_all, fitXs_all, List.all_append]
def NearQ (w n m : Nat) (G : GH) (q : PV) (G' : GH) : Prop := ∃ (k : Nat) (ys : List PV) (R' : GH), q = .obj k ∧ G' = G ++ R' ∧ G'[k]? = some (.lst ys) ∧ ys.length ≤ 40 ∧ ∀ y ∈ ys, Sm (2 * w + 60) (n + 6) (2 * m + 8) y
theorem near_sp {p : PV} {G : GH} {w n m : Nat} (h : Sm w n m p) (hp : isTup p = true → ∃ s xs, p = .tup [.str s, .tup xs] ∧ xs.length ≤ 500) :
    @wq PV (defV 1 K01.N__law_near K01.b__law_near [p] G) ⟨NearQ w n m G⟩ := by
  refine wq_def rfl ?_
  have it := fun G => isi_tup (G := G) h.dat
  have hf := h.f
  have hw := h.w
  have hd := h.d
  have hm := h.m
  simp [K01.b__law_near, K01.N__law_near, env0, size_line, opAddO, asL, mMet, tyP, fAppend]
  cases ht : isTup p with
  | false =>
    simp [it, ht]
    refine wq_trim_obj (by omega) ⟨_, _, _, rfl, rfl, by simp; rfl, by simp, ?_⟩
    simp only [List.forall_mem_cons]
    repeat' apply And.intro
    all_goals first
      | exact fun x hx => absurd hx List.not_mem_nil
      | (refine ⟨?_, ?_, ?_, ?_⟩ <;> (try simp [fitX, fitXs, wgt, wgts, dep, deps, lnm, lnms, hf, ok1, ok2, ok3, ok4, ok5, ok6, ok7, sz1, sz2, sz3, sz4, sz5, sz6, sz7, log1]) <;> (try omega))
  | true =>
    obtain ⟨s, xs, rfl, hx⟩ := hp ht
    have hxs := xs.length
    have r1 : ∀ ps G, opRev [.tup ps] G = .ok (.tup ps.reverse) G := fun _ _ => rfl
    have r2 : ∀ G, opMul [.tup xs, .int 2] G = .ok (.tup (xs ++ xs)) G := fun G => by
      have e : (List.replicate (2 : Int).toNat xs).flatten = xs ++ xs := by simp
      simp only [opMul, e]
      rw [if_pos ⟨by decide, by decide, by omega⟩]
    have f2 : fitXs xs = true ∧ (PyData.strOk s = true ∧ s.cps.size ≤ 4000) := by
      simp only [fitX, fitXs, Bool.and_eq_true, decide_eq_true_eq] at hf
      exact ⟨hf.2.1, hf.1⟩
    have hf2 := f2.1
    have hf3 := f2.2.1
    have hf4 := f2.2.2
    simp only [wgt, wgts] at hw
    simp only [dep, deps] at hd
    simp only [lnm, lnms] at hm
    simp [it, isTup, r1, r2, bLst, asS, size_line, opAddO, asL]
    refine wq_trim_obj (by omega) ⟨_, _, _, rfl, rfl, by simp; rfl, by simp, ?_⟩
    simp only [List.forall_mem_cons]
    repeat' apply And.intro
    all_goals first
      | exact fun x hx => absurd hx List.not_mem_nil
      | (refine ⟨?_, ?_, ?_, ?_⟩ <;> (try simp [fitX, fitXs, wgt, wgts, dep, deps, lnm, lnms, hf, ok1, ok2, ok3, ok4, ok5, ok6, ok7, sz1, sz2, sz3, sz4, sz5, sz6, sz7, log1, hf2, hf3, hf4, wgts_rev, deps_rev, lnms_rev, fitXs_rev, wgts_append, deps_append, lnms_append, fitXs_app]) <;> (try simp only [List.length_cons, List.length_nil] at hm) <;> (try omega))
end EV.NV
end
section
/-! N6: the law of values by kind. -/
set_option Elab.async false
set_option linter.all false
set_option maxRecDepth 100000
namespace EV.NV
open PySem PySem.Spec PyProof.Rows L2
/-! ### documents are small -/
theorem plains_sm : ∀ p ∈ plains, Sm 20 0 3 p := by
  have t : plains.all (fun p => fitX p && decide (wgt p ≤ 20) && decide (dep p ≤ 0) && decide (lnm p ≤ 3)) = true := by decide +kernel
  intro p hp
  have := List.all_eq_true.mp t p hp
  simp only [Bool.and_eq_true, decide_eq_true_eq] at this
  exact ⟨this.1.1.1, this.1.1.2, this.1.2, this.2⟩
theorem pool_sm : ∀ s ∈ pool6, PyData.strOk s = true ∧ s.cps.size ≤ 3 := by
  have t : pool6.all (fun s => PyData.strOk s && decide (s.cps.size ≤ 3)) = true := by decide +kernel
  intro p hp
  have := List.all_eq_true.mp t p hp
  simp only [Bool.and_eq_true, decide_eq_true_eq] at this
  exact this
theorem plains_nt : ∀ p ∈ plains, isTup p = false := by
  have t : plains.all (fun p => !isTup p) = true := by decide +kernel
  intro p hp
  have := List.all_eq_true.mp t p hp
  simpa using this
theorem row_sm {xs : List PV} {w d m c : Nat} (h : ∀ x ∈ xs, Sm w d m x) (hc : xs.length ≤ c) (hcm : c ≤ m) (h2 : 2 ≤ m) : Sm (5 + c * (w + 1)) (d + 2) m (rowV xs) := by
  have hw := wgts_le fun x hx => (h x hx).w
  have hm : xs.length * (w + 1) ≤ c * (w + 1) := Nat.mul_le_mul_right _ hc
  have hf := fitXs_of fun x hx => (h x hx).f
  have hd := deps_le fun x hx => (h x hx).d
  have hl := lnms_le fun x hx => (h x hx).m
  refine ⟨by simp [rowV, fitX, fitXs, hf, ok1, sz1], by simp [rowV, wgt, wgts, sz1]; omega, by simp [rowV, dep, deps]; omega, by simp [rowV, lnm, lnms]; omega⟩
theorem tree_sm {kv : List (Str × PV)} {w d m c : Nat} (h : ∀ q ∈ kv, Sm w d m q.2) (hp : ∀ q ∈ kv, q.1 ∈ pool6) (hc : kv.length ≤ c) (hcm : c ≤ m) (h2 : 2 ≤ m) : Sm (6 + c * (w + 6)) (d + 3) m (treeV kv) := by
  have q1 : ∀ x ∈ kv.map fldV, Sm (w + 5) (d + 1) m x := fun x hx => by
    obtain ⟨q, hq, rfl⟩ := List.mem_map.mp hx
    have s := h q hq
    have p := pool_sm _ (hp q hq)
    have f := s.f
    have f1 := s.w
    have f2 := s.d
    have f3 := s.m
    refine ⟨?_, ?_, ?_, ?_⟩
    · simp [fldV, fitX, fitXs, f, p.1]; omega
    · simp [fldV, wgt, wgts]; omega
    · simp [fldV, dep, deps]; omega
    · simp [fldV, lnm, lnms]; omega
  have hw := wgts_le fun x hx => (q1 x hx).w
  rw [List.length_map] at hw
  have hm : kv.length * (w + 5 + 1) ≤ c * (w + 6) := Nat.mul_le_mul_right _ hc
  have hf := fitXs_of fun x hx => (q1 x hx).f
  have hd := deps_le fun x hx => (q1 x hx).d
  have hl := lnms_le fun x hx => (q1 x hx).m
  refine ⟨by simp [treeV, fitX, fitXs, hf, ok2, sz2], by simp [treeV, wgt, wgts, sz2]; omega, by simp [treeV, dep, deps]; omega, by simp [treeV, lnm, lnms]; omega⟩
def docW : Nat → Nat
  | 0 => 20
  | n + 1 => 3 * docW n + 24
theorem doc_sm : ∀ {n : Nat} {p : PV}, Doc n p → Sm (docW n) (3 * n) 3 p
  | 0, p, h => plains_sm p h
  | n + 1, p, h => by
    rcases h with h | ⟨xs, rfl, hl, h⟩ | ⟨kv, rfl, hl, _, hp, h⟩
    · exact (plains_sm p h).mono (by have : 20 ≤ docW n := by { clear h; induction n with | zero => exact Nat.le_refl _ | succ n ih => rw [docW]; omega }
                                     rw [docW]; omega) (by omega) (by omega)
    · exact (row_sm (c := 3) (fun x hx => doc_sm (h x hx)) hl (Nat.le_refl _) (by decide)).mono (by rw [docW]; omega) (by omega) (Nat.le_refl _)
    · exact (tree_sm (c := 3) (fun q hq => doc_sm (h q hq)) hp hl (Nat.le_refl _) (by decide)).mono (by rw [docW]; omega) (by omega) (Nat.le_refl _)
/-- a value of the laws: small, and a pair where it is a tuple -/
def One (p : PV) : Prop := Sm 4400 12 5 p ∧ (isTup p = true → ∃ s xs, p = .tup [.str s, .tup xs] ∧ xs.length ≤ 500)
theorem doc_one {p : PV} (h : Doc 3 p) : One p := by
  refine ⟨(doc_sm h).mono (by decide) (by decide) (by decide), fun t => ?_⟩
  rcases h with h | ⟨xs, rfl, hl, h⟩ | ⟨kv, rfl, hl, _, hp, h⟩
  · rw [plains_nt p h] at t; cases t
  · exact ⟨_, _, rfl, by omega⟩
  · exact ⟨_, _, rfl, by rw [List.length_map]; omega⟩
theorem docT_one {p : PV} (h : DocT p) : One p := by
  obtain ⟨kv, rfl, hl, _, hp, h⟩ := h
  refine ⟨(tree_sm (c := 5) (w := 852) (d := 9) (m := 5) (fun q hq => (doc_sm (h q hq)).mono (by decide) (by decide) (by decide)) hp hl (by decide) (by decide)).mono (by decide) (by decide) (by decide), fun _ => ⟨_, _, rfl, by rw [List.length_map]; omega⟩⟩
/-! ### the makers, as wanted -/
theorem wq_doc {f} (hf : SpDoc f) {D : Nat} {g : GO} {R : GH} {Q : PV → GH → Prop} (hg : Fd D g) (hD : D ≤ 900000000) (k : ∀ p g', One p → Fd (D + 1000) g' → Q p (g' :: R)) : @wq PV (f [.obj 0] (g :: R)) ⟨Q⟩ := by
  obtain ⟨cs, a, b, d, rfl, h1, h2, h3, h4⟩ := hg
  obtain ⟨p, a', b', d', q1, q2, q3, q4, q5, e⟩ := hf cs a b d R h1 h2 h3 (by omega)
  exact wq_eq e (k p _ (docT_one q1) ⟨cs, a', b', d', rfl, q2, q3, by omega, by omega⟩)
theorem wq_val {f} (hf : SpVal 3 f) {D : Nat} {g : GO} {R1 R2 : GH} {l : Int} {Q : PV → GH → Prop} (hg : Fd D g) (hD : D ≤ 900000000) (k : ∀ p g' l', One p → Fd (D + 1000) g' → Q p (g' :: (R1 ++ .lst [.int l'] :: R2))) :
    @wq PV (f [.obj 0, .int 3, .obj (R1.length + 1)] (g :: (R1 ++ .lst [.int l] :: R2))) ⟨Q⟩ := by
  obtain ⟨cs, a, b, d, rfl, h1, h2, h3, h4⟩ := hg
  have m3 : most 3 = 119 := by decide
  obtain ⟨p, a', b', d', l', q1, q2, q3, q4, q5, e⟩ := hf cs a b d l R1 R2 h1 h2 h3 (by rw [m3]; omega)
  rw [m3] at q5
  exact wq_eq e (k p _ l' (doc_one q1) ⟨cs, a', b', d', rfl, q2, q3, by omega, by omega⟩)
theorem wq_plain {f} (hf : SpPlain f) {D : Nat} {g : GO} {R : GH} {Q : PV → GH → Prop} (hg : Fd D g) (hD : D ≤ 900000000) (k : ∀ p g', One p → Fd (D + 1) g' → Q p (g' :: R)) : @wq PV (f [.obj 0] (g :: R)) ⟨Q⟩ := by
  obtain ⟨cs, a, b, d, rfl, h1, h2, h3, h4⟩ := hg
  obtain ⟨p, a', b', q1, q2, q3, e⟩ := hf cs a b d R h1 h2 h3 (by omega)
  exact wq_eq e (k p _ ⟨(plains_sm p q1).mono (by decide) (by decide) (by decide), fun t => by rw [plains_nt p q1] at t; cases t⟩ ⟨cs, a', b', d + 1, rfl, q2, q3, by omega, by omega⟩)
/-! ### one thing, looked at -/
theorem doc_val {n : Nat} {p : PV} (h : isTup p = true) (hv : valN (n + 1) p = true) : ∃ s xs, p = .tup [.str s, .tup xs] ∧ docN n p = decide (s = "tree") := by
  simp only [valN] at hv
  cases h1 : headed "tree" p with
  | some xs =>
    have e := headed_inv h1
    rw [h1] at hv
    exact ⟨_, _, e, by simp only [docN, h1]; simpa using hv⟩
  | none =>
    rw [h1] at hv
    cases h2 : headed "row" p with
    | some xs =>
      have e := headed_inv h2
      exact ⟨_, _, e, by simp only [docN, h1]; decide⟩
    | none =>
      rw [h2] at hv
      cases p with
      | tup ps => cases hv
      | _ => cases h
theorem doc_not {n : Nat} {p : PV} (h : isTup p = true → valN (n + 1) p = false) : docN n p = false := by
  unfold docN
  cases h1 : headed "tree" p with
  | none => rfl
  | some xs =>
    have e := headed_inv h1
    have := h (by rw [e]; rfl)
    simp only [valN, h1] at this
    exact this
theorem repr_obj {G : GH} {k : Nat} {ys : List PV} {w d m : Nat} (e : G[k]? = some (.lst ys)) (h : Sm w d m (.lst ys)) (hw : w ≤ 200000) (hd : d ≤ 60) : bRepr [.obj k] G = .ok (.str (rep (.lst ys))) G := by
  have q := repr_sm G h hw hd
  have e2 : toDG G (.obj k) = toDG G (.lst ys) := by
    have hf : fitXs ys = true := by have := h.f; simpa only [fitX] using this
    have e3 := toDs_dat (dats_of_fitX hf)
    simp only [toDG, e, toD, e3]
  simp only [bRepr, e2] at q ⊢
  exact q
theorem look_sp {fv fw fn ft fp gw gn gt gp gv gd : List PV → GH → Res PV} (hv : SpV 50000 400 40 fv) (hw : SpB 50000 40 400 wordB fw) (hn : SpB 50000 40 400 numB fn) (ht : SpB 50000 40 400 textB ft) (hp : SpB 50000 40 400 plainB fp)
    (kw : SpB 50000 40 400 wordB gw) (kn : SpB 50000 40 400 numB gn) (kt : SpB 50000 40 400 textB gt) (kp : SpB 50000 40 400 plainB gp) (kv : SpV 50000 400 40 gv) (kd : SpB 50000 40 400 (docN 39) gd)
    {x : PV} (hx : Sm 50000 40 400 x) {g : GO} {R : GH} {a b c d e f h : PV} {o3 o7 o8 o9 o10 o11 o12 o13 o14 : Option PV} :
    @wq Fl (forStep (gN 8) (sSeq (sPar 13 14 (mCons (mA (mCons (mVar 8) (mNil)) bRepr) (mCons (mA (mCons (mVar 8) (mNil)) fv) (mNil)))) (sSeq (sAsg (mA (mCons (mA (mCons (mVar 8) (mNil)) fw) (mCons (mA (mCons (mVar 8) (mNil)) fn) (mCons (mA (mCons (mVar 8) (mNil)) ft) (mCons (mA (mCons (mVar 8) (mNil)) fp) (mCons (mVar 14) (mNil)))))) mkObj) (gN 10)) (sSeq (sDrop (mMet "list" (mVar 10) (mCons (mAnd (mVar 14) (mAnd (m1 (mVar 8) (bIsi "tuple")) (m2 (m2 (mVar 8) (mCst (.int 0)) opIx) (mCst (.str "tree")) (Cop.f .eq)))) (mNil)) fAppend)) (sSeq (sAsg (mA (mCons (mA (mCons (mVar 8) (mNil)) gw) (mCons (mA (mCons (mVar 8) (mNil)) gn) (mCons (mA (mCons (mVar 8) (mNil)) gt) (mCons (mA (mCons (mVar 8) (mNil)) gp) (mCons (mA (mCons (mVar 8) (mNil)) gv) (mCons (mA (mCons (mVar 8) (mNil)) gd) (mNil))))))) mkLst) (gN 11)) (sSeq (sIf (mtOr (mB (m2 (mA (mCons (mVar 11) (mNil)) bRepr) (mA (mCons (mVar 10) (mNil)) bRepr) (Cop.f .ne))) (mB (m2 (mA (mCons (mVar 8) (mNil)) bRepr) (mVar 13) (Cop.f .ne)))) (sSeq (sRet (mCst (.bl false))) (sNext)) (sNext)) (sNext))))))
      x [some a, some b, some c, o3, some d, some e, some f, o7, o8, o9, o10, o11, o12, o13, o14] (g :: R)) ⟨fun fl G' => ∃ o8 o10 o11 o13 o14 R', fl = .next [some a, some b, some c, o3, some d, some e, some f, o7, o8, o9, o10, o11, o12, o13, o14] ∧ G' = g :: R'⟩ := by
  have r1 := fun G => repr_sm G hx (by decide) (by decide)
  have v1 := fun G => hv x G hx
  have w1 := fun G => hw x G hx
  have n1 := fun G => hn x G hx
  have t1 := fun G => ht x G hx
  have p1 := fun G => hp x G hx
  have w2 := fun G => kw x G hx
  have n2 := fun G => kn x G hx
  have t2 := fun G => kt x G hx
  have p2 := fun G => kp x G hx
  have v2 := fun G => kv x G hx
  have d2 := fun G => kd x G hx
  have it := fun G => isi_tup (G := G) hx.dat
  have hS : ∀ b1 b2 b3 b4 b5 b6 : Bool, Sm 6 1 6 (.lst [.bl b1, .bl b2, .bl b3, .bl b4, .bl b5, .bl b6]) := fun _ _ _ _ _ _ => ⟨by simp [fitX, fitXs], by simp [wgt, wgts], by simp [dep, deps], by simp [lnm, lnms]⟩
  cases hval : valN 40 x with
  | false =>
    have dn : docN 39 x = false := doc_not fun _ => hval
    have rl := fun G => repr_sm G (hS (wordB x) (numB x) (textB x) (plainB x) false false) (by decide) (by decide)
    have ro := repr_obj (G := g :: (R ++ [.lst [.bl (wordB x), .bl (numB x), .bl (textB x), .bl (plainB x), .bl false, .bl false]])) (k := R.length + 1) (by simp) (hS (wordB x) (numB x) (textB x) (plainB x) false false) (by decide) (by decide)
    simp [forStep_ap, sPar, r1, v1, w1, n1, t1, p1, w2, n2, t2, p2, v2, d2, hval, dn, size_line, mMet, tyP, fAppend, rl, ro]
  | true =>
    cases hit : isTup x with
    | false =>
      have dn : docN 39 x = false := doc_not fun t => by rw [hit] at t; cases t
      have rl := fun G => repr_sm G (hS (wordB x) (numB x) (textB x) (plainB x) true false) (by decide) (by decide)
      have ro := repr_obj (G := g :: (R ++ [.lst [.bl (wordB x), .bl (numB x), .bl (textB x), .bl (plainB x), .bl true, .bl false]])) (k := R.length + 1) (by simp) (hS (wordB x) (numB x) (textB x) (plainB x) true false) (by decide) (by decide)
      simp [forStep_ap, sPar, r1, v1, w1, n1, t1, p1, w2, n2, t2, p2, v2, d2, it, hit, hval, dn, size_line, mMet, tyP, fAppend, rl, ro]
    | true =>
      obtain ⟨s, xs, rfl, dn⟩ := doc_val (n := 39) hit hval
      have eq : ∀ G, Cop.eq.f [.str s, .str "tree"] G = .ok (.bl (decide (s = "tree"))) G := fun _ => opEq_ss
      generalize decide (s = "tree") = bt at dn eq
      generalize hX : PV.tup [.str s, .tup xs] = X at *
      have ix : ∀ G, opIx [X, .int 0] G = .ok (.str s) G := fun G => by rw [← hX, opIx_tup, ixR_0]
      have rl := fun G => repr_sm G (hS (wordB X) (numB X) (textB X) (plainB X) true bt) (by decide) (by decide)
      have ro := repr_obj (G := g :: (R ++ [.lst [.bl (wordB X), .bl (numB X), .bl (textB X), .bl (plainB X), .bl true, .bl bt]])) (k := R.length + 1) (by simp) (hS (wordB X) (numB X) (textB X) (plainB X) true bt) (by decide) (by decide)
      simp [forStep_ap, sPar, r1, v1, w1, n1, t1, p1, w2, n2, t2, p2, v2, d2, it, hit, hval, dn, eq, ix, size_line, mMet, tyP, fAppend, rl, ro]
end EV.NV
end
section
/-! N7: the law of values by kind, whole. -/
set_option Elab.async false
set_option linter.all false
set_option maxRecDepth 100000
set_option maxHeartbeats 400000
namespace EV.NV
open PySem PySem.Spec PyProof.Rows L2
/-- going on with the next statement -/
def goOn (t : EV.Env → GH → Res Fl) (Q : Fl → GH → Prop) (fl : Fl) (G : GH) : Prop := match fl with
  | .next ρ => @wq Fl (t ρ G) ⟨Q⟩
  | fl => Q fl G
theorem wq_seq {s t : EV.Env → GH → Res Fl} {ρ : EV.Env} {G : GH} {Q : Fl → GH → Prop} (h : @wq Fl (s ρ G) ⟨goOn t Q⟩) : @wq Fl (sSeq s t ρ G) ⟨Q⟩ := by
  rw [sSeq_ap, wq_bind]
  refine wq_use h fun fl G1 k => ?_
  cases fl with
  | next ρ1 => exact k
  | _ => rw [wq_ok]; exact k
theorem goOn_next {t : EV.Env → GH → Res Fl} {Q : Fl → GH → Prop} {ρ : EV.Env} {G : GH} (h : @wq Fl (t ρ G) ⟨Q⟩) : goOn t Q (.next ρ) G := h
theorem wq_asg {m : EV.Env → GH → Res PV} {i : Nat} {ρ : EV.Env} {G : GH} {Q : Fl → GH → Prop} (P : PV → GH → Prop) (h : @wq PV (m ρ G) ⟨P⟩) (k : ∀ v G1, P v G1 → Q (.next (ρ.set i (some v))) G1) : @wq Fl (sAsg m (gN i) ρ G) ⟨Q⟩ := by
  rw [sAsg_ap, wq_bind]
  refine wq_use h fun v G1 hv => ?_
  rw [wq_bind, gN_ap, wq_ok, wq_ok]
  exact k v G1 hv
def repP (k : Nat) (x : PV) : List PV := List.replicate k x
@[simp] theorem repP_len (k : Nat) (x : PV) : (repP k x).length = k := List.length_replicate ..
theorem repP_mem {k : Nat} {x y : PV} (h : y ∈ repP k x) : y = x := (List.mem_replicate.mp h).2
theorem repP_w (k : Nat) (x : PV) : wgts (repP k x) ≤ k * (wgt x + 1) := by
  have := wgts_le (ps := repP k x) (w := wgt x) fun y hy => by rw [repP_mem hy]; exact Nat.le_refl _
  rwa [repP_len] at this
theorem wq_for {ms : EV.Env → GH → Res Src} {t : PV → EV.Env → GH → Res EV.Env} {b : EV.Env → GH → Res Fl} {ρ : EV.Env} {G G1 : GH} {S : Src} {Q : Fl → GH → Prop} (e : ms ρ G = .ok S G1) (h : @wq Fl (loopF (forStep t b) S.gd S.its ρ G1) ⟨Q⟩) : @wq Fl (sFor ms t b ρ G) ⟨Q⟩ := by
  rw [sFor_ap, wq_bind, e, wq_ok]; exact h
theorem rng_e {n : Int} {ρ : EV.Env} {G : GH} (h0 : 0 ≤ n) (h1 : n ≤ 1000000) : mRng (mCons (mCst (.int n)) mNil) ρ G = .ok ⟨rgIts 0 n.toNat, fun _ => true⟩ G := by
  show rgSrc [.int n] G = _
  exact rg_ok h0 h1
/-- a for over range(n) by what stays -/
theorem wq_forR {n : Int} {t : PV → EV.Env → GH → Res EV.Env} {b : EV.Env → GH → Res Fl} {ρ : EV.Env} {G : GH} {Q : Fl → GH → Prop} (I : Nat → EV.Env → GH → Prop) (k : Nat) (h0 : 0 ≤ n) (h1 : n ≤ 1000000) (hk : n.toNat = k) (hI : I 0 ρ G)
    (hs : ∀ i : Nat, i < k → ∀ j ρ G, j < k → I j ρ G → @wq Fl (forStep t b (.int (i : Int)) ρ G) ⟨fun fl G' => ∃ ρ', (fl = .next ρ' ∨ fl = .cont ρ') ∧ I (j + 1) ρ' G'⟩)
    (hq : ∀ ρ G, I k ρ G → Q (.next ρ) G) : @wq Fl (sFor (mRng (mCons (mCst (.int n)) mNil)) t b ρ G) ⟨Q⟩ := by
  refine wq_for (rng_e h0 h1) (wq_use (wq_loopF I (rgIts 0 n.toNat) 0 hI (fun _ _ _ _ => rfl) fun x hx j ρ G p1 p2 hj => ?_) fun fl G' ⟨ρ', e, hI'⟩ => ?_)
  · obtain ⟨i, hi, rfl⟩ := List.mem_map.mp hx
    have := List.mem_range.mp hi
    rw [Int.zero_add]
    rw [rg_len] at p2
    exact hs i (by omega) j ρ G (by omega) hj
  · subst e
    refine hq ρ' G' ?_
    rw [rg_len, hk, Nat.zero_add] at hI'
    exact hI'
def menu1 : List PV := [.non, .bl true, .bl false, .int 0, .int 1, .int (-1), .str "", .str "a", .str "row", .str "tree", .str "yes", .tup [], .lst [], .str "A", .str "a1", .int (10 ^ 40), .tup [.str "row", .tup []]]
theorem menu1_ok : MenuOk menu1 := by
  refine ⟨by decide, by decide, ?_⟩
  have t : menu1.all (fun p => fitX p && decide (wgt p ≤ 1000) && decide (dep p ≤ 2) && decide (lnm p ≤ 2)) = true := by decide +kernel
  intro p hp
  have := List.all_eq_true.mp t p hp
  simp only [Bool.and_eq_true, decide_eq_true_eq] at this
  exact ⟨this.1.1.1, this.1.1.2, this.1.2, this.2⟩
abbrev SmB (p : PV) : Prop := Sm 50000 40 400 p
theorem ints_its {n : Nat} {x : PV} (h : x ∈ rgIts 0 n) : ∃ i : Int, x = .int i ∧ 0 ≤ i ∧ i < n := by
  obtain ⟨k, hk, rfl⟩ := List.mem_map.mp h
  have := List.mem_range.mp hk
  exact ⟨_, rfl, by omega, by omega⟩
theorem opAdd_lo {G : GH} {k : Nat} {a b : List PV} (e : G[k]? = some (.lst b)) (h : a.length + b.length ≤ 16777216) : opAdd [.lst a, .obj k] G = .ok (.lst (a ++ b)) G := by
  have e1 : asL (.obj k) G = some b := by simp [asL, e]
  simp only [opAdd]
  rw [show asL (.lst a) G = some a from rfl, e1]
  simp only [size_line, if_pos h]
/-- one turn of the makers -/
theorem turn_sp {f1 f8 f9 f10 f11 f12 : List PV → GH → Res PV} (hdoc : SpDoc f1) (hlet : ∀ d m, SpG 30 (Sm 20 d m) f8 []) (hnear : ∀ p G w n m, Sm w n m p → (isTup p = true → ∃ s xs, p = .tup [.str s, .tup xs] ∧ xs.length ≤ 500) → @wq PV (f9 [p] G) ⟨NearQ w n m G⟩) (hplain : SpPlain f10) (hsp : ∀ n, n ≤ 20 → SpSp n f11) (hval : SpVal 3 f12)
    {g : GO} {R : GH} {D : Nat} {scr deep rows : PV} {mn ys : List PV} {o3 o7 o9 o12 : Option PV} {i : Nat} (hi : i < 3) (hg : Fd D g) (hD : D ≤ 1000000) (mok : MenuOk mn) (hl : ys.length ≤ 1000) (hs : ∀ y ∈ ys, SmB y) :
    @wq Fl (forStep (gN 7) (sSeq (sAsg (m2 (mA (mCons (mA (mCons (mVar 1) (mNil)) f1) (mCons (mA (mCons (mVar 1) (mCons (mCst (.int 3)) (mCons (mA (mCons (mCst (.int 12)) (mNil)) mkObj) (mNil)))) f12) (mCons (mA (mCons (mVar 1) (mNil)) f10) (mNil)))) mkLst) (mVar 7) opIx) (gN 9)) (sSeq (sAsg (m2 (m2 (mVar 6) (mA (mCons (mVar 9) (mNil)) f9) opAdd) (mComp false (mRng (mCons (mCst (.int 7)) (mNil))) (gN 3) (mYes) (mA (mCons (mVar 1) (mNil)) f8) [3]) opAdd) (gN 6)) (sSeq (sFor (mRng (mCons (mCst (.int 6)) (mNil))) (gN 3) (sSeq (sAsg (mA (mCons (mVar 1) (mCons (mVar 9) (mCons (mVar 5) (mNil)))) f11) (gN 12)) (sSeq (sAsg (m2 (mVar 6) (mA (mCons (mVar 12) (mCons (mA (mCons (mVar 1) (mCons (mVar 12) (mCons (mVar 5) (mNil)))) f11) (mNil))) mkLst) opAdd) (gN 6)) (sNext)))) (sNext)))) (.int (i : Int))
      [some scr, some (.obj 0), some deep, o3, some rows, some (.lst mn), some (.lst ys), o7, none, o9, none, none, o12, none, none] (g :: R))
      ⟨fun fl G' => ∃ g' R' o3 o7 o9 o12 zs, fl = .next [some scr, some (.obj 0), some deep, o3, some rows, some (.lst mn), some (.lst zs), o7, none, o9, none, none, o12, none, none] ∧ G' = g' :: R' ∧ Fd (D + 3000) g' ∧ zs.length ≤ ys.length + 100 ∧ ∀ y ∈ zs, SmB y⟩ := by
  simp only [forStep_ap, gN_ap, wq_bind, wq_ok, List.set]
  refine wq_seq (wq_asg (fun v G' => ∃ g' R', G' = g' :: R' ∧ Fd (D + 2001) g' ∧ One v) ?_ ?_)
  · simp
    refine wq_doc hdoc hg (by omega) fun p1 g1 h1 hg1 => ?_
    simp [size_line]
    refine wq_val hval hg1 (by omega) fun p2 g2 l2 h2 hg2 => ?_
    simp
    refine wq_plain hplain hg2 (by omega) fun p3 g3 h3 hg3 => ?_
    simp [size_line]
    refine wq_ix (by omega) (by simp; omega) fun y hy => ?_
    refine ⟨g3, _, rfl, hg3, ?_⟩
    simp only [List.mem_cons, List.not_mem_nil, or_false] at hy
    rcases hy with rfl | rfl | rfl <;> assumption
  rintro one _ ⟨g1, R1, rfl, hg1, hone⟩
  refine goOn_next (wq_seq (wq_asg (fun v G' => ∃ g' R' zs, G' = g' :: R' ∧ Fd (D + 2001 + 210) g' ∧ v = .lst zs ∧ zs.length ≤ ys.length + 47 ∧ ∀ y ∈ zs, SmB y) ?_ ?_))
  · simp
    refine wq_use (hnear one _ _ _ _ hone.1 hone.2) fun q G' ⟨k, zs, R2, e1, e2, e3, hlz, hz⟩ => ?_
    subst e1 e2
    simp only [List.cons_append] at e3 ⊢
    rw [opAdd_lo e3 (by omega), wq_ok]
    simp only [mComp_ap, wq_bind, rng_e (show (0 : Int) ≤ 7 by decide) (show (7 : Int) ≤ 1000000 by decide), wq_ok]
    refine wq_use (wq_loopC1 (fun j G => ∃ g, G = g :: (R1 ++ R2) ∧ Fd (D + 2001 + 30 * j) g) SmB (rgIts 0 7) 0 ⟨g1, rfl, hg1⟩ (fun _ _ _ => rfl) ?_) ?_
    · rintro x hx j G _ hj ⟨g2, rfl, hg2⟩
      rw [rg_len] at hj
      simp [compF, wipeE]
      refine wq_use (hlet 0 0 (D + 2001 + 30 * j) g2 _ hg2 (by omega)) fun q G' ⟨g3, e, hg3, hq⟩ => ?_
      subst e
      rw [wq_ok]
      exact ⟨⟨g3, rfl, hg3.mono (by omega)⟩, q, rfl, hq.mono (by decide) (by decide) (by decide)⟩
    · rintro ls G ⟨⟨g3, rfl, hg3⟩, hls, hll⟩
      rw [rg_len] at hll hg3
      rw [wq_ok, opAdd_ll, if_pos (by rw [size_line, List.length_append]; omega), wq_ok]
      refine ⟨g3, _, _, rfl, hg3.mono (by omega), rfl, by simp only [List.length_append]; omega, fun y hy => ?_⟩
      simp only [List.mem_append] at hy
      rcases hy with (hy | hy) | hy
      · exact hs y hy
      · exact (hz y hy).mono (by decide) (by decide) (by decide)
      · exact hls y hy
  rintro _ _ ⟨g2, R2, zs, rfl, hg2, rfl, hlz, hz⟩
  refine goOn_next (wq_seq ?_)
  refine wq_forR (fun j ρ G => ∃ g R o3 o12 us, G = g :: R ∧ Fd (D + 2001 + 210 + 100 * j) g ∧ ρ = [some scr, some (.obj 0), some deep, o3, some rows, some (.lst mn), some (.lst us), some (.int (i : Int)), none, some one, none, none, o12, none, none] ∧ us.length ≤ ys.length + 47 + 2 * j ∧ ∀ y ∈ us, SmB y) 6 (by decide) (by decide) rfl ⟨g2, R2, _, _, zs, rfl, hg2, rfl, hlz, hz⟩ ?_ ?_
  · rintro i2 hi2 j ρ G hj ⟨g3, R3, p3, p12, us, rfl, hg3, rfl, hlu, hu⟩
    simp only [forStep_ap, gN_ap, wq_bind, wq_ok, List.set]
    refine wq_seq (wq_asg (fun v G' => ∃ g', G' = g' :: R3 ∧ Fd (D + 2001 + 210 + 100 * j + 39) g' ∧ Sm 14201 14 7 v) ?_ ?_)
    · simp
      refine wq_use (hsp 12 (by decide) _ g3 R3 one mn 4400 5 hg3 (by omega) hone.1 (by decide) mok) fun q G' ⟨g4, e, hg4, hq⟩ => ?_
      exact ⟨g4, e, hg4, hq⟩
    rintro bent _ ⟨g4, rfl, hg4, hb⟩
    refine goOn_next (wq_seq (wq_asg (fun v G' => ∃ g' vs, G' = g' :: R3 ∧ Fd (D + 2001 + 210 + 100 * (j + 1)) g' ∧ v = .lst vs ∧ vs.length ≤ us.length + 2 ∧ ∀ y ∈ vs, SmB y) ?_ ?_))
    · simp
      refine wq_use (hsp 14 (by decide) _ g4 R3 bent mn 14201 7 hg4 (by omega) hb (by decide) mok) fun q G' ⟨g5, e, hg5, hq⟩ => ?_
      subst e
      simp [size_line]
      rw [if_pos (by omega), wq_ok]
      refine ⟨g5, _, rfl, hg5.mono (by omega), rfl, by simp, fun y hy => ?_⟩
      simp only [List.mem_append, List.mem_cons, List.not_mem_nil, or_false] at hy
      rcases hy with hy | rfl | rfl
      · exact hu y hy
      · exact hb.mono (by decide) (by decide) (by decide)
      · exact hq.mono (by decide) (by decide) (by decide)
    rintro _ _ ⟨g5, vs, rfl, hg5, rfl, hlv, hv⟩
    refine goOn_next ?_
    rw [sNext_ap, wq_ok]
    exact ⟨_, .inl rfl, g5, R3, _, _, vs, rfl, hg5, rfl, by omega, hv⟩
  rintro ρ G ⟨g3, R3, p3, p12, us, rfl, hg3, rfl, hlu, hu⟩
  refine goOn_next ?_
  rw [sNext_ap, wq_ok]
  exact ⟨g3, R3, _, _, _, _, us, rfl, rfl, hg3.mono (by omega), by omega, hu⟩
theorem law_sp {f1 f2 f3 f4 f5 f6 f7 f8 f9 f10 f11 f12 f13 f14 f15 f16 f17 f18 : List PV → GH → Res PV} (hdoc : SpDoc f1) (hfeed : SpFeed f2) (ln : SpB 50000 40 400 numB f3) (lp : SpB 50000 40 400 plainB f4) (lt : SpB 50000 40 400 textB f5) (lv : SpV 50000 400 40 f6) (lw : SpB 50000 40 400 wordB f7)
    (hlet : ∀ d m, SpG 30 (Sm 20 d m) f8 []) (hnear : ∀ p G w n m, Sm w n m p → (isTup p = true → ∃ s xs, p = .tup [.str s, .tup xs] ∧ xs.length ≤ 500) → @wq PV (f9 [p] G) ⟨NearQ w n m G⟩) (hplain : SpPlain f10) (hsp : ∀ n, n ≤ 20 → SpSp n f11) (hval : SpVal 3 f12)
    (kd : SpB 50000 40 400 (docN 39) f13) (kn : SpB 50000 40 400 numB f14) (kp : SpB 50000 40 400 plainB f15) (kt : SpB 50000 40 400 textB f16) (kv : SpV 50000 400 40 f17) (kw : SpB 50000 40 400 wordB f18) (ns : List Int) (hns : ns.length ≤ 63) :
    @wq PV (defV 1 K01.N_law (K01.b_law f1 f2 f3 f4 f5 f6 f7 f8 f9 f10 f11 f12 f13 f14 f15 f16 f17 f18) [.sls (ns.map .int)] []) ⟨fun v _ => v = .bl true⟩ := by
  refine wq_def rfl ?_
  have hf := hfeed ns [] hns
  have rg := fun (i : Int) (h0 : 0 ≤ i) (h1 : i ≤ 1000000) G => rg_ok (G := G) h0 h1
  have fd0 : Fd 0 (feedO ns 0 0 0) := ⟨ns, 0, 0, 0, rfl, by decide, by decide, by decide, by decide⟩
  simp only [List.length_nil, List.nil_append] at hf
  generalize feedO ns 0 0 0 = g0 at hf fd0
  unfold K01.b_law
  refine wq_seq ?_
  simp [K01.N_law, env0, hf]
  refine goOn_next (wq_seq ?_)
  simp
  refine goOn_next (wq_seq ?_)
  refine wq_forR (fun j ρ G => G = [g0] ∧ ∃ v o, ρ = [some (.sls (ns.map .int)), some (.obj 0), some v, o, none, none, none, none, none, none, none, none, none, none, none] ∧ Sm (1 + 12 * j) (3 * j) 2 v) 10 (by decide) (by decide) rfl ⟨rfl, _, _, rfl, by decide +kernel, by decide +kernel, by decide +kernel, by decide +kernel⟩ ?_ ?_
  · rintro i hi j ρ G hj ⟨rfl, v, o, rfl, hv⟩
    have q1 := hv.f
    have q2 := hv.w
    have q3 := hv.d
    have q4 := hv.m
    simp [forStep_ap, size_line, opMod_ii (i := (i : Int)) (j := 2) (by decide)]
    refine wq_ix (fmod_lt' (by decide)).1 (by have := (fmod_lt' (a := (i : Int)) (n := 2) (by decide)).2; simpa using this) fun y hy => ?_
    simp
    simp only [List.mem_cons, List.not_mem_nil, or_false] at hy
    rcases hy with rfl | rfl
    · refine ⟨?_, ?_, ?_, ?_⟩
      · simp [fitX, fitXs, q1, ok1, sz1]
      · simp [wgt, wgts, sz1]; omega
      · simp [dep, deps]; omega
      · simp [lnm, lnms]; omega
    · refine ⟨?_, ?_, ?_, ?_⟩
      · simp [fitX, fitXs, q1, ok2, sz2, ok4, sz4]
      · simp [wgt, wgts, sz2, sz4]; omega
      · simp [dep, deps]; omega
      · simp [lnm, lnms]; omega
  rintro ρ G ⟨rfl, deep, o, rfl, hdeep⟩
  refine goOn_next (wq_seq ?_)
  simp
  refine goOn_next (wq_seq ?_)
  refine wq_forR (fun j ρ G => G = [g0] ∧ ∃ v o, ρ = [some (.sls (ns.map .int)), some (.obj 0), some deep, o, some v, none, none, none, none, none, none, none, none, none, none] ∧ Sm (1 + 6 * j) (2 * j) 2 v) 18 (by decide) (by decide) rfl ⟨rfl, _, _, rfl, by decide +kernel, by decide +kernel, by decide +kernel, by decide +kernel⟩ ?_ ?_
  · rintro i hi j ρ G hj ⟨rfl, v, o, rfl, hv⟩
    have q1 := hv.f
    have q2 := hv.w
    have q3 := hv.d
    have q4 := hv.m
    simp [forStep_ap, size_line]
    refine ⟨?_, ?_, ?_, ?_⟩
    · simp [fitX, fitXs, q1, ok1, sz1]
    · simp [wgt, wgts, sz1]; omega
    · simp [dep, deps]; omega
    · simp [lnm, lnms]; omega
  rintro ρ G ⟨rfl, rows, o, rfl, hrows⟩
  have p40 : ∀ G, opPow [.int 10, .int 40] G = .ok (.int (10 ^ 40)) G := fun G => by rw [opPow_ii (by decide) (by decide) (by decide)]; rfl
  have mu : ∀ (x : PV) (k : Nat) G, 2 ≤ k → k ≤ 1000 → opMul [.tup [x], .int k] G = .ok (.tup (repP k x)) G := fun x k G h1 h2 => by
    have e : (List.replicate (k : Int).toNat [x]).flatten = repP k x := by simp [repP]
    simp only [opMul, e]
    rw [if_pos ⟨by omega, by omega, by simp⟩]
  have m1 : ∀ x G, opMul [.tup [x], .int 300] G = .ok (.tup (repP 300 x)) G := fun x G => mu x 300 G (by decide) (by decide)
  have m2 : ∀ x G, opMul [.tup [x], .int 20] G = .ok (.tup (repP 20 x)) G := fun x G => mu x 20 G (by decide) (by decide)
  refine goOn_next (wq_seq (wq_asg (fun v G' => G' = [g0] ∧ v = .lst menu1) ?_ ?_))
  · simp [size_line, p40]
    rfl
  rintro _ _ ⟨rfl, rfl⟩
  have mok := menu1_ok
  generalize menu1 = mn at mok
  refine goOn_next (wq_seq (wq_asg (fun v G' => G' = [g0] ∧ ∃ ys, v = .lst ys ∧ ys.length ≤ 110 ∧ ∀ y ∈ ys, SmB y) ?_ ?_))
  · simp [size_line, m1, m2]
    rw [if_pos (by have := mok.1; omega)]
    simp
    have d1 := hdeep.f
    have d2 := hdeep.w
    have d3 := hdeep.d
    have d4 := hdeep.m
    have row : ∀ ys : List PV, (∀ y ∈ ys, Sm 2000 37 300 y) → ys.length ≤ 301 → wgts ys ≤ 49000 → SmB (.tup [.str "row", .tup ys]) := fun ys h hl hw => by
      have e1 := fitXs_of fun y hy => (h y hy).f
      have e2 := deps_le fun y hy => (h y hy).d
      have e3 := lnms_le fun y hy => (h y hy).m
      refine ⟨by simp [fitX, fitXs, e1, ok1, sz1], by simp [wgt, wgts, sz1]; omega, by simp [dep, deps]; omega, by simp [lnm, lnms]; omega⟩
    have z0 : Sm 2000 37 300 (.int 0) := ⟨by decide +kernel, by decide +kernel, by decide +kernel, by decide +kernel⟩
    have zn : Sm 2000 37 300 .non := ⟨by decide +kernel, by decide +kernel, by decide +kernel, by decide +kernel⟩
    have w0 : wgt (.int 0) = 1 := by decide +kernel
    refine ⟨by have := mok.1; omega, fun y hy => ?_⟩
    rcases hy with hy | rfl | rfl | rfl | rfl
    · exact (mok.2.2 y hy).mono (by decide) (by decide) (by decide)
    · exact hdeep.mono (by decide) (by decide) (by decide)
    · refine row _ (fun y hy => by rw [repP_mem hy]; exact z0) (by simp) ?_
      have := repP_w 300 (.int 0)
      rw [w0] at this; omega
    · refine row _ (fun y hy => ?_) (by simp) ?_
      · rcases List.mem_append.mp hy with q | q
        · rw [repP_mem q]; exact z0
        · rw [List.mem_singleton.mp q]; exact zn
      · have := repP_w 300 (.int 0)
        rw [w0] at this
        rw [wgts_append]; simp [wgts, wgt]; omega
    · refine row _ (fun y hy => by rw [repP_mem hy]; exact hdeep.mono (by decide) (by decide) (by decide)) (by simp) ?_
      have := repP_w 20 deep
      have : 20 * (wgt deep + 1) ≤ 20 * 122 := Nat.mul_le_mul_left _ (by omega)
      omega
  rintro _ _ ⟨rfl, some0, rfl, hl0, hs0⟩
  refine goOn_next (wq_seq (wq_asg (fun v G' => G' = [g0] ∧ ∃ ys, v = .lst ys ∧ ys.length ≤ 120 ∧ ∀ y ∈ ys, SmB y) ?_ ?_))
  · simp [size_line]
    rw [if_pos (by omega)]
    simp
    have q1 := hrows.f
    have q2 := hrows.w
    have q3 := hrows.d
    have q4 := hrows.m
    refine ⟨by omega, fun y hy => ?_⟩
    rcases hy with hy | rfl | rfl
    · exact hs0 y hy
    · exact hrows.mono (by decide) (by decide) (by decide)
    · refine ⟨by simp [fitX, fitXs, q1, ok1, sz1], by simp [wgt, wgts, sz1]; omega, by simp [dep, deps]; omega, by simp [lnm, lnms]; omega⟩
  rintro _ _ ⟨rfl, some1, rfl, hl1, hs1⟩
  -- the three turns
  refine goOn_next (wq_seq ?_)
  refine wq_forR (fun j ρ G => ∃ g R o3 o7 o9 o12 ys, G = g :: R ∧ Fd (3000 * j) g ∧ ρ = [some (.sls (ns.map .int)), some (.obj 0), some deep, o3, some rows, some (.lst mn), some (.lst ys), o7, none, o9, none, none, o12, none, none] ∧ ys.length ≤ 120 + 100 * j ∧ ∀ y ∈ ys, SmB y) 3 (by decide) (by decide) rfl ⟨g0, [], _, _, _, _, some1, rfl, fd0, rfl, hl1, hs1⟩ ?_ ?_
  · rintro i hi j ρ G hj ⟨g, R, o3, o7, o9, o12, ys, rfl, hg, rfl, hl, hs⟩
    refine wq_use (turn_sp hdoc hlet hnear hplain hsp hval hi hg (by omega) mok (by omega) hs) fun fl G' ⟨g1, R1, p3, p7, p9, p12, zs, e1, e2, hg1, hl1, hs1⟩ => ?_
    exact ⟨_, .inl e1, g1, R1, p3, p7, p9, p12, zs, e2, hg1.mono (by omega), rfl, by omega, hs1⟩
  rintro ρ G ⟨g, R, o3, o7, o9, o12, ys, rfl, hg, rfl, hl, hs⟩
  refine goOn_next (wq_seq ?_)
  have msq : mSeq (mVar 6) [some (.sls (ns.map .int)), some (.obj 0), some deep, o3, some rows, some (.lst mn), some (.lst ys), o7, none, o9, none, none, o12, none, none] (g :: R) = .ok ⟨ys, fun _ => true⟩ (g :: R) := rfl
  refine wq_for msq ?_
  refine wq_use (wq_loopF (fun j ρ G => ∃ R o8 o10 o11 o13 o14, G = g :: R ∧ ρ = [some (.sls (ns.map .int)), some (.obj 0), some deep, o3, some rows, some (.lst mn), some (.lst ys), o7, o8, o9, o10, o11, o12, o13, o14]) ys 0 ⟨R, _, _, _, _, _, rfl, rfl⟩ (fun _ _ _ _ => rfl) ?_) ?_
  · rintro x hx j ρ G _ _ ⟨R1, o8, o10, o11, o13, o14, rfl, rfl⟩
    refine wq_use (look_sp lv lw ln lt lp kw kn kt kp kv kd (hs x hx) (h := x)) fun fl G' ⟨p8, p10, p11, p13, p14, R2, e1, e2⟩ => ?_
    exact ⟨_, .inl e1, R2, p8, p10, p11, p13, p14, e2, rfl⟩
  · rintro fl G ⟨ρ, rfl, R1, o8, o10, o11, o13, o14, rfl, rfl⟩
    refine goOn_next ?_
    simp
    rw [show trimR ([] : GH) (.ok (PV.bl true) (g :: R1)) = .ok (.bl true) [] by simp [trimR, PV.refsB, okB]]
    simp
end EV.NV
end
section
set_option Elab.async false
set_option linter.all false
set_option maxRecDepth 100000
set_option maxHeartbeats 0
namespace K01
open PySem PySem.Spec PyProof.Rows L2 EV
def D0 : He.DefD := ⟨("is_number", none), "is_number", "is_number", defArgs (top 5), defBody (top 5), defScope (top 5), [], []⟩
def D1 : He.DefD := ⟨("is_word", none), "is_word", "is_word", defArgs (top 6), defBody (top 6), defScope (top 6), [], []⟩
def D2 : He.DefD := ⟨("is_text", none), "is_text", "is_text", defArgs (top 7), defBody (top 7), defScope (top 7), [], []⟩
def D3 : He.DefD := ⟨("is_long", none), "is_long", "is_long", defArgs (top 8), defBody (top 8), defScope (top 8), [], []⟩
def D4 : He.DefD := ⟨("has_head", none), "has_head", "has_head", defArgs (top 9), defBody (top 9), defScope (top 9), [], []⟩
def D5 : He.DefD := ⟨("is_plain", none), "is_plain", "is_plain", defArgs (top 11), defBody (top 11), defScope (top 11), [], []⟩
def D6 : He.DefD := ⟨("is_row", none), "is_row", "is_row", defArgs (top 12), defBody (top 12), defScope (top 12), [], []⟩
def D7 : He.DefD := ⟨("is_tree", none), "is_tree", "is_tree", defArgs (top 13), defBody (top 13), defScope (top 13), [], []⟩
def D8 : He.DefD := ⟨("are_fields", none), "are_fields", "are_fields", defArgs (top 14), defBody (top 14), defScope (top 14), [], []⟩
def D9 : He.DefD := ⟨("is_value", none), "is_value", "is_value", defArgs (top 15), defBody (top 15), defScope (top 15), [], []⟩
def D10 : He.DefD := ⟨("is_document", none), "is_document", "is_document", defArgs (top 16), defBody (top 16), defScope (top 16), [], []⟩
def D11 : He.DefD := ⟨("_law_feed", none), "_law_feed", "_law_feed", defArgs (top 18), defBody (top 18), defScope (top 18), [], []⟩
def D12 : He.DefD := ⟨("_law_draw", none), "_law_draw", "_law_draw", defArgs (top 19), defBody (top 19), defScope (top 19), [], []⟩
def D13 : He.DefD := ⟨("_law_spoilt", none), "_law_spoilt", "_law_spoilt", defArgs (top 20), defBody (top 20), defScope (top 20), [], []⟩
def D14 : He.DefD := ⟨("_law_is_number", none), "_law_is_number", "_law_is_number", defArgs (top 21), defBody (top 21), defScope (top 21), [], []⟩
def D15 : He.DefD := ⟨("_law_is_word", none), "_law_is_word", "_law_is_word", defArgs (top 22), defBody (top 22), defScope (top 22), [], []⟩
def D16 : He.DefD := ⟨("_law_is_text", none), "_law_is_text", "_law_is_text", defArgs (top 23), defBody (top 23), defScope (top 23), [], []⟩
def D17 : He.DefD := ⟨("_law_is_plain", none), "_law_is_plain", "_law_is_plain", defArgs (top 24), defBody (top 24), defScope (top 24), [], []⟩
def D18 : He.DefD := ⟨("_law_is_value", none), "_law_is_value", "_law_is_value", defArgs (top 25), defBody (top 25), defScope (top 25), [], []⟩
def D19 : He.DefD := ⟨("_law_plain", none), "_law_plain", "_law_plain", defArgs (top 26), defBody (top 26), defScope (top 26), [], []⟩
def D20 : He.DefD := ⟨("_law_value", none), "_law_value", "_law_value", defArgs (top 27), defBody (top 27), defScope (top 27), [], []⟩
def D21 : He.DefD := ⟨("_law_tree", none), "_law_tree", "_law_tree", defArgs (top 28), defBody (top 28), defScope (top 28), [], []⟩
def D22 : He.DefD := ⟨("_law_document", none), "_law_document", "_law_document", defArgs (top 29), defBody (top 29), defScope (top 29), [], []⟩
def D23 : He.DefD := ⟨("_law_letters", none), "_law_letters", "_law_letters", defArgs (top 30), defBody (top 30), defScope (top 30), [], []⟩
def D24 : He.DefD := ⟨("_law_near", none), "_law_near", "_law_near", defArgs (top 31), defBody (top 31), defScope (top 31), [], []⟩
def D25 : He.DefD := ⟨("law", none), "law", "law", defArgs (top 32), defBody (top 32), defScope (top 32), [], []⟩
def fn : List He.DefD := [D0, D1, D2, D3, D4, D5, D6, D7, D8, D9, D10, D11, D12, D13, D14, D15, D16, D17, D18, D19, D20, D21, D22, D23, D24, D25]
def fa : List He.Fa := [.glo "is_number", .glo "is_word", .glo "is_text", .glo "is_long", .glo "has_head", .glo "is_plain", .glo "is_row", .glo "is_tree", .glo "are_fields", .glo "is_value", .glo "is_document", .glo "_law_feed", .glo "_law_draw", .glo "_law_spoilt", .glo "_law_is_number", .glo "_law_is_word", .glo "_law_is_text", .glo "_law_is_plain", .glo "_law_is_value", .glo "_law_plain", .glo "_law_value", .glo "_law_tree", .glo "_law_document", .glo "_law_letters", .glo "_law_near", .glo "law", .free "all", .free "bool", .free "int", .free "isinstance", .free "len", .free "list", .free "min", .free "range", .free "repr", .free "set", .free "sorted", .free "str", .free "tuple", .free "zip"]
def tf : List He.Defn := [("_law_tree", none)]
abbrev R : PySem.W.OpenRow := PySem.W.OpenLaw.row PySem.Challenge.rw_pathfolios_k01_values_by_kind
def cs : List (Str × PV) := [("FIGURES", .str "0123456789"), ("LETTERS", .str "abcdefghijklmnopqrstuvwxyz"), ("LONGEST_TEXT", .int 16), ("LONGEST_WORD", .int 8)]
abbrev hk : PySem.W.Hook := He.hookX 4 fa fn [] tf (eachC tf cs)
def ob (s : PySem.W.SharedT) : He.AlX := He.obsX 4 fa fn [] tf (eachC tf cs) (HandSHeadRun.getT s)
theorem ob_eq (s : PySem.W.SharedT) : ob s = hk.obs s.abs := He.obsX_eq (HandSHeadRun.getT_eq s)
def loose : List Str := (["is_number", "is_word", "is_text", "is_long", "has_head", "is_plain", "is_row", "is_tree", "are_fields", "is_value", "is_document", "_law_feed", "_law_draw", "_law_spoilt", "_law_is_number", "_law_is_word", "_law_is_text", "_law_is_plain", "_law_is_value", "_law_plain", "_law_value", "_law_tree", "_law_document", "_law_letters", "_law_near", "FIGURES", "LETTERS", "LONGEST_TEXT", "LONGEST_WORD"] : List Str)
theorem run (w : World) : HandSHeadRun.RunEq R (PySem.W.view R.prog [32]) hk ob 2380 loose w := by
  intro os
  kernel_rfl
theorem lawG (lv : Nat) {w : World} {h : Heap} {mg : Str → Option Value} {fa' : Addr} (hm : ∀ ns : List Int, ns.length ≤ 63 → (∀ z ∈ ns, Builtin.Int.intBits z ≤ 1048576) → ∃ G, prog lv 25 [.sls (ns.map PV.int)] [] = .ok (.bl true) G)
    (G : h.Ns mainGlobals mg) (c : hk.says w h) : LawG PySem.Challenge.rw_pathfolios_k01_values_by_kind w lv 63 "law" mg fa' h := by
  obtain ⟨K, KX, c⟩ := c
  have cd := c.t.d
  have fr : Free K mg := ⟨trivial, He.free_ok KX G (cd.fact 26 (f := .free "all") rfl), He.free_ok KX G (cd.fact 27 (f := .free "bool") rfl), He.free_ok KX G (cd.fact 28 (f := .free "int") rfl), He.free_ok KX G (cd.fact 29 (f := .free "isinstance") rfl), He.free_ok KX G (cd.fact 30 (f := .free "len") rfl), He.free_ok KX G (cd.fact 31 (f := .free "list") rfl), He.free_ok KX G (cd.fact 32 (f := .free "min") rfl), He.free_ok KX G (cd.fact 33 (f := .free "range") rfl), He.free_ok KX G (cd.fact 34 (f := .free "repr") rfl), He.free_ok KX G (cd.fact 35 (f := .free "set") rfl), He.free_ok KX G (cd.fact 36 (f := .free "sorted") rfl), He.free_ok KX G (cd.fact 37 (f := .free "str") rfl), He.free_ok KX G (cd.fact 38 (f := .free "tuple") rfl), He.free_ok KX G (cd.fact 39 (f := .free "zip") rfl), eachC_cst KX G c.more 0 rfl, eachC_cst KX G c.more 1 rfl, eachC_cst KX G c.more 2 rfl, eachC_cst KX G c.more 3 rfl⟩
  obtain ⟨fd0, F0⟩ := cd.def_ 0 (d := D0) rfl
  obtain ⟨fd1, F1⟩ := cd.def_ 1 (d := D1) rfl
  obtain ⟨fd2, F2⟩ := cd.def_ 2 (d := D2) rfl
  obtain ⟨fd3, F3⟩ := cd.def_ 3 (d := D3) rfl
  obtain ⟨fd4, F4⟩ := cd.def_ 4 (d := D4) rfl
  obtain ⟨fd5, F5⟩ := cd.def_ 5 (d := D5) rfl
  obtain ⟨fd6, F6⟩ := cd.def_ 6 (d := D6) rfl
  obtain ⟨fd7, F7⟩ := cd.def_ 7 (d := D7) rfl
  obtain ⟨fd8, F8⟩ := cd.def_ 8 (d := D8) rfl
  obtain ⟨fd9, F9⟩ := cd.def_ 9 (d := D9) rfl
  obtain ⟨fd10, F10⟩ := cd.def_ 10 (d := D10) rfl
  obtain ⟨fd11, F11⟩ := cd.def_ 11 (d := D11) rfl
  obtain ⟨fd12, F12⟩ := cd.def_ 12 (d := D12) rfl
  obtain ⟨fd13, F13⟩ := cd.def_ 13 (d := D13) rfl
  obtain ⟨fd14, F14⟩ := cd.def_ 14 (d := D14) rfl
  obtain ⟨fd15, F15⟩ := cd.def_ 15 (d := D15) rfl
  obtain ⟨fd16, F16⟩ := cd.def_ 16 (d := D16) rfl
  obtain ⟨fd17, F17⟩ := cd.def_ 17 (d := D17) rfl
  obtain ⟨fd18, F18⟩ := cd.def_ 18 (d := D18) rfl
  obtain ⟨fd19, F19⟩ := cd.def_ 19 (d := D19) rfl
  obtain ⟨fd20, F20⟩ := cd.def_ 20 (d := D20) rfl
  obtain ⟨fd21, F21⟩ := cd.def_ 21 (d := D21) rfl
  obtain ⟨fd22, F22⟩ := cd.def_ 22 (d := D22) rfl
  obtain ⟨fd23, F23⟩ := cd.def_ 23 (d := D23) rfl
  obtain ⟨fd24, F24⟩ := cd.def_ 24 (d := D24) rfl
  obtain ⟨fd25, F25⟩ := cd.def_ 25 (d := D25) rfl
  refine ⟨⟨K, fun _ => 0, lamT tf K⟩, tf.map (He.cT K), prog lv 25, KX, fun p hp => ?_, fun p hp => ?_, fun p hp => ?_, fun q hq => ?_, hm, fun base kB gB TB => ?_⟩
  · obtain ⟨p, h, rfl⟩ := List.mem_map.mp hp; exact c.empty p h
  · obtain ⟨p, h, rfl⟩ := List.mem_map.mp hp; exact c.out p h
  · obtain ⟨p, h, rfl⟩ := List.mem_map.mp hp; exact PySem.W.codeHd_of_K KX (c.hd p h)
  · obtain ⟨p, h, rfl⟩ := List.mem_map.mp hq; exact List.mem_map.mpr ⟨_, List.mem_map.mpr ⟨p, h, rfl⟩, rfl⟩
  · have TB' : ∀ p ∈ tf, LamX.TabB base mg (He.cT K p).1 (He.cT K p).2 := fun p hp => TB _ (List.mem_map.mpr ⟨p, hp, rfl⟩)
    have D : Defs K mg base ⟨K, fun _ => 0, lamT tf K⟩ := ⟨⟨_, fd0, F0, He.glo_ok KX G (cd.fact 0 (f := .glo "is_number") rfl)⟩, ⟨_, fd1, F1, He.glo_ok KX G (cd.fact 1 (f := .glo "is_word") rfl)⟩, ⟨_, fd2, F2, He.glo_ok KX G (cd.fact 2 (f := .glo "is_text") rfl)⟩, ⟨_, fd3, F3, He.glo_ok KX G (cd.fact 3 (f := .glo "is_long") rfl)⟩, ⟨_, fd4, F4, He.glo_ok KX G (cd.fact 4 (f := .glo "has_head") rfl)⟩, ⟨_, fd5, F5, He.glo_ok KX G (cd.fact 5 (f := .glo "is_plain") rfl)⟩, ⟨_, fd6, F6, He.glo_ok KX G (cd.fact 6 (f := .glo "is_row") rfl)⟩, ⟨_, fd7, F7, He.glo_ok KX G (cd.fact 7 (f := .glo "is_tree") rfl)⟩, ⟨_, fd8, F8, He.glo_ok KX G (cd.fact 8 (f := .glo "are_fields") rfl)⟩, ⟨_, fd9, F9, He.glo_ok KX G (cd.fact 9 (f := .glo "is_value") rfl)⟩, ⟨_, fd10, F10, He.glo_ok KX G (cd.fact 10 (f := .glo "is_document") rfl)⟩, ⟨_, fd11, F11, He.glo_ok KX G (cd.fact 11 (f := .glo "_law_feed") rfl)⟩, ⟨_, fd12, F12, He.glo_ok KX G (cd.fact 12 (f := .glo "_law_draw") rfl)⟩, ⟨_, fd13, F13, He.glo_ok KX G (cd.fact 13 (f := .glo "_law_spoilt") rfl)⟩, ⟨_, fd14, F14, He.glo_ok KX G (cd.fact 14 (f := .glo "_law_is_number") rfl)⟩, ⟨_, fd15, F15, He.glo_ok KX G (cd.fact 15 (f := .glo "_law_is_word") rfl)⟩, ⟨_, fd16, F16, He.glo_ok KX G (cd.fact 16 (f := .glo "_law_is_text") rfl)⟩, ⟨_, fd17, F17, He.glo_ok KX G (cd.fact 17 (f := .glo "_law_is_plain") rfl)⟩, ⟨_, fd18, F18, He.glo_ok KX G (cd.fact 18 (f := .glo "_law_is_value") rfl)⟩, ⟨_, fd19, F19, He.glo_ok KX G (cd.fact 19 (f := .glo "_law_plain") rfl)⟩, ⟨_, fd20, F20, He.glo_ok KX G (cd.fact 20 (f := .glo "_law_value") rfl)⟩, ⟨_, fd21, F21, He.glo_ok KX G (cd.fact 21 (f := .glo "_law_tree") rfl), lamD_of (p := ("_law_tree", none)) (tf := tf) (by simp [tf]) (eachC_one c.more) rfl TB' F21⟩, ⟨_, fd22, F22, He.glo_ok KX G (cd.fact 22 (f := .glo "_law_document") rfl)⟩, ⟨_, fd23, F23, He.glo_ok KX G (cd.fact 23 (f := .glo "_law_letters") rfl)⟩, ⟨_, fd24, F24, He.glo_ok KX G (cd.fact 24 (f := .glo "_law_near") rfl)⟩, ⟨_, fd25, F25, He.glo_ok KX G (cd.fact 25 (f := .glo "law") rfl)⟩⟩
    exact (all rfl fr D lv).c25
end K01
open PySem PySem.W PySem.Calls PyProof.Rows
theorem k01_holds (lv : Nat) (hr : L2.Room lv callerA) (hm : ∀ ns : List Int, ns.length ≤ 63 → (∀ z ∈ ns, Builtin.Int.intBits z ≤ 1048576) → ∃ G, K01.prog lv 25 [.sls (ns.map EV.PV.int)] [] = .ok (.bl true) G) : PySem.Challenge.rw_pathfolios_k01_values_by_kind.Holds := by
  w_on; o_law
  refine HandSHeadRun.head_any (r := OpenLaw.row PySem.Challenge.rw_pathfolios_k01_values_by_kind) (q := view (OpenLaw.row PySem.Challenge.rw_pathfolios_k01_values_by_kind).prog [32]) (H := K01.hk) (ob := K01.ob) (M := 2380) (loose := K01.loose) (d := HandSHeadRun.topDef (OpenLaw.row PySem.Challenge.rw_pathfolios_k01_values_by_kind).prog 32) (kwd := []) K01.ob_eq
    (by kernel_rfl) (fun s => by kernel_rfl) K01.run (by kernel_rfl) (by kernel_rfl) (by kernel_rfl) (by rfl) (by first | assumption | decide +kernel) (by decide +kernel) ⟨rfl, rfl, rfl, rfl, rfl, by decide +kernel⟩ ?hw ?hc
  case hw => w_witness2
  case hc =>
    refine EV.walk_G (l := PySem.Challenge.rw_pathfolios_k01_values_by_kind) (n := 63) (k := lv) rfl (by decide) (by kernel_rfl) hr ?F
    intro w mg fa h Y G hmg0
    have e : (HandSHeadRun.topDef (OpenLaw.row PySem.Challenge.rw_pathfolios_k01_values_by_kind).prog 32).name = ("law" : PySem.Str) := by kernel_rfl
    rw [e]
    exact K01.lawG lv hm G Y
end
section
set_option Elab.async false
set_option linter.all false
set_option maxRecDepth 100000
namespace K01
open PySem PySem.Spec PyProof.Rows L2 EV EV.NV
theorem pNum (n w d m : Nat) : SpB w d m numB (prog (n + 1) 0) := num_sp
theorem pWord (n w d m : Nat) : SpB w d m wordB (prog (n + 1) 1) := word_sp
theorem pText (n w d m : Nat) : SpB w d m textB (prog (n + 1) 2) := text_sp
theorem pLong (n : Nat) : SpLong (prog (n + 1) 3) := long_sp
theorem pHead (n : Nat) : SpHead (prog (n + 2) 4) := head_sp (pLong n)
theorem pPlain (n w d m : Nat) : SpB w d m plainB (prog (n + 2) 5) := EV.NV.plain_sp (pNum n w d m) (pText n w d m)
theorem pRow (n : Nat) : SpKind "row" (prog (n + 3) 6) := row_sp (pHead n)
theorem pTree (n : Nat) : SpKind "tree" (prog (n + 3) 7) := tree_sp (pHead n)
theorem pVal (w m : Nat) (hm : m ≤ 4000) : ∀ k n : Nat, SpV w m k (prog (2 * k + n + 4) 9)
  | 0, n => by
    have h1 := pPlain (n + 1) w 0 m
    have h2 := pRow n
    have h3 := pTree n
    rw [show 2 * 0 + n + 4 = (n + 3) + 1 by omega]
    exact EV.NV.val_sp0 h1 h2 h3
  | k + 1, n => by
    have h1 := pPlain (2 * k + n + 3) w (k + 1) m
    have h2 := pRow (2 * k + n + 2)
    have h3 := pTree (2 * k + n + 2)
    have h4 := pVal w m hm k n
    have h5 := pVal w m hm k (n + 1)
    have hF : SpF w m k (prog (2 * k + n + 4 + 1) 8) := flds_sp (pLong (2 * k + n + 3)) h4 (pWord (2 * k + n + 3) w k m) hm
    rw [show 2 * (k + 1) + n + 4 = (2 * k + n + 5) + 1 by omega]
    exact EV.NV.val_spS h1 h2 h3 hF h5
theorem pFlds (w m : Nat) (hm : m ≤ 4000) (k n : Nat) : SpF w m k (prog (2 * k + n + 5) 8) := flds_sp (pLong (2 * k + n + 3)) (pVal w m hm k n) (pWord (2 * k + n + 3) w k m) hm
theorem pDocu (w m : Nat) (hm : m ≤ 4000) (k n : Nat) : SpB w (k + 1) m (docN k) (prog (2 * k + n + 6) 10) := EV.NV.doc_sp (pTree (2 * k + n + 2)) (pFlds w m hm k n)
theorem pFeed (n : Nat) : SpFeed (prog (n + 1) 11) := feed_sp
theorem pDraw (n : Nat) : SpDraw (prog (n + 1) 12) := draw_sp
theorem pSp (n : Nat) : ∀ k : Nat, k ≤ 40 → SpSp k (prog (n + k + 2) 13)
  | 0, _ => fun D g R p mn w m hg hD hp hm hmn => by
    have nt : isTup p = false := by
      cases p with
      | tup ps => have := hp.d; simp [dep] at this
      | _ => rfl
    exact spoilt0 (pDraw n) hg (by omega) hp hm hmn nt
  | k + 1, h => fun D g R p mn w m hg hD hp hm hmn => spoiltS (pDraw (n + k + 1)) (pSp n k (by omega)) (by omega) hg hD hp hm hmn
theorem pLNum (n w d m : Nat) : SpB w d m numB (prog (n + 1) 14) := lnum_sp
theorem pLWord (n w d m : Nat) : SpB w d m wordB (prog (n + 1) 15) := lword_sp
theorem pLText (n w d m : Nat) : SpB w d m textB (prog (n + 1) 16) := ltext_sp
theorem pLPlain (n w d m : Nat) : SpB w d m plainB (prog (n + 2) 17) := lplain_sp (pLText n w d m)
theorem pLVal (w m : Nat) (hm : m ≤ 4000) : ∀ k n : Nat, k ≤ 60 → SpV w m k (prog (k + n + 3) 18)
  | 0, n, _ => by
    rw [show 0 + n + 3 = (n + 2) + 1 by omega]
    exact lval_sp0 (pLPlain n w 0 m)
  | k + 1, n, h => by
    have h1 := pLPlain (k + n + 1) w (k + 1) m
    have h2 := pLVal w m hm k n (by omega)
    rw [show k + 1 + n + 3 = (k + n + 3) + 1 by omega]
    exact lval_spS h1 h2 (pLWord (k + n + 2) w k m) hm (by omega)
theorem pPl (n : Nat) : SpPlain (prog (n + 2) 19) := EV.plain_sp (pDraw n)
theorem pMk (n : Nat) : SpMk (prog (n + 2) 21) := mk_sp (pDraw n)
theorem pVl0 (n : Nat) : SpVal 0 (prog (n + 3) 20) := EV.val_sp0 (pDraw (n + 1)) (pPl n)
theorem pVl1 (n : Nat) : SpVal 1 (prog (n + 4) 20) := EV.val_spS (pDraw (n + 2)) (pPl (n + 1)) (pMk (n + 1)) (pVl0 n)
theorem pVl2 (n : Nat) : SpVal 2 (prog (n + 5) 20) := EV.val_spS (pDraw (n + 3)) (pPl (n + 2)) (pMk (n + 2)) (pVl1 n)
theorem pVl3 (n : Nat) : SpVal 3 (prog (n + 6) 20) := EV.val_spS (pDraw (n + 4)) (pPl (n + 3)) (pMk (n + 3)) (pVl2 n)
theorem pDoc (n : Nat) : SpDoc (prog (n + 7) 22) := EV.doc_sp (pDraw (n + 5)) (pMk (n + 4)) (pVl3 n)
theorem pLet (n d m : Nat) : SpG 30 (Sm 20 d m) (prog (n + 2) 23) [] := letters_sp (pDraw n)
theorem pLaw (ns : List Int) (hns : ns.length ≤ 63) : ∃ G, prog 151 25 [.sls (ns.map .int)] [] = .ok (.bl true) G := by
  have h := EV.NV.law_sp (f1 := prog 150 22) (f2 := prog 150 11) (f3 := prog 150 14) (f4 := prog 150 17) (f5 := prog 150 16) (f6 := prog 150 18) (f7 := prog 150 15) (f8 := prog 150 23) (f9 := prog 150 24) (f10 := prog 150 19) (f11 := prog 150 13) (f12 := prog 150 20) (f13 := prog 150 10) (f14 := prog 150 0) (f15 := prog 150 5) (f16 := prog 150 2) (f17 := prog 150 9) (f18 := prog 150 1)
    (pDoc 143) (pFeed 149) (pLNum 149 _ _ _) (pLPlain 148 _ _ _) (pLText 149 _ _ _) (pLVal _ _ (by decide) 40 107 (by decide)) (pLWord 149 _ _ _) (fun d m => pLet 148 d m) (fun p G w n m h h2 => near_sp h h2) (pPl 148)
    (fun n hn => by have := pSp (148 - n) n (by omega); rwa [show 148 - n + n + 2 = 150 by omega] at this) (pVl3 144) (pDocu _ _ (by decide) 39 66) (pNum 149 _ _ _) (pPlain 148 _ _ _) (pText 149 _ _ _) (pVal _ _ (by decide) 40 66) (pWord 149 _ _ _) ns hns
  obtain ⟨v, G, e, rfl⟩ := wq_ex h
  exact ⟨G, e⟩
end K01
theorem PySem.Challenge.cw_pathfolios_k01_values_by_kind_holds : PySem.Challenge.rw_pathfolios_k01_values_by_kind.Holds :=
  k01_holds 151 ⟨by decide +kernel, by decide +kernel, by decide +kernel⟩ fun ns hns _ => K01.pLaw ns hns
end
