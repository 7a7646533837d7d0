import PyProof.Rows.All
import Wide.All
import OpenK.AllK
import Wide.FinOn
import HandS.ForMost
import HandS.TupAny
import HandS.Style
import HandS.Flow
import HandS.More
import HandS.Zip
import HandS.Star
import HandS.Deep
import KE.GoesEnum
import HandS.IsInst
import HandS.TupMul
import PyProof.EqAt
import PyProof.ReprRoads
import HandS.ListItems
import HandS.DictComp
import KE.KDictDisplayH
import HandS.SortInts
import HandS.SetTxt0
import PyProof.Rows.SortKeyStr
import HandS.Set
import PyProof.Rows.SetFrom
import HandS.SetFor
import PyProof.SeqRoads2
import KE.KDictSum
import HandS.Conv
import HandS.Property
import PyProof.AssignAttr
import HandS.Walk
import KE.KDictWalk
import KE.KDictCopyH
import KE.SortData
import PyProof.DictUpdate
import PyProof.DictDisplay
import KE.KEqDict
import PyProof.DictFindH
import KE.KEqNest
import HandS.Codes
import HandS.OwnEq
import PyProof.InstNe
import KE.KDictOf
import KE.KDictPairs
import HandS.TupSets
import HandS.Strs
import HandS.SetBool
import HandS.Dict
import HandS.WordsDict
import KE.KExcSuper
import HandS.Exc
import HandS.ExcInit
import HandS.ForSpec
import HandS.ExcOwn
import HandS.TryOnly
import HandS.Small
import KE.KExcIs
import HandS.ExcField
import HandS.ExcIs
import PyProof.EqKinds
import PyProof.NeKinds
import PyProof.P3Eq
import PyProof.TupleIter
import PyProof.WalksMore
import HandS.Lambda
import HandS.EndTab
import PyProof.FactsAll.dict_1
import PyProof.FactsAll.subtypes_3
import PyProof.FactsAll.subtypes_4
import KE.LtSeq
import KE.LtData
import HandS.SortOrd
import KE.KSortTup
import HandS.Sort
import HandS.SortRule
import KE.KSortKey
import HandS.SortKw
import KE.KDictKeyed
import KE.KeyNested
import PySem.Challenge.RW_farcatch_k20_terms_in_order
set_option Elab.async false
set_option linter.all false
set_option maxRecDepth 100000
set_option maxHeartbeats 1000000
/-! DL: a layer of data over HandS. -/
namespace DL
open PySem L2
/-- what a value stands for -/
inductive D where
  | non | bl (b : Bool) | int (i : Int) | str (x : Str)
  | lst (ds : List D) | tup (ds : List D) | dic (t : Bool) (kvs : List (D × D))
  | ins (C : Addr) (fs : List (Str × D)) | bag
  | glb (a : Addr)
  | lock (o : Obj) (u : HO)
  | at (a : Addr) (d : D)
/-- bg: where the bag stands, bi: its list; own: what data never reach -/
structure Gh where
  bg : Addr
  bi : Addr
  own : Addr → Prop
  /-- tables of code objects, each with its code's name -/
  tbs : List (Addr × Str)
/-- what a pin of the heap says: a locked object, or an exception's dict as it is -/
noncomputable def lkO (o : Obj) : HO → HO
  | .xd fs => .xd fs
  | u => .frz o u
noncomputable def kD : Key → D
  | .inl i => .int i
  | .inr x => .str x
mutual
noncomputable def Dt (K : PySem.W.Frag) (G : Gh) (H : Hp) : D → V → Prop
  | .non, v => v = .non
  | .bl b, v => v = .bl b
  | .int i, v => v = .int i
  | .str x, v => v = .str x
  | .lst ds, v => ∃ a xs, v = .ref a ∧ ¬ G.own a ∧ H a = some (.lst xs) ∧ DtL K G H ds xs
  | .tup ds, v => ∃ a xs, v = .ref a ∧ H a = some (.tup xs) ∧ DtL K G H ds xs
  | .dic t es, v => ∃ a, v = .ref a ∧ ¬ G.own a ∧ ((∃ kvs, Rd H a (.dK kvs) ∧ DtP K G H t es kvs) ∨ ∃ kvs, Rd H a (.dT kvs) ∧ DtQ K G H t es kvs)
  | .ins C fs, v => ∃ a dx vs, v = .ref a ∧ ¬ G.own a ∧ H a = some (.ins C dx vs) ∧ DtF K G H fs vs
  | .glb a, v => v = .ref a
  | .bag, v => v = .ref G.bg
  | .lock o u, v => ∃ a, v = .ref a ∧ ¬ G.own a ∧ H a = some (lkO o u)
  | .at a d, v => v = .ref a ∧ Dt K G H d v
noncomputable def DtL (K : PySem.W.Frag) (G : Gh) (H : Hp) : List D → List V → Prop
  | [], xs => xs = []
  | d :: ds, xs => ∃ x r, xs = x :: r ∧ Dt K G H d x ∧ DtL K G H ds r
noncomputable def DtP (K : PySem.W.Frag) (G : Gh) (H : Hp) (t : Bool) : List (D × D) → List (Key × V) → Prop
  | [], kvs => kvs = [] ∧ t = false
  | (k, d) :: es, kvs => ∃ j v r, kvs = (j, v) :: r ∧ k = kD j ∧ Dt K G H d v ∧ DtP K G H t es r
noncomputable def DtQ (K : PySem.W.Frag) (G : Gh) (H : Hp) (t : Bool) : List (D × D) → List (List Key × V) → Prop
  | [], kvs => kvs = [] ∧ t = true
  | (k, d) :: es, kvs => ∃ j v r, kvs = (j, v) :: r ∧ k = .tup (j.map kD) ∧ Dt K G H d v ∧ DtQ K G H t es r
noncomputable def DtF (K : PySem.W.Frag) (G : Gh) (H : Hp) : List (Str × D) → List (Str × V) → Prop
  | [], kvs => kvs = []
  | (k, d) :: es, kvs => ∃ v r, kvs = (k, v) :: r ∧ Dt K G H d v ∧ DtF K G H es r
end
theorem Rd.kp {H H' : Hp} {a : Addr} {u : HO} (k : ∀ o, H a = some o → H' a = some o) (h : Rd H a u) : Rd H' a u := by
  rcases h with h | ⟨o, h⟩
  · exact .inl (k _ h)
  · exact .inr ⟨o, k _ h⟩
noncomputable def Dic : HO → Prop
  | .dK _ => True
  | .dT _ => True
  | _ => False
/-- what may change for good: a dict that a walk needs is locked, a table of code objects grows -/
noncomputable def Dy : HO → Prop
  | .dK _ => True
  | .dT _ => True
  | .tbl _ => True
  | _ => False
theorem lkO_dy (o : Obj) (u : HO) : ¬ Dy (lkO o u) := by cases u <;> exact fun z => z
/-- what a code object's entry in the heap reads as -/
noncomputable abbrev hoC : HO := .ext fun _ => True
/-- the table at P: each code object that it tells is known, and bears the name q -/
noncomputable def TabF (H : Hp) (P : Addr) (q : Str) : Prop := ∃ ps : Array Value, H P = some (.tbl ps) ∧ TriplesOk ps.toList ∧ ∀ (pos : Pos) (cv : Value), codeAmong pos ps.toList = some cv → ∃ (c : Addr) (oc : Obj) (vs : Array Value) (t : Tok), cv = .ref c ∧ H c = some (.frz oc hoC) ∧ oc.data = .fields vs ∧ vs[1]? = some (.str q t)
/-- the same of the names T alone -/
noncomputable def Fz (T : List (Addr × Str)) (H H' : Hp) (a : Addr) (od : Obj) : HO → Prop
  | .tbl _ => (∃ ps, H' a = some (.tbl ps)) ∧ ∀ q, (a, q) ∈ T → TabF H a q → TabF H' a q
  | o => H' a = some (.frz od o)
/-- what data ask of it -/
noncomputable def Fy (H' : Hp) (a : Addr) (od : Obj) : HO → Prop
  | .tbl _ => ∃ ps, H' a = some (.tbl ps)
  | o => H' a = some (.frz od o)
section
variable {T : List (Addr × Str)} {H H' H0 H1 H2 : Hp} {a : Addr} {od : Obj} {o : HO} {N : Prop}
theorem Fz.of (d : Dic o) (h : H' a = some (.frz od o)) : Fz T H H' a od o := by cases o <;> first | exact h | exact d.elim
theorem Fz.fy (h : Fz T H H' a od o) : Fy H' a od o := by cases o <;> first | exact h | exact h.1
theorem Fy.ne (h : Fy H' a od o) : H' a ≠ none := by
  cases o <;> first | (have h' : H' a = some (.frz od _) := h; rw [h']; exact fun z => nomatch z) | (obtain ⟨ps, h'⟩ := h; rw [h']; exact fun z => nomatch z)
theorem Fz.ne (h : Fz T H H' a od o) : H' a ≠ none := h.fy.ne
theorem Fy.fr (n : ∀ ps, o ≠ .tbl ps) (h : Fy H' a od o) : H' a = some (.frz od o) := by
  cases o <;> first | exact h | exact absurd rfl (n _)
theorem Fz.fr (n : ∀ ps, o ≠ .tbl ps) (h : Fz T H H' a od o) : H' a = some (.frz od o) := h.fy.fr n
theorem TabF.nil {P : Addr} {q : Str} (h : H P = some (.tbl #[])) : TabF H P q := ⟨#[], h, True.intro, fun pos cv hc => by
  have z : codeAmong pos [] = some cv := hc
  simp [codeAmong] at z⟩
theorem TabF.to {q : Str} (h : TabF H a q) (e : H' a = H a) (k : ∀ c oc, H c = some (.frz oc hoC) → H' c = some (.frz oc hoC)) : TabF H' a q := by
  obtain ⟨ps, h1, h2, h3⟩ := h
  exact ⟨ps, by rw [e]; exact h1, h2, fun pos cv hc => by
    obtain ⟨c, oc, vs, t, e1, e2, e3⟩ := h3 pos cv hc
    exact ⟨c, oc, vs, t, e1, k _ _ e2, e3⟩⟩
theorem Fz.to (h : Fz T H H1 a od o) (e : H2 a = H1 a) (k : ∀ c oc, H1 c = some (.frz oc hoC) → H2 c = some (.frz oc hoC)) : Fz T H H2 a od o := by
  cases o with
  | tbl ps =>
    obtain ⟨⟨ps', h1⟩, h2⟩ := h
    exact ⟨⟨ps', by rw [e]; exact h1⟩, fun q m t => (h2 q m t).to e k⟩
  | _ => exact (show H2 a = some (.frz od _) from e.trans h)
theorem Fz.pre (h : Fz T H1 H2 a od o) (e : H1 a = H0 a) (k : ∀ c oc, H0 c = some (.frz oc hoC) → H1 c = some (.frz oc hoC)) : Fz T H0 H2 a od o := by
  cases o with
  | tbl ps =>
    obtain ⟨h1, h2⟩ := h
    exact ⟨h1, fun q m t => h2 q m (t.to e k)⟩
  | _ => exact h
theorem Fy.to (h : Fy H1 a od o) (e : H2 a = H1 a) : Fy H2 a od o := by
  cases o <;> first | exact (show H2 a = some (.frz od _) from e.trans h) | (obtain ⟨ps, h⟩ := h; exact ⟨ps, e.trans h⟩)
theorem Kp.to (h : H1 a = some o ∨ (N ∧ Dy o ∧ ∃ od, Fz T H H1 a od o)) (e : H2 a = H1 a) (k : ∀ c oc, H1 c = some (.frz oc hoC) → H2 c = some (.frz oc hoC)) : H2 a = some o ∨ (N ∧ Dy o ∧ ∃ od, Fz T H H2 a od o) :=
  h.elim (fun z => .inl (e.trans z)) fun ⟨n, d, od, z⟩ => .inr ⟨n, d, od, z.to e k⟩
theorem Kp.pre (h : H2 a = some o ∨ (N ∧ Dy o ∧ ∃ od, Fz T H1 H2 a od o)) (e : H1 a = H0 a) (k : ∀ c oc, H0 c = some (.frz oc hoC) → H1 c = some (.frz oc hoC)) : H2 a = some o ∨ (N ∧ Dy o ∧ ∃ od, Fz T H0 H2 a od o) :=
  h.imp _root_.id fun ⟨n, d, od, z⟩ => ⟨n, d, od, z.pre e k⟩
end
theorem Mut.nfr {H : Hp} {p c : Addr} {o : Obj} {u : HO} (m : Mut (H p)) (h : H c = some (.frz o u)) : c ≠ p := fun z => by
  rw [← z, h] at m
  exact m
theorem Mut.ntb {H : Hp} {p c : Addr} {ps : Array Value} (m : Mut (H p)) (h : H c = some (.tbl ps)) : c ≠ p := fun z => by
  rw [← z, h] at m
  exact m
noncomputable def Lk (H H' : Hp) (a : Addr) (o : HO) : Prop := H' a = some o ∨ (Dy o ∧ ∃ od, Fy H' a od o)
theorem Lk.plain {H H' : Hp} {a : Addr} {o : HO} (h : Lk H H' a o) (n : ¬ Dy o) : H' a = some o := h.elim _root_.id fun z => absurd z.1 n
theorem Rd.lk {H H' : Hp} {a : Addr} {u : HO} (nt : ∀ ps, u ≠ .tbl ps) (k : ∀ o, H a = some o → Lk H H' a o) (h : Rd H a u) : Rd H' a u := by
  rcases h with h | ⟨o, h⟩
  · rcases k _ h with q | ⟨_, od, q⟩
    · exact .inl q
    · exact .inr ⟨od, q.fr nt⟩
  · exact .inr ⟨o, (k _ h).plain fun z => z⟩
section
variable {K : PySem.W.Frag} {G G' : Gh} {H H' : Hp}
/-- a change of what is mutable and owned alone leaves all data -/
structure Evo (G G' : Gh) (H H' : Hp) : Prop where
  keep : ∀ a o, ¬ G.own a → H a = some o → Lk H H' a o
  tr : ∀ a, G.own a → Mut (H a)
  out : ∀ a, ¬ G.own a → H a ≠ none → ¬ G'.own a
  bg : G'.bg = G.bg
  bi : G'.bi = G.bi
theorem Evo.tu {xs : List V} {a : Addr} (e : Evo G G' H H') (h : H a = some (.tup xs)) : H' a = some (.tup xs) :=
  (e.keep a _ (fun z => by have m := e.tr a z; rw [h] at m; exact m) h).plain fun z => z
theorem Evo.rd {u : HO} {a : Addr} (e : Evo G G' H H') (n : ¬ G.own a) (h : Rd H a u) (nt : ∀ ps, u ≠ .tbl ps := by intro ps z; cases z) : ¬ G'.own a ∧ Rd H' a u :=
  ⟨e.out a n (by rcases h with h | ⟨o, h⟩ <;> rw [h] <;> exact fun z => nomatch z), Rd.lk nt (fun o q => e.keep a o n q) h⟩
mutual
theorem Evo.dt (e : Evo G G' H H') : ∀ (d : D) (v : V), Dt K G H d v → Dt K G' H' d v
  | .non, v, h => h
  | .bl b, v, h => h
  | .int i, v, h => h
  | .str x, v, h => h
  | .lst ds, v, h => by
    obtain ⟨a, xs, h1, h2, h3, h4⟩ := h
    exact ⟨a, xs, h1, e.out a h2 (by rw [h3]; exact fun z => nomatch z), (e.keep a _ h2 h3).plain (fun z => z), Evo.dts e ds xs h4⟩
  | .tup ds, v, h => by
    obtain ⟨a, xs, h1, h3, h4⟩ := h
    exact ⟨a, xs, h1, e.tu h3, Evo.dts e ds xs h4⟩
  | .dic t es, v, h => by
    obtain ⟨a, h1, h2, h3⟩ := h
    rcases h3 with ⟨kvs, h3, h4⟩ | ⟨kvs, h3, h4⟩
    · obtain ⟨n, r⟩ := e.rd h2 h3
      exact ⟨a, h1, n, .inl ⟨kvs, r, Evo.dtp e t es kvs h4⟩⟩
    · obtain ⟨n, r⟩ := e.rd h2 h3
      exact ⟨a, h1, n, .inr ⟨kvs, r, Evo.dtq e t es kvs h4⟩⟩
  | .ins C fs, v, h => by
    obtain ⟨a, dx, vs, h1, h2, h3, h4⟩ := h
    exact ⟨a, dx, vs, h1, e.out a h2 (by rw [h3]; exact fun z => nomatch z), (e.keep a _ h2 h3).plain (fun z => z), Evo.dtf e fs vs h4⟩
  | .glb a, v, h => h
  | .bag, v, h => by
    have h' : v = .ref G.bg := h
    show v = .ref G'.bg
    rw [e.bg]; exact h'
  | .lock o u, v, h => by
    obtain ⟨a, h1, h2, h3⟩ := h
    exact ⟨a, h1, e.out a h2 (by rw [h3]; exact fun z => nomatch z), (e.keep a _ h2 h3).plain (lkO_dy o u)⟩
  | .at a d, v, h => ⟨h.1, Evo.dt e d v h.2⟩
theorem Evo.dts (e : Evo G G' H H') : ∀ (ds : List D) (xs : List V), DtL K G H ds xs → DtL K G' H' ds xs
  | [], xs, h => h
  | d :: ds, xs, h => by
    obtain ⟨x, r, h1, h2, h3⟩ := h
    exact ⟨x, r, h1, Evo.dt e d x h2, Evo.dts e ds r h3⟩
theorem Evo.dtp (e : Evo G G' H H') : ∀ (t : Bool) (es : List (D × D)) (kvs : List (Key × V)), DtP K G H t es kvs → DtP K G' H' t es kvs
  | t, [], xs, h => h
  | t, (k, d) :: es, kvs, h => by
    obtain ⟨j, v, r, h1, h2, h3, h4⟩ := h
    exact ⟨j, v, r, h1, h2, Evo.dt e d v h3, Evo.dtp e t es r h4⟩
theorem Evo.dtq (e : Evo G G' H H') : ∀ (t : Bool) (es : List (D × D)) (kvs : List (List Key × V)), DtQ K G H t es kvs → DtQ K G' H' t es kvs
  | t, [], xs, h => h
  | t, (k, d) :: es, kvs, h => by
    obtain ⟨j, v, r, h1, h2, h3, h4⟩ := h
    exact ⟨j, v, r, h1, h2, Evo.dt e d v h3, Evo.dtq e t es r h4⟩
theorem Evo.dtf (e : Evo G G' H H') : ∀ (es : List (Str × D)) (kvs : List (Str × V)), DtF K G H es kvs → DtF K G' H' es kvs
  | [], xs, h => h
  | (k, d) :: es, kvs, h => by
    obtain ⟨v, r, h1, h3, h4⟩ := h
    exact ⟨v, r, h1, Evo.dt e d v h3, Evo.dtf e es r h4⟩
end
end
end DL
set_option Elab.async false
set_option linter.all false
set_option maxRecDepth 100000
set_option maxHeartbeats 1000000
namespace DL
open PySem L2
/-- the bag of a law: its number, its seed, its place, the script's numbers -/
noncomputable def BagOk (H : Hp) (bg bi : Addr) : Prop := ∃ (x y z : Int) (ns : List Int), H bg = some (.lst [.int x, .int y, .int z, .ref bi]) ∧ H bi = some (.lst (ns.map V.int)) ∧
  0 ≤ x ∧ 0 ≤ y ∧ 0 ≤ z ∧ (∀ n ∈ ns, 0 ≤ n) ∧ ns.length ≤ 63
theorem BagOk.ne {H : Hp} {bg bi : Addr} (h : BagOk H bg bi) : H bg ≠ none := by
  obtain ⟨x, y, z, ns, h1, _⟩ := h
  rw [h1]; exact fun z => nomatch z
/-- what an expression may do -/
structure Ext (G : Gh) (H H' : Hp) : Prop where
  keep : ∀ a o, a ≠ G.bg → H a = some o → H' a = some o ∨ (¬ G.own a ∧ Dy o ∧ ∃ od, Fz G.tbs H H' a od o)
  bag : BagOk H' G.bg G.bi
  old : BagOk H G.bg G.bi
theorem Ext.refl {G : Gh} {H : Hp} (b : BagOk H G.bg G.bi) : Ext G H H := ⟨fun _ _ _ h => .inl h, b, b⟩
theorem Ext.lk {G : Gh} {H H' : Hp} (e : Ext G H H') {a : Addr} {o : HO} (n : a ≠ G.bg) (h : H a = some o) : Lk H H' a o := (e.keep a o n h).imp _root_.id fun ⟨_, d, od, z⟩ => ⟨d, od, z.fy⟩
theorem Ext.plain {G : Gh} {H H' : Hp} (e : Ext G H H') {a : Addr} {o : HO} (n : a ≠ G.bg) (h : H a = some o) (d : ¬ Dy o) : H' a = some o := (e.lk n h).plain d
theorem Ext.mine {G : Gh} {H H' : Hp} (e : Ext G H H') {a : Addr} {o : HO} (n : a ≠ G.bg) (h : H a = some o) (d : G.own a) : H' a = some o := (e.keep a o n h).elim _root_.id fun z => absurd d z.1
theorem BagOk.nfr {H : Hp} {bg bi : Addr} (b : BagOk H bg bi) {c : Addr} {o : Obj} {u : HO} (h : H c = some (.frz o u)) : c ≠ bg := fun z => by
  obtain ⟨x, y, v, ns, h1, _⟩ := b
  rw [z, h1] at h
  cases h
theorem BagOk.ntb {H : Hp} {bg bi : Addr} (b : BagOk H bg bi) {c : Addr} {ps : Array Value} (h : H c = some (.tbl ps)) : c ≠ bg := fun z => by
  obtain ⟨x, y, v, ns, h1, _⟩ := b
  rw [z, h1] at h
  cases h
/-- a table stays one -/
theorem Ext.tab {G : Gh} {H H' : Hp} (e : Ext G H H') {P : Addr} {q : Str} (m : (P, q) ∈ G.tbs) (h : TabF H P q) : TabF H' P q := by
  obtain ⟨ps, h1, h2, h3⟩ := id h
  rcases e.keep P _ (e.old.ntb h1) h1 with z | ⟨_, _, od, _, z⟩
  · exact ⟨ps, z, h2, fun pos cv hc => by
      obtain ⟨c, oc, vs, t, e1, e2, e3⟩ := h3 pos cv hc
      exact ⟨c, oc, vs, t, e1, e.plain (e.old.nfr e2) e2 fun z => z, e3⟩⟩
  · exact z q m h
theorem Ext.trans {G : Gh} {H H1 H2 : Hp} (a : Ext G H H1) (b : Ext G H1 H2) : Ext G H H2 := ⟨fun x o n h => by
  cases o with
  | tbl ps =>
    have t : ∀ q, (x, q) ∈ G.tbs → TabF H x q → TabF H2 x q := fun q m h => b.tab m (a.tab m h)
    have own : (∃ ps, H1 x = some (.tbl ps)) := by
      rcases a.keep x _ n h with q | ⟨_, _, od, q, _⟩
      · exact ⟨_, q⟩
      · exact q
    obtain ⟨ps1, h1⟩ := own
    rcases a.keep x _ n h with q | ⟨q1, q2, od, q3⟩
    · rcases b.keep x _ n q with w | ⟨w1, w2, od, w3, _⟩
      · exact .inl w
      · exact .inr ⟨w1, True.intro, default, w3, t⟩
    · refine .inr ⟨q1, True.intro, default, ?_, t⟩
      rcases b.keep x _ n h1 with w | ⟨w1, w2, od, w3, _⟩
      · exact ⟨_, w⟩
      · exact w3
  | _ =>
    rcases a.keep x _ n h with q | ⟨q1, q2, od, q3⟩
    · exact b.keep x _ n q
    · first
      | exact q2.elim
      | exact .inr ⟨q1, True.intro, od, b.plain n q3 fun z => z⟩, b.bag, a.old⟩
theorem Ext.free {G : Gh} {H H1 : Hp} {p : Addr} (a : Ext G H H1) (b : BagOk H G.bg G.bi) (h : H1 p = none) : H p = none := by
  cases q : H p with
  | none => rfl
  | some o =>
    by_cases e : p = G.bg
    · subst e; exact absurd h a.bag.ne
    · rcases a.lk e q with z | ⟨_, od, z⟩
      · rw [z] at h; cases h
      · exact absurd h z.ne
theorem Ext.cg {G G' : Gh} {H H' : Hp} (e : G'.bg = G.bg) (e2 : G'.bi = G.bi) (e3 : ∀ a, G'.own a → G.own a) (x : Ext G H H') (et : G'.tbs = G.tbs := by rfl) : Ext G' H H' := ⟨fun a o n h => (x.keep a o (by rw [← e]; exact n) h).imp _root_.id fun z => ⟨fun w => z.1 (e3 a w), by rw [et]; exact z.2⟩, by rw [e, e2]; exact x.bag, by rw [e, e2]; exact x.old⟩
theorem BagOk.kept {H H' : Hp} {bg bi : Addr} (h : BagOk H bg bi) (k : ∀ a o, H a = some o → H' a = some o) : BagOk H' bg bi := by
  obtain ⟨x, y, z, ns, h1, h2, r⟩ := h
  exact ⟨x, y, z, ns, k _ _ h1, k _ _ h2, r⟩
/-- what stands at any time -/
structure GOk (G : Gh) (H : Hp) : Prop where
  ob : G.own G.bg
  oi : G.own G.bi
  tr : ∀ a, G.own a → Mut (H a)
  bag : BagOk H G.bg G.bi
  tb : ∀ p ∈ G.tbs, TabF H p.1 p.2
theorem Ext.all {G : Gh} {H H' : Hp} (b : BagOk H G.bg G.bi) (k : ∀ a o, H a = some o → H' a = some o) : Ext G H H' := ⟨fun a o _ h => .inl (k a o h), b.kept k, b⟩
theorem Ext.put {G : Gh} {H H1 : Hp} {p : Addr} {o : HO} (x : Ext G H H1) (hn : H p = none) (m : Mut (H1 p)) : Ext G H (upd H1 p o) := by
  refine ⟨fun a u n h => ?_, ?_, x.old⟩
  · exact Kp.to (x.keep a u n h) (upd_ne fun z => by rw [z, hn] at h; cases h) fun c oc hc => by rw [upd_ne (Mut.nfr m hc)]; exact hc
  · obtain ⟨_, _, _, _, o1, o2, _⟩ := x.old
    obtain ⟨x1, y, z, ns, h1, h2, r⟩ := x.bag
    exact ⟨x1, y, z, ns, by rw [upd_ne fun w => by rw [w, hn] at o1; cases o1]; exact h1, by rw [upd_ne fun w => by rw [w, hn] at o2; cases o2]; exact h2, r⟩
theorem Ext.new {G : Gh} {H : Hp} {p : Addr} {o : HO} (b : BagOk H G.bg G.bi) (h : H p = none) : Ext G H (upd H p o) :=
  .all b fun a u e => by rw [upd_ne (ne_of_none e h)]; exact e
/-- what a def owns: data, a list of its own, a dict of its own, within one another -/
inductive Tr where
  | d (x : D) | l (ts : List Tr) | m (b : Bool) (es : List (D × Tr)) | o (C : Addr) (fs : List (Str × Tr)) | tp (ts : List Tr)
mutual
noncomputable def Tr.toD : Tr → D
  | .d x => x
  | .l ts => .lst (Tr.toDs ts)
  | .m b es => .dic b (Tr.toEs es)
  | .o C fs => .ins C (Tr.toFs fs)
  | .tp ts => .tup (Tr.toDs ts)
noncomputable def Tr.toDs : List Tr → List D
  | [] => []
  | t :: ts => t.toD :: Tr.toDs ts
noncomputable def Tr.toEs : List (D × Tr) → List (D × D)
  | [] => []
  | (k, t) :: es => (k, t.toD) :: Tr.toEs es
noncomputable def Tr.toFs : List (Str × Tr) → List (Str × D)
  | [] => []
  | (k, t) :: es => (k, t.toD) :: Tr.toFs es
end
mutual
/-- v stands for t; L: the addresses that are owned -/
noncomputable def Ow (K : PySem.W.Frag) (G : Gh) (H : Hp) : Tr → V → List Addr → Prop
  | .d x, v, L => L = [] ∧ Dt K G H x v
  | .l ts, v, L => ∃ p xs M, v = .ref p ∧ G.own p ∧ H p = some (.lst xs) ∧ OwL K G H ts xs M ∧ L = p :: M
  | .m b es, v, L => ∃ p M, v = .ref p ∧ G.own p ∧ ((∃ kvs, H p = some (.dK kvs) ∧ OwP K G H b es kvs M) ∨ ∃ kvs, H p = some (.dT kvs) ∧ OwQ K G H b es kvs M) ∧ L = p :: M
  | .o C fs, v, L => ∃ p dx vs M, v = .ref p ∧ G.own p ∧ H p = some (.ins C dx vs) ∧ OwF K G H fs vs M ∧ L = p :: M
  | .tp ts, v, L => ∃ p xs, v = .ref p ∧ H p = some (.tup xs) ∧ OwL K G H ts xs L
noncomputable def OwF (K : PySem.W.Frag) (G : Gh) (H : Hp) : List (Str × Tr) → List (Str × V) → List Addr → Prop
  | [], kvs, L => kvs = [] ∧ L = []
  | (k, t) :: es, kvs, L => ∃ v r M N, kvs = (k, v) :: r ∧ Ow K G H t v M ∧ OwF K G H es r N ∧ L = M ++ N
noncomputable def OwL (K : PySem.W.Frag) (G : Gh) (H : Hp) : List Tr → List V → List Addr → Prop
  | [], xs, L => xs = [] ∧ L = []
  | t :: ts, xs, L => ∃ x r M N, xs = x :: r ∧ Ow K G H t x M ∧ OwL K G H ts r N ∧ L = M ++ N
noncomputable def OwP (K : PySem.W.Frag) (G : Gh) (H : Hp) (b : Bool) : List (D × Tr) → List (Key × V) → List Addr → Prop
  | [], kvs, L => kvs = [] ∧ b = false ∧ L = []
  | (k, t) :: es, kvs, L => ∃ j v r M N, kvs = (j, v) :: r ∧ k = kD j ∧ Ow K G H t v M ∧ OwP K G H b es r N ∧ L = M ++ N
noncomputable def OwQ (K : PySem.W.Frag) (G : Gh) (H : Hp) (b : Bool) : List (D × Tr) → List (List Key × V) → List Addr → Prop
  | [], kvs, L => kvs = [] ∧ b = true ∧ L = []
  | (k, t) :: es, kvs, L => ∃ j v r M N, kvs = (j, v) :: r ∧ k = .tup (j.map kD) ∧ Ow K G H t v M ∧ OwQ K G H b es r N ∧ L = M ++ N
end
section
variable {K : PySem.W.Frag} {G G' : Gh} {H H' : Hp}
mutual
theorem Ow.own : ∀ (t : Tr) (v : V) (L : List Addr), Ow K G H t v L → ∀ p ∈ L, G.own p ∧ H p ≠ none
  | .d x, v, L, h, p, hp => by rw [h.1] at hp; cases hp
  | .l ts, v, L, h, p, hp => by
    obtain ⟨q, xs, M, rfl, o, e, h, rfl⟩ := h
    rcases List.mem_cons.mp hp with rfl | hp
    · exact ⟨o, by rw [e]; exact fun z => nomatch z⟩
    · exact OwL.own ts xs M h p hp
  | .m b es, v, L, h, p, hp => by
    obtain ⟨q, M, rfl, o, h, rfl⟩ := h
    rcases List.mem_cons.mp hp with rfl | hp
    · rcases h with ⟨_, e, _⟩ | ⟨_, e, _⟩ <;> exact ⟨o, by rw [e]; exact fun z => nomatch z⟩
    · rcases h with ⟨kvs, _, h⟩ | ⟨kvs, _, h⟩
      · exact OwP.own b es kvs M h p hp
      · exact OwQ.own b es kvs M h p hp
  | .o C fs, v, L, h, p, hp => by
    obtain ⟨q, dx, vs, M, rfl, o, e, h, rfl⟩ := h
    rcases List.mem_cons.mp hp with rfl | hp
    · exact ⟨o, by rw [e]; exact fun z => nomatch z⟩
    · exact OwF.own fs vs M h p hp
  | .tp ts, v, L, h, p, hp => by
    obtain ⟨q, xs, rfl, e, h⟩ := h
    exact OwL.own ts xs L h p hp
theorem OwF.own : ∀ (es : List (Str × Tr)) (kvs : List (Str × V)) (L : List Addr), OwF K G H es kvs L → ∀ p ∈ L, G.own p ∧ H p ≠ none
  | [], xs, L, h, p, hp => by rw [h.2] at hp; cases hp
  | (k, t) :: es, kvs, L, h, p, hp => by
    obtain ⟨v, r, M, N, rfl, h1, h2, rfl⟩ := h
    rcases List.mem_append.mp hp with hp | hp
    · exact Ow.own t v M h1 p hp
    · exact OwF.own es r N h2 p hp
theorem OwL.own : ∀ (ts : List Tr) (xs : List V) (L : List Addr), OwL K G H ts xs L → ∀ p ∈ L, G.own p ∧ H p ≠ none
  | [], xs, L, h, p, hp => by rw [h.2] at hp; cases hp
  | t :: ts, xs, L, h, p, hp => by
    obtain ⟨x, r, M, N, rfl, h1, h2, rfl⟩ := h
    rcases List.mem_append.mp hp with hp | hp
    · exact Ow.own t x M h1 p hp
    · exact OwL.own ts r N h2 p hp
theorem OwP.own (b : Bool) : ∀ (es : List (D × Tr)) (kvs : List (Key × V)) (L : List Addr), OwP K G H b es kvs L → ∀ p ∈ L, G.own p ∧ H p ≠ none
  | [], xs, L, h, p, hp => by rw [h.2.2] at hp; cases hp
  | (k, t) :: es, kvs, L, h, p, hp => by
    obtain ⟨j, v, r, M, N, rfl, _, h1, h2, rfl⟩ := h
    rcases List.mem_append.mp hp with hp | hp
    · exact Ow.own t v M h1 p hp
    · exact OwP.own b es r N h2 p hp
theorem OwQ.own (b : Bool) : ∀ (es : List (D × Tr)) (kvs : List (List Key × V)) (L : List Addr), OwQ K G H b es kvs L → ∀ p ∈ L, G.own p ∧ H p ≠ none
  | [], xs, L, h, p, hp => by rw [h.2.2] at hp; cases hp
  | (k, t) :: es, kvs, L, h, p, hp => by
    obtain ⟨j, v, r, M, N, rfl, _, h1, h2, rfl⟩ := h
    rcases List.mem_append.mp hp with hp | hp
    · exact Ow.own t v M h1 p hp
    · exact OwQ.own b es r N h2 p hp
end
mutual
/-- what is owned stands, data go along -/
theorem Ow.evo (e : Evo G G' H H') : ∀ (t : Tr) (v : V) (L : List Addr), (∀ p ∈ L, G'.own p ∧ H' p = H p) → Ow K G H t v L → Ow K G' H' t v L
  | .d x, v, L, k, h => ⟨h.1, e.dt x v h.2⟩
  | .l ts, v, L, k, h => by
    obtain ⟨p, xs, M, rfl, o, q, h, rfl⟩ := h
    have kp := k p List.mem_cons_self
    exact ⟨p, xs, M, rfl, kp.1, by rw [kp.2]; exact q, Ow.evoL e ts xs M (fun p hp => k p (List.mem_cons_of_mem _ hp)) h, rfl⟩
  | .m b es, v, L, k, h => by
    obtain ⟨p, M, rfl, o, h, rfl⟩ := h
    have kp := k p List.mem_cons_self
    have km := fun p hp => k p (List.mem_cons_of_mem _ hp)
    refine ⟨p, M, rfl, kp.1, ?_, rfl⟩
    rcases h with ⟨kvs, q, h⟩ | ⟨kvs, q, h⟩
    · exact .inl ⟨kvs, by rw [kp.2]; exact q, Ow.evoP e b es kvs M km h⟩
    · exact .inr ⟨kvs, by rw [kp.2]; exact q, Ow.evoQ e b es kvs M km h⟩
  | .o C fs, v, L, k, h => by
    obtain ⟨p, dx, vs, M, rfl, o, q, h, rfl⟩ := h
    have kp := k p List.mem_cons_self
    exact ⟨p, dx, vs, M, rfl, kp.1, by rw [kp.2]; exact q, Ow.evoF e fs vs M (fun p hp => k p (List.mem_cons_of_mem _ hp)) h, rfl⟩
  | .tp ts, v, L, k, h => by
    obtain ⟨p, xs, rfl, q, h⟩ := h
    exact ⟨p, xs, rfl, e.tu q, Ow.evoL e ts xs L k h⟩
theorem Ow.evoF (e : Evo G G' H H') : ∀ (es : List (Str × Tr)) (kvs : List (Str × V)) (L : List Addr), (∀ p ∈ L, G'.own p ∧ H' p = H p) → OwF K G H es kvs L → OwF K G' H' es kvs L
  | [], xs, L, k, h => h
  | (c, t) :: es, kvs, L, k, h => by
    obtain ⟨v, r, M, N, rfl, h1, h2, rfl⟩ := h
    exact ⟨v, r, M, N, rfl, Ow.evo e t v M (fun p hp => k p (List.mem_append_left _ hp)) h1, Ow.evoF e es r N (fun p hp => k p (List.mem_append_right _ hp)) h2, rfl⟩
theorem Ow.evoL (e : Evo G G' H H') : ∀ (ts : List Tr) (xs : List V) (L : List Addr), (∀ p ∈ L, G'.own p ∧ H' p = H p) → OwL K G H ts xs L → OwL K G' H' ts xs L
  | [], xs, L, k, h => h
  | t :: ts, xs, L, k, h => by
    obtain ⟨x, r, M, N, rfl, h1, h2, rfl⟩ := h
    exact ⟨x, r, M, N, rfl, Ow.evo e t x M (fun p hp => k p (List.mem_append_left _ hp)) h1, Ow.evoL e ts r N (fun p hp => k p (List.mem_append_right _ hp)) h2, rfl⟩
theorem Ow.evoP (e : Evo G G' H H') (b : Bool) : ∀ (es : List (D × Tr)) (kvs : List (Key × V)) (L : List Addr), (∀ p ∈ L, G'.own p ∧ H' p = H p) → OwP K G H b es kvs L → OwP K G' H' b es kvs L
  | [], xs, L, k, h => h
  | (c, t) :: es, kvs, L, k, h => by
    obtain ⟨j, v, r, M, N, rfl, hc, h1, h2, rfl⟩ := h
    exact ⟨j, v, r, M, N, rfl, hc, Ow.evo e t v M (fun p hp => k p (List.mem_append_left _ hp)) h1, Ow.evoP e b es r N (fun p hp => k p (List.mem_append_right _ hp)) h2, rfl⟩
theorem Ow.evoQ (e : Evo G G' H H') (b : Bool) : ∀ (es : List (D × Tr)) (kvs : List (List Key × V)) (L : List Addr), (∀ p ∈ L, G'.own p ∧ H' p = H p) → OwQ K G H b es kvs L → OwQ K G' H' b es kvs L
  | [], xs, L, k, h => h
  | (c, t) :: es, kvs, L, k, h => by
    obtain ⟨j, v, r, M, N, rfl, hc, h1, h2, rfl⟩ := h
    exact ⟨j, v, r, M, N, rfl, hc, Ow.evo e t v M (fun p hp => k p (List.mem_append_left _ hp)) h1, Ow.evoQ e b es r N (fun p hp => k p (List.mem_append_right _ hp)) h2, rfl⟩
end
/-- less is owned -/
noncomputable def Gh.rems (G : Gh) (R : List Addr) : Gh := ⟨G.bg, G.bi, fun a => G.own a ∧ a ∉ R, G.tbs⟩
theorem Gh.rems_evo {R : List Addr} (tr : ∀ a, G.own a → Mut (H a)) : Evo G (G.rems R) H H := ⟨fun _ _ _ h => .inl h, tr, fun a n _ z => n z.1, rfl, rfl⟩
mutual
/-- what was owned, as data -/
theorem Ow.dt {R : List Addr} (tr : ∀ a, G.own a → Mut (H a)) : ∀ (t : Tr) (v : V) (L : List Addr), (∀ p ∈ L, p ∈ R) → Ow K G H t v L → Dt K (G.rems R) H t.toD v
  | .d x, v, L, k, h => by simp only [Tr.toD]; exact (Gh.rems_evo tr).dt x v h.2
  | .l ts, v, L, k, h => by
    obtain ⟨p, xs, M, rfl, o, q, h, rfl⟩ := h
    simp only [Tr.toD]
    exact ⟨p, xs, rfl, fun z => z.2 (k p List.mem_cons_self), q, Ow.dts tr ts xs M (fun p hp => k p (List.mem_cons_of_mem _ hp)) h⟩
  | .m b es, v, L, k, h => by
    obtain ⟨p, M, rfl, o, h, rfl⟩ := h
    have km := fun p hp => k p (List.mem_cons_of_mem _ hp)
    simp only [Tr.toD]
    refine ⟨p, rfl, fun z => z.2 (k p List.mem_cons_self), ?_⟩
    rcases h with ⟨kvs, q, h⟩ | ⟨kvs, q, h⟩
    · exact .inl ⟨kvs, .inl q, Ow.dtp tr b es kvs M km h⟩
    · exact .inr ⟨kvs, .inl q, Ow.dtq tr b es kvs M km h⟩
  | .o C fs, v, L, k, h => by
    obtain ⟨p, dx, vs, M, rfl, o, q, h, rfl⟩ := h
    simp only [Tr.toD]
    exact ⟨p, dx, vs, rfl, fun z => z.2 (k p List.mem_cons_self), q, Ow.dtf tr fs vs M (fun p hp => k p (List.mem_cons_of_mem _ hp)) h⟩
  | .tp ts, v, L, k, h => by
    obtain ⟨p, xs, rfl, q, h⟩ := h
    simp only [Tr.toD]
    exact ⟨p, xs, rfl, q, Ow.dts tr ts xs L k h⟩
theorem Ow.dtf {R : List Addr} (tr : ∀ a, G.own a → Mut (H a)) : ∀ (es : List (Str × Tr)) (kvs : List (Str × V)) (L : List Addr), (∀ p ∈ L, p ∈ R) → OwF K G H es kvs L → DtF K (G.rems R) H (Tr.toFs es) kvs
  | [], xs, L, k, h => by simp only [Tr.toFs]; exact h.1
  | (c, t) :: es, kvs, L, k, h => by
    obtain ⟨v, r, M, N, rfl, h1, h2, rfl⟩ := h
    simp only [Tr.toFs]
    exact ⟨v, r, rfl, Ow.dt tr t v M (fun p hp => k p (List.mem_append_left _ hp)) h1, Ow.dtf tr es r N (fun p hp => k p (List.mem_append_right _ hp)) h2⟩
theorem Ow.dts {R : List Addr} (tr : ∀ a, G.own a → Mut (H a)) : ∀ (ts : List Tr) (xs : List V) (L : List Addr), (∀ p ∈ L, p ∈ R) → OwL K G H ts xs L → DtL K (G.rems R) H (Tr.toDs ts) xs
  | [], xs, L, k, h => by simp only [Tr.toDs]; exact h.1
  | t :: ts, xs, L, k, h => by
    obtain ⟨x, r, M, N, rfl, h1, h2, rfl⟩ := h
    simp only [Tr.toDs]
    exact ⟨x, r, rfl, Ow.dt tr t x M (fun p hp => k p (List.mem_append_left _ hp)) h1, Ow.dts tr ts r N (fun p hp => k p (List.mem_append_right _ hp)) h2⟩
theorem Ow.dtp {R : List Addr} (tr : ∀ a, G.own a → Mut (H a)) (b : Bool) : ∀ (es : List (D × Tr)) (kvs : List (Key × V)) (L : List Addr), (∀ p ∈ L, p ∈ R) → OwP K G H b es kvs L → DtP K (G.rems R) H b (Tr.toEs es) kvs
  | [], xs, L, k, h => by simp only [Tr.toEs]; exact ⟨h.1, h.2.1⟩
  | (c, t) :: es, kvs, L, k, h => by
    obtain ⟨j, v, r, M, N, rfl, hc, h1, h2, rfl⟩ := h
    simp only [Tr.toEs]
    exact ⟨j, v, r, rfl, hc, Ow.dt tr t v M (fun p hp => k p (List.mem_append_left _ hp)) h1, Ow.dtp tr b es r N (fun p hp => k p (List.mem_append_right _ hp)) h2⟩
theorem Ow.dtq {R : List Addr} (tr : ∀ a, G.own a → Mut (H a)) (b : Bool) : ∀ (es : List (D × Tr)) (kvs : List (List Key × V)) (L : List Addr), (∀ p ∈ L, p ∈ R) → OwQ K G H b es kvs L → DtQ K (G.rems R) H b (Tr.toEs es) kvs
  | [], xs, L, k, h => by simp only [Tr.toEs]; exact ⟨h.1, h.2.1⟩
  | (c, t) :: es, kvs, L, k, h => by
    obtain ⟨j, v, r, M, N, rfl, hc, h1, h2, rfl⟩ := h
    simp only [Tr.toEs]
    exact ⟨j, v, r, rfl, hc, Ow.dt tr t v M (fun p hp => k p (List.mem_append_left _ hp)) h1, Ow.dtq tr b es r N (fun p hp => k p (List.mem_append_right _ hp)) h2⟩
end
theorem Ow.ofL : ∀ {ds : List D} {xs : List V}, DtL K G H ds xs → OwL K G H (ds.map .d) xs []
  | [], _, h => ⟨h, rfl⟩
  | d :: ds, _, h => by
    obtain ⟨x, r, rfl, h1, h2⟩ := h
    exact ⟨x, r, [], [], rfl, ⟨rfl, h1⟩, Ow.ofL h2, rfl⟩
theorem toDs_d : ∀ ds : List D, Tr.toDs (ds.map .d) = ds
  | [] => by simp only [List.map_nil, Tr.toDs]
  | d :: ds => by simp only [List.map_cons, Tr.toDs, Tr.toD, toDs_d ds]
end
/-- what a name of a def may hold: nothing known, data, what the def owns -/
inductive Sl where
  | un | dat (d : D) | tr (t : Tr) | io (v : V) (t : Tr)
/-- a list of data, owned -/
noncomputable abbrev Sl.ml (ds : List D) : Sl := .tr (.l (ds.map .d))
structure Fr where
  K : PySem.W.Frag
  G : Gh
  H : Hp
  pn : List (V × D)
noncomputable abbrev Fr.pin (F : Fr) (l : List (V × D)) : Fr := { F with pn := l ++ F.pn }
noncomputable def SlR (F : Fr) (G : Gh) (H : Hp) : Sl → Option V → List Addr → Prop
  | .un, _, L => L = []
  | .dat d, o, L => L = [] ∧ ∃ v, o = some v ∧ Dt F.K G H d v
  | .tr t, o, L => (∀ p ∈ L, ¬ F.G.own p) ∧ ∃ v, o = some v ∧ Ow F.K G H t v L
  | .io v t, o, L => (∀ p ∈ L, ¬ F.G.own p) ∧ o = some v ∧ Ow F.K G H t v L
noncomputable def Slots (F : Fr) (G : Gh) (H : Hp) : List Sl → St → List Addr → Prop
  | [], σ, L => σ = [] ∧ L = []
  | s :: ρ, σ, L => ∃ o r M N, σ = o :: r ∧ SlR F G H s o M ∧ Slots F G H ρ r N ∧ L = M ++ N
structure Rel (F : Fr) (G : Gh) (H : Hp) (σ : St) (ρ : List Sl) : Prop where
  bg : G.bg = F.G.bg
  bi : G.bi = F.G.bi
  tb : F.G.tbs = G.tbs ∧ ∀ p ∈ F.G.tbs, TabF F.H p.1 p.2
  ob : F.G.own F.G.bg
  oi : F.G.own F.G.bi
  sub : ∀ a, F.G.own a → G.own a
  new : ∀ a, G.own a → ¬ F.G.own a → F.H a = none
  tr : ∀ a, G.own a → Mut (H a)
  ext : Ext F.G F.H H
  pn : ∀ q ∈ F.pn, Dt F.K G H q.2 q.1
  sl : ∃ L, Slots F G H ρ σ L ∧ L.Nodup
theorem SlR.own {F : Fr} {G : Gh} {H : Hp} {s : Sl} {o : Option V} {L : List Addr} (h : SlR F G H s o L) : ∀ p ∈ L, G.own p ∧ H p ≠ none ∧ ¬ F.G.own p := by
  cases s with
  | un =>
    have e : L = [] := h
    intro p hp; rw [e] at hp; cases hp
  | dat d => intro p hp; rw [h.1] at hp; cases hp
  | tr t =>
    obtain ⟨n, v, _, h⟩ := h
    intro p hp
    obtain ⟨h1, h2⟩ := Ow.own t v L h p hp
    exact ⟨h1, h2, n p hp⟩
  | io v t =>
    obtain ⟨n, _, h⟩ := h
    intro p hp
    obtain ⟨h1, h2⟩ := Ow.own t v L h p hp
    exact ⟨h1, h2, n p hp⟩
theorem Slots.own {F : Fr} {G : Gh} {H : Hp} : ∀ {ρ : List Sl} {σ : St} {L : List Addr}, Slots F G H ρ σ L → ∀ p ∈ L, G.own p ∧ H p ≠ none ∧ ¬ F.G.own p
  | [], _, _, h, p, hp => by rw [h.2] at hp; cases hp
  | s :: ρ, _, _, h, p, hp => by
    obtain ⟨o, r, M, N, rfl, h1, h2, rfl⟩ := h
    rcases List.mem_append.mp hp with hp | hp
    · exact h1.own p hp
    · exact Slots.own h2 p hp
theorem Slots.map {F F' : Fr} {G G' : Gh} {H H' : Hp} : ∀ {ρ : List Sl} {σ : St} {L : List Addr}, (∀ s o M, (∀ p ∈ M, p ∈ L) → SlR F G H s o M → SlR F' G' H' s o M) → Slots F G H ρ σ L → Slots F' G' H' ρ σ L
  | [], _, _, _, h => h
  | a :: ρ, σ, L, f, h => by
    obtain ⟨q, r, M, N, rfl, h1, h2, rfl⟩ := h
    exact ⟨q, r, M, N, rfl, f _ _ _ (fun p hp => List.mem_append_left _ hp) h1, Slots.map (fun s o R k => f s o R fun p hp => List.mem_append_right _ (k p hp)) h2, rfl⟩
theorem Slots.len {F : Fr} {G : Gh} {H : Hp} : ∀ {ρ : List Sl} {σ : St} {L : List Addr}, Slots F G H ρ σ L → ρ.length = σ.length
  | [], _, _, h => by rw [h.1]; rfl
  | a :: ρ, σ, _, h => by
    obtain ⟨q, r, M, N, rfl, h1, h2, rfl⟩ := h
    simp [Slots.len h2]
/-- one slot changes, the others go along -/
theorem Slots.upd {F : Fr} {G : Gh} {H : Hp} : ∀ {ρ : List Sl} {σ : St} {L : List Addr} {i : Nat} {s : Sl}, Slots F G H ρ σ L → ρ[i]? = some s → ∃ o A B C, σ[i]? = some o ∧ L = A ++ (B ++ C) ∧ SlR F G H s o B ∧
    ∀ (F' : Fr) (G' : Gh) (H' : Hp) (s' : Sl) (o' : Option V) (B' : List Addr), (∀ t u M, (∀ p ∈ M, p ∈ A ∨ p ∈ C) → SlR F G H t u M → SlR F' G' H' t u M) → SlR F' G' H' s' o' B' → Slots F' G' H' (ρ.set i s') (σ.set i o') (A ++ (B' ++ C))
  | [], _, _, i, s, _, e => by simp at e
  | a :: ρ, _, _, 0, s, h, e => by
    obtain ⟨q, r, M, N, rfl, h1, h2, rfl⟩ := h
    simp at e; subst e
    refine ⟨q, [], M, N, rfl, rfl, h1, fun F' G' H' s' o' B' k hs => ⟨o', r, B', N, rfl, hs, Slots.map (fun t u R z => k t u R fun p hp => .inr (z p hp)) h2, rfl⟩⟩
  | a :: ρ, _, _, i + 1, s, h, e => by
    obtain ⟨q, r, M, N, rfl, h1, h2, rfl⟩ := h
    obtain ⟨o, A, B, C, e1, rfl, e3, e4⟩ := Slots.upd (i := i) h2 (by simpa using e)
    refine ⟨o, M ++ A, B, C, by simpa using e1, by rw [List.append_assoc], e3, fun F' G' H' s' o' B' k hs => ⟨q, r.set i o', M, A ++ (B' ++ C), rfl, k _ _ _ (fun p hp => .inl (List.mem_append_left _ hp)) h1, e4 F' G' H' s' o' B' (fun t u R z => k t u R fun p hp => (z p hp).imp (List.mem_append_right _) _root_.id) hs, by rw [List.append_assoc]⟩⟩
section
variable {F : Fr} {G G' : Gh} {H H' : Hp} {σ : St} {ρ : List Sl}
theorem Rel.obg (r : Rel F G H σ ρ) : G.own G.bg := by rw [r.bg]; exact r.sub _ r.ob
theorem Rel.bag (r : Rel F G H σ ρ) : BagOk H G.bg G.bi := by rw [r.bg, r.bi]; exact r.ext.bag
theorem Rel.tabs (r : Rel F G H σ ρ) : ∀ p ∈ G.tbs, TabF H p.1 p.2 := fun p hp => have hp' : p ∈ F.G.tbs := by rw [r.tb.1]; exact hp
  r.ext.tab hp' (r.tb.2 p hp')
theorem Rel.ok (r : Rel F G H σ ρ) : GOk G H := ⟨r.obg, by rw [r.bi]; exact r.sub _ r.oi, r.tr, r.bag, r.tabs⟩
theorem Rel.len (r : Rel F G H σ ρ) : ρ.length = σ.length := let ⟨_, h, _⟩ := r.sl; h.len
theorem Rel.free (r : Rel F G H σ ρ) {p : Addr} (h : H p = none) : ¬ G.own p := fun z => by
  have m := r.tr p z
  rw [h] at m; exact m
theorem Rel.at (r : Rel F G H σ ρ) {i : Nat} {s : Sl} (e : ρ[i]? = some s) : ∃ o L, σ[i]? = some o ∧ SlR F G H s o L := by
  obtain ⟨L, h, _⟩ := r.sl
  obtain ⟨o, A, B, C, e1, _, e3, _⟩ := h.upd e
  exact ⟨o, B, e1, e3⟩
theorem Rel.evo (r : Rel F G H σ ρ) (e : Ext G H H') : Evo G G H H' :=
  ⟨fun a o n h => e.lk (fun z => n (by rw [z]; exact r.obg)) h, r.tr, fun _ n _ => n, rfl, rfl⟩
theorem Ext.tr' (o : G.own G.bg) (tr : ∀ a, G.own a → Mut (H a)) (e : Ext G H H') : ∀ a, G.own a → Mut (H' a) := fun a z => by
  by_cases q : a = G.bg
  · subst q
    obtain ⟨x, y, z, ns, h1, _⟩ := e.bag
    rw [h1]; exact True.intro
  · have m := tr a z
    cases h : H a with
    | none => rw [h] at m; exact m.elim
    | some o => rw [e.mine q h z]; rw [h] at m; exact m
/-- a slot's content goes along where data do and what is owned stands -/
theorem SlR.go {F' : Fr} (hK : F'.K = F.K) (hG : F'.G = F.G) (e : Evo G G' H H') : ∀ (s : Sl) (o : Option V) (M : List Addr), (∀ p ∈ M, G.own p → H p ≠ none → ¬ F.G.own p → G'.own p ∧ H' p = H p) → SlR F G H s o M → SlR F' G' H' s o M
  | .un, _, _, _, h => h
  | .dat d, o, M, _, h => by
    obtain ⟨h0, v, h1, h2⟩ := h
    exact ⟨h0, v, h1, by rw [hK]; exact e.dt d v h2⟩
  | .tr t, o, M, k, h => by
    have w := SlR.own (s := .tr t) h
    obtain ⟨n, v, h1, h2⟩ := h
    refine ⟨fun p hp => by rw [hG]; exact n p hp, v, h1, ?_⟩
    rw [hK]
    exact Ow.evo e t v M (fun p hp => k p hp (w p hp).1 (w p hp).2.1 (w p hp).2.2) h2
  | .io v t, o, M, k, h => by
    have w := SlR.own (s := .io v t) h
    obtain ⟨n, h1, h2⟩ := h
    refine ⟨fun p hp => by rw [hG]; exact n p hp, h1, ?_⟩
    rw [hK]
    exact Ow.evo e t v M (fun p hp => k p hp (w p hp).1 (w p hp).2.1 (w p hp).2.2) h2
theorem Ext.stands (bg : G.bg = F.G.bg) (ob : F.G.own F.G.bg) (e : Ext G H H') : ∀ p, G.own p → H p ≠ none → ¬ F.G.own p → G.own p ∧ H' p = H p := fun p h1 h2 h3 => by
  cases q : H p with
  | none => exact absurd q h2
  | some o => exact ⟨h1, e.mine (fun z => h3 (by rw [z, bg]; exact ob)) q h1⟩
theorem Rel.step (r : Rel F G H σ ρ) (e : Ext G H H') : Rel F G H' σ ρ :=
  ⟨r.bg, r.bi, r.tb, r.ob, r.oi, r.sub, r.new, Ext.tr' r.obg r.tr e, r.ext.trans (e.cg r.bg.symm r.bi.symm r.sub r.tb.1), fun q hq => (r.evo e).dt _ _ (r.pn q hq), let ⟨L, h, n⟩ := r.sl; ⟨L, h.map fun s o M _ => SlR.go rfl rfl (r.evo e) s o M fun p _ => Ext.stands r.bg r.ob e p, n⟩⟩
/-- what data avoid may be less -/
theorem Rel.less (r : Rel F G H σ ρ) : Evo G F.G H H := ⟨fun _ _ _ h => .inl h, r.tr, fun a n _ z => n (r.sub a z), r.bg.symm, r.bi.symm⟩
theorem Rel.same (r : Rel F G H σ ρ) : Evo G G H H := ⟨fun _ _ _ h => .inl h, r.tr, fun _ n _ => n, rfl, rfl⟩
theorem Rel.unpin {l : List (V × D)} (r : Rel (F.pin l) G H σ ρ) : Rel F G H σ ρ := by
  obtain ⟨L, h, n⟩ := r.sl
  have k : ∀ (s : Sl) (o : Option V) (M : List Addr), (∀ p ∈ M, p ∈ L) → SlR (F.pin l) G H s o M → SlR F G H s o M := fun s o M _ h => by
    cases s <;> exact h
  exact ⟨r.bg, r.bi, r.tb, r.ob, r.oi, r.sub, r.new, r.tr, r.ext, fun q hq => r.pn q (List.mem_append_right _ hq), L, Slots.map k h, n⟩
theorem Rel.pinned {l : List (V × D)} (r : Rel F G H σ ρ) (h : ∀ q ∈ l, Dt F.K G H q.2 q.1) : Rel (F.pin l) G H σ ρ := by
  obtain ⟨L, hl, n⟩ := r.sl
  have k : ∀ (s : Sl) (o : Option V) (M : List Addr), (∀ p ∈ M, p ∈ L) → SlR F G H s o M → SlR (F.pin l) G H s o M := fun s o M _ h => by
    cases s <;> exact h
  exact ⟨r.bg, r.bi, r.tb, r.ob, r.oi, r.sub, r.new, r.tr, r.ext, fun q hq => (List.mem_append.mp hq).elim (h q) (r.pn q), L, Slots.map k hl, n⟩
theorem nodup_mid {A B C : List Addr} (h : (A ++ (B ++ C)).Nodup) : (A ++ C).Nodup ∧ B.Nodup ∧ ∀ p ∈ B, p ∉ A ∧ p ∉ C := by
  rw [List.nodup_append] at h
  obtain ⟨h1, h2, h3⟩ := h
  rw [List.nodup_append] at h2
  obtain ⟨h4, h5, h6⟩ := h2
  refine ⟨List.nodup_append.mpr ⟨h1, h5, fun a ha b hb => h3 a ha b (List.mem_append_right _ hb)⟩, h4, fun p hp => ⟨fun z => h3 p z p (List.mem_append_left _ hp) rfl, fun z => h6 p hp p z rfl⟩⟩
theorem nodup_in {A B C : List Addr} (h : (A ++ C).Nodup) (hb : B.Nodup) (k : ∀ p ∈ B, p ∉ A ∧ p ∉ C) : (A ++ (B ++ C)).Nodup := by
  rw [List.nodup_append] at h
  obtain ⟨h1, h2, h3⟩ := h
  refine List.nodup_append.mpr ⟨h1, List.nodup_append.mpr ⟨hb, h2, fun a ha b hb e => (k a ha).2 (e ▸ hb)⟩, fun a ha b hb e => ?_⟩
  rcases List.mem_append.mp hb with z | z
  · exact (k b z).1 (e ▸ ha)
  · exact h3 a ha b z e
/-- a slot gets another content, what it owned is let go -/
theorem Rel.slot (r : Rel F G H σ ρ) {i : Nat} {s : Sl} {o : Option V} {B : List Addr} (hs : SlR F G H s o B) (hB : B.Nodup) (hf : ∀ L, (∃ ρ' σ', Slots F G H ρ' σ' L) → ∀ p ∈ B, p ∉ L) : Rel F G H (σ.set i o) (ρ.set i s) := by
  refine ⟨r.bg, r.bi, r.tb, r.ob, r.oi, r.sub, r.new, r.tr, r.ext, r.pn, ?_⟩
  obtain ⟨L, h, n⟩ := r.sl
  cases e : ρ[i]? with
  | none =>
    have hi : ρ.length ≤ i := by simpa using e
    rw [List.set_eq_of_length_le hi, List.set_eq_of_length_le (by rw [← h.len]; exact hi)]
    exact ⟨L, h, n⟩
  | some t =>
    obtain ⟨u, A, B', C, _, rfl, _, k⟩ := h.upd e
    obtain ⟨n1, _, _⟩ := nodup_mid n
    have f := hf _ ⟨_, _, h⟩
    exact ⟨_, k F G H s o B (fun _ _ _ _ z => z) hs, nodup_in n1 hB fun p hp => ⟨fun z => f p hp (List.mem_append_left _ z), fun z => f p hp (List.mem_append_right _ (List.mem_append_right _ z))⟩⟩
/-- a slot is given data -/
theorem Rel.put (r : Rel F G H σ ρ) {i : Nat} {d : D} {v : V} (h : Dt F.K G H d v) : Rel F G H (σ.set i (some v)) (ρ.set i (.dat d)) :=
  r.slot (B := []) ⟨rfl, v, rfl, h⟩ List.nodup_nil fun _ _ _ z => nomatch z
theorem Rel.drop (r : Rel F G H σ ρ) (i : Nat) (o : Option V) : Rel F G H (σ.set i o) (ρ.set i .un) := r.slot (B := []) rfl List.nodup_nil fun _ _ _ z => nomatch z
/-- a slot is given what is new: its addresses are no other slot's -/
theorem Rel.give (r : Rel F G H σ ρ) {i : Nat} {t : Tr} {v : V} {B : List Addr} (h : Ow F.K G H t v B) (hB : B.Nodup) (n : ∀ p ∈ B, ¬ F.G.own p) (f : ∀ L, (∃ ρ' σ', Slots F G H ρ' σ' L) → ∀ p ∈ B, p ∉ L) : Rel F G H (σ.set i (some v)) (ρ.set i (.tr t)) :=
  r.slot ⟨n, v, rfl, h⟩ hB f
noncomputable def Gh.add (G : Gh) (p : Addr) : Gh := ⟨G.bg, G.bi, fun a => G.own a ∨ a = p, G.tbs⟩
theorem Rel.evoAdd (r : Rel F G H σ ρ) (e : Ext G H H') {p : Addr} (hp : H p = none) : Evo G (G.add p) H H' :=
  ⟨fun a o n h => e.lk (fun z => n (by rw [z]; exact r.obg)) h, r.tr, fun a n q z => z.elim n fun w => q (by rw [w]; exact hp), rfl, rfl⟩
noncomputable def Gh.adds (G : Gh) (R : List Addr) : Gh := ⟨G.bg, G.bi, fun a => G.own a ∨ a ∈ R, G.tbs⟩
theorem Rel.evoAdds (r : Rel F G H σ ρ) (e : Ext G H H') {R : List Addr} (hp : ∀ p ∈ R, H p = none) : Evo G (G.adds R) H H' :=
  ⟨fun a o n h => e.lk (fun z => n (by rw [z]; exact r.obg)) h, r.tr, fun a n q z => z.elim n fun w => q (hp a w), rfl, rfl⟩
/-- new lists (or dicts) that nothing knows -/
theorem Rel.grows (r : Rel F G H σ ρ) (e : Ext G H H') {R : List Addr} (hp : ∀ p ∈ R, H p = none) (hm : ∀ p ∈ R, Mut (H' p)) : Rel F (G.adds R) H' σ ρ := by
  have ev := r.evoAdds e hp
  refine ⟨r.bg, r.bi, r.tb, r.ob, r.oi, fun a h => .inl (r.sub a h), fun a h n => ?_, fun a h => ?_, r.ext.trans (e.cg r.bg.symm r.bi.symm r.sub r.tb.1), fun q hq => ev.dt _ _ (r.pn q hq), let ⟨L, h, n⟩ := r.sl; ⟨L, h.map fun s o M _ => SlR.go rfl rfl ev s o M fun p _ h1 h2 h3 => let ⟨z, w⟩ := Ext.stands r.bg r.ob e p h1 h2 h3; ⟨.inl z, w⟩, n⟩⟩
  · rcases h with h | h
    · exact r.new a h n
    · cases q : F.H a with
      | none => rfl
      | some o =>
        have hp := hp a h
        have q2 : a ≠ F.G.bg := fun z => by
          have := r.ext.bag.ne
          rw [← z] at this
          exact this hp
        rcases r.ext.lk q2 q with z | ⟨_, od, z⟩ <;> first | (rw [z] at hp; cases hp) | exact absurd hp z.ne
  · rcases h with h | h
    · exact Ext.tr' r.obg r.tr e a h
    · exact hm a h
theorem Gh.adds_one (G : Gh) (p : Addr) : G.adds [p] = G.add p := by
  unfold Gh.adds Gh.add
  congr 1
  funext a
  simp
theorem Rel.grow (r : Rel F G H σ ρ) (e : Ext G H H') {p : Addr} (hp : H p = none) (hm : Mut (H' p)) : Rel F (G.add p) H' σ ρ := by
  rw [← Gh.adds_one]
  exact r.grows e (fun a h => by rw [List.mem_singleton.mp h]; exact hp) fun a h => by rw [List.mem_singleton.mp h]; exact hm
end
end DL
set_option Elab.async false
set_option linter.all false
set_option maxRecDepth 100000
set_option maxHeartbeats 1000000
namespace DL
open PySem L2
noncomputable abbrev TD := List Sl → (D → Prop) → Prop
noncomputable abbrev TBD := List Sl → (Bool → Prop) → Prop
noncomputable abbrev TLD := List Sl → (List D → Prop) → Prop
noncomputable def lift (F : Fr) (T : TD) : TE := fun σ H Q => ∃ G ρ k, Rel F G H σ ρ ∧ T ρ k ∧ ∀ d v H', k d → Ext G H H' → Dt F.K G H' d v → Q v H'
noncomputable def liftT (F : Fr) (T : TBD) : TT := fun σ H Q => ∃ G ρ k, Rel F G H σ ρ ∧ T ρ k ∧ ∀ b H', k b → Ext G H H' → Q b H'
noncomputable def liftA (F : Fr) (T : TLD) : TA := fun σ H Q => ∃ G ρ k, Rel F G H σ ρ ∧ T ρ k ∧ ∀ ds vs H', k ds → Ext G H H' → DtL F.K G H' ds vs → Q vs H'
/-- a new list, that nothing else knows -/
noncomputable def liftF (F : Fr) (T : TLD) : TE := fun σ H Q => ∃ G ρ k, Rel F G H σ ρ ∧ T ρ k ∧ ∀ ds p vs H', k ds → Ext G H H' → H p = none → H' p = some (.lst vs) → DtL F.K (G.add p) H' ds vs → Q (.ref p) H'
theorem pe_imp {X : Cx} {e : Expr} {t t' : TE} (h : PE X e t) (i : ∀ σ H Q, t' σ H Q → t σ H Q) : PE X e t' := ⟨fun pins s σ H Q I w => h.run pins s σ H Q I (i _ _ _ w)⟩
theorem pt_imp {X : Cx} {e : Expr} {t t' : TT} (h : PT X e t) (i : ∀ σ H Q, t' σ H Q → t σ H Q) : PT X e t' := ⟨fun pins s σ H Q I w => h.run pins s σ H Q I (i _ _ _ w)⟩
theorem pa_imp {X : Cx} {e : List Expr} {t t' : TA} (h : PA X e t) (i : ∀ σ H Q, t' σ H Q → t σ H Q) : PA X e t' := ⟨fun pos pins s σ H Q I w => h.run pos pins s σ H Q I (i _ _ _ w)⟩
theorem ps_imp {X : Cx} {e : Stmt} {t t' : TS} (h : PS X e t) (i : ∀ D σ H, t' D σ H → t D σ H) : PS X e t' := ⟨fun pins s σ H D I w => h.run pins s σ H D I (i _ _ _ w)⟩
theorem pss_imp {X : Cx} {e : List Stmt} {t t' : TS} (h : PSs X e t) (i : ∀ D σ H, t' D σ H → t D σ H) : PSs X e t' := ⟨fun pins s σ H D I w => h.run pins s σ H D I (i _ _ _ w)⟩
/-! ### names, constants -/
noncomputable def nameT (i : Nat) : TD := fun ρ k => match ρ[i]? with
  | some (.dat d) => k d
  | _ => False
noncomputable def cT (d : D) : TD := fun _ k => k d
section
variable {X : Cx} {F : Fr}
theorem d_name (i : Nat) {x : Str} {pos : Pos} (hN : X.N[i]? = some x := by rfl) (hv : Vis X.env.scope x := by first | exact Or.inl rfl | exact Or.inr (Or.inl rfl) | exact Or.inr (Or.inr rfl)) (hd : (x == ("__debug__" : Str)) = false := by decide)
    (hcd : (x == ("__classdict__" : Str)) = false := by decide) : PE X (.Name x pos) (lift F (nameT i)) := by
  refine pe_imp (pe_var hN hv hd hcd) fun σ H Q h => ?_
  obtain ⟨G, ρ, k, r, h, q⟩ := h
  unfold nameT at h
  cases e : ρ[i]? with
  | none => rw [e] at h; exact h.elim
  | some s =>
    cases s with
    | dat d =>
      rw [e] at h
      obtain ⟨o, L, e1, -, v, rfl, hv⟩ := r.at e
      exact ⟨v, e1, q d v H h (.refl r.bag) hv⟩
    | _ => rw [e] at h; exact h.elim
theorem d_cst {e : Expr} {d : D} {v : V} (h : PE X e (tC v)) (hd : ∀ G H, Dt F.K G H d v) : PE X e (lift F (cT d)) :=
  pe_imp h fun σ H Q ⟨G, ρ, k, r, h, q⟩ => q d v H h (.refl r.bag) (hd G H)
theorem d_int {i : Int} {j : Nat} {pos : Pos} : PE X (.Constant (.int i) j pos) (lift F (cT (.int i))) := d_cst pe_int fun _ _ => rfl
theorem d_bl {b : Bool} {j : Nat} {pos : Pos} : PE X (.Constant (.bool b) j pos) (lift F (cT (.bl b))) := d_cst pe_bl fun _ _ => rfl
theorem d_non {j : Nat} {pos : Pos} : PE X (.Constant .none j pos) (lift F (cT .non)) := d_cst pe_non fun _ _ => rfl
theorem d_str {x : Str} {j : Nat} {pos : Pos} : PE X (.Constant (.str x) j pos) (lift F (cT (.str x))) := d_cst pe_str fun _ _ => rfl
end
/-! ### argument lists -/
noncomputable def nilA : TLD := fun _ k => k []
noncomputable def consA (t : TD) (u : TLD) : TLD := fun ρ k => t ρ fun d => u ρ fun ds => k (d :: ds)
section
variable {X : Cx} {F : Fr} {e : Expr} {es : List Expr} {te : TD} {ta : TLD}
theorem a_nil : PA X [] (liftA F nilA) := pa_imp pa_nil fun σ H Q ⟨G, ρ, k, r, h, q⟩ => q [] [] H h (.refl r.bag) rfl
theorem a_cons (ha : PE X e (lift F te)) (hr : PA X es (liftA F ta)) (hs : starEach (e :: es) X.env = (false, eval e X.env) :: starEach es X.env := by rfl) : PA X (e :: es) (liftA F (consA te ta)) := by
  refine pa_imp (pa_cons ha hr hs) fun σ H Q ⟨G, ρ, k, r, h, q⟩ => ?_
  refine ⟨G, ρ, _, r, h, fun d v H1 h1 e1 d1 => ?_⟩
  refine ⟨G, ρ, _, r.step e1, h1, fun ds vs H2 h2 e2 d2 => ?_⟩
  exact q _ _ H2 h2 (e1.trans e2) ⟨v, vs, rfl, ((r.step e1).evo e2).dt d v d1, d2⟩
end
theorem DtL.len {K : PySem.W.Frag} {G : Gh} {H : Hp} : ∀ {ds : List D} {vs : List V}, DtL K G H ds vs → ds.length = vs.length
  | [], _, h => by
    have h' : _ = [] := h
    rw [h']; rfl
  | d :: ds, _, h => by
    obtain ⟨x, r, rfl, _, h2⟩ := h
    simp [DtL.len h2]
/-- () is no new thing in what it holds: lists, tuples, displays -/
noncomputable def tupT (t : TLD) : TD := fun ρ k => t ρ fun ds => ds.length ≤ sizeLine ∧ k (.tup ds)
noncomputable def lstF (t : TLD) : TLD := fun ρ k => t ρ fun ds => ds.length ≤ sizeLine ∧ k ds
noncomputable def ofF (t : TLD) : TD := fun ρ k => t ρ fun ds => k (.lst ds)
section
variable {X : Cx} {F : Fr} {e : Expr} {es : List Expr} {te : TD} {ta : TLD} {pos : Pos}
theorem d_tup {x1 : Nat} (h : PA X es (liftA F ta)) : PE X (.Tuple es x1 pos) (lift F (tupT ta)) := by
  refine pe_imp (pe_tup h) fun σ H Q ⟨G, ρ, k, r, h, q⟩ => ?_
  refine ⟨G, ρ, _, r, h, fun ds vs H1 ⟨hl, h1⟩ e1 d1 => ⟨by rw [← d1.len]; exact hl, fun p hp => ?_⟩⟩
  have r1 := r.step e1
  have e2 : Ext G H1 (upd H1 p (.tup vs)) := Ext.new r1.bag hp
  exact q _ _ _ h1 (e1.trans e2) ⟨p, vs, rfl, upd_same, (r1.evo e2).dts ds vs d1⟩
theorem f_lst (h : PA X es (liftA F ta)) : PE X (.List es pos) (liftF F (lstF ta)) := by
  refine pe_imp (pe_lst h) fun σ H Q ⟨G, ρ, k, r, h, q⟩ => ?_
  refine ⟨G, ρ, _, r, h, fun ds vs H1 ⟨hl, h1⟩ e1 d1 => ⟨by rw [← d1.len]; exact hl, fun p hp => ?_⟩⟩
  have r1 := r.step e1
  have e2 : Ext G H1 (upd H1 p (.lst vs)) := Ext.new r1.bag hp
  exact q ds p vs _ h1 (e1.trans e2) (e1.free r.bag hp) upd_same ((r1.evoAdd e2 hp).dts ds vs d1)
/-- a new list as data -/
theorem d_of (h : PE X e (liftF F ta)) : PE X e (lift F (ofF ta)) := by
  refine pe_imp h fun σ H Q ⟨G, ρ, k, r, h, q⟩ => ?_
  refine ⟨G, ρ, _, r, h, fun ds p vs H1 h1 e1 hp hl d1 => q _ _ _ h1 e1 ⟨p, vs, rfl, r.free hp, hl, ?_⟩⟩
  have ev : Evo (G.add p) G H1 H1 := ⟨fun _ _ _ h => .inl h, fun a z => z.elim (Ext.tr' r.obg r.tr e1 a) fun z => by rw [z, hl]; exact True.intro, fun a n _ z => n (.inl z), rfl, rfl⟩
  exact ev.dts ds vs d1
end
/-! ### two-place operations -/
noncomputable abbrev OD := D → D → (D → Prop) → Prop
noncomputable def binT (o : OD) (ta tb : TD) : TD := fun ρ k => ta ρ fun x => tb ρ fun y => o x y k
/-- an operation by values does what o says of data -/
noncomputable def OkOp (F : Fr) (r : R2) (o : OD) : Prop := ∀ (G : Gh) (H : Hp) (x y : D) (v u : V) (k : D → Prop) (Q : VK), GOk G H → o x y k → Dt F.K G H x v → Dt F.K G H y u →
  (∀ d w H', k d → Ext G H H' → Dt F.K G H' d w → Q w H') → r v u H Q
section
variable {X : Cx} {F : Fr} {a b : Expr} {ta tb : TD} {r : R2} {o : OD} {pos : Pos}
theorem opT (hr : OkOp F r o) : ∀ σ H Q, lift F (binT o ta tb) σ H Q → tOp r (lift F ta) (lift F tb) σ H Q := by
  intro σ H Q ⟨G, ρ, k, rl, h, q⟩
  refine ⟨G, ρ, _, rl, h, fun x v H1 h1 e1 d1 => ?_⟩
  have r1 := rl.step e1
  refine ⟨G, ρ, _, r1, h1, fun y u H2 h2 e2 d2 => ?_⟩
  have r2 := r1.step e2
  exact hr G H2 x y v u k Q r2.ok h2 ((r1.evo e2).dt x v d1) d2 fun d w H3 h3 e3 d3 => q d w H3 h3 ((e1.trans e2).trans e3) d3
theorem d_bin {op : Operator} (ho : OpR X (binaryOp op) r) (hr : OkOp F r o) (ha : PE X a (lift F ta)) (hb : PE X b (lift F tb)) : PE X (.BinOp a op b pos) (lift F (binT o ta tb)) :=
  pe_imp (pe_op ho ha hb) (opT hr)
theorem d_cmp {op : CmpOp} (ho : OpR X (compareOp op) r) (hr : OkOp F r o) (ha : PE X a (lift F ta)) (hb : PE X b (lift F tb)) (hm : behindInMarks op b = false) : PE X (.Compare a [op] [b] pos) (lift F (binT o ta tb)) :=
  pe_imp (pe_cmpR ho ha hb hm) (opT hr)
/-- a value that is a bool, as a test -/
noncomputable def blT (t : TD) : TBD := fun ρ k => t ρ fun d => match d with
  | .bl b => k b
  | _ => False
theorem t_cmp {op : CmpOp} (ho : OpR X (compareOp op) r) (hr : OkOp F r o) (ha : PE X a (lift F ta)) (hb : PE X b (lift F tb)) (hm : behindInMarks op b = false) : PT X (.Compare a [op] [b] pos) (liftT F (blT (binT o ta tb))) := by
  refine pt_imp (pt_cmpR ho ha hb hm) fun σ H Q ⟨G, ρ, k, r, h, q⟩ => ?_
  refine opT hr σ H _ ⟨G, ρ, _, r, h, fun d v H1 h1 e1 d1 => ?_⟩
  cases d with
  | bl b => exact ⟨b, d1, q b H1 h1 e1⟩
  | _ => exact h1.elim
end
noncomputable def addD : OD
  | .int i, .int j, k => k (.int (i + j))
  | .int i, .bl b, k => k (.int (i + PyProof.Rows.b2i b))
  | .str x, .str y, k => x.length + y.length ≤ sizeLine ∧ k (.str (x ++ y))
  | .lst x, .lst y, k => x.length + y.length ≤ sizeLine ∧ k (.lst (x ++ y))
  | .tup x, .tup y, k => x.length + y.length ≤ sizeLine ∧ k (.tup (x ++ y))
  | _, _, _ => False
noncomputable def subD : OD
  | .int i, .int j, k => k (.int (i - j))
  | _, _, _ => False
noncomputable def mulD : OD
  | .int i, .int j, k => CMul i j ∧ k (.int (i * j))
  | .lst x, .int j, k => (-(2 ^ 63) ≤ j ∧ j < 2 ^ 63) ∧ x.length * j.toNat ≤ sizeLine ∧ k (.lst (List.replicate j.toNat x).flatten)
  | _, _, _ => False
noncomputable def fdivD : OD
  | .int i, .int j, k => CDiv i j ∧ k (.int (i / j))
  | _, _, _ => False
noncomputable def modD : OD
  | .int i, .int j, k => 0 < j ∧ k (.int (i % j))
  | _, _, _ => False
noncomputable def cmpI (f : Int → Int → Bool) : OD
  | .int i, .int j, k => k (.bl (f i j))
  | _, _, _ => False
theorem DtL.app {K : PySem.W.Frag} {G : Gh} {H : Hp} : ∀ {ds es : List D} {vs us : List V}, DtL K G H ds vs → DtL K G H es us → DtL K G H (ds ++ es) (vs ++ us)
  | [], _, _, _, h, h' => by
    have e : _ = [] := h
    subst e; exact h'
  | d :: ds, _, _, _, h, h' => by
    obtain ⟨x, r, rfl, h1, h2⟩ := h
    exact ⟨x, _, rfl, h1, DtL.app h2 h'⟩
theorem DtL.rep {K : PySem.W.Frag} {G : Gh} {H : Hp} {ds : List D} {vs : List V} (h : DtL K G H ds vs) : ∀ n : Nat, DtL K G H (List.replicate n ds).flatten (List.replicate n vs).flatten
  | 0 => rfl
  | n + 1 => by
    rw [List.replicate_succ, List.replicate_succ, List.flatten_cons, List.flatten_cons]
    exact h.app (DtL.rep h n)
section
variable {X : Cx} {F : Fr} {a b : Expr} {ta tb : TD} {pos : Pos}
theorem ok_opI {C : Int → Int → Prop} {g : Int → Int → Int} {o : OD} (ho : ∀ x y k, o x y k → ∃ i j, x = .int i ∧ y = .int j ∧ C i j ∧ k (.int (g i j))) : OkOp F (rI C fun i j => .int (g i j)) o := by
  intro G H x y v u k Q ⟨ob, oi, tr, bg, _⟩ h hx hy q
  obtain ⟨i, j, rfl, rfl, c, h'⟩ := ho x y k h
  exact ⟨i, j, hx, hy, c, q _ _ _ h' (.refl bg) rfl⟩
theorem ok_opI0 {g : Int → Int → Int} {o : OD} (ho : ∀ x y k, o x y k → ∃ i j, x = .int i ∧ y = .int j ∧ k (.int (g i j))) : OkOp F (rI0 fun i j => .int (g i j)) o := by
  intro G H x y v u k Q ⟨ob, oi, tr, bg, _⟩ h hx hy q
  obtain ⟨i, j, rfl, rfl, h'⟩ := ho x y k h
  exact ⟨i, j, hx, hy, q _ _ _ h' (.refl bg) rfl⟩
theorem ok_cmpI {g : Int → Int → Bool} : OkOp F (rI0 fun i j => .bl (g i j)) (cmpI g) := by
  intro G H x y v u k Q ⟨ob, oi, tr, bg, _⟩ h hx hy q
  cases x with
  | int i =>
    cases y with
    | int j => exact ⟨i, j, hx, hy, q _ _ _ h (.refl bg) rfl⟩
    | _ => exact (show False from h).elim
  | _ => exact (show False from h).elim
theorem d_sub (ha : PE X a (lift F ta)) (hb : PE X b (lift F tb)) : PE X (.BinOp a .Sub b pos) (lift F (binT subD ta tb)) :=
  d_bin op_sub (ok_opI0 fun x y k h => by
    cases x <;> try exact (show False from h).elim
    cases y <;> try exact (show False from h).elim
    exact ⟨_, _, rfl, rfl, h⟩) ha hb
theorem d_fdiv (ha : PE X a (lift F ta)) (hb : PE X b (lift F tb)) : PE X (.BinOp a .FloorDiv b pos) (lift F (binT fdivD ta tb)) :=
  d_bin op_fdiv (ok_opI fun x y k h => by
    cases x <;> try exact (show False from h).elim
    cases y <;> try exact (show False from h).elim
    exact ⟨_, _, rfl, rfl, h.1, h.2⟩) ha hb
theorem d_mod (ha : PE X a (lift F ta)) (hb : PE X b (lift F tb)) : PE X (.BinOp a .Mod b pos) (lift F (binT modD ta tb)) :=
  d_bin op_mod (ok_opI fun x y k h => by
    cases x <;> try exact (show False from h).elim
    cases y <;> try exact (show False from h).elim
    exact ⟨_, _, rfl, rfl, h.1, h.2⟩) ha hb
theorem d_mul (ha : PE X a (lift F ta)) (hb : PE X b (lift F tb)) : PE X (.BinOp a .Mult b pos) (lift F (binT mulD ta tb)) := by
  refine d_bin (r := fun x y H Q => rI CMul (fun i j => .int (i * j)) x y H Q ∨ rRep x y H Q) (op_mul.or op_rep) ?_ ha hb
  intro G H x y v u k Q ⟨ob, oi, tr, bg, _⟩ h hx hy q
  cases x <;> try exact (show False from h).elim
  · cases y <;> try exact (show False from h).elim
    exact .inl ⟨_, _, hx, hy, h.1, q _ _ _ h.2 (.refl bg) rfl⟩
  · cases y <;> try exact (show False from h).elim
    obtain ⟨a, xs, rfl, n, ha, hd⟩ := hx
    obtain ⟨⟨b1, b2⟩, hz, h⟩ := h
    refine .inr ⟨a, _, xs, rfl, hy, ha, b1, b2, by rw [← hd.len]; exact hz, fun p hp => ?_⟩
    have ev : ∀ {o : HO}, Evo G G H (upd H p o) := fun {o} => ⟨fun a o n h => (Ext.new bg hp).lk (fun z => n (by rw [z]; exact ob)) h, tr, fun _ n _ => n, rfl, rfl⟩
    exact q _ _ _ h (Ext.new bg hp) ⟨p, _, rfl, fun z => by have m := tr p z; rw [hp] at m; exact m, upd_same, ev.dts _ _ (hd.rep _)⟩
theorem d_add (ha : PE X a (lift F ta)) (hb : PE X b (lift F tb)) (hK : X.K = F.K := by rfl) : PE X (.BinOp a .Add b pos) (lift F (binT addD ta tb)) := by
  refine d_bin (op_add.or (op_add_ib.or (op_add_str.or (op_cat.or op_catA)))) ?_ ha hb
  intro G H x y v u k Q ⟨ob, oi, tr, bg, _⟩ h hx hy q
  have free : ∀ {p : Addr}, H p = none → ¬ G.own p := fun hp z => by
    have m := tr _ z
    rw [hp] at m; exact m
  have evn : ∀ {p : Addr} {o : HO}, H p = none → Evo G G H (upd H p o) := fun {p o} hp =>
    have e : Ext G H (upd H p o) := Ext.new bg hp
    ⟨fun a o n h => e.lk (fun z => n (by rw [z]; exact ob)) h, tr, fun _ n _ => n, rfl, rfl⟩
  cases x <;> try exact (show False from h).elim
  · cases y <;> try exact (show False from h).elim
    · exact .inr (.inl ⟨_, _, hx, hy, q _ _ _ h (.refl bg) rfl⟩)
    · exact .inl ⟨_, _, hx, hy, q _ _ _ h (.refl bg) rfl⟩
  · cases y <;> try exact (show False from h).elim
    exact .inr (.inr (.inl ⟨_, _, hx, hy, h.1, q _ _ _ h.2 (.refl bg) rfl⟩))
  · cases y <;> try exact (show False from h).elim
    obtain ⟨a, xs, rfl, n, ha, hd⟩ := hx
    obtain ⟨a', xs', rfl, n', ha', hd'⟩ := hy
    refine .inr (.inr (.inr (.inl ⟨a, a', xs, xs', rfl, rfl, ha, ha', by rw [← hd.len, ← hd'.len]; exact h.1, fun p hp => ?_⟩)))
    exact q _ _ _ h.2 (Ext.new bg hp) ⟨p, _, rfl, free hp, upd_same, (evn hp).dts _ _ (hd.app hd')⟩
  · cases y <;> try exact (show False from h).elim
    obtain ⟨a, xs, rfl, ha, hd⟩ := hx
    obtain ⟨a', xs', rfl, ha', hd'⟩ := hy
    refine .inr (.inr (.inr (.inr ⟨a, a', xs, xs', rfl, rfl, .inl (.inl ha), .inl (.inl ha'), by rw [← hd.len, ← hd'.len]; exact h.1, fun e => ?_, fun _ e => ?_, fun _ _ p hp => ?_⟩)))
    · have l := hd.len
      rw [e] at l
      obtain rfl := List.length_eq_zero_iff.mp l
      exact q _ _ _ h.2 (.refl bg) ⟨a', xs', rfl, ha', hd'⟩
    · have l := hd'.len
      rw [e] at l
      obtain rfl := List.length_eq_zero_iff.mp l
      exact q _ _ _ h.2 (.refl bg) ⟨a, xs, rfl, ha, by rw [List.append_nil]; exact hd⟩
    · exact q _ _ _ h.2 (Ext.new bg hp) ⟨p, _, rfl, upd_same, (evn hp).dts _ _ (hd.app hd')⟩
end
end DL
set_option Elab.async false
set_option linter.all false
set_option maxRecDepth 100000
set_option maxHeartbeats 1000000
namespace DL
open PySem PySem.Spec PyProof.Rows L2
/-! ### defs that run where no repr runs -/
structure FnG (P : Program) (w : World) (K : PySem.W.Frag) (mg : Str → Option Value) (base : Heap) (CX : CXT) (k : Nat) (f : Addr) (fd : FuncData) (ps : List Str) (sp : Sp) : Prop where
  len : ∀ (vs : List V) (H : Hp) (Q : VK) (E : XK), sp vs H Q E → vs.length = ps.length
  run : ∀ (A : Around) (outer : List Env) (s : Shared) (H : Hp) (args : Args) (us : List Value) (vs : List V) (Q : VK) (E : XK), Room k A → A.guards = some [] →
    Env0 P w K mg base A outer s H → BindsTo s fd args (ps.zip us) → Vals vs us → sp vs H Q E →
    codeAny (model P w) A (.call (.ref f) args) (CR CX outer P w H s Q E) s
section
variable {P : Program} {w : World} {K : PySem.W.Frag} {mg : Str → Option Value} {base : Heap} {CX : CXT} {j k : Nat} {f : Addr} {fd : FuncData} {ps : List Str} {sp sp' : Sp}
theorem FnG.mono (F : FnG P w K mg base CX j f fd ps sp) (h : j ≤ k) : FnG P w K mg base CX k f fd ps sp :=
  ⟨F.len, fun A outer s H args us vs Q E r => F.run A outer s H args us vs Q E (r.mono h)⟩
theorem FnG.imp (F : FnG P w K mg base CX k f fd ps sp) (h : ∀ vs H Q E, sp' vs H Q E → sp vs H Q E) : FnG P w K mg base CX k f fd ps sp' :=
  ⟨fun vs H Q E q => F.len vs H Q E (h _ _ _ _ q), fun A outer s H args us vs Q E r g e b v q => F.run A outer s H args us vs Q E r g e b v (h _ _ _ _ q)⟩
theorem FnG.of (F : FnOk P w K mg base CX k f fd ps sp) : FnG P w K mg base CX k f fd ps sp :=
  ⟨F.len, fun A outer s H args us vs Q E r _ => F.run A outer s H args us vs Q E r⟩
/-- a def by its body -/
theorem fnG_of {name qual : Str} {params : Arguments} {body : List Stmt} {scope : Scope} {dV kV doc pm cdv ct oc : Value} {an od : Option Addr} {osl : Array (Option Value)} {N : List Str}
    (lk : K.lookup f = some ⟨oc, od, .func (PySem.W.fnOf name qual params body scope dV kV doc pm an cdv ct), osl⟩) (cd : PySem.W.codeIn K cdv qual = true) (S : FnScope N ps scope)
    (len : ∀ vs H Q E, sp vs H Q E → vs.length = ps.length)
    (hb : ∀ (A : Around) (outer : List Env) (s : Shared) (H : Hp) (vs : List V) (Q : VK) (E : XK), Room k (A.deeper (envOfC qual scope s.heap.objs.size f cdv)) → A.guards = some [] → sp vs H Q E →
      ∃ t, PSs (cxOf CX P w K mg base N qual scope f cdv A outer s H E) body t ∧ t { nx := fun _ H1 => Q .non H1, rt := Q } (start N vs) H) :
    FnG P w K mg base CX (k + 1) f (PySem.W.fnOf name qual params body scope dV kV doc pm an cdv ct) ps sp := by
  refine ⟨len, ?_⟩
  intro A outer s H args us vs Q E r g e b v q
  have n := len vs H Q E q
  have kin : K.In s.heap := e.mod.kin.keeps fun c o z => (e.bs c o z).1
  refine codeAny_call_function r.depth (kin _ _ lk) rfl S.co S.gen rfl (PySem.W.codeRec_of kin cd) (b _ _ _ _ ?_)
  refine wpAny_newFunctionEnv_cells S.kind (fun y hy => ?_) fun env he s1 x => ?_
  · obtain ⟨m, u⟩ := y
    rcases S.par m (List.of_mem_zip hy).1 with z | z
    · exact Or.inl z
    · exact Or.inr ⟨z, PySem.W.cellsFrom_some _ _ _ (Or.inl z)⟩
  · subst he
    refine ⟨(e.mod.nolimit.keeps fun c o z => (e.bs c o z).1).keeps x.toInCall.keep, codeAny_func ?_⟩
    obtain ⟨t, ht, hq⟩ := hb A outer s H vs Q E (r.deeper _) g q
    have I := inv_start (CX := CX) (E := E) S r.hd e n v x
    refine wpAny_mono (ht.run [] s1 (start N vs) H _ I hq) (fun fl s2 hs => ?_) fun _ _ z => z
    cases fl with
    | ret u =>
      obtain ⟨v', σ', H', J, rv, q'⟩ := hs
      exact ⟨v', H', J.os, J.bare, J.base, J.hok, rv, q'⟩
    | next =>
      obtain ⟨σ', H', J, q'⟩ := hs
      exact ⟨V.non, H', J.os, J.bare, J.base, J.hok, rfl, q'⟩
    | brk =>
      obtain ⟨_, _, _, z⟩ := hs
      exact False.elim z
    | cont =>
      obtain ⟨_, _, _, z⟩ := hs
      exact False.elim z
end
section
variable {X : Cx} {CX : CXT} {k : Nat} {f C : Addr} {fd : FuncData} {ps : List Str} {sp : Sp} {dvs : List V} {ds : List Value} {E : XK} {x m : Str} {p pos apos : Pos} {e o : Expr} {es : List Expr} {ta : TE} {t : TA}
theorem runG {pins : List (Addr × Obj)} {σ : L2.St} {H : Hp} {s : Shared} {Q : VK} {us : List Value} {vs : List V} (F : FnG X.prog X.w X.K X.mg X.base CX k f fd ps sp) (hr : Room k X.A) (hg : X.A.guards = some []) (hb : Binds X.K fd ps ds) (hd : Vals dvs ds) (hx : Passes CX X E)
    (I : Inv X pins σ H s) (r : Vals vs us) (h : sp (vs ++ dvs) H Q E) : wpAny (model X.prog X.w) X.A (call (.ref f) us) (EP X pins σ Q) X.xe s := by
  have q := r.append hd
  have n : (us ++ ds).length = ps.length := by rw [← q.length]; exact F.len _ _ _ _ h
  refine wpAny_call (codeAny_mono (F.run X.A X.stack s H ⟨us, []⟩ (us ++ ds) (vs ++ dvs) Q E hr hg I.env0 (hb s us I.kIn n) q h) fun z s' hz => ?_)
  cases z with
  | error w => exact hx pins σ H s w s' I hz
  | ok fl =>
    cases fl with
    | ret u => exact I.after hz
    | _ => exact False.elim hz
theorem peG_call (F : FnG X.prog X.w X.K X.mg X.base CX k f fd ps sp) (hr : Room k X.A) (hgd : X.A.guards = some []) (hg : Gl X x) (hm : X.mg x = some (.ref f)) (hk : PySem.W.keepIn X.K (.ref f) = true) (hb : Binds X.K fd ps ds) (hd : Vals dvs ds) (hx : Passes CX X E)
    (ha : PA X (e :: es) t) (hdb : (x == ("__debug__" : Str)) = false := by decide) (he : starEach (e :: es) X.env = (false, eval e X.env) :: starEach es X.env := by rfl) (hpl : (backTo pos (starEach es X.env)).any (·.1) = false := by rfl) :
    PE X (.Call (.Name x p) (e :: es) [] pos) (tCall sp dvs E t) := by
  constructor
  intro pins s σ H Q I h
  refine wpAny_Call_Name_kw (ld_glob I hg hm (PySem.W.callWith_K (h₀ := X.base) I.ok.mod.kin hk (thn (ha.run pos pins s σ H _ I h) fun us s1 q => ?_) he hpl) hdb)
  obtain ⟨vs, H1, I1, r, q⟩ := q
  exact ⟨I1.kIn, runG F hr hgd hb hd hx I1 r q⟩
end
/-! ### a def of data -/
noncomputable abbrev RD := List D → (D → Prop) → Prop
noncomputable def spD (K : PySem.W.Frag) (R : RD) : Sp := fun vs H Q _ => ∃ G ds k, GOk G H ∧ DtL K G H ds vs ∧ R ds k ∧ ∀ d v H', k d → Ext G H H' → Dt K G H' d v → Q v H'
noncomputable def callT (R : RD) (ta : TLD) : TD := fun ρ k => ta ρ fun ds => R ds k
/-- all that is asked of a def to call it -/
structure Cal (X : Cx) (n : Nat) (x : Str) (R : RD) : Prop where
  ex : ∃ (f : Addr) (fd : FuncData) (ps : List Str) (k : Nat), k ≤ n ∧ FnG X.prog X.w X.K X.mg X.base CX0 k f fd ps (spD X.K R) ∧ X.mg x = some (.ref f) ∧ PySem.W.keepIn X.K (.ref f) = true ∧ Binds X.K fd ps []
section
variable {X : Cx} {F : Fr} {n : Nat} {x : Str} {R : RD} {e : Expr} {es : List Expr} {ta : TLD} {p pos : Pos}
theorem d_call (c : Cal X n x R) (hr : Room n X.A) (hgd : X.A.guards = some []) (hg : Gl X x) (ha : PA X (e :: es) (liftA F ta)) (hK : X.K = F.K := by rfl) (hdb : (x == ("__debug__" : Str)) = false := by decide)
    (he : starEach (e :: es) X.env = (false, eval e X.env) :: starEach es X.env := by rfl) (hpl : (backTo pos (starEach es X.env)).any (·.1) = false := by rfl) : PE X (.Call (.Name x p) (e :: es) [] pos) (lift F (callT R ta)) := by
  obtain ⟨f, fd, ps, j, hj, fn, hm, hk, hb⟩ := c.ex
  refine pe_imp (peG_call fn (hr.mono hj) hgd hg hm hk hb .nil pass0 ha hdb he hpl) fun σ H Q ⟨G, ρ, k, r, h, q⟩ => ?_
  refine ⟨G, ρ, _, r, h, fun ds vs H1 h1 e1 d1 => ?_⟩
  have r1 := r.step e1
  show spD X.K R (vs ++ []) H1 Q E0
  rw [List.append_nil, hK]
  exact ⟨G, ds, k, r1.ok, d1, h1, fun d v H2 h2 e2 d2 => q d v H2 h2 (e1.trans e2) d2⟩
end
end DL
set_option Elab.async false
set_option linter.all false
set_option maxRecDepth 100000
set_option maxHeartbeats 1000000
namespace DL
open PySem L2
/-! ### data of the model's own kind -/
mutual
noncomputable def D.py : D → PyData
  | .non => .none
  | .bl b => .bool b
  | .int i => .int i
  | .str x => .str x
  | .lst ds => .list (D.pys ds)
  | .tup ds => .tuple (D.pys ds)
  | .dic _ _ => .dict []
  | .ins _ _ => .dict []
  | .glb _ => .dict []
  | .bag => .dict []
  | .lock _ _ => .dict []
  | .at _ d => D.py d
noncomputable def D.pys : List D → List PyData
  | [] => []
  | d :: ds => D.py d :: D.pys ds
end
theorem pys_map : ∀ ds : List D, D.pys ds = ds.map D.py
  | [] => by simp only [D.pys, List.map_nil]
  | d :: ds => by simp only [D.pys, List.map_cons, pys_map ds]
section
variable {K : PySem.W.Frag} {G : Gh} {H : Hp}
mutual
theorem Dt.dp : ∀ (d : D) (v : V), d.py.canLay0 = true → Dt K G H d v → Dp K H v d.py
  | .non, v, _, h => by
    obtain rfl : v = .non := h
    exact .non
  | .bl b, v, _, h => by
    obtain rfl : v = .bl b := h
    exact .bl b
  | .int b, v, _, h => by
    obtain rfl : v = .int b := h
    exact .int b
  | .str b, v, _, h => by
    obtain rfl : v = .str b := h
    exact .str b
  | .lst ds, v, c, h => by
    obtain ⟨a, xs, rfl, _, h3, h4⟩ := h
    exact .lst (SqL.of h3) (Dt.dps ds xs (by simpa only [D.py, PyData.canLay0] using c) h4)
  | .tup ds, v, c, h => by
    obtain ⟨a, xs, rfl, h3, h4⟩ := h
    exact .tup (.inl (.inl h3)) (Dt.dps ds xs (by simpa only [D.py, PyData.canLay0] using c) h4)
  | .dic t es, v, c, h => by simp [D.py, PyData.canLay0] at c
  | .ins C es, v, c, h => by simp [D.py, PyData.canLay0] at c
  | .glb _, v, c, h => by simp [D.py, PyData.canLay0] at c
  | .bag, v, c, h => by simp [D.py, PyData.canLay0] at c
  | .lock _ _, v, c, h => by simp [D.py, PyData.canLay0] at c
  | .at _ d, v, c, h => Dt.dp d v (by simpa only [D.py] using c) h.2
theorem Dt.dps : ∀ (ds : List D) (vs : List V), PyData.canLayAll0 (D.pys ds) = true → DtL K G H ds vs → DpAll K H vs (D.pys ds)
  | [], v, _, h => by
    obtain rfl : v = [] := h
    exact .nil
  | d :: ds, v, c, h => by
    obtain ⟨x, r, rfl, h1, h2⟩ := h
    simp only [D.pys, PyData.canLayAll0, Bool.and_eq_true] at c
    exact .cons (Dt.dp d x c.1 h1) (Dt.dps ds r c.2 h2)
end
end
/-- data that may be compared -/
noncomputable def eqOk (x y : D) : Prop := x.py.canLay0 = true ∧ y.py.canLay0 = true ∧ min x.py.depth y.py.depth ≤ 150
noncomputable def eqB : D → D → (Bool → Prop) → Prop
  | .str a, .str b, k => k (decide (a = b))
  | .int a, .int b, k => k (decide (a = b))
  | .bl a, .bl b, k => k (decide (a = b))
  | x, y, k => eqOk x y ∧ k (PyData.eqv x.py y.py)
noncomputable def eqD : OD := fun x y k => eqB x y fun b => k (.bl b)
noncomputable def neD : OD := fun x y k => eqB x y fun b => k (.bl (!b))
theorem eqB_cases {x y : D} {k : Bool → Prop} (h : eqB x y k) : (∃ a b, x = .str a ∧ y = .str b ∧ k (decide (a = b))) ∨ (∃ a b, x = .int a ∧ y = .int b ∧ k (decide (a = b))) ∨ (∃ a b, x = .bl a ∧ y = .bl b ∧ k (decide (a = b))) ∨
    (eqOk x y ∧ k (PyData.eqv x.py y.py)) := by
  cases x <;> cases y <;> first
    | exact .inl ⟨_, _, rfl, rfl, h⟩
    | exact .inr (.inl ⟨_, _, rfl, rfl, h⟩)
    | exact .inr (.inr (.inl ⟨_, _, rfl, rfl, h⟩))
    | exact .inr (.inr (.inr h))
noncomputable def rEqA (K : PySem.W.Frag) : R2 := fun x y H Q => rEq x y H Q ∨ ∃ d e, Dp K H x d ∧ Dp K H y e ∧ d.canLay0 = true ∧ e.canLay0 = true ∧ min d.depth e.depth ≤ 150 ∧ Q (.bl (PyData.eqv d e)) H
noncomputable def rNeA (K : PySem.W.Frag) : R2 := fun x y H Q => rNe x y H Q ∨ ∃ d e, Dp K H x d ∧ Dp K H y e ∧ d.canLay0 = true ∧ e.canLay0 = true ∧ min d.depth e.depth ≤ 150 ∧ Q (.bl (!PyData.eqv d e)) H
section
variable {X : Cx} {F : Fr} {n : Nat}
theorem u150 (hr : Room n X.A) : X.A.units + 150 < cLine := by have := hr.un; omega
theorem op_eqA (hr : Room n X.A) : OpR X (compareOp .Eq) (rEqA X.K) := by
  refine op_eq.or ?_
  intro pins s σ H x y v u Q I rx ry h
  obtain ⟨d, e, hd, he, cd, ce, hm, q⟩ := h
  obtain ⟨as, r1⟩ := Dp.reads I d x v hd rx
  obtain ⟨bs, r2⟩ := Dp.reads I e y u he ry
  exact SeqAt.compareEq_reads r1 r2 cd ce (by have := u150 hr; omega) ⟨.bl _, H, I, rfl, q⟩
theorem op_neA (hr : Room n X.A) : OpR X (compareOp .NotEq) (rNeA X.K) := by
  refine op_ne.or ?_
  intro pins s σ H x y v u Q I rx ry h
  obtain ⟨d, e, hd, he, cd, ce, hm, q⟩ := h
  obtain ⟨as, r1⟩ := Dp.reads I d x v hd rx
  obtain ⟨bs, r2⟩ := Dp.reads I e y u he ry
  exact SeqAt.compareNe_reads r1 r2 cd ce (by have := u150 hr; omega) ⟨.bl _, H, I, rfl, q⟩
theorem dec_of {α β : Type} {f : α → β} [DecidableEq α] [DecidableEq β] (hf : ∀ a b, f a = f b → a = b) (a b : α) : decide (f a = f b) = decide (a = b) := by
  by_cases h : a = b
  · subst h; simp
  · rw [decide_eq_false h, decide_eq_false fun z => h (hf a b z)]
theorem ok_eq : OkOp F (rEqA F.K) eqD := by
  intro G H x y v u k Q ⟨ob, oi, tr, bg, _⟩ h hx hy q
  rcases eqB_cases h with ⟨a, b, rfl, rfl, h⟩ | ⟨a, b, rfl, rfl, h⟩ | ⟨a, b, rfl, rfl, h⟩ | ⟨⟨h1, h2, h3⟩, h⟩
  · obtain rfl : v = .str a := hx
    obtain rfl : u = .str b := hy
    exact .inl ⟨rfl, by rw [dec_of fun _ _ z => V.str.inj z]; exact q _ _ _ h (.refl bg) rfl⟩
  · obtain rfl : v = .int a := hx
    obtain rfl : u = .int b := hy
    exact .inl ⟨rfl, by rw [dec_of fun _ _ z => V.int.inj z]; exact q _ _ _ h (.refl bg) rfl⟩
  · obtain rfl : v = .bl a := hx
    obtain rfl : u = .bl b := hy
    exact .inl ⟨rfl, by rw [dec_of fun _ _ z => V.bl.inj z]; exact q _ _ _ h (.refl bg) rfl⟩
  · exact .inr ⟨_, _, Dt.dp x v h1 hx, Dt.dp y u h2 hy, h1, h2, h3, q _ _ _ h (.refl bg) rfl⟩
theorem ok_ne : OkOp F (rNeA F.K) neD := by
  intro G H x y v u k Q ⟨ob, oi, tr, bg, _⟩ h hx hy q
  rcases eqB_cases h with ⟨a, b, rfl, rfl, h⟩ | ⟨a, b, rfl, rfl, h⟩ | ⟨a, b, rfl, rfl, h⟩ | ⟨⟨h1, h2, h3⟩, h⟩
  · obtain rfl : v = .str a := hx
    obtain rfl : u = .str b := hy
    exact .inl ⟨rfl, by rw [dec_of fun _ _ z => V.str.inj z]; exact q _ _ _ h (.refl bg) rfl⟩
  · obtain rfl : v = .int a := hx
    obtain rfl : u = .int b := hy
    exact .inl ⟨rfl, by rw [dec_of fun _ _ z => V.int.inj z]; exact q _ _ _ h (.refl bg) rfl⟩
  · obtain rfl : v = .bl a := hx
    obtain rfl : u = .bl b := hy
    exact .inl ⟨rfl, by rw [dec_of fun _ _ z => V.bl.inj z]; exact q _ _ _ h (.refl bg) rfl⟩
  · exact .inr ⟨_, _, Dt.dp x v h1 hx, Dt.dp y u h2 hy, h1, h2, h3, q _ _ _ h (.refl bg) rfl⟩
end
/-! ### x in y: lists, tuples -/
noncomputable def inOk (x : D) (ys : List D) : Prop := x.py.canLay0 = true ∧ PyData.canLayAll0 (D.pys ys) = true ∧ x.py.depth ≤ 140
noncomputable def inB (x y : D) (k : Bool → Prop) : Prop := match y with
  | .lst ys => inOk x ys ∧ k (ys.any fun z => PyData.eqv z.py x.py)
  | .tup ys => inOk x ys ∧ k (ys.any fun z => PyData.eqv z.py x.py)
  | _ => False
noncomputable def inD : OD := fun x y k => inB x y fun b => k (.bl b)
noncomputable def notInD : OD := fun x y k => inB x y fun b => k (.bl (!b))
noncomputable def rInA (K : PySem.W.Frag) (neg : Bool) : R2 := fun x y H Q => ∃ d ds, Dp K H x d ∧ (Dp K H y (.list ds) ∨ Dp K H y (.tuple ds)) ∧ d.canLay0 = true ∧ PyData.canLayAll0 ds = true ∧ d.depth ≤ 140 ∧
  Q (.bl (if neg then !ds.any fun z => PyData.eqv z d else ds.any fun z => PyData.eqv z d)) H
section
variable {X : Cx} {F : Fr} {n : Nat}
theorem op_inA (hr : Room n X.A) : OpR X (compareOp .In) (rInA X.K false) := by
  intro pins s σ H x y v u Q I rx ry h
  obtain ⟨d, ds, hd, he, cd, ce, hm, q⟩ := h
  obtain ⟨as, r1⟩ := Dp.reads I d x v hd rx
  have hu : X.A.units + 1 + min (PyData.depthAll ds) d.depth < cLine := by have := u150 hr; omega
  rcases he with he | he
  · obtain ⟨bs, r2⟩ := Dp.reads I _ y u he ry
    exact SeqAt.in_list_reads r2 r1 ce cd hu ⟨.bl _, H, I, rfl, q⟩
  · obtain ⟨bs, r2⟩ := Dp.reads I _ y u he ry
    exact SeqAt.in_tuple_reads r2 r1 ce cd hu ⟨.bl _, H, I, rfl, q⟩
theorem op_notInA (hr : Room n X.A) : OpR X (compareOp .NotIn) (rInA X.K true) := by
  intro pins s σ H x y v u Q I rx ry h
  obtain ⟨d, ds, hd, he, cd, ce, hm, q⟩ := h
  obtain ⟨as, r1⟩ := Dp.reads I d x v hd rx
  have hu : X.A.units + 1 + min (PyData.depthAll ds) d.depth < cLine := by have := u150 hr; omega
  rcases he with he | he
  · obtain ⟨bs, r2⟩ := Dp.reads I _ y u he ry
    exact SeqAt.notIn_list_reads r2 r1 ce cd hu ⟨.bl _, H, I, rfl, q⟩
  · obtain ⟨bs, r2⟩ := Dp.reads I _ y u he ry
    exact SeqAt.notIn_tuple_reads r2 r1 ce cd hu ⟨.bl _, H, I, rfl, q⟩
theorem any_pys (f : PyData → Bool) (ys : List D) : (D.pys ys).any f = ys.any fun z => f z.py := by rw [pys_map, List.any_map]; rfl
theorem ok_in : OkOp F (rInA F.K false) inD := by
  intro G H x y v u k Q ⟨ob, oi, tr, bg, _⟩ h hx hy q
  cases y with
  | lst ys =>
    obtain ⟨⟨h1, h2, h3⟩, h⟩ := h
    have e := Dt.dp (.lst ys) u (by simpa only [D.py, PyData.canLay0] using h2) hy
    refine ⟨_, _, Dt.dp x v h1 hx, .inl e, h1, h2, h3, ?_⟩
    rw [any_pys]
    exact q _ _ _ h (.refl bg) rfl
  | tup ys =>
    obtain ⟨⟨h1, h2, h3⟩, h⟩ := h
    have e := Dt.dp (.tup ys) u (by simpa only [D.py, PyData.canLay0] using h2) hy
    refine ⟨_, _, Dt.dp x v h1 hx, .inr e, h1, h2, h3, ?_⟩
    rw [any_pys]
    exact q _ _ _ h (.refl bg) rfl
  | _ => exact (show False from h).elim
theorem ok_notIn : OkOp F (rInA F.K true) notInD := by
  intro G H x y v u k Q ⟨ob, oi, tr, bg, _⟩ h hx hy q
  cases y with
  | lst ys =>
    obtain ⟨⟨h1, h2, h3⟩, h⟩ := h
    have e := Dt.dp (.lst ys) u (by simpa only [D.py, PyData.canLay0] using h2) hy
    refine ⟨_, _, Dt.dp x v h1 hx, .inl e, h1, h2, h3, ?_⟩
    rw [any_pys]
    exact q _ _ _ h (.refl bg) rfl
  | tup ys =>
    obtain ⟨⟨h1, h2, h3⟩, h⟩ := h
    have e := Dt.dp (.tup ys) u (by simpa only [D.py, PyData.canLay0] using h2) hy
    refine ⟨_, _, Dt.dp x v h1 hx, .inr e, h1, h2, h3, ?_⟩
    rw [any_pys]
    exact q _ _ _ h (.refl bg) rfl
  | _ => exact (show False from h).elim
end
theorem of_tt {A B : Prop} (h : if true = true then A else B) : A := (if_pos (c := true = true) rfl).mp h
theorem of_ff {A B : Prop} (h : if false = true then A else B) : B := (if_neg Bool.false_ne_true).mp h
/-! ### truth; and, or, not; a if t else b -/
noncomputable def truD : D → (Bool → Prop) → Prop
  | .non, k => k false
  | .bl b, k => k b
  | .int i, k => k (i != 0)
  | .str x, k => x.length ≤ sizeLine ∧ k ((x.length : Int) != 0)
  | .lst ds, k => k (!ds.isEmpty)
  | .tup ds, k => k (!ds.isEmpty)
  | _, _ => False
theorem truD_ok {K : PySem.W.Frag} {G : Gh} {H : Hp} {d : D} {v : V} {k : Bool → Prop} (h : truD d k) (hd : Dt K G H d v) : ∃ b, TruV K v H b ∧ k b := by
  cases d with
  | non =>
    obtain rfl : v = .non := hd
    exact ⟨false, rfl, h⟩
  | bl b =>
    obtain rfl : v = .bl b := hd
    exact ⟨b, rfl, h⟩
  | int i =>
    obtain rfl : v = .int i := hd
    exact ⟨_, rfl, h⟩
  | str x =>
    obtain rfl : v = .str x := hd
    exact ⟨_, ⟨h.1, rfl⟩, h.2⟩
  | lst ds =>
    obtain ⟨a, xs, rfl, _, ha, hl⟩ := hd
    refine ⟨_, .inl ⟨xs, SqL.of ha, rfl⟩, ?_⟩
    cases ds <;> cases xs <;> first | exact h | (have := hl.len; simp at this)
  | tup ds =>
    obtain ⟨a, xs, rfl, ha, hl⟩ := hd
    refine ⟨_, .inr (.inl ⟨xs, .inl (.inl ha), rfl⟩), ?_⟩
    cases ds <;> cases xs <;> first | exact h | (have := hl.len; simp at this)
  | _ => exact (show False from h).elim
noncomputable def andT (ta tb : TD) : TD := fun ρ k => ta ρ fun x => truD x fun b => if b = true then tb ρ k else k x
noncomputable def orT (ta tb : TD) : TD := fun ρ k => ta ρ fun x => truD x fun b => if b = true then k x else tb ρ k
noncomputable def notT (ta : TD) : TD := fun ρ k => ta ρ fun x => truD x fun b => k (.bl (!b))
noncomputable def ifT (t : TBD) (ta tb : TD) : TD := fun ρ k => t ρ fun b => if b = true then ta ρ k else tb ρ k
noncomputable def andB (t u : TBD) : TBD := fun ρ k => t ρ fun b => if b = true then u ρ k else k false
noncomputable def orB (t u : TBD) : TBD := fun ρ k => t ρ fun b => if b = true then k true else u ρ k
noncomputable def notB (t : TBD) : TBD := fun ρ k => t ρ fun b => k (!b)
noncomputable def truT (ta : TD) : TBD := fun ρ k => ta ρ fun x => truD x k
theorem pw_imp {X : Cx} {e : Expr} {t t' : TT} (h : PW X e t) (i : ∀ σ H Q, t' σ H Q → t σ H Q) : PW X e t' := ⟨fun wh pins s σ H Q I w => h.run wh pins s σ H Q I (i _ _ _ w)⟩
section
variable {X : Cx} {F : Fr} {a b c : Expr} {rest : List Expr} {ta tb : TD} {tA tB : TBD} {pos : Pos}
theorem d_one {op : BoolOp} (h : PE X a (lift F ta)) : PE X (.BoolOp op [a] pos) (lift F ta) := pe_one h
theorem d_and (ha : PE X a (lift F ta)) (hb : PE X (.BoolOp .And (b :: rest) pos) (lift F tb)) (hK : X.K = F.K := by rfl) : PE X (.BoolOp .And (a :: b :: rest) pos) (lift F (andT ta tb)) := by
  refine pe_imp (pe_andT ha hb) fun σ H Q ⟨G, ρ, k, r, h, q⟩ => ⟨G, ρ, _, r, h, fun d v H1 h1 e1 d1 => ?_⟩
  obtain ⟨c, hc, h1⟩ := truD_ok h1 d1
  refine ⟨c, hK ▸ hc, ?_⟩
  cases c with
  | true => exact iteT ⟨G, ρ, k, r.step e1, of_tt h1, fun d v H2 h2 e2 d2 => q d v H2 h2 (e1.trans e2) d2⟩
  | false => exact iteF (q d v H1 (of_ff h1) e1 d1)
theorem d_if (hc : PT X c (liftT F tA)) (ha : PE X a (lift F ta)) (hb : PE X b (lift F tb)) : PE X (.IfExp c a b pos) (lift F (ifT tA ta tb)) := by
  refine pe_imp (pe_ifExp hc ha hb) fun σ H Q ⟨G, ρ, k, r, h, q⟩ => ⟨G, ρ, _, r, h, fun d H1 h1 e1 => ?_⟩
  cases d with
  | true => exact iteT ⟨G, ρ, k, r.step e1, of_tt h1, fun d v H2 h2 e2 d2 => q d v H2 h2 (e1.trans e2) d2⟩
  | false => exact iteF ⟨G, ρ, k, r.step e1, of_ff h1, fun d v H2 h2 e2 d2 => q d v H2 h2 (e1.trans e2) d2⟩
theorem t_tru (ha : PE X a (lift F ta)) (he : ∀ whole, isTrue a X.env whole = (do let v ← whole; standAt a.pos; holding [v] (truthy v)) := by intro _; rfl) (hK : X.K = F.K := by rfl) : PT X a (liftT F (truT ta)) := by
  refine pt_imp (pt_truth ha he) fun σ H Q ⟨G, ρ, k, r, h, q⟩ => ⟨G, ρ, _, r, h, fun d v H1 h1 e1 d1 => ?_⟩
  obtain ⟨c, hc, h1⟩ := truD_ok h1 d1
  exact ⟨c, hK ▸ hc, q c H1 h1 e1⟩
theorem w_and1 (ha : PT X a (liftT F tA)) : PW X (.BoolOp .And [a] pos) (liftT F tA) := pw_and1 ha
theorem w_or1 (ha : PT X a (liftT F tA)) : PW X (.BoolOp .Or [a] pos) (liftT F tA) := pw_or1 ha
theorem w_and (ha : PT X a (liftT F tA)) (hb : PW X (.BoolOp .And (b :: rest) pos) (liftT F tB)) : PW X (.BoolOp .And (a :: b :: rest) pos) (liftT F (andB tA tB)) := by
  refine pw_imp (pw_and ha hb) fun σ H Q ⟨G, ρ, k, r, h, q⟩ => ⟨G, ρ, _, r, h, fun d H1 h1 e1 => ?_⟩
  cases d with
  | true => exact iteT ⟨G, ρ, k, r.step e1, of_tt h1, fun d H2 h2 e2 => q d H2 h2 (e1.trans e2)⟩
  | false => exact iteF (q _ H1 (of_ff h1) e1)
theorem w_or (ha : PT X a (liftT F tA)) (hb : PW X (.BoolOp .Or (b :: rest) pos) (liftT F tB)) : PW X (.BoolOp .Or (a :: b :: rest) pos) (liftT F (orB tA tB)) := by
  refine pw_imp (pw_or ha hb) fun σ H Q ⟨G, ρ, k, r, h, q⟩ => ⟨G, ρ, _, r, h, fun d H1 h1 e1 => ?_⟩
  cases d with
  | false => exact iteF ⟨G, ρ, k, r.step e1, of_ff h1, fun d H2 h2 e2 => q d H2 h2 (e1.trans e2)⟩
  | true => exact iteT (q _ H1 (of_tt h1) e1)
theorem t_not (ha : PT X a (liftT F tA)) : PT X (.UnaryOp .Not a pos) (liftT F (notB tA)) :=
  pt_imp (pt_not ha) fun σ H Q ⟨G, ρ, k, r, h, q⟩ => ⟨G, ρ, _, r, h, fun d H1 h1 e1 => q _ H1 h1 e1⟩
end
end DL
set_option Elab.async false
set_option linter.all false
set_option maxRecDepth 100000
set_option maxHeartbeats 1000000
namespace DL
open PySem L2
/-! ### subscripts -/
section
variable {K : PySem.W.Frag} {G : Gh} {H : Hp}
theorem DtL.get : ∀ {ds : List D} {vs : List V} {i : Nat} {d : D}, DtL K G H ds vs → ds[i]? = some d → ∃ v, vs[i]? = some v ∧ Dt K G H d v
  | [], _, i, d, _, e => by simp at e
  | a :: ds, vs, 0, d, h, e => by
    obtain ⟨x, r, rfl, h1, h2⟩ := h
    simp at e; subst e
    exact ⟨x, rfl, h1⟩
  | a :: ds, vs, i + 1, d, h, e => by
    obtain ⟨x, r, rfl, h1, h2⟩ := h
    obtain ⟨v, e1, e2⟩ := DtL.get (i := i) h2 (by simpa using e)
    exact ⟨v, by simpa using e1, e2⟩
theorem DtL.get' {ds : List D} {vs : List V} {i : Nat} {v : V} (h : DtL K G H ds vs) (e : vs[i]? = some v) : ∃ d, ds[i]? = some d ∧ Dt K G H d v := by
  have hi : i < ds.length := by rw [h.len]; exact (List.getElem?_eq_some_iff.mp e).1
  obtain ⟨v', e1, e2⟩ := h.get (List.getElem?_eq_getElem hi)
  rw [e] at e1
  obtain rfl := Option.some.inj e1
  exact ⟨_, List.getElem?_eq_getElem hi, e2⟩
theorem DtL.atI {ds : List D} {vs : List V} {i : Int} {d : D} (h : DtL K G H ds vs) (e : L2.atI ds i = some d) : ∃ v, L2.atI vs i = some v ∧ Dt K G H d v := by
  unfold L2.atI at e ⊢
  rw [← h.len]
  cases q : ixN ds.length i with
  | none => rw [q] at e; cases e
  | some j =>
    rw [q] at e
    exact h.get e
theorem DtL.drop : ∀ {ds : List D} {vs : List V} (n : Nat), DtL K G H ds vs → DtL K G H (ds.drop n) (vs.drop n)
  | ds, vs, 0, h => h
  | [], vs, n + 1, h => by
    obtain rfl : vs = [] := h
    exact rfl
  | d :: ds, vs, n + 1, h => by
    obtain ⟨x, r, rfl, h1, h2⟩ := h
    exact DtL.drop n h2
theorem DtL.take : ∀ {ds : List D} {vs : List V} (n : Nat), DtL K G H ds vs → DtL K G H (ds.take n) (vs.take n)
  | ds, vs, 0, h => rfl
  | [], vs, n + 1, h => by
    obtain rfl : vs = [] := h
    exact rfl
  | d :: ds, vs, n + 1, h => by
    obtain ⟨x, r, rfl, h1, h2⟩ := h
    exact ⟨x, _, rfl, h1, DtL.take n h2⟩
end
noncomputable def optK {α : Type} (o : Option α) (k : α → Prop) : Prop := ∃ a, o = some a ∧ k a
noncomputable def ixD : OD
  | .lst ds, .int i, k => optK (L2.atI ds i) k
  | .tup ds, .int i, k => optK (L2.atI ds i) k
  | .str z, .int i, k => z.length ≤ sizeLine ∧ optK (L2.atI z.cps.toList i) fun c => k (.str ⟨#[c]⟩)
  | _, _, _ => False
section
variable {X : Cx} {F : Fr} {a b : Expr} {ta tb : TD} {pos : Pos}
theorem ok_ix (hK : X.K = F.K) : OkOp F (rIx X.K) ixD := by
  intro G H x y v u k Q ⟨ob, oi, tr, bg, _⟩ h hx hy q
  rw [hK]
  cases x <;> try exact (show False from h).elim
  · cases y <;> try exact (show False from h).elim
    obtain ⟨e, h⟩ := h
    obtain rfl := hx
    obtain rfl := hy
    obtain ⟨c, hc, h⟩ := h
    exact .inr (.inr ⟨_, _, c, rfl, rfl, e, hc, q _ _ _ h (.refl bg) rfl⟩)
  · cases y <;> try exact (show False from h).elim
    obtain ⟨p, xs, rfl, n, hp, hl⟩ := hx
    obtain rfl := hy
    obtain ⟨d, hd, h⟩ := h
    obtain ⟨w, e1, e2⟩ := hl.atI hd
    exact .inl ⟨p, xs, _, w, rfl, rfl, SqL.of hp, e1, q _ _ _ h (.refl bg) e2⟩
  · cases y <;> try exact (show False from h).elim
    obtain ⟨p, xs, rfl, hp, hl⟩ := hx
    obtain rfl := hy
    obtain ⟨d, hd, h⟩ := h
    obtain ⟨w, e1, e2⟩ := hl.atI hd
    exact .inr (.inl ⟨p, xs, _, w, rfl, rfl, .inl (.inl hp), e1, q _ _ _ h (.refl bg) e2⟩)
theorem d_ix (ha : PE X a (lift F ta)) (hb : PE X b (lift F tb)) (hs : PlainIx b := by intro _ _; rfl) (hK : X.K = F.K := by rfl) : PE X (.Subscript a b pos) (lift F (binT ixD ta tb)) :=
  pe_imp (pe_ix ix_seq ha hb hs) (opT (ok_ix hK))
end
/-! ### slices -/
noncomputable abbrev TO2 := List Sl → (Option Int → Prop) → Prop
noncomputable def liftO (F : Fr) (T : TO2) : TO := fun σ H Q => ∃ G ρ k, Rel F G H σ ρ ∧ T ρ k ∧ ∀ o H', k o → Ext G H H' → Q o H'
noncomputable def noneO : TO2 := fun _ k => k none
noncomputable def someO (t : TD) : TO2 := fun ρ k => t ρ fun d => match d with
  | .int i => k (some i)
  | _ => False
noncomputable def cutL {α : Type} (xs : List α) (lo hi : Option Int) : List α := (xs.drop (HT.sIx xs.length 0 lo)).take (HT.sIx xs.length xs.length hi - HT.sIx xs.length 0 lo)
noncomputable def slT (o : D → Option Int → Option Int → (D → Prop) → Prop) (t : TD) (l u : TO2) : TD := fun ρ k => t ρ fun x => l ρ fun lo => u ρ fun hi => o x lo hi k
noncomputable def slD : D → Option Int → Option Int → (D → Prop) → Prop
  | .lst ds, lo, hi, k => k (.lst (cutL ds lo hi))
  | .tup ds, lo, hi, k => k (.tup (cutL ds lo hi))
  | .str z, lo, hi, k => z.length ≤ sizeLine ∧ k (.str (cutS z lo hi))
  | _, _, _, _ => False
theorem cutL_all {α : Type} {xs : List α} {lo hi : Option Int} (h : HT.sIx xs.length 0 lo = 0 ∧ HT.sIx xs.length xs.length hi = xs.length) : cutL xs lo hi = xs := by
  unfold cutL
  rw [h.1, h.2]
  simp
section
variable {X : Cx} {F : Fr} {e : Expr} {te : TD} {lo hi : Option Expr} {tl th : TO2} {p2 pos : Pos}
theorem o_none : PO X none (liftO F noneO) := ⟨fun pins s σ H Q I ⟨G, ρ, k, r, h, q⟩ => po_none.run pins s σ H Q I (q none H h (.refl r.bag))⟩
theorem o_some {x : Expr} {tx : TD} (h : PE X x (lift F tx)) : PO X (some x) (liftO F (someO tx)) := by
  refine ⟨fun pins s σ H Q I ⟨G, ρ, k, r, w, q⟩ => (po_some h).run pins s σ H Q I ⟨G, ρ, _, r, w, fun d v H1 h1 e1 d1 => ?_⟩⟩
  cases d with
  | int i => exact ⟨i, d1, q _ H1 h1 e1⟩
  | _ => exact (show False from h1).elim
theorem DtL.cut {K : PySem.W.Frag} {G : Gh} {H : Hp} {ds : List D} {vs : List V} (h : DtL K G H ds vs) : DtL K G H (cutL ds lo' hi') (cutV vs lo' hi') := by
  unfold cutL cutV
  rw [h.len]
  exact (h.drop _).take _
theorem d_slice (he : PE X e (lift F te)) (hl : PO X lo (liftO F tl)) (hu : PO X hi (liftO F th)) (hK : X.K = F.K := by rfl) : PE X (.Subscript e (.Slice lo hi none p2) pos) (lift F (slT slD te tl th)) := by
  refine pe_imp (pe_slice (sl_list.or (sl_tupA.or sl_str)) he hl hu) fun σ H Q ⟨G, ρ, k, r, h, q⟩ => ⟨G, ρ, _, r, h, fun d v H1 h1 e1 d1 => ?_⟩
  refine ⟨G, ρ, _, r.step e1, h1, fun lo' H2 h2 e2 => ?_⟩
  refine ⟨G, ρ, _, (r.step e1).step e2, h2, fun hi' H3 h3 e3 => ?_⟩
  have r2 := r.step e1
  have d3 := (r2.evo (e2.trans e3)).dt d v d1
  have r3 := r2.step (e2.trans e3)
  have e13 := e1.trans (e2.trans e3)
  cases d <;> try exact (show False from h3).elim
  · obtain rfl := d3
    exact .inr (.inr ⟨_, rfl, h3.1, q _ _ _ h3.2 e13 rfl⟩)
  · obtain ⟨a, xs, rfl, n, ha, hl⟩ := d3
    refine .inl ⟨a, xs, rfl, SqL.of ha, fun p hp => ?_⟩
    have e4 : Ext G H3 (upd H3 p (.lst (cutV xs lo' hi'))) := Ext.new r3.bag hp
    exact q _ _ _ h3 (e13.trans e4) ⟨p, _, rfl, r3.free hp, upd_same, (r3.evo e4).dts _ _ hl.cut⟩
  · obtain ⟨a, xs, rfl, ha, hl⟩ := d3
    refine .inr (.inl ⟨a, xs, rfl, .inl (.inl ha), fun w => ?_, fun _ p hp => ?_⟩)
    · rw [← hl.len] at w
      refine q _ _ _ h3 e13 ⟨a, xs, rfl, ha, ?_⟩
      rw [cutL_all w]; exact hl
    · have e4 : Ext G H3 (upd H3 p (.tup (cutV xs lo' hi'))) := Ext.new r3.bag hp
      exact q _ _ _ h3 (e13.trans e4) ⟨p, _, rfl, upd_same, (r3.evo e4).dts _ _ hl.cut⟩
noncomputable def slF (t : TD) (l u : TO2) : TLD := fun ρ k => t ρ fun x => l ρ fun lo => u ρ fun hi => match x with
  | .lst ds => k (cutL ds lo hi)
  | _ => False
noncomputable def revF (t : TD) : TLD := fun ρ k => t ρ fun x => match x with
  | .lst ds => k ds.reverse
  | _ => False
end
/-! ### builtins by data -/
noncomputable def OkCall (F : Fr) (r : List V → Hp → VK → Prop) (o : RD) : Prop := ∀ (G : Gh) (H : Hp) (ds : List D) (vs : List V) (k : D → Prop) (Q : VK), GOk G H → o ds k → DtL F.K G H ds vs →
  (∀ d w H', k d → Ext G H H' → Dt F.K G H' d w → Q w H') → r vs H Q
section
variable {X : Cx} {F : Fr} {x : Str} {p pos : Pos} {e : Expr} {es : List Expr} {ta : TLD} {id T : String} {r : List V → Hp → VK → Prop} {o : RD}
theorem callbT (hr : OkCall F r o) : ∀ σ H Q, lift F (callT o ta) σ H Q → tCB r (liftA F ta) σ H Q := by
  intro σ H Q ⟨G, ρ, k, rl, h, q⟩
  refine ⟨G, ρ, _, rl, h, fun ds vs H1 h1 e1 d1 => ?_⟩
  have r1 := rl.step e1
  exact hr G H1 ds vs k Q r1.ok h1 d1 fun d w H2 h2 e2 d2 => q d w H2 h2 (e1.trans e2) d2
theorem d_callB (hc : CallR X (.builtin id) r) (hr : OkCall F r o) (hg : Gl X x) (hm : X.mg x = none) (hv : bootBuiltins x = some (.builtin id)) (ha : PA X (e :: es) (liftA F ta)) (hn : x ≠ "__name__" := by decide) (hdb : (x == ("__debug__" : Str)) = false := by decide)
    (he : starEach (e :: es) X.env = (false, eval e X.env) :: starEach es X.env := by rfl) (hpl : (backTo pos (starEach es X.env)).any (·.1) = false := by rfl) : PE X (.Call (.Name x p) (e :: es) [] pos) (lift F (callT o ta)) :=
  pe_imp (pe_callB hc hg hm hv ha hn hdb he hpl) (callbT hr)
theorem d_callTy (hc : CallR X (.type T) r) (hr : OkCall F r o) (hg : Gl X x) (hm : X.mg x = none) (hv : bootBuiltins x = some (.type T)) (ha : PA X (e :: es) (liftA F ta)) (hn : x ≠ "__name__" := by decide) (hdb : (x == ("__debug__" : Str)) = false := by decide)
    (he : starEach (e :: es) X.env = (false, eval e X.env) :: starEach es X.env := by rfl) (hpl : (backTo pos (starEach es X.env)).any (·.1) = false := by rfl) : PE X (.Call (.Name x p) (e :: es) [] pos) (lift F (callT o ta)) :=
  pe_imp (pe_callTy hc hg hm hv ha hn hdb he hpl) (callbT hr)
end
theorem dl1 {K : PySem.W.Frag} {G : Gh} {H : Hp} {d : D} {vs : List V} (h : DtL K G H [d] vs) : ∃ v, vs = [v] ∧ Dt K G H d v := by
  obtain ⟨x, r, rfl, h1, h2⟩ := h
  obtain rfl : r = [] := h2
  exact ⟨x, rfl, h1⟩
theorem dl2 {K : PySem.W.Frag} {G : Gh} {H : Hp} {d d' : D} {vs : List V} (h : DtL K G H [d, d'] vs) : ∃ v v', vs = [v, v'] ∧ Dt K G H d v ∧ Dt K G H d' v' := by
  obtain ⟨x, r, rfl, h1, h2⟩ := h
  obtain ⟨v, rfl, h3⟩ := dl1 h2
  exact ⟨x, v, rfl, h1, h3⟩
noncomputable def lenR : RD
  | [.str x], k => x.length ≤ sizeLine ∧ k (.int x.length)
  | [.lst ds], k => k (.int ds.length)
  | [.tup ds], k => k (.int ds.length)
  | _, _ => False
noncomputable def intR : RD
  | [.int i], k => k (.int i)
  | [.bl b], k => k (.int (if b then 1 else 0))
  | _, _ => False
noncomputable def absR : RD
  | [.int i], k => k (.int (if i < 0 then -i else i))
  | _, _ => False
noncomputable def minR : RD
  | [.int i, .int j], k => k (.int (if j < i then j else i))
  | _, _ => False
noncomputable def maxR : RD
  | [.int i, .int j], k => k (.int (if j > i then j else i))
  | _, _ => False
noncomputable def tupR : RD
  | [.lst ds], k => k (.tup ds)
  | [.tup ds], k => k (.tup ds)
  | _, _ => False
section
variable {X : Cx} {F : Fr}
theorem ok_len (hK : X.K = F.K) : OkCall F (fun xs H Q => ∃ x n, xs = [x] ∧ LenV X.K x H n ∧ Q (.int n) H) lenR := by
  intro G H ds vs k Q ⟨ob, oi, tr, bg, _⟩ h hd q
  unfold lenR at h
  split at h
  · obtain ⟨v, rfl, hv⟩ := dl1 hd
    obtain rfl := hv
    exact ⟨_, _, rfl, ⟨h.1, rfl⟩, q _ _ _ h.2 (.refl bg) rfl⟩
  · obtain ⟨v, rfl, a, xs, rfl, n, ha, hl⟩ := dl1 hd
    exact ⟨_, _, rfl, .inl ⟨xs, SqL.of ha, hl.len⟩, q _ _ _ h (.refl bg) rfl⟩
  · obtain ⟨v, rfl, a, xs, rfl, ha, hl⟩ := dl1 hd
    exact ⟨_, _, rfl, .inr ⟨xs, .inl (.inl ha), hl.len⟩, q _ _ _ h (.refl bg) rfl⟩
  · exact h.elim
theorem ok_int : OkCall F (fun xs H Q => (∃ i, xs = [.int i] ∧ Q (.int i) H) ∨ ∃ k, xs = [.bl k] ∧ Q (.int (if k then 1 else 0)) H) intR := by
  intro G H ds vs k Q ⟨ob, oi, tr, bg, _⟩ h hd q
  unfold intR at h
  split at h
  · obtain ⟨v, rfl, hv⟩ := dl1 hd
    obtain rfl := hv
    exact .inl ⟨_, rfl, q _ _ _ h (.refl bg) rfl⟩
  · obtain ⟨v, rfl, hv⟩ := dl1 hd
    obtain rfl := hv
    exact .inr ⟨_, rfl, q _ _ _ h (.refl bg) rfl⟩
  · exact h.elim
theorem ok_tup (hK : X.K = F.K) : OkCall F (fun xs H Q => ∃ p ys, xs = [.ref p] ∧ ((SqL X.K H p ys ∧ ∀ l, H l = none → Q (.ref l) (upd H l (.tup ys))) ∨ (SqT X.K H p ys ∧ Q (.ref p) H))) tupR := by
  intro G H ds vs k Q ⟨ob, oi, tr, bg, _⟩ h hd q
  unfold tupR at h
  split at h
  · obtain ⟨v, rfl, a, xs, rfl, n, ha, hl⟩ := dl1 hd
    refine ⟨_, _, rfl, .inl ⟨SqL.of ha, fun l hl' => ?_⟩⟩
    have e : Ext G H (upd H l (.tup xs)) := Ext.new bg hl'
    have ev : Evo G G H (upd H l (.tup xs)) := ⟨fun a o n h => e.lk (fun z => n (by rw [z]; exact ob)) h, tr, fun _ n _ => n, rfl, rfl⟩
    exact q _ _ _ h e ⟨l, xs, rfl, upd_same, ev.dts _ _ hl⟩
  · obtain ⟨v, rfl, a, xs, rfl, ha, hl⟩ := dl1 hd
    exact ⟨_, _, rfl, .inr ⟨.inl (.inl ha), q _ _ _ h (.refl bg) ⟨a, xs, rfl, ha, hl⟩⟩⟩
  · exact h.elim
end
section
variable {X : Cx} {F : Fr} {p pos : Pos} {e : Expr} {ta : TLD}
theorem d_len (hg : Gl X "len") (hm : X.mg "len" = none) (ha : PA X [e] (liftA F ta)) (he : starEach [e] X.env = (false, eval e X.env) :: starEach [] X.env := by rfl) (hK : X.K = F.K := by rfl) :
    PE X (.Call (.Name "len" p) [e] [] pos) (lift F (callT lenR ta)) := d_callB call_len (ok_len hK) hg hm PySem.boot_len ha (by decide) (by decide) he
theorem d_toint (hg : Gl X "int") (hm : X.mg "int" = none) (ha : PA X [e] (liftA F ta)) (he : starEach [e] X.env = (false, eval e X.env) :: starEach [] X.env := by rfl) :
    PE X (.Call (.Name "int" p) [e] [] pos) (lift F (callT intR ta)) := d_callTy call_int1 ok_int hg hm (by decide +kernel) ha (by decide) (by decide) he
theorem d_totup (hg : Gl X "tuple") (hm : X.mg "tuple" = none) (ha : PA X [e] (liftA F ta)) (he : starEach [e] X.env = (false, eval e X.env) :: starEach [] X.env := by rfl) (hK : X.K = F.K := by rfl) :
    PE X (.Call (.Name "tuple" p) [e] [] pos) (lift F (callT tupR ta)) := d_callTy call_tuple_of (ok_tup hK) hg hm (by decide +kernel) ha (by decide) (by decide) he
/-- list(x): a new list -/
noncomputable def lstR (t : TLD) : TLD := fun ρ k => t ρ fun ds => match ds with
  | [.lst xs] => k xs
  | [.tup xs] => k xs
  | _ => False
end
end DL
set_option Elab.async false
set_option linter.all false
set_option maxRecDepth 100000
set_option maxHeartbeats 1000000
namespace DL
open PySem L2
/-! ### changes of what a def owns -/
section
variable {F : Fr} {G G' : Gh} {H H' : Hp} {σ : St} {ρ : List Sl} {L : List Addr}
theorem Rel.own_ne_bg (r : Rel F G H σ ρ) {p : Addr} (n : ¬ F.G.own p) : p ≠ G.bg := fun z => n (by rw [z, r.bg]; exact r.ob)
/-- with the addresses of all slots -/
noncomputable abbrev RelL (F : Fr) (G : Gh) (H : Hp) (σ : St) (ρ : List Sl) (L : List Addr) : Prop := Rel F G H σ ρ ∧ Slots F G H ρ σ L ∧ L.Nodup
theorem Rel.adrs (r : Rel F G H σ ρ) : ∃ L, RelL F G H σ ρ L := let ⟨L, h, n⟩ := r.sl; ⟨L, r, h, n⟩
theorem RelL.step (r : RelL F G H σ ρ L) (e : Ext G H H') : RelL F G H' σ ρ L :=
  ⟨r.1.step e, Slots.map (fun s o M _ => SlR.go rfl rfl (r.1.evo e) s o M fun p _ => Ext.stands r.1.bg r.1.ob e p) r.2.1, r.2.2⟩
theorem RelL.grow (r : RelL F G H σ ρ L) (e : Ext G H H') {p : Addr} (hp : H p = none) (hm : Mut (H' p)) : RelL F (G.add p) H' σ ρ L :=
  ⟨r.1.grow e hp hm, Slots.map (fun s o M _ => SlR.go rfl rfl (r.1.evoAdd e hp) s o M fun p _ h1 h2 h3 => let ⟨z, w⟩ := Ext.stands r.1.bg r.1.ob e p h1 h2 h3; ⟨.inl z, w⟩) r.2.1, r.2.2⟩
theorem RelL.grows (r : RelL F G H σ ρ L) (e : Ext G H H') {R : List Addr} (hp : ∀ p ∈ R, H p = none) (hm : ∀ p ∈ R, Mut (H' p)) : RelL F (G.adds R) H' σ ρ L :=
  ⟨r.1.grows e hp hm, Slots.map (fun s o M _ => SlR.go rfl rfl (r.1.evoAdds e hp) s o M fun p _ h1 h2 h3 => let ⟨z, w⟩ := Ext.stands r.1.bg r.1.ob e p h1 h2 h3; ⟨.inl z, w⟩) r.2.1, r.2.2⟩
theorem RelL.give (r : RelL F G H σ ρ L) {i : Nat} {t : Tr} {v : V} {B : List Addr} (h : Ow F.K G H t v B) (hB : B.Nodup) (hn : ∀ p ∈ B, ¬ F.G.own p) (hf : ∀ p ∈ B, p ∉ L) : Rel F G H (σ.set i (some v)) (ρ.set i (.tr t)) := by
  obtain ⟨r, sl, n⟩ := r
  refine ⟨r.bg, r.bi, r.tb, r.ob, r.oi, r.sub, r.new, r.tr, r.ext, r.pn, ?_⟩
  cases e : ρ[i]? with
  | none =>
    have hi : ρ.length ≤ i := by simpa using e
    rw [List.set_eq_of_length_le hi, List.set_eq_of_length_le (by rw [← sl.len]; exact hi)]
    exact ⟨L, sl, n⟩
  | some s =>
    obtain ⟨u, A, B', C, _, rfl, _, k⟩ := sl.upd e
    obtain ⟨n1, _, _⟩ := nodup_mid n
    exact ⟨_, k F G H (.tr t) (some v) B (fun _ _ _ _ z => z) ⟨hn, v, rfl, h⟩, nodup_in n1 hB fun p hp => ⟨fun z => hf p hp (List.mem_append_left _ z), fun z => hf p hp (List.mem_append_right _ (List.mem_append_right _ z))⟩⟩
theorem RelL.new (r : RelL F G H σ ρ L) {p : Addr} (h : H p = none) : p ∉ L := fun z => (r.2.1.own p z).2.1 h
/-- an owned object, in no slot, is changed -/
theorem RelL.mutate (r : RelL F G H σ ρ L) {p : Addr} {o : HO} (hp : G.own p) (hn : ¬ F.G.own p) (mo : Mut (some o)) (hno : p ∉ L) : RelL F G (upd H p o) σ ρ L := by
  have nb := r.1.own_ne_bg hn
  have ev : Evo G G H (upd H p o) := ⟨fun a u n h => .inl (by rw [upd_ne (fun z => n (by rw [z]; exact hp))]; exact h), r.1.tr, fun _ n _ => n, rfl, rfl⟩
  have sl : Slots F G (upd H p o) ρ σ L := Slots.map (fun s u M k => SlR.go rfl rfl ev s u M fun q hq h1 _ _ => ⟨h1, upd_ne fun z => hno (by rw [← z]; exact k q hq)⟩) r.2.1
  refine ⟨⟨r.1.bg, r.1.bi, r.1.tb, r.1.ob, r.1.oi, r.1.sub, r.1.new, fun a h => ?_, ⟨fun a u n h => ?_, ?_, r.1.ext.old⟩, fun q hq => ev.dt _ _ (r.1.pn q hq), L, sl, r.2.2⟩, sl, r.2.2⟩
  · by_cases e : a = p
    · subst e; rw [upd_same]; exact mo
    · rw [upd_ne e]; exact r.1.tr a h
  · have e : a ≠ p := fun z => by
      subst z
      rw [r.1.new a hp hn] at h; cases h
    exact Kp.to (r.1.ext.keep a u n h) (upd_ne e) fun c oc hc => by rw [upd_ne (Mut.nfr (r.1.tr p hp) hc)]; exact hc
  · obtain ⟨x, y, z, ns, h1, h2, q⟩ := r.1.ext.bag
    exact ⟨x, y, z, ns, by rw [upd_ne (by rw [← r.1.bg]; exact Ne.symm nb)]; exact h1, by rw [upd_ne fun z => hn (by rw [← z]; exact r.1.oi)]; exact h2, q⟩
/-- what a slot owns is changed: p is one of its addresses -/
theorem Rel.chg (r : Rel F G H σ ρ) {i : Nat} {t : Tr} (hi : ρ[i]? = some (.tr t)) : ∃ v B, σ[i]? = some (some v) ∧ Ow F.K G H t v B ∧ B.Nodup ∧ (∀ p ∈ B, ¬ F.G.own p) ∧
    ∀ (p : Addr) (o : HO) (t' : Tr), p ∈ B → Mut (some o) → Ow F.K G (upd H p o) t' v B → Rel F G (upd H p o) σ (ρ.set i (.tr t')) := by
  obtain ⟨L, h, n⟩ := r.sl
  obtain ⟨u, A, B, C, e1, rfl, ⟨hn, v, rfl, hw⟩, k⟩ := h.upd hi
  obtain ⟨_, nB, nd⟩ := nodup_mid n
  refine ⟨v, B, e1, hw, nB, hn, fun p o t' hp mo hw' => ?_⟩
  have op := (Ow.own t v B hw p hp).1
  have ev : Evo G G H (upd H p o) := ⟨fun a u n h => .inl (by rw [upd_ne (fun z => n (by rw [z]; exact op))]; exact h), r.tr, fun _ n _ => n, rfl, rfl⟩
  have rd : RelL F G H (σ.set i (some v)) (ρ.set i .un) (A ++ ([] ++ C)) := by
    have sl := k F G H .un (some v) [] (fun _ _ _ _ z => z) rfl
    have nn : (A ++ ([] ++ C)).Nodup := (nodup_mid n).1
    exact ⟨⟨r.bg, r.bi, r.tb, r.ob, r.oi, r.sub, r.new, r.tr, r.ext, r.pn, _, sl, nn⟩, sl, nn⟩
  have rm := rd.mutate (o := o) op (hn p hp) mo (fun z => by
    rcases List.mem_append.mp z with z | z
    · exact (nd p hp).1 z
    · exact (nd p hp).2 z)
  have sl := k F G (upd H p o) (.tr t') (some v) B (fun s u M kk => SlR.go rfl rfl ev s u M fun q hq h1 _ _ => ⟨h1, upd_ne fun z => by
    rcases kk q hq with w | w
    · exact (nd p hp).1 (z ▸ w)
    · exact (nd p hp).2 (z ▸ w)⟩) ⟨hn, v, rfl, hw'⟩
  have eσ : σ.set i (some v) = σ := by
    apply List.ext_getElem?
    intro j
    by_cases e : i = j
    · subst e; rw [List.getElem?_set_self', e1]; rfl
    · rw [List.getElem?_set_ne e]
  rw [eσ] at sl rm
  exact ⟨rm.1.bg, rm.1.bi, rm.1.tb, rm.1.ob, rm.1.oi, rm.1.sub, rm.1.new, rm.1.tr, rm.1.ext, rm.1.pn, _, sl, n⟩
/-- what a slot owns becomes data -/
theorem Rel.frzA (r : Rel F G H σ ρ) {i : Nat} {t : Tr} (hi : ρ[i]? = some (.tr t)) : ∃ B v, Rel F (G.rems B) H σ (ρ.set i (.dat t.toD)) ∧ Ow F.K G H t v B ∧ ∀ p ∈ B, ¬ F.G.own p := by
  obtain ⟨L, h, n⟩ := r.sl
  obtain ⟨u, A, B, C, e1, rfl, ⟨hn, v, rfl, hw⟩, k⟩ := h.upd hi
  obtain ⟨n1, nB, nd⟩ := nodup_mid n
  have ev : Evo G (G.rems B) H H := Gh.rems_evo r.tr
  have sl := k F (G.rems B) H (.dat t.toD) (some v) [] (fun s u M kk => SlR.go rfl rfl ev s u M fun q hq h1 _ _ => ⟨⟨h1, fun z => by
    rcases kk q hq with w | w
    · exact (nd q z).1 w
    · exact (nd q z).2 w⟩, rfl⟩) ⟨rfl, v, rfl, Ow.dt r.tr t v B (fun _ z => z) hw⟩
  have eσ : σ.set i (some v) = σ := by
    apply List.ext_getElem?
    intro j
    by_cases e : i = j
    · subst e; rw [List.getElem?_set_self', e1]; rfl
    · rw [List.getElem?_set_ne e]
  rw [eσ] at sl
  exact ⟨B, v, ⟨r.bg, r.bi, r.tb, r.ob, r.oi, fun a h => ⟨r.sub a h, fun z => hn a z h⟩, fun a h n => r.new a h.1 n, fun a h => r.tr a h.1, r.ext, fun q hq => ev.dt _ _ (r.pn q hq), _, sl, n1⟩, hw, hn⟩
theorem Rel.frz (r : Rel F G H σ ρ) {i : Nat} {t : Tr} (hi : ρ[i]? = some (.tr t)) : ∃ B, Rel F (G.rems B) H σ (ρ.set i (.dat t.toD)) := let ⟨B, _, h, _⟩ := r.frzA hi; ⟨B, h⟩
end
end DL
set_option Elab.async false
set_option linter.all false
set_option maxRecDepth 100000
set_option maxHeartbeats 1000000
namespace DL
open PySem L2
/-! ### statements -/
structure DE where
  nx : List Sl → Prop
  rt : Tr → Prop
  bk : List Sl → Prop
  ct : List Sl → Prop
  rp : D → List Sl → Prop := fun d _ => rt (.d d)
noncomputable abbrev TSD := DE → List Sl → Prop
structure EndsOk (F : Fr) (k : DE) (E : Ends) : Prop where
  nx : ∀ ρ G σ H, k.nx ρ → Rel F G H σ ρ → E.nx σ H
  rt : ∀ t v R H, k.rt t → Ext F.G F.H H → (∀ p ∈ R, F.H p = none) → R.Nodup → Ow F.K (F.G.adds R) H t v R → E.rt v H
  bk : ∀ ρ G σ H, k.bk ρ → Rel F G H σ ρ → E.bk σ H
  ct : ∀ ρ G σ H, k.ct ρ → Rel F G H σ ρ → E.ct σ H
  rp : ∀ d ρ G σ H v, k.rp d ρ → Rel F G H σ ρ → Dt F.K G H d v → E.rt v H
noncomputable def liftS (F : Fr) (S : TSD) : TS := fun E σ H => ∃ G ρ k, Rel F G H σ ρ ∧ S k ρ ∧ EndsOk F k E
noncomputable def setT (i : Nat) (t : TD) : TSD := fun k ρ => t ρ fun d => k.nx (ρ.set i (.dat d))
noncomputable def seqT (s u : TSD) : TSD := fun k ρ => s { k with nx := u k } ρ
noncomputable def nextT : TSD := fun k ρ => k.nx ρ
noncomputable def retT (t : TD) : TSD := fun k ρ => t ρ fun d => k.rt (.d d)
noncomputable def retN : TSD := fun k _ => k.rt (.d .non)
theorem Gh.adds_nil (G : Gh) : G.adds [] = G := by
  unfold Gh.adds
  cases G
  simp
theorem EndsOk.dat {F : Fr} {k : DE} {E : Ends} (o : EndsOk F k E) {d : D} {v : V} {H : Hp} (h : k.rt (.d d)) (x : Ext F.G F.H H) (hd : Dt F.K F.G H d v) : E.rt v H :=
  o.rt (.d d) v [] H h x (fun _ z => nomatch z) List.nodup_nil (by rw [Gh.adds_nil]; exact ⟨rfl, hd⟩)
noncomputable def iffT (t : TBD) (s u : TSD) : TSD := fun k ρ => t ρ fun b => if b = true then s k ρ else u k ρ
noncomputable def dropT (t : TD) : TSD := fun k ρ => t ρ fun _ => k.nx ρ
section
variable {X : Cx} {F : Fr} {st : Stmt} {rest : List Stmt} {s u : TSD} {e : Expr} {te : TD} {pos : Pos}
theorem s_nil : PSs X [] (liftS F nextT) := pss_imp pss_nil fun E σ H ⟨G, ρ, k, r, h, o⟩ => o.nx ρ G σ H h r
theorem s_cons (h1 : PS X st (liftS F s)) (h2 : PSs X rest (liftS F u)) : PSs X (st :: rest) (liftS F (seqT s u)) :=
  pss_imp (pss_cons h1 h2) fun E σ H ⟨G, ρ, k, r, h, o⟩ => ⟨G, ρ, _, r, h, ⟨fun ρ' G' σ' H' h' r' => ⟨G', ρ', k, r', h', o⟩, o.rt, o.bk, o.ct, o.rp⟩⟩
theorem s_one (h1 : PS X st (liftS F s)) : PSs X [st] (liftS F s) := pss_one h1
theorem s_set {i : Nat} {x : Str} {pos' : Pos} (hN : X.N.Nodup) (hi : X.N[i]? = some x) (hx : Loc X.env.scope x) (he : PE X e (lift F te)) (hs : swapsWith e (some (.Name x pos')) pos.line X.env = pure false := by rfl)
    (hf : X.fn x = true ∨ X.env.scope.names.lookup x = some .local := by first | exact .inl rfl | exact .inr rfl | assumption) : PS X (.Assign [.Name x pos'] e pos) (liftS F (setT i te)) :=
  ps_imp (ps_set hN hi hx he hs hf) fun E σ H ⟨G, ρ, k, r, h, o⟩ => ⟨G, ρ, _, r, h, fun d v H1 h1 e1 d1 => o.nx _ G _ H1 h1 ((r.step e1).put d1)⟩
theorem s_ret (he : PE X e (lift F te)) : PS X (.Return (some e) pos) (liftS F (retT te)) :=
  ps_imp (ps_ret he) fun E σ H ⟨G, ρ, k, r, h, o⟩ => ⟨G, ρ, _, r, h, fun d v H1 h1 e1 d1 => o.dat h1 (r.step e1).ext ((r.step e1).less.dt d v d1)⟩
theorem s_if {c : Expr} {a b : List Stmt} {tc : TBD} (hc : PT X c (liftT F tc)) (ha : PSs X a (liftS F s)) (hb : PSs X b (liftS F u)) : PS X (.If c a b pos) (liftS F (iffT tc s u)) :=
  ps_imp (ps_if hc ha hb) fun E σ H ⟨G, ρ, k, r, h, o⟩ => ⟨G, ρ, _, r, h, fun d H1 h1 e1 => by
    cases d with
    | true => exact iteT ⟨G, ρ, k, r.step e1, of_tt h1, o⟩
    | false => exact iteF ⟨G, ρ, k, r.step e1, of_ff h1, o⟩⟩
noncomputable def breakT : TSD := fun k ρ => k.bk ρ
noncomputable def contT : TSD := fun k ρ => k.ct ρ
/-- a, b = e1, e2 -/
noncomputable def parT (i j : Nat) (ta : TLD) : TSD := fun k ρ => ta ρ fun ds => match ds with
  | [d, d'] => k.nx ((ρ.set i (.dat d)).set j (.dat d'))
  | _ => False
theorem s_par {i j : Nat} {x y : Str} {a b : Expr} {ta : TLD} {px py pt : Pos} {kt k2 : Nat} {pt2 : Pos} (hc : X.calm = true) (hw : swappedStores [.Tuple [.Name x px, .Name y py] kt pt] (.Tuple [a, b] k2 pt2) X.env = pure (some [x, y])) (hN : X.N.Nodup)
    (hi : X.N[i]? = some x) (hj : X.N[j]? = some y) (hij : i ≠ j) (hx : X.env.scope.names.lookup x = some .local) (hy : X.env.scope.names.lookup y = some .local) (ha : PA X [a, b] (liftA F ta))
    (hs : swapsWithSole [.Tuple [.Name x px, .Name y py] kt pt] (.Tuple [a, b] k2 pt2) pos.line X.env = pure false := by rfl) : PS X (.Assign [.Tuple [.Name x px, .Name y py] kt pt] (.Tuple [a, b] k2 pt2) pos) (liftS F (parT i j ta)) := by
  refine ps_imp (ps_par hc hN hi hj hij hx hy ha hw hs) fun E σ H ⟨G, ρ, k, r, h, o⟩ => ⟨G, ρ, _, r, h, fun ds vs H1 h1 e1 d1 => ?_⟩
  split at h1
  · obtain ⟨v, w, rfl, d2, d3⟩ := dl2 d1
    exact ⟨v, w, rfl, o.nx _ G _ H1 h1 (((r.step e1).put d2).put d3)⟩
  · exact h1.elim
end
/-! ### targets -/
inductive Tg where
  | nm (i : Nat)
  | tp (is : List Nat)
noncomputable def gNames : List Nat → TGs
  | [] => gNil
  | i :: is => gCons (gName i) (gNames is)
noncomputable def gOf (K : PySem.W.Frag) : Tg → TG
  | .nm i => gName i
  | .tp is => gTup K is.length (gNames is)
noncomputable def putA : List Nat → List D → List Sl → List Sl
  | i :: is, d :: ds, ρ => putA is ds (ρ.set i (.dat d))
  | _, _, ρ => ρ
noncomputable def tgD : Tg → D → List Sl → (List Sl → Prop) → Prop
  | .nm i, d, ρ, k => k (ρ.set i (.dat d))
  | .tp is, .tup ds, ρ, k => ds.length = is.length ∧ k (putA is ds ρ)
  | _, _, _, _ => False
noncomputable def setA : List Nat → List V → St → St
  | i :: is, v :: vs, σ => setA is vs (σ.set i (some v))
  | _, _, σ => σ
section
variable {F : Fr} {G : Gh} {H : Hp}
theorem Rel.putA : ∀ {is : List Nat} {ds : List D} {vs : List V} {σ : St} {ρ : List Sl}, Rel F G H σ ρ → DtL F.K G H ds vs → Rel F G H (setA is vs σ) (DL.putA is ds ρ)
  | [], ds, vs, σ, ρ, r, h => by
    cases ds <;> cases vs <;> exact r
  | i :: is, [], vs, σ, ρ, r, h => by
    obtain rfl : vs = [] := h
    exact r
  | i :: is, d :: ds, vs, σ, ρ, r, h => by
    obtain ⟨x, w, rfl, h1, h2⟩ := h
    exact Rel.putA (is := is) (ds := ds) (vs := w) (σ := σ.set i (some x)) (ρ := ρ.set i (.dat d)) (r.put h1) h2
theorem gNames_ok : ∀ {is : List Nat} {vs : List V} {σ : St} {Q : St → Hp → Prop}, vs.length = is.length → Q (setA is vs σ) H → gNames is vs σ H Q
  | [], [], σ, Q, _, q => ⟨rfl, q⟩
  | [], v :: vs, σ, Q, e, q => by cases e
  | i :: is, [], σ, Q, e, q => by cases e
  | i :: is, v :: vs, σ, Q, e, q => ⟨v, vs, rfl, gNames_ok (is := is) (by simpa using e) q⟩
/-- the values that a target stores -/
noncomputable def tgS : Tg → V → List V → St → St
  | .nm i, v, _, σ => σ.set i (some v)
  | .tp is, _, vs, σ => setA is vs σ
theorem gOf_ok {K : PySem.W.Frag} {σ : St} {ρ : List Sl} {t : Tg} {d : D} {v : V} {k : List Sl → Prop} {Q : St → Hp → Prop} (hK : K = F.K) (r : Rel F G H σ ρ) (hd : Dt F.K G H d v) (h : tgD t d ρ k)
    (q : ∀ ρ' vs, k ρ' → Rel F G H (tgS t v vs σ) ρ' → Q (tgS t v vs σ) H) : gOf K t v σ H Q := by
  cases t with
  | nm i => exact q _ [] h (r.put hd)
  | tp is =>
    cases d <;> try exact (show False from h).elim
    obtain ⟨hl, h⟩ := h
    obtain ⟨a, xs, rfl, ha, hx⟩ := hd
    refine ⟨a, xs, rfl, .inl (.inl ha), by rw [← hx.len]; exact hl, gNames_ok (by rw [← hx.len]; exact hl) ?_⟩
    exact q _ xs h (r.putA hx)
end
/-! ### what is walked -/
noncomputable def Walk (K : PySem.W.Frag) (pn : List (V × D)) (J : It) (ds : List D) : Prop := ∀ (i : Nat) (G : Gh) (H : Hp), GOk G H → (∀ q ∈ pn, Dt K G H q.2 q.1) →
  (i < ds.length → J.go i H ∧ ∀ x H', J.yld i H x H' → (∀ a o, H a = some o → H' a = some o) ∧ ∃ d, ds[i]? = some d ∧ Dt K G H' d x) ∧ (ds.length ≤ i → J.stop i H)
noncomputable def liftI (F : Fr) (I : TLD) : TI := fun σ H R => ∃ G ρ k, Rel F G H σ ρ ∧ I ρ k ∧ ∀ ds J H1 pn, k ds → Ext G H H1 → Walk F.K pn J ds → (∀ q ∈ pn, Dt F.K G H1 q.2 q.1) → R J H1
theorem pi_imp {X : Cx} {tg it : Expr} {t t' : TI} (h : PI X tg it t) (i : ∀ σ H R, t' σ H R → t σ H R) : PI X tg it t' := ⟨fun pins s σ H R I w => h.run pins s σ H R I (i _ _ _ w)⟩
noncomputable def loopT (t : Tg) (S : TSD) (k : DE) : List D → List Sl → Prop
  | [], ρ => k.nx ρ
  | d :: ds, ρ => tgD t d ρ fun ρ1 => S { nx := loopT t S k ds, rt := k.rt, bk := k.nx, ct := loopT t S k ds, rp := k.rp } ρ1
noncomputable def forT (t : Tg) (I : TLD) (S : TSD) : TSD := fun k ρ => I ρ fun ds => loopT t S k ds ρ
section
variable {X : Cx} {F : Fr} {tg iter : Expr} {body : List Stmt} {t : Tg} {I : TLD} {S : TSD} {pos : Pos}
theorem s_for (hp : PassesOwn (model X.prog X.w) X.A X.env X.xe) (hc : X.calm = true) (hi : PI X tg iter (liftI F I)) (hg : PG X tg (gOf X.K t)) (hb : ∀ pn, PSs X body (liftS (F.pin pn) S)) (hK : X.K = F.K := by rfl)
    (hs : ∀ x, foldedSetIterable iter X.env x = pure x := by intro _; rfl) : PS X (.For tg iter body [] pos) (liftS F (forT t I S)) := by
  have hb' : PSs X body (fun E σ H => ∃ pn, liftS (F.pin pn) S E σ H) := ⟨fun pins s σ H E I ⟨pn, w⟩ => (hb pn).run pins s σ H E I w⟩
  refine ps_imp (ps_for hp hc hi hg hb' hs) fun E σ H ⟨G, ρ, k, r, h, o⟩ => ⟨G, ρ, _, r, h, fun ds J H1 pn h1 e1 wk hpn => ?_⟩
  refine ⟨fun i m σ' H' => m = ds.length - i ∧ i ≤ ds.length ∧ ∃ G' ρ', Rel (F.pin pn) G' H' σ' ρ' ∧ loopT t S k (ds.drop i) ρ', ⟨_, rfl, Nat.zero_le _, G, ρ, (r.step e1).pinned hpn, h1⟩, ?_⟩
  rintro i m σ' H' ⟨rfl, hi, G', ρ', r', h'⟩
  have w := wk i G' H' r'.ok fun q hq => r'.pn q (List.mem_append_left _ hq)
  by_cases hlt : i < ds.length
  · obtain ⟨go, yl⟩ := w.1 hlt
    refine .inr ⟨go, fun σ2 H2 => i + 1 ≤ ds.length ∧ ∃ G' ρ', Rel (F.pin pn) G' H2 σ2 ρ' ∧ loopT t S k (ds.drop (i + 1)) ρ', fun σ2 H2 ⟨hl, q⟩ => ⟨_, by omega, rfl, hl, q⟩, fun x H2 y => ?_⟩
    obtain ⟨kp, d, hd, hx⟩ := yl x H2 y
    rw [List.drop_eq_getElem_cons hlt] at h'
    have ed : ds[i] = d := by rw [List.getElem?_eq_getElem hlt] at hd; exact Option.some.inj hd
    rw [ed] at h'
    have r2 := r'.step (Ext.all r'.bag kp)
    refine gOf_ok (F := F.pin pn) hK r2 hx h' fun ρ1 vs h1 r1 => ?_
    refine ⟨pn, G', ρ1, _, r1, h1, fun ρ2 G2 σ2 H2 h2 r2 => ⟨hlt, G2, ρ2, r2, h2⟩, fun t v R H3 q1 q2 q3 q4 q5 => o.rt t v R H3 q1 q2 q3 q4 q5, fun ρ2 G2 σ2 H2 h2 r2 => o.nx ρ2 G2 σ2 H2 h2 r2.unpin, fun ρ2 G2 σ2 H2 h2 r2 => ⟨hlt, G2, ρ2, r2, h2⟩, fun d ρ2 G2 σ2 H2 v h2 r2 hd => o.rp d ρ2 G2 σ2 H2 v h2 r2.unpin hd⟩
  · have e : i = ds.length := by omega
    subst e
    rw [List.drop_length] at h'
    exact .inl ⟨w.2 (Nat.le_refl _), o.nx _ _ _ _ h' r'.unpin⟩
end
end DL
set_option Elab.async false
set_option linter.all false
set_option maxRecDepth 100000
set_option maxHeartbeats 1000000
namespace DL
open PySem PySem.Spec L2
/-! ### walks over lists, tuples, ranges, texts -/
section
variable {K : PySem.W.Frag}
theorem walk_list {a : Addr} {ds : List D} : Walk K [(.ref a, .lst ds)] (Itl K a) ds := by
  intro i G H ok hp
  obtain ⟨b, xs, e, n, ha, hl⟩ := hp (.ref a, .lst ds) (List.mem_singleton.mpr rfl)
  cases e
  refine ⟨fun hi => ⟨⟨xs, xs[i]'(by rw [← hl.len]; exact hi), SqL.of ha, List.getElem?_eq_getElem _⟩, fun x H' y => ?_⟩, fun hi => ⟨xs, SqL.of ha, by rw [← hl.len]; exact hi⟩⟩
  obtain ⟨e, y⟩ := y
  subst e
  exact ⟨fun _ _ h => h, hl.get' (y xs (SqL.of ha))⟩
theorem walk_tup {a : Addr} {ds : List D} : Walk K [(.ref a, .tup ds)] (Itt K a) ds := by
  intro i G H ok hp
  obtain ⟨b, xs, e, ha, hl⟩ := hp (.ref a, .tup ds) (List.mem_singleton.mpr rfl)
  cases e
  refine ⟨fun hi => ⟨⟨xs, xs[i]'(by rw [← hl.len]; exact hi), .inl (.inl ha), List.getElem?_eq_getElem _⟩, fun x H' y => ?_⟩, fun hi => ⟨xs, .inl (.inl ha), by rw [← hl.len]; exact hi⟩⟩
  obtain ⟨e, y⟩ := y
  subst e
  exact ⟨fun _ _ h => h, hl.get' (y xs (.inl (.inl ha)))⟩
theorem walk_rng {lo : Int} {n : Nat} : Walk K [] (Itr lo n) ((List.range n).map fun (i : Nat) => D.int (lo + (i : Int))) := by
  intro i G H ok hp
  rw [List.length_map, List.length_range]
  refine ⟨fun hi => ⟨hi, fun x H' ⟨e, y⟩ => ?_⟩, fun hi => hi⟩
  subst e y
  exact ⟨fun _ _ h => h, .int (lo + (i : Int)), by rw [List.getElem?_map, List.getElem?_range hi]; rfl, rfl⟩
theorem walk_str {x : Str} : Walk K [] (Its x) (x.cps.toList.map fun c => .str ⟨#[c]⟩) := by
  intro i G H ok hp
  rw [List.length_map, Array.length_toList]
  refine ⟨fun hi => ⟨hi, fun v H' ⟨e, c, hc, y⟩ => ?_⟩, fun hi => hi⟩
  subst e y
  exact ⟨fun _ _ h => h, .str ⟨#[c]⟩, by rw [List.getElem?_map, Array.getElem?_toList, hc]; rfl, rfl⟩
end
noncomputable def seqI (t : TD) : TLD := fun ρ k => t ρ fun d => match d with
  | .lst ds => k ds
  | .tup ds => k ds
  | .str x => k (x.cps.toList.map fun c => .str ⟨#[c]⟩)
  | _ => False
section
variable {X : Cx} {F : Fr} {tg : Expr} {l : Expr} {tl : TD}
/-- a list, a tuple, a text, whichever it is -/
noncomputable def iAny (K : PySem.W.Frag) (tl : TE) : TI := fun σ H R => tl σ H fun x H1 => (∃ a, x = .ref a ∧ (∃ xs, SqL K H1 a xs) ∧ R (Itl K a) H1) ∨ (∃ a, x = .ref a ∧ (∃ xs, SqT K H1 a xs) ∧ R (Itt K a) H1) ∨ ∃ z, x = .str z ∧ R (Its z) H1
theorem pi_any {tl : TE} (hl : PE X l tl) : PI X tg l (iAny X.K tl) := by
  constructor
  intro pins s σ H R I h
  -- each kind by its own rule: the value is told by the expression's run
  have one : ∀ (v : Value) (s1 : Shared) (x : V) (H1 : Hp), Inv X pins σ H1 s1 → RelV x v → ((∃ a, x = .ref a ∧ (∃ xs, SqL X.K H1 a xs) ∧ R (Itl X.K a) H1) ∨ (∃ a, x = .ref a ∧ (∃ xs, SqT X.K H1 a xs) ∧ R (Itt X.K a) H1) ∨ ∃ z, x = .str z ∧ R (Its z) H1) →
      wpAny (model X.prog X.w) X.A (pyIter v) (PIE X pins σ tg R) X.xe s1 := by
    intro v s1 x H1 I1 rv q
    have fresh : ∀ b, b ∈ [s1.heap.objs.size] → FpOk X pins H1 b := fun b hb => by
      obtain rfl : b = s1.heap.objs.size := List.mem_singleton.mp hb
      exact I1.fpOk (Nat.le_refl _) (I1.hok.fresh (Nat.le_refl _))
    rcases q with ⟨a, rfl, ⟨xs, hq⟩, q⟩ | ⟨a, rfl, ⟨xs, hq⟩, q⟩ | ⟨z, rfl, q⟩
    · cases rv
      obtain ⟨its, _, pl, _⟩ := I1.list hq
      exact wpAny_pyIter_list pl.isList ⟨_, [s1.heap.objs.size], _, _, H1, rfl, I1.kept (t' := s1.toks) fun b o e => Heap.get?_push_of_some _ e, turn_list a _, ⟨_, Heap.get?_push_size _ rfl, rfl, rfl⟩, fresh, q⟩
    · cases rv
      obtain ⟨its, _, pl, _⟩ := I1.tuple hq
      exact wpAny_pyIter_tuple (show s1.heap.IsTuple a its.toArray from pl) ⟨_, [s1.heap.objs.size], _, _, H1, rfl, I1.kept (t' := s1.toks) fun b o e => Heap.get?_push_of_some _ e, turn_tuple a _, ⟨_, Heap.get?_push_size _ rfl, rfl, rfl⟩, fresh, q⟩
    · obtain ⟨t, rfl⟩ := rv
      cases hz : z.cps.all (· < 128) with
      | false => exact wpAny_pyIter_wide hz (pi_one (tk := s1.toks) I1 _ (turn_str _ z t "str_iterator" (Or.inr rfl)) ⟨_, Heap.get?_push_size _ rfl, rfl, rfl⟩ q)
      | true => exact wpAny_pyIter_ascii hz (pi_one (tk := s1.toks) I1 _ (turn_str _ z t "str_ascii_iterator" (Or.inl rfl)) ⟨_, Heap.get?_push_size _ rfl, rfl, rfl⟩ q)
  exact thn (hl.run pins s σ H _ I h) fun v s1 ⟨x, H1, I1, r1, q1⟩ => one v s1 x H1 I1 r1 q1
end
section
variable {X : Cx} {F : Fr} {tg : Expr} {l : Expr} {tl : TD}
theorem i_seq (hl : PE X l (lift F tl)) (hK : X.K = F.K := by rfl) : PI X tg l (liftI F (seqI tl)) := by
  refine pi_imp (pi_any hl) fun σ H R ⟨G, ρ, k, r, h, q⟩ => ⟨G, ρ, _, r, h, fun d v H1 h1 e1 d1 => ?_⟩
  rw [hK]
  cases d <;> try exact (show False from h1).elim
  · obtain rfl := d1
    exact .inr (.inr ⟨_, rfl, q _ _ H1 [] h1 e1 walk_str fun _ z => nomatch z⟩)
  · obtain ⟨a, xs, rfl, n, ha, hl⟩ := id d1
    exact .inl ⟨a, rfl, ⟨xs, SqL.of ha⟩, q _ _ H1 _ h1 e1 walk_list fun z hz => by obtain rfl := List.mem_singleton.mp hz; exact d1⟩
  · obtain ⟨a, xs, rfl, ha, hl⟩ := id d1
    exact .inr (.inl ⟨a, rfl, ⟨xs, .inl (.inl ha)⟩, q _ _ H1 _ h1 e1 walk_tup fun z hz => by obtain rfl := List.mem_singleton.mp hz; exact d1⟩)
noncomputable def rng1I (t : TLD) : TLD := fun ρ k => t ρ fun ds => match ds with
  | [.int j] => (-(2 ^ 62) ≤ j ∧ j < 2 ^ 62) ∧ k ((List.range j.toNat).map fun (i : Nat) => D.int (i : Int))
  | _ => False
theorem i_rng1 {a : Expr} {ta : TLD} {p pos : Pos} (hg : Gl X "range") (hm : X.mg "range" = none) (ha : PA X [a] (liftA F ta)) (hs : starEach [a] X.env = [(false, eval a X.env)] := by rfl) (hK : X.K = F.K := by rfl) : PI X tg (.Call (.Name "range" p) [a] [] pos) (liftI F (rng1I ta)) := by
  refine pi_imp (pi_range1 hg hm ha hs) fun σ H R ⟨G, ρ, k, r, h, q⟩ => ⟨G, ρ, _, r, h, fun ds vs H1 h1 e1 d1 => ?_⟩
  split at h1
  · obtain ⟨v, rfl, hv⟩ := dl1 d1
    obtain rfl := hv
    refine ⟨_, rfl, h1.1.1, h1.1.2, q _ _ H1 [] h1.2 e1 ?_ fun _ z => nomatch z⟩
    have w := walk_rng (K := F.K) (lo := 0) (n := Int.toNat ‹Int›)
    have e : (fun (i : Nat) => D.int (0 + (i : Int))) = fun (i : Nat) => D.int (i : Int) := by funext i; rw [Int.zero_add]
    rw [e] at w
    exact w
  · exact h1.elim
end
end DL
set_option Elab.async false
set_option linter.all false
set_option maxRecDepth 100000
set_option maxHeartbeats 1000000
namespace DL
open PySem L2
/-! ### comprehensions -/
noncomputable def wipeS (ρ : List Sl) : List Nat → List Sl
  | [] => ρ
  | v :: vs => (wipeS ρ vs).set v .un
theorem wipe_get (σ : St) (j : Nat) : ∀ vs : List Nat, (wipe σ vs)[j]? = if j ∈ vs then (σ[j]?).map (fun _ => none) else σ[j]?
  | [] => by simp [wipe]
  | v :: vs => by
    unfold wipe
    by_cases e : v = j
    · subst e
      rw [List.getElem?_set_self', wipe_get σ v vs, if_pos List.mem_cons_self]
      split <;> cases σ[v]? <;> rfl
    · rw [List.getElem?_set_ne e, wipe_get σ j vs]
      simp only [List.mem_cons, Ne.symm e, false_or]
theorem wipe_wipe (σ : St) (vs : List Nat) : wipe (wipe σ vs) vs = wipe σ vs := by
  apply List.ext_getElem?
  intro j
  rw [wipe_get, wipe_get]
  split
  · cases σ[j]? <;> rfl
  · rfl
theorem wipe_set (σ : St) {vs : List Nat} {i : Nat} (o : Option V) (h : i ∈ vs) : wipe (σ.set i o) vs = wipe σ vs := by
  apply List.ext_getElem?
  intro j
  rw [wipe_get, wipe_get]
  by_cases e : i = j
  · subst e
    rw [if_pos h, if_pos h, List.getElem?_set_self']
    cases σ[i]? <;> rfl
  · rw [List.getElem?_set_ne e]
theorem wipe_setA {vs : List Nat} : ∀ (is : List Nat) (us : List V) (σ : St), (∀ i ∈ is, i ∈ vs) → wipe (setA is us σ) vs = wipe σ vs
  | [], us, σ, h => by cases us <;> rfl
  | i :: is, [], σ, h => rfl
  | i :: is, u :: us, σ, h => by
    show wipe (setA is us (σ.set i (some u))) vs = _
    rw [wipe_setA is us _ fun j hj => h j (List.mem_cons_of_mem _ hj), wipe_set _ _ (h i List.mem_cons_self)]
noncomputable def Tg.ix : Tg → List Nat
  | .nm i => [i]
  | .tp is => is
theorem wipe_tgS {vs : List Nat} (t : Tg) (v : V) (us : List V) (σ : St) (h : ∀ i ∈ t.ix, i ∈ vs) : wipe (tgS t v us σ) vs = wipe σ vs := by
  cases t with
  | nm i => exact wipe_set _ _ (h i (List.mem_singleton.mpr rfl))
  | tp is => exact wipe_setA is us σ h
theorem Rel.wipe {F : Fr} {G : Gh} {H : Hp} {σ : St} {ρ : List Sl} (r : Rel F G H σ ρ) : ∀ vs, Rel F G H (L2.wipe σ vs) (wipeS ρ vs)
  | [] => r
  | v :: vs => (Rel.wipe r vs).drop v none
noncomputable def compT (t : Tg) (tt : TBD) (te : TD) (ρ : List Sl) : List D → List D → (List D → Prop) → Prop
  | [], acc, k => k acc
  | d :: ds, acc, k => tgD t d ρ fun ρ1 => tt ρ1 fun b => if b = true then te ρ1 fun e => compT t tt te ρ ds (acc ++ [e]) k else compT t tt te ρ ds acc k
noncomputable def lcF (t : Tg) (I : TLD) (tt : TBD) (te : TD) (vs : List Nat) : TLD := fun ρ k => I ρ fun ds => ds.length ≤ sizeLine ∧ compT t tt te (wipeS ρ vs) ds [] k
noncomputable def yesT : TBD := fun _ k => k true
section
variable {X : Cx} {F : Fr} {t : Tg} {I : TLD} {tt : TBD} {te : TD}
theorem ts_nil : PTs X [] (liftT F yesT) := ⟨fun pins s σ H Q I ⟨G, ρ, k, r, h, q⟩ => pts_nil.run pins s σ H Q I (q true H h (.refl r.bag))⟩
theorem lcT {K : PySem.W.Frag} (vs : List Nat) (ht : ∀ i ∈ t.ix, i ∈ vs) (hK : K = F.K) (tb : TT) (tv : TE) (h1 : ∀ pn σ H Q, liftT (F.pin pn) tt σ H Q → tb σ H Q) (h2 : ∀ pn σ H Q, lift (F.pin pn) te σ H Q → tv σ H Q) :
    ∀ σ H Q, liftF F (lcF t I tt te vs) σ H Q → tLc (liftI F I) (gOf K t) tb tv vs σ H Q := by
  intro σ H Q ⟨G, ρ, k, r, h, q⟩
  refine ⟨G, ρ, _, r, h, fun ds J H1 pn ⟨hz, hk⟩ e1 wk hpn L hL => ?_⟩
  have r1 := r.step e1
  have e2 : Ext G H1 (upd H1 L (.lst [])) := Ext.new r1.bag hL
  obtain ⟨L0, s0⟩ := ((r1.pinned hpn).wipe vs).adrs
  have hno : L ∉ L0 := s0.new hL
  have r2 : RelL (F.pin pn) (G.add L) (upd H1 L (.lst [])) (L2.wipe σ vs) (wipeS ρ vs) L0 := s0.grow e2 hL (by rw [upd_same]; exact True.intro)
  have hnL : ¬ F.G.own L := fun z => r1.free hL (r1.sub L z)
  refine ⟨fun i m H' => m = ds.length - i ∧ i ≤ ds.length ∧ ∃ acc xs, H' L = some (.lst xs) ∧ DtL F.K (G.add L) H' acc xs ∧ acc.length ≤ i ∧ RelL (F.pin pn) (G.add L) H' (L2.wipe σ vs) (wipeS ρ vs) L0 ∧ Ext G H1 H' ∧
      compT t tt te (wipeS ρ vs) (ds.drop i) acc k, ⟨_, rfl, Nat.zero_le _, [], [], upd_same, rfl, Nat.le_refl _, r2, e2, hk⟩, ?_⟩
  rintro i m H' ⟨rfl, hi, acc, xs, hx, hd, hl, r', e', h'⟩
  have w := wk i (G.add L) H' r'.1.ok fun q hq => r'.1.pn q (List.mem_append_left _ hq)
  by_cases hlt : i < ds.length
  · obtain ⟨go, yl⟩ := w.1 hlt
    refine .inr ⟨go, fun H2 => i + 1 ≤ ds.length ∧ ∃ acc xs, H2 L = some (.lst xs) ∧ DtL F.K (G.add L) H2 acc xs ∧ acc.length ≤ i + 1 ∧ RelL (F.pin pn) (G.add L) H2 (L2.wipe σ vs) (wipeS ρ vs) L0 ∧ Ext G H1 H2 ∧
      compT t tt te (wipeS ρ vs) (ds.drop (i + 1)) acc k, fun H2 ⟨hl, q⟩ => ⟨_, by omega, rfl, hl, q⟩, fun x H2 y => ?_⟩
    obtain ⟨kp, d, hdi, hxd⟩ := yl x H2 y
    rw [List.drop_eq_getElem_cons hlt] at h'
    have ed : ds[i] = d := by rw [List.getElem?_eq_getElem hlt] at hdi; exact Option.some.inj hdi
    rw [ed] at h'
    have x2 : Ext (G.add L) H' H2 := Ext.all r'.1.bag kp
    have r3 := r'.step x2
    refine gOf_ok (F := F.pin pn) hK r3.1 hxd h' fun ρ1 us hk1 r4 => ⟨by rw [wipe_tgS t x us _ ht, wipe_wipe], ?_⟩
    refine h1 pn _ _ _ ⟨G.add L, ρ1, _, r4, hk1, fun b H3 hb x3 => ?_⟩
    have nbL : L ≠ G.bg := r1.own_ne_bg hnL
    have up : ∀ {H5 : Hp}, Ext (G.add L) H2 H5 → H5 L = some (.lst xs) ∧ DtL F.K (G.add L) H5 acc xs ∧ RelL (F.pin pn) (G.add L) H5 (L2.wipe σ vs) (wipeS ρ vs) L0 ∧ Ext G H1 H5 := fun {H5} z => by
      have z2 := x2.trans z
      exact ⟨z2.mine nbL hx (.inr rfl), (r'.1.evo z2).dts _ _ hd, r'.step z2, e'.trans (Ext.cg (G := G.add L) (G' := G) rfl rfl (fun _ h => .inl h) z2)⟩
    cases b with
    | true =>
      refine iteT (h2 pn _ _ _ ⟨G.add L, ρ1, _, r4.step x3, of_tt hb, fun d v H4 hd4 x4 dv => ?_⟩)
      obtain ⟨u1, u2, u3, u4⟩ := up (x3.trans x4)
      have lx : xs.length < sizeLine := by rw [← hd.len]; omega
      refine ⟨xs, u1, lx, hlt, acc ++ [d], xs ++ [v], upd_same, ?_, by simp; omega, u3.mutate (o := .lst (xs ++ [v])) (.inr rfl) hnL True.intro hno, u4.put hL (by rw [u1]; exact True.intro), hd4⟩
      · have ev : Evo (G.add L) (G.add L) H4 (upd H4 L (.lst (xs ++ [v]))) := ⟨fun a o n z => .inl (by rw [upd_ne fun w => n (.inr w)]; exact z), u3.1.tr, fun _ n _ => n, rfl, rfl⟩
        exact (ev.dts _ _ u2).app ⟨v, [], rfl, ev.dt _ _ dv, rfl⟩
    | false =>
      obtain ⟨u1, u2, u3, u4⟩ := up x3
      exact iteF ⟨hlt, acc, xs, u1, u2, by omega, u3, u4, of_ff hb⟩
  · have e : i = ds.length := by omega
    subst e
    rw [List.drop_length] at h'
    exact .inl ⟨w.2 (Nat.le_refl _), q acc L xs H' h' (e1.trans e') (e1.free r.bag hL) hx hd⟩
end
section
variable {X : Cx} {F : Fr} {elt tg iter : Expr} {ifs : List Expr} {scope : Scope} {own : List (Str × Nat)} {pos : Pos} {t : Tg} {I : TLD} {tt : TBD} {te : TD}
/-- [elt for tg in iter if ..], a new list -/
theorem f_lc (t : Tg) (hc : X.calm = true) (hN : X.N.Nodup) (hi : PI X tg iter (liftI F I)) (ok : BlkOk X.N X.env.scope scope own)
    (hg : ∀ (s : Shared) (H : Hp) (C : Addr) (cl : List (Str × Addr)) (fp : List Addr), PG (X.blk s H scope (compEnvC scope cl C X.env) fp) tg (gOf X.K t))
    (hs : ∀ (s : Shared) (H : Hp) (C : Addr) (cl : List (Str × Addr)) (fp : List Addr) (pn : List (V × D)), PTs (X.blk s H scope (compEnvC scope cl C X.env) fp) ifs (liftT (F.pin pn) tt))
    (he : ∀ (s : Shared) (H : Hp) (C : Addr) (cl : List (Str × Addr)) (fp : List Addr) (pn : List (V × D)), PE (X.blk s H scope (compEnvC scope cl C X.env) fp) elt (lift (F.pin pn) te))
    (hx : ∀ i ∈ t.ix, i ∈ own.map (·.2) := by decide) (hf : ∀ x, foldedSetIterable iter X.env x = pure x := by intro _; rfl) (hK : X.K = F.K := by rfl) :
    PE X (.ListComp elt [⟨tg, iter, ifs, 0⟩] scope pos) (liftF F (lcF t I tt te (own.map (·.2)))) :=
  pe_imp (pe_lc (tt := fun σ H Q => ∃ pn, liftT (F.pin pn) tt σ H Q) (te := fun σ H Q => ∃ pn, lift (F.pin pn) te σ H Q) hc hN hi ok hg
    (fun s H C cl fp => ⟨fun pins s1 σ H1 Q I ⟨pn, w⟩ => (hs s H C cl fp pn).run pins s1 σ H1 Q I w⟩) (fun s H C cl fp => ⟨fun pins s1 σ H1 Q I ⟨pn, w⟩ => (he s H C cl fp pn).run pins s1 σ H1 Q I w⟩) hf)
    (lcT _ hx hK _ _ (fun pn _ _ _ w => ⟨pn, w⟩) fun pn _ _ _ w => ⟨pn, w⟩)
/-- y = [..], y a local -/
theorem s_setLc {i : Nat} {y : Str} {py spos : Pos} (t : Tg) (hc : X.calm = true) (hN : X.N.Nodup) (hy : X.N[i]? = some y) (hyl : X.env.scope.names.lookup y = some .local)
    (hsw : swapsWith (.ListComp elt [⟨tg, iter, ifs, 0⟩] scope pos) (some (.Name y py)) spos.line X.env = pure true) (hi : PI X tg iter (liftI F I)) (ok : BlkOk X.N X.env.scope scope own)
    (hg : ∀ (s : Shared) (H : Hp) (C : Addr) (cl : List (Str × Addr)) (fp : List Addr), PG (X.blk s H scope (compEnvC scope cl C X.env) fp) tg (gOf X.K t))
    (hs : ∀ (s : Shared) (H : Hp) (C : Addr) (cl : List (Str × Addr)) (fp : List Addr) (pn : List (V × D)), PTs (X.blk s H scope (compEnvC scope cl C X.env) fp) ifs (liftT (F.pin pn) tt))
    (he : ∀ (s : Shared) (H : Hp) (C : Addr) (cl : List (Str × Addr)) (fp : List Addr) (pn : List (V × D)), PE (X.blk s H scope (compEnvC scope cl C X.env) fp) elt (lift (F.pin pn) te))
    (hx : ∀ i ∈ t.ix, i ∈ own.map (·.2) := by decide) (hf : ∀ x, foldedSetIterable iter X.env x = pure x := by intro _; rfl) (hK : X.K = F.K := by rfl) :
    PS X (.Assign [.Name y py] (.ListComp elt [⟨tg, iter, ifs, 0⟩] scope pos) spos) (liftS F (setT i (ofF (lcF t I tt te (own.map (·.2)))))) := by
  refine ps_imp (ps_setLc (tt := fun σ H Q => ∃ pn, liftT (F.pin pn) tt σ H Q) (te := fun σ H Q => ∃ pn, lift (F.pin pn) te σ H Q) hc hN hy hyl hsw hi ok hg
    (fun s H C cl fp => ⟨fun pins s1 σ H1 Q I ⟨pn, w⟩ => (hs s H C cl fp pn).run pins s1 σ H1 Q I w⟩) (fun s H C cl fp => ⟨fun pins s1 σ H1 Q I ⟨pn, w⟩ => (he s H C cl fp pn).run pins s1 σ H1 Q I w⟩) hf) ?_
  intro E σ H ⟨G, ρ, k, r, h, o⟩
  refine lcT (F := F) _ hx hK _ _ (fun pn _ _ _ w => ⟨pn, w⟩) (fun pn _ _ _ w => ⟨pn, w⟩) σ H _ ⟨G, ρ, _, r, h, fun ds p vs H1 h1 e1 hp hl d1 => ?_⟩
  have ev : Evo (G.add p) G H1 H1 := ⟨fun _ _ _ h => .inl h, fun a z => z.elim (Ext.tr' r.obg r.tr e1 a) fun z => by rw [z, hl]; exact True.intro, fun a n _ z => n (.inl z), rfl, rfl⟩
  exact o.nx _ G _ H1 h1 ((r.step e1).put (v := .ref p) ⟨p, vs, rfl, r.free hp, hl, ev.dts ds vs d1⟩)
end
end DL
set_option Elab.async false
set_option linter.all false
set_option maxRecDepth 100000
set_option maxHeartbeats 1000000
namespace DL
open PySem L2
/-! ### what is owned, its parts -/
section
variable {K : PySem.W.Frag} {G G' : Gh} {H H' : Hp}
theorem OwL.app : ∀ {ts us : List Tr} {xs ys : List V} {M N : List Addr}, OwL K G H ts xs M → OwL K G H us ys N → OwL K G H (ts ++ us) (xs ++ ys) (M ++ N)
  | [], us, _, _, _, _, h, h' => by
    obtain ⟨rfl, rfl⟩ := h
    exact h'
  | t :: ts, us, _, ys, _, N, h, h' => by
    obtain ⟨x, r, A, B, rfl, h1, h2, rfl⟩ := h
    exact ⟨x, r ++ ys, A, B ++ N, rfl, h1, OwL.app h2 h', by rw [List.append_assoc]⟩
theorem OwL.len : ∀ {ts : List Tr} {xs : List V} {M : List Addr}, OwL K G H ts xs M → ts.length = xs.length
  | [], _, _, h => by rw [h.1]; rfl
  | t :: ts, _, _, h => by
    obtain ⟨x, r, A, B, rfl, h1, h2, rfl⟩ := h
    simp [OwL.len h2]
theorem OwL.split : ∀ (n : Nat) {ts : List Tr} {xs : List V} {L : List Addr}, OwL K G H ts xs L → ∃ M N, L = M ++ N ∧ OwL K G H (ts.take n) (xs.take n) M ∧ OwL K G H (ts.drop n) (xs.drop n) N
  | 0, ts, xs, L, h => ⟨[], L, rfl, ⟨rfl, rfl⟩, h⟩
  | n + 1, [], xs, L, h => by
    obtain ⟨rfl, rfl⟩ := h
    exact ⟨[], [], rfl, ⟨rfl, rfl⟩, ⟨rfl, rfl⟩⟩
  | n + 1, t :: ts, xs, L, h => by
    obtain ⟨x, r, A, B, rfl, h1, h2, rfl⟩ := h
    obtain ⟨M, N, rfl, h3, h4⟩ := OwL.split n h2
    exact ⟨A ++ M, N, by rw [List.append_assoc], ⟨x, r.take n, A, M, rfl, h1, h3, rfl⟩, h4⟩
theorem OwL.one {d : D} {v : V} (h : Dt K G H d v) : OwL K G H [.d d] [v] [] := ⟨v, [], [], [], rfl, ⟨rfl, h⟩, ⟨rfl, rfl⟩, rfl⟩
/-- an item that is data is another one -/
theorem OwL.set : ∀ {n : Nat} {ts : List Tr} {xs : List V} {L : List Addr} {d d' : D} {v : V}, OwL K G H ts xs L → ts[n]? = some (.d d) → Dt K G H d' v → OwL K G H (ts.set n (.d d')) (xs.set n v) L
  | 0, t :: ts, _, _, d, d', v, h, e, hv => by
    obtain ⟨x, r, A, B, rfl, h1, h2, rfl⟩ := h
    obtain rfl : t = .d d := by simpa using e
    obtain ⟨rfl, _⟩ := h1
    exact ⟨v, r, [], B, rfl, ⟨rfl, hv⟩, h2, rfl⟩
  | n + 1, t :: ts, _, _, d, d', v, h, e, hv => by
    obtain ⟨x, r, A, B, rfl, h1, h2, rfl⟩ := h
    exact ⟨x, r.set n v, A, B, rfl, h1, OwL.set (n := n) h2 (by simpa using e) hv, rfl⟩
  | n, [], _, _, d, d', v, h, e, hv => by simp at e
theorem OwL.get : ∀ {n : Nat} {ts : List Tr} {xs : List V} {L : List Addr} {t : Tr}, OwL K G H ts xs L → ts[n]? = some t → ∃ v M, xs[n]? = some v ∧ Ow K G H t v M ∧ ∀ p ∈ M, p ∈ L
  | 0, t :: ts, _, _, u, h, e => by
    obtain ⟨x, r, A, B, rfl, h1, h2, rfl⟩ := h
    obtain rfl : t = u := by simpa using e
    exact ⟨x, A, rfl, h1, fun p hp => List.mem_append_left _ hp⟩
  | n + 1, t :: ts, _, _, u, h, e => by
    obtain ⟨x, r, A, B, rfl, h1, h2, rfl⟩ := h
    obtain ⟨v, M, e1, e2, e3⟩ := OwL.get (n := n) h2 (by simpa using e)
    exact ⟨v, M, by simpa using e1, e2, fun p hp => List.mem_append_right _ (e3 p hp)⟩
  | n, [], _, _, u, h, e => by simp at e
end
mutual
theorem Ow.mut {K : PySem.W.Frag} {G : Gh} {H : Hp} : ∀ (t : Tr) (v : V) (L : List Addr), Ow K G H t v L → ∀ p ∈ L, Mut (H p)
  | .d x, v, L, h, p, hp => by rw [h.1] at hp; cases hp
  | .l ts, v, L, h, p, hp => by
    obtain ⟨q, xs, M, rfl, o, e, h, rfl⟩ := h
    rcases List.mem_cons.mp hp with rfl | hp
    · rw [e]; exact True.intro
    · exact OwL.mut ts xs M h p hp
  | .m b es, v, L, h, p, hp => by
    obtain ⟨q, M, rfl, o, h, rfl⟩ := h
    rcases List.mem_cons.mp hp with rfl | hp
    · rcases h with ⟨_, e, _⟩ | ⟨_, e, _⟩ <;> · rw [e]; exact True.intro
    · rcases h with ⟨kvs, _, h⟩ | ⟨kvs, _, h⟩
      · exact OwP.mut b es kvs M h p hp
      · exact OwQ.mut b es kvs M h p hp
  | .o C fs, v, L, h, p, hp => by
    obtain ⟨q, dx, vs, M, rfl, o, e, h, rfl⟩ := h
    rcases List.mem_cons.mp hp with rfl | hp
    · rw [e]; exact True.intro
    · exact OwF.mut fs vs M h p hp
  | .tp ts, v, L, h, p, hp => by
    obtain ⟨q, xs, rfl, e, h⟩ := h
    exact OwL.mut ts xs L h p hp
theorem OwF.mut {K : PySem.W.Frag} {G : Gh} {H : Hp} : ∀ (es : List (Str × Tr)) (kvs : List (Str × V)) (L : List Addr), OwF K G H es kvs L → ∀ p ∈ L, Mut (H p)
  | [], xs, L, h, p, hp => by rw [h.2] at hp; cases hp
  | (k, t) :: es, kvs, L, h, p, hp => by
    obtain ⟨v, r, M, N, rfl, h1, h2, rfl⟩ := h
    rcases List.mem_append.mp hp with hp | hp
    · exact Ow.mut t v M h1 p hp
    · exact OwF.mut es r N h2 p hp
theorem OwL.mut {K : PySem.W.Frag} {G : Gh} {H : Hp} : ∀ (ts : List Tr) (xs : List V) (L : List Addr), OwL K G H ts xs L → ∀ p ∈ L, Mut (H p)
  | [], xs, L, h, p, hp => by rw [h.2] at hp; cases hp
  | t :: ts, xs, L, h, p, hp => by
    obtain ⟨x, r, M, N, rfl, h1, h2, rfl⟩ := h
    rcases List.mem_append.mp hp with hp | hp
    · exact Ow.mut t x M h1 p hp
    · exact OwL.mut ts r N h2 p hp
theorem OwP.mut {K : PySem.W.Frag} {G : Gh} {H : Hp} (b : Bool) : ∀ (es : List (D × Tr)) (kvs : List (Key × V)) (L : List Addr), OwP K G H b es kvs L → ∀ p ∈ L, Mut (H p)
  | [], xs, L, h, p, hp => by rw [h.2.2] at hp; cases hp
  | (k, t) :: es, kvs, L, h, p, hp => by
    obtain ⟨j, v, r, M, N, rfl, _, h1, h2, rfl⟩ := h
    rcases List.mem_append.mp hp with hp | hp
    · exact Ow.mut t v M h1 p hp
    · exact OwP.mut b es r N h2 p hp
theorem OwQ.mut {K : PySem.W.Frag} {G : Gh} {H : Hp} (b : Bool) : ∀ (es : List (D × Tr)) (kvs : List (List Key × V)) (L : List Addr), OwQ K G H b es kvs L → ∀ p ∈ L, Mut (H p)
  | [], xs, L, h, p, hp => by rw [h.2.2] at hp; cases hp
  | (k, t) :: es, kvs, L, h, p, hp => by
    obtain ⟨j, v, r, M, N, rfl, _, h1, h2, rfl⟩ := h
    rcases List.mem_append.mp hp with hp | hp
    · exact Ow.mut t v M h1 p hp
    · exact OwQ.mut b es r N h2 p hp
end
/-! ### new things -/
noncomputable abbrev TRD := List Sl → (Tr → Prop) → Prop
noncomputable abbrev TRL := List Sl → (List Tr → Prop) → Prop
/-- what is new and nothing else knows -/
noncomputable def liftR (F : Fr) (T : TRD) : TE := fun σ H Q => ∃ G ρ k, Rel F G H σ ρ ∧ T ρ k ∧ ∀ t v R H', k t → Ext G H H' → (∀ p ∈ R, H p = none) → R.Nodup → Ow F.K (G.adds R) H' t v R → Q v H'
noncomputable def liftRA (F : Fr) (T : TRL) : TA := fun σ H Q => ∃ G ρ k, Rel F G H σ ρ ∧ T ρ k ∧ ∀ ts vs R H', k ts → Ext G H H' → (∀ p ∈ R, H p = none) → R.Nodup → OwL F.K (G.adds R) H' ts vs R → Q vs H'
noncomputable def treeT (t : TLD) : TRD := fun ρ k => t ρ fun ds => k (.l (ds.map .d))
noncomputable def datR (t : TD) : TRD := fun ρ k => t ρ fun d => k (.d d)
noncomputable def nilR : TRL := fun _ k => k []
noncomputable def consR (t : TRD) (u : TRL) : TRL := fun ρ k => t ρ fun x => u ρ fun xs => k (x :: xs)
noncomputable def lstR' (t : TRL) : TRD := fun ρ k => t ρ fun ts => ts.length ≤ sizeLine ∧ k (.l ts)
section
variable {X : Cx} {F : Fr} {e : Expr} {es : List Expr} {te : TD} {ta : TLD} {tr : TRD} {tl : TRL} {pos : Pos}
theorem r_tree (h : PE X e (liftF F ta)) : PE X e (liftR F (treeT ta)) := by
  refine pe_imp h fun σ H Q ⟨G, ρ, k, r, h, q⟩ => ⟨G, ρ, _, r, h, fun ds p vs H1 h1 e1 hp hv hd => ?_⟩
  refine q _ (.ref p) [p] H1 h1 e1 (fun a ha => by rw [List.mem_singleton.mp ha]; exact hp) (by simp) ?_
  rw [Gh.adds_one]
  exact ⟨p, vs, [], rfl, .inr rfl, hv, Ow.ofL hd, rfl⟩
theorem r_dat (h : PE X e (lift F te)) : PE X e (liftR F (datR te)) := by
  refine pe_imp h fun σ H Q ⟨G, ρ, k, r, h, q⟩ => ⟨G, ρ, _, r, h, fun d v H1 h1 e1 hd => ?_⟩
  refine q _ v [] H1 h1 e1 (fun a ha => nomatch ha) List.nodup_nil ?_
  rw [Gh.adds_nil]
  exact ⟨rfl, hd⟩
theorem ra_nil : PA X [] (liftRA F nilR) := pa_imp pa_nil fun σ H Q ⟨G, ρ, k, r, h, q⟩ => q [] [] [] H h (.refl r.bag) (fun _ z => nomatch z) List.nodup_nil ⟨rfl, rfl⟩
theorem Gh.adds_adds (G : Gh) (R S : List Addr) : (G.adds R).adds S = G.adds (R ++ S) := by
  unfold Gh.adds
  congr 1
  funext a
  simp [or_assoc]
theorem ra_cons (ha : PE X e (liftR F tr)) (hr : PA X es (liftRA F tl)) (hs : starEach (e :: es) X.env = (false, eval e X.env) :: starEach es X.env := by rfl) : PA X (e :: es) (liftRA F (consR tr tl)) := by
  refine pa_imp (pa_cons ha hr hs) fun σ H Q ⟨G, ρ, k, r, h, q⟩ => ⟨G, ρ, _, r, h, fun t v R H1 h1 e1 hR nR o1 => ?_⟩
  have own1 := Ow.own t v R o1
  have mutR : ∀ p ∈ R, Mut (H1 p) := fun p hp => Ow.mut t v R o1 p hp
  have r1 := r.grows e1 hR mutR
  refine ⟨G.adds R, ρ, _, r1, h1, fun ts vs S H2 h2 e2 hS nS o2 => ?_⟩
  have dj : ∀ p ∈ R, p ∉ S := fun p hp z => (own1 p hp).2 (hS p z)
  have e12 : Ext G H H2 := e1.trans (Ext.cg (G := G.adds R) (G' := G) rfl rfl (fun _ h => .inl h) e2)
  refine q (t :: ts) (v :: vs) (R ++ S) H2 h2 e12 (fun p hp => ?_) (List.nodup_append.mpr ⟨nR, nS, fun a ha b hb z => dj a ha (z ▸ hb)⟩) ?_
  · rcases List.mem_append.mp hp with z | z
    · exact hR p z
    · exact e1.free r.bag (hS p z)
  · rw [Gh.adds_adds] at o2
    have ev := r1.evoAdds e2 hS
    rw [Gh.adds_adds] at ev
    refine ⟨v, vs, R, S, rfl, Ow.evo ev t v R (fun p hp => ⟨.inr (List.mem_append_left _ hp), ?_⟩) o1, o2, rfl⟩
    have np : p ≠ G.bg := fun z => by
      have := r.bag.ne
      rw [← z] at this
      exact this (hR p hp)
    cases w : H1 p with
    | none => exact absurd w (own1 p hp).2
    | some o => exact e2.mine np w (.inr hp)
/-- a list of new things and data -/
theorem r_lst (h : PA X es (liftRA F tl)) : PE X (.List es pos) (liftR F (lstR' tl)) := by
  refine pe_imp (pe_lst h) fun σ H Q ⟨G, ρ, k, r, h, q⟩ => ⟨G, ρ, _, r, h, fun ts vs R H1 ⟨hz, h1⟩ e1 hR nR o1 => ⟨by rw [← o1.len]; exact hz, fun p hp => ?_⟩⟩
  have r1 := r.grows e1 hR fun p hp => OwL.mut ts vs R o1 p hp
  have e2 : Ext (G.adds R) H1 (upd H1 p (.lst vs)) := Ext.new r1.bag hp
  have ev := r1.evoAdds e2 (R := [p]) fun a ha => by rw [List.mem_singleton.mp ha]; exact hp
  have pR : p ∉ R := fun z => (OwL.own ts vs R o1 p z).2 hp
  refine q (.l ts) (.ref p) (p :: R) _ h1 (e1.trans (Ext.cg (G := G.adds R) (G' := G) rfl rfl (fun _ h => .inl h) e2)) (fun a ha => ?_) (List.nodup_cons.mpr ⟨pR, nR⟩) ⟨p, vs, R, rfl, .inr List.mem_cons_self, upd_same, ?_, rfl⟩
  · rcases List.mem_cons.mp ha with rfl | ha
    · exact e1.free r.bag hp
    · exact hR a ha
  · rw [Gh.adds_adds] at ev
    have e3 : G.adds (R ++ [p]) = G.adds (p :: R) := by
      unfold Gh.adds
      congr 1
      funext a
      simp [or_comm]
    rw [e3] at ev
    exact Ow.evoL ev ts vs R (fun a ha => ⟨.inr (List.mem_cons_of_mem _ ha), upd_ne fun z => pR (z ▸ ha)⟩) o1
end
/-! ### statements on what is owned -/
noncomputable def frzT (i : Nat) (S : TSD) : TSD := fun k ρ => match ρ[i]? with
  | some (.tr t) => S k (ρ.set i (.dat t.toD))
  | _ => False
/-- what a def makes anew -/
noncomputable def newT (i : Nat) (t : TLD) : TSD := fun k ρ => t ρ fun ds => k.nx (ρ.set i (.ml ds))
noncomputable def newR (i : Nat) (t : TRD) : TSD := fun k ρ => t ρ fun x => k.nx (ρ.set i (.tr x))
noncomputable abbrev MD := List Tr → List D → (List Tr → Prop) → Prop
/-- x.m(..), x a name that owns its list -/
noncomputable def mT (i : Nat) (o : MD) (ta : TLD) : TSD := fun k ρ => match ρ[i]? with
  | some (.tr (.l ts)) => ta ρ fun args => o ts args fun us => k.nx (ρ.set i (.tr (.l us)))
  | _ => False
noncomputable def appD : MD
  | ts, [d], k => ts.length < sizeLine ∧ k (ts ++ [.d d])
  | _, _, _ => False
noncomputable def extD : MD
  | ts, [.lst es], k => ts.length + es.length ≤ sizeLine ∧ k (ts ++ es.map .d)
  | _, _, _ => False
noncomputable def insD : MD
  | ts, [.int j, d], k => ts.length < sizeLine ∧ 0 ≤ j ∧ j < 2 ^ 63 ∧ k (ts.take j.toNat ++ [.d d] ++ ts.drop j.toNat)
  | _, _, _ => False
noncomputable def putT (i : Nat) (t u : TD) : TSD := fun k ρ => match ρ[i]? with
  | some (.tr (.l ts)) => u ρ fun d => t ρ fun x => match x with
    | .int j => optK (ixN ts.length j) fun n => (∃ c, ts[n]? = some (.d c)) ∧ k.nx (ρ.set i (.tr (.l (ts.set n (.d d)))))
    | _ => False
  | _ => False
theorem tl_of {i : Nat} {ρ : List Sl} {f : List Tr → Prop} (h : match ρ[i]? with
  | some (.tr (.l ts)) => f ts
  | _ => False) : ∃ ts, ρ[i]? = some (.tr (.l ts)) ∧ f ts := by
  split at h
  · exact ⟨_, by assumption, h⟩
  · exact h.elim
section
variable {X : Cx} {F : Fr} {st : List Stmt} {S : TSD} {e : Expr} {te : TD} {pos apos cpos : Pos}
theorem ss_frz (i : Nat) (h : PSs X st (liftS F S)) : PSs X st (liftS F (frzT i S)) := by
  refine pss_imp h fun E σ H ⟨G, ρ, k, r, w, o⟩ => ?_
  unfold frzT at w
  split at w
  · rename_i t hi
    obtain ⟨B, r'⟩ := r.frz hi
    exact ⟨_, _, k, r', w, o⟩
  · exact w.elim
theorem s_newR {i : Nat} {x : Str} {pos' : Pos} {ta : TRD} (hN : X.N.Nodup) (hi : X.N[i]? = some x) (hx : Loc X.env.scope x) (he : PE X e (liftR F ta)) (hs : swapsWith e (some (.Name x pos')) pos.line X.env = pure false := by rfl)
    (hf : X.fn x = true ∨ X.env.scope.names.lookup x = some .local := by first | exact .inl rfl | exact .inr rfl | assumption) : PS X (.Assign [.Name x pos'] e pos) (liftS F (newR i ta)) := by
  refine ps_imp (ps_set hN hi hx he hs hf) fun E σ H ⟨G, ρ, k, r, h, o⟩ => ⟨G, ρ, _, r, h, fun t v R H1 h1 e1 hR nR o1 => ?_⟩
  obtain ⟨L, rl⟩ := r.adrs
  exact o.nx _ _ _ H1 h1 ((rl.grows e1 hR fun p hp => Ow.mut t v R o1 p hp).give (i := i) o1 nR (fun p hp z => r.free (hR p hp) (r.sub p z)) fun p hp => rl.new (hR p hp))
theorem s_new {i : Nat} {x : Str} {pos' : Pos} {ta : TLD} (hN : X.N.Nodup) (hi : X.N[i]? = some x) (hx : Loc X.env.scope x) (he : PE X e (liftF F ta)) (hs : swapsWith e (some (.Name x pos')) pos.line X.env = pure false := by rfl)
    (hf : X.fn x = true ∨ X.env.scope.names.lookup x = some .local := by first | exact .inl rfl | exact .inr rfl | assumption) : PS X (.Assign [.Name x pos'] e pos) (liftS F (newT i ta)) :=
  ps_imp (s_newR hN hi hx (r_tree he) hs hf) fun E σ H ⟨G, ρ, k, r, h, o⟩ => ⟨G, ρ, k, r, h, o⟩
theorem s_meth {i : Nat} {r : V → List V → Hp → VK → Prop} {o : MD} {ta : TLD} (hr : ∀ (G : Gh) (H : Hp) (p : Addr) (xs : List V) (ts : List Tr) (M : List Addr) (args : List D) (vs : List V) (k : List Tr → Prop) (Q : VK), H p = some (.lst xs) → OwL F.K G H ts xs M → DtL F.K G H args vs → o ts args k →
      (∀ us ys w, k us → OwL F.K G H us ys M → Q w (upd H p (.lst ys))) → r (.ref p) vs H Q)
    (hpe : PE X e (tBM X.K "list" r (tVar i) (liftA F ta))) (hs : swapsWith e none pos.line X.env = pure false := by rfl) : PS X (.Expr e pos) (liftS F (mT i o ta)) := by
  refine ps_imp (ps_expr hpe hs) fun E σ H ⟨G, ρ, k, r, h, o⟩ => ?_
  obtain ⟨ts, hi, h⟩ := tl_of h
  obtain ⟨v, B, e1, ⟨p, xs, M, rfl, o2, h4, h5, rfl⟩, _, _, _⟩ := r.chg hi
  refine ⟨_, e1, .inl ⟨rfl, _, SqL.of h4⟩, G, ρ, _, r, h, fun args vs H1 h1 x1 d1 => ?_⟩
  have r1 := r.step x1
  obtain ⟨v, B, e1', ⟨p', xs, M, rfl, o2, h4, h5, rfl⟩, nB, _, ch⟩ := r1.chg hi
  rw [e1] at e1'
  cases e1'
  refine hr G H1 p xs ts M args vs _ _ h4 h5 d1 h1 fun us ys w hk hd => ?_
  have np : p ∉ M := (List.nodup_cons.mp nB).1
  have ev : Evo G G H1 (upd H1 p (.lst ys)) := ⟨fun a u n h => .inl (by rw [upd_ne (fun z => n (by rw [z]; exact o2))]; exact h), r1.tr, fun _ n _ => n, rfl, rfl⟩
  exact o.nx _ G σ _ hk (ch p _ (.l us) List.mem_cons_self True.intro ⟨p, ys, M, rfl, o2, upd_same, Ow.evoL ev us ys M (fun q hq => ⟨(OwL.own us ys M hd q hq).1, upd_ne fun z => np (z ▸ hq)⟩) hd, rfl⟩)
theorem s_ext (i : Nat) {x : Str} {px : Pos} {ta : TLD} (ha : PA X [e] (liftA F ta))
    (hpe : PE X (.Call (.Attribute (.Name x px) "extend" apos) [e] [] cpos) (tBM X.K "list" rExtend (tVar i) (liftA F ta))) (hs : swapsWith (.Call (.Attribute (.Name x px) "extend" apos) [e] [] cpos) none pos.line X.env = pure false := by rfl) :
    PS X (.Expr (.Call (.Attribute (.Name x px) "extend" apos) [e] [] cpos) pos) (liftS F (mT i extD ta)) := by
  refine s_meth (fun G H p xs ts M args vs k Q hp hd ha h q => ?_) hpe hs
  unfold extD at h
  split at h
  · obtain ⟨v, rfl, a, zs, rfl, n, hz, hv⟩ := dl1 ha
    exact ⟨p, a, xs, zs, rfl, rfl, hp, hz, by rw [← hd.len, ← hv.len]; exact h.1, q _ _ _ h.2 (by have := hd.app (Ow.ofL hv); rwa [List.append_nil] at this)⟩
  · exact h.elim
theorem s_ins (i : Nat) {x : Str} {px : Pos} {e2 : Expr} {ta : TLD} (ha : PA X [e, e2] (liftA F ta))
    (hpe : PE X (.Call (.Attribute (.Name x px) "insert" apos) [e, e2] [] cpos) (tBM X.K "list" (fun x vs H Q => ∃ (l : Addr) (xs : List V) (i : Int) (y : V), x = .ref l ∧ vs = [.int i, y] ∧ H l = some (.lst xs) ∧ xs.length < sizeLine ∧ 0 ≤ i ∧ i < 2 ^ 63 ∧
      Q .non (upd H l (.lst (xs.take i.toNat ++ [y] ++ xs.drop i.toNat)))) (tVar i) (liftA F ta))) (hs : swapsWith (.Call (.Attribute (.Name x px) "insert" apos) [e, e2] [] cpos) none pos.line X.env = pure false := by rfl) :
    PS X (.Expr (.Call (.Attribute (.Name x px) "insert" apos) [e, e2] [] cpos) pos) (liftS F (mT i insD ta)) := by
  refine s_meth (fun G H p xs ts M args vs k Q hp hd ha h q => ?_) hpe hs
  unfold insD at h
  split at h
  · rename_i j d
    obtain ⟨v, w, rfl, hv, hw⟩ := dl2 ha
    obtain rfl := hv
    obtain ⟨A, B, rfl, h1, h2⟩ := hd.split j.toNat
    exact ⟨p, xs, _, w, rfl, rfl, hp, by rw [← hd.len]; exact h.1, h.2.1, h.2.2.1, q _ _ _ h.2.2.2 (by have := (h1.app (OwL.one hw)).app h2; rwa [List.append_nil] at this)⟩
  · exact h.elim
end
/-! ### reading what is owned, for a flat result -/
mutual
noncomputable def D.flat : D → Bool
  | .non => true
  | .bl _ => true
  | .int _ => true
  | .str _ => true
  | .tup ds => D.flats ds
  | _ => false
noncomputable def D.flats : List D → Bool
  | [] => true
  | d :: ds => d.flat && D.flats ds
end
section
variable {K : PySem.W.Frag} {G G' : Gh} {H H' : Hp}
mutual
theorem Dt.flat (hs : ∀ a xs, H a = some (.tup xs) → H' a = some (.tup xs)) : ∀ (d : D) (v : V), d.flat = true → Dt K G H d v → Dt K G' H' d v
  | .non, v, _, h => h
  | .bl b, v, _, h => h
  | .int i, v, _, h => h
  | .str x, v, _, h => h
  | .tup ds, v, f, h => by
    obtain ⟨a, xs, h1, h3, h4⟩ := h
    exact ⟨a, xs, h1, hs _ _ h3, Dt.flats hs ds xs (by simpa only [D.flat] using f) h4⟩
  | .lst ds, v, f, h => by simp [D.flat] at f
  | .dic t ds, v, f, h => by simp [D.flat] at f
  | .ins C ds, v, f, h => by simp [D.flat] at f
  | .glb _, v, f, h => by simp [D.flat] at f
  | .bag, v, f, h => by simp [D.flat] at f
  | .lock _ _, v, f, h => by simp [D.flat] at f
  | .at _ _, v, f, h => by simp [D.flat] at f
theorem Dt.flats (hs : ∀ a xs, H a = some (.tup xs) → H' a = some (.tup xs)) : ∀ (ds : List D) (vs : List V), D.flats ds = true → DtL K G H ds vs → DtL K G' H' ds vs
  | [], _, _, h => h
  | d :: ds, vs, f, h => by
    obtain ⟨x, r, h1, h2, h3⟩ := h
    simp only [D.flats, Bool.and_eq_true] at f
    exact ⟨x, r, h1, Dt.flat hs d x f.1 h2, Dt.flats hs ds r f.2 h3⟩
end
end
/-! what was locked on the way is unlocked -/
noncomputable def thaw1 (p : Addr) (H : Hp) : Hp := match H p with
  | some (.frz _ u) => upd H p u
  | _ => H
noncomputable def thaw : List Addr → Hp → Hp
  | [], H => H
  | p :: R, H => thaw R (thaw1 p H)
theorem thaw1_cases (p : Addr) (H : Hp) : thaw1 p H = H ∨ ∃ o u, H p = some (.frz o u) ∧ thaw1 p H = upd H p u := by
  unfold thaw1
  split
  · rename_i o u e
    exact .inr ⟨o, u, e, rfl⟩
  · exact .inl rfl
theorem thaw1_out {p a : Addr} {H : Hp} (h : a ≠ p) : thaw1 p H a = H a := by
  rcases thaw1_cases p H with e | ⟨o, u, _, e⟩
  · rw [e]
  · rw [e]; exact upd_ne h
theorem thaw_out : ∀ {R : List Addr} {a : Addr} {H : Hp}, a ∉ R → thaw R H a = H a
  | [], _, _, _ => rfl
  | p :: R, a, H, h => by
    rw [List.mem_cons, not_or] at h
    show thaw R (thaw1 p H) a = H a
    rw [thaw_out h.2, thaw1_out h.1]
noncomputable def Frz : HO → Prop
  | .frz _ _ => True
  | _ => False
theorem thaw1_same {p : Addr} {H : Hp} {o : HO} (n : ¬ Frz o) (h : H p = some o ∨ ∃ od, H p = some (.frz od o)) : thaw1 p H p = some o := by
  unfold thaw1
  rcases h with h | ⟨od, h⟩
  · rw [h]
    cases o <;> first | exact h | exact absurd True.intro n
  · rw [h]
    exact upd_same
theorem thaw_in : ∀ {R : List Addr} {a : Addr} {H : Hp} {o : HO}, ¬ Frz o → (H a = some o ∨ ((∃ od, H a = some (.frz od o)) ∧ a ∈ R)) → thaw R H a = some o
  | [], _, _, _, _, h => h.elim _root_.id fun z => nomatch z.2
  | p :: R, a, H, o, n, h => by
    show thaw R (thaw1 p H) a = some o
    by_cases e : a = p
    · subst e
      exact thaw_in n (.inl (thaw1_same n (h.imp _root_.id fun z => z.1)))
    · refine thaw_in n ?_
      rw [thaw1_out e]
      exact h.imp _root_.id fun z => ⟨z.1, (List.mem_cons.mp z.2).resolve_left e⟩
section
variable {X : Cx} {pins : List (Addr × Obj)} {σ : L2.St} {H : Hp} {s : Shared} {e : Expr}
theorem Inv.thaw : ∀ {R : List Addr} {H : Hp}, Inv X pins σ H s → (∀ p ∈ R, ∀ o' u', X.H_0 p ≠ some (.frz o' u')) → Inv X pins σ (DL.thaw R H) s
  | [], _, I, _ => I
  | p :: R, H, I, n => by
    show Inv X pins σ (DL.thaw R (thaw1 p H)) s
    refine Inv.thaw ?_ fun q hq => n q (List.mem_cons_of_mem _ hq)
    unfold thaw1
    split
    · rename_i o u h
      exact I.unlock h (n p List.mem_cons_self)
    · exact I
theorem pe_thaw {t : TE} (h : PE X e t) : PE X e (fun σ H Q => ∃ R, (∀ p ∈ R, ∃ u, H p = some u ∧ Mut (some u)) ∧ t σ H fun v H' => Q v (DL.thaw R H')) := by
  refine ⟨fun pins s σ H Q I ⟨R, hR, w⟩ => ?_⟩
  refine thn (h.run pins s σ H _ I w) fun v s1 ⟨x, H1, I1, r, q⟩ => ?_
  exact ⟨x, _, Inv.thaw I1 (fun p hp => let ⟨u, h1, h2⟩ := hR p hp; I.nofrz h1 h2), r, q⟩
theorem pt_thaw {t : TT} (h : PT X e t) : PT X e (fun σ H Q => ∃ R, (∀ p ∈ R, ∃ u, H p = some u ∧ Mut (some u)) ∧ t σ H fun v H' => Q v (DL.thaw R H')) := by
  refine ⟨fun pins s σ H Q I ⟨R, hR, w⟩ => ?_⟩
  refine thn (h.run pins s σ H _ I w) fun b s1 ⟨H1, I1, q⟩ => ?_
  exact ⟨_, Inv.thaw I1 (fun p hp => let ⟨u, h1, h2⟩ := hR p hp; I.nofrz h1 h2), q⟩
end
noncomputable def thruT (i : Nat) (t : TD) : TD := fun ρ k => match ρ[i]? with
  | some (.tr x) => t (ρ.set i (.dat x.toD)) fun d => d.flat = true ∧ k d
  | _ => False
noncomputable def thruB (i : Nat) (t : TBD) : TBD := fun ρ k => match ρ[i]? with
  | some (.tr x) => t (ρ.set i (.dat x.toD)) k
  | _ => False
section
variable {X : Cx} {F : Fr} {e : Expr} {te : TD} {tb : TBD} {G : Gh} {H H' : Hp} {R : List Addr}
theorem Ext.rem (x : Ext (G.rems R) H H') (hR : ∀ p ∈ R, ∃ u, H p = some u ∧ Mut (some u)) (nb : G.bg ∉ R) (ni : G.bi ∉ R) : Ext G H (DL.thaw R H') := by
  have nR : ∀ (c : Addr) (oc : Obj), H' c = some (.frz oc hoC) → c ∉ R := fun c oc hc m => by
    obtain ⟨u, h1, h2⟩ := hR c m
    rcases x.lk (fun z => nb (by rw [← show c = G.bg from z]; exact m)) h1 with z | ⟨d, od, z⟩
    · rw [hc] at z
      cases z
      exact h2
    · have z' := z.fr fun ps w => by rw [w] at h2; exact h2
      rw [hc] at z'
      cases z'
      exact d
  refine ⟨fun a o n h => ?_, ?_, x.old⟩
  · by_cases m : a ∈ R
    · obtain ⟨u, h1, h2⟩ := hR a m
      rw [h] at h1
      cases h1
      have nf : ¬ Frz o := fun z => by cases o <;> first | exact z | exact h2
      exact .inl (thaw_in nf ((x.keep a _ n h).imp _root_.id fun ⟨_, d, od, z⟩ => ⟨⟨od, z.fr fun ps w => by rw [w] at h2; exact h2⟩, m⟩))
    · rw [thaw_out m]
      exact (x.keep a o n h).imp _root_.id fun ⟨z1, z2, od, z3⟩ => ⟨fun w => z1 ⟨w, m⟩, z2, od, z3.to (thaw_out m) fun c oc hc => (thaw_out (nR c oc hc)).trans hc⟩
  · obtain ⟨p, q, r, ns, h1, h2, h3⟩ := x.bag
    exact ⟨p, q, r, ns, by rw [thaw_out nb]; exact h1, by rw [thaw_out ni]; exact h2, h3⟩
theorem thaw_sqt (x : Ext (G.rems R) H H') (hR : ∀ p ∈ R, ∃ u, H p = some u ∧ Mut (some u)) (nb : G.bg ∉ R) : ∀ a xs, H' a = some (.tup xs) → DL.thaw R H' a = some (.tup xs) := by
  intro a xs h
  by_cases m : a ∈ R
  · obtain ⟨u, h1, h2⟩ := hR a m
    have q := x.lk (fun z => nb (by rw [← show a = G.bg from z]; exact m)) h1
    exfalso
    rcases q with q | ⟨d, od, q⟩
    · rw [h] at q; cases q; exact h2
    · have q' := q.fr fun ps w => by rw [w] at h2; exact h2
      rw [h] at q'; cases q'
  · rw [thaw_out m]; exact h
theorem Rel.frzR {σ : L2.St} {ρ : List Sl} (r : Rel F G H σ ρ) {i : Nat} {t : Tr} (hi : ρ[i]? = some (.tr t)) : ∃ B, Rel F (G.rems B) H σ (ρ.set i (.dat t.toD)) ∧ (∀ p ∈ B, ∃ u, H p = some u ∧ Mut (some u)) ∧ G.bg ∉ B ∧ G.bi ∉ B := by
  obtain ⟨B, v, r', hw, hn⟩ := r.frzA hi
  refine ⟨B, r', fun p hp => ?_, fun z => hn _ z (by rw [r.bg]; exact r.ob), fun z => hn _ z (by rw [r.bi]; exact r.oi)⟩
  have m := Ow.mut t v B hw p hp
  cases q : H p with
  | none => rw [q] at m; exact m.elim
  | some u => exact ⟨u, rfl, by rw [q] at m; exact m⟩
theorem d_thru (i : Nat) (h : PE X e (lift F te)) : PE X e (lift F (thruT i te)) := by
  refine pe_imp (pe_thaw h) fun σ H Q ⟨G, ρ, k, r, w, q⟩ => ?_
  unfold thruT at w
  split at w
  · rename_i t hi
    obtain ⟨B, r', hB, nb, ni⟩ := r.frzR hi
    exact ⟨B, hB, _, _, _, r', w, fun d v H' ⟨f, h⟩ x hd => q d v _ h (x.rem hB nb ni) (Dt.flat (thaw_sqt x hB nb) d v f hd)⟩
  · exact w.elim
theorem t_thru (i : Nat) (h : PT X e (liftT F tb)) : PT X e (liftT F (thruB i tb)) := by
  refine pt_imp (pt_thaw h) fun σ H Q ⟨G, ρ, k, r, w, q⟩ => ?_
  unfold thruB at w
  split at w
  · rename_i t hi
    obtain ⟨B, r', hB, nb, ni⟩ := r.frzR hi
    exact ⟨B, hB, _, _, _, r', w, fun b H' h x => q b _ h (x.rem hB nb ni)⟩
  · exact w.elim
end
/-! ### a def of data by its body -/
theorem slots_un {F : Fr} {G : Gh} {H : Hp} : ∀ n : Nat, Slots F G H (List.replicate n .un) (List.replicate n none) []
  | 0 => ⟨rfl, rfl⟩
  | n + 1 => ⟨none, _, [], [], rfl, rfl, slots_un n, rfl⟩
theorem slots_start {F : Fr} {G : Gh} {H : Hp} (n : Nat) : ∀ {ds : List D} {vs : List V}, DtL F.K G H ds vs → Slots F G H (ds.map .dat ++ List.replicate n .un) (vs.map some ++ List.replicate n none) []
  | [], vs, h => by
    obtain rfl : vs = [] := h
    exact slots_un n
  | d :: ds, vs, h => by
    obtain ⟨x, r, rfl, h1, h2⟩ := h
    exact ⟨some x, _, [], [], rfl, ⟨rfl, x, rfl, h1⟩, slots_start n h2, rfl⟩
/-- the entry's slots -/
noncomputable def enterS (n : Nat) (ds : List D) : List Sl := ds.map .dat ++ List.replicate (n - ds.length) .un
noncomputable def endD (k : D → Prop) : DE := ⟨fun _ => k .non, fun t => k t.toD, fun _ => False, fun _ => False, fun d _ => k (Tr.d d).toD⟩
/-- what is new, as data -/
theorem ow_toD {K : PySem.W.Frag} {G : Gh} {H H' : Hp} {t : Tr} {v : V} {R : List Addr} (ok : GOk G H) (x : Ext G H H') (hR : ∀ p ∈ R, H p = none) (ho : Ow K (G.adds R) H' t v R) : Dt K G H' t.toD v := by
  have tr : ∀ a, (G.adds R).own a → Mut (H' a) := fun a z => z.elim (Ext.tr' ok.ob ok.tr x a) fun z => Ow.mut t v R ho a z
  have h := Ow.dt tr t v R (fun _ z => z) ho
  refine Evo.dt (G := (G.adds R).rems R) ⟨fun _ _ _ h => .inl h, fun a z => tr a z.1, fun a n _ z => n ⟨.inl z, fun w => ?_⟩, rfl, rfl⟩ _ _ h
  have m := ok.tr a z
  rw [hR a w] at m
  exact m
open PySem.Spec PyProof.Rows in
theorem Fun.okD {P : Program} {w : World} {K : PySem.W.Frag} {mg : Str → Option Value} {base : Heap} {x qual : Str} {st : Stmt} {f : Addr} {fd : FuncData} {N ps : List Str} {k : Nat} {R : RD} (Fn : Fun K x qual st f fd) (S : FnScope N ps (defScope st))
    (len : ∀ ds k, R ds k → ds.length = ps.length)
    (hb : ∃ T : TSD, (∀ (cdv : Value) (A : Around) (outer : List Env) (s : Shared) (H : Hp) (E : XK) (G : Gh) (H' : Hp) (pn : List (V × D)), Room k (A.deeper (envOfC qual (defScope st) s.heap.objs.size f cdv)) → A.guards = some [] →
      PSs (cxOf CX0 P w K mg base N qual (defScope st) f cdv A outer s H E).nox (defBody st) (liftS ⟨K, G, H', pn⟩ T)) ∧ ∀ ds κ, R ds κ → T (endD κ) (enterS N.length ds)) : FnG P w K mg base CX0 (k + 1) f fd ps (spD K R) := by
  obtain ⟨oc, od, kV, doc, pm, an, cdv, ct, osl, rfl, lk, hcd⟩ := Fn.ex
  obtain ⟨T, hb, hq⟩ := hb
  refine fnG_of lk hcd S (fun vs H Q E h => ?_) fun A outer s H vs Q E hr hg h => ?_
  · obtain ⟨G, ds, κ, _, hd, hR, _⟩ := h
    rw [← hd.len]; exact len ds κ hR
  · obtain ⟨G, ds, κ, ok, hd, hR, q⟩ := h
    refine ⟨_, (hb cdv A outer s H E G H [] hr hg).nox, G, _, endD κ, ⟨rfl, rfl, ⟨rfl, ok.tb⟩, ok.ob, ok.oi, fun _ h => h, fun a h n => absurd h n, ok.tr, .refl ok.bag, (fun _ z => nomatch z), [], ?_, List.nodup_nil⟩, hq ds κ hR,
      ⟨fun ρ G' σ' H' h r => q .non .non H' h r.ext rfl, fun t v R H' h x hR nR ho => q t.toD v H' h x (ow_toD ok x hR ho), fun _ _ _ _ h _ => h.elim, fun _ _ _ _ h _ => h.elim, fun d ρ G' σ' H' v h r hd => q (Tr.d d).toD v H' h r.ext (by simp only [Tr.toD]; exact r.less.dt d v hd)⟩⟩
    unfold enterS L2.start
    rw [hd.len]
    exact slots_start _ hd
end DL
set_option Elab.async false
set_option linter.all false
set_option maxRecDepth 100000
set_option maxHeartbeats 4000000
namespace DL
open PySem PySem.Spec PyProof.Rows L2
/-! ### enumerate(v), v a tuple -/
/-! ### walks over pairs -/
section
variable {K : PySem.W.Frag}
noncomputable def numb (ds : List D) : List D := ds.mapIdx fun i d => .tup [.int (i : Int), d]
noncomputable def pairD (ds es : List D) : List D := (ds.zip es).map fun q => .tup [q.1, q.2]
end
noncomputable def enumI (t : TLD) : TLD := fun ρ k => t ρ fun ds => match ds with
  | [.lst xs] => k (numb xs)
  | [.tup xs] => k (numb xs)
  | _ => False
noncomputable def zipI (t : TLD) : TLD := fun ρ k => t ρ fun ds => match ds with
  | [.lst xs, .lst ys] => k (pairD xs ys)
  | [.tup xs, .tup ys] => k (pairD xs ys)
  | _ => False
section
variable {X : Cx} {F : Fr} {a b : Expr} {ta : TLD} {p pos tpos : Pos} {elts : List Expr} {kk : Nat}
/-! ### *e in argument lists and displays -/
noncomputable def starA (t : TD) (u : TLD) : TLD := fun ρ k => t ρ fun d => match d with
  | .lst xs => u ρ fun ds => k (xs ++ ds)
  | .tup xs => u ρ fun ds => k (xs ++ ds)
  | _ => False
theorem a_star {e : Expr} {es : List Expr} {te : TD} (he : PE X e (lift F te)) (hr : PA X es (liftA F ta)) (hs : starEach (.Starred e p :: es) X.env = (true, eval e X.env) :: starEach es X.env := by rfl) (hK : X.K = F.K := by rfl) : PA X (.Starred e p :: es) (liftA F (starA te ta)) := by
  refine pa_imp (StX.pa_star he hr hs) fun σ H Q ⟨G, ρ, k, r, h, q⟩ => ⟨G, ρ, _, r, h, fun d v H1 h1 e1 d1 => ?_⟩
  rw [hK]
  cases d <;> try exact (show False from h1).elim
  · obtain ⟨a, xs, rfl, n, ha, hl⟩ := d1
    refine ⟨a, xs, rfl, .inr (SqL.of ha), G, ρ, _, r.step e1, h1, fun ds vs H2 h2 e2 d2 => q _ _ H2 h2 (e1.trans e2) ((((r.step e1).evo e2).dts _ _ hl).app d2)⟩
  · obtain ⟨a, xs, rfl, ha, hl⟩ := d1
    refine ⟨a, xs, rfl, .inl (.inl (.inl ha)), G, ρ, _, r.step e1, h1, fun ds vs H2 h2 e2 d2 => q _ _ H2 h2 (e1.trans e2) ((((r.step e1).evo e2).dts _ _ hl).app d2)⟩
end
end DL
set_option Elab.async false
set_option linter.all false
set_option maxRecDepth 100000
set_option maxHeartbeats 4000000
namespace DL
open PySem PySem.Spec PyProof.Rows L2
/-! ### methods of data -/
noncomputable abbrev MDD := D → List D → (D → Prop) → Prop
noncomputable def methT (o : MDD) (t : TD) (ta : TLD) : TD := fun ρ k => t ρ fun x => ta ρ fun ds => o x ds k
noncomputable def OkM (F : Fr) (r : V → List V → Hp → VK → Prop) (o : MDD) : Prop := ∀ (G : Gh) (H : Hp) (x : D) (v : V) (ds : List D) (vs : List V) (k : D → Prop) (Q : VK), GOk G H → o x ds k → Dt F.K G H x v → DtL F.K G H ds vs →
  (∀ d w H', k d → Ext G H H' → Dt F.K G H' d w → Q w H') → r v vs H Q
noncomputable def isStr : D → Prop
  | .str _ => True
  | _ => False
noncomputable def isLst : D → Prop
  | .lst _ => True
  | _ => False
noncomputable def onT (P : D → Prop) (t : TD) : TD := fun ρ k => t ρ fun d => P d ∧ k d
section
variable {X : Cx} {F : Fr} {o e : Expr} {to te : TD} {ta : TLD} {apos pos : Pos}
theorem d_m1 {r : V → List V → Hp → VK → Prop} {m : MDD} (hr : OkM F r m) (hpe : PE X e (tM1 r (lift F to) (lift F te))) : PE X e (lift F (methT m (onT isStr to) (consA te nilA))) := by
  refine pe_imp hpe fun σ H Q ⟨G, ρ, k, r, h, q⟩ => ⟨G, ρ, _, r, h, fun x v H1 ⟨hs, h1⟩ e1 d1 => ?_⟩
  cases x <;> try exact (show False from hs).elim
  refine ⟨⟨_, d1⟩, G, ρ, _, r.step e1, h1, fun y u H2 h2 e2 d2 => ?_⟩
  have r2 := (r.step e1).step e2
  exact hr G H2 _ v [y] [u] k Q r2.ok h2 (((r.step e1).evo e2).dt _ _ d1) ⟨u, [], rfl, d2, rfl⟩ fun d w H3 h3 e3 d3 => q d w H3 h3 ((e1.trans e2).trans e3) d3
end
noncomputable def splitM : MDD
  | .str a, [.str b], k => ((b.length == 0) = false ∧ a.length + 2 ≤ sizeLine) ∧ k (.lst ((Txt.split a b).map .str))
  | _, _, _ => False
theorem dtl_strs {K : PySem.W.Frag} {G : Gh} {H : Hp} : ∀ ys : List Str, DtL K G H (ys.map .str) (ys.map .str)
  | [] => rfl
  | y :: ys => ⟨.str y, _, rfl, rfl, dtl_strs ys⟩
section
variable {X : Cx} {F : Fr} {o e : Expr} {to te : TD} {ta : TLD} {apos pos : Pos}
theorem d_split (ho : PE X o (lift F to)) (he : PE X e (lift F te)) (hs : starEach [e] X.env = [(false, eval e X.env)] := by rfl) (hbase : attributeBase o "split" X.env (eval o X.env) = eval o X.env := by rfl) (hline : (apos.endLine == pos.line) = true := by rfl) :
    PE X (.Call (.Attribute o "split" apos) [e] [] pos) (lift F (methT splitM (onT isStr to) (consA te nilA))) := by
  refine d_m1 (fun G H x v ds vs k Q ok h hx hl q => ?_) (pe_split ho he hs hbase hline)
  unfold splitM at h
  split at h
  · obtain ⟨u, rfl, hu⟩ := dl1 hl
    obtain rfl := hx
    obtain rfl := hu
    refine ⟨_, _, rfl, rfl, h.1.1, h.1.2, fun p hp => ?_⟩
    exact q _ _ _ h.2 (Ext.new ok.bag hp) ⟨p, _, rfl, fun z => by have m := ok.tr p z; rw [hp] at m; exact m, upd_same, dtl_strs _⟩
  · exact h.elim
end
/-! ### dicts -/
noncomputable def keyD : D → Option Key
  | .int i => some (.inl i)
  | .str x => some (.inr x)
  | _ => none
noncomputable def valD : List (D × D) → Key → Option D
  | [], _ => none
  | (k, d) :: es, j => if keyD k = some j then some d else valD es j
theorem keyD_kD (j : Key) : keyD (kD j) = some j := by cases j <;> rfl
theorem DtP.val {K : PySem.W.Frag} {G : Gh} {H : Hp} {j : Key} {t : Bool} : ∀ {es : List (D × D)} {kvs : List (Key × V)}, DtP K G H t es kvs → (valD es j = none ∧ valV kvs j = none) ∨ ∃ d v, valD es j = some d ∧ valV kvs j = some v ∧ Dt K G H d v
  | [], _, h => by
    obtain ⟨rfl, _⟩ := h
    exact .inl ⟨rfl, rfl⟩
  | (k, d) :: es, _, h => by
    obtain ⟨i, v, r, rfl, rfl, h1, h2⟩ := h
    by_cases e : i = j
    · subst e
      exact .inr ⟨d, v, by simp [valD, keyD_kD], valV_pos rfl, h1⟩
    · have n : ¬ keyD (kD i) = some j := by rw [keyD_kD]; exact fun z => e (Option.some.inj z)
      rw [valV_neg (p := (i, v)) e]
      simp only [valD, if_neg n]
      exact DtP.val h2
theorem DtP.kind {K : PySem.W.Frag} {G : Gh} {H : Hp} {t : Bool} : ∀ {es : List (D × D)} {kvs : List (Key × V)}, DtP K G H t es kvs → t = false
  | [], _, h => h.2
  | (k, d) :: es, _, h => by
    obtain ⟨i, v, r, rfl, rfl, h1, h2⟩ := h
    exact DtP.kind h2
theorem DtQ.kind {K : PySem.W.Frag} {G : Gh} {H : Hp} {t : Bool} : ∀ {es : List (D × D)} {kvs : List (List Key × V)}, DtQ K G H t es kvs → t = true
  | [], _, h => h.2
  | (k, d) :: es, _, h => by
    obtain ⟨i, v, r, rfl, rfl, h1, h2⟩ := h
    exact DtQ.kind h2
theorem dic_K {K : PySem.W.Frag} {G : Gh} {H : Hp} {es : List (D × D)} {v : V} (h : Dt K G H (.dic false es) v) : ∃ a kvs, v = .ref a ∧ ¬ G.own a ∧ Rd H a (.dK kvs) ∧ DtP K G H false es kvs := by
  obtain ⟨a, rfl, n, h⟩ := h
  rcases h with ⟨kvs, h1, h2⟩ | ⟨kvs, h1, h2⟩
  · exact ⟨a, kvs, rfl, n, h1, h2⟩
  · cases h2.kind
theorem keyD_kV {K : PySem.W.Frag} {G : Gh} {H : Hp} {y : D} {v : V} {j : Key} (h : keyD y = some j) (hy : Dt K G H y v) : v = kV j := by
  cases y <;> simp only [keyD, Option.some.injEq, reduceCtorEq] at h
  · subst h; exact hy
  · subst h; exact hy
noncomputable def getT (t tk td : TD) : TD := fun ρ k => t ρ fun x => (∃ es, x = .dic false es) ∧ tk ρ fun y => td ρ fun z => match x with
  | .dic _ es => optK (keyD y) fun j => k ((valD es j).getD z)
  | _ => False
/-! ### repr -/
noncomputable def reprR : RD
  | [d], k => (d.py.canLay0 = true ∧ d.py.showable = true ∧ d.py.depth ≤ 140 ∧ d.py.shown.length ≤ sizeLine) ∧ k (.str d.py.shown)
  | _, _ => False
noncomputable def rRepr (K : PySem.W.Frag) : List V → Hp → VK → Prop := fun xs H Q => ∃ x d, xs = [x] ∧ Dp K H x d ∧ d.canLay0 = true ∧ d.showable = true ∧ d.depth ≤ 140 ∧ d.shown.length ≤ sizeLine ∧ Q (.str d.shown) H
theorem cr_repr {X : Cx} {n : Nat} (hr : Room n X.A) (hg : X.A.guards = some []) : CallR X (.builtin "repr") (rRepr X.K) := by
  intro pins s σ H xs us Q I r h
  obtain ⟨x, d, rfl, hd, c, hs, hdp, hz, q⟩ := h
  obtain ⟨u, rfl, rx⟩ := vals1 r
  obtain ⟨as, rd⟩ := Dp.reads I d x u hd rx
  have hu := u150 hr
  have fin : ∀ k, EP X pins σ Q (.str d.shown k) { s with toks := s.toks + 1 } := fun k => ⟨.str d.shown, H, I.tok _, ⟨_, rfl⟩, q⟩
  cases hd with
  | non =>
    obtain rfl : u = .none := rx
    simp only [PyData.shown] at fin
    exact P.repr_of_none (fin _)
  | bl b =>
    obtain rfl : u = .bool b := rx
    simp only [PyData.shown] at fin
    exact P.repr_of_bool (fin _)
  | int i =>
    obtain ⟨t, rfl⟩ := rx
    simp only [PyData.shown] at fin
    exact P.repr_of_int (by simpa [PyData.showable] using hs) (fin _)
  | str z =>
    obtain ⟨t, rfl⟩ := rx
    simp only [PyData.shown] at fin hz
    exact P.repr_of_str (fin _) hz
  | _ =>
    cases rx
    refine repr_of_reads' rd hs (PyData.noDict_hsm (PyData.hasDict_of_canLay _ c)) hg (by omega) (fun _ _ e => e) (fun h' u tk hk => ?_) hz
    exact ⟨.str _, H, I.kept hk, ⟨_, rfl⟩, q⟩
theorem ok_repr {F : Fr} : OkCall F (rRepr F.K) reprR := by
  intro G H ds vs k Q ⟨ob, oi, tr, bg, _⟩ h hd q
  unfold reprR at h
  split at h
  · obtain ⟨v, rfl, hv⟩ := dl1 hd
    exact ⟨v, _, rfl, Dt.dp _ v h.1.1 hv, h.1.1, h.1.2.1, h.1.2.2.1, h.1.2.2.2, q _ _ _ h.2 (.refl bg) rfl⟩
  · exact h.elim
section
variable {X : Cx} {F : Fr} {p pos : Pos} {e : Expr} {ta : TLD}
theorem d_repr {n : Nat} (hr : Room n X.A) (hgd : X.A.guards = some []) (hg : Gl X "repr") (hm : X.mg "repr" = none) (ha : PA X [e] (liftA F ta)) (he : starEach [e] X.env = (false, eval e X.env) :: starEach [] X.env := by rfl) (hK : X.K = F.K := by rfl) :
    PE X (.Call (.Name "repr" p) [e] [] pos) (lift F (callT reprR ta)) := d_callB (cr_repr hr hgd) (hK ▸ ok_repr) hg hm (by decide +kernel) ha (by decide) (by decide) he
end
end DL
set_option Elab.async false
set_option linter.all false
set_option maxRecDepth 100000
set_option maxHeartbeats 4000000
namespace DL
open PySem PySem.Spec PyProof.Rows L2
/-! ### the bag: its numbers are any that are not below 0 -/
theorem BagOk.apart {H : Hp} {bg bi : Addr} (h : BagOk H bg bi) : bi ≠ bg := by
  obtain ⟨x, y, z, ns, h1, h2, _⟩ := h
  intro e
  rw [e, h1] at h2
  cases ns with
  | nil => cases h2
  | cons a ns =>
    cases ns with
    | nil => cases h2
    | cons b ns =>
      cases ns with
      | nil => cases h2
      | cons c ns =>
        cases ns with
        | nil => cases h2
        | cons d ns => cases h2
theorem BagOk.put {H : Hp} {bg bi : Addr} (h : BagOk H bg bi) {x y z : Int} (hx : 0 ≤ x) (hy : 0 ≤ y) (hz : 0 ≤ z) : BagOk (upd H bg (.lst [.int x, .int y, .int z, .ref bi])) bg bi := by
  have n := h.apart
  obtain ⟨x', y', z', ns, h1, h2, q1, q2, q3, q⟩ := h
  exact ⟨x, y, z, ns, upd_same, by rw [upd_ne n]; exact h2, hx, hy, hz, q⟩
theorem Ext.bagput {G : Gh} {H : Hp} (h : BagOk H G.bg G.bi) {x y z : Int} (hx : 0 ≤ x) (hy : 0 ≤ y) (hz : 0 ≤ z) : Ext G H (upd H G.bg (.lst [.int x, .int y, .int z, .ref G.bi])) :=
  ⟨fun a o n e => .inl (by rw [upd_ne n]; exact e), h.put hx hy hz, h⟩
noncomputable def bagT (c : Int) (t : TD) : TD := fun ρ k => t ρ fun d => d = .bag ∧ (c = 0 ∨ c = 1 ∨ c = 2) ∧ ∀ x : Int, 0 ≤ x → k (.int x)
noncomputable def cutBT (t : TD) (l : TO2) : TD := fun ρ k => t ρ fun d => d = .bag ∧ l ρ fun _ => ∀ ns : List Int, (∀ n ∈ ns, 0 ≤ n) → ns.length ≤ 63 → k (.lst (ns.map .int))
noncomputable def putBT (c : Int) (t u : TD) : TSD := fun k ρ => u ρ fun d => t ρ fun b => b = .bag ∧ (c = 0 ∨ c = 1 ∨ c = 2) ∧ ∃ x : Int, 0 ≤ x ∧ d = .int x ∧ k.nx ρ
noncomputable def augBT (c : Int) (t u : TD) : TSD := fun k ρ => t ρ fun b => b = .bag ∧ (c = 0 ∨ c = 1 ∨ c = 2) ∧ u ρ fun d => ∃ x : Int, 0 ≤ x ∧ d = .int x ∧ k.nx ρ
theorem bag_at {G : Gh} {H : Hp} {c : Int} (h : BagOk H G.bg G.bi) (hc : c = 0 ∨ c = 1 ∨ c = 2) : ∃ (xs : List V) (x : Int), H G.bg = some (.lst xs) ∧ L2.atI xs c = some (.int x) ∧ xs[c.toNat]? = some (.int x) ∧ 0 ≤ x := by
  obtain ⟨x, y, z, ns, h1, h2, p1, p2, p3, _⟩ := h
  rcases hc with rfl | rfl | rfl
  · exact ⟨_, x, h1, rfl, rfl, p1⟩
  · exact ⟨_, y, h1, rfl, rfl, p2⟩
  · exact ⟨_, z, h1, rfl, rfl, p3⟩
theorem bag_put {G : Gh} {H : Hp} {c w : Int} (h : BagOk H G.bg G.bi) (hc : c = 0 ∨ c = 1 ∨ c = 2) (hw : 0 ≤ w) : ∃ (xs : List V) (j : Nat), H G.bg = some (.lst xs) ∧ ixN xs.length c = some j ∧ Ext G H (upd H G.bg (.lst (xs.set j (.int w)))) := by
  have h' := h
  obtain ⟨x, y, z, ns, h1, h2, p1, p2, p3, _⟩ := h'
  rcases hc with rfl | rfl | rfl
  · exact ⟨_, 0, h1, rfl, Ext.bagput h hw p2 p3⟩
  · exact ⟨_, 1, h1, rfl, Ext.bagput h p1 hw p3⟩
  · exact ⟨_, 2, h1, rfl, Ext.bagput h p1 p2 hw⟩
section
variable {X : Cx} {F : Fr} {b e lo : Expr} {tb te : TD} {tl : TO2} {c : Int} {j j3 : Nat} {pos p2 p3 cpos tpos : Pos}
theorem d_bag (he : PE X b (lift F tb)) (hs : PlainIx (.Constant (.int c) j cpos) := by intro _ _; rfl) (hK : X.K = F.K := by rfl) : PE X (.Subscript b (.Constant (.int c) j cpos) pos) (lift F (bagT c tb)) := by
  refine pe_imp (pe_ix ix_list he pe_int hs) fun σ H Q ⟨G, ρ, k, r, h, q⟩ => ⟨G, ρ, _, r, h, fun d v H1 ⟨hd, hc, h1⟩ e1 d1 => ?_⟩
  subst hd
  obtain rfl := d1
  obtain ⟨xs, x, g1, g2, g3, g4⟩ := bag_at (r.step e1).bag hc
  exact ⟨_, xs, c, _, rfl, rfl, SqL.of g1, g2, q _ _ H1 (h1 x g4) e1 rfl⟩
theorem cut_ints {ns : List Int} {lo hi : Option Int} : ∃ ms : List Int, cutV (ns.map V.int) lo hi = ms.map V.int ∧ (∀ m ∈ ms, m ∈ ns) ∧ ms.length ≤ ns.length := by
  refine ⟨(ns.drop (HT.sIx ns.length 0 lo)).take (HT.sIx ns.length ns.length hi - HT.sIx ns.length 0 lo), ?_, fun m hm => List.mem_of_mem_drop (List.mem_of_mem_take hm), ?_⟩
  · unfold cutV
    rw [List.map_take, List.map_drop, List.length_map]
  · rw [List.length_take, List.length_drop]; omega
theorem d_bagcut (he : PE X b (lift F tb)) (hl : PO X (some lo) (liftO F tl)) (hs : PlainIx (.Constant (.int 3) j3 cpos) := by intro _ _; rfl) (hK : X.K = F.K := by rfl) :
    PE X (.Subscript (.Subscript b (.Constant (.int 3) j3 cpos) p3) (.Slice (some lo) none none p2) pos) (lift F (cutBT tb tl)) := by
  refine pe_imp (pe_slice sl_list (pe_ix ix_list he pe_int hs) hl po_none) fun σ H Q ⟨G, ρ, k, r, h, q⟩ => ⟨G, ρ, _, r, h, fun d v H1 ⟨hd, h1⟩ e1 d1 => ?_⟩
  subst hd
  obtain rfl := d1
  have r1 := r.step e1
  obtain ⟨x, y, z, ns, g1, g2, _⟩ := r1.bag
  refine ⟨_, _, 3, .ref G.bi, rfl, rfl, SqL.of g1, rfl, G, ρ, _, r1, h1, fun o H2 h2 e2 => ?_⟩
  have r2 := r1.step e2
  obtain ⟨x, y, z, ns, g1, g2, p1, p2, p3, p4, p5⟩ := r2.bag
  refine ⟨G.bi, _, rfl, SqL.of g2, fun p hp => ?_⟩
  have e3 : ∀ {o : HO}, Ext G H2 (upd H2 p o) := Ext.new r2.bag hp
  obtain ⟨ms, hm, hin, hle⟩ := cut_ints (ns := ns) (lo := o) (hi := none)
  rw [hm]
  refine q _ _ _ (h2 ms (fun n hn => p4 n (hin n hn)) (by omega)) ((e1.trans e2).trans e3) ⟨p, _, rfl, r2.free hp, upd_same, ?_⟩
  have : ∀ (ms : List Int) (H : Hp), DtL F.K G H (ms.map .int) (ms.map .int) := fun ms H => by
    induction ms with
    | nil => rfl
    | cons a ms ih => exact ⟨.int a, _, rfl, rfl, ih⟩
  exact this _ _
theorem s_bagput {x : Str} {px : Pos} {i : Nat} (he : PE X e (lift F te)) (hN : X.N[i]? = some x := by rfl) (hv : Vis X.env.scope x := by first | exact Or.inl rfl | exact Or.inr (Or.inl rfl) | exact Or.inr (Or.inr rfl)) (hd : (x == ("__debug__" : Str)) = false := by decide)
    (hcd : (x == ("__classdict__" : Str)) = false := by decide)
    (hsub : ∀ v, assign (.Subscript (.Name x px) (.Constant (.int c) j cpos) tpos) X.env v = (do
      let ov ← holding [v] (eval (.Name x px) X.env)
      let iv ← holding [v, ov] (eval (.Constant (.int c) j cpos) X.env)
      standAt tpos
      holding [v, ov, iv] (setItem ov iv v)
      release [v, ov, iv] []) := by intro _; rfl)
    (hs : swapsWithSole [.Subscript (.Name x px) (.Constant (.int c) j cpos) tpos] e pos.line X.env = pure false := by rfl) (hw : swappedStores [.Subscript (.Name x px) (.Constant (.int c) j cpos) tpos] e X.env = pure none := by rfl)
    (h1 : (assignEach [.Subscript (.Name x px) (.Constant (.int c) j cpos) tpos] X.env).map (·.2) = [assign (.Subscript (.Name x px) (.Constant (.int c) j cpos) tpos) X.env] := by rfl) :
    PS X (.Assign [.Subscript (.Name x px) (.Constant (.int c) j cpos) tpos] e pos) (liftS F (putBT c (nameT i) te)) := by
  refine ps_imp (ps_asg he (pg_sub (d_name (F := F) i hN hv hd hcd) pe_int set_list hsub) hs hw h1) fun E σ H ⟨G, ρ, k, r, h, o⟩ => ?_
  refine ⟨G, ρ, _, r, h, fun d v H1 h1 x1 d1 => ?_⟩
  have r1 := r.step x1
  refine ⟨G, ρ, _, r1, h1, fun b u H2 ⟨hb, hc, w, hw, hdw, hk⟩ x2 d2 => ?_⟩
  subst hb hdw
  obtain rfl := d2
  obtain rfl := d1
  have r2 := r1.step x2
  obtain ⟨xs, n, g1, g2, g3⟩ := bag_put r2.bag hc hw
  exact ⟨_, xs, c, n, rfl, rfl, g1, g2, o.nx _ G σ _ hk (r2.step g3)⟩
noncomputable def rGetL0 : V → V → Hp → VK → Prop := fun o i H Q => ∃ p xs k v, o = .ref p ∧ i = .int k ∧ 0 ≤ k ∧ k < 2 ^ 63 ∧ H p = some (.lst xs) ∧ xs[k.toNat]? = some v ∧ Q v H
theorem get_list0 : PGet X rGetL0 := by
  intro pins s σ H o i ov iv Q I ro ri h
  obtain ⟨p, xs, k, v, rfl, rfl, h0, h1, hp, hx, q⟩ := h
  cases ro
  obtain ⟨t, rfl⟩ := ri
  obtain ⟨its, r, pl, hz⟩ := I.list (SqL.of hp)
  obtain ⟨w, ew, rw'⟩ := r.get hx
  exact wpAny_getItem_list pl.isList h0 h1 (by simpa using ew) ⟨v, H, I, rw', q⟩
theorem s_bagaug {x : Str} {px : Pos} {i : Nat} (he : PE X e (lift F (cT (.int 1)))) (hN : X.N[i]? = some x := by rfl) (hv : Vis X.env.scope x := by first | exact Or.inl rfl | exact Or.inr (Or.inl rfl) | exact Or.inr (Or.inr rfl)) (hd : (x == ("__debug__" : Str)) = false := by decide)
    (hcd : (x == ("__classdict__" : Str)) = false := by decide)
    (ha : ∀ ov iv new, augStore (.Constant (.int c) j cpos) ov iv new = (do holding [new, ov, iv] (setItem ov iv new); release [new, ov, iv] []; pure .next) := by intros; rfl) :
    PS X (.AugAssign (.Subscript (.Name x px) (.Constant (.int c) j cpos) tpos) .Add e pos) (liftS F (augBT c (nameT i) (cT (.int 1)))) := by
  refine ps_imp (ps_augS (d_name (F := F) i hN hv hd hcd) pe_int get_list0 he ip_add set_list ha) fun E σ H ⟨G, ρ, k, r, h, o⟩ => ?_
  refine ⟨G, ρ, _, r, h, fun b u H1 ⟨hb, hc, hk⟩ x1 d1 => ?_⟩
  subst hb
  obtain rfl := d1
  obtain ⟨w, hw, hdw, hk⟩ := hk
  cases hdw
  have r1 := r.step x1
  obtain ⟨xs, x, g1, g2, g3, g4⟩ := bag_at r1.bag hc
  refine ⟨_, xs, c, _, rfl, rfl, by omega, by omega, g1, g3, G, ρ, fun d => d = .int 1, r1, rfl, fun d v H2 hd1 x2 d2 => ?_⟩
  subst hd1
  obtain rfl := d2
  have r2 := r1.step x2
  obtain ⟨ys, n, f1, f2, f3⟩ := bag_put r2.bag hc (w := x + 1) (by omega)
  exact ⟨x, 1, rfl, rfl, _, ys, c, n, rfl, rfl, f1, f2, o.nx _ G σ _ hk (r2.step f3)⟩
end
end DL
set_option Elab.async false
set_option linter.all false
set_option maxRecDepth 100000
set_option maxHeartbeats 4000000
namespace DL
open PySem PySem.Spec PyProof.Rows L2
noncomputable def negT (t : TD) : TD := fun ρ k => t ρ fun d => match d with
  | .int i => k (.int (-i))
  | _ => False
/-- a, b = e, stored from the left -/
noncomputable def tgtT (t : Tg) (u : TD) : TSD := fun k ρ => u ρ fun d => tgD t d ρ k.nx
/-- all that is asked of a def to call it, where nothing of the frame is told -/
structure CalP (P : Program) (w : World) (K : PySem.W.Frag) (mg : Str → Option Value) (base : Heap) (n : Nat) (x : Str) (R : RD) : Prop where
  ex : ∃ (f : Addr) (fd : FuncData) (ps : List Str) (k : Nat), k ≤ n ∧ FnG P w K mg base CX0 k f fd ps (spD K R) ∧ mg x = some (.ref f) ∧ PySem.W.keepIn K (.ref f) = true ∧ Binds K fd ps []
section
variable {P : Program} {w : World} {K : PySem.W.Frag} {mg : Str → Option Value} {base : Heap} {n m : Nat} {x : Str} {R R' : RD}
theorem FnG.never {f : Addr} {fd : FuncData} {ps : List Str} (h : ∀ ds k, ¬ R ds k) : FnG P w K mg base CX0 n f fd ps (spD K R) :=
  ⟨fun vs H Q E q => by obtain ⟨_, ds, k, _, _, z, _⟩ := q; exact absurd z (h ds k), fun A outer s H args us vs Q E _ _ _ _ _ q => by obtain ⟨_, ds, k, _, _, z, _⟩ := q; exact absurd z (h ds k)⟩
theorem CalP.mono (c : CalP P w K mg base n x R) (h : n ≤ m) : CalP P w K mg base m x R := by
  obtain ⟨f, fd, ps, k, hk, r⟩ := c.ex
  exact ⟨f, fd, ps, k, Nat.le_trans hk h, r⟩
theorem CalP.imp (c : CalP P w K mg base n x R) (h : ∀ ds k, R' ds k → R ds k) : CalP P w K mg base n x R' := by
  obtain ⟨f, fd, ps, k, hk, fn, r⟩ := c.ex
  refine ⟨f, fd, ps, k, hk, fn.imp fun vs H Q E q => ?_, r⟩
  obtain ⟨G, ds, κ, a, b, c, d⟩ := q
  exact ⟨G, ds, κ, a, b, h _ _ c, d⟩
theorem CalP.of {f : Addr} {fd : FuncData} {ps : List Str} {q : Str} {st : Stmt} (fn : FnG P w K mg base CX0 n f fd ps (spD K R)) (hm : mg x = some (.ref f)) (F : Fun K x q st f fd) (hb : Binds K fd ps []) : CalP P w K mg base n x R := ⟨f, fd, ps, n, Nat.le_refl _, fn, hm, F.kp, hb⟩
end
end DL
set_option Elab.async false
set_option linter.all false
set_option maxRecDepth 100000
set_option maxHeartbeats 4000000
namespace DL
open PySem PySem.Spec PyProof.Rows L2
/-! ### the operations, told one by one -/
section
variable {i j : Int} {a b : Bool} {x y : Str} {d e : D} {ds es : List D} {k : D → Prop} {kb : Bool → Prop} {lo hi : Option Int}
theorem addD_ii : addD (.int i) (.int j) k = k (.int (i + j)) := rfl
theorem addD_ib : addD (.int i) (.bl b) k = k (.int (i + PyProof.Rows.b2i b)) := rfl
theorem addD_ss : addD (.str x) (.str y) k = (x.length + y.length ≤ sizeLine ∧ k (.str (x ++ y))) := rfl
theorem addD_ll : addD (.lst ds) (.lst es) k = (ds.length + es.length ≤ sizeLine ∧ k (.lst (ds ++ es))) := rfl
theorem addD_tt : addD (.tup ds) (.tup es) k = (ds.length + es.length ≤ sizeLine ∧ k (.tup (ds ++ es))) := rfl
theorem subD_ii : subD (.int i) (.int j) k = k (.int (i - j)) := rfl
theorem mulD_ii : mulD (.int i) (.int j) k = (CMul i j ∧ k (.int (i * j))) := rfl
theorem mulD_li : mulD (.lst ds) (.int j) k = ((-(2 ^ 63) ≤ j ∧ j < 2 ^ 63) ∧ ds.length * j.toNat ≤ sizeLine ∧ k (.lst (List.replicate j.toNat ds).flatten)) := rfl
theorem fdivD_ii : fdivD (.int i) (.int j) k = (CDiv i j ∧ k (.int (i / j))) := rfl
theorem modD_ii : modD (.int i) (.int j) k = (0 < j ∧ k (.int (i % j))) := rfl
theorem cmpI_ii {f : Int → Int → Bool} : cmpI f (.int i) (.int j) k = k (.bl (f i j)) := rfl
theorem eqB_ss : eqB (.str x) (.str y) kb = kb (decide (x = y)) := rfl
theorem eqB_ii : eqB (.int i) (.int j) kb = kb (decide (i = j)) := rfl
theorem eqB_bb : eqB (.bl a) (.bl b) kb = kb (decide (a = b)) := rfl
theorem eqB_tt : eqB (.tup ds) (.tup es) kb = (eqOk (.tup ds) (.tup es) ∧ kb (PyData.eqv (D.tup ds).py (D.tup es).py)) := rfl
theorem eqB_ll : eqB (.lst ds) (.lst es) kb = (eqOk (.lst ds) (.lst es) ∧ kb (PyData.eqv (D.lst ds).py (D.lst es).py)) := rfl
theorem inB_l : inB d (.lst es) kb = (inOk d es ∧ kb (es.any fun z => PyData.eqv z.py d.py)) := rfl
theorem inB_t : inB d (.tup es) kb = (inOk d es ∧ kb (es.any fun z => PyData.eqv z.py d.py)) := rfl
theorem ixD_l : ixD (.lst ds) (.int i) k = optK (L2.atI ds i) k := rfl
theorem ixD_t : ixD (.tup ds) (.int i) k = optK (L2.atI ds i) k := rfl
theorem ixD_s : ixD (.str x) (.int i) k = (x.length ≤ sizeLine ∧ optK (L2.atI x.cps.toList i) fun c => k (.str ⟨#[c]⟩)) := rfl
theorem slD_l : slD (.lst ds) lo hi k = k (.lst (cutL ds lo hi)) := rfl
theorem slD_t : slD (.tup ds) lo hi k = k (.tup (cutL ds lo hi)) := rfl
theorem truD_b : truD (.bl b) kb = kb b := rfl
theorem truD_i : truD (.int i) kb = kb (i != 0) := rfl
theorem truD_n : truD .non kb = kb false := rfl
theorem truD_s : truD (.str x) kb = (x.length ≤ sizeLine ∧ kb ((x.length : Int) != 0)) := rfl
theorem truD_l : truD (.lst ds) kb = kb (!ds.isEmpty) := rfl
theorem truD_t : truD (.tup ds) kb = kb (!ds.isEmpty) := rfl
theorem intR_i : intR [.int i] k = k (.int i) := rfl
theorem intR_b : intR [.bl b] k = k (.int (if b then 1 else 0)) := rfl
theorem lenR_s : lenR [.str x] k = (x.length ≤ sizeLine ∧ k (.int x.length)) := rfl
theorem lenR_l : lenR [.lst ds] k = k (.int ds.length) := rfl
theorem lenR_t : lenR [.tup ds] k = k (.int ds.length) := rfl
theorem absR_i : absR [.int i] k = k (.int (if i < 0 then -i else i)) := rfl
theorem minR_ii : minR [.int i, .int j] k = k (.int (if j < i then j else i)) := rfl
theorem maxR_ii : maxR [.int i, .int j] k = k (.int (if j > i then j else i)) := rfl
theorem tupR_l : tupR [.lst ds] k = k (.tup ds) := rfl
theorem tupR_t : tupR [.tup ds] k = k (.tup ds) := rfl
theorem appD_1 {ts : List Tr} {kl : List Tr → Prop} : appD ts [d] kl = (ts.length < sizeLine ∧ kl (ts ++ [.d d])) := rfl
theorem insD_1 {ts : List Tr} {kl : List Tr → Prop} : insD ts [.int j, d] kl = (ts.length < sizeLine ∧ 0 ≤ j ∧ j < 2 ^ 63 ∧ kl (ts.take j.toNat ++ [.d d] ++ ts.drop j.toNat)) := rfl
theorem extD_1 {ts : List Tr} {kl : List Tr → Prop} : extD ts [.lst es] kl = (ts.length + es.length ≤ sizeLine ∧ kl (ts ++ es.map .d)) := rfl
theorem map_snoc {ds : List D} {d : D} : ds.map Tr.d ++ [.d d] = (ds ++ [d]).map .d := by rw [List.map_append]; rfl
theorem map_ins {ds : List D} {d : D} {n : Nat} : (ds.map Tr.d).take n ++ [.d d] ++ (ds.map Tr.d).drop n = (ds.take n ++ [d] ++ ds.drop n).map .d := by rw [List.map_append, List.map_append, List.map_take, List.map_drop]; rfl
theorem splitM_1 : splitM (.str x) [.str y] k = (((y.length == 0) = false ∧ x.length + 2 ≤ sizeLine) ∧ k (.lst ((Txt.split x y).map .str))) := rfl
theorem optK_some {α : Type} {c : α} {k : α → Prop} : optK (some c) k = k c := propext ⟨fun ⟨_, e, h⟩ => by cases e; exact h, fun h => ⟨_, rfl, h⟩⟩
theorem optK_of {α : Type} {o : Option α} {c : α} {k : α → Prop} (h : o = some c) (hk : k c) : optK o k := ⟨c, h, hk⟩
theorem atI_0 {α : Type} {a : α} {l : List α} : L2.atI (a :: l) 0 = some a := L2.atI_nat (j := 0) rfl
theorem atI_1 {α : Type} {a b : α} {l : List α} : L2.atI (a :: b :: l) 1 = some b := L2.atI_nat (j := 1) rfl
theorem atI_2 {α : Type} {a b c : α} {l : List α} : L2.atI (a :: b :: c :: l) 2 = some c := L2.atI_nat (j := 2) rfl
theorem atI_3 {α : Type} {a b c d : α} {l : List α} : L2.atI (a :: b :: c :: d :: l) 3 = some d := L2.atI_nat (j := 3) rfl
theorem atI_4 {α : Type} {a b c d e : α} {l : List α} : L2.atI (a :: b :: c :: d :: e :: l) 4 = some e := L2.atI_nat (j := 4) rfl
theorem atI_lt {α : Type} {l : List α} {i : Int} (h0 : 0 ≤ i) (h : i < l.length) : ∃ c, L2.atI l i = some c ∧ l[i.toNat]? = some c := by
  have hl : i.toNat < l.length := by omega
  refine ⟨l[i.toNat], ?_, List.getElem?_eq_getElem hl⟩
  have e := L2.atI_nat (List.getElem?_eq_getElem hl)
  rwa [Int.toNat_of_nonneg h0] at e
theorem cutL_from {α : Type} {l : List α} {n : Nat} : cutL l (some (n : Int)) none = l.drop n := by
  unfold cutL
  rw [HT.sIx_nat, HT.sIx_none]
  by_cases h : n ≤ l.length
  · rw [Nat.min_eq_left h, List.take_of_length_le (by rw [List.length_drop]; exact Nat.le_refl _)]
  · rw [Nat.min_eq_right (by omega), List.drop_length, List.drop_of_length_le (by omega)]; simp
theorem cutL_to {α : Type} {l : List α} {n : Nat} : cutL l none (some (n : Int)) = l.take n := by
  unfold cutL
  rw [HT.sIx_nat, HT.sIx_none, List.drop_zero, Nat.sub_zero]
  by_cases h : n ≤ l.length
  · rw [Nat.min_eq_left h]
  · rw [Nat.min_eq_right (by omega), List.take_length, List.take_of_length_le (by omega)]
theorem cutL_1 {α : Type} {l : List α} : cutL l (some 1) none = l.drop 1 := cutL_from (n := 1)
theorem cutL_2 {α : Type} {l : List α} : cutL l (some 2) none = l.drop 2 := cutL_from (n := 2)
theorem cutL_t1 {α : Type} {l : List α} : cutL l none (some 1) = l.take 1 := cutL_to (n := 1)
theorem cutL_t2 {α : Type} {l : List α} : cutL l none (some 2) = l.take 2 := cutL_to (n := 2)
theorem cutL_r {α : Type} {l : List α} {n m : Nat} : cutL l (some (n : Int)) (some (m : Int)) = (l.drop n).take (m - n) := by
  unfold cutL
  rw [HT.sIx_nat, HT.sIx_nat]
  by_cases h : n ≤ l.length
  · rw [Nat.min_eq_left h]
    by_cases h2 : m ≤ l.length
    · rw [Nat.min_eq_left h2]
    · rw [Nat.min_eq_right (by omega : l.length ≤ m), List.take_of_length_le (i := l.length - n) (by simp), List.take_of_length_le (by simp; omega)]
  · rw [Nat.min_eq_right (by omega : l.length ≤ n), List.drop_length, List.drop_of_length_le (by omega : l.length ≤ n)]; simp
end
inductive All2 (R : D → D → Prop) : List D → List D → Prop
  | nil : All2 R [] []
  | cons {a b : D} {as bs : List D} : R a b → All2 R as bs → All2 R (a :: as) (b :: bs)
theorem All2.len {R : D → D → Prop} {as bs : List D} (h : All2 R as bs) : bs.length = as.length := by
  induction h with
  | nil => rfl
  | cons _ _ ih => simp [ih]
theorem All2.out {R : D → D → Prop} {as bs : List D} (h : All2 R as bs) : ∀ b ∈ bs, ∃ a ∈ as, R a b := by
  induction h with
  | nil => intro b hb; cases hb
  | cons hr _ ih =>
    intro b hb
    rcases List.mem_cons.mp hb with rfl | hb
    · exact ⟨_, List.mem_cons_self, hr⟩
    · obtain ⟨a, ha, r⟩ := ih b hb
      exact ⟨a, List.mem_cons_of_mem _ ha, r⟩
theorem All2.map {f : D → D} {as bs : List D} (h : All2 (fun a b => b = f a) as bs) : bs = as.map f := by
  induction h with
  | nil => rfl
  | cons hr _ ih => rw [hr, ih]; rfl
/-! ### comprehensions, loops -/
theorem compT_ind {t : Tg} {te : TD} {ρ : List Sl} {R : D → D → Prop} {k : List D → Prop} : ∀ {ds acc : List D}, (∀ d ∈ ds, ∀ κ : D → Prop, (∀ e, R d e → κ e) → tgD t d ρ fun ρ1 => te ρ1 κ) → (∀ es, All2 R ds es → k (acc ++ es)) → compT t yesT te ρ ds acc k
  | [], acc, _, hk => by
    have h := hk [] .nil
    rw [List.append_nil] at h
    exact h
  | d :: ds, acc, hd, hk => by
    have mono : ∀ {P Q : List Sl → Prop}, (∀ ρ, P ρ → Q ρ) → tgD t d ρ P → tgD t d ρ Q := fun {P Q} f h => by
      cases t with
      | nm i => exact f _ h
      | tp is => cases d <;> first | exact h.elim | exact ⟨h.1, f _ h.2⟩
    show tgD t d ρ fun ρ1 => te ρ1 fun e => compT t yesT te ρ ds (acc ++ [e]) k
    refine hd d List.mem_cons_self _ fun e he => ?_
    refine compT_ind (fun d' h' => hd d' (List.mem_cons_of_mem _ h')) fun es h => ?_
    rw [List.append_assoc]
    exact hk (e :: es) (.cons he h)
theorem loopT_ind {t : Tg} {S : TSD} {k : DE} (I : List D → List Sl → Prop) (hn : ∀ ρ, I [] ρ → k.nx ρ)
    (hs : ∀ d ds ρ (N : List Sl → Prop), (∀ ρ', I ds ρ' → N ρ') → I (d :: ds) ρ → tgD t d ρ fun ρ1 => S { nx := N, rt := k.rt, bk := k.nx, ct := N, rp := k.rp } ρ1) : ∀ {ds : List D} {ρ : List Sl}, I ds ρ → loopT t S k ds ρ
  | [], ρ, h => hn ρ h
  | d :: ds, ρ, h => hs d ds ρ _ (fun ρ' h' => loopT_ind I hn hs h') h
end DL
set_option Elab.async false
set_option linter.all false
set_option maxRecDepth 100000
set_option maxHeartbeats 4000000
namespace DL
open PySem PySem.Spec L2
/-! ### the bag is made -/
noncomputable def bagQ (K : PySem.W.Frag) (c : Int) (H : Hp) (Q : VK) : Prop := ∀ (p L : Addr) (H' : Hp) (ms : List Int), (∀ b o, H b = some o → H' b = some o) → H p = none → H L = none → H' p = some (.lst [.int 0, .int c, .int 0, .ref L]) → H' L = some (.lst (ms.map V.int)) →
  (∀ m ∈ ms, 0 ≤ m) → ms.length ≤ 63 → Q (.ref p) H'
noncomputable def spBag (K : PySem.W.Frag) (c : Int) : Sp := fun vs H Q _ => ∃ (a : Addr) (ns : List Int), vs = [.ref a] ∧ SqL K H a (ns.map V.int) ∧ ns.length ≤ 63 ∧ bagQ K c H Q
noncomputable def rAbsI : List V → Hp → VK → Prop := fun xs H Q => ∃ i, xs = [.int i] ∧ Q (.int (if i < 0 then -i else i)) H
theorem SqL.kp {K : PySem.W.Frag} {H H' : Hp} {a : Addr} {xs : List V} (k : ∀ o, H a = some o → H' a = some o) (h : SqL K H a xs) : SqL K H' a xs := by
  rcases h with h | h
  · exact .inl (Rd.kp k h)
  · exact .inr h
theorem bag_te {K : PySem.W.Frag} {c : Int} {σ : L2.St} {H : Hp} {Q : VK} {a : Addr} {ns : List Int} (h0 : σ[0]? = some (some (.ref a))) (h2 : σ.length = 2) (hs : SqL K H a (ns.map V.int)) (hl : ns.length ≤ 63) (hq : bagQ K c H Q) :
    tLst (tCons (tC (.int 0)) (tCons (tC (.int c)) (tCons (tC (.int 0)) (tCons (tLc (iList K (tSl (rSlL K) (tVar 0) tNoPart (tPart (tC (.int 63))))) (gName 1) tYes (tCB rAbsI (tCons (tVar 1) tNil)) [1]) tNil)))) σ H Q := by
  have hsl : sizeLine = 16777216 := sizeLine_eq
  obtain ⟨ms, hm, hin, hle⟩ := cut_ints (ns := ns) (lo := none) (hi := some 63)
  refine ⟨_, h0, 63, rfl, a, _, rfl, hs, fun q hq1 => ⟨q, rfl, ⟨_, SqL.of upd_same⟩, ?_⟩⟩
  rw [hm]
  intro D hD
  have qD : D ≠ q := fun e => by rw [e, upd_same] at hD; cases hD
  have HD : H D = none := by rw [upd_ne qD] at hD; exact hD
  let ab : Int → Int := fun i => if i < 0 then -i else i
  refine ⟨fun i m H' => m = ms.length - i ∧ i ≤ ms.length ∧ (∀ b o, b ≠ D → H b = some o → H' b = some o) ∧ H' q = some (.lst (ms.map V.int)) ∧ H' D = some (.lst ((ms.take i).map fun i => V.int (ab i))), ⟨_, rfl, Nat.zero_le _, fun b o n e => ?_, ?_, upd_same⟩, ?_⟩
  · rw [upd_ne n, upd_ne (ne_of_none e hq1)]; exact e
  · rw [upd_ne (Ne.symm qD), upd_same]
  · rintro i m H' ⟨rfl, hi, kp, hq', hD'⟩
    by_cases hlt : i < ms.length
    · refine .inr ⟨⟨_, .int ms[i], SqL.of hq', by rw [List.getElem?_map, List.getElem?_eq_getElem hlt]; rfl⟩, fun H' => i + 1 ≤ ms.length ∧ (∀ b o, b ≠ D → H b = some o → H' b = some o) ∧ H' q = some (.lst (ms.map V.int)) ∧ H' D = some (.lst ((ms.take (i + 1)).map fun i => V.int (ab i))), fun H' ⟨h1, h2⟩ => ⟨_, by omega, rfl, h1, h2⟩, fun x H2 ⟨e, y⟩ => ?_⟩
      subst e
      have hx := y _ (SqL.of hq')
      rw [List.getElem?_map, List.getElem?_eq_getElem hlt] at hx
      obtain rfl : V.int ms[i] = x := Option.some.inj hx
      refine ⟨by simp [wipe], ?_⟩
      change tCB rAbsI (tCons (tVar 1) tNil) _ _ _
      refine ⟨_, by simp [wipe, h2], ms[i], rfl, _, hD', by rw [List.length_map, List.length_take]; omega, by omega, fun b o n e => ?_, ?_, ?_⟩
      · rw [upd_ne n]; exact kp b o n e
      · rw [upd_ne (Ne.symm qD)]; exact hq'
      · rw [upd_same, List.take_succ_eq_append_getElem hlt, List.map_append]; rfl
    · have e : i = ms.length := by omega
      subst e
      rw [List.take_length] at hD'
      refine .inl ⟨⟨_, SqL.of hq', by rw [List.length_map]; exact Nat.le_refl _⟩, by show 4 ≤ sizeLine; omega, fun p hp => ?_⟩
      have np : p ≠ D := fun e => by rw [e, hD'] at hp; cases hp
      have Hp0 : H p = none := by
        cases z : H p with
        | none => rfl
        | some o => rw [kp p o np z] at hp; cases hp
      refine hq p D _ (ms.map ab) (fun b o e => ?_) Hp0 HD upd_same ?_ (fun m hm' => ?_) (by rw [List.length_map]; omega)
      · have nb : b ≠ D := ne_of_none e HD
        rw [upd_ne (ne_of_none (kp b o nb e) hp)]; exact kp b o nb e
      · rw [upd_ne (Ne.symm np), hD', List.map_map]; rfl
      · obtain ⟨z, _, rfl⟩ := List.mem_map.mp hm'
        show 0 ≤ (if z < 0 then -z else z)
        split <;> omega
theorem Fun.okBag {P : Program} {w : World} {K : PySem.W.Frag} {mg : Str → Option Value} {base : Heap} {x y z qual : Str} {st : Stmt} {f : Addr} {fd : FuncData} {k : Nat} {c : Int} (Fn : Fun K x qual st f fd) (S : FnScope [y, z] [y] (defScope st))
    (hb : ∃ T : TS, (∀ (cdv : Value) (A : Around) (outer : List Env) (s : Shared) (H : Hp) (E : XK), PSs (cxOf CX0 P w K mg base [y, z] qual (defScope st) f cdv A outer s H E).nox (defBody st) T) ∧
      ∀ D σ H, (tRet (tLst (tCons (tC (.int 0)) (tCons (tC (.int c)) (tCons (tC (.int 0)) (tCons (tLc (iList K (tSl (rSlL K) (tVar 0) tNoPart (tPart (tC (.int 63))))) (gName 1) tYes (tCB rAbsI (tCons (tVar 1) tNil)) [1]) tNil)))))) D σ H → T D σ H) : FnG P w K mg base CX0 (k + 1) f fd [y] (spBag K c) := by
  obtain ⟨oc, od, kV, doc, pm, an, cdv, ct, osl, rfl, lk, hcd⟩ := Fn.ex
  obtain ⟨T, hb, hT⟩ := hb
  refine fnG_of lk hcd S (fun vs H Q E h => ?_) fun A outer s H vs Q E hr hg h => ?_
  · obtain ⟨a, ns, rfl, _⟩ := h; rfl
  · obtain ⟨a, ns, rfl, hs, hl, hq⟩ := h
    exact ⟨_, (hb cdv A outer s H E).nox, hT _ _ _ (bag_te rfl rfl hs hl hq)⟩
/-- what is needed of the def that makes the bag -/
structure BagP (P : Program) (w : World) (K : PySem.W.Frag) (mg : Str → Option Value) (base : Heap) (n : Nat) (x : Str) : Prop where
  ex : ∃ (f : Addr) (fd : FuncData) (ps : List Str) (k : Nat) (c : Int), 0 ≤ c ∧ k ≤ n ∧ FnG P w K mg base CX0 k f fd ps (spBag K c) ∧ mg x = some (.ref f) ∧ PySem.W.keepIn K (.ref f) = true ∧ Binds K fd ps []
noncomputable def bagS (K : PySem.W.Frag) : TS := fun E σ H => ∃ (a : Addr) (ns : List Int), σ[0]? = some (some (.ref a)) ∧ SqL K H a (ns.map V.int) ∧ ns.length ≤ 63 ∧ ∀ c : Int, 0 ≤ c → bagQ K c H fun v H' => E.nx (σ.set 1 (some v)) H'
theorem s_bag0 {X : Cx} {n : Nat} {f x y : Str} {px py pf ep pos : Pos} (b : BagP X.prog X.w X.K X.mg X.base n f) (hr : Room n X.A) (hgd : X.A.guards = some []) (hN : X.N.Nodup) (hi : X.N[1]? = some x) (hx : Loc X.env.scope x) (hy : X.N[0]? = some y) (hg : Gl X f)
    (hv : Vis X.env.scope y := by first | exact Or.inl rfl | exact Or.inr (Or.inl rfl) | exact Or.inr (Or.inr rfl)) (hd : (y == ("__debug__" : Str)) = false := by decide) (hcd : (y == ("__classdict__" : Str)) = false := by decide)
    (hdb : (f == ("__debug__" : Str)) = false := by decide) (he : starEach [.Name y py] X.env = (false, eval (.Name y py) X.env) :: starEach [] X.env := by rfl) (hpl : (backTo ep (starEach [] X.env)).any (·.1) = false := by rfl)
    (hs : swapsWith (.Call (.Name f pf) [.Name y py] [] ep) (some (.Name x px)) pos.line X.env = pure false := by rfl) (hf : X.fn x = true ∨ X.env.scope.names.lookup x = some .local := by first | exact .inl rfl | exact .inr rfl | assumption) :
    PS X (.Assign [.Name x px] (.Call (.Name f pf) [.Name y py] [] ep) pos) (bagS X.K) := by
  obtain ⟨fa, fd, ps, k, c, hc, hk, fn, hm, hkp, hb⟩ := b.ex
  have hp := ps_set hN hi hx (peG_call (E := E0) fn (hr.mono hk) hgd hg hm hkp hb .nil pass0 (pa_cons (pe_var hy hv hd hcd) pa_nil he) hdb he hpl) hs hf
  exact ps_imp hp fun D σ H ⟨a, ns, h0, hs, hl, hq⟩ => ⟨_, h0, a, ns, rfl, hs, hl, hq c hc⟩
/-! ### the law's def: a bag, then data -/
/-- the same, tables of code objects told: they are empty -/
noncomputable def spLawT (K : PySem.W.Frag) (T : List (Addr × Str)) : Sp := fun vs H Q _ => ∃ (a : Addr) (ns : List Int), vs = [.ref a] ∧ SqL K H a (ns.map V.int) ∧ ns.length ≤ 63 ∧ (∀ p ∈ T, H p.1 = some (.tbl #[])) ∧ ∀ H', Q (.bl true) H'
noncomputable def endLaw : DE := ⟨fun _ => False, fun t => t = .d (.bl true), fun _ => False, fun _ => False, fun d _ => Tr.d d = .d (.bl true)⟩
end DL
set_option Elab.async false
set_option linter.all false
set_option maxRecDepth 100000
set_option maxHeartbeats 4000000
namespace DL
open PySem PySem.Spec PyProof.Rows L2
end DL
set_option Elab.async false
set_option linter.all false
set_option maxRecDepth 100000
set_option maxHeartbeats 4000000
namespace DL
open PySem PySem.Spec PyProof.Rows L2
/-! ### isinstance -/
noncomputable def tyN : D → Option String
  | .non => some "NoneType" | .bl _ => some "bool" | .int _ => some "int" | .str _ => some "str"
  | .lst _ => some "list" | .tup _ => some "tuple" | .dic false _ => some "dict" | .at _ d => tyN d | _ => none
noncomputable def tyTs : List String := ["bool", "int", "str", "list", "tuple", "dict"]
noncomputable def isT (a T : String) : Bool := a == T || (a == "bool" && T == "int")
noncomputable def isB (d : D) (T : String) : Option Bool := match tyN d with
  | some a => if T ∈ tyTs then some (isT a T) else none
  | none => none
noncomputable def isiT (T : String) (t : TD) : TD := fun ρ k => t ρ fun d => optK (isB d T) fun b => k (.bl b)
noncomputable def isi2T (T U : String) (t : TD) : TD := fun ρ k => t ρ fun d => optK (isB d T) fun b => optK (isB d U) fun c => k (.bl (b || c))
/-! ### chained comparisons, other operators -/
noncomputable def chainT (o o' : OD) (ta tb tc : TD) : TD := fun ρ k => ta ρ fun x => tb ρ fun y => o x y fun z => match z with
  | .bl b => if b = true then tc ρ fun w => o' y w k else k (.bl false)
  | _ => False
/-- one sign in a text -/
noncomputable def inSg : OD := fun x y k => match x, y with
  | .str x, .str z => (∃ c, x = ⟨#[c]⟩) ∧ ∀ c, x = ⟨#[c]⟩ → k (.bl (decide (c ∈ z.cps.toList)))
  | _, _ => False
noncomputable def notInSg : OD := fun x y k => match x, y with
  | .str x, .str z => (∃ c, x = ⟨#[c]⟩) ∧ ∀ c, x = ⟨#[c]⟩ → k (.bl (!decide (c ∈ z.cps.toList)))
  | _, _ => False
end DL
set_option Elab.async false
set_option linter.all false
set_option maxRecDepth 100000
set_option maxHeartbeats 4000000
namespace DL
open PySem PySem.Spec PyProof.Rows L2
/-! ### a tuple so many times -/
/-! ### dicts with text keys, written out -/
section
variable {X : Cx} {F : Fr} {pos p : Pos} {keys : List (Option Expr)} {values : List Expr} {ks : List Str} {ta : TLD} {tv : TD} {v : Expr} {x : Str} {j : Nat}
theorem DtP.zip {K : PySem.W.Frag} {G : Gh} {H : Hp} : ∀ {ks : List Str} {ds : List D} {vs : List V}, DtL K G H ds vs → DtP K G H false ((ks.map D.str).zip ds) ((ks.map fun x => (Sum.inr x : Key)).zip vs)
  | [], ds, vs, h => by simp only [List.map_nil, List.zip_nil_left]; exact ⟨rfl, rfl⟩
  | x :: ks, [], vs, h => by obtain rfl := h; simp only [List.zip_nil_right]; exact ⟨rfl, rfl⟩
  | x :: ks, d :: ds, vs, h => by
    obtain ⟨v, r, rfl, h1, h2⟩ := h
    simp only [List.map_cons, List.zip_cons_cons]
    exact ⟨.inr x, v, _, rfl, rfl, h1, DtP.zip h2⟩
end
end DL
set_option Elab.async false
set_option linter.all false
set_option maxRecDepth 100000
set_option maxHeartbeats 4000000
namespace DL
open PySem PySem.Spec PyProof.Rows L2
/-! ### an owned list read and changed in place -/
noncomputable def ixO (i : Nat) (tb : TD) : TD := fun ρ k => match ρ[i]? with
  | some (.tr (.l ts)) => tb ρ fun d => match d with
    | .int j => ∃ d, L2.atI ts j = some (.d d) ∧ k d
    | _ => False
  | _ => False
/-- a, b = [..] of its own, e -/
noncomputable def parO (i j : Nat) (ta : TRD) (tb : TD) : TSD := fun k ρ => ta ρ fun t => tb ρ fun d => k.nx ((ρ.set i (.tr t)).set j (.dat d))
/-! ### a written dict of the module, asked by get -/
noncomputable def tabT (tab : List (Str × D)) (te tf : TD) : TD := fun ρ k => te ρ fun y => tf ρ fun z => match y with
  | .str x => k (((tab.find? (fun p => decide (p.1 = x))).map (·.2)).getD z)
  | _ => False
end DL
set_option Elab.async false
set_option linter.all false
set_option maxRecDepth 100000
set_option maxHeartbeats 4000000
namespace DL
open PySem PySem.Spec PyProof.Rows L2
/-! ### x == [], x == (): whatever is in x -/
noncomputable def rE0 (K : PySem.W.Frag) : R2 := fun x y H Q => ∃ a b xs, x = .ref a ∧ y = .ref b ∧ ((SqL K H a xs ∧ SqL K H b []) ∨ (SqT K H a xs ∧ SqT K H b [])) ∧ Q (.bl xs.isEmpty) H
section
variable {X : Cx} {F : Fr} {n : Nat} {a b : Expr} {ta tb : TD} {pos : Pos}
theorem op_e0 (hr : Room n X.A) : OpR X (compareOp .Eq) (rE0 X.K) := by
  intro pins s σ H x y v u Q I rx ry h
  obtain ⟨a, b, xs, rfl, rfl, h, q⟩ := h
  cases rx
  cases ry
  have hu : X.A.units < cLine := by have := u150 hr; omega
  rcases h with ⟨h1, h2⟩ | ⟨h1, h2⟩
  · obtain ⟨its, r1, k1, _⟩ := I.list h1
    obtain ⟨its2, r2, k2, _⟩ := I.list h2
    replace k1 : s.heap.IsList a its.toArray := let ⟨o, n, ho, hc, _, hd⟩ := k1; ⟨o, ho, hc, n, hd⟩
    replace k2 : s.heap.IsList b its2.toArray := let ⟨o, n, ho, hc, _, hd⟩ := k2; ⟨o, ho, hc, n, hd⟩
    cases r2
    cases r1 with
    | nil => exact SeqAt.eq_listAt (e := fun _ => true) k1 k2 rfl hu (fun j h => absurd h (Nat.not_lt_zero _)) ⟨.bl true, H, I, rfl, q⟩
    | cons c r => exact SeqAt.eq_list_lengthsAt k1 k2 (by simp) hu ⟨.bl false, H, I, rfl, q⟩
  · obtain ⟨its, r1, k1, _⟩ := I.tuple h1
    obtain ⟨its2, r2, k2, _⟩ := I.tuple h2
    cases r2
    refine SeqAt.eq_tupleAt (e := fun _ => true) k1 k2 hu (fun j _ h => absurd h (Nat.not_lt_zero _)) ?_
    cases r1 with
    | nil => exact ⟨.bl true, H, I, rfl, q⟩
    | cons c r => exact ⟨.bl false, H, I, by simp; rfl, q⟩
end
noncomputable def e0D : OD := fun x y k => match x, y with
  | .lst ds, .lst [] => k (.bl ds.isEmpty)
  | .tup ds, .tup [] => k (.bl ds.isEmpty)
  | _, _ => False
theorem DtL.emp {K : PySem.W.Frag} {G : Gh} {H : Hp} {ds : List D} {vs : List V} (h : DtL K G H ds vs) : ds.isEmpty = vs.isEmpty := by
  have := h.len
  cases ds <;> cases vs <;> simp at this ⊢
theorem ok_e0 {F : Fr} : OkOp F (rE0 F.K) e0D := by
  intro G H x y v u k Q ok h d1 d2 q
  unfold e0D at h
  split at h
  · obtain ⟨a, xs, rfl, n1, h1, l1⟩ := d1
    obtain ⟨b, ys, rfl, n2, h2, l2⟩ := d2
    obtain rfl : ys = [] := l2
    exact ⟨a, b, xs, rfl, rfl, .inl ⟨SqL.of h1, SqL.of h2⟩, by rw [← l1.emp]; exact q _ _ H h (.refl ok.bag) rfl⟩
  · obtain ⟨a, xs, rfl, h1, l1⟩ := d1
    obtain ⟨b, ys, rfl, h2, l2⟩ := d2
    obtain rfl : ys = [] := l2
    exact ⟨a, b, xs, rfl, rfl, .inr ⟨.inl (.inl h1), .inl (.inl h2)⟩, by rw [← l1.emp]; exact q _ _ H h (.refl ok.bag) rfl⟩
  · exact h.elim
end DL
set_option Elab.async false
set_option linter.all false
set_option maxRecDepth 100000
set_option maxHeartbeats 4000000
namespace DL
open PySem PySem.Spec PyProof.Rows L2
/-! ### data with dicts, as the model's own data -/
mutual
noncomputable def D.pw : D → PyData
  | .non => .none
  | .bl b => .bool b
  | .int i => .int i
  | .str x => .str x
  | .lst ds => .list (D.pwL ds)
  | .tup ds => .tuple (D.pwL ds)
  | .dic _ es => .dict (D.pwP es)
  | .ins _ _ => .dict []
  | .glb _ => .dict []
  | .bag => .dict []
  | .lock _ _ => .dict []
  | .at _ d => D.pw d
noncomputable def D.pwL : List D → List PyData
  | [] => []
  | d :: ds => D.pw d :: D.pwL ds
noncomputable def D.pwP : List (D × D) → List (PyData × PyData)
  | [] => []
  | (k, d) :: es => (k.py, D.pw d) :: D.pwP es
end
mutual
noncomputable def D.okW : D → Bool
  | .non | .bl _ | .int _ | .str _ => true
  | .lst ds => D.okL ds
  | .tup ds => D.okL ds
  | .dic t es => !t && D.okP es
  | .ins _ _ => false
  | .glb _ => false
  | .bag => false
  | .lock _ _ => false
  | .at _ d => D.okW d
noncomputable def D.okL : List D → Bool
  | [] => true
  | d :: ds => D.okW d && D.okL ds
noncomputable def D.okP : List (D × D) → Bool
  | [] => true
  | (_, d) :: es => D.okW d && D.okP es
end
section
variable {X : Cx} {pins : List (Addr × Obj)} {σ : L2.St} {H : Hp} {s : Shared} {G : Gh}
theorem keyIs_reads {h : Heap} {k : Key} {u : Value} (r : (mixKind X.prog X.w).is k u = true) : Reads h u (kD k).py [] := by
  rcases keyIs_shape r with ⟨i, t, rfl, rfl⟩ | ⟨x, t, rfl, rfl⟩
  · exact .int i t
  · exact .str x t
mutual
theorem Dt.reads (I : Inv X pins σ H s) (hS : H sysModules = none) : ∀ (d : D) (v : V) (u : Value), d.okW = true → Dt X.K G H d v → RelV v u → ∃ as, Reads s.heap u d.pw as ∧ sysModules ∉ as
  | .non, v, u, _, h, r => by obtain rfl := h; obtain rfl : u = .none := r; exact ⟨[], .none, by simp⟩
  | .bl b, v, u, _, h, r => by obtain rfl := h; obtain rfl : u = .bool b := r; exact ⟨[], .bool b, by simp⟩
  | .int i, v, u, _, h, r => by obtain rfl := h; obtain ⟨t, rfl⟩ := r; exact ⟨[], .int i t, by simp⟩
  | .str x, v, u, _, h, r => by obtain rfl := h; obtain ⟨t, rfl⟩ := r; exact ⟨[], .str x t, by simp⟩
  | .lst ds, v, u, c, h, r => by
    obtain ⟨a, xs, rfl, n, ha, hd⟩ := h
    cases r
    obtain ⟨its, rv, ⟨o, n', ho, hc, _, hda⟩, _⟩ := I.list (SqL.of ha)
    obtain ⟨as, r1, r2⟩ := Dt.readsL I hS ds xs its (by simpa only [D.okW] using c) hd rv
    refine ⟨a :: as, .list ho hc hda r1, fun z => ?_⟩
    rcases List.mem_cons.mp z with z | z
    · rw [← z, hS] at ha; cases ha
    · exact r2 z
  | .tup ds, v, u, c, h, r => by
    obtain ⟨a, xs, rfl, ha, hd⟩ := h
    cases r
    obtain ⟨its, rv, ⟨o, ho, hc, n', hda⟩, _⟩ := I.tuple (.inl (.inl ha))
    obtain ⟨as, r1, r2⟩ := Dt.readsL I hS ds xs its (by simpa only [D.okW] using c) hd rv
    exact ⟨as, .tuple ho hc hda r1, r2⟩
  | .dic t es, v, u, c, h, r => by
    simp only [D.okW, Bool.and_eq_true, Bool.not_eq_true'] at c
    obtain ⟨rfl, c⟩ := c
    obtain ⟨a, kvs, rfl, n, ha, hp⟩ := dic_K h
    cases r
    obtain ⟨z, hd, vs, kv, o, ents, ep, ho, hx, hda, _, hpr, _⟩ := dk_rd I.hok ha
    obtain ⟨as, bs, r1, r2, r3, r4⟩ := Dt.readsP I hS es kvs vs ents.toList c hp kv hpr
    refine ⟨a :: as ++ bs, .dict ho hx.1 hda r1 r2, fun y => ?_⟩
    rcases List.mem_append.mp y with y | y
    · rcases List.mem_cons.mp y with y | y
      · rw [← y] at hd; simp at hd
      · exact r3 y
    · exact r4 y
  | .ins C fs, v, u, c, h, r => by simp [D.okW] at c
  | .glb _, v, u, c, h, r => by simp [D.okW] at c
  | .bag, v, u, c, h, r => by simp [D.okW] at c
  | .lock _ _, v, u, c, h, r => by simp [D.okW] at c
  | .at _ d, v, u, c, h, r => Dt.reads I hS d v u (by simpa only [D.okW] using c) h.2 r
theorem Dt.readsL (I : Inv X pins σ H s) (hS : H sysModules = none) : ∀ (ds : List D) (vs : List V) (us : List Value), D.okL ds = true → DtL X.K G H ds vs → Vals vs us → ∃ as, ReadsAll s.heap us (D.pwL ds) as ∧ sysModules ∉ as
  | [], vs, us, _, h, r => by obtain rfl := h; cases r; exact ⟨[], .nil, by simp⟩
  | d :: ds, vs, us, c, h, r => by
    obtain ⟨v, vs, rfl, h1, h2⟩ := h
    simp only [D.okL, Bool.and_eq_true] at c
    cases r with
    | cons r1 r2 =>
      obtain ⟨as, q1, q2⟩ := Dt.reads I hS d v _ c.1 h1 r1
      obtain ⟨bs, q3, q4⟩ := Dt.readsL I hS ds vs _ c.2 h2 r2
      exact ⟨as ++ bs, .cons q1 q3, fun z => by rcases List.mem_append.mp z with z | z; exact q2 z; exact q4 z⟩
theorem Dt.readsP (I : Inv X pins σ H s) (hS : H sysModules = none) : ∀ (es : List (D × D)) (kvs : List (Key × V)) (vs : List (Key × Value)) (ents : List DictEntry), D.okP es = true → DtP X.K G H false es kvs → KV kvs vs → Pairs (mixKind X.prog X.w) ents vs →
    ∃ as bs, ReadsAll s.heap (ents.map (·.key)) ((D.pwP es).map (·.1)) as ∧ ReadsAll s.heap (ents.map (·.val)) ((D.pwP es).map (·.2)) bs ∧ sysModules ∉ as ∧ sysModules ∉ bs
  | [], kvs, vs, ents, _, h, kv, hp => by
    obtain ⟨rfl, _⟩ := h
    cases kv
    cases hp
    exact ⟨[], [], .nil, .nil, by simp, by simp⟩
  | (k, d) :: es, kvs, vs, ents, c, h, kv, hp => by
    obtain ⟨j, v, r, rfl, rfl, h1, h2⟩ := h
    simp only [D.okP, Bool.and_eq_true] at c
    cases kv with
    | @cons p q l1 l2 kq kr =>
      obtain ⟨e1, rv⟩ := kq
      cases hp with
      | cons p1 p2 p3 =>
        obtain ⟨as, q1, q2⟩ := Dt.reads I hS d v _ c.1 h1 rv
        obtain ⟨bs, cs, q3, q4, q5, q6⟩ := Dt.readsP I hS es r l2 _ c.2 h2 kr p3
        refine ⟨[] ++ bs, as ++ cs, .cons (keyIs_reads (X := X) (by rw [show j = q.1 from e1]; exact p1)) q3, .cons (show Reads s.heap (DictEntry.val _) d.pw as by rw [p2]; exact q1) q4, by simpa using q5, fun z => by rcases List.mem_append.mp z with z | z; exact q2 z; exact q6 z⟩
end
end
/-! ### repr of any data -/
noncomputable def reprW : RD
  | [d], k => (d.okW = true ∧ d.pw.showable = true ∧ d.pw.depth ≤ 140 ∧ d.pw.shown.length ≤ sizeLine) ∧ k (.str d.pw.shown)
  | _, _ => False
noncomputable def rReprW (K : PySem.W.Frag) : List V → Hp → VK → Prop := fun xs H Q => ∃ (x : V) (d : D) (G : Gh), xs = [x] ∧ Dt K G H d x ∧ d.okW = true ∧ d.pw.showable = true ∧ d.pw.depth ≤ 140 ∧ d.pw.shown.length ≤ sizeLine ∧ Q (.str d.pw.shown) H
theorem cr_reprW {X : Cx} {n : Nat} (hr : Room n X.A) (hg : X.A.guards = some []) (hS : ∃ m, X.base.Ns sysModules m) : CallR X (.builtin "repr") (rReprW X.K) := by
  intro pins s σ H xs us Q I r h
  obtain ⟨x, d, G, rfl, hd, c, hs, hdp, hz, q⟩ := h
  obtain ⟨u, rfl, rx⟩ := vals1 r
  have hn : H sysModules = none := by
    obtain ⟨m, o, es, ep, e, _⟩ := hS
    exact (I.bs _ _ e).2
  obtain ⟨as, rd, na⟩ := Dt.reads I hn d x u c hd rx
  have hu := u150 hr
  have fin : ∀ k, EP X pins σ Q (.str d.pw.shown k) { s with toks := s.toks + 1 } := fun k => ⟨.str d.pw.shown, H, I.tok _, ⟨_, rfl⟩, q⟩
  have gen : ∀ a : Addr, u = .ref a → wpAny (model X.prog X.w) X.A (call (.builtin "repr") [u]) (EP X pins σ Q) X.xe s := by
    intro a e
    subst e
    refine repr_of_reads' rd hs (fun _ => na) hg (by omega) (fun _ _ e => e) (fun h' u tk hk => ?_) hz
    exact ⟨.str _, H, I.kept hk, ⟨_, rfl⟩, q⟩
  cases d with
  | non =>
    obtain rfl := hd
    obtain rfl : u = .none := rx
    simp only [D.pw, PyData.shown] at fin
    exact P.repr_of_none (fin _)
  | bl b =>
    obtain rfl := hd
    obtain rfl : u = .bool b := rx
    simp only [D.pw, PyData.shown] at fin
    exact P.repr_of_bool (fin _)
  | int i =>
    obtain rfl := hd
    obtain ⟨t, rfl⟩ := rx
    simp only [D.pw, PyData.shown] at fin
    exact P.repr_of_int (by simpa [D.pw, PyData.showable] using hs) (fin _)
  | str z =>
    obtain rfl := hd
    obtain ⟨t, rfl⟩ := rx
    simp only [D.pw, PyData.shown] at fin hz
    exact P.repr_of_str (fin _) hz
  | lst ds => obtain ⟨a, xs, rfl, _⟩ := hd; exact gen a rx
  | tup ds => obtain ⟨a, xs, rfl, _⟩ := hd; exact gen a rx
  | dic t es => obtain ⟨a, rfl, _⟩ := hd; exact gen a rx
  | ins C fs => simp [D.okW] at c
  | bag => simp [D.okW] at c
  | glb a => simp [D.okW] at c
  | lock _ _ => simp [D.okW] at c
  | «at» a d => obtain ⟨rfl, _⟩ := hd; exact gen a rx
theorem ok_reprW {F : Fr} : OkCall F (rReprW F.K) reprW := by
  intro G H ds vs k Q ok h hd q
  unfold reprW at h
  split at h
  · obtain ⟨v, rfl, hv⟩ := dl1 hd
    exact ⟨v, _, G, rfl, hv, h.1.1, h.1.2.1, h.1.2.2.1, h.1.2.2.2, q _ _ _ h.2 (.refl ok.bag) rfl⟩
  · exact h.elim
section
variable {X : Cx} {F : Fr} {p pos : Pos} {e : Expr} {ta : TLD}
theorem d_reprW {n : Nat} (hr : Room n X.A) (hgd : X.A.guards = some []) (hS : ∃ m, X.base.Ns sysModules m) (hg : Gl X "repr") (hm : X.mg "repr" = none) (ha : PA X [e] (liftA F ta)) (he : starEach [e] X.env = (false, eval e X.env) :: starEach [] X.env := by rfl) (hK : X.K = F.K := by rfl) :
    PE X (.Call (.Name "repr" p) [e] [] pos) (lift F (callT reprW ta)) := d_callB (cr_reprW hr hgd hS) (hK ▸ ok_reprW) hg hm (by decide +kernel) ha (by decide) (by decide) he
end
end DL
set_option Elab.async false
set_option linter.all false
set_option maxRecDepth 100000
set_option maxHeartbeats 4000000
namespace DL
open PySem PySem.Spec PyProof.Rows L2
end DL
set_option Elab.async false
set_option linter.all false
set_option maxRecDepth 100000
set_option maxHeartbeats 4000000
namespace DL
open PySem PySem.Spec PyProof.Rows L2
noncomputable abbrev tupE (e : D × D) : D := .tup [e.1, e.2]
/-! ### dicts that are walked: locked for good -/
section
variable {K : PySem.W.Frag} {G : Gh} {H : Hp}
theorem dt_kD : ∀ (j : Key), Dt K G H (kD j) (kV j)
  | .inl _ => rfl
  | .inr _ => rfl
theorem DtP.len : ∀ {es : List (D × D)} {kvs : List (Key × V)} {t : Bool}, DtP K G H t es kvs → es.length = kvs.length
  | [], _, _, h => by rw [h.1]; rfl
  | (k, d) :: es, _, _, h => by
    obtain ⟨j, v, r, rfl, _, _, h2⟩ := h
    simp [DtP.len h2]
theorem DtP.get : ∀ {es : List (D × D)} {kvs : List (Key × V)} {t : Bool} {i : Nat} {j : Key} {v : V}, DtP K G H t es kvs → kvs[i]? = some (j, v) → ∃ d, es[i]? = some (kD j, d) ∧ Dt K G H d v
  | [], _, _, i, _, _, h, e => by rw [h.1] at e; simp at e
  | (k, d) :: es, _, _, 0, _, _, h, e => by
    obtain ⟨j, v, r, rfl, rfl, h1, h2⟩ := h
    simp at e
    obtain ⟨rfl, rfl⟩ := e
    exact ⟨d, rfl, h1⟩
  | (k, d) :: es, _, _, i + 1, _, _, h, e => by
    obtain ⟨j, v, r, rfl, rfl, h1, h2⟩ := h
    obtain ⟨d', e1, e2⟩ := DtP.get (i := i) h2 (by simpa using e)
    exact ⟨d', by simpa using e1, e2⟩
end
noncomputable def keysI (t : TD) : TLD := fun ρ k => t ρ fun d => ∃ es, d = .dic false es ∧ k (es.map Prod.fst)
noncomputable def valsI (t : TD) : TLD := fun ρ k => t ρ fun d => ∃ es, d = .dic false es ∧ k (es.map Prod.snd)
noncomputable def itemsI (t : TD) : TLD := fun ρ k => t ρ fun d => ∃ es, d = .dic false es ∧ k (es.map tupE)
end DL
set_option Elab.async false
set_option linter.all false
set_option maxRecDepth 100000
set_option maxHeartbeats 4000000
namespace DL
open PySem PySem.Spec PyProof.Rows L2
/-! ### list(d), list(d.items()), dict(pairs) -/
section
variable {X : Cx} {e : Expr} {te : TE} {p apos cpos pos : Pos}
noncomputable def rItemsR : V → Hp → VK → Prop := fun x H Q => ∃ (d : Addr) (kvs : List (Key × V)), x = .ref d ∧ Rd H d (.dK kvs) ∧
  ∀ (H' : Hp) (p : Addr) (ts : List Addr), (∀ b o, H b = some o → H' b = some o) → H p = none → (∀ t ∈ ts, H t = none) → p ∉ ts → H' p = some (.lst (ts.map V.ref)) → Paired (fun (t : Addr) (q : Key × V) => H' t = some (.tup [kV q.1, q.2])) ts kvs → Q (.ref p) H'
/-- list(e.items()), the dict locked or not -/
theorem pe_listItemsR (hc : X.calm = true) (he : PE X e te) (hg : Gl X "list") (hm : X.mg "list" = none) (hv : bootBuiltins "list" = some (.type "list")) (hbase : attributeBase e "items" X.env (eval e X.env) = eval e X.env) (hline : (apos.endLine == cpos.line) = true)
    (hs : starEach [.Call (.Attribute e "items" apos) [] [] cpos] X.env = (false, eval (.Call (.Attribute e "items" apos) [] [] cpos) X.env) :: starEach [] X.env) :
    PE X (.Call (.Name "list" p) [.Call (.Attribute e "items" apos) [] [] cpos] [] pos) (fun σ H Q => te σ H fun x H1 => rItemsR x H1 Q) := by
  refine ⟨fun pins s σ H Q I hq => ?_⟩
  refine wpAny_Call_Name_kw (ld_blt I hg hm hv ?_)
  refine PyProof.Rows.callWith_type1 ?_ hs rfl
  rw [hs]
  show wpAny _ _ (spliced ((false, eval (.Call (.Attribute e "items" apos) [] [] cpos) X.env) :: backTo pos (starEach [] X.env))) _ _ s
  refine Calls.spliced_cons ?_
  refine wpAny_Call_method (T := "dict") (id := "dict.items") hbase rfl hline F.plainAttrs_dict F.slot_dict_items F.type_dict_items (thn (he.run pins s σ H _ I hq) fun u s1 ⟨x, H1, I1, rx, d, kvs, ex, hd, q⟩ => ?_)
  subst ex
  obtain rfl : u = Value.ref d := rx
  obtain ⟨hz, hs0, vs, kv, hdo⟩ := dk_rd I1.hok hd
  obtain ⟨ep, hat⟩ := hdo.dictAt
  have lk : kvs.length = vs.length := Paired.length kv
  have I2 : Inv X pins σ H1 { s1 with heap := s1.heap.push { cls := .type "dict_items", data := .fields #[.ref d] } } := I1.kept (t' := s1.toks) fun b ob q => Heap.get?_push_of_some _ q
  refine ⟨hdo.typeIs, hdo.mapOf.noDict, ?_⟩
  show wpAny _ _ (callWith cpos (.builtin "dict.items") [.ref d] [] []) _ X.xe s1
  refine method_meetsIn F.slot_dict_items F.entry_dict_items rfl (PySem.evalArgs_none ⟨rfl, hdo.typeIs, F.args_dict_items_1 _, _, meets_dict_items (mixKind X.prog X.w) d hs0, ⟨vs, hdo⟩, ?_⟩)
  refine Calls.spliced_nil ?_
  refine PySem.W.kdx_call (knd := mixKind X.prog X.w) (kvs := vs) (ep := ep) (I1.ok.hd hc) ⟨_, Heap.get?_push_size _ rfl, rfl, rfl⟩ (hat.push _) (by omega) fun h' tk acc c as hk hS hl hG hacc => ?_
  obtain ⟨H', k1, k2, k3, k4, k5, k6, J⟩ := LiI.items_laid (tk := tk) I2 hz kv hk hS hl hG hacc
  exact ⟨.ref _, H', J, rfl, q H' _ as k1 k2 k3 k4 k5 k6⟩
end
theorem dts_pairs {K : PySem.W.Frag} {G : Gh} {H : Hp} : ∀ {es : List (D × D)} {kvs : List (Key × V)} {ts : List Addr}, DtP K G H false es kvs → Paired (fun (t : Addr) (q : Key × V) => H t = some (.tup [kV q.1, q.2])) ts kvs → DtL K G H (es.map tupE) (ts.map V.ref)
  | [], _, _, h, p => by
    obtain rfl := h.1
    cases p
    exact rfl
  | (k, d) :: es, _, _, h, p => by
    obtain ⟨j, v, r, rfl, rfl, h1, h2⟩ := h
    cases p with
    | cons q qs => exact ⟨_, _, rfl, ⟨_, _, rfl, q, kV j, _, rfl, dt_kD j, v, [], rfl, h1, rfl⟩, dts_pairs h2 qs⟩
noncomputable def itemsF (t : TD) : TLD := fun ρ k => t ρ fun d => ∃ es, d = .dic false es ∧ k (es.map tupE)
noncomputable def listKR : RD
  | [.dic false es], k => k (.lst (es.map Prod.fst))
  | _, _ => False
noncomputable def mergeD (es more : List (D × D)) : List (D × D) := more.foldl (fun acc e => putD acc e.1 e.2) es
where putD (es : List (D × D)) (k d : D) : List (D × D) := if (es.any fun e => decide (keyD e.1 = keyD k)) = true then es.map (fun e => if keyD e.1 = keyD k then (e.1, d) else e) else es ++ [(k, d)]
noncomputable abbrev putD := mergeD.putD
noncomputable def dictR : RD := fun ds k => ∃ es : List (D × D), ds = [.lst (es.map tupE)] ∧ (∀ e ∈ es, (keyD e.1).isSome) ∧ k (.dic false (mergeD [] es))
theorem keyD_inv {y : D} {j : Key} (h : keyD y = some j) : y = kD j := by
  cases y <;> simp only [keyD, Option.some.injEq, reduceCtorEq] at h
  · subst h; rfl
  · subst h; rfl
section
variable {K : PySem.W.Frag} {G : Gh} {H : Hp}
theorem DtP.any {j : Key} : ∀ {es : List (D × D)} {kvs : List (Key × V)} {t : Bool}, DtP K G H t es kvs → (es.any fun e => decide (keyD e.1 = keyD (kD j))) = (kvs.any fun kv => decide (kv.1 = j))
  | [], _, _, h => by rw [h.1]; rfl
  | (k, d) :: es, _, _, h => by
    obtain ⟨i, v, r, rfl, rfl, h1, h2⟩ := h
    rw [List.any_cons, List.any_cons, DtP.any h2, keyD_kD, keyD_kD]
    simp only [Option.some.injEq]
theorem DtP.app : ∀ {es : List (D × D)} {kvs : List (Key × V)} {fs : List (D × D)} {ls : List (Key × V)}, DtP K G H false es kvs → DtP K G H false fs ls → DtP K G H false (es ++ fs) (kvs ++ ls)
  | [], _, _, _, h, h' => by rw [h.1]; exact h'
  | (k, d) :: es, _, _, _, h, h' => by
    obtain ⟨i, v, r, rfl, rfl, h1, h2⟩ := h
    exact ⟨i, v, _, rfl, rfl, h1, DtP.app h2 h'⟩
theorem DtP.repl {j : Key} {d : D} {v : V} (hd : Dt K G H d v) : ∀ {es : List (D × D)} {kvs : List (Key × V)}, DtP K G H false es kvs → DtP K G H false (es.map fun e => if keyD e.1 = keyD (kD j) then (e.1, d) else e) (kvs.map fun kv => if kv.1 = j then (kv.1, v) else kv)
  | [], _, h => by rw [h.1]; exact ⟨rfl, rfl⟩
  | (k, d') :: es, _, h => by
    obtain ⟨i, w, r, rfl, rfl, h1, h2⟩ := h
    rw [List.map_cons, List.map_cons]
    by_cases e : i = j
    · subst e
      rw [if_pos rfl, if_pos rfl]
      exact ⟨i, v, _, rfl, rfl, hd, DtP.repl hd h2⟩
    · have e' : ¬ keyD (kD i) = keyD (kD j) := by rw [keyD_kD, keyD_kD]; exact fun z => e (Option.some.inj z)
      rw [if_neg e', if_neg e]
      exact ⟨i, w, _, rfl, rfl, h1, DtP.repl hd h2⟩
theorem DtP.put {j : Key} {d : D} {v : V} {es : List (D × D)} {kvs : List (Key × V)} (h : DtP K G H false es kvs) (hd : Dt K G H d v) : DtP K G H false (putD es (kD j) d) (putK kvs j v) := by
  unfold putD mergeD.putD putK
  rw [h.any (j := j)]
  split
  · exact h.repl hd
  · exact h.app ⟨j, v, [], rfl, rfl, hd, rfl, rfl⟩
theorem DtP.merge : ∀ {fs : List (D × D)} {ls : List (Key × V)} {es : List (D × D)} {kvs : List (Key × V)}, DtP K G H false es kvs → DtP K G H false fs ls → DtP K G H false (mergeD es fs) (mergeK kvs ls)
  | [], _, _, _, h, h' => by rw [h'.1]; exact h
  | (k, d) :: fs, _, es, kvs, h, h' => by
    obtain ⟨i, v, r, rfl, rfl, h1, h2⟩ := h'
    show DtP K G H false (mergeD (putD es (kD i) d) fs) (mergeK (putK kvs i v) r)
    exact DtP.merge (h.put h1) h2
theorem dtp_pairs : ∀ {es : List (D × D)} {xs : List V}, (∀ e ∈ es, (keyD e.1).isSome) → DtL K G H (es.map tupE) xs → ∃ (ps : List Addr) (kvs : List (Key × V)), xs = ps.map V.ref ∧ Paired (fun p kv => SqT K H p [kV kv.1, kv.2]) ps kvs ∧ DtP K G H false es kvs
  | [], _, _, h => by
    obtain rfl : _ = [] := h
    exact ⟨[], [], rfl, .nil, rfl, rfl⟩
  | (k, d) :: es, _, hk, h => by
    obtain ⟨x, r, rfl, ⟨a, ys, rfl, hs, h1⟩, h2⟩ := h
    obtain ⟨ps, kvs, rfl, hp, hd⟩ := dtp_pairs (fun e he => hk e (List.mem_cons_of_mem _ he)) h2
    obtain ⟨j, hj⟩ := Option.isSome_iff_exists.mp (hk (k, d) List.mem_cons_self)
    obtain ⟨y, y', rfl, d1, d2⟩ := dl2 h1
    obtain rfl := keyD_kV hj d1
    exact ⟨a :: ps, (j, y') :: kvs, rfl, .cons (.inl (.inl hs)) hp, j, y', kvs, rfl, keyD_inv hj, d2, hd⟩
end
section
variable {X : Cx} {F : Fr} {e : Expr} {te : TD} {ta : TLD} {p apos cpos pos : Pos}
theorem f_items (hc : X.calm = true) (hg : Gl X "list") (hm : X.mg "list" = none) (he : PE X e (lift F te)) (hbase : attributeBase e "items" X.env (eval e X.env) = eval e X.env := by rfl) (hline : (apos.endLine == cpos.line) = true := by rfl)
    (hs : starEach [.Call (.Attribute e "items" apos) [] [] cpos] X.env = (false, eval (.Call (.Attribute e "items" apos) [] [] cpos) X.env) :: starEach [] X.env := by rfl) :
    PE X (.Call (.Name "list" p) [.Call (.Attribute e "items" apos) [] [] cpos] [] pos) (liftF F (itemsF te)) := by
  refine pe_imp (pe_listItemsR hc he hg hm (by decide +kernel) hbase hline hs) fun σ H Q ⟨G, ρ, k, r, h, q⟩ => ⟨G, ρ, _, r, h, fun d v H1 ⟨es, ed, hk⟩ e1 d1 => ?_⟩
  subst ed
  obtain ⟨a, kvs, rfl, n, rd, hp⟩ := dic_K d1
  have r1 := r.step e1
  refine ⟨a, kvs, rfl, rd, fun H' p ts k1 k2 k3 k4 k5 k6 => ?_⟩
  have e2 : Ext G H1 H' := Ext.all r1.bag k1
  exact q _ p _ H' hk (e1.trans e2) (e1.free r.bag k2) k5 (dts_pairs ((r1.evoAdd e2 k2).dtp _ _ _ hp) k6)
theorem DtP.keys {K : PySem.W.Frag} {G G' : Gh} {H H' : Hp} : ∀ {es : List (D × D)} {kvs : List (Key × V)}, DtP K G H false es kvs → DtL K G' H' (es.map Prod.fst) (kvs.map fun kv => kV kv.1)
  | [], _, h => by rw [h.1]; exact rfl
  | (k, d) :: es, _, h => by
    obtain ⟨j, v, r, rfl, rfl, h1, h2⟩ := h
    exact ⟨kV j, _, rfl, dt_kD j, DtP.keys h2⟩
theorem ok_dict (hK : X.K = F.K) : OkCall F (fun xs H Q => ∃ (a : Addr) (ps : List Addr) (kvs : List (Key × V)), xs = [.ref a] ∧ SqL X.K H a (ps.map V.ref) ∧ Paired (fun p kv => SqT X.K H p [kV kv.1, kv.2]) ps kvs ∧
    ∀ p, H p = none → Q (.ref p) (upd H p (.dK (mergeK [] kvs)))) dictR := by
  intro G H ds vs k Q ok ⟨es, e, hk, h⟩ hd q
  subst e
  obtain ⟨v, rfl, hv⟩ := dl1 hd
  obtain ⟨a, xs, rfl, n, ha, hl⟩ := hv
  obtain ⟨ps, kvs, rfl, hp, hdp⟩ := dtp_pairs hk hl
  refine ⟨a, ps, kvs, rfl, SqL.of ha, hK ▸ hp, fun p hp' => ?_⟩
  have e2 : Ext G H (upd H p (.dK (mergeK [] kvs))) := Ext.new ok.bag hp'
  have ev : Evo G G H (upd H p (.dK (mergeK [] kvs))) := ⟨fun a o n h => e2.lk (fun z => n (by rw [z]; exact ok.ob)) h, ok.tr, fun _ n _ => n, rfl, rfl⟩
  exact q _ _ _ h e2 ⟨p, rfl, fun z => by have m := ok.tr p z; rw [hp'] at m; exact m, .inl ⟨_, .inl upd_same, ev.dtp _ _ _ (DtP.merge ⟨rfl, rfl⟩ hdp)⟩⟩
theorem d_dict (hc : X.calm = true) (hg : Gl X "dict") (hm : X.mg "dict" = none) (ha : PA X [e] (liftA F ta)) (he : starEach [e] X.env = (false, eval e X.env) :: starEach [] X.env := by rfl) (hK : X.K = F.K := by rfl) :
    PE X (.Call (.Name "dict" p) [e] [] pos) (lift F (callT dictR ta)) := d_callTy (call_dictP hc) (ok_dict hK) hg hm (by decide +kernel) ha (by decide) (by decide) he
end
/-! ### d[k], d.get(k, x) -/
noncomputable def dixT (t tk : TD) : TD := fun ρ k => t ρ fun x => ∃ es, x = .dic false es ∧ tk ρ fun y => optK (keyD y) fun j => optK (valD es j) k
noncomputable def keysD : List D → Option (List Key)
  | [] => some []
  | d :: ds => match keyD d, keysD ds with
    | some j, some js => some (j :: js)
    | _, _ => none
noncomputable def keyT : D → Option (List Key)
  | .tup ds => keysD ds
  | _ => none
noncomputable def valQ : List (D × D) → List Key → Option D
  | [], _ => none
  | (k, d) :: es, j => if keyT k = some j then some d else valQ es j
theorem keysD_kD : ∀ js : List Key, keysD (js.map kD) = some js
  | [] => rfl
  | j :: js => by simp only [List.map_cons, keysD, keyD_kD, keysD_kD js]
theorem keysD_inv : ∀ {ds : List D} {js : List Key}, keysD ds = some js → ds = js.map kD
  | [], _, h => by cases h; rfl
  | d :: ds, js, h => by
    unfold keysD at h
    split at h
    · rename_i h1 h2
      cases h
      rw [List.map_cons, ← keyD_inv h1, ← keysD_inv h2]
    · cases h
section
variable {K : PySem.W.Frag} {G : Gh} {H : Hp}
theorem dtl_kV : ∀ {js : List Key} {vs : List V}, DtL K G H (js.map kD) vs → vs = js.map kV
  | [], _, h => h
  | j :: js, _, h => by
    obtain ⟨x, r, rfl, h1, h2⟩ := h
    rw [keyD_kV (keyD_kD j) h1, dtl_kV h2]; rfl
theorem keyT_kV {y : D} {v : V} {js : List Key} (h : keyT y = some js) (hy : Dt K G H y v) : ∃ b, v = .ref b ∧ H b = some (.tup (js.map kV)) := by
  cases y <;> try (cases h; done)
  rename_i ds
  obtain rfl := keysD_inv h
  obtain ⟨b, xs, rfl, hs, hl⟩ := hy
  exact ⟨b, rfl, dtl_kV hl ▸ hs⟩
theorem DtQ.val {j : List Key} {t : Bool} : ∀ {es : List (D × D)} {kvs : List (List Key × V)}, DtQ K G H t es kvs → (valQ es j = none ∧ valV kvs j = none) ∨ ∃ d v, valQ es j = some d ∧ valV kvs j = some v ∧ Dt K G H d v
  | [], _, h => by
    obtain ⟨rfl, _⟩ := h
    exact .inl ⟨rfl, rfl⟩
  | (k, d) :: es, _, h => by
    obtain ⟨i, v, r, rfl, rfl, h1, h2⟩ := h
    by_cases e : i = j
    · subst e
      exact .inr ⟨d, v, by simp [valQ, keyT, keysD_kD], valV_pos rfl, h1⟩
    · have n : ¬ keyT (.tup (i.map kD)) = some j := by simp only [keyT, keysD_kD]; exact fun z => e (Option.some.inj z)
      rw [valV_neg (p := (i, v)) e]
      simp only [valQ, if_neg n]
      exact DtQ.val h2
theorem dic_T {es : List (D × D)} {v : V} (h : Dt K G H (.dic true es) v) : ∃ a kvs, v = .ref a ∧ ¬ G.own a ∧ Rd H a (.dT kvs) ∧ DtQ K G H true es kvs := by
  obtain ⟨a, rfl, n, h⟩ := h
  rcases h with ⟨kvs, h1, h2⟩ | ⟨kvs, h1, h2⟩
  · cases h2.kind
  · exact ⟨a, kvs, rfl, n, h1, h2⟩
end
end DL
set_option Elab.async false
set_option linter.all false
set_option maxRecDepth 100000
set_option maxHeartbeats 4000000
namespace DL
open PySem PySem.Spec PyProof.Rows L2
section
variable {F : Fr} {G : Gh} {H : Hp} {σ : L2.St} {ρ : List Sl} {L : List Addr}
theorem RelL.pinned {l : List (V × D)} (r : RelL F G H σ ρ L) (h : ∀ q ∈ l, Dt F.K G H q.2 q.1) : RelL (F.pin l) G H σ ρ L :=
  ⟨r.1.pinned h, r.2.1.map fun s o M _ h => by cases s <;> exact h, r.2.2⟩
theorem RelL.unpin {l : List (V × D)} (r : RelL (F.pin l) G H σ ρ L) : RelL F G H σ ρ L :=
  ⟨r.1.unpin, r.2.1.map fun s o M _ h => by cases s <;> exact h, r.2.2⟩
end
/-! ### [elt for x in iter for y in iter1] -/
noncomputable def compB (t : Tg) (tt : TBD) (te : TD) (ρ : List Sl) : List D → List D → (List D → Prop) → Prop
  | [], acc, k => k acc
  | d :: ds, acc, k => tgD t d ρ fun ρ1 => tt ρ1 fun b => if b = true then te ρ1 fun e => acc.length < sizeLine ∧ compB t tt te ρ ds (acc ++ [e]) k else compB t tt te ρ ds acc k
noncomputable def comp2T (i : Nat) (tt : TBD) (t1 : Tg) (I1 : TLD) (tt1 : TBD) (te : TD) (vs1 : List Nat) (ρ : List Sl) : List D → List D → (List D → Prop) → Prop
  | [], acc, k => k acc
  | d :: ds, acc, k => tt (ρ.set i (.dat d)) fun b => if b = true then I1 (ρ.set i (.dat d)) fun ds1 => compB t1 tt1 te (wipeS (ρ.set i (.dat d)) vs1) ds1 acc fun acc' => comp2T i tt t1 I1 tt1 te vs1 ρ ds acc' k
    else comp2T i tt t1 I1 tt1 te vs1 ρ ds acc k
noncomputable def lc2F (i : Nat) (I : TLD) (tt : TBD) (t1 : Tg) (I1 : TLD) (tt1 : TBD) (te : TD) (vs vs1 : List Nat) : TLD := fun ρ k => I ρ fun ds => comp2T i tt t1 I1 tt1 te vs1 (wipeS ρ vs) ds [] k
section
variable {X : Cx} {F : Fr} {i : Nat} {I I1 : TLD} {tt tt1 : TBD} {t1 : Tg} {te : TD}
theorem lc2T {K : PySem.W.Frag} (vs vs1 : List Nat) (ht : i ∈ vs) (ht1 : ∀ j ∈ t1.ix, j ∈ vs1) (hK : K = F.K) (tb : TT) (wi1 : TI) (tb1 : TT) (tv : TE) (h1 : ∀ pn σ H Q, liftT (F.pin pn) tt σ H Q → tb σ H Q) (hI : ∀ pn σ H R, liftI (F.pin pn) I1 σ H R → wi1 σ H R)
    (h3 : ∀ pn σ H Q, liftT (F.pin pn) tt1 σ H Q → tb1 σ H Q) (h4 : ∀ pn σ H Q, lift (F.pin pn) te σ H Q → tv σ H Q) :
    ∀ σ H Q, liftF F (lc2F i I tt t1 I1 tt1 te vs vs1) σ H Q → tLc2 (liftI F I) (gName i) tb wi1 (gOf K t1) tb1 tv vs vs1 σ H Q := by
  intro σ H Q ⟨G, ρ, k, r, h, q⟩
  refine ⟨G, ρ, _, r, h, fun ds J H1 pn hk e1 wk hpn L hL => ?_⟩
  have r1 := r.step e1
  have e2 : Ext G H1 (upd H1 L (.lst [])) := Ext.new r1.bag hL
  obtain ⟨L0, s0⟩ := ((r1.pinned hpn).wipe vs).adrs
  have hno : L ∉ L0 := s0.new hL
  have r2 : RelL (F.pin pn) (G.add L) (upd H1 L (.lst [])) (L2.wipe σ vs) (wipeS ρ vs) L0 := s0.grow e2 hL (by rw [upd_same]; exact True.intro)
  have hnL : ¬ F.G.own L := fun z => r1.free hL (r1.sub L z)
  have nbL : L ≠ G.bg := r1.own_ne_bg hnL
  refine ⟨fun i' m H' => m = ds.length - i' ∧ i' ≤ ds.length ∧ ∃ acc xs, H' L = some (.lst xs) ∧ DtL F.K (G.add L) H' acc xs ∧ RelL (F.pin pn) (G.add L) H' (L2.wipe σ vs) (wipeS ρ vs) L0 ∧ Ext G H1 H' ∧
      comp2T i tt t1 I1 tt1 te vs1 (wipeS ρ vs) (ds.drop i') acc k, ⟨_, rfl, Nat.zero_le _, [], [], upd_same, rfl, r2, e2, hk⟩, ?_⟩
  rintro i' m H' ⟨rfl, hi, acc, xs, hx, hd, r', e', h'⟩
  have w := wk i' (G.add L) H' r'.1.ok fun q hq => r'.1.pn q (List.mem_append_left _ hq)
  by_cases hlt : i' < ds.length
  · obtain ⟨go, yl⟩ := w.1 hlt
    refine .inr ⟨go, fun H2 => i' + 1 ≤ ds.length ∧ ∃ acc xs, H2 L = some (.lst xs) ∧ DtL F.K (G.add L) H2 acc xs ∧ RelL (F.pin pn) (G.add L) H2 (L2.wipe σ vs) (wipeS ρ vs) L0 ∧ Ext G H1 H2 ∧
      comp2T i tt t1 I1 tt1 te vs1 (wipeS ρ vs) (ds.drop (i' + 1)) acc k, fun H2 ⟨hl, q⟩ => ⟨_, by omega, rfl, hl, q⟩, fun x H2 y => ?_⟩
    obtain ⟨kp, d, hdi, hxd⟩ := yl x H2 y
    rw [List.drop_eq_getElem_cons hlt] at h'
    have ed : ds[i'] = d := by rw [List.getElem?_eq_getElem hlt] at hdi; exact Option.some.inj hdi
    rw [ed] at h'
    have x2 : Ext (G.add L) H' H2 := Ext.all r'.1.bag kp
    have r3 := r'.step x2
    refine ⟨by
      have z := wipe_tgS (.nm i) x [] (L2.wipe σ vs) (vs := vs) (fun j hj => by
        have : j = i := by simpa [Tg.ix] using hj
        exact this ▸ ht)
      rw [wipe_wipe] at z; exact z, ?_⟩
    have up : ∀ {H5 : Hp}, Ext (G.add L) H2 H5 → H5 L = some (.lst xs) ∧ DtL F.K (G.add L) H5 acc xs ∧ RelL (F.pin pn) (G.add L) H5 (L2.wipe σ vs) (wipeS ρ vs) L0 ∧ Ext G H1 H5 := fun {H5} z => by
      have z2 := x2.trans z
      exact ⟨z2.mine nbL hx (.inr rfl), (r'.1.evo z2).dts _ _ hd, r'.step z2, e'.trans (Ext.cg (G := G.add L) (G' := G) rfl rfl (fun _ h => .inl h) z2)⟩
    refine h1 pn _ _ _ ⟨G.add L, _, _, r3.1.put hxd, h', fun b H3 hb x3 => ?_⟩
    cases b with
    | false =>
      obtain ⟨u1, u2, u3, u4⟩ := up x3
      exact iteF ⟨hlt, acc, xs, u1, u2, u3, u4, of_ff hb⟩
    | true =>
      refine iteT (hI pn _ _ _ ⟨G.add L, _, _, (r3.1.put hxd).step x3, of_tt hb, fun ds1 J1 H4 pn1 hk1 x4 wk1 hpn1 => ?_⟩)
      obtain ⟨u1, u2, u3, u4⟩ := up (x3.trans x4)
      have ev4 := r3.1.evo (x3.trans x4)
      have s4 : RelL (F.pin (pn1 ++ ((x, d) :: pn))) (G.add L) H4 (L2.wipe σ vs) (wipeS ρ vs) L0 := u3.unpin.pinned fun q hq => by
        rcases List.mem_append.mp hq with z | z
        · exact hpn1 q z
        · rcases List.mem_cons.mp z with rfl | z
          · exact ev4.dt _ _ hxd
          · exact u3.1.pn q (List.mem_append_left _ z)
      refine ⟨fun j k' H5 => k' = ds1.length - j ∧ j ≤ ds1.length ∧ ∃ acc xs, H5 L = some (.lst xs) ∧ DtL F.K (G.add L) H5 acc xs ∧ RelL (F.pin (pn1 ++ ((x, d) :: pn))) (G.add L) H5 (L2.wipe σ vs) (wipeS ρ vs) L0 ∧ Ext G H1 H5 ∧
        compB t1 tt1 te (wipeS ((wipeS ρ vs).set i (.dat d)) vs1) (ds1.drop j) acc fun acc' => comp2T i tt t1 I1 tt1 te vs1 (wipeS ρ vs) (ds.drop (i' + 1)) acc' k, ⟨_, rfl, Nat.zero_le _, acc, xs, u1, u2, s4, u4, hk1⟩, ?_⟩
      rintro j k' H5 ⟨rfl, hj, acc5, xs5, hx5, hd5, r5, e5, h5⟩
      have w1 := wk1 j (G.add L) H5 r5.1.ok fun q hq => r5.1.pn q (List.mem_append_left _ (List.mem_append_left _ hq))
      have rin : Rel (F.pin (pn1 ++ ((x, d) :: pn))) (G.add L) H5 ((L2.wipe σ vs).set i (some x)) ((wipeS ρ vs).set i (.dat d)) := r5.1.put (r5.1.pn (x, d) (List.mem_append_left _ (List.mem_append_right _ List.mem_cons_self)))
      by_cases hlt1 : j < ds1.length
      · obtain ⟨go1, yl1⟩ := w1.1 hlt1
        refine .inr ⟨go1, fun H6 => j + 1 ≤ ds1.length ∧ ∃ acc xs, H6 L = some (.lst xs) ∧ DtL F.K (G.add L) H6 acc xs ∧ RelL (F.pin (pn1 ++ ((x, d) :: pn))) (G.add L) H6 (L2.wipe σ vs) (wipeS ρ vs) L0 ∧ Ext G H1 H6 ∧
          compB t1 tt1 te (wipeS ((wipeS ρ vs).set i (.dat d)) vs1) (ds1.drop (j + 1)) acc fun acc' => comp2T i tt t1 I1 tt1 te vs1 (wipeS ρ vs) (ds.drop (i' + 1)) acc' k, fun H6 ⟨hl, q⟩ => ⟨_, by omega, rfl, hl, q⟩, fun x1 H6 y1 => ?_⟩
        obtain ⟨kp1, d1, hdi1, hxd1⟩ := yl1 x1 H6 y1
        rw [List.drop_eq_getElem_cons hlt1] at h5
        have ed1 : ds1[j] = d1 := by rw [List.getElem?_eq_getElem hlt1] at hdi1; exact Option.some.inj hdi1
        rw [ed1] at h5
        have x6 : Ext (G.add L) H5 H6 := Ext.all r5.1.bag kp1
        refine gOf_ok (F := F.pin (pn1 ++ ((x, d) :: pn))) hK ((rin.wipe vs1).step x6) hxd1 h5 fun ρ2 us hk2 r7 => ⟨by rw [wipe_tgS t1 x1 us _ ht1, wipe_wipe], ?_⟩
        have up1 : ∀ {H8 : Hp}, Ext (G.add L) H6 H8 → H8 L = some (.lst xs5) ∧ DtL F.K (G.add L) H8 acc5 xs5 ∧ RelL (F.pin (pn1 ++ ((x, d) :: pn))) (G.add L) H8 (L2.wipe σ vs) (wipeS ρ vs) L0 ∧ Ext G H1 H8 := fun {H8} z => by
          have z2 := x6.trans z
          exact ⟨z2.mine nbL hx5 (.inr rfl), (r5.1.evo z2).dts _ _ hd5, r5.step z2, e5.trans (Ext.cg (G := G.add L) (G' := G) rfl rfl (fun _ h => .inl h) z2)⟩
        refine h3 _ _ _ _ ⟨G.add L, ρ2, _, r7, hk2, fun b H7 hb x7 => ?_⟩
        cases b with
        | true =>
          refine iteT (h4 _ _ _ _ ⟨G.add L, ρ2, _, r7.step x7, of_tt hb, fun e v H8 ⟨hz, hk8⟩ x8 dv => ?_⟩)
          obtain ⟨v1, v2, v3, v4⟩ := up1 (x7.trans x8)
          refine ⟨xs5, v1, by rw [← hd5.len]; exact hz, hlt1, acc5 ++ [e], xs5 ++ [v], upd_same, ?_, v3.mutate (o := .lst (xs5 ++ [v])) (.inr rfl) hnL True.intro hno, v4.put hL (by rw [v1]; exact True.intro), hk8⟩
          · have ev : Evo (G.add L) (G.add L) H8 (upd H8 L (.lst (xs5 ++ [v]))) := ⟨fun a o n z => .inl (by rw [upd_ne fun w => n (.inr w)]; exact z), v3.1.tr, fun _ n _ => n, rfl, rfl⟩
            exact (ev.dts _ _ v2).app ⟨v, [], rfl, ev.dt _ _ dv, rfl⟩
        | false =>
          obtain ⟨v1, v2, v3, v4⟩ := up1 x7
          exact iteF ⟨hlt1, acc5, xs5, v1, v2, v3, v4, of_ff hb⟩
      · have e : j = ds1.length := by omega
        subst e
        rw [List.drop_length] at h5
        refine .inl ⟨w1.2 (Nat.le_refl _), hlt, acc5, xs5, hx5, hd5, r5.unpin.pinned fun q hq => r5.1.pn q (List.mem_append_left _ (List.mem_append_right _ (List.mem_cons_of_mem _ hq))), e5, h5⟩
  · have e : i' = ds.length := by omega
    subst e
    rw [List.drop_length] at h'
    exact .inl ⟨w.2 (Nat.le_refl _), q acc L xs H' h' (e1.trans e') (e1.free r.bag hL) hx hd⟩
end
section
variable {X : Cx} {F : Fr} {elt tg iter tg1 iter1 : Expr} {ifs ifs1 : List Expr} {scope : Scope} {own : List (Str × Nat)} {pos : Pos} {I I1 : TLD} {tt tt1 : TBD} {te : TD}
theorem f_lc2 (i : Nat) (t1 : Tg) (vs1 : List Nat) (hc : X.calm = true) (hN : X.N.Nodup) (hi : PI X tg iter (liftI F I)) (ok : BlkOk X.N X.env.scope scope own)
    (hg : ∀ (s : Shared) (H : Hp) (C : Addr) (cl : List (Str × Addr)) (fp : List Addr), PG (X.blk s H scope (compEnvC scope cl C X.env) fp) tg (gName i))
    (hs : ∀ (s : Shared) (H : Hp) (C : Addr) (cl : List (Str × Addr)) (fp : List Addr) (pn : List (V × D)), PTs (X.blk s H scope (compEnvC scope cl C X.env) fp) ifs (liftT (F.pin pn) tt))
    (hi1 : ∀ (s : Shared) (H : Hp) (C : Addr) (cl : List (Str × Addr)) (fp : List Addr) (pn : List (V × D)), PI (X.blk s H scope (compEnvC scope cl C X.env) fp) tg1 iter1 (liftI (F.pin pn) I1))
    (hg1 : ∀ (s : Shared) (H : Hp) (C : Addr) (cl : List (Str × Addr)) (fp : List Addr), PG (X.blk s H scope (compEnvC scope cl C X.env) fp) tg1 (gOf X.K t1))
    (hs1 : ∀ (s : Shared) (H : Hp) (C : Addr) (cl : List (Str × Addr)) (fp : List Addr) (pn : List (V × D)), PTs (X.blk s H scope (compEnvC scope cl C X.env) fp) ifs1 (liftT (F.pin pn) tt1))
    (he : ∀ (s : Shared) (H : Hp) (C : Addr) (cl : List (Str × Addr)) (fp : List Addr) (pn : List (V × D)), PE (X.blk s H scope (compEnvC scope cl C X.env) fp) elt (lift (F.pin pn) te))
    (hx : i ∈ own.map (·.2) := by decide) (hx1 : ∀ j ∈ t1.ix, j ∈ vs1 := by decide) (hv : ∀ j ∈ vs1, j ∈ own.map (·.2) := by decide) (hf : ∀ x, foldedSetIterable iter X.env x = pure x := by intro _; rfl) (hf1 : ∀ env x, foldedSetIterable iter1 env x = pure x := by intro _ _; rfl) (hK : X.K = F.K := by rfl) :
    PE X (.ListComp elt [⟨tg, iter, ifs, 0⟩, ⟨tg1, iter1, ifs1, 0⟩] scope pos) (liftF F (lc2F i I tt t1 I1 tt1 te (own.map (·.2)) vs1)) :=
  pe_imp (pe_lc2 (tt := fun σ H Q => ∃ pn, liftT (F.pin pn) tt σ H Q) (wi1 := fun σ H R => ∃ pn, liftI (F.pin pn) I1 σ H R) (tt1 := fun σ H Q => ∃ pn, liftT (F.pin pn) tt1 σ H Q) (te := fun σ H Q => ∃ pn, lift (F.pin pn) te σ H Q) hc hN hi ok hv hg
    (fun s H C cl fp => ⟨fun pins s1 σ H1 Q I ⟨pn, w⟩ => (hs s H C cl fp pn).run pins s1 σ H1 Q I w⟩) (fun s H C cl fp => ⟨fun pins s1 σ H1 R I ⟨pn, w⟩ => (hi1 s H C cl fp pn).run pins s1 σ H1 R I w⟩) hg1
    (fun s H C cl fp => ⟨fun pins s1 σ H1 Q I ⟨pn, w⟩ => (hs1 s H C cl fp pn).run pins s1 σ H1 Q I w⟩) (fun s H C cl fp => ⟨fun pins s1 σ H1 Q I ⟨pn, w⟩ => (he s H C cl fp pn).run pins s1 σ H1 Q I w⟩) hf hf1)
    (lc2T _ _ hx hx1 hK _ _ _ _ (fun pn _ _ _ w => ⟨pn, w⟩) (fun pn _ _ _ w => ⟨pn, w⟩) (fun pn _ _ _ w => ⟨pn, w⟩) fun pn _ _ _ w => ⟨pn, w⟩)
end
end DL
set_option Elab.async false
set_option linter.all false
set_option maxRecDepth 100000
set_option maxHeartbeats 4000000
namespace DL
open PySem PySem.Spec PyProof.Rows L2
/-! ### {k: v for x in iter if ..} -/
noncomputable def dcompT (t : Tg) (tt : TBD) (tk tv : TD) (ρ : List Sl) : List D → List (D × D) → (List (D × D) → Prop) → Prop
  | [], acc, k => k acc
  | d :: ds, acc, k => tgD t d ρ fun ρ1 => tt ρ1 fun b => if b = true then tk ρ1 fun y => tv ρ1 fun z => (keyD y).isSome ∧ acc.length < sizeLine ∧ dcompT t tt tk tv ρ ds (putD acc y z) k else dcompT t tt tk tv ρ ds acc k
noncomputable def dcT (t : Tg) (I : TLD) (tt : TBD) (tk tv : TD) (vs : List Nat) : TD := fun ρ k => I ρ fun ds => dcompT t tt tk tv (wipeS ρ vs) ds [] fun es => k (.dic false es)
end DL
set_option Elab.async false
set_option linter.all false
set_option maxRecDepth 100000
set_option maxHeartbeats 4000000
namespace DL
open PySem PySem.Spec PyProof.Rows L2
/-! ### while -/
noncomputable def whileT (c : TBD) (S : TSD) : TSD := fun k ρ => ∃ W : Nat → List Sl → Prop, (∃ m, W m ρ) ∧ ∀ m ρ, W m ρ → c ρ fun b => if b = true then ∃ N : List Sl → Prop, (∀ ρ', N ρ' → ∃ m', m' < m ∧ W m' ρ') ∧ S { k with nx := N, ct := N, bk := k.nx } ρ else k.nx ρ
/-! ### a text of the module -/
/-! ### max of a list -/
/-! ### {}, {k: v} -/
noncomputable def emptyT : TD := fun _ k => k (.dic true []) ∨ k (.dic false [])
noncomputable def disp1T (tk tv : TD) : TD := fun ρ k => tk ρ fun y => tv ρ fun z => (keyD y).isSome ∧ k (.dic false [(y, z)])
/-! ### d.get(k, x), keys of either kind -/
section
variable {X : Cx} {pins : List (Addr × Obj)} {σ : L2.St} {H : Hp} {s : Shared} {a : Addr} {y d : V} {u r : Value} {o : Option V} {E : Value → Shared → Prop}
noncomputable def DGetS (K : PySem.W.Frag) (H : Hp) (a : Addr) (y : V) (r : Option V) : Prop := DGet H a y r ∨ ∃ kvs k b, Rd H a (.dT kvs) ∧ y = .ref b ∧ SqT K H b (k.map kV) ∧ r = valV kvs k
theorem key_ofS {ks : List Key} {b : Addr} (I : Inv X pins σ H s) (h : SqT X.K H b (ks.map kV)) : (tupleKind (mixKind X.prog X.w)).is s.heap ks b := by
  obtain ⟨its, rv, p, hz⟩ := I.tuple h
  obtain ⟨o, ho, hc, n, hd⟩ := id p
  exact ⟨o, its.toArray, n, ho, hc, hd, by simpa using items_are rv⟩
theorem d_get2S {A : Around} {Q : Value → Shared → Prop} (hu : A.units + 1 < cLine) (I : Inv X pins σ H s) (g : DGetS X.K H a y o) (ry : RelV y u) (rd : RelV d r) (h : ∀ w' s', Inv X pins σ H s' → RelV (o.getD d) w' → Q w' s') :
    wpAny (model X.prog X.w) A (call (.builtin "dict.get") [.ref a, u, r]) Q E s := by
  rcases g with g | ⟨kvs, k, b, e, ey, eb, l⟩
  · exact d_get2 hu I g ry rd h
  · subst ey
    cases (show u = Value.ref b from ry)
    obtain ⟨z, hd, xs, rel, dd⟩ := dt_rd I.hok e
    refine call_meetsIn PySem.F.slot_dict_get dd.typeIs PySem.F.entry_dict_get (PySem.F.args_dict_get_3 _ _ _) (meetsH_dict_get_default (tupleKind (mixKind X.prog X.w)) a b hd r) ⟨tupleKind_room_in1 hu, k, xs, key_ofS I eb, dd, h _ _ (I.tok _) ?_⟩
    rw [l]
    exact (rel.val k).getD rd
end
noncomputable def tDGet2S (K : PySem.W.Frag) (td ty tx : TE) : TE := fun σ H Q => td σ H fun x H1 => ∃ a, x = .ref a ∧ IsD H1 a ∧ ty σ H1 fun y H2 => tx σ H2 fun z H3 => ∃ o, DGetS K H3 a y o ∧ Q (o.getD z) H3
section
variable {X : Cx} {o e f : Expr} {apos cpos : Pos} {td ty tx : TE}
theorem pe_dget2S (hu : X.A.units + 1 < cLine) (ho : PE X o td) (he : PE X e ty) (hf : PE X f tx) (m : M2 X o "get" apos e f cpos) : PE X (.Call (.Attribute o "get" apos) [e, f] [] cpos) (tDGet2S X.K td ty tx) := by
  refine ⟨fun pins s σ H Q I h => ?_⟩
  refine wpAny_Call_method m.base m.few m.line PySem.F.plainAttrs_dict PySem.F.slot_dict_get PySem.F.type_dict_get (thn (ho.run pins s σ H _ I h) fun u s1 ⟨x, H1, I1, rx, a, ex, d, q1⟩ => ?_)
  subst ex
  obtain rfl : u = Value.ref a := rx
  obtain ⟨t1, t2, _⟩ := isD_at I1 d
  refine ⟨t1, t2, ?_⟩
  rw [m.trees]
  refine Calls.callWith_builtin rfl (Calls.evalArgs_plain (Calls.spliced_cons (thn (he.run pins s1 σ H1 _ I1 q1) fun iv s2 ⟨y, H2, I2, ry, q2⟩ =>
    Calls.spliced_cons (thn (hf.run pins s2 σ H2 _ I2 q2) fun fv s3 ⟨z, H3, I3, rz, ov, g, q3⟩ => Calls.spliced_nil ?_))))
  exact d_get2S hu I3 g ry rz fun w' s4 I4 rw' => ⟨_, H3, I4, rw', q3⟩
end
noncomputable def lookD (b : Bool) (es : List (D × D)) (y : D) (k : Option D → Prop) : Prop := match b with
  | false => optK (keyD y) fun j => k (valD es j)
  | true => optK (keyT y) fun j => k (valQ es j)
noncomputable def getT2 (t tk td : TD) : TD := fun ρ k => t ρ fun x => ∃ b es, x = .dic b es ∧ tk ρ fun y => td ρ fun z => lookD b es y fun o => k (o.getD z)
section
variable {X : Cx} {F : Fr} {o e f : Expr} {to te tf : TD} {apos pos : Pos}
theorem d_get2 {n : Nat} (hr : Room n X.A) (ho : PE X o (lift F to)) (he : PE X e (lift F te)) (hf : PE X f (lift F tf))
    (h1 : attributeBase o "get" X.env (eval o X.env) = eval o X.env := by rfl)
    (h2 : ((backTo pos (starEach [e, f] X.env)).all (fun x => !x.1) && (backToKw pos (keywordEach [] X.env)).all (fun x => x.1.isSome)
    && decide (([e, f] : List Expr).length + ([] : List Keyword).length + (if ([] : List Keyword).isEmpty then 0 else 1) < 30)) = true := by rfl)
    (h3 : (apos.endLine == pos.line) = true := by rfl)
    (h4 : backTo pos (starEach [e, f] X.env) = [(false, eval e X.env), (false, eval f X.env)] := by rfl) (hK : X.K = F.K := by rfl) :
    PE X (.Call (.Attribute o "get" apos) [e, f] [] pos) (lift F (getT2 to te tf)) := by
  refine pe_imp (pe_dget2S (by have := u150 hr; omega) ho he hf ⟨h1, h2, h3, h4⟩) fun σ H Q ⟨G, ρ, k, r, h, q⟩ => ⟨G, ρ, _, r, h, fun x v H1 ⟨b, es, hx, h1⟩ e1 d1 => ?_⟩
  subst hx
  have hd : ∃ a, v = .ref a ∧ IsD H1 a := by
    obtain ⟨a, rfl, n, z⟩ := id d1
    rcases z with ⟨kvs, z, _⟩ | ⟨kvs, z, _⟩
    · exact ⟨a, rfl, .inl ⟨_, z⟩⟩
    · exact ⟨a, rfl, .inr ⟨_, z⟩⟩
  obtain ⟨a, rfl, isd⟩ := hd
  refine ⟨a, rfl, isd, G, ρ, _, r.step e1, h1, fun y u H2 h2 e2 d2 => ?_⟩
  refine ⟨G, ρ, _, (r.step e1).step e2, h2, fun z w H3 h3 e3 d3 => ?_⟩
  have r2 := (r.step e1).step e2
  have e13 := (e1.trans e2).trans e3
  have d1' := (r2.evo e3).dt _ _ (((r.step e1).evo e2).dt _ _ d1)
  have d2' := (r2.evo e3).dt _ _ d2
  cases b with
  | false =>
    obtain ⟨j, hj, h3⟩ := (show optK (keyD y) _ from h3)
    obtain ⟨a', kvs', e', n', ha', hp'⟩ := dic_K d1'
    cases e'
    obtain rfl := keyD_kV hj d2
    refine ⟨_, .inl (.inl ⟨kvs', j, ha', rfl, rfl⟩), ?_⟩
    rcases hp'.val (j := j) with ⟨g1, g2⟩ | ⟨d, v, g1, g2, g3⟩
    · rw [g2]; rw [g1] at h3
      exact q _ _ H3 h3 e13 d3
    · rw [g2]; rw [g1] at h3
      exact q _ _ H3 h3 e13 g3
  | true =>
    obtain ⟨j, hj, h3⟩ := (show optK (keyT y) _ from h3)
    obtain ⟨a', kvs', e', n', ha', hp'⟩ := dic_T d1'
    cases e'
    obtain ⟨b, rfl, hb⟩ := keyT_kV hj d2'
    refine ⟨_, .inr ⟨kvs', j, b, ha', rfl, .inl (.inl hb), rfl⟩, ?_⟩
    rcases hp'.val (j := j) with ⟨g1, g2⟩ | ⟨d, v, g1, g2, g3⟩
    · rw [g2]; rw [g1] at h3
      exact q _ _ H3 h3 e13 d3
    · rw [g2]; rw [g1] at h3
      exact q _ _ H3 h3 e13 g3
end
end DL
set_option Elab.async false
set_option linter.all false
set_option maxRecDepth 100000
set_option maxHeartbeats 4000000
namespace DL
open PySem PySem.Spec PyProof.Rows L2
/-! ### owned dicts -/
noncomputable abbrev dE (e : D × D) : D × Tr := (e.1, .d e.2)
noncomputable def putQ (es : List (D × D)) (k d : D) : List (D × D) := if (es.any fun e => decide (keyT e.1 = keyT k)) = true then es.map (fun e => if keyT e.1 = keyT k then (e.1, d) else e) else es ++ [(k, d)]
theorem keyT_kD (j : List Key) : keyT (.tup (j.map kD)) = some j := by simp only [keyT, keysD_kD]
section
variable {K : PySem.W.Frag} {G : Gh} {H : Hp}
theorem DtQ.any {j : List Key} : ∀ {es : List (D × D)} {kvs : List (List Key × V)} {t : Bool}, DtQ K G H t es kvs → (es.any fun e => decide (keyT e.1 = keyT (.tup (j.map kD)))) = (kvs.any fun kv => decide (kv.1 = j))
  | [], _, _, h => by rw [h.1]; rfl
  | (k, d) :: es, _, _, h => by
    obtain ⟨i, v, r, rfl, rfl, h1, h2⟩ := h
    rw [List.any_cons, List.any_cons, DtQ.any h2, keyT_kD, keyT_kD]
    simp only [Option.some.injEq]
theorem DtQ.app : ∀ {es : List (D × D)} {kvs : List (List Key × V)} {fs : List (D × D)} {ls : List (List Key × V)}, DtQ K G H true es kvs → DtQ K G H true fs ls → DtQ K G H true (es ++ fs) (kvs ++ ls)
  | [], _, _, _, h, h' => by rw [h.1]; exact h'
  | (k, d) :: es, _, _, _, h, h' => by
    obtain ⟨i, v, r, rfl, rfl, h1, h2⟩ := h
    exact ⟨i, v, _, rfl, rfl, h1, DtQ.app h2 h'⟩
theorem DtQ.repl {j : List Key} {d : D} {v : V} (hd : Dt K G H d v) : ∀ {es : List (D × D)} {kvs : List (List Key × V)}, DtQ K G H true es kvs → DtQ K G H true (es.map fun e => if keyT e.1 = keyT (.tup (j.map kD)) then (e.1, d) else e) (kvs.map fun kv => if kv.1 = j then (kv.1, v) else kv)
  | [], _, h => by rw [h.1]; exact ⟨rfl, rfl⟩
  | (k, d') :: es, _, h => by
    obtain ⟨i, w, r, rfl, rfl, h1, h2⟩ := h
    rw [List.map_cons, List.map_cons]
    by_cases e : i = j
    · subst e
      rw [if_pos rfl, if_pos rfl]
      exact ⟨i, v, _, rfl, rfl, hd, DtQ.repl hd h2⟩
    · have e' : ¬ keyT (.tup (i.map kD)) = keyT (.tup (j.map kD)) := by rw [keyT_kD, keyT_kD]; exact fun z => e (Option.some.inj z)
      rw [if_neg e', if_neg e]
      exact ⟨i, w, _, rfl, rfl, h1, DtQ.repl hd h2⟩
theorem DtQ.put {j : List Key} {d : D} {v : V} {es : List (D × D)} {kvs : List (List Key × V)} (h : DtQ K G H true es kvs) (hd : Dt K G H d v) : DtQ K G H true (putQ es (.tup (j.map kD)) d) (putK kvs j v) := by
  unfold putQ putK
  rw [h.any (j := j)]
  split
  · exact h.repl hd
  · exact h.app ⟨j, v, [], rfl, rfl, hd, rfl, rfl⟩
theorem DtQ.len : ∀ {es : List (D × D)} {kvs : List (List Key × V)} {t : Bool}, DtQ K G H t es kvs → es.length = kvs.length
  | [], _, _, h => by rw [h.1]; rfl
  | (k, d) :: es, _, _, h => by
    obtain ⟨j, v, r, rfl, _, _, h2⟩ := h
    simp [DtQ.len h2]
theorem OwP.of : ∀ {es : List (D × D)} {kvs : List (Key × V)}, DtP K G H false es kvs → OwP K G H false (es.map dE) kvs []
  | [], _, h => ⟨h.1, h.2, rfl⟩
  | (k, d) :: es, _, h => by
    obtain ⟨j, v, r, rfl, rfl, h1, h2⟩ := h
    exact ⟨j, v, r, [], [], rfl, rfl, ⟨rfl, h1⟩, OwP.of h2, rfl⟩
theorem OwP.to : ∀ {es : List (D × D)} {kvs : List (Key × V)} {M : List Addr}, OwP K G H false (es.map dE) kvs M → M = [] ∧ DtP K G H false es kvs
  | [], _, _, h => ⟨h.2.2, h.1, h.2.1⟩
  | (k, d) :: es, _, _, h => by
    obtain ⟨j, v, r, M, N, rfl, rfl, h1, h2, rfl⟩ := h
    obtain ⟨rfl, h3⟩ := OwP.to h2
    exact ⟨by rw [h1.1]; rfl, j, v, r, rfl, rfl, h1.2, h3⟩
theorem OwQ.of : ∀ {es : List (D × D)} {kvs : List (List Key × V)}, DtQ K G H true es kvs → OwQ K G H true (es.map dE) kvs []
  | [], _, h => ⟨h.1, h.2, rfl⟩
  | (k, d) :: es, _, h => by
    obtain ⟨j, v, r, rfl, rfl, h1, h2⟩ := h
    exact ⟨j, v, r, [], [], rfl, rfl, ⟨rfl, h1⟩, OwQ.of h2, rfl⟩
theorem OwQ.to : ∀ {es : List (D × D)} {kvs : List (List Key × V)} {M : List Addr}, OwQ K G H true (es.map dE) kvs M → M = [] ∧ DtQ K G H true es kvs
  | [], _, _, h => ⟨h.2.2, h.1, h.2.1⟩
  | (k, d) :: es, _, _, h => by
    obtain ⟨j, v, r, M, N, rfl, rfl, h1, h2, rfl⟩ := h
    obtain ⟨rfl, h3⟩ := OwQ.to h2
    exact ⟨by rw [h1.1]; rfl, j, v, r, rfl, rfl, h1.2, h3⟩
theorem OwP.kind {b : Bool} : ∀ {es : List (D × Tr)} {kvs : List (Key × V)} {M : List Addr}, OwP K G H b es kvs M → b = false
  | [], _, _, h => h.2.1
  | (k, d) :: es, _, _, h => by
    obtain ⟨j, v, r, M, N, rfl, rfl, h1, h2, rfl⟩ := h
    exact OwP.kind h2
theorem OwQ.kind {b : Bool} : ∀ {es : List (D × Tr)} {kvs : List (List Key × V)} {M : List Addr}, OwQ K G H b es kvs M → b = true
  | [], _, _, h => h.2.1
  | (k, d) :: es, _, _, h => by
    obtain ⟨j, v, r, M, N, rfl, rfl, h1, h2, rfl⟩ := h
    exact OwQ.kind h2
end
/-- x[k] = v, x an owned dict of data -/
noncomputable def dputK (i : Nat) (tk tv : TD) : TSD := fun k ρ => ∃ es, ρ[i]? = some (.tr (.m false (es.map dE))) ∧ tv ρ fun d => tk ρ fun y => (keyD y).isSome ∧ es.length < sizeLine ∧ k.nx (ρ.set i (.tr (.m false ((putD es y d).map dE))))
/-- {} of its own -/
noncomputable def emptyR : TRD := fun _ k => k (.m true []) ∨ k (.m false [])
end DL
set_option Elab.async false
set_option linter.all false
set_option maxRecDepth 100000
set_option maxHeartbeats 4000000
namespace DL
open PySem PySem.Spec PyProof.Rows L2
/-! ### a dict display with tuple keys -/
noncomputable def OwKV (K : PySem.W.Frag) (G : Gh) (H : Hp) : List (D × Tr) → List (V × V) → List Addr → Prop
  | [], ps, L => ps = [] ∧ L = []
  | (k, t) :: es, ps, L => ∃ (j : List Key) (b : Addr) (v : V) (r : List (V × V)) (M N : List Addr), ps = (.ref b, v) :: r ∧ k = .tup (j.map kD) ∧ H b = some (.tup (j.map kV)) ∧ Ow K G H t v M ∧ OwKV K G H es r N ∧ L = M ++ N
theorem OwKV.own {K : PySem.W.Frag} {G : Gh} {H : Hp} : ∀ {es : List (D × Tr)} {ps : List (V × V)} {L : List Addr}, OwKV K G H es ps L → ∀ p ∈ L, G.own p ∧ H p ≠ none ∧ Mut (H p)
  | [], _, _, h, p, hp => by rw [h.2] at hp; cases hp
  | (k, t) :: es, _, _, h, p, hp => by
    obtain ⟨j, b, v, r, M, N, rfl, _, _, h1, h2, rfl⟩ := h
    rcases List.mem_append.mp hp with hp | hp
    · exact ⟨(Ow.own t v M h1 p hp).1, (Ow.own t v M h1 p hp).2, Ow.mut t v M h1 p hp⟩
    · exact OwKV.own h2 p hp
theorem OwQ.keys {K : PySem.W.Frag} {G : Gh} {H : Hp} : ∀ {es : List (D × Tr)} {kvs : List (List Key × V)} {L : List Addr}, OwQ K G H true es kvs L → es.map (fun e => keyT e.1) = kvs.map (fun kv => some kv.1)
  | [], _, _, h => by rw [h.1]; rfl
  | (k, t) :: es, _, _, h => by
    obtain ⟨j, v, r, M, N, rfl, rfl, h1, h2, rfl⟩ := h
    rw [List.map_cons, List.map_cons, OwQ.keys h2, keyT_kD]
end DL
set_option Elab.async false
set_option linter.all false
set_option maxRecDepth 100000
set_option maxHeartbeats 4000000
namespace DL
open PySem PySem.Spec PyProof.Rows L2
/-! ### x[(..)][(..)] = v -/
noncomputable def valE : List (D × Tr) → List Key → Option Tr
  | [], _ => none
  | (k, t) :: es, j => if keyT k = some j then some t else valE es j
noncomputable def setE : List (D × Tr) → List Key → Tr → List (D × Tr)
  | [], _, _ => []
  | (k, t) :: es, j, u => if keyT k = some j then (k, u) :: es else (k, t) :: setE es j u
theorem OwQ.at {K : PySem.W.Frag} {G : Gh} {H : Hp} {j : List Key} {t : Tr} : ∀ {es : List (D × Tr)} {kvs : List (List Key × V)} {M : List Addr}, OwQ K G H true es kvs M → valE es j = some t → ∃ v A B C, valV kvs j = some v ∧ M = A ++ (B ++ C) ∧ Ow K G H t v B ∧
    ∀ (G' : Gh) (H' : Hp) (t' : Tr), (∀ u w L, (∀ p ∈ L, p ∈ A ∨ p ∈ C) → Ow K G H u w L → Ow K G' H' u w L) → Ow K G' H' t' v B → OwQ K G' H' true (setE es j t') kvs M
  | [], _, _, h, e => by cases e
  | (k, u) :: es, _, _, h, e => by
    obtain ⟨i, v, r, M, N, rfl, rfl, h1, h2, rfl⟩ := h
    unfold valE at e
    by_cases z : i = j
    · subst z
      rw [if_pos (keyT_kD i)] at e
      cases e
      refine ⟨v, [], M, N, valV_pos rfl, rfl, h1, fun G' H' t' g h' => ?_⟩
      unfold setE
      rw [if_pos (keyT_kD i)]
      have rest : ∀ {es : List (D × Tr)} {kvs : List (List Key × V)} {N' : List Addr}, (∀ p ∈ N', p ∈ N) → OwQ K G H true es kvs N' → OwQ K G' H' true es kvs N' := by
        intro es
        induction es with
        | nil => intro kvs N' _ h; exact h
        | cons a es ih =>
          intro kvs N' s h
          obtain ⟨i, v, r, M, N1, rfl, e, h1, h2, rfl⟩ := h
          exact ⟨i, v, r, M, N1, rfl, e, g _ _ _ (fun p hp => .inr (s p (List.mem_append_left _ hp))) h1, ih (fun p hp => s p (List.mem_append_right _ hp)) h2, rfl⟩
      exact ⟨i, v, r, M, N, rfl, rfl, h', rest (fun _ h => h) h2, rfl⟩
    · have n : ¬ keyT (.tup (i.map kD)) = some j := by rw [keyT_kD]; exact fun q => z (Option.some.inj q)
      rw [if_neg n] at e
      obtain ⟨w, A, B, C, e1, rfl, e3, e4⟩ := OwQ.at h2 e
      refine ⟨w, M ++ A, B, C, by rw [valV_neg (p := (i, v)) z]; exact e1, by rw [List.append_assoc], e3, fun G' H' t' g h' => ?_⟩
      unfold setE
      rw [if_neg n]
      exact ⟨i, v, r, M, A ++ (B ++ C), rfl, rfl, g _ _ _ (fun p hp => .inl (List.mem_append_left _ hp)) h1, e4 G' H' t' (fun u w L s => g u w L fun p hp => (s p hp).imp (List.mem_append_right _) _root_.id) h', rfl⟩
end DL
set_option Elab.async false
set_option linter.all false
set_option maxRecDepth 100000
set_option maxHeartbeats 4000000
namespace DL
open PySem PySem.Spec PyProof.Rows L2
/-- x += e, ints -/
noncomputable def augI (i : Nat) (te : TD) : TSD := fun k ρ => ∃ a, ρ[i]? = some (.dat (.int a)) ∧ te ρ fun d => ∃ b, d = .int b ∧ k.nx (ρ.set i (.dat (.int (a + b))))
/-- x[t], y = e -/
noncomputable def parS (i : Nat) (tt : TD) (j : Nat) (te : TD) : TSD := fun k ρ => te ρ fun d => ∃ d1 d2, d = .tup [d1, d2] ∧ ∃ ts, ρ[i]? = some (.tr (.l ts)) ∧ tt ρ fun y => ∃ jj n c, y = .int jj ∧ ixN ts.length jj = some n ∧ ts[n]? = some (.d c) ∧ k.nx ((ρ.set i (.tr (.l (ts.set n (.d d1))))).set j (.dat d2))
end DL
set_option Elab.async false
set_option linter.all false
set_option maxRecDepth 100000
set_option maxHeartbeats 4000000
namespace DL
open PySem PySem.Spec PyProof.Rows L2
end DL
set_option Elab.async false
set_option linter.all false
set_option maxRecDepth 100000
set_option maxHeartbeats 4000000
/-! sorting texts, any number of them -/
namespace DMS
open PySem PyProof.Rows
noncomputable def tl (x : Str) : List Nat := x.cps.toList
noncomputable def tx : Value → List Nat
  | .str x _ => x.cps.toList
  | _ => []
end DMS
namespace L2
open PySem PySem.Spec PyProof.Rows
end L2
set_option Elab.async false
set_option linter.all false
set_option maxRecDepth 100000
set_option maxHeartbeats 4000000
/-! sets of texts: set(list), sorted(set) -/
namespace DMS
open PySem PySem.Spec PyProof.Rows L2 PySem.Froz
/-- a set of texts that can be walked: its payload D, its texts l, newest first -/
structure Stx (P : Program) (w : World) (h : Heap) (a : Addr) (D : SD) (l : List Str) : Prop where
  here : h.get? a = some (sObj "set" D)
  ok : TxOk P w D l
  ris : Ris D.2.2.place.toList
  led : w.params.followText "set-order" = true ∨ D.2.2.led = true
  nd : l.Nodup
/-- the texts behind one more -/
noncomputable def more (l : List Str) (k : Str) : List Str := if k ∈ l then l else k :: l
theorem Stx.kept {P : Program} {w : World} {h h' : Heap} {a : Addr} {D : SD} {l : List Str} (R : Stx P w h a D l) (k : h'.get? a = some (sObj "set" D)) : Stx P w h' a D l := ⟨k, R.ok, R.ris, R.led, R.nd⟩
end DMS
set_option Elab.async false
set_option linter.all false
set_option maxRecDepth 100000
set_option maxHeartbeats 4000000
/-! sorted(set of texts) -/
namespace DMS
open PySem PySem.Spec PyProof.Rows L2 PySem.Froz
theorem perm_of {α : Type} [DecidableEq α] : ∀ {l ss : List α}, l.Nodup → (∀ x ∈ l, x ∈ ss) → ss.length ≤ l.length → ss.Perm l
  | [], ss, _, _, h => by
    have : ss = [] := List.length_eq_zero_iff.mp (Nat.le_zero.mp h)
    rw [this]
  | x :: l, ss, nd, hm, h => by
    obtain ⟨h1, h2⟩ := List.nodup_cons.mp nd
    have hx := hm x List.mem_cons_self
    have := perm_of (l := l) (ss := ss.erase x) h2 (fun y hy => (List.mem_erase_of_ne (fun z : y = x => h1 (by rw [← z]; exact hy))).mpr (hm y (List.mem_cons_of_mem _ hy))) (by
      rw [List.length_erase_of_mem hx]; rw [List.length_cons] at h; omega)
    exact (List.perm_cons_erase hx).trans (this.cons x)
end DMS
namespace L2
open PySem PySem.Spec PyProof.Rows DMS PySem.Froz
end L2
set_option Elab.async false
set_option linter.all false
set_option maxRecDepth 100000
set_option maxHeartbeats 4000000
/-! rules: sorted(texts), sorted(set(texts)), xs.count(x) -/
namespace DMS
open PySem
/-- each once -/
noncomputable def dd (xs : List Str) : List Str := xs.foldl more []
end DMS
set_option Elab.async false
set_option linter.all false
set_option maxRecDepth 100000
set_option maxHeartbeats 4000000
namespace L2
open PySem PySem.Spec PyProof.Rows
end L2
namespace DL
open PySem PySem.Spec PyProof.Rows L2 DMS
end DL
set_option Elab.async false
set_option linter.all false
set_option maxRecDepth 100000
set_option maxHeartbeats 4000000
/-! sorted(d.values()), texts -/
namespace DMS
open PySem PySem.Spec PyProof.Rows L2 PySem.Froz
end DMS
namespace DL
open PySem PySem.Spec PyProof.Rows L2 DMS
section
variable {X : Cx} {F : Fr} {e : Expr} {te : TD} {p apos cpos pos : Pos}
/-- list(range(n)) -/
noncomputable def lstRgF (t : TD) : TLD := fun ρ k => t ρ fun d => ∃ n : Nat, d = .int n ∧ n ≤ 2 ^ 24 ∧ k ((List.range n).map fun i => .int (i : Nat))
end
end DL
set_option Elab.async false
set_option linter.all false
set_option maxRecDepth 100000
set_option maxHeartbeats 4000000
namespace DL
open PySem PySem.Spec PyProof.Rows L2
/-! ### calls that change what is handed to them -/
noncomputable def off (H : Hp) (B : List Addr) : Hp := fun a => if a ∈ B then none else H a
theorem off_in {H : Hp} {B : List Addr} {a : Addr} (h : a ∈ B) : off H B a = none := if_pos h
theorem off_out {H : Hp} {B : List Addr} {a : Addr} (h : a ∉ B) : off H B a = H a := if_neg h
theorem TabF.off {H : Hp} {P : Addr} {q : Str} {B : List Addr} (h : TabF H P q) (mu : ∀ p ∈ B, Mut (H p)) : TabF (DL.off H B) P q := by
  obtain ⟨ps, h1, _⟩ := id h
  exact h.to (off_out fun w => by have m := mu P w; rw [h1] at m; exact m) fun c oc hc => (off_out fun w => by have m := mu c w; rw [hc] at m; exact m).trans hc
theorem BagOk.off {H : Hp} {bg bi : Addr} {B : List Addr} (b : BagOk H bg bi) (nb : bg ∉ B) (ni : bi ∉ B) : BagOk (DL.off H B) bg bi := by
  obtain ⟨x, y, z, ns, h1, h2, r⟩ := b
  exact ⟨x, y, z, ns, (off_out nb).trans h1, (off_out ni).trans h2, r⟩
/-- a step seen without what is changed -/
theorem Ext.offR {G : Gh} {H H1 H2 : Hp} {B : List Addr} (x : Ext G H H1) (nb : G.bg ∉ B) (ni : G.bi ∉ B) (mu : ∀ p ∈ B, Mut (H p)) (e : ∀ a, a ∉ B → H2 a = H1 a) : Ext (G.rems B) (off H B) H2 := by
  have nR : ∀ (c : Addr) (oc : Obj), H1 c = some (.frz oc hoC) → c ∉ B := fun c oc hc m => by
    have h2 := mu c m
    cases q : H c with
    | none => rw [q] at h2; exact h2
    | some u =>
      rw [q] at h2
      rcases x.lk (fun z => nb (by rw [← show c = G.bg from z]; exact m)) q with z | ⟨d, od, z⟩
      · rw [hc] at z; cases z; exact h2
      · have z' := z.fr fun ps w => by rw [w] at h2; exact h2
        rw [hc] at z'; cases z'; exact d
  refine ⟨fun a u g ha => ?_, ?_, x.old.off nb ni⟩
  · by_cases m : a ∈ B
    · rw [off_in m] at ha; cases ha
    · refine (Kp.pre (Kp.to (x.keep a u g (by rw [off_out m] at ha; exact ha)) (e a m) fun c oc hc => (e c (nR c oc hc)).trans hc) (off_out m).symm fun c oc hc => ?_).imp _root_.id fun z => ⟨fun w => z.1 w.1, z.2⟩
      by_cases mc : c ∈ B
      · rw [off_in mc] at hc; cases hc
      · rw [off_out mc] at hc; exact hc
  · obtain ⟨a, y, z, ns, h1, h2, r⟩ := x.bag
    exact ⟨a, y, z, ns, (e _ nb).trans h1, (e _ ni).trans h2, r⟩
/-- a step, then one without what was made -/
theorem Ext.thru {G G2 : Gh} {H H1 H' : Hp} {R : List Addr} (e1 : Ext G H H1) (x : Ext G2 (off H1 R) H') (hbg : G2.bg = G.bg) (hbi : G2.bi = G.bi) (sub : ∀ a, G.own a → a ∉ R → G2.own a) (fr : ∀ a o, H a = some o → a ∉ R) (mu : ∀ p ∈ R, Mut (H1 p)) (et : G2.tbs = G.tbs := by rfl) : Ext G H H' := by
  have kf : ∀ c oc, H1 c = some (.frz oc hoC) → off H1 R c = some (.frz oc hoC) := fun c oc hc => (off_out fun w => by have m := mu c w; rw [hc] at m; exact m).trans hc
  refine ⟨fun a o g ha => ?_, by have b := x.bag; rw [hbg, hbi] at b; exact b, e1.old⟩
  have aR := fr a o ha
  have g2 : a ≠ G2.bg := by rw [hbg]; exact g
  cases o with
  | tbl ps =>
    have t : ∀ q, (a, q) ∈ G.tbs → TabF H a q → TabF H' a q := fun q m t => x.tab (by rw [et]; exact m) ((e1.tab m t).to (off_out aR) kf)
    rcases e1.keep a _ g ha with z | ⟨z1, z2, od, ⟨ps1, z⟩, _⟩
    · rcases x.keep a _ g2 (by rw [off_out aR]; exact z) with w | ⟨w1, _, od, w, _⟩
      · exact .inl w
      · exact .inr ⟨fun q => w1 (sub a q aR), True.intro, od, w, t⟩
    · rcases x.keep a _ g2 (by rw [off_out aR]; exact z) with w | ⟨w1, _, od, w, _⟩
      · exact .inr ⟨z1, True.intro, od, ⟨_, w⟩, t⟩
      · exact .inr ⟨z1, True.intro, od, w, t⟩
  | _ =>
    rcases e1.keep a _ g ha with z | ⟨z1, z2, od, z3⟩
    · rcases x.keep a _ g2 (by rw [off_out aR]; exact z) with w | ⟨w1, w2, od, w3⟩
      · exact .inl w
      · exact .inr ⟨fun q => w1 (sub a q aR), w2, od, w3⟩
    · first
      | exact z2.elim
      | (rcases x.keep a _ g2 (by rw [off_out aR]; exact z3) with w | ⟨w1, w2, _⟩
         · exact .inr ⟨z1, z2, od, w⟩
         · exact w2.elim)
/-- a step with effects on what slots own -/
structure Eff (G G' : Gh) (H H' : Hp) (L L' : List Addr) : Prop where
  evo : Evo G G' H H'
  keep : ∀ p, G.own p → p ∉ L → p ≠ G.bg → H p ≠ none → G'.own p ∧ H' p = H p ∧ p ∉ L'
theorem Eff.trans {G G1 G2 : Gh} {H H1 H2 : Hp} {L L1 L2 : List Addr} (a : Eff G G1 H H1 L L1) (b : Eff G1 G2 H1 H2 L1 L2) : Eff G G2 H H2 L L2 := by
  refine ⟨⟨fun x o n h => ?_, a.evo.tr, fun x n h => ?_, b.evo.bg.trans a.evo.bg, b.evo.bi.trans a.evo.bi⟩, fun p o n g h => ?_⟩
  · have n1 := a.evo.out x n (by rw [h]; exact fun z => nomatch z)
    rcases a.evo.keep x o n h with z | ⟨d, od, z⟩
    · exact b.evo.keep x o n1 z
    · cases o with
      | tbl ps =>
        obtain ⟨ps1, h1⟩ := z
        rcases b.evo.keep x _ n1 h1 with w | ⟨_, _, w⟩
        · exact .inr ⟨True.intro, od, ps1, w⟩
        · exact .inr ⟨True.intro, od, w⟩
      | _ => first
        | exact d.elim
        | exact .inr ⟨d, od, (b.evo.keep x _ n1 z).plain fun z => z⟩
  · have n1 := a.evo.out x n h
    refine b.evo.out x n1 fun z => h ?_
    cases q : H x with
    | none => rfl
    | some o => rcases a.evo.keep x o n q with w | ⟨_, od, w⟩ <;> first | (rw [w] at z; cases z) | exact absurd z w.ne
  · obtain ⟨o1, e1, n1⟩ := a.keep p o n g h
    obtain ⟨o2, e2, n2⟩ := b.keep p o1 n1 (by rw [a.evo.bg]; exact g) (by rw [e1]; exact h)
    exact ⟨o2, e2.trans e1, n2⟩
section
variable {F : Fr} {G G' : Gh} {H H' : Hp} {σ : L2.St} {ρ : List Sl} {L : List Addr}
theorem set_same {i : Nat} {v : V} (e : σ[i]? = some (some v)) : σ.set i (some v) = σ := by
  apply List.ext_getElem?
  intro j
  by_cases h : i = j
  · subst h; rw [List.getElem?_set_self', e]; rfl
  · rw [List.getElem?_set_ne h]
/-- a slot that owns a tree -/
noncomputable def _root_.DL.Sl.tree : Sl → Option (Tr × (Tr → Sl))
  | .tr t => some (t, .tr)
  | .io v t => some (t, .io v)
  | _ => none
theorem SlR.tree {s : Sl} {t : Tr} {mk : Tr → Sl} {o : Option V} {M : List Addr} (hs : s.tree = some (t, mk)) (h : SlR F G H s o M) : (∀ p ∈ M, ¬ F.G.own p) ∧ ∃ v, o = some v ∧ Ow F.K G H t v M ∧
    ∀ (F' : Fr) (G' : Gh) (H' : Hp) (t' : Tr) (M' : List Addr), (∀ p ∈ M', ¬ F'.G.own p) → Ow F'.K G' H' t' v M' → SlR F' G' H' (mk t') (some v) M' := by
  cases s with
  | tr u =>
    obtain ⟨rfl, rfl⟩ := Prod.mk.inj (Option.some.inj hs)
    obtain ⟨n, v, rfl, h⟩ := h
    exact ⟨n, v, rfl, h, fun F' G' H' t' M' n' h' => ⟨n', v, rfl, h'⟩⟩
  | io w u =>
    obtain ⟨rfl, rfl⟩ := Prod.mk.inj (Option.some.inj hs)
    obtain ⟨n, rfl, h⟩ := h
    exact ⟨n, w, rfl, h, fun F' G' H' t' M' n' h' => ⟨n', rfl, h'⟩⟩
  | _ => cases hs
/-- what a slot owns is handed out, and comes back changed -/
theorem RelL.io (r : RelL F G H σ ρ L) {i : Nat} {t : Tr} {s : Sl} {mk : Tr → Sl} (hi : ρ[i]? = some s) (hs : s.tree = some (t, mk)) : ∃ v B, σ[i]? = some (some v) ∧ Ow F.K G H t v B ∧ B.Nodup ∧ (∀ p ∈ B, ¬ F.G.own p) ∧ G.bg ∉ B ∧ G.bi ∉ B ∧
    ∀ t' H' B', Ext (G.rems B) (off H B) H' → (∀ p ∈ B', off H B p = none) → B'.Nodup → Ow F.K ((G.rems B).adds B') H' t' v B' → ∃ L', RelL F ((G.rems B).adds B') H' σ (ρ.set i (mk t')) L' ∧ Eff G ((G.rems B).adds B') H H' L L' := by
  obtain ⟨r, h, n⟩ := r
  obtain ⟨u, A, B, C, e1, rfl, hu, k⟩ := h.upd hi
  obtain ⟨hn, v, rfl, hw, hmk⟩ := SlR.tree hs hu
  obtain ⟨n1, nB, nd⟩ := nodup_mid n
  have ob := fun p hp => (Ow.own t v B hw p hp).1
  have hb : G.bg ∉ B := fun z => hn _ z (by rw [r.bg]; exact r.ob)
  have hbi : G.bi ∉ B := fun z => hn _ z (by rw [r.bi]; exact r.oi)
  refine ⟨v, B, e1, hw, nB, hn, hb, hbi, fun t' H' B' x hB' nB' hw' => ?_⟩
  have obg : G.own G.bg := r.obg
  have fresh : ∀ p ∈ B', p ∈ B ∨ H p = none := fun p hp => by
    by_cases q : p ∈ B
    · exact .inl q
    · have := hB' p hp
      rw [off_out q] at this
      exact .inr this
  have stand : ∀ p, G.own p → p ∉ B → p ≠ G.bg → H p ≠ none → H' p = H p := fun p o nb g hh => by
    cases q : H p with
    | none => exact absurd q hh
    | some w =>
      rcases x.keep p w g (by rw [off_out nb]; exact q) with z | ⟨z, _⟩
      · exact z
      · exact absurd ⟨o, nb⟩ z
  have ev : Evo G ((G.rems B).adds B') H H' := by
    refine ⟨fun a o na ha => ?_, r.tr, fun a na ha => ?_, rfl, rfl⟩
    · have ab : a ∉ B := fun z => na (ob a z)
      exact (x.keep a o (fun z => na (z ▸ obg)) (by rw [off_out ab]; exact ha)).imp _root_.id fun ⟨_, d, od, z⟩ => ⟨d, od, z.fy⟩
    · rintro (z | z)
      · exact na z.1
      · rcases fresh a z with w | w
        · exact na (ob a w)
        · exact ha w
  have nB2 : ∀ p ∈ B', p ∉ A ∧ p ∉ C := fun p hp => by
    rcases fresh p hp with w | w
    · exact nd p w
    · exact ⟨fun z => (h.own p (List.mem_append_left _ z)).2.1 w, fun z => (h.own p (List.mem_append_right _ (List.mem_append_right _ z))).2.1 w⟩
  have nF : ∀ p ∈ B', ¬ F.G.own p := fun p hp => by
    rcases fresh p hp with w | w
    · exact hn p w
    · intro z
      have m := r.tr p (r.sub p z)
      rw [w] at m; exact m
  have sl := k F ((G.rems B).adds B') H' (mk t') (some v) B' (fun s u M kk => SlR.go rfl rfl ev s u M fun q hq h1 h2 h3 => by
    have qB : q ∉ B := fun z => by
      rcases kk q hq with w | w
      · exact (nd q z).1 w
      · exact (nd q z).2 w
    exact ⟨.inl ⟨h1, qB⟩, stand q h1 qB (fun z => h3 (by rw [z, r.bg]; exact r.ob)) h2⟩) (hmk F _ H' t' B' nF hw')
  rw [set_same e1] at sl
  have nn := nodup_in n1 nB' nB2
  have rl : Rel F ((G.rems B).adds B') H' σ (ρ.set i (mk t')) := by
    refine ⟨r.bg, r.bi, r.tb, r.ob, r.oi, fun a z => .inl ⟨r.sub a z, fun w => hn a w z⟩, fun a z na => ?_, fun a z => ?_, r.ext.thru (et := r.tb.1.symm) x r.bg r.bi (fun a q aB => ⟨r.sub a q, aB⟩) (fun a o ha z => by have := r.new a (ob a z) (hn a z); rw [ha] at this; cases this) (fun p hp => r.tr p (ob p hp)), fun q hq => ev.dt _ _ (r.pn q hq), _, sl, nn⟩
    · have fromH : H a = none → F.H a = none := fun w => by
        cases q : F.H a with
        | none => rfl
        | some o =>
          have g : a ≠ F.G.bg := fun z => by
            have := r.ext.bag.ne
            rw [← z] at this
            exact this w
          rcases r.ext.lk g q with z | ⟨_, od, z⟩ <;> first | (rw [z] at w; cases w) | exact absurd w z.ne
      rcases z with z | z
      · exact r.new a z.1 na
      · rcases fresh a z with w | w
        · exact r.new a (ob a w) (hn a w)
        · exact fromH w
    · rcases z with z | z
      · by_cases g : a = G.bg
        · subst g
          obtain ⟨x1, y1, z1, ns, e, _⟩ := x.bag
          have e' : H' G.bg = _ := e
          rw [e']; exact True.intro
        · have m := r.tr a z.1
          have hh : H a ≠ none := fun w => by rw [w] at m; exact m
          rw [stand a z.1 z.2 g hh]; exact m
      · exact Ow.mut t' v B' hw' a z
  refine ⟨_, ⟨rl, sl, nn⟩, ev, fun p o np g hh => ?_⟩
  have pB : p ∉ B := fun z => np (List.mem_append_right _ (List.mem_append_left _ z))
  refine ⟨.inl ⟨o, pB⟩, stand p o pB g hh, fun z => ?_⟩
  rcases List.mem_append.mp z with z | z
  · exact np (List.mem_append_left _ z)
  · rcases List.mem_append.mp z with z | z
    · rcases fresh p z with w | w
      · exact pB w
      · exact hh w
    · exact np (List.mem_append_right _ (List.mem_append_right _ z))
end
/-! ### expressions with effects -/
noncomputable abbrev TDE := List Sl → (D → List Sl → Prop) → Prop
noncomputable def pureE (t : TD) : TDE := fun ρ k => t ρ fun d => k d ρ
noncomputable def asgE (i : Nat) (t : TDE) : TSD := fun k ρ => t ρ fun d ρ' => k.nx (ρ'.set i (.dat d))
noncomputable def retE (t : TDE) : TSD := fun k ρ => t ρ fun d ρ' => k.rp d ρ'
noncomputable def dropE (t : TDE) : TSD := fun k ρ => t ρ fun _ ρ' => k.nx ρ'
noncomputable def binE (o : OD) (ta : TD) (tb : TDE) : TDE := fun ρ k => ta ρ fun x => tb ρ fun y ρ' => o x y fun z => k z ρ'
/-! ### handing out what a slot owns -/
noncomputable abbrev RMD := List (Option D) → Tr → (D → Tr → Prop) → Prop
noncomputable def DtX (K : PySem.W.Frag) (G : Gh) (H : Hp) (v : V) : List (Option D) → List V → Prop
  | [], vs => vs = []
  | some d :: xs, vs => ∃ x r, vs = x :: r ∧ Dt K G H d x ∧ DtX K G H v xs r
  | none :: xs, vs => ∃ r, vs = v :: r ∧ DtX K G H v xs r
theorem DtX.len {K : PySem.W.Frag} {G : Gh} {H : Hp} {v : V} : ∀ {xs : List (Option D)} {vs : List V}, DtX K G H v xs vs → xs.length = vs.length
  | [], _, h => by rw [show _ = [] from h]; rfl
  | some d :: xs, _, h => by
    obtain ⟨x, r, rfl, _, h⟩ := h
    simp [DtX.len h]
  | none :: xs, _, h => by
    obtain ⟨r, rfl, h⟩ := h
    simp [DtX.len h]
theorem DtX.evo {K : PySem.W.Frag} {G G' : Gh} {H H' : Hp} {v : V} (e : Evo G G' H H') : ∀ {xs : List (Option D)} {vs : List V}, DtX K G H v xs vs → DtX K G' H' v xs vs
  | [], _, h => h
  | some d :: xs, _, h => by
    obtain ⟨x, r, rfl, h1, h⟩ := h
    exact ⟨x, r, rfl, e.dt d x h1, DtX.evo e h⟩
  | none :: xs, _, h => by
    obtain ⟨r, rfl, h⟩ := h
    exact ⟨r, rfl, DtX.evo e h⟩
noncomputable def spM (K : PySem.W.Frag) (RM : RMD) : Sp := fun vs H Q _ => ∃ G xs t v B k, GOk G H ∧ DtX K G H v xs vs ∧ Ow K G H t v B ∧ B.Nodup ∧ G.bg ∉ B ∧ G.bi ∉ B ∧ RM xs t k ∧
  ∀ d t' w H' B', k d t' → Ext (G.rems B) (off H B) H' → (∀ p ∈ B', off H B p = none) → B'.Nodup → Ow K ((G.rems B).adds B') H' t' v B' → Dt K ((G.rems B).adds B') H' d w → Q w H'
structure CalMP (P : Program) (w : World) (K : PySem.W.Frag) (mg : Str → Option Value) (base : Heap) (n : Nat) (x : Str) (RM : RMD) : Prop where
  ex : ∃ (f : Addr) (fd : FuncData) (ps : List Str) (k : Nat), k ≤ n ∧ FnG P w K mg base CX0 k f fd ps (spM K RM) ∧ mg x = some (.ref f) ∧ PySem.W.keepIn K (.ref f) = true ∧ Binds K fd ps []
theorem CalMP.mono {P : Program} {w : World} {K : PySem.W.Frag} {mg : Str → Option Value} {base : Heap} {n m : Nat} {x : Str} {RM : RMD} (c : CalMP P w K mg base n x RM) (h : n ≤ m) : CalMP P w K mg base m x RM :=
  let ⟨f, fd, ps, k, hk, r⟩ := c.ex
  ⟨f, fd, ps, k, by omega, r⟩
/-! the arguments -/
noncomputable abbrev TLX := List Sl → (List (Option D) → Prop) → Prop
noncomputable def nilX : TLX := fun _ k => k []
noncomputable def consX (t : TD) (u : TLX) : TLX := fun ρ k => t ρ fun d => u ρ fun xs => k (some d :: xs)
noncomputable def ownX (u : TLX) : TLX := fun ρ k => u ρ fun xs => k (none :: xs)
noncomputable def lastY (t : TRD) : List Sl → (List (Option D) → Tr → Prop) → Prop := fun ρ k => t ρ fun x => k [none] x
noncomputable def consY (t : TD) (u : List Sl → (List (Option D) → Tr → Prop) → Prop) : List Sl → (List (Option D) → Tr → Prop) → Prop := fun ρ k => t ρ fun d => u ρ fun xs x => k (some d :: xs) x
end DL
set_option Elab.async false
set_option linter.all false
set_option maxRecDepth 100000
set_option maxHeartbeats 4000000
namespace DL
open PySem PySem.Spec PyProof.Rows L2
noncomputable def callY (RM : RMD) (ty : List Sl → (List (Option D) → Tr → Prop) → Prop) : TD := fun ρ k => ty ρ fun xs t => RM xs t fun d _ => k d
/-! ### a def that changes what it is handed -/
noncomputable def enterX (n : Nat) (v : V) (t : Tr) (xs : List (Option D)) : List Sl := xs.map (fun x => match x with
  | some d => .dat d
  | none => .io v t) ++ List.replicate (n - xs.length) .un
noncomputable def endM (j : Nat) (κ : D → Tr → Prop) (v : V) : DE where
  nx := fun ρ => ∃ t, ρ[j]? = some (.io v t) ∧ κ .non t
  rt := fun _ => False
  bk := fun _ => False
  ct := fun _ => False
  rp := fun d ρ => ∃ t, ρ[j]? = some (.io v t) ∧ κ d t
end DL
set_option Elab.async false
set_option linter.all false
set_option maxRecDepth 100000
set_option maxHeartbeats 4000000
namespace DL
open PySem PySem.Spec PyProof.Rows L2
/-! ### objects of own classes -/
theorem DtF.lookup {K : PySem.W.Frag} {G : Gh} {H : Hp} {f : Str} {d : D} : ∀ {fs : List (Str × D)} {vs : List (Str × V)}, DtF K G H fs vs → fs.lookup f = some d → ∃ v, vs.lookup f = some v ∧ Dt K G H d v
  | [], _, _, e => by cases e
  | (k, x) :: fs, _, h, e => by
    obtain ⟨v, r, rfl, h1, h2⟩ := h
    rw [List.lookup_cons] at e ⊢
    cases q : (f == k) with
    | true =>
      rw [q] at e
      obtain rfl := Option.some.inj e
      exact ⟨v, rfl, h1⟩
    | false =>
      rw [q] at e
      exact DtF.lookup h2 e
theorem DtF.none {K : PySem.W.Frag} {G : Gh} {H : Hp} {f : Str} : ∀ {fs : List (Str × D)} {vs : List (Str × V)}, DtF K G H fs vs → fs.lookup f = none → vs.lookup f = none
  | [], _, h, _ => by rw [show _ = [] from h]; rfl
  | (k, x) :: fs, _, h, e => by
    obtain ⟨v, r, rfl, h1, h2⟩ := h
    rw [List.lookup_cons] at e ⊢
    cases q : (f == k) with
    | true => rw [q] at e; cases e
    | false =>
      rw [q] at e
      exact DtF.none h2 e
noncomputable def fldT (C : Addr) (f : Str) (t : TD) : TD := fun ρ k => t ρ fun d => ∃ fs v, d = .ins C fs ∧ fs.lookup f = some v ∧ k v
/-! methods -/
structure MetP (P : Program) (w : World) (K : PySem.W.Frag) (mg : Str → Option Value) (base : Heap) (n : Nat) (C : Addr) (m : Str) (R : RD) : Prop where
  ex : ∃ (f : Addr) (fd : FuncData) (ps : List Str) (k : Nat), k ≤ n ∧ FnG P w K mg base CX0 k f fd ps (spD K R) ∧ Cls K C ∧ Meth K C m f ∧ Binds K fd ps []
theorem MetP.mono {P : Program} {w : World} {K : PySem.W.Frag} {mg : Str → Option Value} {base : Heap} {n n' : Nat} {C : Addr} {m : Str} {R : RD} (c : MetP P w K mg base n C m R) (h : n ≤ n') : MetP P w K mg base n' C m R :=
  let ⟨f, fd, ps, k, hk, r⟩ := c.ex
  ⟨f, fd, ps, k, by omega, r⟩
noncomputable def metT (C : Addr) (m : Str) (R : RD) (t : TD) (ta : TLD) : TD := fun ρ k => t ρ fun x => (∃ fs, x = .ins C fs ∧ fs.lookup m = none) ∧ ta ρ fun ds => R (x :: ds) k
/-! making -/
structure MakP (P : Program) (w : World) (K : PySem.W.Frag) (mg : Str → Option Value) (base : Heap) (n : Nat) (x : Str) (C : Addr) (RM : RMD) : Prop where
  ex : ∃ (f : Addr) (fd : FuncData) (ps : List Str) (k : Nat), k + 1 ≤ n ∧ FnG P w K mg base CX0 k f fd ps (spM K RM) ∧ mg x = some (.ref C) ∧ Mk K C f ∧ Binds K fd ps []
theorem MakP.mono {P : Program} {w : World} {K : PySem.W.Frag} {mg : Str → Option Value} {base : Heap} {n n' : Nat} {x : Str} {C : Addr} {RM : RMD} (c : MakP P w K mg base n x C RM) (h : n ≤ n') : MakP P w K mg base n' x C RM :=
  let ⟨f, fd, ps, k, hk, r⟩ := c.ex
  ⟨f, fd, ps, k, by omega, r⟩
/-- C(..): what __init__ makes of a new object -/
noncomputable def makT (C : Addr) (RM : RMD) (ta : TLD) : TRD := fun ρ k => ta ρ fun ds => RM (none :: ds.map some) (.o C []) fun d t => d = .non ∧ k t
theorem DtX.of {K : PySem.W.Frag} {G : Gh} {H : Hp} {v : V} : ∀ {ds : List D} {vs : List V}, DtL K G H ds vs → DtX K G H v (ds.map some) vs
  | [], _, h => h
  | d :: ds, _, h => by
    obtain ⟨x, r, rfl, h1, h2⟩ := h
    exact ⟨x, r, rfl, h1, DtX.of h2⟩
section
variable {X : Cx} {F : Fr} {n : Nat} {C f : Addr} {x : Str} {RM : RMD} {e : Expr} {es : List Expr} {ta : TLD} {p pos : Pos} {fd : FuncData} {ps : List Str} {sp : Sp} {k : Nat} {E : XK} {CX : CXT}
/-- what is new, as data -/
noncomputable def datO (t : TRD) : TD := fun ρ k => t ρ fun x => k x.toD
theorem d_ofR {tr : TRD} (h : PE X e (liftR F tr)) : PE X e (lift F (datO tr)) :=
  pe_imp h fun σ H Q ⟨G, ρ, k, r, h, q⟩ => ⟨G, ρ, _, r, h, fun t v R H' h1 e1 hR nR ho => q _ v H' h1 e1 (ow_toD r.ok e1 hR ho)⟩
end
end DL
set_option Elab.async false
set_option linter.all false
set_option maxRecDepth 100000
set_option maxHeartbeats 4000000
namespace DL
open PySem PySem.Spec PyProof.Rows L2
/-! ### what a slot owns is changed -/
theorem RelL.chg {F : Fr} {G : Gh} {H : Hp} {σ : L2.St} {ρ : List Sl} {L : List Addr} (r : RelL F G H σ ρ L) {i : Nat} {t : Tr} {s : Sl} {mk : Tr → Sl} (hi : ρ[i]? = some s) (hs : s.tree = some (t, mk)) : ∃ v B, σ[i]? = some (some v) ∧ Ow F.K G H t v B ∧ B.Nodup ∧ (∀ p ∈ B, ¬ F.G.own p) ∧
    ∀ (p : Addr) (o : HO) (t' : Tr), p ∈ B → Mut (some o) → Ow F.K G (upd H p o) t' v B → ∃ L', RelL F ((G.rems B).adds B) (upd H p o) σ (ρ.set i (mk t')) L' := by
  obtain ⟨v, B, e1, hw, nB, hn, nb, ni, io⟩ := r.io hi hs
  refine ⟨v, B, e1, hw, nB, hn, fun p o t' hp mo hw' => ?_⟩
  have hx : Ext (G.rems B) (off H B) (upd H p o) := by
    exact (Ext.refl r.1.bag).offR nb ni (fun q hq => Ow.mut t v B hw q hq) fun a m => upd_ne fun z => m (by rw [z]; exact hp)
  have ev : Evo G ((G.rems B).adds B) (upd H p o) (upd H p o) := by
    refine ⟨fun _ _ _ h => .inl h, fun a z => ?_, fun a n _ z => n ?_, rfl, rfl⟩
    · by_cases e : a = p
      · subst e; rw [upd_same]; exact mo
      · rw [upd_ne e]; exact r.1.tr a z
    · rcases z with w | w
      · exact w.1
      · exact (Ow.own t v B hw a w).1
  obtain ⟨L', h, _⟩ := io t' (upd H p o) B hx (fun q hq => off_in hq) nB (Ow.evo ev t' v B (fun q hq => ⟨.inr hq, rfl⟩) hw')
  exact ⟨L', h⟩
noncomputable def mX (i : Nat) (o : MD) (ta : TLD) : TSD := fun k ρ => ∃ s ts mk, ρ[i]? = some s ∧ s.tree = some (.l ts, mk) ∧ ta ρ fun args => o ts args fun us => k.nx (ρ.set i (mk (.l us)))
/-! fields of an object that is being made -/
noncomputable def putFT (f : Str) (d : D) : List (Str × Tr) → List (Str × Tr)
  | [] => [(f, .d d)]
  | (g, x) :: r => if g = f then (g, .d d) :: r else (g, x) :: putFT f d r
/-- the field is new, or holds data -/
noncomputable def Plain (f : Str) (fs : List (Str × Tr)) : Prop := ∀ t, fs.lookup f = some t → ∃ d, t = .d d
theorem OwF.put {K : PySem.W.Frag} {G : Gh} {H : Hp} {f : Str} {d : D} {v : V} (hd : Dt K G H d v) : ∀ {fs : List (Str × Tr)} {vs : List (Str × V)} {M : List Addr}, Plain f fs → OwF K G H fs vs M → OwF K G H (putFT f d fs) (putF f v vs) M
  | [], _, _, _, h => by
    obtain ⟨rfl, rfl⟩ := h
    exact ⟨v, [], [], [], rfl, ⟨rfl, hd⟩, ⟨rfl, rfl⟩, rfl⟩
  | (g, x) :: fs, _, _, p, h => by
    obtain ⟨u, r, A, B, rfl, h1, h2, rfl⟩ := h
    unfold putFT putF
    by_cases e : g = f
    · rw [if_pos e, if_pos e]
      obtain ⟨d0, rfl⟩ := p x (by rw [List.lookup_cons, e]; simp)
      obtain ⟨rfl, _⟩ := h1
      exact ⟨v, r, [], B, rfl, ⟨rfl, hd⟩, h2, rfl⟩
    · rw [if_neg e, if_neg e]
      refine ⟨u, _, A, B, rfl, h1, OwF.put hd (fun t ht => p t ?_) h2, rfl⟩
      have e3 : (f == g) = false := by simpa using fun z => e z.symm
      rw [List.lookup_cons, e3]; exact ht
theorem OwF.len {K : PySem.W.Frag} {G : Gh} {H : Hp} : ∀ {fs : List (Str × Tr)} {vs : List (Str × V)} {M : List Addr}, OwF K G H fs vs M → fs.length = vs.length
  | [], _, _, h => by rw [h.1]; rfl
  | (g, x) :: fs, _, _, h => by
    obtain ⟨u, r, A, B, rfl, h1, h2, rfl⟩ := h
    simp [OwF.len h2]
/-- self.f = e -/
noncomputable def fldX (i : Nat) (C : Addr) (f : Str) (t : TD) : TSD := fun k ρ => t ρ fun d => ∃ s fs mk, ρ[i]? = some s ∧ s.tree = some (.o C fs, mk) ∧ Plain f fs ∧ fs.length < 1000 ∧ k.nx (ρ.set i (mk (.o C (putFT f d fs))))
section
variable {X : Cx} {F : Fr} {e : Expr} {te : TD} {C : Addr} {f g x : Str} {px pos pos' : Pos} {i : Nat}
/-- self.f, self.g = e -/
noncomputable def fldX2 (i : Nat) (C : Addr) (f g : Str) (t : TD) : TSD := fun k ρ => t ρ fun d => ∃ d1 d2 s fs mk, d = .tup [d1, d2] ∧ ρ[i]? = some s ∧ s.tree = some (.o C fs, mk) ∧ Plain f fs ∧ Plain g (putFT f d1 fs) ∧ fs.length + 1 < 1000 ∧ k.nx (ρ.set i (mk (.o C (putFT g d2 (putFT f d1 fs)))))
end
end DL
set_option Elab.async false
set_option linter.all false
set_option maxRecDepth 100000
set_option maxHeartbeats 4000000
namespace DL
open PySem PySem.Spec PyProof.Rows L2
/-! ### dicts with tuples as keys, walked over -/
end DL
set_option Elab.async false
set_option linter.all false
set_option maxRecDepth 100000
set_option maxHeartbeats 4000000
namespace DL
open PySem PySem.Spec PyProof.Rows L2
/-! ### dicts with tuples as keys, locked, as data -/
section
variable {K : PySem.W.Frag} {G : Gh} {H : Hp}
theorem DtQ.get : ∀ {es : List (D × D)} {kvs : List (List Key × V)} {t : Bool} {i : Nat} {j : List Key} {v : V}, DtQ K G H t es kvs → kvs[i]? = some (j, v) → ∃ d, es[i]? = some (.tup (j.map kD), d) ∧ Dt K G H d v
  | [], _, _, i, _, _, h, e => by rw [h.1] at e; simp at e
  | (k, d) :: es, _, _, 0, _, _, h, e => by
    obtain ⟨j, v, r, rfl, rfl, h1, h2⟩ := h
    simp at e
    obtain ⟨rfl, rfl⟩ := e
    exact ⟨d, rfl, h1⟩
  | (k, d) :: es, _, _, i + 1, _, _, h, e => by
    obtain ⟨j, v, r, rfl, rfl, h1, h2⟩ := h
    obtain ⟨d', e1, e2⟩ := DtQ.get (i := i) h2 (by simpa using e)
    exact ⟨d', by simpa using e1, e2⟩
end
noncomputable def keysQ (t : TD) : TLD := fun ρ k => t ρ fun d => ∃ es, d = .dic true es ∧ k (es.map Prod.fst)
noncomputable def valsQ (t : TD) : TLD := fun ρ k => t ρ fun d => ∃ es, d = .dic true es ∧ k (es.map Prod.snd)
noncomputable def itemsQ (t : TD) : TLD := fun ρ k => t ρ fun d => ∃ es, d = .dic true es ∧ k (es.map tupE)
/-! ### table[key], a tuple as key -/
noncomputable def qixT (t tk : TD) : TD := fun ρ k => t ρ fun x => ∃ es, x = .dic true es ∧ tk ρ fun y => optK (keyT y) fun j => optK (valQ es j) k
end DL
set_option Elab.async false
set_option linter.all false
set_option maxRecDepth 100000
set_option maxHeartbeats 4000000
namespace DL
open PySem PySem.Spec PyProof.Rows L2
/-! ### dict comprehensions whose keys are tuples -/
end DL
set_option Elab.async false
set_option linter.all false
set_option maxRecDepth 100000
set_option maxHeartbeats 4000000
namespace DL
open PySem PySem.Spec PyProof.Rows L2
/-! ### {k: v for x in iter if ..}, the keys tuples -/
noncomputable def dcompQ (t : Tg) (tt : TBD) (tk tv : TD) (ρ : List Sl) : List D → List (D × D) → (List (D × D) → Prop) → Prop
  | [], acc, k => k acc
  | d :: ds, acc, k => tgD t d ρ fun ρ1 => tt ρ1 fun b => if b = true then tk ρ1 fun y => tv ρ1 fun z => (keyT y).isSome ∧ acc.length < sizeLine ∧ dcompQ t tt tk tv ρ ds (putQ acc y z) k else dcompQ t tt tk tv ρ ds acc k
noncomputable def dcQ (t : Tg) (I : TLD) (tt : TBD) (tk tv : TD) (vs : List Nat) : TD := fun ρ k => I ρ fun ds => dcompQ t tt tk tv (wipeS ρ vs) ds [] fun es => k (.dic true es)
end DL
set_option Elab.async false
set_option linter.all false
set_option maxRecDepth 100000
set_option maxHeartbeats 4000000
/-! ### sorted(d): the keys of a dict, of any one kind -/
namespace DL
open PySem PySem.Spec PyProof.Rows L2 PySem.W
mutual
/-- no list, no dict within -/
noncomputable def D.fla : D → Bool
  | .non | .bl _ | .int _ | .str _ => true
  | .tup ds => D.flaL ds
  | _ => false
noncomputable def D.flaL : List D → Bool
  | [] => true
  | d :: ds => D.fla d && D.flaL ds
end
section
variable {X : Cx} {pins : List (Addr × Obj)} {σ : L2.St} {H : Hp} {s : Shared} {G : Gh}
mutual
theorem Dt.readsF (I : Inv X pins σ H s) : ∀ (d : D) (v : V) (u : Value), d.fla = true → Dt X.K G H d v → RelV v u → Reads s.heap u d.pw []
  | .non, v, u, _, h, r => by obtain rfl := h; obtain rfl : u = .none := r; exact .none
  | .bl b, v, u, _, h, r => by obtain rfl := h; obtain rfl : u = .bool b := r; exact .bool b
  | .int i, v, u, _, h, r => by obtain rfl := h; obtain ⟨t, rfl⟩ := r; exact .int i t
  | .str x, v, u, _, h, r => by obtain rfl := h; obtain ⟨t, rfl⟩ := r; exact .str x t
  | .tup ds, v, u, c, h, r => by
    obtain ⟨a, xs, rfl, ha, hd⟩ := h
    cases r
    obtain ⟨its, rv, ⟨o, ho, hc, n', hda⟩, _⟩ := I.tuple (.inl (.inl ha))
    exact .tuple ho hc hda (Dt.readsFL I ds xs its (by simpa only [D.fla] using c) hd rv)
  | .lst _, v, u, c, h, r => by simp [D.fla] at c
  | .dic _ _, v, u, c, h, r => by simp [D.fla] at c
  | .ins _ _, v, u, c, h, r => by simp [D.fla] at c
  | .glb _, v, u, c, h, r => by simp [D.fla] at c
  | .bag, v, u, c, h, r => by simp [D.fla] at c
  | .lock _ _, v, u, c, h, r => by simp [D.fla] at c
  | .at _ _, v, u, c, h, r => by simp [D.fla] at c
theorem Dt.readsFL (I : Inv X pins σ H s) : ∀ (ds : List D) (vs : List V) (us : List Value), D.flaL ds = true → DtL X.K G H ds vs → Vals vs us → ReadsAll s.heap us (D.pwL ds) []
  | [], vs, us, _, h, r => by obtain rfl := h; cases r; exact .nil
  | d :: ds, vs, us, c, h, r => by
    obtain ⟨v, vs, rfl, h1, h2⟩ := h
    simp only [D.flaL, Bool.and_eq_true] at c
    cases r with
    | cons r1 r2 =>
      have := ReadsAll.cons (Dt.readsF I d v _ c.1 h1 r1) (Dt.readsFL I ds vs _ c.2 h2 r2)
      exact this
end
end
/-- what sorted makes of data -/
noncomputable def srtD (ds : List D) : List D := ds.mergeSort (dataLe false D.pw)
/-- data that can be sorted -/
noncomputable def SrtOk (m : Nat) (ds : List D) : Prop := (∀ d ∈ ds, d.fla = true ∧ d.pw.depth ≤ m) ∧ (ds.length < 2 ∨ (AllAlike (ds.map D.pw) ∧ Sortable (ds.map D.pw)))
section
variable {prog : Program} {w : World} {A : Around} {E : Value → Shared → Prop} {s : Shared} {T : String} {r d : Addr} {n m : Nat} {P : Nat → Value → Prop} {OK : Heap → Prop}
/-- what collect finds, and that the heap has grown -/
theorem collect_src {R : List Value → Shared → Prop} (K : KdlSrc prog w T r d n P OK) (hh : A.handled = none) (hok : OK s.heap) (hn : n ≤ sizeLine)
    (h : ∀ (h' : Heap) (tk : Nat) (acc : Array Value), (∀ b o, s.heap.get? b = some o → h'.get? b = some o) → s.heap.objs.size < h'.objs.size → ItemsOf P acc n → R acc.toList { s with heap := h', toks := tk }) :
    wpAny (model prog w) A (collect (.ref r)) R E s := by
  obtain ⟨lr, ld⟩ := K.there _ hok
  have here : (s.heap.push { cls := .type "list", data := .seq ([] : List Value).toArray }).get? s.heap.objs.size = some { cls := .type "list", data := .seq #[] } := Heap.get?_push_size _ rfl
  have step := kdl_extend (A := A) (s := { s with heap := s.heap.push { cls := .type "list", data := .seq ([] : List Value).toArray } })
    (R := fun (x : Result) (s' : Shared) => x = .ok (.ret (.ref s.heap.objs.size)) ∧ ∃ (h' : Heap) (tk : Nat) (acc : Array Value) (c : Nat), s' = { s with heap := h', toks := tk } ∧ h'.get? s.heap.objs.size = some { cls := .type "list", dict := none, data := .seq acc c, slots := #[] } ∧ (∀ b o, s.heap.get? b = some o → h'.get? b = some o) ∧ ItemsOf P acc n)
    K hh (K.keep _ _ hok fun b _ o e => Heap.get?_push_of_some _ e) s.heap.objs.size (Nat.ne_of_gt lr) (Nat.ne_of_gt ld) (.ref s.heap.objs.size) 0 here
    (fun h' tk acc c hk hS ha => ⟨rfl, h', tk, acc, c, rfl, hS, fun b o e => hk b o (Nat.ne_of_lt (Heap.lt_size e)) (Heap.get?_push_of_some _ e), ha⟩) hn
  unfold collect
  refine wpAny_bind (wpAny_runValue (codeAny_builtin entry_proto_collect' ?_))
  rw [Around.under_plainId PySem.F.plain_proto_collect _]
  show wpAny _ A.in1 (newList [] >>= fun l => again (.builtin "list.__iadd__" ⟨[l, .ref r], []⟩)) _ _ s
  refine wpAny_bind (wpAny_newObj_type (wpAny_pure ⟨plainId_quiet PySem.F.plain_list_iadd _, codeAny_builtin entry_list_iadd' ?_⟩))
  rw [Around.under_plainId PySem.F.plain_list_iadd _]
  show wpAny _ A.in1 (Builtin.List.listExtendWith (.ref s.heap.objs.size) (.ref r) (.ref s.heap.objs.size)) _ _ _
  refine wpAny_mono step (fun fin s' x => ?_) fun _ _ x => nomatch x.1
  cases fin with
  | done f =>
    obtain ⟨e, h', tk, acc, c, rfl, hS, hk, ha⟩ := x
    cases e
    exact wpAny_bind (wpAny_load hS (wpAny_pure (h h' tk acc hk (Heap.lt_size hS) ha)))
  | again c =>
    refine ⟨x.1, codeAny_mono x.2 fun q s₂ y => ?_⟩
    obtain ⟨rfl, h', tk, acc, c, rfl, hS, hk, ha⟩ := y
    exact wpAny_bind (wpAny_load hS (wpAny_pure (h h' tk acc hk (Heap.lt_size hS) ha)))
end
/-- sorted(a dict), b: its keys are tuples -/
noncomputable def srtF (b : Bool) (t : TD) : TLD := fun ρ k => t ρ fun d => ∃ es, d = .dic b es ∧ SrtOk 100 (es.map Prod.fst) ∧ k (srtD (es.map Prod.fst))
end DL
set_option Elab.async false
set_option linter.all false
set_option maxRecDepth 100000
set_option maxHeartbeats 4000000
/-! ### {**d, k: v} -/
namespace DL
open PySem PySem.Spec PyProof.Rows L2
/-- {**d, k: v} -/
noncomputable def starT (td tk tv : TD) : TD := fun ρ k => td ρ fun d => ∃ es, d = .dic false es ∧ es.length + 1 ≤ sizeLine ∧ tk ρ fun y => tv ρ fun z => (keyD y).isSome ∧ k (.dic false (mergeD [] (es ++ [(y, z)])))
end DL
set_option Elab.async false
set_option linter.all false
set_option maxRecDepth 100000
set_option maxHeartbeats 4000000
/-! ### x != {} -/
namespace DL
open PySem PySem.Spec PyProof.Rows L2 PySem.W
end DL
set_option Elab.async false
set_option linter.all false
set_option maxRecDepth 100000
set_option maxHeartbeats 4000000
/-! ### y = [e for t in it], e with effects -/
namespace DL
open PySem PySem.Spec PyProof.Rows L2
section
variable {F : Fr} {G : Gh} {H : Hp} {σ : L2.St} {ρ : List Sl} {L : List Addr}
theorem Slots.set {s : Sl} {o : Option V} (h : SlR F G H s o []) : ∀ {ρ : List Sl} {σ : L2.St} {L : List Addr} (i : Nat), Slots F G H ρ σ L → ∃ L', Slots F G H (ρ.set i s) (σ.set i o) L' ∧ L'.Sublist L
  | [], _, _, i, w => by obtain ⟨rfl, rfl⟩ := w; exact ⟨[], ⟨rfl, rfl⟩, .slnil⟩
  | s0 :: ρ, _, _, 0, w => by
    obtain ⟨o0, r, M, N, rfl, h1, h2, rfl⟩ := w
    exact ⟨N, ⟨o, r, [], N, rfl, h, h2, rfl⟩, List.sublist_append_right M N⟩
  | s0 :: ρ, _, _, i + 1, w => by
    obtain ⟨o0, r, M, N, rfl, h1, h2, rfl⟩ := w
    obtain ⟨N', k1, k2⟩ := Slots.set h i h2
    exact ⟨M ++ N', ⟨o0, _, M, N', rfl, h1, k1, rfl⟩, List.Sublist.append (List.Sublist.refl M) k2⟩
theorem RelL.set1 {s : Sl} {o : Option V} (r : RelL F G H σ ρ L) (h : SlR F G H s o []) (i : Nat) : ∃ L', RelL F G H (σ.set i o) (ρ.set i s) L' ∧ ∀ p ∈ L', p ∈ L := by
  obtain ⟨r, w, n⟩ := r
  obtain ⟨L', k1, k2⟩ := Slots.set h i w
  have n' := n.sublist k2
  exact ⟨L', ⟨⟨r.bg, r.bi, r.tb, r.ob, r.oi, r.sub, r.new, r.tr, r.ext, r.pn, L', k1, n'⟩, k1, n'⟩, fun p hp => k2.subset hp⟩
theorem RelL.putA : ∀ {is : List Nat} {ds : List D} {vs : List V} {σ : L2.St} {ρ : List Sl} {L : List Addr}, RelL F G H σ ρ L → DtL F.K G H ds vs → ∃ L', RelL F G H (setA is vs σ) (DL.putA is ds ρ) L' ∧ ∀ p ∈ L', p ∈ L
  | [], ds, vs, σ, ρ, L, r, h => by cases ds <;> cases vs <;> exact ⟨L, r, fun _ h => h⟩
  | i :: is, [], vs, σ, ρ, L, r, h => by
    obtain rfl : vs = [] := h
    exact ⟨L, r, fun _ h => h⟩
  | i :: is, d :: ds, vs, σ, ρ, L, r, h => by
    obtain ⟨x, w, rfl, h1, h2⟩ := h
    obtain ⟨L1, r1, k1⟩ := r.set1 (s := .dat d) (o := some x) ⟨rfl, x, rfl, h1⟩ i
    obtain ⟨L2, r2, k2⟩ := RelL.putA (is := is) (ds := ds) (vs := w) r1 h2
    exact ⟨L2, r2, fun p hp => k1 p (k2 p hp)⟩
theorem RelL.wipe (r : RelL F G H σ ρ L) : ∀ vs, ∃ L', RelL F G H (L2.wipe σ vs) (wipeS ρ vs) L' ∧ ∀ p ∈ L', p ∈ L
  | [] => ⟨L, r, fun _ h => h⟩
  | v :: vs => by
    obtain ⟨L1, r1, k1⟩ := RelL.wipe r vs
    obtain ⟨L2, r2, k2⟩ := r1.set1 (s := .un) (o := none) rfl v
    exact ⟨L2, r2, fun p hp => k1 p (k2 p hp)⟩
end
noncomputable def compE (t : Tg) (te : TDE) (vs : List Nat) : List D → List Sl → List D → (List D → List Sl → Prop) → Prop
  | [], ρ, acc, k => k acc ρ
  | d :: ds, ρ, acc, k => tgD t d ρ fun ρ1 => te ρ1 fun e ρ' => compE t te vs ds (wipeS ρ' vs) (acc ++ [e]) k
noncomputable def lcE (i : Nat) (t : Tg) (I : TLD) (te : TDE) (vs : List Nat) : TSD := fun k ρ => I ρ fun ds => ds.length ≤ sizeLine ∧ compE t te vs ds (wipeS ρ vs) [] fun acc ρ' => k.nx ((wipeS ρ' vs).set i (.dat (.lst acc)))
end DL
set_option Elab.async false
set_option linter.all false
set_option maxRecDepth 100000
set_option maxHeartbeats 4000000
/-! ### isinstance(a dict of any kind, a built-in type) -/
namespace DL
open PySem PySem.Spec PyProof.Rows L2
noncomputable def isiDT (T : String) (t : TD) : TD := fun ρ k => t ρ fun d => ∃ b es, d = .dic b es ∧ T ∈ tyTs ∧ k (.bl (isT "dict" T))
end DL
set_option Elab.async false
set_option linter.all false
set_option maxRecDepth 100000
set_option maxHeartbeats 4000000
/-! ### a == b of two dicts whose keys are tuples -/
namespace DL
open PySem PySem.Spec PyProof.Rows L2 PySem.W
open PySem.SeqAt (EqIn EqAt)
section
variable {prog : Program} {w : World} {K : Type} [DecidableEq K] {knd : HeapKind prog w K} {A : Around} {E : Value → Shared → Prop} {s : Shared}
inductive HitsH (prog : Program) (w : World) {K : Type} [DecidableEq K] (A : Around) (s : Shared) (kb : List (K × Addr × Value)) : List (K × Addr × Value) → Bool → Prop
  | nil : HitsH prog w A s kb [] true
  | miss {k : K} {a : Addr} {v : Value} {r : List (K × Addr × Value)} : atKey kb k = none → HitsH prog w A s kb ((k, a, v) :: r) false
  | hit {k : K} {a c : Addr} {v y : Value} {r : List (K × Addr × Value)} {e b : Bool} : atKey kb k = some (c, y) → EqIn prog w A s v y e → HitsH prog w A s kb r b → HitsH prog w A s kb ((k, a, v) :: r) (e && b)
theorem HitsH.inv {kb : List (K × Addr × Value)} {k : K} {a : Addr} {v : Value} {r : List (K × Addr × Value)} {b : Bool} (h : HitsH prog w A s kb ((k, a, v) :: r) b) :
    (atKey kb k = none ∧ b = false) ∨ ∃ c y e b', atKey kb k = some (c, y) ∧ EqIn prog w A s v y e ∧ HitsH prog w A s kb r b' ∧ b = (e && b') := by
  cases h with
  | miss hn => exact .inl ⟨hn, rfl⟩
  | hit hy he hr => exact .inr ⟨_, _, _, _, hy, he, hr, rfl⟩
theorem samePairsH {nm : String} {a b : Addr} {ka kb : List (K × Addr × Value)} {r : Bool} {Q : Bool → Shared → Prop} (hu : knd.room A) (ha : (a == sysModules) = false) (hb : (b == sysModules) = false)
    (da : s.heap.DictOfH knd a ka) (db : s.heap.DictOfH knd b kb) (hits : ka.length = kb.length → HitsH prog w A s kb ka r) (h : Q (ka.length == kb.length && r) s) :
    wpAny (model prog w) A (Builtin.Dict.samePairs nm a b) Q E s := by
  obtain ⟨oa, es, ep, hoa, _, hda, hea, hia, _⟩ := da
  obtain ⟨ob, es', ep', hob, _, hdb, heb, hib, hnb⟩ := db
  have hla : ka.length = es.size := (size_of_entries hea).symm
  have hlb : kb.length = es'.size := (size_of_entries heb).symm
  rw [hla, hlb] at h
  unfold Builtin.Dict.samePairs Builtin.Dict.showsAll
  rw [if_neg (show ¬ (a == sysModules) = true by rw [ha]; exact Bool.false_ne_true), if_neg (show ¬ (b == sysModules) = true by rw [hb]; exact Bool.false_ne_true)]
  refine wpAny_bind (wpAny_pure (wpAny_bind (wpAny_pure ?_)))
  refine wpAny_bind (wpAny_dictEntries hoa hda ?_)
  dsimp only
  refine wpAny_bind (wpAny_dictEntries hob hdb ?_)
  by_cases hsz : es.size = es'.size
  case neg =>
    rw [if_pos (by simpa using hsz)]
    have hbf : (es.size == es'.size) = false := by simpa using hsz
    rw [hbf, Bool.false_and] at h
    exact wpAny_bind (wpAny_rule (wpAny_pure h))
  case pos =>
    have h' : Q r s := by simpa [hsz] using h
    have hits' := hits (by rw [hla, hlb]; exact hsz)
    rw [if_neg (by rw [hsz]; simp)]
    refine wpAny_bind (wpAny_dictEpoch hoa hda ?_)
    refine wpAny_bind ?_
    rw [Std.Legacy.Range.forIn_eq_forIn_range']
    simp only [Std.Legacy.Range.size, Nat.sub_zero, Nat.add_sub_cancel, Nat.div_one]
    refine wpAny_forIn_list _
      (fun rest q s' => s' = s ∧ q = (none, ()) ∧ ∃ i, rest = List.range' i (es.size - i) ∧ i ≤ es.size ∧ HitsH prog w A s kb (ka.drop i) r)
      _ ?_ ?_ _ _ ⟨rfl, rfl, 0, by simp, Nat.zero_le _, hits'⟩
    · rintro x rest q s' ⟨rfl, rfl, i, hr, hi, hpre⟩
      have hlt : i < es.size := by
        rcases Nat.lt_or_ge i es.size with h | h
        · exact h
        · rw [Nat.sub_eq_zero_of_le h] at hr; simp at hr
      obtain ⟨rfl, hrest⟩ : x = i ∧ rest = List.range' (i + 1) (es.size - (i + 1)) := by
        have e : es.size - i = (es.size - (i + 1)) + 1 := by omega
        rw [e, List.range'_succ] at hr
        injection hr with h1 h2
        exact ⟨h1, h2⟩
      refine wpAny_bind (wpAny_dictEntries hoa hda ?_)
      have hlt' : x < ka.length := by rw [hla]; exact hlt
      obtain ⟨k, c, v, hkv⟩ : ∃ k c v, ka[x] = (k, c, v) := ⟨_, _, _, rfl⟩
      have hdrop : ka.drop x = (k, c, v) :: ka.drop (x + 1) := by rw [← hkv]; exact List.drop_eq_getElem_cons hlt'
      have hin : (k, c, v) ∈ ka := by rw [← hkv]; exact List.getElem_mem hlt'
      rw [entry_at hea x, show ka[x]? = some (k, c, v) from by rw [List.getElem?_eq_getElem hlt', hkv]]
      rw [hdrop] at hpre
      have hkey := hia _ hin
      show wpAny _ _ (holding [Value.ref c, v] _ >>= _) _ _ _
      refine wpAny_bind (wpAny_holding (wpAny_bind (wpAny_dictFind_heap hu hkey hob hdb heb hib hnb ?_ ?_)))
      · intro hno
        have hn : atKey kb k = none := atKey_none_of_get hno
        rcases hpre.inv with ⟨_, er⟩ | ⟨_, y, _, _, hy, _⟩
        · rw [er] at h'
          refine wpAny_pure ?_
          show wpAny _ _ (if (!false) = true then _ else _) _ _ _
          rw [if_pos (by decide)]
          exact wpAny_pure (wpAny_pure h')
        · rw [hn] at hy; exact nomatch hy
      · intro j p hj
        have hv' : atKey kb k = some p := atKey_of_get hnb hj
        refine wpAny_bind (wpAny_dictEntries hob hdb ?_)
        rw [entry_at heb j, hj]
        rcases hpre.inv with ⟨hn, _⟩ | ⟨c', y, e, b', hy, he, hrr, er⟩
        · rw [hv'] at hn; exact nomatch hn
        · obtain rfl : p = (c', y) := Option.some.inj (hv'.symm.trans hy)
          refine wpAny_holding (he _ _ ?_)
          cases e with
          | false =>
            rw [er, Bool.false_and] at h'
            show wpAny _ _ (if (!false) = true then _ else _) _ _ _
            rw [if_pos (by decide)]
            exact wpAny_pure (wpAny_pure h')
          | true =>
            rw [Bool.true_and] at er
            rw [← er] at hrr
            show wpAny _ _ (if (!true) = true then _ else _) _ _ _
            rw [if_neg (by decide)]
            refine wpAny_bind (wpAny_dictEpoch hoa hda ?_)
            rw [if_neg (by simp)]
            exact wpAny_pure ⟨rfl, rfl, x + 1, hrest, hlt, hrr⟩
    · rintro q s' ⟨rfl, rfl, i, hr, hi, hpre⟩
      have hin : i = es.size := by
        rcases Nat.lt_or_ge i es.size with h | h
        · have e : es.size - i = (es.size - (i + 1)) + 1 := by omega
          rw [e, List.range'_succ] at hr; exact nomatch hr
        · exact Nat.le_antisymm hi h
      refine wpAny_pure ?_
      rw [hin, ← hla, List.drop_length] at hpre
      cases hpre
      exact h'
theorem eqInH {a b : Addr} {ka kb : List (K × Addr × Value)} {r : Bool} {Q : Value → Shared → Prop} (hr : knd.room A.in1) (ha : (a == sysModules) = false) (hb : (b == sysModules) = false) (da : s.heap.DictOfH knd a ka) (db : s.heap.DictOfH knd b kb) (hu : A.units < cLine) (hits : ka.length = kb.length → HitsH prog w A.in1 s kb ka r) (h : Q (.bool (ka.length == kb.length && r)) s) :
    wpAny (model prog w) A (compareOp .Eq (.ref a) (.ref b)) Q E s := by
  refine wpAny_richCompare_same_room (op := .Eq) da.typeIs db.typeIs PySem.F.slot_dict_eq (wpAny_call_entry PySem.F.slot_dict_eq da.typeIs PySem.F.entry_dict_eq ?_ (PySem.F.args_dict_eq_2 _ _)) hu
  show wpAny _ _ (Builtin.Dict.dictSlotArgs "__eq__" ⟨[.ref a, .ref b], []⟩ >>= _) _ _ s
  refine wpAny_bind ?_
  unfold Builtin.Dict.dictSlotArgs
  refine wpAny_bind (wpAny_notOrdered_dict da.typeIs ?_)
  show wpAny _ _ (pure (Value.ref a, Value.ref b)) _ _ s
  refine wpAny_pure ?_
  refine wpAny_bind (wpAny_isInstance (T := "dict") db.typeIs PySem.F.sub_dict_dict ?_)
  simp only [Bool.not_true, Bool.false_eq_true, if_false]
  refine wpAny_bind (wpAny_pure (wpAny_bind (wpAny_pure ?_)))
  refine wpAny_bind (samePairsH hr ha hb da db hits ?_)
  refine wpAny_pure ⟨_, rfl, ?_, ?_⟩
  · exact fun x => nomatch x
  · simpa using h
theorem HitsH.of {kb : List (K × Addr × Value)} {e : K → Bool} : ∀ (r : List (K × Addr × Value)), (∀ k a v c y, (k, a, v) ∈ r → atKey kb k = some (c, y) → EqIn prog w A s v y (e k)) →
    HitsH prog w A s kb r (r.all fun p => (atKey kb p.1).isSome && e p.1)
  | [], _ => .nil
  | (k, a, v) :: r, h => by
    cases hv : atKey kb k with
    | none =>
      have q : (((k, a, v) :: r).all fun p => (atKey kb p.1).isSome && e p.1) = false := by simp [hv]
      rw [q]
      exact .miss hv
    | some p =>
      have q : (((k, a, v) :: r).all fun p => (atKey kb p.1).isSome && e p.1) = (e k && r.all fun p => (atKey kb p.1).isSome && e p.1) := by simp [hv]
      rw [q]
      exact .hit hv (h k a v p.1 p.2 List.mem_cons_self hv) (HitsH.of r fun k' a' v' c' y' hm hv' => h k' a' v' c' y' (List.mem_cons_of_mem _ hm) hv')
end
end DL
set_option Elab.async false
set_option linter.all false
set_option maxRecDepth 100000
set_option maxHeartbeats 4000000
/-! ### a == b of ints, of dicts and lists of these, within one another -/
namespace DL
open PySem PySem.Spec PyProof.Rows L2 PySem.W
open PySem.SeqAt (EqIn EqAt)
theorem paired_mem {α β : Type} {F : α → β → Prop} {l : List α} {m : List β} (h : Paired F l m) : ∀ q ∈ m, ∃ p ∈ l, F p q := by
  induction h with
  | nil => intro q hq; exact nomatch hq
  | cons h t ih =>
    intro q hq
    rcases List.mem_cons.mp hq with rfl | hq
    · exact ⟨_, List.mem_cons_self, h⟩
    · obtain ⟨p, hp, f⟩ := ih q hq
      exact ⟨p, List.mem_cons_of_mem _ hp, f⟩
theorem rd_fn {H : Hp} {a : Addr} {u v : HO} (hu : ∀ o q, u ≠ .frz o q) (hv : ∀ o q, v ≠ .frz o q) (h : Rd H a u) (g : Rd H a v) : u = v := by
  rcases h with h | ⟨o, h⟩ <;> rcases g with g | ⟨o', g⟩ <;> rw [h] at g <;> cases g
  · rfl
  · exact absurd rfl (hu _ _)
  · exact absurd rfl (hv _ _)
  · rfl
theorem valV_mem {κ : Type} [DecidableEq κ] {k : κ} {v : V} : ∀ {l : List (κ × V)}, (l.map (·.1)).Nodup → (k, v) ∈ l → valV l k = some v
  | [], _, h => nomatch h
  | p :: l, n, h => by
    rw [List.map_cons, List.nodup_cons] at n
    rcases List.mem_cons.mp h with e | h
    · subst e; exact valV_pos rfl
    · by_cases q : p.1 = k
      · exact absurd (by rw [q]; exact List.mem_map.mpr ⟨_, h, rfl⟩) n.1
      · rw [valV_neg q]; exact valV_mem n.2 h
theorem kt_keys {H : Hp} {kvs : List (List Key × V)} {xs : List (List Key × Addr × Value)} (r : KT H kvs xs) : kvs.map (·.1) = xs.map (·.1) := by
  induction r with
  | nil => rfl
  | cons h t ih => rw [List.map_cons, List.map_cons, ih, h.1]
theorem all_keys {κ α β : Type} {l : List (κ × α)} {m : List (κ × β)} (e : l.map (·.1) = m.map (·.1)) (f : κ → Bool) : (l.all fun p => f p.1) = m.all fun p => f p.1 := by
  have a : (l.all fun p => f p.1) = (l.map (·.1)).all f := by rw [List.all_map]; rfl
  have b : (m.all fun p => f p.1) = (m.map (·.1)).all f := by rw [List.all_map]; rfl
  rw [a, b, e]
inductive EqV (H : Hp) : Nat → V → V → Bool → Prop
  | int {n : Nat} {i j : Int} : EqV H n (.int i) (.int j) (decide (i = j))
  | dK {n : Nat} {a c : Addr} {l l' : List (Key × V)} {e : Key → Bool} : Rd H a (.dK l) → Rd H c (.dK l') → (∀ k v y, (k, v) ∈ l → valV l' k = some y → EqV H n v y (e k)) →
      EqV H (n + 1) (.ref a) (.ref c) (l.length == l'.length && l.all fun p => (valV l' p.1).isSome && e p.1)
  | dT {n : Nat} {a c : Addr} {l l' : List (List Key × V)} {e : List Key → Bool} : Rd H a (.dT l) → Rd H c (.dT l') → (∀ k v y, (k, v) ∈ l → valV l' k = some y → EqV H n v y (e k)) →
      EqV H (n + 1) (.ref a) (.ref c) (l.length == l'.length && l.all fun p => (valV l' p.1).isSome && e p.1)
section
variable {X : Cx} {pins : List (Addr × Obj)} {σ : L2.St} {H : Hp} {s : Shared}
theorem EqV.same {P : Program} {w : World} {h : Heap} (ok : HOk P w H h) {n : Nat} {x y : V} {b : Bool} (q : EqV H n x y b) : x = y → b = true := by
  induction q with
  | int => intro z; injection z with z; exact decide_eq_true z
  | @dK n a c l l' e r r' _ ih =>
    intro z
    injection z with z
    subst z
    have el := rd_fn (u := .dK l) (v := .dK l') (fun _ _ z => nomatch z) (fun _ _ z => nomatch z) r r'
    injection el with el
    subst el
    obtain ⟨_, _, vs, kv, o, es, ep, _, _, _, _, _, nd⟩ := dk_rd ok r
    rw [← kv.keys] at nd
    simp only [beq_self_eq_true, Bool.true_and, List.all_eq_true, Bool.and_eq_true]
    intro p hp
    have hv := valV_mem nd (show (p.1, p.2) ∈ l from hp)
    exact ⟨by rw [hv]; rfl, ih p.1 p.2 p.2 hp hv rfl⟩
  | @dT n a c l l' e r r' _ ih =>
    intro z
    injection z with z
    subst z
    have el := rd_fn (u := .dT l) (v := .dT l') (fun _ _ z => nomatch z) (fun _ _ z => nomatch z) r r'
    injection el with el
    subst el
    obtain ⟨_, _, xs, kt, dd⟩ := dt_rd ok r
    have nd := dd.nodup
    rw [← kt_keys kt] at nd
    simp only [beq_self_eq_true, Bool.true_and, List.all_eq_true, Bool.and_eq_true]
    intro p hp
    have hv := valV_mem nd (show (p.1, p.2) ∈ l from hp)
    exact ⟨by rw [hv]; rfl, ih p.1 p.2 p.2 hp hv rfl⟩
theorem eq_dK {n : Nat} {a c : Addr} {l l' : List (Key × V)} {e : Key → Bool} (I : Inv X pins σ H s) (r : Rd H a (.dK l)) (r' : Rd H c (.dK l'))
    (ih : ∀ k v y, (k, v) ∈ l → valV l' k = some y → ∀ A v' u', RelV v v' → RelV y u' → A.units + n + 2 < cLine → EqIn X.prog X.w A s v' u' (e k)) {A : Around} (hu : A.units + (n + 1) + 2 < cLine) {E : Value → Shared → Prop} {Q : Value → Shared → Prop}
    (q : Q (.bool (l.length == l'.length && l.all fun p => (valV l' p.1).isSome && e p.1)) s) : wpAny (model X.prog X.w) A (compareOp .Eq (.ref a) (.ref c)) Q E s := by
  obtain ⟨_, ha, vs, kv, da⟩ := dk_rd I.hok r
  obtain ⟨_, hc, vs', kv', dc⟩ := dk_rd I.hok r'
  have hf : (l.all fun p => (valV l' p.1).isSome && e p.1) = vs.all fun p => (valueAt vs' p.1).isSome && e p.1 := by
    rw [all_keys kv.keys fun k => (valV l' k).isSome && e k]
    congr 1
    funext p
    rw [(kv'.val p.1).isSome_eq]
  rw [hf, kv.length, kv'.length] at q
  refine keq_eqIn ha hc da dc (by omega) (fun _ => KeqHitsIn.of _ fun k v y hm hv => ?_) q
  obtain ⟨p, hp, e1, e2⟩ := paired_mem kv _ hm
  have ry := kv'.val k
  rw [hv] at ry
  cases hy : valV l' k with
  | none => rw [hy] at ry; exact ry.elim
  | some y0 =>
    rw [hy] at ry
    obtain ⟨pk, pv⟩ := p
    obtain rfl : pk = k := e1
    exact ih pk pv y0 hp hy A.in1 v y e2 ry (by show A.units + 1 + n + 2 < cLine; omega)
theorem eq_dT {n : Nat} {a c : Addr} {l l' : List (List Key × V)} {e : List Key → Bool} (I : Inv X pins σ H s) (r : Rd H a (.dT l)) (r' : Rd H c (.dT l'))
    (ih : ∀ k v y, (k, v) ∈ l → valV l' k = some y → ∀ A v' u', RelV v v' → RelV y u' → A.units + n + 2 < cLine → EqIn X.prog X.w A s v' u' (e k)) {A : Around} (hu : A.units + (n + 1) + 2 < cLine) {E : Value → Shared → Prop} {Q : Value → Shared → Prop}
    (q : Q (.bool (l.length == l'.length && l.all fun p => (valV l' p.1).isSome && e p.1)) s) : wpAny (model X.prog X.w) A (compareOp .Eq (.ref a) (.ref c)) Q E s := by
  obtain ⟨_, ha, vs, kv, da⟩ := dt_rd I.hok r
  obtain ⟨_, hc, vs', kv', dc⟩ := dt_rd I.hok r'
  have iso : ∀ k, (valV l' k).isSome = (atKey vs' k).isSome := fun k => by rw [(kv'.val k).isSome_eq, Option.isSome_map]
  have hf : (l.all fun p => (valV l' p.1).isSome && e p.1) = vs.all fun p => (atKey vs' p.1).isSome && e p.1 := by
    rw [all_keys (kt_keys kv) fun k => (valV l' k).isSome && e k]
    congr 1
    funext p
    rw [iso]
  rw [hf, Paired.length kv, Paired.length kv'] at q
  refine eqInH (tupleKind_room_in1 (by omega)) ha hc da dc (by omega) (fun _ => HitsH.of _ fun k b v c' y hm hv => ?_) q
  obtain ⟨p, hp, e1, e0, e2⟩ := paired_mem kv _ hm
  have ry := kv'.val k
  rw [hv] at ry
  cases hy : valV l' k with
  | none => rw [hy] at ry; exact ry.elim
  | some y0 =>
    rw [hy] at ry
    obtain ⟨pk, pv⟩ := p
    obtain rfl : pk = k := e1
    exact ih pk pv y0 hp hy A.in1 v y e2 ry (by show A.units + 1 + n + 2 < cLine; omega)
theorem EqV.at (I : Inv X pins σ H s) {n : Nat} {x y : V} {b : Bool} (q : EqV H n x y b) : ∀ A v u, RelV x v → RelV y u → A.units + n + 2 < cLine → EqIn X.prog X.w A s v u b := by
  induction q with
  | @int n i j =>
    intro A v u rx ry hu
    obtain ⟨as, r1⟩ := Dp.reads I (.int i) (.int i) v (Dp.int i) rx
    obtain ⟨bs, r2⟩ := Dp.reads I (.int j) (.int j) u (Dp.int j) ry
    intro E Q hq
    exact SeqAt.eqBoolOverData X.prog X.w A E s v u (.int i) (.int j) as bs Q r1 r2 rfl rfl (by show A.units + 0 < cLine; omega) (by rw [show PyData.eqv (.int i) (.int j) = decide (i = j) from rfl]; exact hq)
  | @dK n a c l l' e r r' h ih =>
    intro A v u rx ry hu
    obtain rfl : v = .ref a := rx
    obtain rfl : u = .ref c := ry
    by_cases ne : a = c
    · have t := (EqV.dK r r' h).same I.hok (by rw [ne])
      rw [t, ne]
      exact (SeqAt.EqAt.same _).inModel _ _
    · exact SeqAt.EqIn.of_refs ne fun E Q hq => eq_dK I r r' ih hu hq
  | @dT n a c l l' e r r' h ih =>
    intro A v u rx ry hu
    obtain rfl : v = .ref a := rx
    obtain rfl : u = .ref c := ry
    by_cases ne : a = c
    · have t := (EqV.dT r r' h).same I.hok (by rw [ne])
      rw [t, ne]
      exact (SeqAt.EqAt.same _).inModel _ _
    · exact SeqAt.EqIn.of_refs ne fun E Q hq => eq_dT I r r' ih hu hq
end
end DL
set_option Elab.async false
set_option linter.all false
set_option maxRecDepth 100000
set_option maxHeartbeats 4000000
/-! ### a == b of data: ints, dicts of these, within one another -/
namespace DL
open PySem PySem.Spec PyProof.Rows L2 PySem.W
end DL
set_option Elab.async false
set_option linter.all false
set_option maxRecDepth 100000
set_option maxHeartbeats 4000000
/-! ### isinstance(x, C), x == y and x != y, C a class of the text with an __eq__ of its own -/
namespace DL
open PySem PySem.Spec PyProof.Rows L2 PySem.W C8
noncomputable def isiCT (C : Addr) (t : TD) : TD := fun ρ k => t ρ fun d => (∃ fs, d = .ins C fs) ∧ k (.bl true)
end DL
set_option Elab.async false
set_option linter.all false
set_option maxRecDepth 100000
set_option maxHeartbeats 4000000
/-! ### x != y by the class's own __eq__ -/
namespace DL
open PySem PySem.Spec PyProof.Rows L2 PySem.W
noncomputable def neOD (C : Addr) (R : RD) : OD := fun x y k => (∃ fs, x = .ins C fs) ∧ (∃ gs, y = .ins C gs) ∧ R [x, y] fun d => ∃ c, d = .bl c ∧ k (.bl (!c))
end DL
set_option Elab.async false
set_option linter.all false
set_option maxRecDepth 100000
set_option maxHeartbeats 4000000
/-! ### x[k] = v, x an owned dict with tuple keys, k a tuple as data -/
namespace DL
open PySem PySem.Spec PyProof.Rows L2 PySem.W
noncomputable def dputQ (i : Nat) (tk tv : TD) : TSD := fun k ρ => ∃ es, ρ[i]? = some (.tr (.m true (es.map dE))) ∧ tv ρ fun d => tk ρ fun y => (∃ ys, y = .tup ys ∧ (keysD ys).isSome) ∧ es.length < sizeLine ∧ k.nx (ρ.set i (.tr (.m true ((putQ es y d).map dE))))
end DL
set_option Elab.async false
set_option linter.all false
set_option maxRecDepth 100000
set_option maxHeartbeats 4000000
/-! ### list(range(a, b)) -/
namespace DL
open PySem PySem.Spec PyProof.Rows L2 PySem.W
/-- list(range(a, b)) -/
noncomputable def lstRg2F (ta tb : TD) : TLD := fun ρ k => ta ρ fun d => tb ρ fun e => ∃ a n : Nat, d = .int a ∧ e = .int n ∧ a ≤ 2 ^ 24 ∧ n ≤ 2 ^ 24 ∧ k ((List.range (n - a)).map fun i => .int ((a + i : Nat) : Int))
end DL
set_option Elab.async false
set_option linter.all false
set_option maxRecDepth 100000
set_option maxHeartbeats 4000000
/-! ### dict(d), d with tuple keys whose hashes are unlike -/
namespace DL
open PySem PySem.Spec PyProof.Rows L2 PySem.W
end DL
set_option Elab.async false
set_option linter.all false
set_option maxRecDepth 100000
set_option maxHeartbeats 4000000
/-! ### dict(d) as data -/
namespace DL
open PySem PySem.Spec PyProof.Rows L2 PySem.W
/-- the hash of a tuple of ints -/
noncomputable def hI (j : List Int) : Int := reduceHash (Builtin.Tuple.tupleHashOf (j.map hashInt))
end DL
set_option Elab.async false
set_option linter.all false
set_option maxRecDepth 100000
set_option maxHeartbeats 4000000
/-! ### dict(d) as data, the keys tuples of ints -/
namespace DL
open PySem PySem.Spec PyProof.Rows L2 PySem.W
end DL
set_option Elab.async false
set_option linter.all false
set_option maxRecDepth 100000
set_option maxHeartbeats 4000000
/-! ### sorted(a list of data of any one kind) -/
namespace DL
open PySem PySem.Spec PyProof.Rows L2 PySem.W
/-- sorted(a list) -/
noncomputable def sortLF (t : TLD) : TLD := fun ρ k => t ρ fun ds => ∃ es, ds = [.lst es] ∧ SrtOk 100 es ∧ k (srtD es)
end DL
set_option Elab.async false
set_option linter.all false
set_option maxRecDepth 100000
set_option maxHeartbeats 4000000
/-! ### dict(a list of pairs, the keys tuples, no key twice) -/
namespace DL
open PySem PySem.Spec PyProof.Rows L2 PySem.W
end DL
set_option Elab.async false
set_option linter.all false
set_option maxRecDepth 100000
set_option maxHeartbeats 4000000
/-! ### dict(a list of pairs) as data, the keys tuples -/
namespace DL
open PySem PySem.Spec PyProof.Rows L2 PySem.W
end DL
set_option Elab.async false
set_option linter.all false
set_option maxRecDepth 100000
set_option maxHeartbeats 4000000
/-! ### repr and == of data with dicts of any keys -/
namespace DL
open PySem PySem.Spec PyProof.Rows L2 PySem.W
open PySem.SeqAt (EqIn EqAt rcIn_lists rcIn_tuples)
/-! repr -/
/-! a == b where both are told by the same data -/
end DL
set_option Elab.async false
set_option linter.all false
set_option maxRecDepth 100000
set_option maxHeartbeats 4000000
/-! ### defs that return what is new -/
namespace DL
open PySem PySem.Spec PyProof.Rows L2
noncomputable abbrev RTD := List D → (Tr → Prop) → Prop
noncomputable def spT (K : PySem.W.Frag) (R : RTD) : Sp := fun vs H Q _ => ∃ G ds k, GOk G H ∧ DtL K G H ds vs ∧ R ds k ∧ ∀ t v L H', k t → Ext G H H' → (∀ p ∈ L, H p = none) → L.Nodup → Ow K (G.adds L) H' t v L → Q v H'
structure CalT (P : Program) (w : World) (K : PySem.W.Frag) (mg : Str → Option Value) (base : Heap) (n : Nat) (x : Str) (R : RTD) : Prop where
  ex : ∃ (f : Addr) (fd : FuncData) (ps : List Str) (k : Nat), k ≤ n ∧ FnG P w K mg base CX0 k f fd ps (spT K R) ∧ mg x = some (.ref f) ∧ PySem.W.keepIn K (.ref f) = true ∧ Binds K fd ps []
section
variable {P : Program} {w : World} {K : PySem.W.Frag} {mg : Str → Option Value} {base : Heap} {n m : Nat} {x : Str} {R : RTD}
theorem CalT.mono (c : CalT P w K mg base n x R) (h : n ≤ m) : CalT P w K mg base m x R := by
  obtain ⟨f, fd, ps, k, hk, r⟩ := c.ex
  exact ⟨f, fd, ps, k, Nat.le_trans hk h, r⟩
theorem CalT.of {f : Addr} {fd : FuncData} {ps : List Str} {q : Str} {st : Stmt} (fn : FnG P w K mg base CX0 n f fd ps (spT K R)) (hm : mg x = some (.ref f)) (F : Fun K x q st f fd) (hb : Binds K fd ps []) : CalT P w K mg base n x R := ⟨f, fd, ps, n, Nat.le_refl _, fn, hm, F.kp, hb⟩
end
noncomputable def endT (k : Tr → Prop) : DE := ⟨fun _ => k (.d .non), k, fun _ => False, fun _ => False, fun d _ => k (.d d)⟩
/-- a call, what it returns is new -/
noncomputable def callRT (R : RTD) (ta : TLD) : TRD := fun ρ k => ta ρ fun ds => R ds k
section
variable {X : Cx} {F : Fr} {n : Nat} {x : Str} {R : RTD} {e : Expr} {es : List Expr} {ta : TLD} {tr : TRD} {p pos : Pos}
theorem Rel.first {G : Gh} {H : Hp} {σ : L2.St} {ρ : List Sl} (r : Rel F G H σ ρ) {p : Addr} (hp : H p = none) : F.H p = none := by
  cases q : F.H p with
  | none => rfl
  | some o =>
    have q2 : p ≠ F.G.bg := fun z => by
      have := r.ext.bag.ne
      rw [← z] at this
      exact this hp
    rcases r.ext.lk q2 q with z | ⟨_, od, z⟩ <;> first | (rw [z] at hp; cases hp) | exact absurd hp z.ne
/-- return e, e new -/
noncomputable def retR (t : TRD) : TSD := fun k ρ => t ρ fun x => k.rt x
theorem s_retR (he : PE X e (liftR F tr)) : PS X (.Return (some e) pos) (liftS F (retR tr)) := by
  refine ps_imp (ps_ret he) fun E σ H ⟨G, ρ, k, r, h, o⟩ => ⟨G, ρ, _, r, h, fun t v R H1 h1 e1 hR nR ow => ?_⟩
  have r1 := r.grows e1 hR fun p hp => Ow.mut t v R ow p hp
  refine o.rt t v R H1 h1 r1.ext (fun p hp => r.first (hR p hp)) nR (Ow.evo (G := G.adds R) (G' := F.G.adds R) ⟨fun _ _ _ h => .inl h, r1.tr, fun a n _ z => n ?_, r.bg.symm, r.bi.symm⟩ t v R (fun p hp => ⟨Or.inr hp, rfl⟩) ow)
  rcases z with z | z
  · exact .inl (r.sub a z)
  · exact .inr z
/-- return x, x a name that owns what it has -/
noncomputable def retO (i : Nat) : TSD := fun k ρ => ∃ t, ρ[i]? = some (.tr t) ∧ k.rt t
end
end DL
set_option Elab.async false
set_option linter.all false
set_option maxRecDepth 100000
set_option maxHeartbeats 4000000
/-! ### for y in x[a:b]: y.append(None), x a name that owns lists and lets them go -/
namespace DL
open PySem PySem.Spec PyProof.Rows L2
section
variable {F : Fr} {G : Gh} {H : Hp} {σ : L2.St} {ρ : List Sl} {L : List Addr}
theorem RelL.drop (r : RelL F G H σ ρ L) (j : Nat) (o : Option V) : ∃ L', (∀ p ∈ L', p ∈ L) ∧ RelL F G H (σ.set j o) (ρ.set j .un) L' := by
  cases e : ρ[j]? with
  | none =>
    have hi : ρ.length ≤ j := by simpa using e
    rw [List.set_eq_of_length_le hi, List.set_eq_of_length_le (by rw [← r.2.1.len]; exact hi)]
    exact ⟨L, fun _ h => h, r⟩
  | some s =>
    obtain ⟨u, A, B, C, _, rfl, _, k⟩ := r.2.1.upd e
    have sl := k F G H .un o [] (fun _ _ _ _ z => z) rfl
    have n1 := (nodup_mid r.2.2).1
    refine ⟨A ++ ([] ++ C), fun p hp => ?_, ⟨r.1.bg, r.1.bi, r.1.tb, r.1.ob, r.1.oi, r.1.sub, r.1.new, r.1.tr, r.1.ext, r.1.pn, _, sl, n1⟩, sl, n1⟩
    rcases List.mem_append.mp hp with z | z
    · exact List.mem_append_left _ z
    · exact List.mem_append_right _ (List.mem_append_right _ z)
end
end DL
set_option Elab.async false
set_option linter.all false
set_option maxRecDepth 100000
set_option maxHeartbeats 4000000
/-! sets whose members are tuples of texts and whole numbers: set(list) -/
namespace DPS
open PySem PySem.Spec PyProof.Rows L2 PySem.Froz
/-- what a member is told by -/
noncomputable abbrev MKey := List Key
noncomputable abbrev IsM (P : Program) (w : World) (h : Heap) (k : MKey) (b : Addr) : Prop := IsTupleKey (mixKind P w) h k b
noncomputable abbrev mh (P : Program) (w : World) (k : MKey) : Int := tupleKeyHash (mixKind P w) k
theorem IsM.at {P : Program} {w : World} {h h' : Heap} {k : MKey} {b : Addr} (x : IsM P w h k b) (e : ∀ o, h.get? b = some o → h'.get? b = some o) : IsM P w h' k b := by
  obtain ⟨o, its, n, ho, r⟩ := x
  exact ⟨o, its, n, e o ho, r⟩
theorem IsM.parts {P : Program} {w : World} {k : MKey} {vs : List Value} (h : ItemsAre (mixKind P w) k vs) : ∀ v ∈ vs, (∃ i t, v = Value.int i t) ∨ ∃ x t, v = Value.str x t := by
  induction h with
  | nil => intro v hv; cases hv
  | cons h1 _ ih =>
    intro v hv
    rcases List.mem_cons.mp hv with rfl | hv
    · rcases keyIs_shape h1 with ⟨i, t, _, e⟩ | ⟨x, t, _, e⟩
      · exact .inl ⟨i, t, e⟩
      · exact .inr ⟨x, t, e⟩
    · exact ih v hv
/-! ### the set -/
/-- the rows of a set's payload -/
noncomputable def rw_ (P : Program) (w : World) (l : List (MKey × Addr)) : List (Int × Value) := l.map fun p => (mh P w p.1, Value.ref p.2)
noncomputable abbrev hsOf (P : Program) (w : World) (l : List (MKey × Addr)) : List Int := l.map fun p => mh P w p.1
structure Tps (P : Program) (w : World) (h : Heap) (a : Addr) (D : SD) (l : List (MKey × Addr)) : Prop where
  here : h.get? a = some (sObj "set" D)
  ent : D.1.toList = rw_ P w l
  tab : TabOk D.2.2 (hsOf P w l)
  led : w.params.followText "set-order" = true ∨ D.2.2.led = true
  nd : (l.map Prod.fst).Nodup
  tup : ∀ p ∈ l, IsM P w h p.1 p.2
  room : l.length * 5 < D.2.2.mask * 3
  few : l.length < 64
section
variable {P : Program} {w : World} {A : Around} {E : Value → Shared → Prop} {s : Shared} {a : Addr} {D : SD} {l : List (MKey × Addr)}
theorem rw_len {l : List (MKey × Addr)} : (rw_ P w l).length = l.length := List.length_map _
theorem Tps.size (R : Tps P w s.heap a D l) : D.1.size = l.length := by
  rw [← Array.length_toList, R.ent, rw_len]
theorem Tps.row (R : Tps P w s.heap a D l) {i : Nat} {p : MKey × Addr} (h : l[i]? = some p) : D.1[i]? = some (mh P w p.1, Value.ref p.2) := by
  rw [← Array.getElem?_toList, R.ent]
  unfold rw_
  rw [List.getElem?_map, h]; rfl
end
/-! ### the table laid anew -/
section
variable {P : Program} {w : World} {A : Around} {E : Value → Shared → Prop} {s : Shared} {a : Addr} {es : Array (Int × Value)} {ep : Nat} {t : SetTable} {l : List (MKey × Addr)}
/-- what a set has behind one more -/
noncomputable def Grown (k : MKey) (x : Addr) (l l' : List (MKey × Addr)) : Prop := (k ∈ l.map Prod.fst ∧ l' = l) ∨ (k ∉ l.map Prod.fst ∧ l'.Perm ((k, x) :: l))
end
end DPS
set_option Elab.async false
set_option linter.all false
set_option maxRecDepth 100000
set_option maxHeartbeats 4000000
/-! set(a list), whatever the members are; of tuples; of whole numbers -/
namespace DPS
open PySem PySem.Spec PyProof.Rows L2 PySem.Froz DMS
/-- no more than there are -/
theorem nd_le {α : Type} : ∀ {l U : List α}, l.Nodup → (∀ x ∈ l, x ∈ U) → l.length ≤ U.length := by
  classical
  intro l
  induction l with
  | nil => intro U _ _; exact Nat.zero_le _
  | cons x l ih =>
    intro U nd hm
    obtain ⟨a, b⟩ := List.nodup_cons.mp nd
    have hx := hm x List.mem_cons_self
    have q := ih (U := U.erase x) b fun y hy => (List.mem_erase_of_ne (fun z : y = x => a (by rw [← z]; exact hy))).mpr (hm y (List.mem_cons_of_mem _ hy))
    rw [List.length_erase_of_mem hx] at q
    have := List.length_pos_of_mem hx
    rw [List.length_cons]; omega
section
variable {P : Program} {w : World} {A : Around} {E : Value → Shared → Prop} {s : Shared}
/-! ### of tuples -/
/-- what has come from the first i -/
noncomputable def GotM (ks : List (MKey × Addr)) (i : Nat) (l : List (MKey × Addr)) : Prop := (∀ p ∈ l, p ∈ ks) ∧ ∀ p ∈ ks.take i, p.1 ∈ l.map Prod.fst
theorem GotM.next {ks l l' : List (MKey × Addr)} {i : Nat} {p : MKey × Addr} (g : GotM ks i l) (hp : ks[i]? = some p) (gr : Grown p.1 p.2 l l') : GotM ks (i + 1) l' := by
  have step : ks.take (i + 1) = ks.take i ++ [p] := by rw [List.take_succ, hp]; rfl
  rcases gr with ⟨hm, rfl⟩ | ⟨hm, pm⟩
  · refine ⟨g.1, fun q hq => ?_⟩
    rw [step] at hq
    rcases List.mem_append.mp hq with hq | hq
    · exact g.2 q hq
    · rw [List.mem_singleton.mp hq]; exact hm
  · have mm : ∀ k, k ∈ l'.map Prod.fst ↔ k = p.1 ∨ k ∈ l.map Prod.fst := fun k => by
      rw [(pm.map Prod.fst).mem_iff, List.map_cons, List.mem_cons]
    refine ⟨fun q hq => ?_, fun q hq => ?_⟩
    · rcases List.mem_cons.mp (pm.mem_iff.mp hq) with rfl | hq
      · exact List.mem_of_getElem? hp
      · exact g.1 q hq
    · rw [step] at hq
      rw [mm]
      rcases List.mem_append.mp hq with hq | hq
      · exact .inr (g.2 q hq)
      · rw [List.mem_singleton.mp hq]; exact .inl rfl
theorem Tps.kept {h h' : Heap} {a : Addr} {D : SD} {l : List (MKey × Addr)} (R : Tps P w h a D l) (e : h'.get? a = some (sObj "set" D)) (k : ∀ p ∈ l, ∀ o, h.get? p.2 = some o → h'.get? p.2 = some o) : Tps P w h' a D l :=
  ⟨e, R.ent, R.tab, R.led, R.nd, fun p hp => (R.tup p hp).at (k p hp), R.room, R.few⟩
end
end DPS
set_option Elab.async false
set_option linter.all false
set_option maxRecDepth 100000
set_option maxHeartbeats 4000000
/-! sorted(set(a list)): tuples of texts and numbers, whole numbers -/
namespace DPS
open PySem PySem.Spec PyProof.Rows L2 PySem.Froz DMS PySem.W DL
end DPS
namespace L2
open PySem PySem.Spec PyProof.Rows DPS DMS PySem.Froz DL
end L2
set_option Elab.async false
set_option linter.all false
set_option maxRecDepth 100000
set_option maxHeartbeats 4000000
/-! rules: sorted(set(a list of tuples of texts and numbers)), sorted(set(a list of whole numbers)) -/
namespace DL
open PySem PySem.Spec PyProof.Rows L2 DMS DPS PySem.W
end DL
set_option Elab.async false
set_option linter.all false
set_option maxRecDepth 100000
set_option maxHeartbeats 4000000
/-! ### sorted({e for ..}), e a text -/
namespace DMS
open PySem PySem.Spec PyProof.Rows L2 PySem.Froz
end DMS
namespace L2
open PySem PySem.Spec PyProof.Rows DMS PySem.Froz PpSet DL
end L2
set_option Elab.async false
set_option linter.all false
set_option maxRecDepth 100000
set_option maxHeartbeats 4000000
namespace DL
open PySem PySem.Spec PyProof.Rows L2 DMS
end DL
set_option Elab.async false
set_option linter.all false
set_option maxRecDepth 100000
set_option maxHeartbeats 4000000
/-! ### x == y by the class's own __eq__, len(x) by its own __len__ -/
namespace DL
open PySem PySem.Spec PyProof.Rows L2 PySem.W
end DL
set_option Elab.async false
set_option linter.all false
set_option maxRecDepth 100000
set_option maxHeartbeats 4000000
/-! ### x in d, d a dict whose keys are texts -/
namespace DL
open PySem PySem.Spec PyProof.Rows L2
end DL
set_option Elab.async false
set_option linter.all false
set_option maxRecDepth 100000
set_option maxHeartbeats 4000000
/-! ### x, y, z = a, b, c: a told as data, b and c as what is new -/
namespace DL
open PySem PySem.Spec PyProof.Rows L2
end DL
set_option Elab.async false
set_option linter.all false
set_option maxRecDepth 100000
set_option maxHeartbeats 4000000
/-! ### len of a dict whose keys are texts -/
namespace DL
open PySem PySem.Spec PyProof.Rows L2
end DL
set_option Elab.async false
set_option linter.all false
set_option maxRecDepth 100000
set_option maxHeartbeats 4000000
/-! ### an owned list handed to a def; what comes back may hold lists, but not that one -/
namespace DL
open PySem PySem.Spec PyProof.Rows L2
/-- these two never tell one and the same value: the one begins with a text, the other with an object -/
noncomputable def headStr : D → Bool
  | .tup (.str _ :: _) => true
  | _ => false
noncomputable def headIns : D → Bool
  | .tup (.ins _ _ :: _) => true
  | _ => false
theorem headStr_of {a : D} (h : headStr a = true) : ∃ x r, a = .tup (.str x :: r) := by
  unfold headStr at h
  split at h
  · exact ⟨_, _, rfl⟩
  · cases h
theorem headIns_of {a : D} (h : headIns a = true) : ∃ C f r, a = .tup (.ins C f :: r) := by
  unfold headIns at h
  split at h
  · exact ⟨_, _, _, rfl⟩
  · cases h
noncomputable def unl (a b : D) : Prop := headStr a = true ∧ headIns b = true
noncomputable def unlL : List D → List D → Prop
  | [], _ :: _ => True
  | _ :: _, [] => True
  | a :: _, b :: _ => unl a b
  | [], [] => False
mutual
/-- no list in it is the one that is told by ds -/
noncomputable def D.apart (ds : List D) : D → Prop
  | .non => True
  | .bl _ => True
  | .int _ => True
  | .str _ => True
  | .lst es => unlL es ds ∧ D.aparts ds es
  | .tup es => D.aparts ds es
  | .dic _ es => D.apartE ds es
  | .ins _ fs => D.apartF ds fs
  | .glb _ => True
  | .bag => True
  | .lock _ _ => False
  | .at _ _ => False
noncomputable def D.aparts (ds : List D) : List D → Prop
  | [] => True
  | e :: es => e.apart ds ∧ D.aparts ds es
noncomputable def D.apartE (ds : List D) : List (D × D) → Prop
  | [] => True
  | (_, e) :: es => e.apart ds ∧ D.apartE ds es
noncomputable def D.apartF (ds : List D) : List (Str × D) → Prop
  | [] => True
  | (_, e) :: es => e.apart ds ∧ D.apartF ds es
end
section
variable {K : PySem.W.Frag} {G G' : Gh} {H H' : Hp}
theorem unl_no {a b : D} {v : V} (u : unl a b) (h1 : Dt K G H a v) (h2 : Dt K G H b v) : False := by
  obtain ⟨x, r, rfl⟩ := headStr_of u.1
  obtain ⟨C, f, r', rfl⟩ := headIns_of u.2
  obtain ⟨p, us, rfl, e1, z, r, rfl, d1, _⟩ := h1
  obtain ⟨q, vs, e, e2, w, r', rfl, d2, _⟩ := h2
  cases e
  rw [e1] at e2
  cases e2
  obtain ⟨p, _, _, e, _⟩ := d2
  rw [show z = _ from d1] at e
  cases e
theorem unlL_no {a b : List D} {vs : List V} (u : unlL a b) (h1 : DtL K G H a vs) (h2 : DtL K G H b vs) : False := by
  cases a with
  | nil =>
    cases b with
    | nil => exact u
    | cons y b =>
      obtain rfl := h1
      obtain ⟨_, _, e, _⟩ := h2
      cases e
  | cons x a =>
    cases b with
    | nil =>
      obtain rfl := h2
      obtain ⟨_, _, e, _⟩ := h1
      cases e
    | cons y b =>
      obtain ⟨p, _, rfl, d1, _⟩ := h1
      obtain ⟨q, _, e, d2, _⟩ := h2
      cases e
      exact unl_no u d1 d2
/-- what holds where the list p is open to all holds where it is not, if it does not come to it -/
structure Sep (K : PySem.W.Frag) (G G' : Gh) (H H' : Hp) (ds : List D) (p : Addr) : Prop where
  bg : G'.bg = G.bg
  xs : ∃ xs, (H p = some (.lst xs) ∨ ∃ o, H p = some (.frz o (.lst xs))) ∧ DtL K G H ds xs
  own : ∀ a, a ≠ p → ¬ G.own a → ¬ G'.own a
  hp : ∀ a, a ≠ p → H' a = H a
mutual
theorem Sep.dt {ds : List D} {p : Addr} (s : Sep K G G' H H' ds p) : ∀ (d : D) (v : V), d.apart ds → Dt K G H d v → Dt K G' H' d v
  | .non, v, _, h => h
  | .bl b, v, _, h => h
  | .int i, v, _, h => h
  | .str x, v, _, h => h
  | .lst es, v, u, h => by
    obtain ⟨a, xs, h1, h2, h3, h4⟩ := h
    simp only [D.apart] at u
    have ne : a ≠ p := fun e => by
      subst e
      obtain ⟨ys, hy, dy⟩ := s.xs
      rcases hy with hy | ⟨o, hy⟩ <;> rw [h3] at hy <;> cases hy
      exact unlL_no u.1 h4 dy
    exact ⟨a, xs, h1, s.own a ne h2, by rw [s.hp a ne]; exact h3, Sep.dts s es xs u.2 h4⟩
  | .tup es, v, u, h => by
    obtain ⟨a, xs, h1, h3, h4⟩ := h
    simp only [D.apart] at u
    have ne : a ≠ p := fun e => by
      subst e
      obtain ⟨ys, hy, dy⟩ := s.xs
      rcases hy with hy | ⟨o, hy⟩ <;> rw [h3] at hy <;> cases hy
    exact ⟨a, xs, h1, by rw [s.hp a ne]; exact h3, Sep.dts s es xs u h4⟩
  | .dic t es, v, u, h => by
    obtain ⟨a, h1, h2, h3⟩ := h
    simp only [D.apart] at u
    have ne : a ≠ p := fun e => by
      subst e
      obtain ⟨ys, hy, dy⟩ := s.xs
      rcases h3 with ⟨kvs, h3, _⟩ | ⟨kvs, h3, _⟩ <;> rcases h3 with h3 | ⟨_, h3⟩ <;> rcases hy with hy | ⟨o, hy⟩ <;> rw [h3] at hy <;> cases hy
    have rd : ∀ {z : HO}, Rd H a z → Rd H' a z := fun {z} r => by
      rcases r with r | ⟨o, r⟩
      · exact .inl (by rw [s.hp a ne]; exact r)
      · exact .inr ⟨o, by rw [s.hp a ne]; exact r⟩
    rcases h3 with ⟨kvs, h3, h4⟩ | ⟨kvs, h3, h4⟩
    · exact ⟨a, h1, s.own a ne h2, .inl ⟨kvs, rd h3, Sep.dtp s t es kvs u h4⟩⟩
    · exact ⟨a, h1, s.own a ne h2, .inr ⟨kvs, rd h3, Sep.dtq s t es kvs u h4⟩⟩
  | .ins C fs, v, u, h => by
    obtain ⟨a, dx, vs, h1, h2, h3, h4⟩ := h
    simp only [D.apart] at u
    have ne : a ≠ p := fun e => by
      subst e
      obtain ⟨ys, hy, dy⟩ := s.xs
      rcases hy with hy | ⟨o, hy⟩ <;> rw [h3] at hy <;> cases hy
    exact ⟨a, dx, vs, h1, s.own a ne h2, by rw [s.hp a ne]; exact h3, Sep.dtf s fs vs u h4⟩
  | .glb a, v, _, h => h
  | .bag, v, _, h => by
    have h' : v = .ref G.bg := h
    show v = .ref G'.bg
    rw [s.bg]; exact h'
  | .lock o u, v, q, h => by simp only [D.apart] at q
  | .at _ _, v, q, h => by simp only [D.apart] at q
theorem Sep.dts {ds : List D} {p : Addr} (s : Sep K G G' H H' ds p) : ∀ (es : List D) (xs : List V), D.aparts ds es → DtL K G H es xs → DtL K G' H' es xs
  | [], xs, _, h => h
  | d :: es, xs, u, h => by
    obtain ⟨x, r, h1, h2, h3⟩ := h
    simp only [D.aparts] at u
    exact ⟨x, r, h1, Sep.dt s d x u.1 h2, Sep.dts s es r u.2 h3⟩
theorem Sep.dtp {ds : List D} {p : Addr} (s : Sep K G G' H H' ds p) (t : Bool) : ∀ (es : List (D × D)) (kvs : List (Key × V)), D.apartE ds es → DtP K G H t es kvs → DtP K G' H' t es kvs
  | [], xs, _, h => h
  | (k, d) :: es, kvs, u, h => by
    obtain ⟨j, v, r, h1, h2, h3, h4⟩ := h
    simp only [D.apartE] at u
    exact ⟨j, v, r, h1, h2, Sep.dt s d v u.1 h3, Sep.dtp s t es r u.2 h4⟩
theorem Sep.dtq {ds : List D} {p : Addr} (s : Sep K G G' H H' ds p) (t : Bool) : ∀ (es : List (D × D)) (kvs : List (List Key × V)), D.apartE ds es → DtQ K G H t es kvs → DtQ K G' H' t es kvs
  | [], xs, _, h => h
  | (k, d) :: es, kvs, u, h => by
    obtain ⟨j, v, r, h1, h2, h3, h4⟩ := h
    simp only [D.apartE] at u
    exact ⟨j, v, r, h1, h2, Sep.dt s d v u.1 h3, Sep.dtq s t es r u.2 h4⟩
theorem Sep.dtf {ds : List D} {p : Addr} (s : Sep K G G' H H' ds p) : ∀ (es : List (Str × D)) (kvs : List (Str × V)), D.apartF ds es → DtF K G H es kvs → DtF K G' H' es kvs
  | [], xs, _, h => h
  | (k, d) :: es, kvs, u, h => by
    obtain ⟨v, r, h1, h3, h4⟩ := h
    simp only [D.apartF] at u
    exact ⟨v, r, h1, Sep.dt s d v u.1 h3, Sep.dtf s es r u.2 h4⟩
end
end
end DL
set_option Elab.async false
set_option linter.all false
set_option maxRecDepth 100000
set_option maxHeartbeats 4000000
/-! ### x in y by y's own __contains__, properties, pops within expressions -/
namespace DL
open PySem PySem.Spec PyProof.Rows L2 PySem.W
/-! properties -/
structure PropP (P : Program) (w : World) (K : PySem.W.Frag) (mg : Str → Option Value) (base : Heap) (n : Nat) (C : Addr) (f : Str) (R : RD) : Prop where
  ex : ∃ (g : Addr) (fd : FuncData) (ps : List Str) (k : Nat) (p : Addr), k + 1 ≤ n ∧ FnG P w K mg base CX0 k g fd ps (spD K R) ∧ Cls K C ∧ PropOf K C f p g ∧ Binds K fd ps []
theorem PropP.mono {P : Program} {w : World} {K : PySem.W.Frag} {mg : Str → Option Value} {base : Heap} {n n' : Nat} {C : Addr} {f : Str} {R : RD} (c : PropP P w K mg base n C f R) (h : n ≤ n') : PropP P w K mg base n' C f R :=
  let ⟨g, fd, ps, k, p, hk, r⟩ := c.ex
  ⟨g, fd, ps, k, p, by omega, r⟩
noncomputable def propT (C : Addr) (R : RD) (t : TD) : TD := fun ρ k => t ρ fun x => (∃ fs, x = .ins C fs) ∧ R [x] k
/-! ### x.pop() within an expression -/
noncomputable def popE (i : Nat) : TDE := fun ρ k => match ρ[i]? with
  | some (.tr (.l ts)) => ∃ us d, ts = us ++ [.d d] ∧ k d (ρ.set i (.tr (.l us)))
  | _ => False
section
variable {X : Cx} {F : Fr} {e l : Expr} {tE tl : TDE} {n : Nat} {x : Str} {R : RD} {p px pos apos cpos : Pos}
/-- f(e), e with effects -/
noncomputable def callE (R : RD) (t : TDE) : TDE := fun ρ k => t ρ fun d ρ' => R [d] fun y => k y ρ'
/-- a, b = e, e with effects -/
noncomputable def tgtE (t : Tg) (te : TDE) : TSD := fun k ρ => te ρ fun d ρ' => tgD t d ρ' k.nx
/-! for over what an expression with effects gives -/
noncomputable def seqE (t : TDE) : List Sl → (List D → List Sl → Prop) → Prop := fun ρ k => t ρ fun d ρ' => match d with
  | .lst ds => k ds ρ'
  | .tup ds => k ds ρ'
  | _ => False
noncomputable def forE (t : Tg) (I : List Sl → (List D → List Sl → Prop) → Prop) (S : TSD) : TSD := fun k ρ => I ρ fun ds ρ' => loopT t S k ds ρ'
end
end DL
set_option Elab.async false
set_option linter.all false
set_option maxRecDepth 100000
set_option maxHeartbeats 4000000
/-! ### owned dicts with text keys that hold an owned list; changes within what is owned -/
namespace DL
open PySem PySem.Spec PyProof.Rows L2 PySem.W
/-- x["k"] = something new, x an owned dict of data without that key -/
noncomputable def dputKR (i : Nat) (y : Str) (tr : TRD) : TSD := fun k ρ => ∃ es : List (D × D), ρ[i]? = some (.tr (.m false (es.map dE))) ∧ D.str y ∉ es.map (·.1) ∧ es.length < sizeLine ∧ tr ρ fun t => k.nx (ρ.set i (.tr (.m false (es.map dE ++ [(.str y, t)]))))
section
variable {X : Cx} {F : Fr} {e : Expr} {tr : TRD} {pos px kpos tpos : Pos} {x y : Str}
/-- x["k"][j] = e, the list at the last key being owned -/
noncomputable def dputL (i : Nat) (y : Str) (z : Int) (te : TD) : TSD := fun k ρ => ∃ (es : List (D × D)) (us : List Tr) (n : Nat) (c : D), ρ[i]? = some (.tr (.m false (es.map dE ++ [(.str y, .l us)]))) ∧ D.str y ∉ es.map (·.1) ∧ ixN us.length z = some n ∧ us[n]? = some (.d c) ∧ te ρ fun d => k.nx (ρ.set i (.tr (.m false (es.map dE ++ [(.str y, .l (us.set n (.d d)))]))))
/-- return x, an owned dict at whose last key an owned list stands: that one is data from here on -/
noncomputable def retOF (i : Nat) : TSD := fun k ρ => ∃ (es : List (D × D)) (y : D) (us : List D), ρ[i]? = some (.tr (.m false (es.map dE ++ [(y, .l (us.map .d))]))) ∧ k.rt (.m false ((es ++ [(y, D.lst us)]).map dE))
end
end DL
set_option Elab.async false
set_option linter.all false
set_option maxRecDepth 100000
set_option maxHeartbeats 4000000
/-! ### tuples of texts of the module; x[j].append(e) of what is owned; dicts with text keys, owned -/
namespace DL
open PySem PySem.Spec PyProof.Rows L2 PySem.W
/-! x[j].append(e) -/
noncomputable def tOwn (K : PySem.W.Frag) (i : Nat) (z : Int) : TE := fun σ H Q => ∃ p xs w, σ[i]? = some (some (.ref p)) ∧ H p = some (.lst xs) ∧ atI xs z = some w ∧ Q w H
noncomputable def appIx (i : Nat) (z : Int) (ta : TLD) : TSD := fun k ρ => match ρ[i]? with
  | some (.tr (.l ts)) => ∃ n us, ixN ts.length z = some n ∧ ts[n]? = some (.l us) ∧ us.length < sizeLine ∧ ta ρ fun args => ∃ d, args = [d] ∧ k.nx (ρ.set i (.tr (.l (ts.set n (.l (us ++ [.d d]))))))
  | _ => False
theorem OwL.pick {K : PySem.W.Frag} {G : Gh} {H : Hp} : ∀ {n : Nat} {ts : List Tr} {xs : List V} {L : List Addr} {t : Tr}, OwL K G H ts xs L → ts[n]? = some t → ∃ v A M B, xs[n]? = some v ∧ L = A ++ (M ++ B) ∧ Ow K G H t v M ∧
    ∀ G' H' t', (∀ u w N, (∀ p ∈ N, p ∈ A ∨ p ∈ B) → Ow K G H u w N → Ow K G' H' u w N) → Ow K G' H' t' v M → OwL K G' H' (ts.set n t') xs L
  | 0, t :: ts, _, _, u, h, e => by
    obtain ⟨x, r, M, N, rfl, h1, h2, rfl⟩ := h
    obtain rfl : t = u := by simpa using e
    refine ⟨x, [], M, N, rfl, rfl, h1, fun G' H' t' g h' => ⟨x, r, M, N, rfl, h', ?_, rfl⟩⟩
    have all : ∀ {ts : List Tr} {xs : List V} {L : List Addr}, OwL K G H ts xs L → (∀ p ∈ L, p ∈ N) → OwL K G' H' ts xs L := by
      intro ts
      induction ts with
      | nil => intro xs L h _; exact h
      | cons t ts ih =>
        intro xs L h s
        obtain ⟨x, r, A, B, rfl, h1, h2, rfl⟩ := h
        exact ⟨x, r, A, B, rfl, g _ _ _ (fun p hp => .inr (s p (List.mem_append_left _ hp))) h1, ih h2 fun p hp => s p (List.mem_append_right _ hp), rfl⟩
    exact all h2 fun _ h => h
  | n + 1, t :: ts, _, _, u, h, e => by
    obtain ⟨x, r, M, N, rfl, h1, h2, rfl⟩ := h
    obtain ⟨v, A, M', B, e1, rfl, e2, e3⟩ := OwL.pick h2 (by simpa using e)
    refine ⟨v, M ++ A, M', B, by simpa using e1, by simp, e2, fun G' H' t' g h' => ⟨x, r, M, _, rfl, g _ _ _ (fun p hp => .inl (List.mem_append_left _ hp)) h1, e3 G' H' t' (fun u w N s => g u w N fun p hp => (s p hp).imp (List.mem_append_right _) _root_.id) h', rfl⟩⟩
  | n, [], _, _, _, h, e => by simp at e
section
variable {X : Cx} {F : Fr} {e : Expr} {ta : TLD} {pos px zpos ipos apos cpos : Pos} {x : Str} {z : Int} {j : Nat}
theorem pe_own (i : Nat) (hN : X.N[i]? = some x := by rfl) (hv : Vis X.env.scope x := by first | exact Or.inl rfl | exact Or.inr (Or.inl rfl) | exact Or.inr (Or.inr rfl)) (hdb : (x == ("__debug__" : Str)) = false := by decide)
    (hcd : (x == ("__classdict__" : Str)) = false := by decide) (hs : PlainIx (.Constant (.int z) j zpos) := by intro _ _; rfl) : PE X (.Subscript (.Name x px) (.Constant (.int z) j zpos) ipos) (tOwn X.K i z) := by
  refine pe_imp (pe_ix ix_seq (pe_var hN hv hdb hcd) pe_int hs) fun σ H Q ⟨p, xs, w, e1, hp, hw, q⟩ => ?_
  exact ⟨_, e1, .inl ⟨p, xs, z, w, rfl, rfl, SqL.of hp, hw, q⟩⟩
theorem s_appIx (i : Nat) (hpe : PE X (.Call (.Attribute (.Subscript (.Name x px) (.Constant (.int z) j zpos) ipos) "append" apos) [e] [] cpos) (tBM X.K "list" rAppend (tOwn X.K i z) (liftA F ta)))
    (hs : swapsWith (.Call (.Attribute (.Subscript (.Name x px) (.Constant (.int z) j zpos) ipos) "append" apos) [e] [] cpos) none pos.line X.env = pure false := by rfl) :
    PS X (.Expr (.Call (.Attribute (.Subscript (.Name x px) (.Constant (.int z) j zpos) ipos) "append" apos) [e] [] cpos) pos) (liftS F (appIx i z ta)) := by
  refine ps_imp (ps_expr hpe hs) fun E σ H ⟨G, ρ, k, r, h, o⟩ => ?_
  obtain ⟨ts, hi, n, us, hn, hu, hl, h⟩ := tl_of h
  obtain ⟨L, rl⟩ := r.adrs
  obtain ⟨v, B, e1, ⟨p, xs, M, rfl, o2, h4, h5, rfl⟩, _, _, nbg, _⟩ := rl.io (mk := .tr) hi rfl
  obtain ⟨w, A, M', B', w1, rfl, ⟨q, ys, N, rfl, oq, hq, hys, rfl⟩, _⟩ := h5.pick hu
  refine ⟨p, xs, .ref q, e1, h4, ?_, .inl ⟨rfl, _, SqL.of hq⟩, G, ρ, _, r, h, fun args vs H1 ⟨d, ea, h1⟩ x1 d1 => ?_⟩
  · unfold L2.atI
    rw [← h5.len, hn]; exact w1
  · subst ea
    have r1 := r.step x1
    obtain ⟨v, B, e1', ⟨p', xs', M, rfl, o2, h4', h5, rfl⟩, nB, _, ch⟩ := r1.chg hi
    rw [e1] at e1'
    cases e1'
    obtain ⟨w, A, M', B', w1', rfl, ⟨q', ys', N, ew, oq, hq', hys, rfl⟩, set⟩ := h5.pick hu
    have npb : p ≠ G.bg := fun z => nbg (by rw [z]; simp)
    have hp1 : H1 p = some (.lst xs) := x1.mine npb h4 o2
    rw [hp1] at h4'
    cases h4'
    rw [w1] at w1'
    cases w1'
    cases ew
    obtain ⟨y, rfl, hy⟩ := dl1 d1
    have hn1 := List.nodup_cons.mp nB
    have npq : p ≠ q := fun z => hn1.1 (by rw [z]; simp)
    obtain ⟨_, nM, nd⟩ := nodup_mid hn1.2
    have ndq := nd q (by simp)
    refine ⟨q, ys', y, rfl, rfl, hq', by rw [← hys.len]; exact hl, ?_⟩
    have ev : Evo G G H1 (upd H1 q (.lst (ys' ++ [y]))) := ⟨fun a u n h => .inl (by rw [upd_ne (fun z => n (by rw [z]; exact oq))]; exact h), r1.tr, fun _ n _ => n, rfl, rfl⟩
    have nqN : q ∉ N := (List.nodup_cons.mp nM).1
    have hw : Ow F.K G (upd H1 q (.lst (ys' ++ [y]))) (.l (us ++ [.d d])) (.ref q) (q :: N) := by
      have h6 := hys.app (OwL.one hy)
      rw [List.append_nil] at h6
      exact ⟨q, _, N, rfl, oq, upd_same, Ow.evoL ev _ _ N (fun a ha => ⟨(OwL.own _ _ N h6 a ha).1, upd_ne fun z => nqN (z ▸ ha)⟩) h6, rfl⟩
    exact o.nx _ G σ _ h1 (ch q (.lst (ys' ++ [y])) (.l (ts.set n (.l (us ++ [.d d])))) (by simp) True.intro ⟨p, xs, _, rfl, o2, by rw [upd_ne npq]; exact hp1, set G _ _ (fun u w N' s hw' => Ow.evo ev u w N' (fun a ha => ⟨(Ow.own u w N' hw' a ha).1, upd_ne fun z => (s a ha).elim (z ▸ ndq.1) (z ▸ ndq.2)⟩) hw') hw, rfl⟩)
end
/-! {"k": e, ..} of its own -/
noncomputable def dispR (ks : List Str) (ta : TLD) : TRD := fun ρ k => ta ρ fun ds => k (.m false (((ks.map D.str).zip ds).map dE))
section
variable {X : Cx} {F : Fr} {pos p : Pos} {keys : List (Option Expr)} {values : List Expr} {ks : List Str} {ta : TLD} {e : Expr}
/-- dict(d) of its own -/
noncomputable def dictDT (ta : TLD) : TRD := fun ρ k => ta ρ fun ds => ∃ es : List (D × D), ds = [.dic false es] ∧ k (.m false (es.map dE))
end
end DL
set_option Elab.async false
set_option linter.all false
set_option maxRecDepth 100000
set_option maxHeartbeats 4000000
/-! ### an owned dict handed to a def, several new things at once, slices of lists as new lists -/
namespace DL
open PySem PySem.Spec PyProof.Rows L2 PySem.W
mutual
/-- no dict, no object, nothing locked in it -/
noncomputable def D.noM : D → Bool
  | .non | .bl _ | .int _ | .str _ => true
  | .lst es => D.noMs es
  | .tup es => D.noMs es
  | _ => false
noncomputable def D.noMs : List D → Bool
  | [] => true
  | e :: es => D.noM e && D.noMs es
end
section
variable {K : PySem.W.Frag} {G G' : Gh} {H H' : Hp}
structure SepM (K : PySem.W.Frag) (G G' : Gh) (H H' : Hp) (p : Addr) : Prop where
  dk : ∃ kvs, H p = some (.dK kvs) ∨ ∃ o, H p = some (.frz o (.dK kvs))
  own : ∀ a, a ≠ p → ¬ G.own a → ¬ G'.own a
  hp : ∀ a, a ≠ p → H' a = H a
mutual
theorem SepM.dt {p : Addr} (s : SepM K G G' H H' p) : ∀ (d : D) (v : V), d.noM = true → Dt K G H d v → Dt K G' H' d v
  | .non, v, _, h => h
  | .bl b, v, _, h => h
  | .int i, v, _, h => h
  | .str x, v, _, h => h
  | .lst es, v, u, h => by
    obtain ⟨a, xs, h1, h2, h3, h4⟩ := h
    simp only [D.noM] at u
    have ne : a ≠ p := fun e => by
      subst e
      obtain ⟨ys, hy⟩ := s.dk
      rcases hy with hy | ⟨o, hy⟩ <;> rw [h3] at hy <;> cases hy
    exact ⟨a, xs, h1, s.own a ne h2, by rw [s.hp a ne]; exact h3, SepM.dts s es xs u h4⟩
  | .tup es, v, u, h => by
    obtain ⟨a, xs, h1, h3, h4⟩ := h
    simp only [D.noM] at u
    have ne : a ≠ p := fun e => by
      subst e
      obtain ⟨ys, hy⟩ := s.dk
      rcases hy with hy | ⟨o, hy⟩ <;> rw [h3] at hy <;> cases hy
    exact ⟨a, xs, h1, by rw [s.hp a ne]; exact h3, SepM.dts s es xs u h4⟩
  | .dic t es, v, u, h => by simp [D.noM] at u
  | .ins C es, v, u, h => by simp [D.noM] at u
  | .bag, v, u, h => by simp [D.noM] at u
  | .glb a, v, u, h => by simp [D.noM] at u
  | .lock _ _, v, u, h => by simp [D.noM] at u
  | .at _ _, v, u, h => by simp [D.noM] at u
theorem SepM.dts {p : Addr} (s : SepM K G G' H H' p) : ∀ (es : List D) (vs : List V), D.noMs es = true → DtL K G H es vs → DtL K G' H' es vs
  | [], vs, _, h => h
  | e :: es, vs, u, h => by
    obtain ⟨x, r, h1, h2, h3⟩ := h
    simp only [D.noMs, Bool.and_eq_true] at u
    exact ⟨x, r, h1, SepM.dt s e x u.1 h2, SepM.dts s es r u.2 h3⟩
end
end
/-- e, in which x, an owned dict of data, stands; the result has no dict in it -/
noncomputable def thruM (i : Nat) (t : TD) : TD := fun ρ k => ∃ es : List (D × D), ρ[i]? = some (.tr (.m false (es.map dE))) ∧ t (ρ.set i (.dat (.dic false es))) fun d => d.noM = true ∧ k d
/-- dict(x), x an owned dict of data, of its own -/
noncomputable def dictOT (i : Nat) : TRD := fun ρ k => ∃ es : List (D × D), ρ[i]? = some (.tr (.m false (es.map dE))) ∧ k (.m false (es.map dE))
section
variable {X : Cx} {F : Fr} {e a b c : Expr} {te ta : TD} {tr tb tc : TRD} {G : Gh} {H H' : Hp} {pos p px py pz pt pt2 : Pos} {x y z : Str} {i j l kt k2 : Nat}
/-! several new things -/
noncomputable def par2T (i j : Nat) (ta tb : TRD) : TSD := fun k ρ => ta ρ fun t => tb ρ fun u => k.nx ((ρ.set i (.tr t)).set j (.tr u))
noncomputable def parDT (i j : Nat) (ta : TD) (tb : TRD) : TSD := fun k ρ => ta ρ fun d => tb ρ fun u => k.nx ((ρ.set i (.dat d)).set j (.tr u))
noncomputable def par3T (i j l : Nat) (ta tb tc : TRD) : TSD := fun k ρ => ta ρ fun t => tb ρ fun u => tc ρ fun w => k.nx (((ρ.set i (.tr t)).set j (.tr u)).set l (.tr w))
end
end DL
set_option Elab.async false
set_option linter.all false
set_option maxRecDepth 100000
set_option maxHeartbeats 4000000
/-! ### x.f, x a name that owns the object -/
namespace DL
open PySem PySem.Spec PyProof.Rows L2 PySem.W
noncomputable def fldO (i : Nat) (C : Addr) (f : Str) : TD := fun ρ k => ∃ s fs mk d, ρ[i]? = some s ∧ s.tree = some (.o C fs, mk) ∧ fs.lookup f = some (.d d) ∧ k d
end DL
set_option Elab.async false
set_option linter.all false
set_option maxRecDepth 100000
set_option maxHeartbeats 4000000
/-! ### x, y = a, b where the names are cells: through a tuple; a is new -/
namespace DL
open PySem PySem.Spec PyProof.Rows L2 PySem.W
end DL
set_option Elab.async false
set_option linter.all false
set_option maxRecDepth 100000
set_option maxHeartbeats 4000000
/-! ### x[k], x a name that owns a dict of data -/
namespace DL
open PySem PySem.Spec PyProof.Rows L2 PySem.W
end DL
set_option Elab.async false
set_option linter.all false
set_option maxRecDepth 100000
set_option maxHeartbeats 4000000
/-! ### x.count(e), x a list of data: some number -/
namespace DL
open PySem PySem.Spec PyProof.Rows L2 PySem.W
end DL
set_option Elab.async false
set_option linter.all false
set_option maxRecDepth 100000
set_option maxHeartbeats 4000000
/-! DR9: a tuple once, or no time at all -/
namespace L2
open PySem PySem.Spec PyProof.Rows
end L2
namespace DL
open PySem PySem.Spec PyProof.Rows L2
end DL
set_option Elab.async false
set_option linter.all false
set_option maxRecDepth 100000
set_option maxHeartbeats 4000000
/-! DS1: x is None -/
namespace DL
open PySem PySem.Spec PyProof.Rows L2
end DL
set_option Elab.async false
set_option linter.all false
set_option maxRecDepth 100000
set_option maxHeartbeats 2000000
/-! own errors: def __init__(self, f): super().__init__(f); self.f = f -/
namespace PySem
namespace ErrX
open PySem.W PySem.Calls PyProof.Rows PySem.HandSPX
end ErrX
end PySem
namespace L2
open PySem PySem.Spec PyProof.Rows
end L2
set_option Elab.async false
set_option linter.all false
set_option maxRecDepth 100000
set_option maxHeartbeats 2000000
namespace DL
open PySem PySem.Spec PyProof.Rows L2
/-! ### defs that raise -/
/-- what is told of an exception: its class, its field -/
structure XD where
  cls : Addr
  pay : Option (Str × D) := none
noncomputable def XRel (K : PySem.W.Frag) (G : Gh) (H : Hp) (x : XD) (cls : Value) (d : Option Addr) : Prop :=
  cls = .ref x.cls ∧ ((x.pay = none ∧ d = none) ∨ ∃ f p dd v, x.pay = some (f, p) ∧ d = some dd ∧ H dd = some (.xd [(f, v)]) ∧ Dt K G H p v)
noncomputable abbrev RXD := List D → (D → Prop) → (XD → Prop) → Prop
noncomputable def spV (K : PySem.W.Frag) (R : RXD) : Sp := fun vs H Q E => ∃ G ds k e, GOk G H ∧ DtL K G H ds vs ∧ R ds k e ∧ (∀ d v H', k d → Ext G H H' → Dt K G H' d v → Q v H') ∧ ∀ x cls a H', e x → Ext G H H' → XRel K G H' x cls a → E cls a H'
noncomputable abbrev WXD := XD → List Sl → Prop
noncomputable def liftW (F : Fr) (W : WXD) : WX := fun cls a σ H => ∃ G ρ x, Rel F G H σ ρ ∧ W x ρ ∧ XRel F.K G H x cls a
theorem XRel.evo {K : PySem.W.Frag} {G G' : Gh} {H : Hp} {x : XD} {cls : Value} {a : Option Addr} (e : Evo G G' H H) (h : XRel K G H x cls a) : XRel K G' H x cls a := by
  obtain ⟨h1, h2 | ⟨f, p, dd, v, e1, e2, e3, e4⟩⟩ := h
  · exact ⟨h1, .inl h2⟩
  · exact ⟨h1, .inr ⟨f, p, dd, v, e1, e2, e3, e.dt p v e4⟩⟩
/-! raise -/
/-! a def by its body -/
/-! a call that may raise -/
structure CalV (P : Program) (w : World) (K : PySem.W.Frag) (mg : Str → Option Value) (base : Heap) (n : Nat) (x : Str) (R : RXD) : Prop where
  ex : ∃ (f : Addr) (fd : FuncData) (ps : List Str) (k : Nat), k ≤ n ∧ FnG P w K mg base (L2.CX P w) k f fd ps (spV K R) ∧ mg x = some (.ref f) ∧ PySem.W.keepIn K (.ref f) = true ∧ Binds K fd ps []
theorem CalV.mono {P : Program} {w : World} {K : PySem.W.Frag} {mg : Str → Option Value} {base : Heap} {n n' : Nat} {x : Str} {R : RXD} (c : CalV P w K mg base n x R) (h : n ≤ n') : CalV P w K mg base n' x R :=
  let ⟨f, fd, ps, k, hk, r⟩ := c.ex
  ⟨f, fd, ps, k, by omega, r⟩
theorem CalV.of {P : Program} {w : World} {K : PySem.W.Frag} {mg : Str → Option Value} {base : Heap} {n : Nat} {x : Str} {R : RXD} {f : Addr} {fd : FuncData} {ps : List Str} {q : Str} {st : Stmt} (fn : FnG P w K mg base (L2.CX P w) n f fd ps (spV K R)) (hm : mg x = some (.ref f)) (F : Fun K x q st f fd) (hb : Binds K fd ps []) : CalV P w K mg base n x R := ⟨f, fd, ps, n, Nat.le_refl _, fn, hm, F.kp, hb⟩
structure MetV (P : Program) (w : World) (K : PySem.W.Frag) (mg : Str → Option Value) (base : Heap) (n : Nat) (C : Addr) (m : Str) (R : RXD) : Prop where
  ex : ∃ (f : Addr) (fd : FuncData) (ps : List Str) (k : Nat), k ≤ n ∧ FnG P w K mg base (L2.CX P w) k f fd ps (spV K R) ∧ Cls K C ∧ Meth K C m f ∧ Binds K fd ps []
theorem MetV.mono {P : Program} {w : World} {K : PySem.W.Frag} {mg : Str → Option Value} {base : Heap} {n n' : Nat} {C : Addr} {m : Str} {R : RXD} (c : MetV P w K mg base n C m R) (h : n ≤ n') : MetV P w K mg base n' C m R :=
  let ⟨f, fd, ps, k, hk, r⟩ := c.ex
  ⟨f, fd, ps, k, by omega, r⟩
/-! try: body / except x: suite, where each exception of the body is of the classes Sub, which are x's -/
end DL
set_option Elab.async false
set_option linter.all false
set_option maxRecDepth 100000
set_option maxHeartbeats 2000000
namespace DL
open PySem PySem.Spec PyProof.Rows L2
/-! ### an __init__ that raises -/
noncomputable abbrev RMV := List (Option D) → Tr → (D → Tr → Prop) → (XD → Prop) → Prop
noncomputable def spMV (K : PySem.W.Frag) (RM : RMV) : Sp := fun vs H Q E => ∃ G xs t v B k e, GOk G H ∧ DtX K G H v xs vs ∧ Ow K G H t v B ∧ B.Nodup ∧ G.bg ∉ B ∧ G.bi ∉ B ∧ RM xs t k e ∧
  (∀ d t' w H' B', k d t' → Ext (G.rems B) (off H B) H' → (∀ p ∈ B', off H B p = none) → B'.Nodup → Ow K ((G.rems B).adds B') H' t' v B' → Dt K ((G.rems B).adds B') H' d w → Q w H') ∧
  ∀ x cls a H', e x → Ext (G.rems B) (off H B) H' → XRel K (G.rems B) H' x cls a → E cls a H'
structure MakV (P : Program) (w : World) (K : PySem.W.Frag) (mg : Str → Option Value) (base : Heap) (n : Nat) (x : Str) (C : Addr) (RM : RMV) : Prop where
  ex : ∃ (f : Addr) (fd : FuncData) (ps : List Str) (k : Nat), k + 1 ≤ n ∧ FnG P w K mg base (L2.CX P w) k f fd ps (spMV K RM) ∧ mg x = some (.ref C) ∧ Mk K C f ∧ Binds K fd ps []
theorem MakV.mono {P : Program} {w : World} {K : PySem.W.Frag} {mg : Str → Option Value} {base : Heap} {n n' : Nat} {x : Str} {C : Addr} {RM : RMV} (c : MakV P w K mg base n x C RM) (h : n ≤ n') : MakV P w K mg base n' x C RM :=
  let ⟨f, fd, ps, k, hk, r⟩ := c.ex
  ⟨f, fd, ps, k, by omega, r⟩
end DL
set_option Elab.async false
set_option linter.all false
set_option maxRecDepth 100000
set_option maxHeartbeats 2000000
namespace DL
open PySem PySem.Spec PyProof.Rows L2
end DL
set_option Elab.async false
set_option linter.all false
set_option maxRecDepth 100000
set_option maxHeartbeats 1000000
/-! except x as e: suite, the suite returning alone; e.f and isinstance(e, C) within -/
namespace DL
open PySem PySem.Spec PyProof.Rows L2
end DL
set_option Elab.async false
set_option linter.all false
set_option maxRecDepth 100000
set_option maxHeartbeats 1000000
/-! raise C(), C an own error that keeps nothing -/
namespace DL
open PySem PySem.Spec PyProof.Rows L2
end DL
set_option Elab.async false
set_option linter.all false
set_option maxRecDepth 100000
set_option maxHeartbeats 4000000
/-! ### ==, != and in for lists of own objects, by their own __eq__ -/
namespace DL
open PySem PySem.SeqAt
open AutoSeq1 (wpAny_loadPart')
open MeetsSeq MeetsSeq2 MeetsSeq3 SeqRoads2
end DL
set_option Elab.async false
set_option linter.all false
set_option maxRecDepth 100000
set_option maxHeartbeats 4000000
/-! ### ==, != and in for lists of own objects: as data -/
namespace DL
open PySem PySem.Spec PyProof.Rows L2 PySem.W
noncomputable abbrev CmpE := D → D → (Bool → Prop) → Prop
structure SubG (X : Cx) (n : Nat) (A : Around) : Prop where
  room : Room n A
  fr : A.frames = X.A.frames
  gd : A.guards = some []
theorem SubG.in1 {X : Cx} {n : Nat} {A : Around} (s : SubG X (n + 1) A) : SubG X n A.in1 := ⟨s.room.in1, s.fr, s.gd⟩
theorem SubG.mono {X : Cx} {n m : Nat} {A : Around} (s : SubG X n A) (h : m ≤ n) : SubG X m A := ⟨s.room.mono h, s.fr, s.gd⟩
section
variable {G : Gh} {H H' : Hp}
theorem GOk.evo (g : GOk G H) (e : Ext G H H') : Evo G G H H' := ⟨fun a o n h => e.lk (fun z => n (by rw [z]; exact g.ob)) h, g.tr, fun _ n _ => n, rfl, rfl⟩
theorem GOk.step (g : GOk G H) (e : Ext G H H') : GOk G H' := ⟨g.ob, g.oi, Ext.tr' g.ob g.tr e, e.bag, fun p hp => e.tab hp (g.tb p hp)⟩
end
/-- may be one and the same object -/
noncomputable def Alike (x y : D) : Prop := ∃ (K : PySem.W.Frag) (G : Gh) (H : Hp) (v : V), Dt K G H x v ∧ Dt K G H y v
noncomputable def EqSt (X : Cx) (m : Nat) (E : CmpE) : Prop :=
  ∀ (A : Around) (pins : List (Addr × Obj)) (s : Shared) (σ : L2.St) (H : Hp) (G : Gh) (dx dy : D) (x y : V) (u v : Value) (k : Bool → Prop), SubG X m A → Inv X pins σ H s → GOk G H → Dt X.K G H dx x → Dt X.K G H dy y → RelV x u → RelV y v → E dx dy k →
    wpAny (model X.prog X.w) A (eqBool u v) (fun r s' => ∃ H', Inv X pins σ H' s' ∧ Ext G H H' ∧ k r) X.xe s
noncomputable def RcSt (X : Cx) (op : CmpOp) (m : Nat) (E : CmpE) : Prop :=
  ∀ (A : Around) (pins : List (Addr × Obj)) (s : Shared) (σ : L2.St) (H : Hp) (G : Gh) (dx dy : D) (x y : V) (u v : Value) (k : Bool → Prop), SubG X m A → Inv X pins σ H s → GOk G H → Dt X.K G H dx x → Dt X.K G H dy y → RelV x u → RelV y v → E dx dy k →
    wpAny (model X.prog X.w) A (richCompare op u v) (fun r s' => ∃ b, r = .bool b ∧ ∃ H', Inv X pins σ H' s' ∧ Ext G H H' ∧ k b) X.xe s
section
variable {X : Cx} {n m : Nat} {E E' : CmpE}
theorem EqSt.mono (h : EqSt X n E) (hn : n ≤ m) : EqSt X m E := fun A pins s σ H G dx dy x y u v k sb => h A pins s σ H G dx dy x y u v k (sb.mono hn)
theorem RcSt.mono {op : CmpOp} (h : RcSt X op n E) (hn : n ≤ m) : RcSt X op m E := fun A pins s σ H G dx dy x y u v k sb => h A pins s σ H G dx dy x y u v k (sb.mono hn)
noncomputable def orE (E E' : CmpE) : CmpE := fun x y k => E x y k ∨ E' x y k
theorem EqSt.or (h : EqSt X n E) (h' : EqSt X n E') : EqSt X n (orE E E') := fun A pins s σ H G dx dy x y u v k sb I g d1 d2 rx ry e => by
  rcases e with e | e
  · exact h A pins s σ H G dx dy x y u v k sb I g d1 d2 rx ry e
  · exact h' A pins s σ H G dx dy x y u v k sb I g d1 d2 rx ry e
/-- within a list: one and the same object is equal to itself -/
noncomputable def sameE (E : CmpE) : CmpE := fun x y k => (Alike x y → k true) ∧ E x y k
/-! lists -/
noncomputable def allE (E : CmpE) : List D → List D → (Bool → Prop) → Prop
  | x :: xs, y :: ys, k => E x y fun c => match c with
    | true => allE E xs ys k
    | false => k false
  | _, _, k => k true
noncomputable def lstE (E : CmpE) : CmpE := fun x y k => ∃ xs ys, x = .lst xs ∧ y = .lst ys ∧ (xs.length ≠ ys.length → k false) ∧ (xs.length = ys.length → allE E xs ys k)
/-! x in a list of own objects -/
end
end DL
set_option Elab.async false
set_option linter.all false
set_option maxRecDepth 100000
set_option maxHeartbeats 4000000
/-! ### isinstance of any value against an own class, of an own object against built-in ones; x == y for any y -/
namespace DL
open PySem PySem.Spec PyProof.Rows L2 PySem.W
/-! x == y by x's own __eq__, y what it may be -/
end DL
set_option Elab.async false
set_option linter.all false
set_option maxRecDepth 100000
set_option maxHeartbeats 4000000
/-! ### self.f, self.g = a, b: a and b new, so the object owns them -/
namespace DL
open PySem PySem.Spec PyProof.Rows L2 PySem.W
theorem OwF.app {K : PySem.W.Frag} {G : Gh} {H : Hp} : ∀ {fs gs : List (Str × Tr)} {vs ws : List (Str × V)} {M N : List Addr}, OwF K G H fs vs M → OwF K G H gs ws N → OwF K G H (fs ++ gs) (vs ++ ws) (M ++ N)
  | [], _, _, _, _, _, h, h2 => by
    obtain ⟨rfl, rfl⟩ := h
    exact h2
  | (k, t) :: fs, _, _, _, _, _, h, h2 => by
    obtain ⟨v, r, A, B, rfl, h1, h3, rfl⟩ := h
    exact ⟨v, _, A, _, rfl, h1, OwF.app h3 h2, by rw [List.append_assoc]⟩
theorem OwF.names {K : PySem.W.Frag} {G : Gh} {H : Hp} : ∀ {fs : List (Str × Tr)} {vs : List (Str × V)} {M : List Addr}, OwF K G H fs vs M → vs.map (·.1) = fs.map (·.1)
  | [], _, _, h => by rw [h.1]; rfl
  | (k, t) :: fs, _, _, h => by
    obtain ⟨v, r, A, B, rfl, h1, h3, rfl⟩ := h
    simp [OwF.names h3]
end DL
set_option Elab.async false
set_option linter.all false
set_option maxRecDepth 100000
set_option maxHeartbeats 4000000
/-! ### what is new without lists of another's, behind a call that was handed owned lists; methods that return what is new; owned lists that are changed item by item -/
namespace DL
open PySem PySem.Spec PyProof.Rows L2 PySem.W
section
variable {K : PySem.W.Frag} {G G1 G2 : Gh} {H H1 H2 : Hp}
noncomputable def NoL (o : HO) : Prop := ∀ xs, o ≠ .lst xs
/-- what is no list stands -/
structure NolS (G1 G2 : Gh) (H1 H2 : Hp) : Prop where
  k : ∀ a o, NoL o → H1 a = some o → H2 a = some o
  g : ∀ a o, NoL o → H1 a = some o → ¬ G1.own a → ¬ G2.own a
  b : G2.bg = G1.bg
theorem NolS.rd (s : NolS G1 G2 H1 H2) {a : Addr} {u : HO} (n : NoL u) (h : Rd H1 a u) : Rd H2 a u := by
  rcases h with h | ⟨o, h⟩
  · exact .inl (s.k _ _ n h)
  · exact .inr ⟨o, s.k _ _ (by intro _ z; cases z) h⟩
theorem NolS.gd (s : NolS G1 G2 H1 H2) {a : Addr} {u : HO} (n : NoL u) (h : Rd H1 a u) (z : ¬ G1.own a) : ¬ G2.own a := by
  rcases h with h | ⟨o, h⟩
  · exact s.g _ _ n h z
  · exact s.g _ _ (by intro _ z; cases z) h z
end
/-! methods that return what is new -/
structure MetT (P : Program) (w : World) (K : PySem.W.Frag) (mg : Str → Option Value) (base : Heap) (n : Nat) (C : Addr) (m : Str) (R : RTD) : Prop where
  ex : ∃ (f : Addr) (fd : FuncData) (ps : List Str) (k : Nat), k ≤ n ∧ FnG P w K mg base CX0 k f fd ps (spT K R) ∧ Cls K C ∧ Meth K C m f ∧ Binds K fd ps []
theorem MetT.mono {P : Program} {w : World} {K : PySem.W.Frag} {mg : Str → Option Value} {base : Heap} {n n' : Nat} {C : Addr} {m : Str} {R : RTD} (c : MetT P w K mg base n C m R) (h : n ≤ n') : MetT P w K mg base n' C m R :=
  let ⟨f, fd, ps, k, hk, r⟩ := c.ex
  ⟨f, fd, ps, k, by omega, r⟩
/-! for y in x: y.append(None), and y.reverse(): x a name that owns lists and lets them go -/
end DL
set_option Elab.async false
set_option linter.all false
set_option maxRecDepth 100000
set_option maxHeartbeats 4000000
/-! ### [e for t in it], e new: a new list of new things -/
namespace DL
open PySem PySem.Spec PyProof.Rows L2
end DL
set_option Elab.async false
set_option linter.all false
set_option maxRecDepth 100000
set_option maxHeartbeats 4000000
/-! ### == and `in` of data without truths and dicts: just where they are the same -/
namespace DL
open PySem PySem.Spec PyProof.Rows L2 PySem.W
mutual
noncomputable def D.eqK : D → Bool
  | .non => true
  | .int _ => true
  | .str _ => true
  | .lst ds => D.eqKs ds
  | .tup ds => D.eqKs ds
  | .bl _ => false
  | .dic _ _ => false
  | .ins _ _ => false
  | .bag => false
  | .glb _ => false
  | .lock _ _ => false
  | .at _ _ => false
noncomputable def D.eqKs : List D → Bool
  | [] => true
  | d :: ds => d.eqK && D.eqKs ds
end
mutual
theorem eqv_iff : ∀ (x : D), x.eqK = true → ∀ y : D, y.eqK = true → (PyData.eqv x.py y.py = true ↔ x = y)
  | .non, _, y, hy => by cases y <;> simp_all [D.eqK, D.py, PyData.eqv]
  | .int i, _, y, hy => by cases y <;> simp_all [D.eqK, D.py, PyData.eqv]
  | .str s, _, y, hy => by cases y <;> simp_all [D.eqK, D.py, PyData.eqv]
  | .lst ds, h, y, hy => by
    cases y with
    | lst es =>
      simp only [D.eqK] at h hy
      simp only [D.py, PyData.eqv, D.lst.injEq]
      exact eqvs_iff ds h es hy
    | _ => simp_all [D.eqK, D.py, PyData.eqv]
  | .tup ds, h, y, hy => by
    cases y with
    | tup es =>
      simp only [D.eqK] at h hy
      simp only [D.py, PyData.eqv, D.tup.injEq]
      exact eqvs_iff ds h es hy
    | _ => simp_all [D.eqK, D.py, PyData.eqv]
  | .bl _, h, y, hy => by simp [D.eqK] at h
  | .dic _ _, h, y, hy => by simp [D.eqK] at h
  | .ins _ _, h, y, hy => by simp [D.eqK] at h
  | .bag, h, y, hy => by simp [D.eqK] at h
  | .glb _, h, y, hy => by simp [D.eqK] at h
  | .lock _ _, h, y, hy => by simp [D.eqK] at h
  | .at _ _, h, y, hy => by simp [D.eqK] at h
theorem eqvs_iff : ∀ (xs : List D), D.eqKs xs = true → ∀ ys : List D, D.eqKs ys = true → (PyData.eqvAll (D.pys xs) (D.pys ys) = true ↔ xs = ys)
  | [], _, ys, _ => by cases ys <;> simp [D.pys, PyData.eqvAll]
  | x :: xs, h, ys, hy => by
    cases ys with
    | nil => simp [D.pys, PyData.eqvAll]
    | cons y ys =>
      simp only [D.eqKs, Bool.and_eq_true] at h hy
      simp only [D.pys, PyData.eqvAll, Bool.and_eq_true, List.cons.injEq]
      rw [eqv_iff x h.1 y hy.1, eqvs_iff xs h.2 ys hy.2]
end
/-- data that are compared: no truths, no dicts, so deep at most -/
structure Cq (n : Nat) (d : D) : Prop where
  k : d.eqK = true
  l : d.py.canLay0 = true
  d : d.py.depth ≤ n
theorem Cq.mono {n m : Nat} {d : D} (h : Cq n d) (hm : n ≤ m) : Cq m d := ⟨h.k, h.l, by have := h.d; omega⟩
theorem cqs_of {n : Nat} : ∀ {ds : List D}, (∀ d ∈ ds, Cq n d) → D.eqKs ds = true ∧ PyData.canLayAll0 (D.pys ds) = true ∧ PyData.depthAll (D.pys ds) ≤ n
  | [], _ => by simp [D.eqKs, D.pys, PyData.canLayAll0, PyData.depthAll]
  | d :: ds, h => by
    obtain ⟨a, b, c⟩ := cqs_of fun x hx => h x (List.mem_cons_of_mem d hx)
    have e := h d List.mem_cons_self
    have := e.d
    exact ⟨by simp only [D.eqKs, e.k, a, Bool.and_self], by simp only [D.pys, PyData.canLayAll0, e.l, b, Bool.and_self], by simp only [D.pys, PyData.depthAll]; omega⟩
theorem Cq.lst {n : Nat} {ds : List D} (h : ∀ d ∈ ds, Cq n d) : Cq (n + 1) (.lst ds) := by
  obtain ⟨a, b, c⟩ := cqs_of h
  exact ⟨by simp only [D.eqK, a], by simp only [D.py, PyData.canLay0, b], by simp only [D.py, PyData.depth]; omega⟩
theorem Cq.tup {n : Nat} {ds : List D} (h : ∀ d ∈ ds, Cq n d) : Cq (n + 1) (.tup ds) := by
  obtain ⟨a, b, c⟩ := cqs_of h
  exact ⟨by simp only [D.eqK, a], by simp only [D.py, PyData.canLay0, b], by simp only [D.py, PyData.depth]; omega⟩
theorem Cq.int (n : Nat) (i : Int) : Cq n (.int i) := ⟨by simp only [D.eqK], by simp only [D.py, PyData.canLay0], by simp only [D.py, PyData.depth]; omega⟩
theorem Cq.non (n : Nat) : Cq n .non := ⟨by simp only [D.eqK], by simp only [D.py, PyData.canLay0], by simp only [D.py, PyData.depth]; omega⟩
theorem Cq.str (n : Nat) {s : Str} (h : PyData.strOk s = true) : Cq n (.str s) := ⟨by simp only [D.eqK], by simp only [D.py, PyData.canLay0, h], by simp only [D.py, PyData.depth]; omega⟩
theorem eqv_bool {x y : D} {n m : Nat} (hx : Cq n x) (hy : Cq m y) : (PyData.eqv x.py y.py = true ↔ x = y) := eqv_iff x hx.k y hy.k
theorem eqB_q {x y : D} {n m : Nat} {k : Bool → Prop} (hx : Cq n x) (hy : Cq m y) (hm : min n m ≤ 150) (h : ∀ v : Bool, (v = true ↔ x = y) → k v) : eqB x y k := by
  have g : eqOk x y ∧ k (PyData.eqv x.py y.py) := ⟨⟨hx.l, hy.l, by have := hx.d; have := hy.d; omega⟩, h _ (eqv_bool hx hy)⟩
  cases x <;> cases y <;> first | exact g | (refine h _ ?_; simp)
end DL
set_option Elab.async false
set_option linter.all false
set_option maxRecDepth 100000
set_option maxHeartbeats 4000000
/-! ### set(tuple of texts) -/
namespace DMS
open PySem PySem.Spec PyProof.Rows L2 PySem.Froz
end DMS
set_option Elab.async false
set_option linter.all false
set_option maxRecDepth 100000
set_option maxHeartbeats 4000000
/-! ### sorted(set(x)), x a list or a tuple of texts -/
namespace L2
open PySem PySem.Spec PyProof.Rows DMS PySem.Froz
end L2
namespace DL
open PySem PySem.Spec PyProof.Rows L2 DMS
end DL
set_option Elab.async false
set_option linter.all false
set_option maxRecDepth 100000
set_option maxHeartbeats 4000000
/-! ### a value tells its data; comparisons that decide -/
namespace DL
open PySem PySem.Spec PyProof.Rows L2 PySem.W
mutual
noncomputable def D.pl : D → Bool
  | .non => true
  | .bl _ => true
  | .int _ => true
  | .str _ => true
  | .lst ds => D.pls ds
  | .tup ds => D.pls ds
  | .dic _ es => D.plE es
  | .ins _ fs => D.plF fs
  | .bag => false
  | .glb _ => false
  | .lock _ _ => false
  | .at _ _ => false
noncomputable def D.pls : List D → Bool
  | [] => true
  | d :: ds => d.pl && D.pls ds
noncomputable def D.plE : List (D × D) → Bool
  | [] => true
  | (k, d) :: es => d.pl && D.plE es
noncomputable def D.plF : List (Str × D) → Bool
  | [] => true
  | (k, d) :: es => d.pl && D.plF es
end
theorem rdOne {H : Hp} {a : Addr} {u u' : HO} (n : ∀ o w, u ≠ .frz o w) (n' : ∀ o w, u' ≠ .frz o w) (h : Rd H a u) (h' : Rd H a u') : u = u' := by
  rcases h with h | ⟨o, h⟩ <;> rcases h' with h' | ⟨o', h'⟩
  · rw [h] at h'; injection h'
  · rw [h] at h'; injection h' with e; exact absurd e (n _ _)
  · rw [h] at h'; injection h' with e; exact absurd e.symm (n' _ _)
  · rw [h] at h'; injection h' with e; injection e
section
variable {K : PySem.W.Frag} {G : Gh} {H : Hp}
mutual
theorem Dt.inj : ∀ (x : D), x.pl = true → ∀ (y : D), y.pl = true → ∀ v : V, Dt K G H x v → Dt K G H y v → x = y
  | .non, _, y, py, v, hx, hy => by
    obtain rfl : v = .non := hx
    cases y with
    | non => rfl
    | bl _ => exact nomatch (show V.non = .bl _ from hy)
    | int _ => exact nomatch (show V.non = .int _ from hy)
    | str _ => exact nomatch (show V.non = .str _ from hy)
    | lst _ => obtain ⟨_, _, e, _⟩ := hy; cases e
    | tup _ => obtain ⟨_, _, e, _⟩ := hy; cases e
    | dic _ _ => obtain ⟨_, e, _⟩ := hy; cases e
    | ins _ _ => obtain ⟨_, _, _, e, _⟩ := hy; cases e
    | _ => simp [D.pl] at py
  | .bl b, _, y, py, v, hx, hy => by
    obtain rfl : v = .bl b := hx
    cases y with
    | bl c => rw [show b = c from by injection (show V.bl b = .bl c from hy)]
    | non => exact nomatch (show V.bl b = .non from hy)
    | int _ => exact nomatch (show V.bl b = .int _ from hy)
    | str _ => exact nomatch (show V.bl b = .str _ from hy)
    | lst _ => obtain ⟨_, _, e, _⟩ := hy; cases e
    | tup _ => obtain ⟨_, _, e, _⟩ := hy; cases e
    | dic _ _ => obtain ⟨_, e, _⟩ := hy; cases e
    | ins _ _ => obtain ⟨_, _, _, e, _⟩ := hy; cases e
    | _ => simp [D.pl] at py
  | .int b, _, y, py, v, hx, hy => by
    obtain rfl : v = .int b := hx
    cases y with
    | int c => rw [show b = c from by injection (show V.int b = .int c from hy)]
    | non => exact nomatch (show V.int b = .non from hy)
    | bl _ => exact nomatch (show V.int b = .bl _ from hy)
    | str _ => exact nomatch (show V.int b = .str _ from hy)
    | lst _ => obtain ⟨_, _, e, _⟩ := hy; cases e
    | tup _ => obtain ⟨_, _, e, _⟩ := hy; cases e
    | dic _ _ => obtain ⟨_, e, _⟩ := hy; cases e
    | ins _ _ => obtain ⟨_, _, _, e, _⟩ := hy; cases e
    | _ => simp [D.pl] at py
  | .str b, _, y, py, v, hx, hy => by
    obtain rfl : v = .str b := hx
    cases y with
    | str c => rw [show b = c from by injection (show V.str b = .str c from hy)]
    | non => exact nomatch (show V.str b = .non from hy)
    | bl _ => exact nomatch (show V.str b = .bl _ from hy)
    | int _ => exact nomatch (show V.str b = .int _ from hy)
    | lst _ => obtain ⟨_, _, e, _⟩ := hy; cases e
    | tup _ => obtain ⟨_, _, e, _⟩ := hy; cases e
    | dic _ _ => obtain ⟨_, e, _⟩ := hy; cases e
    | ins _ _ => obtain ⟨_, _, _, e, _⟩ := hy; cases e
    | _ => simp [D.pl] at py
  | .lst ds, px, y, py, v, hx, hy => by
    obtain ⟨a, xs, rfl, _, ha, hd⟩ := hx
    simp only [D.pl] at px
    cases y with
    | lst es =>
      simp only [D.pl] at py
      obtain ⟨a', ys, e, _, ha', hd'⟩ := hy
      cases e
      rw [ha] at ha'; cases ha'
      rw [DtL.inj ds px es py xs hd hd']
    | non => exact nomatch (show V.ref a = .non from hy)
    | bl _ => exact nomatch (show V.ref a = .bl _ from hy)
    | int _ => exact nomatch (show V.ref a = .int _ from hy)
    | str _ => exact nomatch (show V.ref a = .str _ from hy)
    | tup _ => obtain ⟨_, _, e, h', _⟩ := hy; cases e; rw [ha] at h'; cases h'
    | dic _ _ =>
      obtain ⟨_, e, _, ⟨_, r, _⟩ | ⟨_, r, _⟩⟩ := hy
      · cases e; rcases r with r | ⟨_, r⟩ <;> · rw [ha] at r; cases r
      · cases e; rcases r with r | ⟨_, r⟩ <;> · rw [ha] at r; cases r
    | ins _ _ => obtain ⟨_, _, _, e, _, h', _⟩ := hy; cases e; rw [ha] at h'; cases h'
    | _ => simp [D.pl] at py
  | .tup ds, px, y, py, v, hx, hy => by
    obtain ⟨a, xs, rfl, ha, hd⟩ := hx
    simp only [D.pl] at px
    cases y with
    | tup es =>
      simp only [D.pl] at py
      obtain ⟨a', ys, e, ha', hd'⟩ := hy
      cases e
      rw [ha] at ha'; cases ha'
      rw [DtL.inj ds px es py xs hd hd']
    | non => exact nomatch (show V.ref a = .non from hy)
    | bl _ => exact nomatch (show V.ref a = .bl _ from hy)
    | int _ => exact nomatch (show V.ref a = .int _ from hy)
    | str _ => exact nomatch (show V.ref a = .str _ from hy)
    | lst _ => obtain ⟨_, _, e, _, h', _⟩ := hy; cases e; rw [ha] at h'; cases h'
    | dic _ _ =>
      obtain ⟨_, e, _, ⟨_, r, _⟩ | ⟨_, r, _⟩⟩ := hy
      · cases e; rcases r with r | ⟨_, r⟩ <;> · rw [ha] at r; cases r
      · cases e; rcases r with r | ⟨_, r⟩ <;> · rw [ha] at r; cases r
    | ins _ _ => obtain ⟨_, _, _, e, _, h', _⟩ := hy; cases e; rw [ha] at h'; cases h'
    | _ => simp [D.pl] at py
  | .dic t es, px, y, py, v, hx, hy => by
    obtain ⟨a, rfl, _, hx⟩ := hx
    simp only [D.pl] at px
    cases y with
    | dic t' es' =>
      simp only [D.pl] at py
      obtain ⟨a', e, _, hy⟩ := hy
      cases e
      rcases hx with ⟨kvs, r, p⟩ | ⟨kvs, r, p⟩ <;> rcases hy with ⟨kvs', r', p'⟩ | ⟨kvs', r', p'⟩
      · have e := rdOne (by intro _ _ z; cases z) (by intro _ _ z; cases z) r r'
        injection e with e
        subst e
        obtain ⟨q1, q2⟩ := DtP.inj t es px t' es' py kvs p p'
        rw [q1, q2]
      · exact nomatch rdOne (by intro _ _ z; cases z) (by intro _ _ z; cases z) r r'
      · exact nomatch rdOne (by intro _ _ z; cases z) (by intro _ _ z; cases z) r r'
      · have e := rdOne (by intro _ _ z; cases z) (by intro _ _ z; cases z) r r'
        injection e with e
        subst e
        obtain ⟨q1, q2⟩ := DtQ.inj t es px t' es' py kvs p p'
        rw [q1, q2]
    | non => exact nomatch (show V.ref a = .non from hy)
    | bl _ => exact nomatch (show V.ref a = .bl _ from hy)
    | int _ => exact nomatch (show V.ref a = .int _ from hy)
    | str _ => exact nomatch (show V.ref a = .str _ from hy)
    | lst _ =>
      obtain ⟨_, _, e, _, h', _⟩ := hy
      cases e
      rcases hx with ⟨_, r, _⟩ | ⟨_, r, _⟩ <;> rcases r with r | ⟨_, r⟩ <;> · rw [h'] at r; cases r
    | tup _ =>
      obtain ⟨_, _, e, h', _⟩ := hy
      cases e
      rcases hx with ⟨_, r, _⟩ | ⟨_, r, _⟩ <;> rcases r with r | ⟨_, r⟩ <;> · rw [h'] at r; cases r
    | ins _ _ =>
      obtain ⟨_, _, _, e, _, h', _⟩ := hy
      cases e
      rcases hx with ⟨_, r, _⟩ | ⟨_, r, _⟩ <;> rcases r with r | ⟨_, r⟩ <;> · rw [h'] at r; cases r
    | _ => simp [D.pl] at py
  | .ins C fs, px, y, py, v, hx, hy => by
    obtain ⟨a, dx, vs, rfl, _, ha, hd⟩ := hx
    simp only [D.pl] at px
    cases y with
    | ins C' fs' =>
      simp only [D.pl] at py
      obtain ⟨a', dx', vs', e, _, ha', hd'⟩ := hy
      cases e
      rw [ha] at ha'; cases ha'
      rw [DtF.inj fs px fs' py vs hd hd']
    | non => exact nomatch (show V.ref a = .non from hy)
    | bl _ => exact nomatch (show V.ref a = .bl _ from hy)
    | int _ => exact nomatch (show V.ref a = .int _ from hy)
    | str _ => exact nomatch (show V.ref a = .str _ from hy)
    | lst _ => obtain ⟨_, _, e, _, h', _⟩ := hy; cases e; rw [ha] at h'; cases h'
    | tup _ => obtain ⟨_, _, e, h', _⟩ := hy; cases e; rw [ha] at h'; cases h'
    | dic _ _ =>
      obtain ⟨_, e, _, ⟨_, r, _⟩ | ⟨_, r, _⟩⟩ := hy
      · cases e; rcases r with r | ⟨_, r⟩ <;> · rw [ha] at r; cases r
      · cases e; rcases r with r | ⟨_, r⟩ <;> · rw [ha] at r; cases r
    | _ => simp [D.pl] at py
  | .bag, h, y, _, v, _, _ => by simp [D.pl] at h
  | .glb _, h, y, _, v, _, _ => by simp [D.pl] at h
  | .lock _ _, h, y, _, v, _, _ => by simp [D.pl] at h
  | .at _ _, h, y, _, v, _, _ => by simp [D.pl] at h
theorem DtL.inj : ∀ (xs : List D), D.pls xs = true → ∀ (ys : List D), D.pls ys = true → ∀ vs : List V, DtL K G H xs vs → DtL K G H ys vs → xs = ys
  | [], _, ys, _, vs, hx, hy => by
    obtain rfl : vs = [] := hx
    cases ys with
    | nil => rfl
    | cons y ys => obtain ⟨_, _, e, _⟩ := hy; cases e
  | x :: xs, px, ys, py, vs, hx, hy => by
    obtain ⟨v, r, rfl, h1, h2⟩ := hx
    cases ys with
    | nil => exact nomatch (show v :: r = [] from hy)
    | cons y ys =>
      obtain ⟨v', r', e, h1', h2'⟩ := hy
      cases e
      simp only [D.pls, Bool.and_eq_true] at px py
      rw [Dt.inj x px.1 y py.1 v h1 h1', DtL.inj xs px.2 ys py.2 r h2 h2']
theorem DtP.inj : ∀ (t : Bool) (es : List (D × D)), D.plE es = true → ∀ (t' : Bool) (es' : List (D × D)), D.plE es' = true → ∀ kvs : List (Key × V), DtP K G H t es kvs → DtP K G H t' es' kvs → t = t' ∧ es = es'
  | t, [], _, t', es', _, kvs, hx, hy => by
    obtain ⟨rfl, rfl⟩ := hx
    cases es' with
    | nil => exact ⟨hy.2.symm, rfl⟩
    | cons p q => obtain ⟨k, d⟩ := p; obtain ⟨_, _, _, e, _⟩ := hy; cases e
  | t, (k, d) :: es, px, t', es', py, kvs, hx, hy => by
    obtain ⟨j, v, r, rfl, rfl, h1, h2⟩ := hx
    cases es' with
    | nil => exact nomatch hy.1
    | cons p q =>
      obtain ⟨k', d'⟩ := p
      obtain ⟨j', v', r', e, rfl, h1', h2'⟩ := hy
      cases e
      simp only [D.plE, Bool.and_eq_true] at px py
      obtain ⟨a, b⟩ := DtP.inj t es px.2 t' q py.2 r h2 h2'
      rw [Dt.inj d px.1 d' py.1 v h1 h1', a, b]
      exact ⟨rfl, rfl⟩
theorem DtQ.inj : ∀ (t : Bool) (es : List (D × D)), D.plE es = true → ∀ (t' : Bool) (es' : List (D × D)), D.plE es' = true → ∀ kvs : List (List Key × V), DtQ K G H t es kvs → DtQ K G H t' es' kvs → t = t' ∧ es = es'
  | t, [], _, t', es', _, kvs, hx, hy => by
    obtain ⟨rfl, rfl⟩ := hx
    cases es' with
    | nil => exact ⟨hy.2.symm, rfl⟩
    | cons p q => obtain ⟨k, d⟩ := p; obtain ⟨_, _, _, e, _⟩ := hy; cases e
  | t, (k, d) :: es, px, t', es', py, kvs, hx, hy => by
    obtain ⟨j, v, r, rfl, rfl, h1, h2⟩ := hx
    cases es' with
    | nil => exact nomatch hy.1
    | cons p q =>
      obtain ⟨k', d'⟩ := p
      obtain ⟨j', v', r', e, rfl, h1', h2'⟩ := hy
      cases e
      simp only [D.plE, Bool.and_eq_true] at px py
      obtain ⟨a, b⟩ := DtQ.inj t es px.2 t' q py.2 r h2 h2'
      rw [Dt.inj d px.1 d' py.1 v h1 h1', a, b]
      exact ⟨rfl, rfl⟩
theorem DtF.inj : ∀ (fs : List (Str × D)), D.plF fs = true → ∀ (gs : List (Str × D)), D.plF gs = true → ∀ kvs : List (Str × V), DtF K G H fs kvs → DtF K G H gs kvs → fs = gs
  | [], _, gs, _, kvs, hx, hy => by
    obtain rfl : kvs = [] := hx
    cases gs with
    | nil => rfl
    | cons p q => obtain ⟨k, d⟩ := p; obtain ⟨_, _, e, _⟩ := hy; cases e
  | (k, d) :: fs, px, gs, py, kvs, hx, hy => by
    obtain ⟨v, r, rfl, h1, h2⟩ := hx
    cases gs with
    | nil => exact nomatch (show (k, v) :: r = [] from hy)
    | cons p q =>
      obtain ⟨k', d'⟩ := p
      obtain ⟨v', r', e, h1', h2'⟩ := hy
      cases e
      simp only [D.plF, Bool.and_eq_true] at px py
      rw [Dt.inj d px.1 d' py.1 v h1 h1', DtF.inj fs px.2 q py.2 r h2 h2']
end
end
theorem Alike.eq {x y : D} (px : x.pl = true) (py : y.pl = true) (h : Alike x y) : x = y := by
  obtain ⟨K, G, H, v, h1, h2⟩ := h
  exact Dt.inj x px y py v h1 h2
/-- a comparison that tells whether both are the same -/
noncomputable def Dec (E : CmpE) (x y : D) : Prop := ∀ k : Bool → Prop, (∀ v : Bool, (v = true ↔ x = y) → k v) → E x y k
theorem Dec.same {E : CmpE} {x y : D} (px : x.pl = true) (py : y.pl = true) (h : Dec E x y) : Dec (sameE E) x y := fun k hk => ⟨fun a => hk true (by simp only [true_iff]; exact a.eq px py), h k hk⟩
theorem Dec.data {x y : D} {n m : Nat} (hx : Cq n x) (hy : Cq m y) (hm : min n m ≤ 150) : Dec eqB x y := fun k hk => eqB_q hx hy hm hk
theorem dec_all {E : CmpE} : ∀ {xs ys : List D}, xs.length = ys.length → (∀ x ∈ xs, ∀ y ∈ ys, Dec E x y) → ∀ k : Bool → Prop, (∀ v : Bool, (v = true ↔ xs = ys) → k v) → allE E xs ys k
  | [], [], _, _, k, hk => hk true (by simp)
  | [], _ :: _, hl, _, _, _ => by simp at hl
  | _ :: _, [], hl, _, _, _ => by simp at hl
  | x :: xs, y :: ys, hl, h, k, hk => by
    show E x y fun c => match c with
      | true => allE E xs ys k
      | false => k false
    refine h x List.mem_cons_self y List.mem_cons_self _ fun v hv => ?_
    cases v with
    | true =>
      have e := hv.mp rfl
      refine dec_all (by simpa using hl) (fun a ha b hb => h a (List.mem_cons_of_mem _ ha) b (List.mem_cons_of_mem _ hb)) k fun v hv => hk v ?_
      rw [hv, e]; simp
    | false => exact hk false ⟨fun z => (by cases z), fun z => by injection z with z1 z2; exact hv.mpr z1⟩
theorem Dec.lst {E : CmpE} {xs ys : List D} (h : ∀ x ∈ xs, ∀ y ∈ ys, Dec E x y) : Dec (lstE E) (.lst xs) (.lst ys) := fun k hk =>
  ⟨xs, ys, rfl, rfl, fun n => hk false ⟨fun z => (by cases z), fun z => by injection z with z; exact absurd (by rw [z]) n⟩, fun e => dec_all e h k fun v hv => hk v (hv.trans ⟨fun z => by rw [z], fun z => by injection z⟩)⟩
end DL
set_option Elab.async false
set_option linter.all false
set_option maxRecDepth 100000
set_option maxHeartbeats 4000000
/-! ### tuples that hold owned things; [e for t in it], e new; for x in a list of tuples whose things are changed -/
namespace DL
open PySem PySem.Spec PyProof.Rows L2
section
variable {F : Fr} {G : Gh} {H : Hp} {σ : L2.St} {ρ : List Sl} {L : List Addr}
/-- what a slot holds is taken out -/
theorem RelL.take (r : RelL F G H σ ρ L) {i : Nat} {s : Sl} (hi : ρ[i]? = some s) : ∃ o B L', σ[i]? = some o ∧ SlR F G H s o B ∧ RelL F G H σ (ρ.set i .un) L' ∧ B.Nodup ∧ (∀ p ∈ B, p ∉ L') ∧ (∀ p ∈ L', p ∈ L) ∧ ∀ p ∈ B, p ∈ L := by
  obtain ⟨o, A, B, C, e1, rfl, hs, k⟩ := r.2.1.upd hi
  obtain ⟨n1, nB, nd⟩ := nodup_mid r.2.2
  have sl := k F G H .un o [] (fun _ _ _ _ z => z) rfl
  have eσ : σ.set i o = σ := by
    apply List.ext_getElem?
    intro j
    by_cases e : i = j
    · subst e; rw [List.getElem?_set_self', e1]; rfl
    · rw [List.getElem?_set_ne e]
  rw [eσ] at sl
  refine ⟨o, B, A ++ ([] ++ C), e1, hs, ⟨⟨r.1.bg, r.1.bi, r.1.tb, r.1.ob, r.1.oi, r.1.sub, r.1.new, r.1.tr, r.1.ext, r.1.pn, _, sl, n1⟩, sl, n1⟩, nB, fun p hp z => ?_, fun p hp => ?_, fun p hp => List.mem_append_right _ (List.mem_append_left _ hp)⟩
  · rcases List.mem_append.mp z with z | z
    · exact (nd p hp).1 z
    · exact (nd p hp).2 z
  · rcases List.mem_append.mp hp with z | z
    · exact List.mem_append_left _ z
    · exact List.mem_append_right _ (List.mem_append_right _ z)
end
/-! reading what is owned (by a slot of either kind), for a flat result -/
/-! [e for t in it], e new -/
/-! return (a, x, c), x a name that owns what it has -/
/-! for x in y: body, y a name that was handed in and owns tuples, whose things are changed -/
end DL
set_option Elab.async false
set_option linter.all false
set_option maxRecDepth 100000
set_option maxHeartbeats 4000000
/-! ### x[n][(..)] = v, x a name that owns a tuple with a dict of its own; x is not None -/
namespace DL
open PySem PySem.Spec PyProof.Rows L2
end DL
set_option Elab.async false
set_option linter.all false
set_option maxRecDepth 100000
set_option maxHeartbeats 4000000
/-! ### {x: v}, x a name that holds a tuple -/
namespace DL
open PySem PySem.Spec PyProof.Rows L2
/-! min(list of whole numbers) -/
end DL
set_option Elab.async false
set_option linter.all false
set_option maxRecDepth 100000
set_option maxHeartbeats 4000000
/-! ### tuples of new things, new things by a test; defs that raise or return what is new; what is told by its address -/
namespace DL
open PySem PySem.Spec PyProof.Rows L2
/-! a def that raises, or returns what is new -/
noncomputable abbrev RXT := List D → (Tr → Prop) → (XD → Prop) → Prop
noncomputable def spVT (K : PySem.W.Frag) (R : RXT) : Sp := fun vs H Q E => ∃ G ds k e, GOk G H ∧ DtL K G H ds vs ∧ R ds k e ∧ (∀ t v L H', k t → Ext G H H' → (∀ p ∈ L, H p = none) → L.Nodup → Ow K (G.adds L) H' t v L → Q v H') ∧ ∀ x cls a H', e x → Ext G H H' → XRel K G H' x cls a → E cls a H'
structure CalVT (P : Program) (w : World) (K : PySem.W.Frag) (mg : Str → Option Value) (base : Heap) (n : Nat) (x : Str) (R : RXT) : Prop where
  ex : ∃ (f : Addr) (fd : FuncData) (ps : List Str) (k : Nat), k ≤ n ∧ FnG P w K mg base (L2.CX P w) k f fd ps (spVT K R) ∧ mg x = some (.ref f) ∧ PySem.W.keepIn K (.ref f) = true ∧ Binds K fd ps []
theorem CalVT.mono {P : Program} {w : World} {K : PySem.W.Frag} {mg : Str → Option Value} {base : Heap} {n n' : Nat} {x : Str} {R : RXT} (c : CalVT P w K mg base n x R) (h : n ≤ n') : CalVT P w K mg base n' x R :=
  let ⟨f, fd, ps, k, hk, r⟩ := c.ex
  ⟨f, fd, ps, k, by omega, r⟩
theorem CalVT.of {P : Program} {w : World} {K : PySem.W.Frag} {mg : Str → Option Value} {base : Heap} {n : Nat} {x : Str} {R : RXT} {f : Addr} {fd : FuncData} {ps : List Str} {q : Str} {st : Stmt} (fn : FnG P w K mg base (L2.CX P w) n f fd ps (spVT K R)) (hm : mg x = some (.ref f)) (F : Fun K x q st f fd) (hb : Binds K fd ps []) : CalVT P w K mg base n x R := ⟨f, fd, ps, n, Nat.le_refl _, fn, hm, F.kp, hb⟩
/-! ### what is told by its address -/
/-! x[n][m].append(e), x a list of tuples that hold owned lists -/
/-! y = [e for t in it], e new -/
end DL
set_option Elab.async false
set_option linter.all false
set_option maxRecDepth 100000
set_option maxHeartbeats 4000000
/-! ### sorted(a list of tuples whose first one is empty) -/
namespace DL
open PySem PySem.Spec PyProof.Rows L2 PySem.W PySem.SeqAt
section
variable {prog : Program} {w : World} {A : Around} {E : Value → Shared → Prop} {s : Shared}
noncomputable def TupsE (ds : List PyData) : Prop := ∃ ds', ds = .tuple [] :: ds' ∧ ∀ d ∈ ds', ∃ xs, d = .tuple xs
theorem TupsE.all {ds : List PyData} (h : TupsE ds) : ∀ d ∈ ds, ∃ xs, d = .tuple xs := fun d hd => by
  obtain ⟨ds', rfl, h⟩ := h
  rcases List.mem_cons.mp hd with rfl | hd
  · exact ⟨[], rfl⟩
  · exact h d hd
end
end DL
set_option Elab.async false
set_option linter.all false
set_option maxRecDepth 100000
set_option maxHeartbeats 4000000
/-! lambdas: tables of code objects are written -/
namespace DL
open PySem PySem.Spec PyProof.Rows L2 PySem.W
section
variable {X : Cx} {pins : List (Addr × Obj)} {σ : L2.St} {H : Hp} {s : Shared}
/-- a table grows by a code object that is new and known from now on -/
theorem inv_tab {P c : Addr} {ps more : Array Value} {h' : Heap} {t' : Nat} {oc : Obj} (I : Inv X pins σ H s) (hP : H P = some (.tbl ps)) (k : ∀ b o, b ≠ P → s.heap.get? b = some o → h'.get? b = some o)
    (hm : h'.get? P = some { cls := .none, data := .fields (ps ++ more) }) (hc : s.heap.objs.size ≤ c) (ho : h'.get? c = some oc) :
    Inv X pins σ (upd (upd H P (.tbl (ps ++ more))) c (.frz oc hoC)) { s with heap := h', toks := t' } := by
  have nC : H c = none := I.hok.fresh hc
  have nPc : P ≠ c := ne_of_none hP nC
  have stays : ∀ b u, H b = some u → (∀ q, u ≠ .tbl q) → upd (upd H P (.tbl (ps ++ more))) c (.frz oc hoC) b = some u := fun b u e n => by
    rw [upd_ne (ne_of_none e nC), upd_ne fun z => n ps (by rw [z, hP] at e; exact (Option.some.inj e).symm)]
    exact e
  have none' : ∀ b o, s.heap.get? b = some o → H b = none → upd (upd H P (.tbl (ps ++ more))) c (.frz oc hoC) b = none := fun b o e n => by
    rw [upd_ne fun z => by rw [z] at e; exact Nat.lt_irrefl _ (Nat.lt_of_lt_of_le (Heap.lt_size e) hc), upd_ne fun z => by rw [z, hP] at n; cases n]
    exact n
  have kn : ∀ b o, H b = none → s.heap.get? b = some o → h'.get? b = some o := fun b o n e => k b o (fun z => by rw [z, hP] at n; cases n) e
  refine I.step (g' := s.gens) (d' := s.drawn) (ch := []) (fun b hb => absurd hb (by simp)) (fun b o _ _ _ e n => kn b o n e) (fun b o _ _ _ e n => ⟨o.slots, kn b o n e⟩)
    (fun b o _ e n => none' b o e n) (fun b o _ e => ?_) (fun b xs e => stays b _ e fun q z => nomatch z) (fun b o u e => stays b _ e fun q z => nomatch z) (fun b qs e => ?_) (fun m hn => ?_) (fun b u e => ?_) I.bare
  · by_cases hb : b = P
    · rw [hb]; exact ⟨_, hm⟩
    · exact ⟨o, k b o hb e⟩
  · by_cases hb : b = P
    · rw [hb, hP] at e
      cases e
      rw [hb, upd_ne nPc, upd_same]
      exact ⟨more, rfl⟩
    · rw [upd_ne (ne_of_none e nC), upd_ne hb, e]
      exact ⟨#[], by simp⟩
  · obtain ⟨ob, es, ep, ho, r⟩ := hn
    exact ⟨ob, es, ep, kn _ ob I.free ho, r⟩
  · by_cases hb : b = c
    · rw [hb, upd_same] at e
      cases e
      rw [hb]
      exact ⟨ho, True.intro, ⟨oc, ho⟩, fun _ _ _ _ => True.intro⟩
    · by_cases hb2 : b = P
      · rw [hb2, upd_ne nPc, upd_same] at e
        cases e
        rw [hb2]
        exact hm
      · rw [upd_ne hb, upd_ne hb2] at e
        refine (I.hok b u e).stay (fun d v hd q => k d v ?_ q) (fun d q => stays d _ q fun q z => nomatch z) fun d xs q => stays d _ q fun q z => nomatch z
        rcases hd with z | z
        · rw [z]; exact hb2
        · intro w
          rw [w, hP] at z
          cases z
/-- a lambda is made: its code object is new, or found in the table -/
theorem lam_mk {G : Gh} {c P : Addr} {params : Arguments} {body : Expr} {scope : Scope} {pos : Pos} {E : Value → Shared → Prop} {Q : Value → Shared → Prop} (I : Inv X pins σ H s) (g : GOk G H) (TB : LamX.TabB X.base X.mg c P) (hcode : X.env.code = .ref c)
    (hm : (P, X.env.qual ++ "<lambda>") ∈ G.tbs) (hu : ∀ p ∈ G.tbs, p.1 = P → p.2 = X.env.qual ++ "<lambda>") (hdef : defaultsOf params X.env = ([], [])) (hfree : ∀ y ∈ scope.names, y.2 = .free → ∃ c, X.env.cells.lookup y.1 = some c)
    (h : ∀ (f c' : Addr) (oc : Obj) (pm ctv : Value) (H1 : Hp) (s' : Shared), Inv X pins σ H1 s' → Ext G H H1 →
      s'.heap.get? f = some (PySem.W.kla_obj "<lambda>" (X.env.qual ++ "<lambda>") params body scope (cloFrom X.env.cells scope.names []) pm c' ctv) → H1 f = none → f ∉ frs X.stack → H1 c' = some (.frz oc hoC) →
      (∃ (vs : Array Value) (t : Tok), oc.data = .fields vs ∧ vs[1]? = some (.str (X.env.qual ++ "<lambda>") t)) → Q (.ref f) s') :
    wpAny (model X.prog X.w) X.A (eval (.Lambda params body scope pos) X.env) Q E s := by
  obtain ⟨ps, hP, ht, ha⟩ := g.tb _ hm
  refine PySem.W.kla_eval hdef ?_
  have bP : s.heap.BuiltinsAt X.mg P := TB.bm.keeps I.bk
  have hP' : s.heap.get? P = some { cls := .none, data := .fields ps } := I.hok P _ hP
  have nP : ¬ G.own P := fun z => by
    have m := g.tr P z
    rw [hP] at m
    exact m
  have nofr : ∀ f, s.heap.objs.size ≤ f → f ∉ frs X.stack := fun f hf z => by
    rcases List.mem_cons.mp (I.stkSub _ z) with e | e
    · have h1 := I.lt
      rw [← e] at h1
      exact Nat.lt_irrefl _ (Nat.lt_of_lt_of_le h1 hf)
    · exact I.nofs hf e
  cases hc : codeAmong pos ps.toList with
  | none =>
    refine PySem.W.kla_makeFunction (mg := X.mg) (c := c) (P := P) (ps := ps) (closure_ok hfree) I.ok.glob (I.mod.glob.keeps I.bk) hcode (TB.code.keeps I.bk) hP' ht hc TB.gP bP fun c' ctv h' tk hx hge hlt hrec htb => ?_
    obtain ⟨c2, oc, vs, t, e2, hoc, hd, hv⟩ := hrec
    cases e2
    have hsz : s.heap.objs.size ≤ h'.objs.size := Nat.le_trans hge (Nat.le_of_lt hlt)
    have nC : H c' = none := I.hok.fresh hge
    have nPc : P ≠ c' := ne_of_none hP nC
    have I1 := inv_tab (t' := tk) (more := #[rawInt pos.line, rawInt pos.col, .ref c']) (h' := h'.push (PySem.W.kla_obj "<lambda>" (X.env.qual ++ "<lambda>") params body scope (cloFrom X.env.cells scope.names []) ((X.mg "__name__").getD .none) c' ctv)) I hP
      (fun b o hb e => Heap.get?_push_of_some _ (hx b o hb e)) (Heap.get?_push_of_some _ htb) hge (Heap.get?_push_of_some _ hoc)
    have stays : ∀ b u, H b = some u → b ≠ P → upd (upd H P (.tbl (ps ++ #[rawInt pos.line, rawInt pos.col, .ref c']))) c' (.frz oc hoC) b = some u := fun b u e n => by
      rw [upd_ne (ne_of_none e nC), upd_ne n]; exact e
    have atP : upd (upd H P (.tbl (ps ++ #[rawInt pos.line, rawInt pos.col, .ref c']))) c' (.frz oc hoC) P = some (.tbl (ps ++ #[rawInt pos.line, rawInt pos.col, .ref c'])) := by rw [upd_ne nPc, upd_same]
    have eL : (ps ++ #[rawInt pos.line, rawInt pos.col, .ref c']).toList = ps.toList ++ [rawInt pos.line, rawInt pos.col, .ref c'] := by simp
    have tab : TabF (upd (upd H P (.tbl (ps ++ #[rawInt pos.line, rawInt pos.col, .ref c']))) c' (.frz oc hoC)) P (X.env.qual ++ "<lambda>") := by
      refine ⟨_, atP, by rw [eL]; exact PySem.TriplesOk_snoc _ _ _ _ ht, fun p' cv hcv => ?_⟩
      rw [eL] at hcv
      rcases LamX.among_app _ ht hcv with z | z
      · obtain ⟨c0, oc0, vs0, t0, e1, e2, e3⟩ := ha p' cv z
        exact ⟨c0, oc0, vs0, t0, e1, stays _ _ e2 (fun w => by rw [w, hP] at e2; cases e2), e3⟩
      · exact ⟨c', oc, vs, t, z, upd_same, hd, hv⟩
    have hE : Ext G H (upd (upd H P (.tbl (ps ++ #[rawInt pos.line, rawInt pos.col, .ref c']))) c' (.frz oc hoC)) := by
      refine ⟨fun b o _ e => ?_, ?_, g.bag⟩
      · by_cases hb : b = P
        · subst hb
          rw [hP] at e
          cases e
          exact .inr ⟨nP, True.intro, default, ⟨_, atP⟩, fun q m _ => by rw [show q = X.env.qual ++ "<lambda>" from hu _ m rfl]; exact tab⟩
        · exact .inl (stays b o e hb)
      · obtain ⟨x1, y, z, ns, h1, h2, r⟩ := g.bag
        exact ⟨x1, y, z, ns, stays _ _ h1 (fun w => by rw [w, hP] at h1; cases h1), stays _ _ h2 (fun w => by rw [w, hP] at h2; cases h2), r⟩
    refine h h'.objs.size c' oc ((X.mg "__name__").getD .none) ctv _ _ I1 hE (Heap.get?_push_size _ rfl) ?_ (nofr _ hsz) upd_same ⟨vs, t, hd, hv⟩
    · have n1 : h'.objs.size ≠ c' := Nat.ne_of_gt hlt
      have n2 : h'.objs.size ≠ P := Nat.ne_of_gt (Nat.lt_of_lt_of_le (Heap.lt_size hP') hsz)
      rw [upd_ne n1, upd_ne n2]
      exact I.hok.fresh hsz
  | some cv =>
    obtain ⟨c', oc, vs, t, e, hco, hd, hv⟩ := ha pos cv hc
    subst e
    refine PySem.W.kla_makeFunctionHit (mg := X.mg) (c := c) (P := P) (ps := ps) (closure_ok hfree) I.ok.glob (I.mod.glob.keeps I.bk) hcode (TB.code.keeps I.bk) hP' ht hc bP fun ctv h' tk hx hsz => ?_
    have I1 : Inv X pins σ H { s with heap := h'.push (PySem.W.kla_obj "<lambda>" (X.env.qual ++ "<lambda>") params body scope (cloFrom X.env.cells scope.names []) ((X.mg "__name__").getD .none) c' ctv), toks := tk } := I.kept fun b o e => Heap.get?_push_of_some _ (hx b o e)
    exact h h'.objs.size c' oc ((X.mg "__name__").getD .none) ctv H _ I1 (.refl g.bag) (Heap.get?_push_size _ rfl) (I.hok.fresh hsz) (nofr _ hsz) hco ⟨vs, t, hd, hv⟩
end
/-! ### the same of data -/
noncomputable abbrev BX := (D → Prop) → (XD → Prop) → Prop
noncomputable def actT (i : Nat) (f : Addr) (B : BX) (W : WXD) : TD := fun ρ k => ρ[i]? = some (.dat (.glb f)) ∧ B k fun x => W x ρ
end DL
set_option Elab.async false
set_option linter.all false
set_option maxRecDepth 100000
set_option maxHeartbeats 4000000
/-! a lambda handed to a def; defs that ask tables of code objects; a law's start with them -/
namespace DL
open PySem PySem.Spec PyProof.Rows L2 PySem.W
/-- a def that calls what it gets: RH, what it makes of that -/
structure ActP (P : Program) (w : World) (K : PySem.W.Frag) (mg : Str → Option Value) (base : Heap) (n : Nat) (x : Str) (RH : BX → (D → Prop) → Prop) : Prop where
  ex : ∃ (g : Addr) (name qual : Str) (pg : Arguments) (bg : List Stmt) (sg : Scope) (dV kV doc pm cdv ct oc : Value) (an od : Option Addr) (osl : Array (Option Value)) (N : List Str) (a : Str),
    K.lookup g = some ⟨oc, od, .func (PySem.W.fnOf name qual pg bg sg dV kV doc pm an cdv ct), osl⟩ ∧ PySem.W.codeIn K cdv qual = true ∧ Binds K (PySem.W.fnOf name qual pg bg sg dV kV doc pm an cdv ct) [a] [] ∧ FnScope N [a] sg ∧ N[0]? = some a ∧ Vis sg a ∧
    (a == ("__debug__" : Str)) = false ∧ (a == ("__classdict__" : Str)) = false ∧ mg x = some (.ref g) ∧ PySem.W.keepIn K (.ref g) = true ∧
    ∀ (A : Around) (outer : List Env) (s : Shared) (H : Hp) (G : Gh) (f : Addr) (B : BX) (κ : D → Prop), Room n (A.deeper (envOfC qual sg s.heap.objs.size g cdv)) → A.guards = some [] →
      (∀ (W : WXD) (pn : List (Addr × Obj)) (xe : Value → Shared → Prop) (p1 p2 : Pos), Takes ((cxOf CX0 P w K mg base N qual sg g cdv A outer s H E0).tr pn xe) (liftW ⟨K, G, H, []⟩ W) →
        PE ((cxOf CX0 P w K mg base N qual sg g cdv A outer s H E0).tr pn xe) (.Call (.Name a p1) [] [] p2) (lift ⟨K, G, H, []⟩ (actT 0 f B W))) → RH B κ →
      ∃ T : TSD, PSs (cxOf CX0 P w K mg base N qual sg g cdv A outer s H E0).nox bg (liftS ⟨K, G, H, []⟩ T) ∧ T (endD κ) (enterS N.length [.glb f])
section
variable {P : Program} {w : World} {K : PySem.W.Frag} {mg : Str → Option Value} {base : Heap}
theorem ActP.mono {n m : Nat} {x : Str} {RH : BX → (D → Prop) → Prop} (c : ActP P w K mg base n x RH) (h : n ≤ m) : ActP P w K mg base m x RH := by
  obtain ⟨g, name, qual, pg, bg, sg, dV, kV, doc, pm, cdv, ct, oc, an, od, osl, N, a, h1, h2, h3, h4, h5, h6, h7, h8, h9, h10, h11⟩ := c.ex
  exact ⟨g, name, qual, pg, bg, sg, dV, kV, doc, pm, cdv, ct, oc, an, od, osl, N, a, h1, h2, h3, h4, h5, h6, h7, h8, h9, h10, fun A outer s H G f B κ hr => h11 A outer s H G f B κ (hr.mono h)⟩
end
/-- what the making of a lambda asks of its def: its code object, the table, which is among T -/
structure LamP (mg : Str → Option Value) (base : Heap) (T : List (Addr × Str)) (cd : Value) (q : Str) : Prop where
  ex : ∃ c P, cd = .ref c ∧ LamX.TabB base mg c P ∧ (P, q) ∈ T ∧ ∀ p ∈ T, p.1 = P → p.2 = q
/-! ### defs that ask the tables T -/
noncomputable def spDT (K : PySem.W.Frag) (T : List (Addr × Str)) (R : RD) : Sp := fun vs H Q _ => ∃ G ds k, G.tbs = T ∧ GOk G H ∧ DtL K G H ds vs ∧ R ds k ∧ ∀ d v H', k d → Ext G H H' → Dt K G H' d v → Q v H'
structure CalDT (P : Program) (w : World) (K : PySem.W.Frag) (mg : Str → Option Value) (base : Heap) (T : List (Addr × Str)) (n : Nat) (x : Str) (R : RD) : Prop where
  ex : ∃ (f : Addr) (fd : FuncData) (ps : List Str) (k : Nat), k ≤ n ∧ FnG P w K mg base CX0 k f fd ps (spDT K T R) ∧ mg x = some (.ref f) ∧ PySem.W.keepIn K (.ref f) = true ∧ Binds K fd ps []
theorem CalDT.mono {P : Program} {w : World} {K : PySem.W.Frag} {mg : Str → Option Value} {base : Heap} {T : List (Addr × Str)} {n m : Nat} {x : Str} {R : RD} (c : CalDT P w K mg base T n x R) (h : n ≤ m) : CalDT P w K mg base T m x R := by
  obtain ⟨f, fd, ps, k, hk, r⟩ := c.ex
  exact ⟨f, fd, ps, k, Nat.le_trans hk h, r⟩
theorem CalDT.of {P : Program} {w : World} {K : PySem.W.Frag} {mg : Str → Option Value} {base : Heap} {T : List (Addr × Str)} {n : Nat} {x : Str} {R : RD} {f : Addr} {fd : FuncData} {ps : List Str} {q : Str} {st : Stmt} (fn : FnG P w K mg base CX0 n f fd ps (spDT K T R)) (hm : mg x = some (.ref f)) (F : Fun K x q st f fd) (hb : Binds K fd ps []) : CalDT P w K mg base T n x R := ⟨f, fd, ps, n, Nat.le_refl _, fn, hm, F.kp, hb⟩
/-! ### the law's start -/
theorem Fun.okLawU (T0 : List (Addr × Str)) {P : Program} {w : World} {K : PySem.W.Frag} {mg : Str → Option Value} {base : Heap} {x y qual : Str} {st st1 : Stmt} {rest : List Stmt} {f : Addr} {fd : FuncData} {N : List Str} {k n : Nat} (Fn : Fun K x qual st f fd) (S : FnScope N [y] (defScope st)) (hn : N.length = n + 2) (hbody : defBody st = st1 :: rest)
    (hb : ∃ T : TSD, (∀ (cdv : Value) (A : Around) (outer : List Env) (s : Shared) (H : Hp) (E : XK), Room k (A.deeper (PyProof.Rows.envOfC qual (defScope st) s.heap.objs.size f cdv)) → A.guards = some [] → cdv = fd.code →
      PS (cxOf CX0 P w K mg base N qual (defScope st) f cdv A outer s H E).nox st1 (bagS K) ∧ ∀ (G : Gh) (H' : Hp) (pn : List (V × D)), G.tbs = T0 → PSs (cxOf CX0 P w K mg base N qual (defScope st) f cdv A outer s H E).nox rest (liftS ⟨K, G, H', pn⟩ T)) ∧
      T endLaw (.un :: .dat .bag :: List.replicate n .un)) : FnG P w K mg base CX0 (k + 1) f fd [y] (spLawT K T0) := by
  obtain ⟨oc, od, kV, doc, pm, an, cdv, ct, osl, rfl, lk, hcd⟩ := Fn.ex
  obtain ⟨T, hb, hT⟩ := hb
  refine fnG_of lk hcd S (fun vs H Q E h => ?_) fun A outer s H vs Q E hr hg h => ?_
  · obtain ⟨a, ns, rfl, _⟩ := h; rfl
  · obtain ⟨a, ns, rfl, hs, hl, hT0, hq⟩ := h
    obtain ⟨h1, h2⟩ := hb cdv A outer s H E hr hg rfl
    have h2' : PSs (cxOf CX0 P w K mg base N qual (defScope st) f cdv A outer s H E).nox rest (fun E σ H => ∃ F : Fr, F.K = K ∧ F.G.tbs = T0 ∧ liftS F T E σ H) := ⟨fun pins s σ H E I ⟨⟨_, G, H', pn⟩, e, eT, w⟩ => by
      cases e
      exact (h2 G H' pn eT).run pins s σ H E I w⟩
    refine ⟨_, hbody ▸ (pss_cons h1 h2').nox, ?_⟩
    have e0 : L2.start N [V.ref a] = some (.ref a) :: none :: List.replicate n none := by
      unfold L2.start
      rw [hn]
      rfl
    rw [e0]
    refine ⟨a, ns, rfl, hs, hl, fun c hc p L H' ms kp hp hL hp' hL' h0 h63 => ?_⟩
    have np : p ≠ L := fun e => by
      subst e
      rw [hp'] at hL'
      cases ms with
      | nil => cases hL'
      | cons a ms =>
        cases ms with
        | nil => cases hL'
        | cons b ms =>
          cases ms with
          | nil => cases hL'
          | cons c ms =>
            cases ms with
            | nil => cases hL'
            | cons d ms => cases hL'
    let G : Gh := ⟨p, L, fun b => b = p ∨ b = L, T0⟩
    have bag : BagOk H' p L := ⟨0, c, 0, ms, hp', hL', by omega, hc, by omega, h0, h63⟩
    have tr : ∀ a, G.own a → Mut (H' a) := fun a z => by
      rcases z with rfl | rfl
      · rw [hp']; exact True.intro
      · rw [hL']; exact True.intro
    refine ⟨⟨K, G, H', []⟩, rfl, rfl, G, .un :: .dat .bag :: List.replicate n .un, endLaw, ⟨rfl, rfl, ⟨rfl, fun q hq => TabF.nil (kp _ _ (hT0 q hq))⟩, .inl rfl, .inr rfl, fun _ z => z, fun a z n => absurd z n, tr, .refl bag, (fun _ z => nomatch z), [], ?_, List.nodup_nil⟩, hT,
      ⟨fun _ _ _ _ z _ => z.elim, fun t v R H2 hd x hR nR hv => ?_, fun _ _ _ _ z _ => z.elim, fun _ _ _ _ z _ => z.elim, fun d ρ G' σ' H2 v hd r hv => by
        obtain rfl : d = .bl true := by injection hd
        obtain rfl : v = .bl true := hv
        exact hq H2⟩⟩
    · exact ⟨_, _, [], [], rfl, rfl, ⟨some (.ref p), _, [], [], rfl, ⟨rfl, .ref p, rfl, rfl⟩, slots_un n, rfl⟩, rfl⟩
    · have hd' : t = .d (.bl true) := hd
      subst hd'
      obtain rfl : v = .bl true := hv.2
      exact hq H2
/-- the heap behind the top: the script, where it is no object of the module, and the tables -/
noncomputable def scriptT (K : PySem.W.Frag) (a : Addr) (ob : Obj) (ns : List Int) (ts : List Addr) : Hp := fun b => if b = a ∧ K.lookup a = none then some (.frz ob (.lst (ns.map V.int))) else if b ∈ ts then some (.tbl #[]) else none
theorem scriptT_at {K : PySem.W.Frag} {a b : Addr} {ob : Obj} {ns : List Int} {ts : List Addr} {u : HO} (h : scriptT K a ob ns ts b = some u) : (b = a ∧ K.lookup a = none ∧ u = .frz ob (.lst (ns.map V.int))) ∨ (b ∈ ts ∧ u = .tbl #[]) := by
  unfold scriptT at h
  split at h
  · rename_i z
    exact .inl ⟨z.1, z.2, (Option.some.inj h).symm⟩
  · split at h
    · rename_i z
      exact .inr ⟨z, (Option.some.inj h).symm⟩
    · cases h
theorem callGT {P : Program} {w : World} {K : PySem.W.Frag} {mg mb : Str → Option Value} {k : Nat} {fa a : Addr} {fd : FuncData} {x : Str} {t : Shared} {vs : List Value} {ns : List Int} {cs : List (Addr × Addr)} {T : List (Addr × Str)}
    (hK : K.In t.heap) (hG : t.heap.Ns mainGlobals mg) (hB : t.heap.Ns builtinsNs mb) (hBB : ∀ x : Str, x ≠ "__name__" → mb x = bootBuiltins x) (hL : t.heap.NoLimit) (hM : ∃ m, t.heap.Ns sysModules m) (hg : t.gens = #[])
    (hTc : ∀ p ∈ T, p.1 ∈ cs.map (·.2)) (hT : ∀ p ∈ cs, t.heap.get? p.2 = some { cls := .none, data := .fields #[] }) (nT : ∀ p ∈ cs, K.lookup p.2 = none) (C : ∀ p ∈ cs, PySem.W.CodeHd t.heap p.1 p.2)
    (hbm : ∃ (bm : Addr) (ob : Obj), mg "__builtins__" = some (.ref bm) ∧ bm ≠ builtinsNs ∧ t.heap.get? bm = some ob ∧ ob.cls = .type "module" ∧ ob.dict = some builtinsNs ∧ ob.data = .plain)
    (ha : t.heap.get? a = some { cls := .type "list", data := .seq vs.toArray }) (hi : IntsAre vs ns) (h63 : ns.length ≤ 63) (hr : Room k callerA)
    (F : ∀ base : Heap, K.In base → base.Ns mainGlobals mg → (∃ m, base.Ns sysModules m) → (∀ p ∈ cs, LamX.TabB base mg p.1 p.2) → FnG P w K mg base CX0 k fa fd [x] (spLawT K T)) (hbind : ∀ (s : Shared) (u : Value), BindsTo s fd ⟨[u], []⟩ [(x, u)]) :
    codeAny (model P w) callerA (.call (.ref fa) ⟨[.ref a], []⟩) (fun r s' => r = .ok (.ret (.bool true)) ∧ OldK t.heap s'.heap ∧ s'.os = t.os ∧ AllBare s'.gens) t := by
  have rel := vals_ints hi
  have hlen := hi.length
  have hline : ns.length ≤ sizeLine := Nat.le_trans h63 (by decide)
  let ob : Obj := { cls := .type "list", data := .seq vs.toArray }
  let ts := cs.map (·.2)
  let S := scriptT K a ob ns ts
  have isT : ∀ b : Addr, b ∈ ts → t.heap.get? b = some { cls := .none, data := .fields #[] } := fun b hb => by
    obtain ⟨p, hp, e⟩ := List.mem_map.mp hb
    rw [← e]
    exact hT p hp
  have aT : a ∉ ts := fun z => by
    have q := isT a z
    rw [ha] at q
    have z' : Data.seq vs.toArray _ = Data.fields #[] := congrArg Obj.data (Option.some.inj q)
    cases z'
  have atT : ∀ b : Addr, b ∈ ts → S b = some (.tbl #[]) := fun b hb => by
    show scriptT K a ob ns ts b = _
    unfold scriptT
    rw [if_neg fun z => aT (by rw [← z.1]; exact hb), if_pos hb]
  have ok : HOk P w S t.heap := fun b u z => by
    rcases scriptT_at z with ⟨rfl, _, rfl⟩ | ⟨hb, rfl⟩
    · exact ⟨ha, by rw [List.length_map]; exact hline, vs, _, rel, ha⟩
    · exact isT b hb
  have down : ∀ {b : Addr} {o : Obj}, t.heap.get? b = some o → S b = none → (hidT t.heap S).get? b = some o := fun e n => hidT_get e n
  have noD : ∀ {b : Addr} {o : Obj}, t.heap.get? b = some o → (∀ vs n, o.data ≠ .seq vs n) → o.data ≠ .fields #[] → S b = none := fun {b o} e h1 h2 => by
    cases q : S b with
    | none => rfl
    | some u =>
      rcases scriptT_at q with ⟨rfl, _, _⟩ | ⟨hb, _⟩
      · rw [ha] at e
        cases e
        exact (h1 _ _ rfl).elim
      · rw [isT b hb] at e
        cases e
        exact (h2 rfl).elim
  have dict : ∀ {b : Addr} {o : Obj} {es : Array DictEntry} {ep : Nat}, t.heap.get? b = some o → o.data = .dict es ep → S b = none := fun {b o es ep} e d => noD e (fun vs n z => by rw [d] at z; cases z) fun z => by rw [d] at z; cases z
  have spaces : ∀ {b : Addr} {m : Str → Option Value}, t.heap.Ns b m → (hidT t.heap S).Ns b m := fun {b m} ⟨o, es, ep, e, d, r⟩ => ⟨o, es, ep, down e (dict e d), d, r⟩
  have inK : K.In (hidT t.heap S) := fun b o e => down (hK b o e) (by
    cases q : S b with
    | none => rfl
    | some u =>
      rcases scriptT_at q with ⟨rfl, z, _⟩ | ⟨hb, _⟩
      · rw [z] at e; cases e
      · obtain ⟨p, hp, ep⟩ := List.mem_map.mp hb
        rw [← ep, nT p hp] at e
        cases e)
  have md : Mod K mg (hidT t.heap S) := ⟨inK, spaces hG, ⟨mb, spaces hB, hBB⟩, let ⟨mc, q1, q2⟩ := hL; ⟨mc, spaces q1, q2⟩⟩
  have none_in : ∀ b : Addr, b ∉ ([] : List Addr) := fun b z => nomatch z
  have env : Env0 P w K mg (hidT t.heap S) callerA [] t S := ⟨rfl, md, fun b o e => of_hidT e, Nat.le_of_eq (hidT_size _ _), trivial, fun b z => absurd z (none_in b), ok, .of_eq hg⟩
  have TB : ∀ p ∈ cs, LamX.TabB (hidT t.heap S) mg p.1 p.2 := fun p hp => by
    have hTp := hT p hp
    refine ⟨?_, ?_, fun z => ?_⟩
    · obtain ⟨o, us, file, tf, flags, tg, inF, text, tt, e1, r1, r2, r3, r⟩ := C p hp
      refine ⟨o, us, file, tf, flags, tg, inF, text, tt, down e1 (noD e1 (fun vs n z => ?_) fun z => ?_), r1, r2, r3, r⟩
      · rw [r2] at z
        cases z
      · rw [r2] at z
        cases z
        simp at r3
    · obtain ⟨bm, o, b1, b2, b3, b4, b5, b6⟩ := hbm
      have nG : bm ≠ mainGlobals := fun q => by
        obtain ⟨o', es, ep, e, hd, _⟩ := hG
        rw [q, e] at b3
        cases b3
        rw [hd] at b6
        cases b6
      have nP : bm ≠ p.2 := fun q => by
        rw [q, hTp] at b3
        cases b3
        cases b6
      refine ⟨bm, o, b1, b2, nG, nP, down b3 (noD b3 (fun vs n z => ?_) fun z => ?_), b4, b5, b6⟩
      · rw [b6] at z
        cases z
      · rw [b6] at z
        cases z
    · obtain ⟨o, es, ep, e, hd, _⟩ := hG
      rw [z, hTp] at e
      cases e
      cases hd
  have hS : SqL K S a (ns.map V.int) := by
    cases q : K.lookup a with
    | none => exact .inl (.inr ⟨ob, if_pos ⟨rfl, q⟩⟩)
    | some o =>
      have e := hK a o q
      rw [ha] at e
      cases e
      exact .inr ⟨_, vs.toArray, _, q, rfl, rfl, rfl, by rw [List.size_toArray, hlen]; exact hline, by simpa using rel⟩
  refine codeAny_mono ((F _ inK (spaces hG) (let ⟨m, q⟩ := hM; ⟨m, spaces q⟩) TB).run callerA [] t S ⟨[.ref a], []⟩ [.ref a] [.ref a] (fun v _ => v = .bl true) (fun _ _ _ => False) hr rfl env (hbind t (.ref a)) (.cons rfl .nil) ⟨a, ns, rfl, hS, h63, fun p hp => atT _ (hTc p hp), fun _ => rfl⟩) fun r s' z => ?_
  cases r with
  | error e => exact False.elim z
  | ok fl =>
    cases fl with
    | ret u =>
      obtain ⟨v, H', os, bare, un, ok', rv, q⟩ := z
      obtain rfl : v = .bl true := q
      obtain rfl : u = Value.bool true := rv
      have key : ∀ b o, b ∉ ts → t.heap.get? b = some o → s'.heap.get? b = some o := fun b o nb e => by
        cases q : S b with
        | none => exact un.keep b o e q (none_in b) (by simp)
        | some u =>
          rcases scriptT_at q with ⟨rfl, _, rfl⟩ | ⟨hb, _⟩
          · obtain ⟨e2, _⟩ := ok' b _ (un.frzs b ob _ q)
            rw [ha] at e
            cases e
            exact e2
          · exact absurd hb nb
      have grown : ∀ p ∈ cs, ∃ more : Array Value, s'.heap.get? p.2 = some { cls := .none, data := .fields more } := fun p hp => by
        obtain ⟨more, z⟩ := un.tbls p.2 #[] (atT _ (List.mem_map.mpr ⟨p, hp, rfl⟩))
        exact ⟨_, ok' p.2 _ z⟩
      refine ⟨rfl, ⟨fun b o e => ?_, fun b o e => ?_⟩, os, bare⟩
      · by_cases hb : b ∈ ts
        · obtain ⟨p, hp, ep⟩ := List.mem_map.mp hb
          obtain ⟨more, hm⟩ := grown p hp
          rw [← ep] at e ⊢
          rw [hT p hp] at e
          cases e
          exact .inr (.inl ⟨((C p hp).tab (hT p hp)).isCodeTable, rfl, #[], more, rfl, by rw [Array.empty_append]; exact hm⟩)
        · exact .inl (key b o hb e)
      · by_cases hb : b ∈ ts
        · obtain ⟨p, hp, ep⟩ := List.mem_map.mp hb
          obtain ⟨more, hm⟩ := grown p hp
          rw [← ep]
          exact ⟨_, hm⟩
        · exact ⟨o, key b o hb e⟩
    | _ => exact False.elim z
/-- what the head must give of the law's def -/
structure LawAtT (l : PySem.W.OpenLaw) (w : World) (K : PySem.W.Frag) (k : Nat) (x : Str) (mg : Str → Option Value) (fa : Addr) (h : Heap) : Prop where
  ex : ∃ (fd : FuncData) (cs : List (Addr × Addr)) (T : List (Addr × Str)), (∀ p ∈ T, p.1 ∈ cs.map (·.2)) ∧ (∀ p ∈ cs, h.get? p.2 = some { cls := .none, data := .fields #[] }) ∧ (∀ p ∈ cs, K.lookup p.2 = none) ∧ (∀ p ∈ cs, PySem.W.CodeHd h p.1 p.2) ∧ (∀ (s : Shared) (u : Value), BindsTo s fd ⟨[u], []⟩ [(x, u)]) ∧
    ∀ base : Heap, K.In base → base.Ns mainGlobals mg → (∃ m, base.Ns sysModules m) → (∀ p ∈ cs, LamX.TabB base mg p.1 p.2) → FnG l.prog w K mg base CX0 k fa fd [x] (spLawT K T)
/-- the goal that the head leaves -/
theorem walkGT {l : PySem.W.OpenLaw} {k : Nat} {q : Program} {loose : List Str} {XP : (Str → Option Value) → Heap → Prop} {YP : World → Heap → Prop} {d : DefRec} {K : Params → PySem.W.Frag} {x : Str} (hn : l.most = some 63) (hdf : d.params.defaults = []) (hr : Room k callerA) (himp : importsNone q = true)
    (hY : ∀ (w : World) (h : Heap), YP w h → (K w.params).In h)
    (F : ∀ (w : World) (mg : Str → Option Value) (fa : Addr) (h : Heap), YP w h → (K w.params).In h → h.Ns mainGlobals mg → mg d.name = some (.ref fa) → LawAtT l w (K w.params) k x mg fa h) :
    PySem.W.WalkO q loose XP YP l.row.toRowW d [] (fun f vs => PySem.call f vs) := by
  refine Att.attach_call hn hdf fun w s₀ t mg mb fa o pm cd doc a vs ns G Y ho hd hcd hmg hobj hints hlen hg => ?_
  have inK := hY w _ Y
  obtain ⟨fd, cs, T, hTc, hT, nT, C, hb, hF⟩ := (F w mg fa _ Y inK G.T.g hmg).ex
  have hM : ∃ m, _ := let ⟨m, q, _⟩ := (G.T.seer himp).mods; ⟨m, q⟩
  exact callGT inK G.T.g G.T.b G.T.builtins G.T.nolimit hM hg hTc hT nT C G.T.bmain hobj hints hlen hr hF hb
end DL
set_option Elab.async false
set_option linter.all false
set_option maxRecDepth 100000
set_option maxHeartbeats 4000000
/-! a list's index within a suite; != of what is told by the same data; texts among any data -/
namespace DL
open PySem PySem.Spec PyProof.Rows L2 PySem.W
/-! ### a text and a dict -/
/-! x != y, two tuples told by the same data -/
/-! x != [], whatever is in x -/
end DL
set_option Elab.async false
set_option linter.all false
set_option maxRecDepth 100000
set_option maxHeartbeats 4000000
/-! ### how often a truth stands in a list of truths -/
namespace DL
open PySem PySem.Spec PyProof.Rows L2 PySem.W
end DL
set_option Elab.async false
set_option linter.all false
set_option maxRecDepth 100000
set_option maxHeartbeats 4000000
/-! ### < of tuples, asked of their first difference alone -/
namespace PySem.SeqAt
open AutoSeq1 (wpAny_loadPart')
open MeetsSeq MeetsSeq2 MeetsSeq3 SeqRoads2
/-- what < of two rows comes to, place by place: only the first difference is compared -/
theorem tup_lt1 (l b : Addr) (xs ys : Array Value) (n n2 : Nat) (dd dd2 : Option Addr) (sl sl2 : Array (Option Value)) (e r : Nat → Bool) :
    Meets (Builtin.«tuple.__lt__» ⟨[.ref l, .ref b], []⟩)
      (fun A R s => s.heap.get? l = some { cls := .type "tuple", dict := dd, data := .seq xs n, slots := sl } ∧ s.heap.get? b = some { cls := .type "tuple", dict := dd2, data := .seq ys n2, slots := sl2 } ∧
        (∀ j (h1 : j < xs.size) (h2 : j < ys.size), EqAt A.in1 s xs[j] ys[j] (e j)) ∧ (∀ j (h1 : j < xs.size) (h2 : j < ys.size), (∀ i, i < j → e i = true) → e j = false → RcLt A.in1 s xs[j] ys[j] (r j)) ∧
        R (.ok (.ret (.bool (firstLt e r (decide (xs.size < ys.size)) (List.range (min xs.size ys.size)))))) s) :=
  .of_wp fun prog w A R s h => by
    obtain ⟨hp, g, d, tk, os⟩ := s
    obtain ⟨hl, hb, he, hr, h⟩ := h
    have f2 := AutoSeq1.sub_tuple_tuple
    have hZ : (xs.toList.zip ys.toList).length = min xs.size ys.size := by simp
    wp_walk using wpAny_loadPart' hl, wpAny_loadPart' hb, wpAny_forIn_list _ (fun rest c s' => c.1 = none ∧ s' = ⟨hp, g, d, tk, os⟩ ∧ ∃ i, rest = (xs.toList.zip ys.toList).drop i ∧ (∀ k, k < i → e k = true) ∧
      R (.ok (.ret (.bool (firstLt e r (decide (xs.size < ys.size)) ((List.range (min xs.size ys.size)).drop i))))) ⟨hp, g, d, tk, os⟩) _
    case turn =>
      rintro ⟨y, x⟩ rest c s' ⟨_, rfl, i, hz, hk, hR⟩
      have hlt : i < (xs.toList.zip ys.toList).length := by
        rcases Nat.lt_or_ge i (xs.toList.zip ys.toList).length with h' | h'
        · exact h'
        · rw [List.drop_of_length_le h'] at hz; cases hz
      have h1 : i < xs.size := by omega
      have h2 : i < ys.size := by omega
      rw [List.drop_eq_getElem_cons hlt] at hz
      obtain ⟨hyx, hrest⟩ := List.cons.inj hz
      have hy : y = xs[i] := by have := congrArg Prod.fst hyx; simpa using this
      have hx : x = ys[i] := by have := congrArg Prod.snd hyx; simpa using this
      subst hy hx
      rw [List.drop_eq_getElem_cons (by rw [List.length_range]; omega), List.getElem_range] at hR
      refine wpAny_bind (he i h1 h2 prog w _ _ ?_)
      cases hc : e i with
      | true =>
        rw [firstLt_yes hc] at hR
        wp_walk
        exact ⟨rfl, rfl, i + 1, hrest, fun k hk' => (by rcases Nat.lt_or_ge k i with z | z; exact hk k z; rw [show k = i by omega]; exact hc), hR⟩
      | false =>
        rw [firstLt_no hc] at hR
        refine wpAny_bind (wpAny_rule ?_)
        refine wpAny_bind (hr i h1 h2 hk hc prog w _ _ ?_)
        wp_walk
        exact ⟨_, rfl, hR⟩
    case fin =>
      rintro ⟨c1, c2⟩ s' ⟨hc, rfl, i, hz, _, hR⟩
      simp only at hc
      subst hc
      have hge : min xs.size ys.size ≤ i := by
        rcases Nat.lt_or_ge i (xs.toList.zip ys.toList).length with h' | h'
        · rw [List.drop_eq_getElem_cons h'] at hz; cases hz
        · omega
      rw [List.drop_of_length_le (by simpa using hge)] at hR
      wp_walk
      exact ⟨_, rfl, by simpa [Builtin.Tuple.tupleCompareSizes, firstLt] using hR⟩
    case h =>
      exact ⟨rfl, rfl, 0, rfl, fun k hk => by omega, by simpa using h⟩
theorem RcLt.tups1 {A : Around} {s : Shared} {l b : Addr} {xs ys : Array Value} {e r : Nat → Bool} (hl : s.heap.IsTuple l xs) (hb : s.heap.IsTuple b ys) (hu : A.units < cLine)
    (he : ∀ j (h1 : j < xs.size) (h2 : j < ys.size), EqAt A.in1 s xs[j] ys[j] (e j)) (hr : ∀ j (h1 : j < xs.size) (h2 : j < ys.size), (∀ i, i < j → e i = true) → e j = false → RcLt A.in1 s xs[j] ys[j] (r j)) :
    RcLt A s (.ref l) (.ref b) (firstLt e r (decide (xs.size < ys.size)) (List.range (min xs.size ys.size))) := fun prog w E Q h => by
  obtain ⟨⟨cls, dd, data, sl⟩, ho, rfl, n, rfl⟩ := id hl
  obtain ⟨⟨cls2, dd2, data2, sl2⟩, ho2, rfl, n2, rfl⟩ := id hb
  exact richCompare_meets_room (op := .Lt) ⟨_, ho, rfl⟩ ⟨_, ho2, rfl⟩ F.slot_tuple_lt F.entry_tuple_lt (F.args_tuple_lt_2 _ _) (tup_lt1 l b xs ys n n2 dd dd2 sl sl2 e r)
    ⟨ho, ho2, he, hr, show Value.bool _ ≠ Value.notImplemented ∧ Q (.bool _) s from ⟨(fun x => nomatch x), h⟩⟩ hu
end PySem.SeqAt
namespace PySem.SeqAt
open PySem.W PyProof.Rows
/-! ### data that may be compared as far as they are alike -/
mutual
/-- numbers, texts and tuples of these: comparable up to their first difference -/
noncomputable def cmpD : PyData → PyData → Bool
  | .int _, .int _ => true
  | .str _, .str _ => true
  | .tuple xs, .tuple ys => cmpA xs ys
  | _, _ => false
noncomputable def cmpA : List PyData → List PyData → Bool
  | x :: xs, y :: ys => if PyData.eqv x y then cmpA xs ys else cmpD x y
  | [], _ => true
  | _ :: _, [] => true
end
mutual
noncomputable def ltD : PyData → PyData → Bool
  | .int i, .int j => decide (i < j)
  | .str x, .str y => decide (x.cps.toList < y.cps.toList)
  | .tuple xs, .tuple ys => ltA xs ys
  | _, _ => false
noncomputable def ltA : List PyData → List PyData → Bool
  | x :: xs, y :: ys => if PyData.eqv x y then ltA xs ys else ltD x y
  | [], _ :: _ => true
  | _, [] => false
end
theorem firstLt_succ {e r : Nat → Bool} {fin : Bool} : ∀ l : List Nat, firstLt e r fin (l.map Nat.succ) = firstLt (fun j => e (j + 1)) (fun j => r (j + 1)) fin l
  | [] => rfl
  | j :: l => by
    simp only [List.map_cons, firstLt]
    rw [firstLt_succ l]
theorem ltA_first : ∀ xs ys : List PyData, firstLt (pairEq xs ys) (fun j => ltD (xs.getD j .none) (ys.getD j .none)) (decide (xs.length < ys.length)) (List.range (min xs.length ys.length)) = ltA xs ys
  | [], [] => by simp [firstLt, ltA]
  | [], y :: ys => by simp [firstLt, ltA]
  | x :: xs, [] => by simp [firstLt, ltA]
  | x :: xs, y :: ys => by
    have em : min (x :: xs).length (y :: ys).length = min xs.length ys.length + 1 := by simp only [List.length_cons]; omega
    have ed : decide ((x :: xs).length < (y :: ys).length) = decide (xs.length < ys.length) := by simp only [List.length_cons]; exact decide_eq_decide.mpr (by omega)
    rw [em, ed, List.range_succ_eq_map]
    simp only [firstLt, ltA]
    rw [firstLt_succ]
    have := ltA_first xs ys
    show (if PyData.eqv x y = true then firstLt (pairEq xs ys) (fun j => ltD (xs.getD j .none) (ys.getD j .none)) _ _ else ltD x y) = _
    rw [this]
mutual
/-- a < b, for values that read as such data -/
theorem rcLt_cmp : ∀ (da db : PyData) (A : Around) (s : Shared) (a b : Value) (as bs : List Addr), Reads s.heap a da as → Reads s.heap b db bs → da.canLay0 = true → db.canLay0 = true → cmpD da db = true → A.units + min da.depth db.depth < cLine → RcLt A s a b (ltD da db)
  | .int x, db, A, s, a, b, as, bs, ra, rb, _, _, h, _ => by
    cases db with
    | int y =>
      cases ra
      cases rb
      intro prog w E Q hq
      simp only [ltD] at hq
      exact P.lt_int hq
    | _ => exact absurd h (by simp [cmpD])
  | .str x, db, A, s, a, b, as, bs, ra, rb, _, _, h, _ => by
    cases db with
    | str y =>
      cases ra
      cases rb
      intro prog w E Q hq
      simp only [ltD] at hq
      exact P.lt_str hq
    | _ => exact absurd h (by simp [cmpD])
  | .tuple xs, db, A, s, a, b, as, bs, ra, rb, la, lb, h, hu => by
    cases db with
    | tuple ys =>
      simp only [cmpD] at h
      have la' : PyData.canLayAll0 xs = true := by simpa [PyData.canLay0] using la
      have lb' : PyData.canLayAll0 ys = true := by simpa [PyData.canLay0] using lb
      cases ra with
      | @tuple l o vs n _ as₁ h1 h2 h3 h4 =>
        cases rb with
        | @tuple l' o' vs' n' _ bs₁ k1 k2 k3 k4 =>
          have n1 : vs.size = xs.length := by simpa using ReadsAll.length _ _ _ h4
          have n2 : vs'.size = ys.length := by simpa using ReadsAll.length _ _ _ k4
          simp only [ltD]
          rw [← ltA_first xs ys, ← n1, ← n2]
          refine RcLt.tups1 ⟨_, h1, h2, _, h3⟩ ⟨_, k1, k2, _, k3⟩ (room_here hu) (fun j j1 j2 => ?_) fun j j1 j2 hk hj => ?_
          · have := eqAt_readsAll xs ys A.in1 s vs.toList vs'.toList _ _ h4 k4 la' lb' (room_in hu) j (by simpa using j1) (by simpa using j2)
            simpa using this
          · have := rcLt_cmpA xs ys A.in1 s vs.toList vs'.toList _ _ h4 k4 la' lb' h (room_in hu) j (by simpa using j1) (by simpa using j2) hk hj
            simpa using this
    | _ => exact absurd h (by simp [cmpD])
  | .none, db, _, _, _, _, _, _, _, _, _, _, h, _ => absurd h (by cases db <;> simp [cmpD])
  | .bool _, db, _, _, _, _, _, _, _, _, _, _, h, _ => absurd h (by cases db <;> simp [cmpD])
  | .list _, db, _, _, _, _, _, _, _, _, _, _, h, _ => absurd h (by cases db <;> simp [cmpD])
  | .dict _, db, _, _, _, _, _, _, _, _, _, _, h, _ => absurd h (by cases db <;> simp [cmpD])
theorem rcLt_cmpA : ∀ (xs ys : List PyData) (A : Around) (s : Shared) (vs ws : List Value) (as bs : List Addr), ReadsAll s.heap vs xs as → ReadsAll s.heap ws ys bs → PyData.canLayAll0 xs = true → PyData.canLayAll0 ys = true → cmpA xs ys = true →
    A.units + min (PyData.depthAll xs) (PyData.depthAll ys) < cLine → ∀ j (h1 : j < vs.length) (h2 : j < ws.length), (∀ i, i < j → pairEq xs ys i = true) → pairEq xs ys j = false → RcLt A s vs[j] ws[j] (ltD (xs.getD j .none) (ys.getD j .none))
  | [], _, _, _, _, _, _, _, ra, _, _, _, _, _, j, h1, _, _, _ => by cases ra; exact absurd h1 (Nat.not_lt_zero _)
  | _ :: _, [], _, _, _, _, _, _, _, rb, _, _, _, _, j, _, h2, _, _ => by cases rb; exact absurd h2 (Nat.not_lt_zero _)
  | x :: xs, y :: ys, A, s, _, _, _, _, ra, rb, la, lb, h, hu, j, h1, h2, hk, hj => by
    have la' : x.canLay0 = true ∧ PyData.canLayAll0 xs = true := by simpa [PyData.canLayAll0] using la
    have lb' : y.canLay0 = true ∧ PyData.canLayAll0 ys = true := by simpa [PyData.canLayAll0] using lb
    simp only [cmpA] at h
    cases ra with
    | cons r rs =>
      cases rb with
      | cons r' rs' =>
        cases j with
        | zero =>
          have hj : PyData.eqv x y = false := hj
          rw [hj, if_neg (by simp)] at h
          exact rcLt_cmp x y A s _ _ _ _ r r' la'.1 lb'.1 h (room_head hu)
        | succ j =>
          have h0 : PyData.eqv x y = true := hk 0 (Nat.succ_pos _)
          rw [h0, if_pos rfl] at h
          exact rcLt_cmpA xs ys A s _ _ _ _ rs rs' la'.2 lb'.2 h (room_tail hu) j (Nat.lt_of_succ_lt_succ h1) (Nat.lt_of_succ_lt_succ h2) (fun i hi => hk (i + 1) (Nat.succ_lt_succ hi)) hj
end
end PySem.SeqAt
set_option Elab.async false
set_option linter.all false
set_option maxRecDepth 100000
set_option maxHeartbeats 4000000
/-! ### the order of such data, by rows of signs -/
namespace PySem.SeqAt
open PySem.W PyProof.Rows
mutual
/-- no numbers beside truths, no dicts: what is equal has equal signs -/
noncomputable def plD : PyData → Bool
  | .int _ => true
  | .str _ => true
  | .tuple xs => plA xs
  | _ => false
noncomputable def plA : List PyData → Bool
  | [] => true
  | x :: xs => plD x && plA xs
end
mutual
theorem toks_same : ∀ x y : PyData, plD x = true → plD y = true → PyData.eqv x y = true → keyToks x = keyToks y
  | .int a, y, _, hy, e => by
    cases y with
    | int b =>
      have e' : a = b := by simpa [PyData.eqv] using e
      rw [e']
    | _ => first | (simp [plD] at hy; done) | (simp [PyData.eqv] at e; done)
  | .str a, y, _, hy, e => by
    cases y with
    | str b =>
      have e' : a = b := by simpa [PyData.eqv] using e
      rw [e']
    | _ => first | (simp [plD] at hy; done) | (simp [PyData.eqv] at e; done)
  | .tuple xs, y, hx, hy, e => by
    cases y with
    | tuple ys =>
      simp only [plD] at hx hy
      simp only [PyData.eqv] at e
      simp only [keyToks]
      exact toks_sameA xs ys hx hy e
    | _ => first | (simp [plD] at hy; done) | (simp [PyData.eqv] at e; done)
  | .none, _, h, _, _ => by simp [plD] at h
  | .bool _, _, h, _, _ => by simp [plD] at h
  | .list _, _, h, _, _ => by simp [plD] at h
  | .dict _, _, h, _, _ => by simp [plD] at h
theorem toks_sameA : ∀ xs ys : List PyData, plA xs = true → plA ys = true → PyData.eqvAll xs ys = true → keyToksAll xs = keyToksAll ys
  | [], [], _, _, _ => rfl
  | [], _ :: _, _, _, e => by simp [PyData.eqvAll] at e
  | _ :: _, [], _, _, e => by simp [PyData.eqvAll] at e
  | x :: xs, y :: ys, hx, hy, e => by
    simp only [plA, Bool.and_eq_true] at hx hy
    rw [eqv_all_cons, Bool.and_eq_true] at e
    rw [toks_all_cons, toks_all_cons, toks_same x y hx.1 hy.1 e.1, toks_sameA xs ys hx.2 hy.2 e.2]
end
mutual
theorem toks_lt : ∀ x y : PyData, plD x = true → plD y = true → cmpD x y = true → PyData.eqv x y = false → ∀ l m, PyProof.Rows.lexLt itemOrd (keyToks x ++ l) (keyToks y ++ m) = ltD x y
  | .int a, y, _, _, h, e, l, m => by
    cases y with
    | int b =>
      have hne : a ≠ b := fun q => by subst q; simp [PyData.eqv] at e
      simp only [keyToks, List.cons_append, List.nil_append, ltD]
      rw [lex_atom (fun q => hne (Sum.inl.inj q)) l m, lex_one]; rfl
    | _ => simp [cmpD] at h
  | .str a, y, _, _, h, e, l, m => by
    cases y with
    | str b =>
      have hne : a ≠ b := fun q => by subst q; simp [PyData.eqv] at e
      simp only [keyToks, List.cons_append, List.nil_append, ltD]
      rw [lex_atom (fun q => hne (str_of_cps (Sum.inr.inj q))) l m, lex_one]; rfl
    | _ => simp [cmpD] at h
  | .tuple xs, y, hx, hy, h, e, l, m => by
    cases y with
    | tuple ys =>
      simp only [plD] at hx hy
      simp only [PyData.eqv] at e
      simp only [cmpD] at h
      simp only [keyToks, ltD]
      exact toks_ltA xs ys hx hy h e l m
    | _ => simp [cmpD] at h
  | .none, _, h, _, _, _, _, _ => by simp [plD] at h
  | .bool _, _, h, _, _, _, _, _ => by simp [plD] at h
  | .list _, _, h, _, _, _, _, _ => by simp [plD] at h
  | .dict _, _, h, _, _, _, _, _ => by simp [plD] at h
theorem toks_ltA : ∀ xs ys : List PyData, plA xs = true → plA ys = true → cmpA xs ys = true → PyData.eqvAll xs ys = false → ∀ l m, PyProof.Rows.lexLt itemOrd (keyToksAll xs ++ l) (keyToksAll ys ++ m) = ltA xs ys
  | [], [], _, _, _, e, _, _ => by simp [PyData.eqvAll] at e
  | [], y :: ys, _, _, _, _, l, m => by
    simp only [keyToksAll, List.cons_append, List.nil_append, ltA]
    rw [lex_atom (by simp) _ _, lex_one]; rfl
  | x :: xs, [], _, _, _, _, l, m => by
    simp only [keyToksAll, List.cons_append, List.nil_append, ltA]
    rw [lex_atom (by simp) _ _, lex_one]; rfl
  | x :: xs, y :: ys, hx, hy, h, e, l, m => by
    simp only [plA, Bool.and_eq_true] at hx hy
    rw [eqv_all_cons] at e
    rw [toks_all_cons, toks_all_cons]
    simp only [List.cons_append, List.append_assoc, ltA]
    simp only [cmpA] at h
    rw [lex_self (O := itemOrd)]
    cases he : PyData.eqv x y with
    | true =>
      rw [he, Bool.true_and] at e
      rw [he, if_pos rfl] at h
      rw [if_pos rfl, toks_same x y hx.1 hy.1 he, lex_pre]
      exact toks_ltA xs ys hx.2 hy.2 h e l m
    | false =>
      rw [he, if_neg (by simp)] at h
      rw [if_neg (by simp)]
      exact toks_lt x y hx.1 hy.1 h he _ _
end
/-- < of such data is the order of their signs -/
theorem ltD_toks {x y : PyData} (hx : plD x = true) (hy : plD y = true) (h : cmpD x y = true) (e : PyData.eqv x y = false) : ltD x y = PyProof.Rows.lexLt itemOrd (keyToks x) (keyToks y) := by
  have := toks_lt x y hx hy h e [] []
  rw [List.append_nil, List.append_nil] at this
  exact this.symm
noncomputable def tokLt (x y : PyData) : Bool := PyProof.Rows.lexLt itemOrd (keyToks x) (keyToks y)
theorem swo_toks {α : Type} (k : α → PyData) : SrtO.Swo fun v u => tokLt (k v) (k u) := by
  refine ⟨fun x y h => ?_, fun x y z h1 h2 => ?_⟩
  · cases q : tokLt (k y) (k x) with
    | false => rfl
    | true =>
      have := lex_trans (O := itemOrd) _ _ _ h q
      rw [lex_irrefl] at this; cases this
  · cases q : tokLt (k z) (k x) with
    | false => rfl
    | true =>
      rcases lex_negTrans (O := itemOrd) (keyToks (k z)) (keyToks (k y)) (keyToks (k x)) q with q' | q'
      · exact (h2.symm.trans q').symm
      · exact (h1.symm.trans q').symm
end PySem.SeqAt
set_option Elab.async false
set_option linter.all false
set_option maxRecDepth 100000
set_option maxHeartbeats 4000000
/-! ### sorted of pairs: a number, then such data -/
namespace PySem.SeqAt
open PySem.W PyProof.Rows SrtO Srt
theorem ltA_same : ∀ xs ys : List PyData, PyData.eqvAll xs ys = true → ltA xs ys = false
  | [], [], _ => by simp only [ltA]
  | [], _ :: _, e => by simp [PyData.eqvAll] at e
  | _ :: _, [], e => by simp [PyData.eqvAll] at e
  | x :: xs, y :: ys, e => by
    rw [eqv_all_cons, Bool.and_eq_true] at e
    simp only [ltA]
    rw [if_pos e.1]
    exact ltA_same xs ys e.2
theorem ltA_toks {xs ys : List PyData} (hx : plA xs = true) (hy : plA ys = true) (h : cmpA xs ys = true) : ltA xs ys = tokLt (.tuple xs) (.tuple ys) := by
  cases e : PyData.eqvAll xs ys with
  | true =>
    rw [ltA_same xs ys e]
    unfold tokLt
    simp only [keyToks]
    rw [toks_sameA xs ys hx hy e, lex_irrefl]
  | false =>
    have := toks_ltA xs ys hx hy h e [] []
    rw [List.append_nil, List.append_nil] at this
    unfold tokLt
    simp only [keyToks]
    exact this.symm
/-- a pair: a number and such data -/
structure PairD (h : Heap) (v : Value) (n : Int) (t : PyData) : Prop where
  r : ∃ as, Reads h v (.tuple [.int n, t]) as
  l : t.canLay0 = true
  p : plD t = true
theorem PairD.keeps {h h' : Heap} {v : Value} {n : Int} {t : PyData} (d : PairD h v n t) (k : ∀ as, Reads h v (.tuple [.int n, t]) as → ∃ bs, Reads h' v (.tuple [.int n, t]) bs) : PairD h' v n t :=
  ⟨let ⟨as, r⟩ := d.r; k as r, d.l, d.p⟩
section
variable {prog : Program} {w : World} {A : Around} {s : Shared}
theorem pairD_cmp {vs : List Value} {k : Value → Int × PyData} {B : Nat} (hp : ∀ v ∈ vs, PairD s.heap v (k v).1 (k v).2) (hc : ∀ v ∈ vs, ∀ u ∈ vs, PyData.eqv (k v).2 (k u).2 = false → cmpD (k v).2 (k u).2 = true)
    (hd : ∀ v ∈ vs, (k v).2.depth ≤ B) (hu : A.units + B < cLine) : Cmp prog w A s (tuples' true) (fun p => p.1 ∈ vs) (lt2 fun v u => tokLt (.tuple [.int (k v).1, (k v).2]) (.tuple [.int (k u).1, (k u).2])) := by
  intro p q hm hm'
  have h1 := hp _ hm
  have h2 := hp _ hm'
  have d1 := hd _ hm
  have d2 := hd _ hm'
  have hcc := hc _ hm _ hm'
  show wpAny (model prog w) A (keyLt' (tuples' true) p.1 q.1) (fun r s' => s' = s ∧ r = tokLt (.tuple [.int (k p.1).1, (k p.1).2]) (.tuple [.int (k q.1).1, (k q.1).2])) (fun _ _ => False) s
  generalize (k p.1).1 = x at h1 ⊢
  generalize (k p.1).2 = y at h1 hcc d1 ⊢
  generalize (k q.1).1 = x' at h2 ⊢
  generalize (k q.1).2 = y' at h2 hcc d2 ⊢
  have hl : tokLt (.tuple [.int x, y]) (.tuple [.int x', y']) = if x = x' then (if PyData.eqv y y' = true then false else ltD y y') else decide (x < x') := by
    rw [← ltA_toks (by simp only [plA, plD, h1.p, Bool.and_self]) (by simp only [plA, plD, h2.p, Bool.and_self])]
    · by_cases e : x = x'
      · subst e
        simp only [ltA, PyData.eqv, beq_self_eq_true, if_true]
      · have e' : (x == x') = false := by simpa using e
        simp only [ltA, PyData.eqv, e', Bool.false_eq_true, if_false, ltD, if_neg e]
    · by_cases e : x = x'
      · subst e
        simp only [cmpA, cmpD, PyData.eqv, beq_self_eq_true, if_true]
        cases e2 : PyData.eqv y y' with
        | true => simp
        | false => simpa using hcc e2
      · have e' : (x == x') = false := by simpa using e
        simp only [cmpA, cmpD, PyData.eqv, e', Bool.false_eq_true, if_false]
  rw [hl]
  obtain ⟨as, r1⟩ := h1.r
  obtain ⟨bs, r2⟩ := h2.r
  have lay1 := h1.l
  have lay2 := h2.l
  generalize p.1 = v at r1 ⊢
  generalize q.1 = u at r2 ⊢
  clear h1 h2 hm hm' hp hc hd
  cases r1 with
  | @tuple l o xs n _ as' g1 g2 g3 g4 =>
    cases r2 with
    | @tuple l' o' xs' n' _ bs' j1 j2 j3 j4 =>
      refine kat_lt g1 g3 j1 j3 ?_
      have n1 := ReadsAll.length _ _ _ g4
      have n2 := ReadsAll.length _ _ _ j4
      rw [show decide (xs.size < xs'.size) = false from decide_eq_false (by simp only [Array.length_toList, List.length_cons, List.length_nil] at n1 n2; omega)]
      generalize xs.toList = vl at g4 ⊢
      generalize xs'.toList = ul at j4 ⊢
      cases g4 with
      | cons a1 a2 =>
        cases a1
        cases a2 with
        | cons a3 a4 =>
          cases a4
          cases j4 with
          | cons c1 c2 =>
            cases c1
            cases c2 with
            | cons c3 c4 =>
              cases c4
              simp only [List.zip_cons_cons, List.zip_nil_left]
              refine kat_cons (EqAt.int_int _ _ _ _ prog w _ _ ?_)
              refine kat_go (fun e1 => ?_) (fun e1 => ?_)
              · have ex : x = x' := by simpa using e1
                rw [if_pos ex]
                refine kat_yes (kat_cons (eqAt_reads y y' A s _ _ _ _ a3 c3 lay1 lay2 (by omega) prog w _ _ ?_))
                refine kat_go (fun e2 => ?_) (fun e2 => ?_)
                · rw [e2, if_pos rfl]
                  exact kat_yes (kat_nil ⟨rfl, rfl⟩)
                · rw [e2, if_neg (by simp)]
                  refine kat_no ?_
                  rw [oneLt'_eq]
                  simp only [Nat.reduceAdd, Nat.reduceBEq, Bool.and_false, Bool.false_eq_true, if_false]
                  exact wpAny_bind (rcLt_cmp y y' A s _ _ _ _ a3 c3 lay1 lay2 (hcc e2) (by omega) prog w _ _ (wpAny_truthy_bool ⟨rfl, rfl⟩))
              · have ex : ¬ x = x' := by simpa using e1
                rw [if_neg ex]
                exact kat_no (oneLt_int ⟨rfl, rfl⟩)
end
end PySem.SeqAt
set_option Elab.async false
set_option linter.all false
set_option maxRecDepth 100000
set_option maxHeartbeats 4000000
namespace PySem.SeqAt
open PySem.W PyProof.Rows SrtO Srt
/-! ### such data are read at any heap that keeps the tuples -/
mutual
theorem Reads.kept {h h' : Heap} (hk : ∀ b o, o.cls = .type "tuple" → h.get? b = some o → h'.get? b = some o) : ∀ (d : PyData) (v : Value) (as : List Addr), plD d = true → Reads h v d as → Reads h' v d as
  | .int i, v, as, _, r => by cases r; exact .int _ _
  | .str x, v, as, _, r => by cases r; exact .str _ _
  | .tuple xs, v, as, p, r => by
    simp only [plD] at p
    cases r with
    | tuple h1 h2 h3 h4 => exact .tuple (hk _ _ h2 h1) h2 h3 (Reads.keptA hk xs _ _ p h4)
  | .none, _, _, p, _ => by simp [plD] at p
  | .bool _, _, _, p, _ => by simp [plD] at p
  | .list _, _, _, p, _ => by simp [plD] at p
  | .dict _, _, _, p, _ => by simp [plD] at p
theorem Reads.keptA {h h' : Heap} (hk : ∀ b o, o.cls = .type "tuple" → h.get? b = some o → h'.get? b = some o) : ∀ (ds : List PyData) (vs : List Value) (as : List Addr), plA ds = true → ReadsAll h vs ds as → ReadsAll h' vs ds as
  | [], _, _, _, r => by cases r; exact .nil
  | d :: ds, _, _, p, r => by
    simp only [plA, Bool.and_eq_true] at p
    cases r with
    | cons r1 r2 => exact .cons (Reads.kept hk d _ _ p.1 r1) (Reads.keptA hk ds _ _ p.2 r2)
end
theorem PairD.kept {h h' : Heap} {v : Value} {n : Int} {t : PyData} (d : PairD h v n t) (hk : ∀ b o, o.cls = .type "tuple" → h.get? b = some o → h'.get? b = some o) : PairD h' v n t :=
  d.keeps fun as r => ⟨as, Reads.kept hk _ _ _ (by simp only [plD, plA, d.p, Bool.and_self]) r⟩
section
variable {prog : Program} {w : World} {A : Around} {s : Shared} {E : Value → Shared → Prop}
/-- the signs' order of pairs -/
noncomputable abbrev pairLt (k : Value → Int × PyData) (v u : Value) : Bool := tokLt (.tuple [.int (k v).1, (k v).2]) (.tuple [.int (k u).1, (k u).2])
theorem firstsD {h : Heap} {k : Value → Int × PyData} : ∀ {vs : List Value}, (∀ v ∈ vs, PairD h v (k v).1 (k v).2) → ∃ fs, KatTups h vs fs ∧ fs.length = vs.length ∧ ∀ f ∈ fs, ∃ x t, f = Value.int x t
  | [], _ => ⟨[], KatTups.nil, rfl, fun _ h => by cases h⟩
  | v :: vs, hp => by
    obtain ⟨fs, q1, q2, q3⟩ := firstsD fun u hu => hp u (List.mem_cons_of_mem _ hu)
    obtain ⟨as, r⟩ := (hp v List.mem_cons_self).r
    generalize (k v).1 = x at r
    generalize (k v).2 = y at r
    cases r with
    | @tuple l o xs n _ as' g1 g2 g3 g4 =>
      have hx : ∃ t, xs[0]? = some (.int x t) := by
        rw [← Array.getElem?_toList]
        generalize xs.toList = vl at g4 ⊢
        cases g4 with
        | cons a1 a2 =>
          cases a1 with
          | int i t => exact ⟨t, rfl⟩
      obtain ⟨t, hx⟩ := hx
      exact ⟨.int x t :: fs, KatTups.cons g1 g2 g3 hx q1, by rw [List.length_cons, List.length_cons, q2], fun f hf => by
        rcases List.mem_cons.mp hf with rfl | hf
        · exact ⟨x, t, rfl⟩
        · exact q3 f hf⟩
theorem sorted_pairsD {l : Addr} {vs : List Value} {k : Value → Int × PyData} {B : Nat} {Q : Value → Shared → Prop} (hl : s.heap.IsList l vs.toArray) (hz : vs.length ≤ sizeLine) (hp : ∀ v ∈ vs, PairD s.heap v (k v).1 (k v).2)
    (hc : ∀ v ∈ vs, ∀ u ∈ vs, PyData.eqv (k v).2 (k u).2 = false → cmpD (k v).2 (k u).2 = true) (hd : ∀ v ∈ vs, (k v).2.depth ≤ B) (hu : A.units + 2 + B < cLine)
    (h : ∀ (h' : Heap) (d : Addr) (out : List Value), Srtd (pairLt k) out → Stb (pairLt k) out vs → (∀ b o, s.heap.get? b = some o → h'.get? b = some o) → s.heap.objs.size ≤ d → (∃ n, h'.get? d = some (seqObj "list" out.toArray n)) → Q (.ref d) { s with heap := h' }) :
    wpAny (model prog w) A (call (.builtin "sorted") [.ref l]) Q E s := by
  refine sorted_ord (swo_toks fun v => .tuple [.int (k v).1, (k v).2]) hl hz (fun h2 h₁ a ha kk => ?_) fun out hs hb => ?_
  · intro h' keep
    have hp' : ∀ v ∈ vs, PairD h' v (k v).1 (k v).2 := fun v hm => (hp v hm).kept fun b o hcl e => keep b o (fun z => by
      subst z
      exact absurd rfl (kk _ o e).1) (kk b o e).2
    obtain ⟨fs, q1, q2, q3⟩ := firstsD hp'
    refine ⟨tuples' true, fun Q E hq => ?_, pairD_cmp (B := B) hp' hc hd (by simpa [Around.in1] using hu)⟩
    refine PySem.W.kat_kind (T := .type "int") q1 (by omega) (fun f hm => ?_) (by rfl) ?_
    · obtain ⟨x, t, rfl⟩ := q3 f hm
      exact PySem.W.Looks.now
    · have e : (Value.type "int" != Value.type "tuple") = true := by first | decide +kernel | rfl | decide
      rw [e]
      exact hq
  · exact h _ _ out hs hb (fun b o e => sortedAll_old e) (Nat.le_succ _) (sortedAll_at s.heap vs out.toArray)
end
end PySem.SeqAt
set_option Elab.async false
set_option linter.all false
set_option maxRecDepth 100000
set_option maxHeartbeats 4000000
namespace DL
open PySem PySem.Spec PyProof.Rows L2 PySem.W PySem.SeqAt SrtO
/-! ### sorted of a list of pairs: a number, then numbers, texts and tuples of these -/
noncomputable def pwP (p : Int × D) : PyData := .tuple [.int p.1, p.2.pw]
noncomputable abbrev ltPD (p q : Int × D) : Bool := tokLt (pwP p) (pwP q)
/-- a datum that may be ordered -/
structure Ordd (d : D) : Prop where
  f : d.fla = true
  l : d.pw.canLay0 = true
  p : plD d.pw = true
  h : d.pw.depth ≤ 100
noncomputable def pairOf (p : Int × D) : D := .tup [.int p.1, p.2]
noncomputable def rSortPD (K : PySem.W.Frag) : List V → Hp → VK → Prop := fun vs H Q => ∃ (G : Gh) (a : Addr) (xs : List V) (k : V → Int × D), vs = [V.ref a] ∧ SqL K H a xs ∧ (∀ x ∈ xs, Dt K G H (pairOf (k x)) x ∧ Ordd (k x).2) ∧
  (∀ x ∈ xs, ∀ y ∈ xs, PyData.eqv (k x).2.pw (k y).2.pw = false → cmpD (k x).2.pw (k y).2.pw = true) ∧
  ∀ (ys : List V) (p : Addr), Srtd (fun x y => ltPD (k x) (k y)) ys → Stb (fun x y => ltPD (k x) (k y)) ys xs → H p = none → Q (.ref p) (upd H p (.lst ys))
section
variable {X : Cx}
theorem cr_sortPD (hu : X.A.units + 110 < cLine) : CallR X (.builtin "sorted") (rSortPD X.K) := by
  intro pins s σ H vs us Q I r h
  obtain ⟨G, a, xs, k, rfl, hs, hx, hc, q⟩ := h
  obtain ⟨its, rv, hl, hz⟩ := I.list hs
  obtain ⟨u, rfl, ru⟩ := vals1 r
  obtain rfl : u = Value.ref a := ru
  have hr : ∀ x ∈ xs, ∃ t, x = V.ref t := fun x m => by
    obtain ⟨a, ys, e, _⟩ := (hx x m).1
    exact ⟨a, e⟩
  obtain ⟨e1, e2⟩ := refs_back rv hr
  have hm : ∀ v ∈ its, backV v ∈ xs := fun v hv => by rw [e1]; exact List.mem_map.mpr ⟨v, hv, rfl⟩
  have hrel : ∀ v ∈ its, RelV (backV v) v := fun v hv => by
    obtain ⟨t, rfl⟩ := e2 v hv
    exact rfl
  refine SeqAt.sorted_pairsD (k := fun u => ((k (backV u)).1, (k (backV u)).2.pw)) (B := 100) hl.isList (by rw [← rv.length]; exact hz) (fun v hv => ?_) (fun v hv u hu => hc _ (hm v hv) _ (hm u hu)) (fun v hv => (hx _ (hm v hv)).2.h) (by omega) fun h' d out h1 h2 kp hd hn => ?_
  · obtain ⟨d1, o1⟩ := hx _ (hm v hv)
    have := Dt.readsF I (pairOf (k (backV v))) _ v (by simp only [pairOf, D.fla, D.flaL, o1.f, Bool.and_self]) d1 (hrel v hv)
    exact ⟨⟨[], this⟩, o1.l, o1.p⟩
  · have h3 : ∀ u ∈ out, ∃ a, u = Value.ref a := fun u hu => e2 u (h2.perm.mem_iff.mp hu)
    obtain ⟨n, hn⟩ := hn
    have hb : Stb (fun x y => ltPD (k x) (k y)) (out.map backV) xs := by
      rw [e1]
      exact SrtO.Stb.map (swo_toks fun x => pwP (k x)) backV h2
    refine ⟨.ref d, upd H d (.lst (out.map backV)), I.laid (t' := s.toks) kp hd ⟨?_, out, n, vals_back h3, hn⟩, rfl, q _ d (SrtO.srtd_map h1) hb (I.hok.fresh hd)⟩
    rw [hb.len]
    exact hz
end
end DL
namespace DL
open PySem PySem.Spec PyProof.Rows L2 PySem.W PySem.SeqAt SrtO
mutual
theorem ordd_pl : ∀ d : D, d.fla = true → plD d.pw = true → d.pl = true
  | .int _, _, _ => by simp [D.pl]
  | .str _, _, _ => by simp [D.pl]
  | .tup ds, f, p => by
    simp only [D.fla] at f
    simp only [D.pw, plD] at p
    simp only [D.pl]
    exact ordd_pls ds f p
  | .non, _, p => by simp [D.pw, plD] at p
  | .bl _, _, p => by simp [D.pw, plD] at p
  | .lst _, f, _ => by simp [D.fla] at f
  | .dic _ _, f, _ => by simp [D.fla] at f
  | .ins _ _, f, _ => by simp [D.fla] at f
  | .glb _, f, _ => by simp [D.fla] at f
  | .bag, f, _ => by simp [D.fla] at f
  | .lock _ _, f, _ => by simp [D.fla] at f
  | .at _ _, f, _ => by simp [D.fla] at f
theorem ordd_pls : ∀ ds : List D, D.flaL ds = true → plA (D.pwL ds) = true → D.pls ds = true
  | [], _, _ => by simp [D.pls]
  | d :: ds, f, p => by
    simp only [D.flaL, Bool.and_eq_true] at f
    simp only [D.pwL, plA, Bool.and_eq_true] at p
    simp only [D.pls, ordd_pl d f.1 p.1, ordd_pls ds f.2 p.2, Bool.and_self]
end
mutual
theorem fla_flat : ∀ d : D, d.fla = true → d.flat = true
  | .int _, _ => by simp [D.flat]
  | .str _, _ => by simp [D.flat]
  | .non, _ => by simp [D.flat]
  | .bl _, _ => by simp [D.flat]
  | .tup ds, f => by
    simp only [D.fla] at f
    simp only [D.flat]
    exact fla_flats ds f
  | .lst _, f => by simp [D.fla] at f
  | .dic _ _, f => by simp [D.fla] at f
  | .ins _ _, f => by simp [D.fla] at f
  | .glb _, f => by simp [D.fla] at f
  | .bag, f => by simp [D.fla] at f
  | .lock _ _, f => by simp [D.fla] at f
  | .at _ _, f => by simp [D.fla] at f
theorem fla_flats : ∀ ds : List D, D.flaL ds = true → D.flats ds = true
  | [], _ => by simp [D.flats]
  | d :: ds, f => by
    simp only [D.flaL, Bool.and_eq_true] at f
    simp only [D.flats, fla_flat d f.1, fla_flats ds f.2, Bool.and_self]
end
theorem pairOf_flat {p : Int × D} (o : Ordd p.2) : (pairOf p).flat = true := fla_flat _ (by simp only [pairOf, D.fla, D.flaL, o.f, Bool.and_self])
theorem pairOf_pl {p : Int × D} (o : Ordd p.2) : (pairOf p).pl = true := by
  unfold pairOf
  simp only [D.pl, D.pls, ordd_pl p.2 o.f o.p, Bool.and_self]
open Classical in
/-- the pair that a value is told as -/
noncomputable def tellP (K : PySem.W.Frag) (G : Gh) (H : Hp) (ps : List (Int × D)) (x : V) : Int × D := if h : ∃ p ∈ ps, Dt K G H (pairOf p) x then Classical.choose h else (0, .non)
theorem tellP_spec {K : PySem.W.Frag} {G : Gh} {H : Hp} {ps : List (Int × D)} {x : V} (h : ∃ p ∈ ps, Dt K G H (pairOf p) x) : tellP K G H ps x ∈ ps ∧ Dt K G H (pairOf (tellP K G H ps x)) x := by
  unfold tellP
  rw [dif_pos h]
  exact Classical.choose_spec h
theorem pairOf_inj {p q : Int × D} (h : pairOf p = pairOf q) : p = q := by
  unfold pairOf at h
  simp only [D.tup.injEq, List.cons.injEq, D.int.injEq, and_true] at h
  exact Prod.ext h.1 h.2
theorem tellP_map {K : PySem.W.Frag} {G : Gh} {H : Hp} {all : List (Int × D)} (ho : ∀ p ∈ all, Ordd p.2) : ∀ {ps : List (Int × D)} {us : List V}, (∀ p ∈ ps, p ∈ all) → DtL K G H (ps.map pairOf) us → us.map (tellP K G H all) = ps ∧ ∀ x ∈ us, ∃ p ∈ all, Dt K G H (pairOf p) x
  | [], us, _, h => by
    obtain rfl := h
    exact ⟨rfl, fun x hx => by cases hx⟩
  | p :: ps, us, hs, h => by
    obtain ⟨x, r, rfl, h1, h2⟩ := h
    obtain ⟨q1, q2⟩ := tellP_map ho (fun q hq => hs q (List.mem_cons_of_mem _ hq)) h2
    have hp := hs p List.mem_cons_self
    have ex : ∃ p ∈ all, Dt K G H (pairOf p) x := ⟨p, hp, h1⟩
    obtain ⟨t1, t2⟩ := tellP_spec ex
    have e : tellP K G H all x = p := pairOf_inj (Dt.inj _ (pairOf_pl (ho _ t1)) _ (pairOf_pl (ho _ hp)) x t2 h1)
    refine ⟨by rw [List.map_cons, e, q1], fun y hy => ?_⟩
    rcases List.mem_cons.mp hy with rfl | hy
    · exact ex
    · exact q2 y hy
theorem dtl_tell {K : PySem.W.Frag} {G : Gh} {H : Hp} {k : V → Int × D} : ∀ {ys : List V}, (∀ y ∈ ys, Dt K G H (pairOf (k y)) y) → DtL K G H ((ys.map k).map pairOf) ys
  | [], _ => rfl
  | y :: ys, h => ⟨y, ys, rfl, h y List.mem_cons_self, dtl_tell fun z hz => h z (List.mem_cons_of_mem _ hz)⟩
noncomputable def sortPF (t : TLD) : TLD := fun ρ k => t ρ fun ds => ∃ ps : List (Int × D), ds = [.lst (ps.map pairOf)] ∧ (∀ p ∈ ps, Ordd p.2) ∧ (∀ p ∈ ps, ∀ q ∈ ps, PyData.eqv p.2.pw q.2.pw = false → cmpD p.2.pw q.2.pw = true) ∧
  ∀ qs : List (Int × D), Srtd ltPD qs → Stb ltPD qs ps → k (qs.map pairOf)
section
variable {X : Cx} {F : Fr} {p pos : Pos} {e : Expr} {ta : TLD}
theorem f_sortP (hu : X.A.units + 110 < cLine) (hg : Gl X "sorted") (hm : X.mg "sorted" = none) (ha : PA X [e] (liftA F ta)) (hK : X.K = F.K := by rfl) (he : starEach [e] X.env = (false, eval e X.env) :: starEach [] X.env := by rfl) :
    PE X (.Call (.Name "sorted" p) [e] [] pos) (liftF F (sortPF ta)) := by
  refine pe_imp (pe_callB (cr_sortPD hu) hg hm (by decide +kernel) ha (by decide) (by decide) he) fun σ H Q ⟨G, ρ, k, r, h, q⟩ => ⟨G, ρ, _, r, h, fun ds vs H1 ⟨ps, e0, ho, hc, h1⟩ e1 d1 => ?_⟩
  subst e0
  obtain ⟨v, rfl, a, us, rfl, n, ha, hl⟩ := dl1 d1
  have r1 := r.step e1
  obtain ⟨t1, t2⟩ := tellP_map ho (fun _ h => h) hl
  have tx : ∀ x ∈ us, tellP F.K G H1 ps x ∈ ps ∧ Dt F.K G H1 (pairOf (tellP F.K G H1 ps x)) x := fun x hx => tellP_spec (t2 x hx)
  rw [hK]
  refine ⟨G, a, us, tellP F.K G H1 ps, rfl, SqL.of ha, fun x hx => ⟨(tx x hx).2, ho _ (tx x hx).1⟩, fun x hx y hy => hc _ (tx x hx).1 _ (tx y hy).1, fun ys l hs hb hn => ?_⟩
  have e4 : Ext G H1 (upd H1 l (.lst ys)) := Ext.new r1.bag hn
  have hS : Stb ltPD (ys.map (tellP F.K G H1 ps)) ps := by
    have := SrtO.Stb.map (lt := ltPD) (swo_toks pwP) (tellP F.K G H1 ps) hb
    rw [t1] at this
    exact this
  refine q _ l _ _ (h1 _ (SrtO.srtd_map hs) hS) (e1.trans e4) (e1.free r.bag hn) upd_same (dtl_tell fun y hy => ?_)
  have hy' := hb.perm.mem_iff.mp hy
  exact Dt.flat (fun a xs h => (upd_ne (fun z => by rw [z, hn] at h; cases h)).trans h) _ _ (pairOf_flat (ho _ (tx y hy').1)) (tx y hy').2
end
end DL
set_option Elab.async false
set_option linter.all false
set_option maxRecDepth 100000
set_option maxHeartbeats 4000000
namespace SrtO
open PySem PyProof.Rows Srt
/-! ### list.sort with a key, by any order of (key, item) -/
section
variable {prog : Program} {w : World} {A : Around} {E : Value → Shared → Prop} {s : Shared}
theorem ks_tail {a kS : Addr} {e e1 : Nat} {keys : Array Value} {st : SortSt} {out : List Value} {P : PySem.Fin → Shared → Prop} (hk : s.heap.get? kS = some (seqObj "list" keys e)) (ha : s.heap.get? a = some (seqObj "list" #[] e1)) (hne : a ≠ kS)
    (hz : keys.size ≤ sizeLine) (hout : (arrOf st).map (·.2) = out.toArray) (ho : out.length ≤ sizeLine) (hf : failedOf st = none)
    (h : P (.done (.ret .none)) { s with heap := (s.heap.update kS (Obj.mapSeq fun _ => (#[] : Array Value))).update a (Obj.mapSeq fun _ => out.toArray) }) : wpAny (model prog w) A (ksk_tail a false e1 (.ref kS) st) P E s := by
  have ha1 : (s.heap.update kS (Obj.mapSeq fun _ => (#[] : Array Value))).get? a = some (seqObj "list" #[] e1) := (Heap.get?_update_ne _ _ _ _ hne).trans ha
  unfold ksk_tail
  try dsimp only
  rw [hout]
  refine wpAny_bind (listUpdate_at hk rfl ?_ hz (Nat.zero_le _))
  refine wpAny_bind (wpAny_letGo ?_)
  refine wpAny_bind (seqEpoch_at ha1 rfl ?_)
  refine wpAny_bind (listUpdate_at ha1 rfl ?_ (Nat.zero_le _) (by simp; omega))
  rw [hf]
  simp only [bne_self_eq_false, Bool.false_eq_true, if_false]
  exact wpAny_pure h
theorem ks_end {a kS : Addr} {e e1 : Nat} {ks vs : List Value} {lt : Keyed → Keyed → Bool} {P : PySem.Fin → Shared → Prop} (O : Swo lt) (hk : s.heap.get? kS = some (seqObj "list" ks.toArray e)) (ha : s.heap.get? a = some (seqObj "list" #[] e1)) (hne : a ≠ kS)
    (hl : ks.length = vs.length) (hz : vs.length ≤ sizeLine) (hS : 2 ≤ vs.length → ∃ κ, (∀ (Q : SortKind → Shared → Prop) (E : Value → Shared → Prop), Q κ s → wpAny (model prog w) A (keyKind' ks.toArray) Q E s) ∧ Cmp prog w A s κ (fun p => p ∈ ks.zip vs) lt)
    (h : ∀ out : List Keyed, Srtd lt out → Stb lt out (ks.zip vs) → P (.done (.ret .none)) { s with heap := (s.heap.update kS (Obj.mapSeq fun _ => (#[] : Array Value))).update a (Obj.mapSeq fun _ => (out.map (·.2)).toArray) }) :
    wpAny (model prog w) A (ksk_end a false vs.toArray e1 (.ref kS) ks.toArray) P E s := by
  have hzl : (ks.zip vs).length = vs.length := by rw [List.length_zip]; omega
  have ez : (ks.toArray.zip vs.toArray).toList = ks.zip vs := by simp
  have fin : ∀ st' : SortSt, Srtd lt (arrOf st').toList → Stb lt (arrOf st').toList (ks.zip vs) → failedOf st' = none → wpAny (model prog w) A (ksk_tail a false e1 (.ref kS) st') P E s := fun st' h1 h2 h3 => by
    refine ks_tail (out := (arrOf st').toList.map (·.2)) hk ha hne (by simp; omega) (by rw [← List.map_toArray]) ?_ h3 (h _ h1 h2)
    rw [List.length_map, h2.len, hzl]; exact hz
  unfold ksk_end
  try dsimp only
  rw [if_neg (by simp)]
  by_cases h2 : vs.length < 2
  · have hs2 : vs.toArray.size < 2 := by simpa using h2
    rw [if_pos hs2, if_pos hs2]
    refine wpAny_bind (wpAny_pure ?_)
    rw [StateT.run_pure]
    refine wpAny_bind (wpAny_pure ?_)
    try dsimp only
    refine fin (SortSt.mk' general' (ks.toArray.zip vs.toArray) #[] 7 none) ?_ ?_ rfl
    · show Srtd lt (ks.toArray.zip vs.toArray).toList
      rw [ez]
      have : (ks.zip vs).length < 2 := by omega
      match ks.zip vs, this with
      | [], _ => exact List.Pairwise.nil
      | [v], _ => exact List.pairwise_singleton _ _
      | _ :: _ :: l, h => exact absurd h (by rw [List.length_cons, List.length_cons]; omega)
    · show Stb lt (ks.toArray.zip vs.toArray).toList (ks.zip vs)
      rw [ez]
      exact Stb.refl _
  · have hs2 : ¬ vs.toArray.size < 2 := by simpa using h2
    rw [if_neg hs2, if_neg hs2]
    obtain ⟨κ, hkind, hT⟩ := hS (by omega)
    refine wpAny_bind (hkind _ _ ?_)
    have hall : AllL (fun p : Keyed => p ∈ ks.zip vs) (ks.toArray.zip vs.toArray).toList := fun p hm => by rw [ez] at hm; exact hm
    refine wpAny_bind (wpAny_mono (wpS_sortO (st0 := SortSt.mk' κ (ks.toArray.zip vs.toArray) #[] 7 none)
      (Q := fun _ st' => Srtd lt (arrOf st').toList ∧ Stb lt (arrOf st').toList (ks.toArray.zip vs.toArray).toList ∧ failedOf st' = none) O hT rfl hall rfl rfl fun st' a1 a2 a3 => ⟨a1, a2, a3⟩) ?_ fun _ _ e => e)
    rintro ⟨⟨⟩, st'⟩ s' ⟨rfl, hp1, hp2, hf⟩
    try dsimp only
    rw [ez] at hp2
    exact fin st' hp1 hp2 hf
/-- the keys are asked one after the other: what each call leaves -/
noncomputable def CallsK (prog : Program) (w : World) (A : Around) (f : Value) (kS : Addr) (Fin : List Value → Shared → Prop) : List Value → List Value → Shared → Prop
  | [], ks, s => Fin ks s
  | x :: r, ks, s => wpAny (model prog w) A (call f [x]) (fun k s' => (∃ e, s'.heap.get? kS = some (seqObj "list" ks.toArray e)) ∧ CallsK prog w A f kS Fin r (ks ++ [k]) { s' with heap := s'.heap.update kS (Obj.mapSeq (·.push k)) }) (fun _ _ => False) s
theorem CallsK.mono {f : Value} {kS : Addr} {Fin Fin' : List Value → Shared → Prop} (hF : ∀ ks s, Fin ks s → Fin' ks s) : ∀ {r ks : List Value} {s : Shared}, CallsK prog w A f kS Fin r ks s → CallsK prog w A f kS Fin' r ks s
  | [], _, _, h => hF _ _ h
  | _ :: _, _, _, h => wpAny_mono (show wpAny _ _ _ _ _ _ from h) (fun _ _ hq => ⟨hq.1, CallsK.mono hF hq.2⟩) fun _ _ x => x
theorem ks_loop {f : Value} {kS : Addr} {Fin : List Value → Shared → Prop} {n : Nat} {body : Value → PUnit → Sem (ForInStep PUnit)} (hn : n ≤ sizeLine)
    (hb : ∀ x (ks : List Value) (s : Shared) (C : List Value → Shared → Prop), ks.length < n → wpAny (model prog w) A (call f [x]) (fun k s' => (∃ e, s'.heap.get? kS = some (seqObj "list" ks.toArray e)) ∧ C (ks ++ [k]) { s' with heap := s'.heap.update kS (Obj.mapSeq (·.push k)) }) (fun _ _ => False) s →
      wpAny (model prog w) A (body x ⟨⟩) (fun r s' => r = .yield ⟨⟩ ∧ ∃ k, C (ks ++ [k]) s') E s) :
    ∀ (r ks : List Value) (s : Shared), ks.length + r.length = n → CallsK prog w A f kS Fin r ks s → wpAny (model prog w) A (forIn r PUnit.unit body) (fun _ s' => ∃ ks, ks.length = n ∧ Fin ks s') E s
  | [], ks, s, hl, h => by
    rw [List.forIn_nil]
    exact wpAny_pure ⟨ks, by simpa using hl, h⟩
  | x :: r, ks, s, hl, h => by
    rw [List.length_cons] at hl
    rw [List.forIn_cons]
    refine wpAny_bind (wpAny_mono (hb x ks s (fun ks' s' => CallsK prog w A f kS Fin r ks' s') (by omega) h) (fun q s' hq => ?_) fun _ _ x => x)
    obtain ⟨rfl, k, h2⟩ := hq
    show wpAny (model prog w) A (forIn r PUnit.unit body) _ E s'
    exact ks_loop hn hb r (ks ++ [k]) s' (by rw [List.length_append, List.length_singleton]; omega) h2
theorem ks_rest {a kS : Addr} {f : Value} {e1 : Nat} {vs : List Value} {P : PySem.Fin → Shared → Prop} (hz : vs.length ≤ sizeLine) (hne : a ≠ kS)
    (h : CallsK prog w A f kS (fun ks s' => (∃ e, s'.heap.get? kS = some (seqObj "list" ks.toArray e)) ∧ s'.heap.get? a = some (seqObj "list" #[] e1) ∧ ∃ lt : Keyed → Keyed → Bool, Swo lt ∧
      (2 ≤ vs.length → ∃ κ, (∀ (Q : SortKind → Shared → Prop) (E : Value → Shared → Prop), Q κ s' → wpAny (model prog w) A (keyKind' ks.toArray) Q E s') ∧ Cmp prog w A s' κ (fun p => p ∈ ks.zip vs) lt) ∧
      ∀ out : List Keyed, Srtd lt out → Stb lt out (ks.zip vs) → P (.done (.ret .none)) { s' with heap := (s'.heap.update kS (Obj.mapSeq fun _ => (#[] : Array Value))).update a (Obj.mapSeq fun _ => (out.map (·.2)).toArray) }) vs [] s) :
    wpAny (model prog w) A (ksk_rest a f false vs.toArray e1 (.ref kS)) P E s := by
  unfold ksk_rest
  refine wpAny_bind (wpAny_rule ?_)
  first
    | rw [List.forIn_toArray]
    | (rw [← Array.forIn_toList]; simp only [List.toList_toArray])
    | rw [← Array.forIn_toList]
  refine wpAny_bind (wpAny_mono (ks_loop (n := vs.length) hz (fun x ks s' C hks hx => ?_) vs [] s (by simp) h) (fun _ s' hd => ?_) fun _ _ x => x)
  · refine wpAny_bind (wpAny_attempt (wpAny_mono hx (fun k s'' hk => ?_) fun _ _ hF => hF.elim))
    obtain ⟨⟨e, hk⟩, c⟩ := hk
    try dsimp only
    refine wpAny_bind (listUpdate_at hk rfl ?_ (by rw [List.size_toArray]; omega) (Nat.le_trans (Nat.le_of_eq (Array.size_push ..)) (by rw [List.size_toArray]; omega)))
    exact wpAny_pure ⟨rfl, k, c⟩
  · obtain ⟨ks, hl, ⟨e, hk⟩, ha, lt, O, hS, fin⟩ := hd
    try dsimp only
    refine wpAny_bind (listItems_at hk rfl ?_)
    exact ks_end O hk ha hne hl hz hS fin
/-- list.sort with a key, whole: what is to be shown of the calls, at the heap where the list is empty and the keys' store is new -/
theorem ks_tree {a : Addr} {f : Value} {vs : List Value} {n : Nat} {P : PySem.Fin → Shared → Prop} (ho : s.heap.get? a = some (seqObj "list" vs.toArray n)) (hz : vs.length ≤ sizeLine)
    (h : ∀ (h3 : Heap) (kS : Addr) (e1 : Nat), (∀ b o, b ≠ a → s.heap.get? b = some o → h3.get? b = some o) → s.heap.objs.size < kS → h3.get? kS = some (seqObj "list" #[] 0) → h3.get? a = some (seqObj "list" #[] e1) →
      CallsK prog w A f kS (fun ks s' => (∃ e, s'.heap.get? kS = some (seqObj "list" ks.toArray e)) ∧ s'.heap.get? a = some (seqObj "list" #[] e1) ∧ ∃ lt : Keyed → Keyed → Bool, Swo lt ∧
      (2 ≤ vs.length → ∃ κ, (∀ (Q : SortKind → Shared → Prop) (E : Value → Shared → Prop), Q κ s' → wpAny (model prog w) A (keyKind' ks.toArray) Q E s') ∧ Cmp prog w A s' κ (fun p => p ∈ ks.zip vs) lt) ∧
      ∀ out : List Keyed, Srtd lt out → Stb lt out (ks.zip vs) → P (.done (.ret .none)) { s' with heap := (s'.heap.update kS (Obj.mapSeq fun _ => (#[] : Array Value))).update a (Obj.mapSeq fun _ => (out.map (·.2)).toArray) }) vs [] { s with heap := h3 }) :
    wpAny (model prog w) A (ksk_tree a f false) P E s := by
  have ha : a < s.heap.objs.size := Heap.lt_size ho
  obtain ⟨e1, ho1⟩ : ∃ e1, (s.heap.update a (Obj.mapSeq fun _ => (#[] : Array Value))).get? a = some (seqObj "list" #[] e1) := ⟨_, get?_update_seq ho fun _ => #[]⟩
  have hkS : ((s.heap.update a (Obj.mapSeq fun _ => (#[] : Array Value))).push (seqObj "tuple" vs.toArray 0)).objs.size = s.heap.objs.size + 1 := by rw [size_push', Heap.size_update]
  unfold ksk_tree
  refine wpAny_bind (listItems_at ho rfl ?_)
  refine wpAny_bind (listUpdate_at ho rfl ?_ (by rw [List.size_toArray]; exact hz) (Nat.zero_le _))
  refine wpAny_bind (seqEpoch_at ho1 rfl ?_)
  refine wpAny_bind (wpAny_newTuple ?_ (by show vs.length ≤ _; exact hz))
  refine wpAny_bind (wpAny_newList ?_ (Nat.zero_le _))
  refine wpAny_holding ?_
  refine ks_rest (s := { s with heap := ((s.heap.update a (Obj.mapSeq fun _ => (#[] : Array Value))).push (seqObj "tuple" vs.toArray 0)).push (seqObj "list" #[] 0) }) (kS := ((s.heap.update a (Obj.mapSeq fun _ => (#[] : Array Value))).push (seqObj "tuple" vs.toArray 0)).objs.size)
    hz (Nat.ne_of_lt (by rw [hkS]; exact Nat.lt_succ_of_lt ha)) (h _ _ e1 (fun b o hb e => ?_) (by rw [hkS]; omega) (Heap.get?_push_size _ rfl) (Heap.get?_push_of_some _ (Heap.get?_push_of_some _ ho1)))
  exact Heap.get?_push_of_some _ (Heap.get?_push_of_some _ ((Heap.get?_update_ne _ _ _ _ hb).trans e))
/-- sorted(x, key=f): x gives the items vs -/
theorem sorted_keyG {x : Value} {q : Addr} {vs : List Value} {Q : Value → Shared → Prop} (hz : vs.length ≤ sizeLine)
    (hcol : ∀ (R : List Value → Shared → Prop), (∀ (h1 : Heap) (tk : Nat), (∀ b o, s.heap.get? b = some o → h1.get? b = some o) → s.heap.objs.size ≤ h1.objs.size → R vs { s with heap := h1, toks := tk }) → wpAny (model prog w) A.in1 (collect x) R E s)
    (h : ∀ (s3 : Shared) (D kS : Addr) (e1 : Nat), (∃ (h3 : Heap) (tk : Nat), s3 = { s with heap := h3, toks := tk }) → (∀ b o, s.heap.get? b = some o → s3.heap.get? b = some o) → s.heap.objs.size ≤ D → D < kS → s3.heap.get? kS = some (seqObj "list" #[] 0) → s3.heap.get? D = some (seqObj "list" #[] e1) →
      CallsK prog w A.in1.in1 (.ref q) kS (fun ks s' => (∃ e, s'.heap.get? kS = some (seqObj "list" ks.toArray e)) ∧ s'.heap.get? D = some (seqObj "list" #[] e1) ∧ ∃ lt : Keyed → Keyed → Bool, Swo lt ∧
      (2 ≤ vs.length → ∃ κ, (∀ (Q : SortKind → Shared → Prop) (E : Value → Shared → Prop), Q κ s' → wpAny (model prog w) A.in1.in1 (keyKind' ks.toArray) Q E s') ∧ Cmp prog w A.in1.in1 s' κ (fun p => p ∈ ks.zip vs) lt) ∧
      ∀ out : List Keyed, Srtd lt out → Stb lt out (ks.zip vs) → Q (.ref D) { s' with heap := (s'.heap.update kS (Obj.mapSeq fun _ => (#[] : Array Value))).update D (Obj.mapSeq fun _ => (out.map (·.2)).toArray) }) vs [] s3) :
    wpAny (model prog w) A (call (.builtin "sorted") [x] [(Str.ofString "key", .ref q)]) Q E s := by
  refine call_function_entry_kw kind_sorted plain_sorted entry_sorted (ksk_s1 _ _) ?_
  unfold Builtin.«sorted»
  refine wpAny_bind (m := checkCount "sorted" 1 1 _) (wpAny_pure ?_)
  refine wpAny_bind (hcol _ fun h1 tk kp hsz => ?_)
  refine wpAny_bind (wpAny_newList ?_ hz)
  have hoL : (h1.push (seqObj "list" vs.toArray 0)).get? h1.objs.size = some (seqObj "list" vs.toArray 0) := Heap.get?_push_size _ rfl
  show wpAny _ _ _ _ _ { s with heap := h1.push (seqObj "list" vs.toArray 0), toks := tk }
  refine wpAny_bind (wpAny_holding (wpAny_call_entry_kw slot_list_sort ⟨_, hoL, rfl⟩ entry_list_sort ?_ (ksk_l1 _ _)))
  show wpAny (model prog w) A.in1.in1 (Builtin.«list.sort» ⟨[.ref h1.objs.size], [(Str.ofString "key", .ref q)]⟩) _ _ _
  rw [ksk_t1]
  refine ks_tree (s := { s with heap := h1.push (seqObj "list" vs.toArray 0), toks := tk }) hoL hz fun h3 kS e1 k3 hk hkS hD => ?_
  have := h { s with heap := h3, toks := tk } h1.objs.size kS e1 ⟨h3, tk, rfl⟩ (fun b o e => k3 b o (Nat.ne_of_lt (Heap.lt_size (kp b o e))) (Heap.get?_push_of_some _ (kp b o e))) hsz (by rw [size_push'] at hk; exact Nat.lt_of_succ_lt hk) hkS hD
  exact this.mono fun ks s' ⟨c1, c2, lt, c3, c4, c5⟩ => ⟨c1, c2, lt, c3, c4, fun out o1 o2 => ⟨_, rfl, wpAny_pure ⟨_, rfl, c5 out o1 o2⟩⟩⟩
end
end SrtO
set_option Elab.async false
set_option linter.all false
set_option maxRecDepth 100000
set_option maxHeartbeats 4000000
/-! ### a lambda of one's own names alone, called with what it asks -/
namespace L2
open PySem PySem.Spec PyProof.Rows PySem.W
theorem lam_code {P : Program} {w : World} {K : PySem.W.Frag} {mg : Str → Option Value} {base : Heap} {CX : CXT} {k : Nat} {N ps : List Str} {qual : Str} {params : Arguments} {body : Expr} {scope : Scope} {f c' : Addr} {oc : Obj} {pm ctv : Value} {vs0 : Array Value} {t0 : Tok}
    {A : Around} {outer : List Env} {s : Shared} {H : Hp} {us : List Value} {vs : List V} {Q : VK} {E : XK} (of1 : s.heap.get? f = some (PySem.W.kla_obj "<lambda>" qual params body scope [] pm c' ctv)) (S : FnScope N ps scope)
    (hbind : bindArgs (PySem.W.kla_fn "<lambda>" qual params body scope [] pm (.ref c') ctv) ⟨us, []⟩ = pure (ps.zip us)) (hc : s.heap.get? c' = some oc) (hd : oc.data = .fields vs0) (hv : vs0[1]? = some (.str qual t0))
    (r : Room (k + 1) A) (e : Env0 P w K mg base A outer s H) (v : Vals vs us) (n : vs.length = ps.length)
    (hb : Room k (A.deeper (envOfC qual scope s.heap.objs.size f (.ref c'))) → ∃ t, PE (cxOf CX P w K mg base N qual scope f (.ref c') A outer s H E) body t ∧ t (start N vs) H Q) :
    codeAny (model P w) A (.call (.ref f) ⟨us, []⟩) (CR CX outer P w H s Q E) s := by
  refine PySem.W.kla_callFunE r.depth of1 rfl S.co S.gen rfl ⟨c', oc, vs0, t0, rfl, hc, hd, hv⟩ ?_
  rw [hbind]
  refine wpAny_pure (wpAny_newFunctionEnv_cells S.kind (fun y hy => ?_) fun env he s1 x => ?_)
  · obtain ⟨m, u⟩ := y
    rcases S.par m (List.of_mem_zip hy).1 with z | z
    · exact Or.inl z
    · exact Or.inr ⟨z, PySem.W.cellsFrom_some _ _ _ (Or.inl z)⟩
  · subst he
    refine ⟨(e.mod.nolimit.keeps fun c o z => (e.bs c o z).1).keeps x.toInCall.keep, ?_⟩
    obtain ⟨t, ht, hq⟩ := hb (r.deeper _)
    have I := inv_start (CX := CX) (E := E) S r.hd e n v x
    refine PySem.W.kla_codeExpr (wpAny_mono (ht.run [] s1 (start N vs) H Q I hq) (fun u s2 hs => ?_) fun _ _ z => z)
    obtain ⟨v', H', J, rv, q'⟩ := hs
    exact ⟨v', H', J.os, J.bare, J.base, J.hok, rv, q'⟩
end L2
set_option Elab.async false
set_option linter.all false
set_option maxRecDepth 100000
set_option maxHeartbeats 4000000
/-! ### a lambda called from within a built-in function -/
namespace L2
open PySem PySem.Spec PyProof.Rows PySem.W
theorem lam_step {X : Cx} {k : Nat} {N ps : List Str} {qual : Str} {params : Arguments} {body : Expr} {scope : Scope} {f c' : Addr} {oc : Obj} {pm ctv : Value} {vs0 : Array Value} {t0 : Tok} {pins : List (Addr × Obj)} {σ : L2.St} {H : Hp} {A : Around} {s : Shared} {us : List Value} {vs : List V} {Q : VK}
    (sb : DL.SubG X (k + 1) A) (I : Inv X pins σ H s) (of1 : s.heap.get? f = some (PySem.W.kla_obj "<lambda>" qual params body scope [] pm c' ctv)) (S : FnScope N ps scope)
    (hbind : bindArgs (PySem.W.kla_fn "<lambda>" qual params body scope [] pm (.ref c') ctv) ⟨us, []⟩ = pure (ps.zip us)) (hc : s.heap.get? c' = some oc) (hd : oc.data = .fields vs0) (hv : vs0[1]? = some (.str qual t0)) (v : Vals vs us) (n : vs.length = ps.length)
    (hb : ∀ outer, Room k (A.deeper (envOfC qual scope s.heap.objs.size f (.ref c'))) → ∃ t, PE (cxOf CX0 X.prog X.w X.K X.mg X.base N qual scope f (.ref c') A outer s H E0) body t ∧ t (start N vs) H Q) :
    wpAny (model X.prog X.w) A (call (.ref f) us) (fun u s' => ∃ w H', Inv X pins σ H' s' ∧ RelV w u ∧ Q w H' ∧ ∀ b o, H b = none → b ∉ frs X.stack → s.heap.get? b = some o → s'.heap.get? b = some o ∧ H' b = none) (fun _ _ => False) s := by
  have e0 : Env0 X.prog X.w X.K X.mg X.base A X.stack s H := by
    have := I.env0
    exact ⟨sb.fr.trans this.frames, this.mod, this.bs, this.bsz, this.funs, this.frf, this.hok, this.bare⟩
  refine wpAny_call (codeAny_mono (lam_code (CX := CX0) (E := E0) of1 S hbind hc hd hv sb.room e0 v n (hb X.stack)) fun r s' hq => ?_)
  cases r with
  | error e => exact (show False from hq).elim
  | ok fl =>
    cases fl with
    | ret u =>
      have hq' := hq
      obtain ⟨w, H', os, bare, un, hok, rv, q⟩ := hq'
      obtain ⟨hh, g, d, t, os'⟩ := s'
      obtain rfl : os' = s.os := os
      exact ⟨w, H', I.call (h' := hh) (g' := g) (d' := d) (t' := t) (ch := []) un hok bare (fun b z => absurd z (by simp)), rv, q, fun b o n1 n2 e => ⟨un.keep b o e n1 n2 (fun z => nomatch (show b ∈ ([] : List Addr) from z)), un.free b o e n1 (fun z => nomatch (show b ∈ ([] : List Addr) from z))⟩⟩
    | next => exact False.elim hq
    | brk => exact False.elim hq
    | cont => exact False.elim hq
end L2
set_option Elab.async false
set_option linter.all false
set_option maxRecDepth 100000
set_option maxHeartbeats 4000000
/-! ### the keys of a sort, asked one after the other -/
namespace DL
open PySem PySem.Spec PyProof.Rows L2 PySem.W SrtO
/-- a record of ours that the layer does not know -/
structure OwnRec (X : Cx) (pins : List (Addr × Obj)) (a : Addr) : Prop where
  loc : a ≠ X.env.locals
  new : X.s_0.heap.objs.size ≤ a
  cel : ∀ x c, X.env.cells.lookup x = some c → c ≠ a
  pin : ∀ p ∈ X.pn ++ pins, p.1 ≠ a
  fr : a ∉ frs X.stack
theorem vals_snoc : ∀ {ws : List V} {ks : List Value} {w : V} {k : Value}, Vals ws ks → RelV w k → Vals (ws ++ [w]) (ks ++ [k])
  | [], _, _, _, .nil, r => .cons r .nil
  | _ :: _, _, _, _, .cons r1 r2, r => .cons r1 (vals_snoc r2 r)
theorem dtl_snoc {K : PySem.W.Frag} {G : Gh} {H : Hp} : ∀ {ds : List D} {ws : List V} {d : D} {w : V}, DtL K G H ds ws → Dt K G H d w → DtL K G H (ds ++ [d]) (ws ++ [w])
  | [], _, d, w, h, r => by obtain rfl := h; exact ⟨w, [], rfl, r, rfl⟩
  | _ :: ds, _, d, w, ⟨x, r, e, h1, h2⟩, q => by
    subst e
    exact ⟨x, r ++ [w], rfl, h1, dtl_snoc h2 q⟩
section
variable {X : Cx} {pins : List (Addr × Obj)} {σ : L2.St} {A : Around} {f kS D0 : Addr} {e1 : Nat} {G : Gh} {H0 : Hp} {fo : Obj} {kd : D → D} {Fin : List Value → Shared → Prop}
theorem keys_run (all : List D) (oS : OwnRec X pins kS) (oD : D0 ∉ frs X.stack) (oF : f ∉ frs X.stack) (nD : D0 ≠ kS) (nF : f ≠ kS) (g0 : GOk G H0)
    (step : ∀ (s' : Shared) (H' : Hp) (d : D) (x : V) (u : Value), Inv X pins σ H' s' → Ext G H0 H' → s'.heap.get? f = some fo → H' f = none → d ∈ all → Dt X.K G H' d x → RelV x u →
      wpAny (model X.prog X.w) A (call (.ref f) [u]) (fun v s'' => ∃ w H'', Inv X pins σ H'' s'' ∧ RelV w v ∧ (Ext G H' H'' ∧ Dt X.K G H'' (kd d) w) ∧ ∀ b o, H' b = none → b ∉ frs X.stack → s'.heap.get? b = some o → s''.heap.get? b = some o ∧ H'' b = none) (fun _ _ => False) s') :
    ∀ (ds : List D) (xs : List V) (us : List Value) (done : List D) (ws : List V) (ks : List Value) (s' : Shared) (H' : Hp), (∀ d ∈ ds, d ∈ all) → Inv X pins σ H' s' → Ext G H0 H' → s'.heap.get? f = some fo → H' f = none → (∃ e, s'.heap.get? kS = some (seqObj "list" ks.toArray e)) → H' kS = none →
      s'.heap.get? D0 = some (seqObj "list" #[] e1) → H' D0 = none → Vals xs us → DtL X.K G H0 ds xs → Vals ws ks → DtL X.K G H' (done.map kd) ws →
      (∀ (ws : List V) (ks : List Value) (s' : Shared) (H' : Hp), Inv X pins σ H' s' → Ext G H0 H' → (∃ e, s'.heap.get? kS = some (seqObj "list" ks.toArray e)) → H' kS = none → s'.heap.get? D0 = some (seqObj "list" #[] e1) → H' D0 = none → Vals ws ks → DtL X.K G H' ((done ++ ds).map kd) ws → Fin ks s') →
      CallsK X.prog X.w A (.ref f) kS Fin us ks s'
  | [], xs, us, done, ws, ks, s', H', hs, I, e0, hf, nf, hk, nk, hD, nd, vx, dx, vw, dw, fin => by
    obtain rfl := dx
    cases vx
    exact fin ws ks s' H' I e0 hk nk hD nd vw (by rw [List.append_nil]; exact dw)
  | d :: ds, xs, us, done, ws, ks, s', H', hs, I, e0, hf, nf, hk, nk, hD, nd, vx, dx, vw, dw, fin => by
    obtain ⟨x, xr, rfl, h1, h2⟩ := dx
    cases vx with
    | @cons _ u _ ur rx vr =>
      have dx' := (g0.evo e0).dt _ _ h1
      show wpAny _ _ _ _ _ _
      refine wpAny_mono (step s' H' d x u I e0 hf nf (hs d List.mem_cons_self) dx' rx) (fun v s'' hq => ?_) fun _ _ z => z
      obtain ⟨w, H'', I2, rw', ⟨e2, dk⟩, kp⟩ := hq
      obtain ⟨e, hk⟩ := hk
      obtain ⟨k1, k2⟩ := kp kS _ nk oS.fr hk
      obtain ⟨d1, d2⟩ := kp D0 _ nd oD hD
      obtain ⟨f1, f2⟩ := kp f _ nf oF hf
      refine ⟨⟨e, k1⟩, ?_⟩
      have ek : ks.toArray.push v = (ks ++ [v]).toArray := by simp
      have e02 : Ext G H0 H'' := e0.trans e2
      have gk : GOk G H' := g0.step e0
      refine keys_run all oS oD oF nD nF g0 step ds xr ur (done ++ [d]) (ws ++ [w]) (ks ++ [v]) _ H'' (fun y hy => hs y (List.mem_cons_of_mem _ hy)) ?_ e02 ((Heap.get?_update_ne _ _ _ _ nF).trans f1) f2 ?_ k2 ((Heap.get?_update_ne _ _ _ _ nD).trans d1) d2 vr h2 (vals_snoc vw rw') ?_ ?_
      · exact I2.turned (t' := s''.toks) (fun b o hb e => (Heap.get?_update_ne _ _ _ _ hb).trans e) k2 oS.loc (.inr oS.new) oS.cel oS.pin
      · exact ⟨_, by rw [← ek]; exact get?_update_seq k1 (·.push v)⟩
      · rw [List.map_append]
        exact dtl_snoc ((gk.evo e2).dts _ _ dw) dk
      · intro ws ks s3 H3 a1 a2 a3 a4 a5 a6 a7 a8
        exact fin ws ks s3 H3 a1 a2 a3 a4 a5 a6 a7 (by rw [List.append_assoc] at a8; exact a8)
end
end DL
set_option Elab.async false
set_option linter.all false
set_option maxRecDepth 100000
set_option maxHeartbeats 4000000
/-! ### the order of the keys -/
namespace DL
open PySem PySem.Spec PyProof.Rows L2 PySem.W PySem.SeqAt SrtO Srt
/-- the pair that a key is told as -/
noncomputable def keyP (K : PySem.W.Frag) (G : Gh) (H : Hp) (ps : List (Int × D)) (u : Value) : Int × PyData := ((tellP K G H ps (backV u)).1, (tellP K G H ps (backV u)).2.pw)
section
variable {X : Cx} {pins : List (Addr × Obj)} {σ : L2.St} {A : Around} {G : Gh} {H : Hp} {s : Shared}
theorem keys_sort (I : Inv X pins σ H s) {ps : List (Int × D)} {ws : List V} {ks vs : List Value} (ho : ∀ p ∈ ps, Ordd p.2) (hc : ∀ p ∈ ps, ∀ q ∈ ps, PyData.eqv p.2.pw q.2.pw = false → cmpD p.2.pw q.2.pw = true) (hw : Vals ws ks) (hd : DtL X.K G H (ps.map pairOf) ws)
    (hu : A.units + 110 < cLine) : (2 ≤ ks.length → ∃ κ, (∀ (Q : SortKind → Shared → Prop) (E : Value → Shared → Prop), Q κ s → wpAny (model X.prog X.w) A (keyKind' ks.toArray) Q E s) ∧ Cmp X.prog X.w A s κ (fun p => p ∈ ks.zip vs) (lt2 (pairLt (keyP X.K G H ps)))) ∧
      ks.map (fun u => tellP X.K G H ps (backV u)) = ps := by
  obtain ⟨t1, t2⟩ := tellP_map ho (fun _ h => h) hd
  have hr : ∀ x ∈ ws, ∃ t, x = V.ref t := fun x m => by
    obtain ⟨p, _, hp⟩ := t2 x m
    obtain ⟨a, ys, e, _⟩ := hp
    exact ⟨a, e⟩
  obtain ⟨e1, e2⟩ := refs_back hw hr
  have hm : ∀ v ∈ ks, backV v ∈ ws := fun v hv => by rw [e1]; exact List.mem_map.mpr ⟨v, hv, rfl⟩
  have tx : ∀ v ∈ ks, tellP X.K G H ps (backV v) ∈ ps ∧ Dt X.K G H (pairOf (tellP X.K G H ps (backV v))) (backV v) := fun v hv => tellP_spec (t2 _ (hm v hv))
  have hp : ∀ v ∈ ks, PairD s.heap v (keyP X.K G H ps v).1 (keyP X.K G H ps v).2 := fun v hv => by
    obtain ⟨a1, a2⟩ := tx v hv
    have o := ho _ a1
    have hrel : RelV (backV v) v := by
      obtain ⟨t, rfl⟩ := e2 v hv
      exact rfl
    have := Dt.readsF I (pairOf (tellP X.K G H ps (backV v))) _ v (by simp only [pairOf, D.fla, D.flaL, o.f, Bool.and_self]) a2 hrel
    exact ⟨⟨[], this⟩, o.l, o.p⟩
  refine ⟨fun h2 => ?_, ?_⟩
  · obtain ⟨fs, q1, q2, q3⟩ := firstsD hp
    refine ⟨tuples' true, fun Q E hq => ?_, fun p q hp1 hp2 => ?_⟩
    · refine PySem.W.kat_kind (T := .type "int") q1 (by omega) (fun f hm => ?_) (by rfl) ?_
      · obtain ⟨x, t, rfl⟩ := q3 f hm
        exact PySem.W.Looks.now
      · have e : (Value.type "int" != Value.type "tuple") = true := by first | decide +kernel | rfl | decide
        rw [e]
        exact hq
    · exact pairD_cmp (B := 100) (k := keyP X.K G H ps) hp (fun v hv u hu => hc _ (tx v hv).1 _ (tx u hu).1) (fun v hv => (ho _ (tx v hv).1).h) (by omega) p q (List.of_mem_zip hp1).1 (List.of_mem_zip hp2).1
  · have q : (ks.map backV).map (tellP X.K G H ps) = ps := by rw [← e1]; exact t1
    rw [List.map_map] at q
    exact q
end
end DL
set_option Elab.async false
set_option linter.all false
set_option maxRecDepth 100000
set_option maxHeartbeats 4000000
/-! ### sorted(xs, key=lambda a: (number, a)) -/
namespace DL
open PySem PySem.Spec PyProof.Rows L2 PySem.W PySem.SeqAt SrtO
theorem zip_told {K : PySem.W.Frag} {G : Gh} {H : Hp} {f : Value → Int × D} {nf : D → Int} : ∀ {xs : List D} {us : List V} {ks its : List Value}, ks.map f = xs.map (fun d => (nf d, d)) → Vals us its → DtL K G H xs us → ∀ p ∈ ks.zip its, ∃ d x, d ∈ xs ∧ (f p.1).2 = d ∧ RelV x p.2 ∧ Dt K G H d x
  | [], us, ks, its, e, hv, hd, p, hp => by
    obtain rfl : ks = [] := by simpa using e
    simp at hp
  | d :: xs, us, ks, its, e, hv, hd, p, hp => by
    obtain ⟨x, r, rfl, h1, h2⟩ := hd
    cases hv with
    | @cons _ u _ ur rx vr =>
      cases ks with
      | nil => simp at e
      | cons k ks =>
        simp only [List.map_cons, List.cons.injEq] at e
        rw [List.zip_cons_cons] at hp
        rcases List.mem_cons.mp hp with rfl | hp
        · exact ⟨d, x, List.mem_cons_self, by rw [e.1], rx, h1⟩
        · obtain ⟨d', x', a1, a2, a3, a4⟩ := zip_told e.2 vr h2 p hp
          exact ⟨d', x', List.mem_cons_of_mem _ a1, a2, a3, a4⟩
theorem out_told {K : PySem.W.Frag} {G : Gh} {H : Hp} {g : Keyed → D} : ∀ {out : List Keyed}, (∀ p ∈ out, ∃ x, RelV x p.2 ∧ Dt K G H (g p) x) → ∃ vs, Vals vs (out.map (·.2)) ∧ DtL K G H (out.map g) vs
  | [], _ => ⟨[], .nil, rfl⟩
  | p :: out, h => by
    obtain ⟨x, a1, a2⟩ := h p List.mem_cons_self
    obtain ⟨vs, b1, b2⟩ := out_told fun q hq => h q (List.mem_cons_of_mem _ hq)
    exact ⟨x :: vs, .cons a1 b1, x, vs, rfl, a2, b2⟩
theorem dtl_flat {K : PySem.W.Frag} {G G' : Gh} {H H' : Hp} (hs : ∀ a xs, H a = some (.tup xs) → H' a = some (.tup xs)) : ∀ {ds : List D} {vs : List V}, (∀ d ∈ ds, d.flat = true) → DtL K G H ds vs → DtL K G' H' ds vs
  | [], _, _, h => h
  | d :: _, _, hf, ⟨x, r, e, h1, h2⟩ => ⟨x, r, e, Dt.flat hs d x (hf d List.mem_cons_self) h1, dtl_flat hs (fun y hy => hf y (List.mem_cons_of_mem _ hy)) h2⟩
theorem dtl_length {K : PySem.W.Frag} {G : Gh} {H : Hp} : ∀ {ds : List D} {vs : List V}, DtL K G H ds vs → vs.length = ds.length
  | [], _, h => by obtain rfl := h; rfl
  | _ :: _, _, ⟨_, _, e, _, h2⟩ => by subst e; rw [List.length_cons, List.length_cons, dtl_length h2]
/-- a record of ours comes to be known: a list -/
theorem inv_told {X : Cx} {pins : List (Addr × Obj)} {σ : L2.St} {H : Hp} {s : Shared} {a : Addr} {u : HO} {h' : Heap} (I : Inv X pins σ H s) (o : OwnRec X pins a) (n : H a = none) (k : ∀ b o, b ≠ a → s.heap.get? b = some o → h'.get? b = some o) (new : ObjOk X.prog X.w (upd H a u) h' a u) (hu : ∀ o w, u ≠ .frz o w) : Inv X pins σ (upd H a u) { s with heap := h' } := by
  have ne : ∀ b w, H b = some w → b ≠ a := fun b w e z => by rw [z, n] at e; cases e
  refine I.step (g' := s.gens) (d' := s.drawn) (t' := s.toks) (ch := [a]) (fun b hb => ?_) (fun b o _ _ hc e _ => k b o (fun z => hc (by simp [z])) e) (fun b o _ _ hc e _ => ⟨o.slots, k b o (fun z => hc (by simp [z])) e⟩) (fun b o hc _ e => by rw [upd_ne (fun z => hc (by simp [z]))]; exact e)
    (fun b o hc e => ⟨o, k b o (fun z => hc (by simp [z])) e⟩) (fun b xs e => by rw [upd_ne (ne b _ e)]; exact e) (fun b o w e => by rw [upd_ne (ne b _ e)]; exact e) (fun b ps e => ⟨#[], by rw [upd_ne (ne b _ e), e]; simp⟩) (fun m hm => ?_) (fun b w e => ?_) I.bare
  · have e : b = a := by simpa using hb
    subst e
    exact ⟨.inr o.new, o.loc, o.cel, o.pin⟩
  · obtain ⟨ob, es, ep, ho, r⟩ := hm
    exact ⟨ob, es, ep, k _ ob (Ne.symm o.loc) ho, r⟩
  · by_cases hb : b = a
    · subst hb
      rw [upd_same] at e
      cases e
      exact new
    · rw [upd_ne hb] at e
      refine (I.hok b w e).stay (fun c v hc q => k c v ?_ q) (fun d q => by rw [upd_ne (ne d _ q)]; exact q) fun d xs q => by rw [upd_ne (ne d _ q)]; exact q
      rcases hc with z | z
      · rw [z]; exact hb
      · exact ne c _ z
theorem own_of {X : Cx} {pins : List (Addr × Obj)} {σ : L2.St} {H : Hp} {s : Shared} (I : Inv X pins σ H s) {a : Addr} (h : s.heap.objs.size ≤ a) : OwnRec X pins a := by
  have fr : a ∉ frs X.stack := fun z => by
    rcases List.mem_cons.mp (I.stkSub _ z) with e | e
    · have h1 := I.lt
      rw [← e] at h1
      exact Nat.lt_irrefl _ (Nat.lt_of_lt_of_le h1 h)
    · exact I.nofs h e
  refine ⟨fun z => ?_, Nat.le_trans I.sz h, fun x c e z => ?_, fun p hp z => ?_, fr⟩
  · have h1 := I.lt
    rw [← z] at h1
    exact Nat.lt_irrefl _ (Nat.lt_of_lt_of_le h1 h)
  · exact (I.fpOk (H' := fun _ => none) h rfl).2.2.2.2.1 x c e z
  · exact (I.fpOk (H' := fun _ => none) h rfl).2.2.2.2.2 p hp z
end DL
set_option Elab.async false
set_option linter.all false
set_option maxRecDepth 100000
set_option maxHeartbeats 4000000
/-! ### a dict whose keys are data: {x: True for x in xs} -/
namespace PySem.SeqAt
open PySem.W PyProof.Rows
mutual
noncomputable def nkP : PyData → NestedKey
  | .int i => .num i
  | .str x => .text x
  | .tuple ds => .tup (nkPs ds)
  | _ => .none
noncomputable def nkPs : List PyData → List NestedKey
  | [] => []
  | d :: ds => nkP d :: nkPs ds
end
mutual
theorem Reads.nested {h : Heap} : ∀ (d : PyData) (v : Value) (as : List Addr), plD d = true → Reads h v d as → NestedIs h (nkP d) v
  | .int i, v, as, _, r => by cases r; exact .int _ _
  | .str x, v, as, _, r => by cases r; exact .text _ _
  | .tuple xs, v, as, p, r => by
    simp only [plD] at p
    cases r with
    | tuple h1 h2 h3 h4 => simp only [nkP]; exact .tup h1 h2 h3 (Reads.nestedA xs _ _ p h4)
  | .none, _, _, p, _ => by simp [plD] at p
  | .bool _, _, _, p, _ => by simp [plD] at p
  | .list _, _, _, p, _ => by simp [plD] at p
  | .dict _, _, _, p, _ => by simp [plD] at p
theorem Reads.nestedA {h : Heap} : ∀ (ds : List PyData) (vs : List Value) (as : List Addr), plA ds = true → ReadsAll h vs ds as → NestedAll h (nkPs ds) vs
  | [], _, _, _, r => by cases r; exact .nil
  | d :: ds, _, _, p, r => by
    simp only [plA, Bool.and_eq_true] at p
    cases r with
    | cons r1 r2 => simp only [nkPs]; exact .cons (Reads.nested d _ _ p.1 r1) (Reads.nestedA ds _ _ p.2 r2)
end
mutual
theorem nkP_depth : ∀ d : PyData, (nkP d).depth ≤ d.depth
  | .int i => by simp [nkP, NestedKey.depth]
  | .str x => by simp [nkP, NestedKey.depth]
  | .tuple xs => by
    simp only [nkP, NestedKey.depth, PyData.depth]
    have := nkPs_depth xs
    omega
  | .none => by simp [nkP, NestedKey.depth]
  | .bool _ => by simp [nkP, NestedKey.depth]
  | .list _ => by simp [nkP, NestedKey.depth]
  | .dict _ => by simp [nkP, NestedKey.depth]
theorem nkPs_depth : ∀ ds : List PyData, NestedKey.depthAll (nkPs ds) ≤ PyData.depthAll ds
  | [] => by simp [nkPs, NestedKey.depthAll]
  | d :: ds => by
    simp only [nkPs, NestedKey.depthAll, PyData.depthAll]
    have h1 := nkP_depth d
    have h2 := nkPs_depth ds
    omega
end
mutual
theorem nkP_inj : ∀ (d e : PyData), plD d = true → plD e = true → nkP d = nkP e → d = e
  | .int i, e, _, p, h => by cases e <;> simp_all [nkP, plD]
  | .str x, e, _, p, h => by cases e <;> simp_all [nkP, plD]
  | .tuple xs, e, q, p, h => by
    cases e with
    | tuple ys =>
      simp only [plD] at q p
      simp only [nkP, NestedKey.tup.injEq] at h
      rw [nkPs_inj xs ys q p h]
    | _ => simp_all [nkP, plD]
  | .none, _, p, _, _ => by simp [plD] at p
  | .bool _, _, p, _, _ => by simp [plD] at p
  | .list _, _, p, _, _ => by simp [plD] at p
  | .dict _, _, p, _, _ => by simp [plD] at p
theorem nkPs_inj : ∀ (ds es : List PyData), plA ds = true → plA es = true → nkPs ds = nkPs es → ds = es
  | [], es, _, p, h => by cases es <;> simp_all [nkPs]
  | d :: ds, es, q, p, h => by
    cases es with
    | nil => simp [nkPs] at h
    | cons e es =>
      simp only [plA, Bool.and_eq_true] at q p
      simp only [nkPs, List.cons.injEq] at h
      rw [nkP_inj d e q.1 p.1 h.1, nkPs_inj ds es q.2 p.2 h.2]
end
end PySem.SeqAt
namespace DL
open PySem PySem.Spec PyProof.Rows L2 PySem.W PySem.SeqAt SrtO
/-- the entry of a key -/
noncomputable def ke (p : D × Addr) : NestedKey × Addr × Value := (nkP p.1.pw, p.2, .bool true)
/-- the dict's own object -/
noncomputable def KDict (X : Cx) (o : Obj) (ks : List (D × Addr)) : Prop :=
  o.ExactDict ∧ ∃ es ep, o.data = .dict es ep ∧ es.toList = (ks.map ke).map (entryOfKey (nestedKind X.prog X.w)) ∧ ((ks.map ke).map (·.1)).Nodup
noncomputable def toldO (A : Addr) (o : Obj) : HO := .ext fun h => h.get? A = some o
/-- one key more, if it is not there -/
noncomputable def addK (ks : List (D × Addr)) (d : D) (a : Addr) : List (D × Addr) := if (atKey (ks.map ke) (nkP d.pw)).isSome then ks else ks ++ [(d, a)]
/-- what the keys are -/
noncomputable def KIs (K : PySem.W.Frag) (G : Gh) (H : Hp) (ks : List (D × Addr)) : Prop := ∀ p ∈ ks, p.1.fla = true ∧ plD p.1.pw = true ∧ p.1.pw.depth ≤ 8 ∧ Dt K G H p.1 (.ref p.2)
theorem storedH_ke (ks : List (D × Addr)) (d : D) (a : Addr) : storedH (ks.map ke) (nkP d.pw) a (.bool true) = (addK ks d a).map ke := by
  unfold storedH addK
  split
  · rw [List.map_map]
    refine List.map_congr_left fun p _ => ?_
    show putAt (nkP d.pw) (.bool true) (ke p) = ke p
    unfold putAt ke
    dsimp only
    split <;> rfl
  · rw [List.map_append]
    rfl
theorem ok_toldO {P : Program} {w : World} {H : Hp} {h : Heap} {A : Addr} {o : Obj} (e : h.get? A = some o) : ObjOk P w H h A (toldO A o) := ⟨e, ⟨o, e⟩, fun _ _ p k => k _ p⟩
theorem KDict.of {X : Cx} {pins : List (Addr × Obj)} {σ : L2.St} {H : Hp} {s : Shared} {A : Addr} {o : Obj} {ks : List (D × Addr)} {G : Gh} (I : Inv X pins σ H s) (hA : H A = some (toldO A o)) (k : KDict X o ks) (t : KIs X.K G H ks) : s.heap.DictOfH (nestedKind X.prog X.w) A (ks.map ke) := by
  obtain ⟨k1, es, ep, k2, k3, k4⟩ := k
  have ho : s.heap.get? A = some o := (show ObjOk X.prog X.w H s.heap A (toldO A o) from I.hok A _ hA).1
  refine ⟨o, es, ep, ho, k1, k2, k3, fun x hx => ?_, k4⟩
  obtain ⟨p, hp, rfl⟩ := List.mem_map.mp hx
  obtain ⟨t1, t2, t3, t4⟩ := t p hp
  exact ⟨Reads.nested _ _ _ t2 (Dt.readsF I p.1 (.ref p.2) (.ref p.2) t1 t4 rfl), Nat.le_trans (nkP_depth _) t3⟩
theorem d_setK {X : Cx} {pins : List (Addr × Obj)} {σ : L2.St} {H : Hp} {s : Shared} {E : Value → Shared → Prop} {A : Addr} {o : Obj} {ks : List (D × Addr)} {d : D} {p : Addr} {G : Gh} {Q : Unit → Shared → Prop} (I : Inv X pins σ H s) (hu : X.A.units + 8 < cLine)
    (hA : H A = some (toldO A o)) (k : KDict X o ks) (hz : ks.length ≤ sizeLine) (t : KIs X.K G H ((d, p) :: ks)) (h : ∀ s' o', KDict X o' (addK ks d p) → Inv X pins σ (upd H A (toldO A o')) s' → Q () s') : wpAny (model X.prog X.w) X.A (dictSet A (.ref p) (.bool true)) Q E s := by
  have hd := KDict.of I hA k (fun q hq => t q (List.mem_cons_of_mem _ hq))
  obtain ⟨t1, t2, t3, t4⟩ := t (d, p) List.mem_cons_self
  refine wpAny_dictSet_heap (knd := nestedKind X.prog X.w) (k := nkP d.pw) (hsz := by rw [List.length_map]; exact hz) hu ⟨Reads.nested _ _ _ t2 (Dt.readsF I d (.ref p) (.ref p) t1 t4 rfl), Nat.le_trans (nkP_depth _) t3⟩ hd fun h' hd' hs => ?_
  rw [storedH_ke] at hd'
  obtain ⟨o', es, ep, q1, q2, q3, q4, _, q5⟩ := hd'
  refine h _ o' ⟨q2, es, ep, q3, q4, q5⟩ (d_write (t' := s.toks + (nkP d.pw).draws) I (by rw [hA]; exact True.intro) hs ⟨o', q1⟩ (ok_toldO q1))
/-- the transformer: the keys of a comprehension {k: True for target in iter} -/
noncomputable def tKc (X : Cx) (wi : TI) (g : TG) (tk tv : TE) (vs : List Nat) : TE := fun σ H Q => wi σ H fun J H1 => ∀ A, H1 A = none → (A == sysModules) = false → ∃ W : Nat → Nat → Hp → Prop, (∃ m, ∀ o, KDict X o [] → W 0 m (upd H1 A (toldO A o))) ∧ ∀ i m H, W i m H →
  (J.stop i H ∧ Q (.ref A) H) ∨ (J.go i H ∧ ∃ Nx : Hp → Prop, (∀ H', Nx H' → ∃ m', m' < m ∧ W (i + 1) m' H') ∧ ∀ x H', J.yld i H x H' → g x (wipe σ vs) H' fun σ2 H2 => wipe σ2 vs = wipe σ vs ∧
    tk σ2 H2 fun y H4 => tv σ2 H4 fun z H5 => z = .bl true ∧ ∃ (o : Obj) (ks : List (D × Addr)) (d : D) (p : Addr) (G : Gh), y = .ref p ∧ H5 A = some (toldO A o) ∧ KDict X o ks ∧ ks.length ≤ sizeLine ∧ KIs X.K G H5 ((d, p) :: ks) ∧ ∀ o', KDict X o' (addK ks d p) → Nx (upd H5 A (toldO A o')))
section
variable {X : Cx} {pins : List (Addr × Obj)} {s : Shared} {σ : L2.St} {H : Hp} {Q : VK} {kx vx tg iter : Expr} {scope : Scope} {own : List (Str × Nat)} {pos pos' : Pos} {wi : TI} {g : TG} {tk tv : TE} {use : Option (Value → Sem Unit)} {Qf : Value → Shared → Prop}
theorem kc_core (hc : X.calm = true) (hN : X.N.Nodup) (hu : X.A.units + 8 < cLine) (I : Inv X pins σ H s) (hi : PI X tg iter wi) (ok : BlkOk X.N X.env.scope scope own)
    (hg : ∀ (s : Shared) (H : Hp) (C : Addr) (cl : List (Str × Addr)) (fp : List Addr), PG (X.blk s H scope (compEnvC scope cl C X.env) fp) tg g) (hk : ∀ (s : Shared) (H : Hp) (C : Addr) (cl : List (Str × Addr)) (fp : List Addr), PE (X.blk s H scope (compEnvC scope cl C X.env) fp) kx tk)
    (he : ∀ (s : Shared) (H : Hp) (C : Addr) (cl : List (Str × Addr)) (fp : List Addr), PE (X.blk s H scope (compEnvC scope cl C X.env) fp) vx tv) (hs : ∀ x, foldedSetIterable iter X.env x = pure x) (h : tKc X wi g tk tv (own.map (·.2)) σ H Q)
    (hRR : ∀ A C s' m H', Inv X pins σ H' s' → Q (.ref A) H' → s'.heap.Ns C m → FpOk X pins H' C → compPost (model X.prog X.w) X.A X.xe use Qf (.ref A) C (.ok .next) s') :
    wpAny (model X.prog X.w) X.A (comprehension (.DictComp kx vx [⟨tg, iter, [], 0⟩] scope pos) scope X.env pos' newDict false (eval iter X.env) use) Qf X.xe s := by
  have cells : ∀ y ∈ scope.names, y.2 = .free → ∃ c, X.env.cells.lookup y.1 = some c := fun y hy e => (ok.free y hy e).elim (fun k => I.ok.has _ (.inl k)) fun k => I.ok.has _ (.inr k)
  refine wpAny_comprehension_free (use := use) rfl hs (closure_ok cells) ok.kind (fun y hy e => (ok.uniq y hy).trans (by rw [e])) (thn (hi.run pins s σ H _ I h) fun xv s1 hx => thn hx fun itv s2 ⟨it, fp, tn, J, H2, ei, I2, T, st2, f2, q⟩ => ?_)
  subst ei
  refine wpAny_newObj_type (newEnv_comp ?_)
  have nA : H2 s2.heap.objs.size = none := I2.hok.fresh (Nat.le_refl _)
  obtain ⟨W, ⟨m0, w0⟩, turn⟩ := q _ nA (beq_eq_false_iff_ne.mpr (Nat.ne_of_gt I2.big))
  let o0 : Obj := { cls := .type "dict", data := .dict #[] }
  have hA : (s2.heap.push o0).get? s2.heap.objs.size = some o0 := Heap.get?_push_size _ rfl
  replace w0 := w0 o0 ⟨⟨rfl, rfl, rfl⟩, #[], 0, rfl, rfl, List.nodup_nil⟩
  let s3 : Shared := { s2 with heap := s2.heap.push o0 }
  have I3 : Inv X pins σ (upd H2 s2.heap.objs.size (toldO s2.heap.objs.size o0)) s3 := I2.laid (t' := s2.toks) (fun b o e => Heap.get?_push_of_some _ e) (Nat.le_refl _) (ok_toldO hA)
  have lt : ∀ b ∈ fp, b < s2.heap.objs.size := fun b hb => let ⟨_, e, _⟩ := T.obj _ _ st2 b hb; Heap.lt_size e
  generalize hH3 : upd H2 s2.heap.objs.size (toldO s2.heap.objs.size o0) = H3 at I3 w0
  have f3 : ∀ b ∈ fp, FpOk X pins H3 b ∧ b < s3.heap.objs.size := fun b hb =>
    ⟨⟨by rw [← hH3, upd_ne (Nat.ne_of_lt (lt b hb))]; exact (f2 b hb).1, (f2 b hb).2⟩, Nat.lt_of_lt_of_le (Nat.lt_succ_of_lt (lt b hb)) (Nat.le_of_eq (Heap.size_push _ _).symm)⟩
  have st3 : tn 0 s3.heap := T.keep _ _ _ st2 fun b _ o e => Heap.get?_push_of_some _ e
  have I4 := block_start I3 ok hN f3
  have pg := hg s3 H3 s3.heap.objs.size (cellsFrom (s3.heap.objs.size + 1) scope.names (cloFrom X.env.cells scope.names [])) fp
  have pk := hk s3 H3 s3.heap.objs.size (cellsFrom (s3.heap.objs.size + 1) scope.names (cloFrom X.env.cells scope.names [])) fp
  have pe := he s3 H3 s3.heap.objs.size (cellsFrom (s3.heap.objs.size + 1) scope.names (cloFrom X.env.cells scope.names [])) fp
  have nfp : ∀ b ∈ fp, H3 b = none := fun b hb => (f3 b hb).1.1
  show codeAny _ _ (.compStart (.DictComp kx vx [⟨tg, iter, [], 0⟩] scope pos) 0 (.ref it) (.ref s2.heap.objs.size) (compEnvC scope (cellsFrom (s3.heap.objs.size + 1) scope.names (cloFrom X.env.cells scope.names [])) s3.heap.objs.size X.env)) (compPost (model X.prog X.w) X.A X.xe use Qf (.ref s2.heap.objs.size) s3.heap.objs.size)
    { s3 with heap := pushCells (s3.heap.push { cls := .type "dict", data := .dict #[] }) scope.names }
  generalize s2.heap.objs.size = A at nA w0 turn ⊢
  have st4 : tn 0 (pushCells (s3.heap.push { cls := .type "dict", data := .dict #[] }) scope.names) := T.keep _ _ _ st3 fun b _ o e => pushCells_keeps _ _ _ _ (Heap.get?_push_of_some _ e)
  generalize hce : compEnvC scope (cellsFrom (s3.heap.objs.size + 1) scope.names (cloFrom X.env.cells scope.names [])) s3.heap.objs.size X.env = ce at I4 pg pk pe ⊢
  have cL : ce.locals = s3.heap.objs.size := by rw [← hce]; rfl
  have stat : ∀ {σ' : L2.St} {H' : Hp} {s' : Shared}, Inv (X.blk s3 H3 scope ce fp) [] σ' H' s' → (∀ b ∈ fp, H' b = none) → ∀ b ∈ fp, FpOk (X.blk s3 H3 scope ce fp) [] H' b := fun I' hn b hb =>
    ⟨hn b hb, (I'.ok.exf b hb).1, I'.ok.exfs b hb, .inl hb, fun x c e => (I'.ok.exf b hb).2 x c e, fun p hp => absurd (show p ∈ ([] : List (Addr × Obj)) ++ [] from hp) (by simp)⟩
  have loop : codeAny (model X.prog X.w) X.A (.compLoop (.DictComp kx vx [⟨tg, iter, [], 0⟩] scope pos) 0 (.ref it) (.ref A) ce) (compPost (model X.prog X.w) X.A X.xe use Qf (.ref A) s3.heap.objs.size) { s3 with heap := pushCells (s3.heap.push { cls := .type "dict", data := .dict #[] }) scope.names } := by
    refine compLoop_anyD (fun n s' => ∃ i H', Inv (X.blk s3 H3 scope ce fp) [] (wipe σ (own.map (·.2))) H' s' ∧ tn i s'.heap ∧ (∀ b ∈ fp, H' b = none) ∧ W i n H') ?_ m0 ⟨0, H3, I4, st4, nfp, w0⟩
    rintro n s5 ⟨i, H5, I5, st5, n5, w5⟩
    rcases turn i n H5 w5 with ⟨stop, qq⟩ | ⟨go, Nx, hNx, step⟩
    · refine thnF (T.done (X.blk s3 H3 scope ce fp) rfl rfl rfl hc i [] s5 _ H5 (fun _ _ => False) I5 (stat I5 n5) st5 stop) fun r s6 ⟨hr, I6⟩ => ?_
      subst hr
      have I7 : Inv X pins σ H5 s6 := I3.call' (ch := fp) I6.os I6.base I6.hok I6.bare fun b hb => ⟨(f3 b hb).1.2.2.2.1, (f3 b hb).1.2.1, (f3 b hb).1.2.2.2.2.1, (f3 b hb).1.2.2.2.2.2⟩
      have nC : H5 s3.heap.objs.size = none := cL ▸ (show H5 ce.locals = none from I6.free)
      obtain ⟨m, hn, _⟩ := I6.loc
      exact hRR A s3.heap.objs.size s6 m H5 I7 qq (cL ▸ (show s6.heap.Ns ce.locals m from hn)) (I3.fpOk (Nat.le_refl _) nC)
    · refine thnF (T.item (X.blk s3 H3 scope ce fp) rfl rfl rfl hc i [] s5 _ H5 (fun _ _ => False) I5 (stat I5 n5) st5 go) fun r s6 ⟨u, hr, h6⟩ => ?_
      subst hr
      refine thnF h6 fun _ s7 ⟨x, H7, I7, r7, y7, st7, n7⟩ => ?_
      refine thnF (pg.run _ s7 _ H7 x u _ (I7.pinned (stat I7 n7) (T.obj _ _ st7)) r7 (step x H7 y7)) fun _ s8 ⟨σ8, H8, I8, hw8, q8⟩ => ?_
      rw [List.forIn_nil]
      refine wpAny_pure ?_
      rw [if_pos rfl]
      refine thnF (pk.run _ s8 σ8 H8 _ I8 q8) fun z s10 ⟨yk, H10, I10, r10, q10⟩ => ?_
      refine thnF (pe.run _ s10 σ8 H10 _ I10 q10) fun z2 s11 ⟨yv, H11, I11, r11, ez, o, ks, d, p, G, ek, hA11, k11, hz11, t11, nx⟩ => ?_
      subst ez
      subst ek
      obtain rfl : z = Value.ref p := r10
      obtain rfl : z2 = Value.bool true := r11
      refine d_setK (X := X.blk s3 H3 scope ce fp) I11 hu hA11 k11 hz11 t11 fun s12 o' k' I' => ?_
      obtain ⟨m', hm, w'⟩ := hNx _ (nx o' k')
      have pin' : ∀ b ∈ fp, ∀ o, s7.heap.get? b = some o → s12.heap.get? b = some o ∧ (upd H11 A (toldO A o')) b = none := fun b hb o e =>
        let z := I'.pin (b, o) (List.mem_append_right _ (List.mem_append_right _ (mem_pinsAt hb e)))
        ⟨z.1, z.2.1⟩
      refine ⟨m', hm, i + 1, _, (I'.unpinned (pins := [])).weak (by rw [← hw8, wipe_length]) (fun j v e => ?_), T.keep _ _ _ st7 fun b hb o e => (pin' b hb o e).1, fun b hb => ?_, w'⟩
      · rw [← hw8] at e
        exact (wipe_some e).1
      · obtain ⟨o, e, _⟩ := T.obj _ _ st7 b hb
        exact (pin' b hb o e).2
  exact codeAny_compStart_dict loop (T.self X.A 0 _ _ _ st4 loop)
/-- y = {k: True for ..}, y a local -/
theorem ps_setKc {i : Nat} {y : Str} {py spos : Pos} (hc : X.calm = true) (hN : X.N.Nodup) (hu : X.A.units + 8 < cLine) (hy : X.N[i]? = some y) (hyl : X.env.scope.names.lookup y = some .local)
    (hsw : swapsWith (.DictComp kx vx [⟨tg, iter, [], 0⟩] scope pos) (some (.Name y py)) spos.line X.env = pure true) (hi : PI X tg iter wi) (ok : BlkOk X.N X.env.scope scope own)
    (hg : ∀ (s : Shared) (H : Hp) (C : Addr) (cl : List (Str × Addr)) (fp : List Addr), PG (X.blk s H scope (compEnvC scope cl C X.env) fp) tg g) (hk : ∀ (s : Shared) (H : Hp) (C : Addr) (cl : List (Str × Addr)) (fp : List Addr), PE (X.blk s H scope (compEnvC scope cl C X.env) fp) kx tk)
    (he : ∀ (s : Shared) (H : Hp) (C : Addr) (cl : List (Str × Addr)) (fp : List Addr), PE (X.blk s H scope (compEnvC scope cl C X.env) fp) vx tv) (hs : ∀ x, foldedSetIterable iter X.env x = pure x := by intro _; rfl) :
    PS X (.Assign [.Name y py] (.DictComp kx vx [⟨tg, iter, [], 0⟩] scope pos) spos) (tAsg (tKc X wi g tk tv (own.map (·.2))) (gName i)) := by
  refine ⟨fun pins s σ H D I h => ?_⟩
  rw [exec_Assign_Name_used _ _ _ _ hsw]
  refine wpAny_bind (wpAny_standAt (wpAny_bind ?_))
  show wpAny _ X.A (do let _ ← comprehension (.DictComp kx vx [⟨tg, iter, [], 0⟩] scope pos) scope X.env (firstIterPos [⟨tg, iter, [], 0⟩] pos) newDict false (eval iter X.env) (some (assign (.Name y py) X.env))) _ _ s
  have h : tKc X wi g tk tv (own.map (·.2)) σ H (fun x H1 => gName i x σ H1 D.nx) := h
  refine wpAny_bind (thn (kc_core (Qf := fun _ s' => SP X pins D .next s') hc hN hu I hi ok hg hk he hs h fun L C s' m H' I' q hn f => ?_) fun _ s' hq => wpAny_pure (wpAny_pure hq))
  show wpAny _ _ (assign (.Name y py) X.env (.ref L)) _ _ _
  refine wpAny_assign_Name (store_ok2 (v := V.ref L) I' hN hy (.inl hyl) rfl (fun s2 I2 ⟨a, sb, ha⟩ => ?_) (.inr hyl))
  obtain ⟨f0, f1, f2, f3, f4, f5⟩ := f
  have haC : C ≠ a := ha.elim (fun z => by rw [z]; exact f1) fun z e => f4 y a z e.symm
  exact ⟨m, hn.sameBut sb haC, fun h3 sb3 => ⟨_, H', I2.turned (t' := s2.toks) (fun b o hb e => (sb3.2 b hb).trans e) f0 f1 f3 f4 f5, q⟩⟩
end
end DL
set_option Elab.async false
set_option linter.all false
set_option maxRecDepth 100000
set_option maxHeartbeats 4000000
namespace PySem.W
open PySem PySem.Calls PyProof.Rows
section
variable {prog : Program} {w : World} {A : Around} {E : Value → Shared → Prop} {s : Shared} {T : String} {r d : Addr} {n : Nat} {P : Nat → Value → Prop} {OK : Heap → Prop}
/-- a source collected, and the heap is longer then -/
theorem collect_src {R : List Value → Shared → Prop} (K : KdlSrc prog w T r d n P OK) (hh : A.handled = none) (hok : OK s.heap) (hn : n ≤ sizeLine)
    (h : ∀ (h' : Heap) (tk : Nat) (acc : Array Value), (∀ b o, s.heap.get? b = some o → h'.get? b = some o) → s.heap.objs.size < h'.objs.size → ItemsOf P acc n → R acc.toList { s with heap := h', toks := tk }) : wpAny (model prog w) A (collect (.ref r)) R E s := by
  obtain ⟨tr, td⟩ := K.there _ hok
  have fin : ∀ {s' : Shared}, (∃ (h' : Heap) (tk : Nat) (acc' : Array Value) (c' : Nat), s' = { s with heap := h', toks := tk } ∧ (∀ b o, s.heap.get? b = some o → h'.get? b = some o) ∧ h'.get? s.heap.objs.size = some { cls := .type "list", dict := none, data := .seq acc' c', slots := #[] } ∧ ItemsOf P acc' n) →
      ∀ (f : Obj → Sem (List Value)), (∀ o vs c, o.data = .seq vs c → f o = pure vs.toList) → wpAny (model prog w) A (load s.heap.objs.size >>= f) R E s' := fun ⟨h', tk, acc', c', e, hk, hS, hi⟩ f hf => by
    subst e
    refine wpAny_bind (wpAny_load hS ?_)
    rw [hf _ acc' c' rfl]
    exact wpAny_pure (h h' tk acc' hk (Heap.lt_size hS) hi)
  unfold collect
  refine wpAny_bind (wpAny_runValue (codeAny_builtin entry_proto_collect' ?_))
  rw [Around.under_plainId PySem.F.plain_proto_collect _]
  show wpAny _ A.in1 (newList [] >>= fun l => again (.builtin "list.__iadd__" ⟨[l, .ref r], []⟩)) _ _ s
  refine wpAny_bind (wpAny_newObj_type (wpAny_pure ⟨plainId_quiet PySem.F.plain_list_iadd _, codeAny_builtin entry_list_iadd' ?_⟩))
  rw [Around.under_plainId PySem.F.plain_list_iadd _]
  have hS₁ : (s.heap.push { cls := .type "list", data := .seq ([] : List Value).toArray }).get? s.heap.objs.size = some { cls := .type "list", data := .seq #[] } := Heap.get?_push_size _ rfl
  show wpAny _ A.in1 (Builtin.List.listExtendWith (.ref s.heap.objs.size) (.ref r) (.ref s.heap.objs.size)) _ _ _
  have key := kdl_extend (A := A) (s := { s with heap := s.heap.push { cls := .type "list", data := .seq ([] : List Value).toArray } })
    (R := fun (q : Result) (s' : Shared) => q = .ok (.ret (.ref s.heap.objs.size)) ∧ ∃ (h' : Heap) (tk : Nat) (acc' : Array Value) (c' : Nat), s' = { s with heap := h', toks := tk } ∧ (∀ b o, s.heap.get? b = some o → h'.get? b = some o) ∧ h'.get? s.heap.objs.size = some { cls := .type "list", dict := none, data := .seq acc' c', slots := #[] } ∧ ItemsOf P acc' n)
    K hh (K.keep _ _ hok fun b _ o e => Heap.get?_push_of_some _ e) s.heap.objs.size (Nat.ne_of_gt tr) (Nat.ne_of_gt td) (.ref s.heap.objs.size) 0 hS₁
    (fun h' tk acc' c' hk hS' hacc => ⟨rfl, h', tk, acc', c', rfl, fun b o e => hk b o (Nat.ne_of_lt (Heap.lt_size e)) (Heap.get?_push_of_some _ e), hS', hacc⟩) hn
  refine wpAny_mono key (fun q s' x => ?_) fun e s' x => nomatch x.1
  cases q with
  | done f =>
    obtain ⟨e, x⟩ := x
    cases e
    show wpAny _ A (load s.heap.objs.size >>= _) _ _ _
    refine fin x _ fun o vs c e => ?_
    try dsimp only
    rw [e]
  | again c₁ =>
    refine ⟨x.1, codeAny_mono x.2 fun q s₂ ⟨e, y⟩ => ?_⟩
    subst e
    show wpAny _ A (load s.heap.objs.size >>= _) _ _ _
    refine fin y _ fun o vs c e => ?_
    try dsimp only
    rw [e]
theorem src_raw {es : Array DictEntry} {ep : Nat} (lo : (d == sysModules) = false) : KdlSrc prog w "dict" d d es.size (fun i v => ∃ hi : i < es.size, v = es[i].key) (fun h => h.DictRaw d es ep) where
  type := fun _ hm => hm.typeIs
  there := fun _ ⟨_, ho, _⟩ => ⟨Heap.lt_size ho, Heap.lt_size ho⟩
  keep := fun _ _ hm hk => hm.at fun o e => hk d (.inl rfl) o e
  notList := by decide
  notTuple := by decide
  hint := fun _ _ _ _ hm hq => kdl_hint_dict hm.typeIs hq
  iter := fun _ _ hh hm => ⟨_, _, (fun _ _ hq => wpAny_pyIter_dict_raw lo hm hq), Walks.rawKeys hh _ d (Nat.ne_of_lt (let ⟨_, ho, _⟩ := hm; Heap.lt_size ho)) es ep, ⟨⟨_, Heap.get?_push_size _ rfl, rfl, rfl⟩, hm.at fun o e => Heap.get?_push_of_some _ e⟩⟩
end
end PySem.W
namespace DL
open PySem PySem.Spec PyProof.Rows L2 PySem.W PySem.SeqAt SrtO
theorem collect_keys {X : Cx} {pins : List (Addr × Obj)} {σ : L2.St} {H : Hp} {s : Shared} {A : Addr} {o : Obj} {ks : List (D × Addr)} {A1 : Around} (I : Inv X pins σ H s) (hh : A1.handled = none) (lo : (A == sysModules) = false) (hA : H A = some (toldO A o)) (k : KDict X o ks) (hz : ks.length ≤ sizeLine)
    {R : List Value → Shared → Prop} {E : Value → Shared → Prop} (h : ∀ (h' : Heap) (tk : Nat), (∀ b o, s.heap.get? b = some o → h'.get? b = some o) → s.heap.objs.size ≤ h'.objs.size → R (ks.map fun p => Value.ref p.2) { s with heap := h', toks := tk }) : wpAny (model X.prog X.w) A1 (collect (.ref A)) R E s := by
  obtain ⟨k1, es, ep, k2, k3, k4⟩ := k
  have ho : s.heap.get? A = some o := (show ObjOk X.prog X.w H s.heap A (toldO A o) from I.hok A _ hA).1
  have hsz : es.size = ks.length := by rw [← Array.length_toList, k3, List.length_map, List.length_map]
  refine collect_src (src_raw (es := es) (ep := ep) lo) hh ⟨o, ho, k1, k2⟩ (by omega) fun h' tk acc hk hlt hi => ?_
  have e : acc.toList = ks.map fun p => Value.ref p.2 := by
    refine List.ext_getElem? fun i => ?_
    by_cases hl : i < acc.size
    · have hl2 : i < ks.length := by rw [← hsz, ← hi.1]; exact hl
      obtain ⟨hi', e⟩ := hi.2 i acc[i] (by simp [hl])
      have e2 : es.toList[i]? = some es[i] := by simp [hi']
      rw [k3, List.map_map, List.getElem?_map, List.getElem?_eq_getElem hl2] at e2
      have e3 := Option.some.inj e2
      rw [List.getElem?_map, List.getElem?_eq_getElem hl2]
      have : acc.toList[i]? = some acc[i] := by simp [hl]
      rw [this, e, ← e3]
      rfl
    · have hl2 : ks.length ≤ i := by rw [← hsz, ← hi.1]; omega
      rw [List.getElem?_eq_none (by rw [Array.length_toList]; omega), List.getElem?_eq_none (by rw [List.length_map]; exact hl2)]
  rw [e]
  exact h h' tk hk (Nat.le_of_lt hlt)
end DL
set_option Elab.async false
set_option linter.all false
set_option maxRecDepth 100000
set_option maxHeartbeats 4000000
/-! ### y = {x: True for x in xs}; return sorted(y, key=lambda a: (number, a)) -/
namespace DL
open PySem PySem.Spec PyProof.Rows L2 PySem.W PySem.SeqAt SrtO
section
variable {X : Cx} {F : Fr} {k j : Nat} {N : List Str} {a : Str} {T : List (Addr × Str)} {params : Arguments} {body : Expr} {scope : Scope} {p pos kpos lpos : Pos} {e : Expr} {tb : TD}
theorem sortKey_core {xs : List D} {nf : D → Int} {κ : List D → Prop} {A0 : Addr} {pins : List (Addr × Obj)} {σ : L2.St} {H : Hp} {s : Shared} {Q : VK} {G : Gh} {ρ : List Sl} (I1 : Inv X pins σ H s) (r : Rel F G H σ ρ)
    (LP : LamP X.mg X.base T X.env.code (X.env.qual ++ "<lambda>")) (hT : F.G.tbs = T) (hr : Room (k + 4) X.A) (hgd : X.A.guards = some []) (hg : Gl X "sorted") (hm : X.mg "sorted" = none) (S : FnScope N [a] scope) (hnf : ∀ y ∈ scope.names, y.2 ≠ .free)
    (ha : PA X [e] (fun σ H Q => σ[j]? = some (some (V.ref A0)) ∧ Q [V.ref A0] H)) (hj : σ[j]? = some (some (V.ref A0)))
    (hx : ∀ d ∈ xs, Ordd d ∧ ∀ κ : D → Prop, κ (pairOf (nf d, d)) → tb (enterS N.length [d]) κ) (hc : ∀ d ∈ xs, ∀ d' ∈ xs, PyData.eqv d.pw d'.pw = false → cmpD d.pw d'.pw = true) (hk : ∀ qs : List (Int × D), Srtd ltPD qs → Stb ltPD qs (xs.map fun d => (nf d, d)) → κ (qs.map (·.2)))
    (hcol : ∀ (s2 : Shared) (H2 : Hp), Inv X pins σ H2 s2 → Ext G H H2 → ∃ its us2, Vals us2 its ∧ its.length ≤ sizeLine ∧ DtL X.K G H2 xs us2 ∧ ∀ (R : List Value → Shared → Prop) (E : Value → Shared → Prop), (∀ (h1 : Heap) (tk : Nat), (∀ b o, s2.heap.get? b = some o → h1.get? b = some o) → s2.heap.objs.size ≤ h1.objs.size → R its { s2 with heap := h1, toks := tk }) → wpAny (model X.prog X.w) X.A.in1 (collect (.ref A0)) R E s2)
    (q : ∀ ds p vs H', κ ds → Ext G H H' → H p = none → H' p = some (.lst vs) → DtL X.K (G.add p) H' ds vs → Q (.ref p) H')
    (hbody : ∀ (A : Around) (outer : List Env) (s : Shared) (H : Hp) (f c' : Addr) (G : Gh) (H' : Hp), G.tbs = T → Room k (A.deeper (envOfC (X.env.qual ++ "<lambda>") scope s.heap.objs.size f (.ref c'))) → A.guards = some [] →
      PE (cxOf CX0 X.prog X.w X.K X.mg X.base N (X.env.qual ++ "<lambda>") scope f (.ref c') A outer s H E0) body (lift ⟨X.K, G, H', []⟩ tb))
    (hclo : cloFrom X.env.cells scope.names [] = [] := by rfl) (hdef : defaultsOf params X.env = ([], []) := by rfl)
    (hbind : ∀ (q : Str) (pm cv ctv u : Value), bindArgs (PySem.W.kla_fn "<lambda>" q params body scope [] pm cv ctv) ⟨[u], []⟩ = pure ([a].zip [u]) := by intros; rfl)
    (hK : X.K = F.K := by rfl) (he : backTo pos (starEach [e] X.env) = (false, eval e X.env) :: backTo pos (starEach [] X.env) := by rfl) (hpl : (backTo pos (starEach [e] X.env)).any (·.1) = false := by rfl) :
    wpAny (model X.prog X.w) X.A (eval (.Call (.Name "sorted" p) [e] [⟨some "key", .Lambda params body scope lpos, kpos⟩] pos) X.env) (EP X pins σ Q) X.xe s := by
  obtain ⟨KF, GF, HF, pF⟩ := F
  have hK : X.K = KF := hK
  subst hK
  obtain ⟨cc, PP, hcode, TB, hmem, huni⟩ := LP.ex
  have eT : G.tbs = T := r.tb.1.symm.trans hT
  refine wpAny_Call_Name_kw (ld_blt I1 hg hm (show bootBuiltins ("sorted" : Str) = some (.builtin "sorted") by decide +kernel) ?_ (by decide) (by decide))
  refine PyProof.Rows.callWith_kw (thn (ha.run pos pins s σ H (fun vs H1 => vs = [V.ref A0] ∧ H1 = H) I1 ⟨hj, rfl, rfl⟩) fun us s1 ⟨vs, H1, I1n, r1, evs, eH⟩ => ?_) he hpl (by rfl) (by rfl)
  subst evs
  subst eH
  have e1 : Ext G H1 H1 := .refl r.bag
  have r1' := r
  show wpAny _ _ (evalAll ((do let v ← eval (.Lambda params body scope lpos) X.env; standAt pos; pure v) :: [])) _ _ s1
  refine wpAny_evalAll_cons (wpAny_bind (lam_mk I1n r1'.ok TB hcode (by rw [eT]; exact hmem) (by rw [eT]; exact huni) hdef (fun y hy e => absurd e (hnf y hy)) fun f c' oc' pm' ctv H2 s2 I2 e2 hf hfn hfr hco hcv => wpAny_bind (wpAny_standAt (wpAny_pure (wpAny_evalAll_nil ?_)))))
  rw [hclo] at hf
  obtain ⟨ua, rfl, rua⟩ := vals1 r1
  obtain rfl : ua = Value.ref A0 := rua
  obtain ⟨its, us2, rv, hz, hl2, hcl⟩ := hcol s2 H2 I2 e2
  have r2 := r1'.step e2
  have g2 : GOk G H2 := r2.ok
  show wpAny (model X.prog X.w) X.A (call (.builtin "sorted") [.ref A0] [(Str.ofString "key", .ref f)]) (EP X pins σ Q) X.xe s2
  refine sorted_keyG (vs := its) hz (fun R hR => hcl R _ hR) fun s3 D0 kS eD ⟨h3, tk, es3⟩ kp hD0 hDk hkS hDD => ?_
  have I3 : Inv X pins σ H2 s3 := by
    subst es3
    exact I2.kept kp
  have oS : OwnRec X pins kS := own_of I2 (Nat.le_of_lt (Nat.lt_of_le_of_lt hD0 hDk))
  have oD : OwnRec X pins D0 := own_of I2 hD0
  have nS : H2 kS = none := I2.hok.fresh (Nat.le_of_lt (Nat.lt_of_le_of_lt hD0 hDk))
  have nD : H2 D0 = none := I2.hok.fresh hD0
  have hf3 := kp f _ hf
  have sb : SubG X (k + 1) X.A.in1.in1 := ⟨(hr.mono (Nat.le_succ _)).in1.in1, rfl, hgd⟩
  have hfS : f ≠ kS := Nat.ne_of_lt (Nat.lt_of_lt_of_le (Heap.lt_size hf) (Nat.le_of_lt (Nat.lt_of_le_of_lt hD0 hDk)))
  have ncb : c' ≠ G.bg := fun z => by
    obtain ⟨_, _, _, _, hb1, _⟩ := g2.bag
    rw [z, hb1] at hco; cases hco
  obtain ⟨vs0, t0, hd0, hv0⟩ := hcv
  refine keys_run (X := X) (G := G) (H0 := H2) (kd := fun d => pairOf (nf d, d)) xs oS oD.fr hfr (Nat.ne_of_lt hDk) hfS g2 (fun s' H' d x u I' ex hf' nf' hm' dx rx => ?_) xs us2 its [] [] [] s3 H2 (fun _ h => h) I3 (.refl g2.bag) hf3 hfn ⟨0, hkS⟩ nS hDD nD rv hl2 .nil rfl (fun ws ks s' H' I' ex ⟨ek, hk'⟩ nk' hD' nd' vw dw => ?_)
  · have hco' : H' c' = some (.frz oc' hoC) := ex.plain ncb hco (fun z => z)
    obtain ⟨hoc, _⟩ := I'.hok c' _ hco'
    have := lam_step (Q := fun w H'' => Ext G H' H'' ∧ Dt X.K G H'' (pairOf (nf d, d)) w) sb I' hf' S (hbind _ _ _ _ _) hoc hd0 hv0 (.cons rx .nil) rfl (fun outer hr' => ⟨_, hbody _ _ _ _ _ _ G H' eT hr' hgd, G, _, fun d' => d' = pairOf (nf d, d), ⟨rfl, rfl, ⟨rfl, (g2.step ex).tb⟩, (g2.step ex).ob, (g2.step ex).oi, fun _ h => h, fun a h n => absurd h n, (g2.step ex).tr, .refl (g2.step ex).bag, (fun _ z => nomatch z), [], slots_start (N.length - 1) (ds := [d]) (vs := [x]) ⟨_, [], rfl, dx, rfl⟩, List.nodup_nil⟩, (hx d hm').2 _ rfl, fun d' v H'' hk' e' dt' => ⟨e', by rw [← hk']; exact dt'⟩⟩)
    exact this
  · have hlI : its.length = xs.length := by rw [← rv.length]; exact dtl_length hl2
    have ho : ∀ p ∈ xs.map (fun d => (nf d, d)), Ordd p.2 := fun p hp => by
      obtain ⟨d, hd, rfl⟩ := List.mem_map.mp hp
      exact (hx d hd).1
    have hc' : ∀ p ∈ xs.map (fun d => (nf d, d)), ∀ q ∈ xs.map (fun d => (nf d, d)), PyData.eqv p.2.pw q.2.pw = false → cmpD p.2.pw q.2.pw = true := fun p hp q hq => by
      obtain ⟨d, hd, rfl⟩ := List.mem_map.mp hp
      obtain ⟨d', hd', rfl⟩ := List.mem_map.mp hq
      exact hc d hd d' hd'
    have dw' : DtL X.K G H' ((xs.map fun d => (nf d, d)).map pairOf) ws := by rw [List.map_map]; exact dw
    obtain ⟨h2, hmap⟩ := keys_sort (A := X.A.in1.in1) (vs := its) I' ho hc' vw dw' (by have := sb.room.un; omega)
    refine ⟨⟨ek, hk'⟩, hD', lt2 (pairLt (keyP X.K G H' (xs.map fun d => (nf d, d)))), swo2 (swo_toks _), fun h => h2 (by have := congrArg List.length hmap; rw [List.length_map, List.length_map] at this; omega), fun out hs hb => ?_⟩
    have hlen : ks.length = its.length := by have := congrArg List.length hmap; rw [List.length_map, List.length_map] at this; omega
    have hzm : (ks.zip its).map (fun p => tellP X.K G H' (xs.map fun d => (nf d, d)) (backV p.1)) = xs.map fun d => (nf d, d) := by
      have : (ks.zip its).map (fun p => tellP X.K G H' (xs.map fun d => (nf d, d)) (backV p.1)) = ((ks.zip its).map (·.1)).map fun u => tellP X.K G H' (xs.map fun d => (nf d, d)) (backV u) := by rw [List.map_map]; rfl
      rw [this, List.map_fst_zip (by omega)]
      exact hmap
    have hS := SrtO.Stb.map (lt := ltPD) (swo_toks pwP) (fun p : Keyed => tellP X.K G H' (xs.map fun d => (nf d, d)) (backV p.1)) hb
    rw [hzm] at hS
    have hR : Srtd ltPD (out.map fun p : Keyed => tellP X.K G H' (xs.map fun d => (nf d, d)) (backV p.1)) := SrtO.srtd_map hs
    have hK' := hk _ hR hS
    rw [List.map_map] at hK'
    have en : Ext G H' (upd H' D0 (.lst [])) := Ext.new (g2.step ex).bag nd'
    have hl3 := (g2.evo ex).dts _ _ hl2
    have told : ∀ p ∈ out, ∃ x, RelV x p.2 ∧ Dt X.K G H' ((fun p : Keyed => (tellP X.K G H' (xs.map fun d => (nf d, d)) (backV p.1)).2) p) x := fun p hp => by
      obtain ⟨d, x, b1, b2, b3, b4⟩ := zip_told hmap rv hl3 p (hb.perm.mem_iff.mp hp)
      refine ⟨x, b3, ?_⟩
      show Dt _ _ _ (tellP X.K G H' (xs.map fun d => (nf d, d)) (backV p.1)).2 x
      rw [b2]
      exact b4
    obtain ⟨vsO, v1, v2⟩ := out_told told
    have fl : ∀ d ∈ out.map (fun p : Keyed => (tellP X.K G H' (xs.map fun d => (nf d, d)) (backV p.1)).2), d.flat = true := fun d hd => by
      obtain ⟨p, hp, rfl⟩ := List.mem_map.mp hd
      obtain ⟨d, x, b1, b2, b3, b4⟩ := zip_told hmap rv hl3 p (hb.perm.mem_iff.mp hp)
      rw [b2]
      exact fla_flat _ (hx d b1).1.f
    have nSD : D0 ≠ kS := Nat.ne_of_lt hDk
    have I4 : Inv X pins σ H' { s' with heap := s'.heap.update kS (Obj.mapSeq fun _ => (#[] : Array Value)) } := I'.turned (t' := s'.toks) (fun b o hb e => (Heap.get?_update_ne _ _ _ _ hb).trans e) nk' oS.loc (.inr oS.new) oS.cel oS.pin
    have hD4 : (s'.heap.update kS (Obj.mapSeq fun _ => (#[] : Array Value))).get? D0 = some (seqObj "list" #[] eD) := (Heap.get?_update_ne _ _ _ _ nSD).trans hD'
    obtain ⟨c5, hc5⟩ : ∃ c5, ((s'.heap.update kS (Obj.mapSeq fun _ => (#[] : Array Value))).update D0 (Obj.mapSeq fun _ => (out.map (·.2)).toArray)).get? D0 = some (seqObj "list" (out.map (·.2)).toArray c5) := ⟨_, get?_update_seq hD4 fun _ => (out.map (·.2)).toArray⟩
    have I5 := inv_told (u := .lst vsO) I4 oD nd' (fun b o hb e => (Heap.get?_update_ne _ _ _ _ hb).trans e) (show ObjOk X.prog X.w _ _ _ (.lst vsO) from ⟨?_, out.map (·.2), c5, v1, hc5⟩) (fun _ _ z => nomatch z)
    · refine ⟨.ref D0, _, I5, rfl, q _ D0 vsO _ hK' (e1.trans (e2.trans (ex.trans (Ext.new (g2.step ex).bag nd')))) ?_ upd_same ?_⟩
      · exact e1.free r.ok.bag (e2.free r1'.ok.bag nD)
      · exact dtl_flat (fun a ys h => (upd_ne (fun z => by rw [z, nd'] at h; cases h)).trans h) fl v2
    · rw [v1.length, List.length_map, hb.len, List.length_zip]
      have := rv.length
      omega
end
/-- the different ones, in the order they come -/
noncomputable def addN (acc : List D) (d : D) : List D := if (acc.any fun e => decide (nkP e.pw = nkP d.pw)) then acc else acc ++ [d]
noncomputable def dedK (xs : List D) : List D := xs.foldl addN []
noncomputable def D.isTup : D → Bool
  | .tup _ => true
  | _ => false
theorem addK_fst (ks : List (D × Addr)) (d : D) (p : Addr) : (addK ks d p).map (·.1) = addN (ks.map (·.1)) d := by
  have e : (atKey (ks.map ke) (nkP d.pw)).isSome = (ks.map (·.1)).any fun e => decide (nkP e.pw = nkP d.pw) := by
    induction ks with
    | nil => rfl
    | cons q ks ih =>
      rw [List.map_cons, List.map_cons, List.any_cons]
      unfold atKey at ih ⊢
      rw [List.find?_cons]
      by_cases h : (ke q).1 = nkP d.pw
      · have h' : nkP q.1.pw = nkP d.pw := h
        simp [h, h']
      · have h' : ¬ nkP q.1.pw = nkP d.pw := h
        simp only [h, h', decide_false, Bool.false_or]
        exact ih
  unfold addK addN
  rw [e]
  split
  · rfl
  · rw [List.map_append]; rfl
noncomputable def addsK (ps : List (D × Addr)) : List (D × Addr) := ps.foldl (fun ks q => addK ks q.1 q.2) []
theorem addsK_snoc (ps : List (D × Addr)) (q : D × Addr) : addsK (ps ++ [q]) = addK (addsK ps) q.1 q.2 := by unfold addsK; rw [List.foldl_append]; rfl
theorem addK_len (ks : List (D × Addr)) (d : D) (p : Addr) : (addK ks d p).length ≤ ks.length + 1 := by
  unfold addK
  split
  · omega
  · rw [List.length_append]; exact Nat.le_refl _
theorem addK_mem {ks : List (D × Addr)} {d : D} {p : Addr} {q : D × Addr} (h : q ∈ addK ks d p) : q ∈ ks ∨ q = (d, p) := by
  unfold addK at h
  split at h
  · exact .inl h
  · rcases List.mem_append.mp h with h | h
    · exact .inl h
    · exact .inr (List.mem_singleton.mp h)
theorem addsK_sub : ∀ (ps : List (D × Addr)) (acc : List (D × Addr)), ∀ q ∈ ps.foldl (fun ks q => addK ks q.1 q.2) acc, q ∈ acc ∨ q ∈ ps
  | [], acc, q, h => .inl h
  | r :: ps, acc, q, h => by
    rcases addsK_sub ps _ q h with z | z
    · rcases addK_mem z with z | z
      · exact .inl z
      · exact .inr (by rw [z]; exact List.mem_cons_self)
    · exact .inr (List.mem_cons_of_mem _ z)
theorem addsK_len : ∀ (ps : List (D × Addr)) (acc : List (D × Addr)), (ps.foldl (fun ks q => addK ks q.1 q.2) acc).length ≤ acc.length + ps.length
  | [], acc => Nat.le_refl _
  | r :: ps, acc => by
    have h1 := addsK_len ps (addK acc r.1 r.2)
    have h2 := addK_len acc r.1 r.2
    rw [List.foldl_cons, List.length_cons]
    omega
theorem addsK_fst : ∀ (ps : List (D × Addr)) (acc : List (D × Addr)), (ps.foldl (fun ks q => addK ks q.1 q.2) acc).map (·.1) = (ps.map (·.1)).foldl addN (acc.map (·.1))
  | [], acc => rfl
  | r :: ps, acc => by
    rw [List.foldl_cons, addsK_fst ps, addK_fst]
    rfl
theorem addN_sub : ∀ (xs acc : List D), ∀ d ∈ xs.foldl addN acc, d ∈ acc ∨ d ∈ xs
  | [], acc, d, h => .inl h
  | x :: xs, acc, d, h => by
    rcases addN_sub xs _ d h with z | z
    · unfold addN at z
      split at z
      · exact .inl z
      · rcases List.mem_append.mp z with z | z
        · exact .inl z
        · exact .inr (by rw [List.mem_singleton.mp z]; exact List.mem_cons_self)
    · exact .inr (List.mem_cons_of_mem _ z)
theorem dedK_sub {xs : List D} {d : D} (h : d ∈ dedK xs) : d ∈ xs := (addN_sub xs [] d h).elim (fun z => nomatch z) fun z => z
/-- tuples stand at addresses -/
theorem dtl_pairs {K : PySem.W.Frag} {G : Gh} {H : Hp} : ∀ {xs : List D} {us : List V}, (∀ d ∈ xs, d.isTup = true) → DtL K G H xs us → ∃ ps : List (D × Addr), ps.map (·.1) = xs ∧ us = ps.map (fun q => V.ref q.2) ∧ ∀ q ∈ ps, Dt K G H q.1 (.ref q.2)
  | [], us, _, h => ⟨[], rfl, h, fun _ z => nomatch z⟩
  | d :: xs, us, ht, ⟨x, r, e, h1, h2⟩ => by
    obtain ⟨ps, p1, p2, p3⟩ := dtl_pairs (fun y hy => ht y (List.mem_cons_of_mem _ hy)) h2
    have hd := ht d List.mem_cons_self
    cases d with
    | tup ds =>
      obtain ⟨b, ys, rfl, h3⟩ := id h1
      refine ⟨(.tup ds, b) :: ps, by rw [List.map_cons, p1], by rw [e, p2]; rfl, fun q hq => ?_⟩
      rcases List.mem_cons.mp hq with rfl | hq
      · exact h1
      · exact p3 q hq
    | _ => simp [D.isTup] at hd
theorem dtl_of_pairs {K : PySem.W.Frag} {G : Gh} {H : Hp} : ∀ {ps : List (D × Addr)}, (∀ q ∈ ps, Dt K G H q.1 (.ref q.2)) → DtL K G H (ps.map (·.1)) (ps.map fun q => V.ref q.2)
  | [], _ => rfl
  | q :: ps, h => ⟨_, _, rfl, h q List.mem_cons_self, dtl_of_pairs fun r hr => h r (List.mem_cons_of_mem _ hr)⟩
theorem vals_of_pairs : ∀ (ps : List (D × Addr)), Vals (ps.map fun q => V.ref q.2) (ps.map fun q => Value.ref q.2)
  | [] => .nil
  | q :: ps => .cons rfl (vals_of_pairs ps)
/-- y = {x: True for x in e}; return sorted(y, key=lambda a: (number, a)); y is slot i, x slot j -/
noncomputable def orderT (i j m : Nat) (tb te : TD) : TSD := fun k ρ => j < ρ.length ∧ te ρ fun d => ∃ (xs : List D) (nf : D → Int), d = .lst xs ∧ (∀ d ∈ xs, Ordd d ∧ ∀ κ : D → Prop, κ (pairOf (nf d, d)) → tb (enterS m [d]) κ) ∧ (∀ d ∈ xs, d.pw.depth ≤ 8 ∧ d.isTup = true) ∧
  (∀ d ∈ xs, ∀ d' ∈ xs, PyData.eqv d.pw d'.pw = false → cmpD d.pw d'.pw = true) ∧ xs.length ≤ sizeLine ∧ i < ρ.length ∧ ∀ qs : List (Int × D), Srtd ltPD qs → Stb ltPD qs ((dedK xs).map fun d => (nf d, d)) → k.rt (.l ((qs.map (·.2)).map .d))
section
variable {X : Cx} {F : Fr} {k i j : Nat} {N : List Str} {a y x : Str} {T : List (Addr × Str)} {params : Arguments} {body : Expr} {scope sc : Scope} {own : List (Str × Nat)} {p pos kpos lpos py spos rpos yp xp tp cp bp : Pos} {bk : Nat} {e : Expr} {tb te : TD}
theorem ss_order (hc : X.calm = true) (hN : X.N.Nodup) (hy : X.N[i]? = some y) (hyl : X.env.scope.names.lookup y = some .local) (hsw : swapsWith (.DictComp (.Name x xp) (.Constant (.bool true) bk bp) [⟨.Name x tp, e, [], 0⟩] sc cp) (some (.Name y py)) spos.line X.env = pure true)
    (hte : PE X e (lift F te)) (ok : BlkOk X.N X.env.scope sc own)
    (hxg : ∀ (s : Shared) (H : Hp) (C : Addr) (cl : List (Str × Addr)) (fp : List Addr), PG (X.blk s H sc (compEnvC sc cl C X.env) fp) (.Name x tp) (gName j))
    (hxe : ∀ (s : Shared) (H : Hp) (C : Addr) (cl : List (Str × Addr)) (fp : List Addr), PE (X.blk s H sc (compEnvC sc cl C X.env) fp) (.Name x xp) (tVar j))
    (hjo : j ∈ own.map (·.2)) (hye : PE X (.Name y yp) (tVar i))
    (LP : LamP X.mg X.base T X.env.code (X.env.qual ++ "<lambda>")) (hT : F.G.tbs = T) (hr : Room (k + 4) X.A) (hgd : X.A.guards = some []) (hg : Gl X "sorted") (hm : X.mg "sorted" = none) (S : FnScope N [a] scope) (hnf : ∀ y ∈ scope.names, y.2 ≠ .free)
    (hbody : ∀ (A : Around) (outer : List Env) (s : Shared) (H : Hp) (f c' : Addr) (G : Gh) (H' : Hp), G.tbs = T → Room k (A.deeper (envOfC (X.env.qual ++ "<lambda>") scope s.heap.objs.size f (.ref c'))) → A.guards = some [] →
      PE (cxOf CX0 X.prog X.w X.K X.mg X.base N (X.env.qual ++ "<lambda>") scope f (.ref c') A outer s H E0) body (lift ⟨X.K, G, H', []⟩ tb))
    (hclo : cloFrom X.env.cells scope.names [] = [] := by rfl) (hdef : defaultsOf params X.env = ([], []) := by rfl)
    (hbind : ∀ (q : Str) (pm cv ctv u : Value), bindArgs (PySem.W.kla_fn "<lambda>" q params body scope [] pm cv ctv) ⟨[u], []⟩ = pure ([a].zip [u]) := by intros; rfl)
    (hfs : ∀ x, foldedSetIterable e X.env x = pure x := by intro _; rfl) (hK : X.K = F.K := by rfl)
    (hse : starEach [.Name y yp] X.env = (false, eval (.Name y yp) X.env) :: starEach [] X.env := by rfl)
    (he : backTo pos (starEach [.Name y yp] X.env) = (false, eval (.Name y yp) X.env) :: backTo pos (starEach [] X.env) := by rfl) (hpl : (backTo pos (starEach [.Name y yp] X.env)).any (·.1) = false := by rfl) :
    PSs X [.Assign [.Name y py] (.DictComp (.Name x xp) (.Constant (.bool true) bk bp) [⟨.Name x tp, e, [], 0⟩] sc cp) spos, .Return (some (.Call (.Name "sorted" p) [.Name y yp] [⟨some "key", .Lambda params body scope lpos, kpos⟩] pos)) rpos] (liftS F (orderT i j N.length tb te)) := by
  have hu : X.A.units + 8 < cLine := by have := hr.un; omega
  -- the second statement
  have h2 : PS X (.Return (some (.Call (.Name "sorted" p) [.Name y yp] [⟨some "key", .Lambda params body scope lpos, kpos⟩] pos)) rpos) (fun E σ H => ∃ (G : Gh) (ρ : List Sl) (A0 : Addr) (o : Obj) (ks : List (D × Addr)) (nf : D → Int) (κ : List D → Prop), Rel F G H σ ρ ∧ σ[i]? = some (some (V.ref A0)) ∧ H A0 = some (toldO A0 o) ∧
      KDict X o ks ∧ (A0 == sysModules) = false ∧ ks.length ≤ sizeLine ∧ (∀ q ∈ ks, Dt X.K G H q.1 (.ref q.2)) ∧ (∀ d ∈ ks.map (·.1), Ordd d ∧ ∀ κ : D → Prop, κ (pairOf (nf d, d)) → tb (enterS N.length [d]) κ) ∧ (∀ d ∈ ks.map (·.1), ∀ d' ∈ ks.map (·.1), PyData.eqv d.pw d'.pw = false → cmpD d.pw d'.pw = true) ∧
      (∀ qs : List (Int × D), Srtd ltPD qs → Stb ltPD qs ((ks.map (·.1)).map fun d => (nf d, d)) → κ (qs.map (·.2))) ∧ ∀ ds p vs H', κ ds → Ext G H H' → H p = none → H' p = some (.lst vs) → DtL X.K (G.add p) H' ds vs → E.rt (.ref p) H') := by
    refine ⟨fun pins s σ H E I ⟨G, ρ, A0, o, ks, nf, κ, r, hσ, hA, kd, lo, hz, kt, hx, hcm, hk, q⟩ => ?_⟩
    refine wpAny_Return_some (thn (sortKey_core (j := i) (A0 := A0) (xs := ks.map (·.1)) (nf := nf) (κ := κ) (Q := E.rt) I r LP hT hr hgd hg hm S hnf (pa_imp (pa_cons hye pa_nil hse) fun σ H Q ⟨z1, z2⟩ => ⟨_, z1, z2⟩) hσ hx hcm hk (fun s2 H2 I2 e2 => ?_) q hbody hclo hdef hbind hK he hpl) fun v s1 ⟨x, H1, I1, r1, q1⟩ => ⟨x, σ, H1, I1, r1, q1⟩)
    have r2 := r.step e2
    have nbg : A0 ≠ G.bg := fun z => by
      obtain ⟨_, _, _, _, hb1, _⟩ := r.bag
      rw [← z, hA] at hb1; cases hb1
    have hA2 : H2 A0 = some (toldO A0 o) := e2.plain nbg hA fun z => z
    refine ⟨_, _, vals_of_pairs ks, by rw [List.length_map]; exact hz, dtl_of_pairs fun q hq => (r.evo e2).dt _ _ (kt q hq), fun R E h => ?_⟩
    exact collect_keys (A1 := X.A.in1) (o := o) (ks := ks) I2 (I2.ok.hd hc) lo hA2 kd hz h
  refine pss_imp (pss_cons (ps_setKc (i := i) (g := gName j) (tk := tVar j) (tv := tC (.bl true)) hc hN hu hy hyl hsw (pi_list hte) ok hxg hxe (fun s H C cl fp => pe_bl) hfs) (pss_one h2)) ?_
  intro E σ H ⟨G, ρ, κ, r, ⟨hj, hq⟩, o⟩
  refine ⟨G, ρ, _, r, hq, fun d v H1 ⟨xs, nf, ed, hx, hd8, hcm, hz, hi, hk⟩ e1 d1 => ?_⟩
  subst ed
  obtain ⟨b, us, rfl, nb, hb, hl⟩ := d1
  obtain ⟨ps, p1, p2, p3⟩ := dtl_pairs (fun d hd => (hd8 d hd).2) hl
  have r1 := r.step e1
  refine ⟨b, rfl, ⟨us, SqL.of hb⟩, fun A hA lo => ?_⟩
  have bA : b ≠ A := fun z => by rw [z, hA] at hb; cases hb
  have hus : us.length = ps.length := by rw [p2, List.length_map]
  have hps : ps.length = xs.length := by rw [← p1, List.length_map]
  have sq : ∀ o, SqL X.K (upd H1 A o) b us := fun o => SqL.of ((upd_ne bA).trans hb)
  have en : ∀ o, Ext G H1 (upd H1 A o) := fun o => Ext.new r1.bag hA
  have kin : ∀ (n : Nat) (o : HO), KIs X.K G (upd H1 A o) (ps.take n) := fun n o q hq => by
    have hq' := List.mem_of_mem_take hq
    have hm' : q.1 ∈ xs := by rw [← p1]; exact List.mem_map.mpr ⟨q, hq', rfl⟩
    exact ⟨(hx _ hm').1.f, (hx _ hm').1.p, (hd8 _ hm').1, (r1.evo (en o)).dt _ _ (hK ▸ p3 q hq')⟩
  refine ⟨fun n m H' => m = ps.length - n ∧ n ≤ ps.length ∧ ∃ o, H' = upd H1 A (toldO A o) ∧ KDict X o (addsK (ps.take n)), ⟨_, fun o k => ⟨rfl, Nat.zero_le _, o, rfl, k⟩⟩, ?_⟩
  rintro n m H' ⟨rfl, hn, ob, rfl, kd⟩
  by_cases hlt : n < ps.length
  · refine .inr ⟨⟨us, V.ref ps[n].2, sq _, by rw [p2, List.getElem?_map, List.getElem?_eq_getElem hlt]; rfl⟩, fun H' => n + 1 ≤ ps.length ∧ ∃ o, H' = upd H1 A (toldO A o) ∧ KDict X o (addsK (ps.take (n + 1))), fun H' ⟨hl, z⟩ => ⟨_, by omega, rfl, hl, z⟩, fun u H' ⟨e, hu'⟩ => ?_⟩
    subst e
    have eu : u = V.ref ps[n].2 := by
      have z := hu' us (sq _)
      rw [p2, List.getElem?_map, List.getElem?_eq_getElem hlt] at z
      exact (Option.some.inj z).symm
    subst eu
    have hj' : j < (wipe σ (own.map (·.2))).length := by rw [wipe_length, ← r.len]; exact hj
    refine ⟨by rw [DL.wipe_set _ _ hjo, DL.wipe_wipe], V.ref ps[n].2, by rw [List.getElem?_set_self hj'], rfl, ob, addsK (ps.take n), ps[n].1, ps[n].2, G, rfl, upd_same, kd, ?_, ?_, fun o' k' => ⟨hlt, o', ?_, ?_⟩⟩
    · have := addsK_len (ps.take n) []
      rw [List.length_take] at this
      have z : (addsK (ps.take n)).length ≤ 0 + min n ps.length := this
      omega
    · intro q hq
      rcases List.mem_cons.mp hq with rfl | hq
      · exact kin (n + 1) _ _ (by rw [List.take_succ_eq_append_getElem hlt]; exact List.mem_append_right _ List.mem_cons_self)
      · exact kin n _ q ((addsK_sub (ps.take n) [] q hq).elim (fun z => nomatch z) fun z => z)
    · funext c
      unfold upd
      split <;> rfl
    · rw [List.take_succ_eq_append_getElem hlt, addsK_snoc]
      exact k'
  · have e : n = ps.length := by omega
    subst e
    rw [List.take_length] at kd
    have ek : (addsK ps).map (·.1) = dedK xs := by
      unfold addsK dedK
      rw [addsK_fst, p1]
      rfl
    refine .inl ⟨⟨us, sq _, by omega⟩, G, ρ.set i .un, A, ob, addsK ps, nf, fun ds => κ.rt (.l (ds.map .d)), (r1.step (en _)).drop i _, ?_, upd_same, kd, lo, ?_, ?_, ?_, ?_, ?_, fun ds l vs H3 hk3 e3 hl3 hv3 hd3 => ?_⟩
    · rw [List.getElem?_set_self (by rw [← r.len]; exact hi)]
    · have := addsK_len ps []
      have z : (addsK ps).length ≤ 0 + ps.length := this
      omega
    · intro q hq
      exact (kin ps.length _ q (by rw [List.take_length]; exact (addsK_sub ps [] q hq).elim (fun z => nomatch z) fun z => z)).2.2.2
    · intro d hd
      rw [ek] at hd
      exact hx d (dedK_sub hd)
    · intro d hd d' hd'
      rw [ek] at hd hd'
      exact hcm d (dedK_sub hd) d' (dedK_sub hd')
    · intro qs h1 h2
      rw [ek] at h2
      exact hk qs h1 h2
    · have r3 := (r1.step (en (toldO A ob))).step e3
      have hp : ∀ q ∈ [l], H q = none := fun q hq => by
        rw [List.mem_singleton.mp hq]
        exact e1.free r.bag ((en (toldO A ob)).free r1.bag hl3)
      have ow : Ow F.K (G.add l) H3 (.l (ds.map .d)) (.ref l) [l] := ⟨l, vs, [], rfl, .inr rfl, hv3, Ow.ofL (hK ▸ hd3), rfl⟩
      refine o.rt (.l (ds.map .d)) (.ref l) [l] H3 hk3 r3.ext (fun q hq => r.first (hp q hq)) (by simp) (Ow.evo (G := G.add l) (G' := F.G.adds [l]) ⟨fun _ _ _ h => .inl h, fun a z => z.elim (r3.tr a) fun z => by rw [z, hv3]; exact True.intro, fun a n _ z => n ?_, r.bg.symm, r.bi.symm⟩ _ _ [l] (fun q hq => ⟨Or.inr hq, rfl⟩) ow)
      exact z.elim (fun z => .inl (r.sub a z)) fun z => .inr (List.mem_singleton.mp z)
end
end DL
set_option Elab.async false
set_option linter.all false
set_option maxRecDepth 100000
set_option maxHeartbeats 4000000
/-! ### defs that ask tables and return what is new -/
namespace DL
open PySem PySem.Spec PyProof.Rows L2
noncomputable def spTT (K : PySem.W.Frag) (T : List (Addr × Str)) (R : RTD) : Sp := fun vs H Q _ => ∃ G ds k, G.tbs = T ∧ GOk G H ∧ DtL K G H ds vs ∧ R ds k ∧ ∀ t v L H', k t → Ext G H H' → (∀ p ∈ L, H p = none) → L.Nodup → Ow K (G.adds L) H' t v L → Q v H'
structure CalTT (P : Program) (w : World) (K : PySem.W.Frag) (mg : Str → Option Value) (base : Heap) (T : List (Addr × Str)) (n : Nat) (x : Str) (R : RTD) : Prop where
  ex : ∃ (f : Addr) (fd : FuncData) (ps : List Str) (k : Nat), k ≤ n ∧ FnG P w K mg base CX0 k f fd ps (spTT K T R) ∧ mg x = some (.ref f) ∧ PySem.W.keepIn K (.ref f) = true ∧ Binds K fd ps []
section
variable {P : Program} {w : World} {K : PySem.W.Frag} {mg : Str → Option Value} {base : Heap} {T : List (Addr × Str)} {n m : Nat} {x : Str} {R : RTD}
theorem CalTT.mono (c : CalTT P w K mg base T n x R) (h : n ≤ m) : CalTT P w K mg base T m x R := by
  obtain ⟨f, fd, ps, k, hk, r⟩ := c.ex
  exact ⟨f, fd, ps, k, Nat.le_trans hk h, r⟩
theorem CalTT.of {f : Addr} {fd : FuncData} {ps : List Str} {q : Str} {st : Stmt} (fn : FnG P w K mg base CX0 n f fd ps (spTT K T R)) (hm : mg x = some (.ref f)) (F : Fun K x q st f fd) (hb : Binds K fd ps []) : CalTT P w K mg base T n x R := ⟨f, fd, ps, n, Nat.le_refl _, fn, hm, F.kp, hb⟩
end
theorem Fun.okTT (T0 : List (Addr × Str)) {P : Program} {w : World} {K : PySem.W.Frag} {mg : Str → Option Value} {base : Heap} {x qual : Str} {st : Stmt} {f : Addr} {fd : FuncData} {N ps : List Str} {k : Nat} {R : RTD} (Fn : Fun K x qual st f fd) (S : FnScope N ps (defScope st))
    (len : ∀ ds k, R ds k → ds.length = ps.length)
    (hb : ∃ T : TSD, (∀ (cdv : Value) (A : Around) (outer : List Env) (s : Shared) (H : Hp) (E : XK) (G : Gh) (H' : Hp) (pn : List (V × D)), Room k (A.deeper (envOfC qual (defScope st) s.heap.objs.size f cdv)) → A.guards = some [] → cdv = fd.code → G.tbs = T0 →
      PSs (cxOf CX0 P w K mg base N qual (defScope st) f cdv A outer s H E).nox (defBody st) (liftS ⟨K, G, H', pn⟩ T)) ∧ ∀ ds κ, R ds κ → T (endT κ) (enterS N.length ds)) : FnG P w K mg base CX0 (k + 1) f fd ps (spTT K T0 R) := by
  obtain ⟨oc, od, kV, doc, pm, an, cdv, ct, osl, rfl, lk, hcd⟩ := Fn.ex
  obtain ⟨T, hb, hq⟩ := hb
  refine fnG_of lk hcd S (fun vs H Q E h => ?_) fun A outer s H vs Q E hr hg h => ?_
  · obtain ⟨G, ds, κ, _, _, hd, hR, _⟩ := h
    rw [← hd.len]; exact len ds κ hR
  · obtain ⟨G, ds, κ, eT, ok, hd, hR, q⟩ := h
    have dat : ∀ (d : D) (v : V) (H' : Hp), κ (.d d) → Ext G H H' → Dt K G H' d v → Q v H' := fun d v H' h x hd => q (.d d) v [] H' h x (fun _ z => nomatch z) List.nodup_nil (by rw [Gh.adds_nil]; exact ⟨rfl, hd⟩)
    refine ⟨_, (hb cdv A outer s H E G H [] hr hg rfl eT).nox, G, _, endT κ, ⟨rfl, rfl, ⟨rfl, ok.tb⟩, ok.ob, ok.oi, fun _ h => h, fun a h n => absurd h n, ok.tr, .refl ok.bag, (fun _ z => nomatch z), [], ?_, List.nodup_nil⟩, hq ds κ hR,
      ⟨fun ρ G' σ' H' h r => dat .non .non H' h r.ext rfl, fun t v R H' h x hR nR ho => q t v R H' h x hR nR ho, fun _ _ _ _ h _ => h.elim, fun _ _ _ _ h _ => h.elim, fun d ρ G' σ' H' v h r hd => dat d v H' h r.ext (r.less.dt d v hd)⟩⟩
    unfold enterS L2.start
    rw [hd.len]
    exact slots_start _ hd
section
variable {X : Cx} {F : Fr} {n : Nat} {x : Str} {R : RTD} {T : List (Addr × Str)} {e : Expr} {es : List Expr} {ta : TLD} {p pos : Pos}
theorem r_callTT (c : CalTT X.prog X.w X.K X.mg X.base T n x R) (hT : F.G.tbs = T) (hr : Room n X.A) (hgd : X.A.guards = some []) (hg : Gl X x) (ha : PA X (e :: es) (liftA F ta)) (hK : X.K = F.K := by rfl) (hdb : (x == ("__debug__" : Str)) = false := by decide)
    (he : starEach (e :: es) X.env = (false, eval e X.env) :: starEach es X.env := by rfl) (hpl : (backTo pos (starEach es X.env)).any (·.1) = false := by rfl) : PE X (.Call (.Name x p) (e :: es) [] pos) (liftR F (callRT R ta)) := by
  obtain ⟨f, fd, ps, j, hj, fn, hm, hk, hb⟩ := c.ex
  refine pe_imp (peG_call fn (hr.mono hj) hgd hg hm hk hb .nil pass0 ha hdb he hpl) fun σ H Q ⟨G, ρ, k, r, h, q⟩ => ?_
  refine ⟨G, ρ, _, r, h, fun ds vs H1 h1 e1 d1 => ?_⟩
  have r1 := r.step e1
  show spTT X.K T R (vs ++ []) H1 Q E0
  rw [List.append_nil, hK]
  exact ⟨G, ds, k, r1.tb.1.symm.trans hT, r1.ok, d1, h1, fun t v L H2 h2 e2 hL nL ow => q t v L H2 h2 (e1.trans e2) (fun p hp => e1.free r.bag (hL p hp)) nL ow⟩
end
theorem Room.u110 {n : Nat} {A : Around} (h : Room n A) : A.units + 110 < cLine := by have := h.un; omega
end DL
set_option Elab.async false
set_option linter.all false
set_option maxRecDepth 100000
set_option maxHeartbeats 4000000
namespace K20
open PySem L2 DL
noncomputable def top (i : Nat) : Stmt := PySem.Challenge.pw_farcatch_k20_terms_in_order.main.body.getD i (.Pass ⟨0, 0, 0, 0⟩)
section
variable {P : Program} {w : World} {K : PySem.W.Frag} {mg : Str → Option Value} {base : Heap}
noncomputable abbrev s_codes_within : Stmt := top 1
theorem sc_codes_within : FnScope ["code"] ["code"] (defScope s_codes_within) := ⟨rfl, rfl, rfl, by decide +kernel, rfl, by decide +kernel, by decide +kernel⟩
noncomputable def t_codes_within : TSD :=
  (seqT (iffT (blT (DL.binT inD (DL.binT ixD (nameT 0) (cT (.int 0))) (tupT (consA (cT (.str "name")) (consA (cT (.str "given")) nilA))))) (retT (tupT nilA)) nextT)
    (seqT (iffT (blT (DL.binT eqD (DL.binT ixD (nameT 0) (cT (.int 0))) (cT (.str "if")))) (retT (slT slD (nameT 0) (someO (cT (.int 1))) noneO)) nextT)
    (retT (ifT (blT (DL.binT eqD (DL.binT ixD (nameT 0) (cT (.int 0))) (cT (.str "with")))) (slT slD (nameT 0) (someO (cT (.int 2))) noneO) (DL.binT ixD (nameT 0) (cT (.int 2)))))))
theorem fn_codes_within {n : Nat} {R : RD} {f : Addr} {fd : FuncData} (Fn : Fun K "codes_within" "codes_within" s_codes_within f fd)
    (hl : ∀ ds k, R ds k → ds.length = 1) (hR : ∀ ds κ, R ds κ → t_codes_within (endD κ) (enterS 1 ds)) : FnG P w K mg base CX0 (n + 1) f fd ["code"] (spD K R) :=
  Fun.okD Fn sc_codes_within hl ⟨_, fun cdv A outer s H E G H' pn hr hg =>
      (s_cons (s_if (t_cmp (op_inA hr) ok_in (d_ix (d_name 0) d_int) (d_tup (a_cons d_str (a_cons d_str a_nil))) (by rfl)) (s_one (s_ret (d_tup a_nil))) s_nil)
      (s_cons (s_if (t_cmp (op_eqA hr) ok_eq (d_ix (d_name 0) d_int) d_str (nomark _)) (s_one (s_ret (d_slice (d_name 0) (o_some d_int) o_none))) s_nil)
      (s_one (s_ret (d_if (t_cmp (op_eqA hr) ok_eq (d_ix (d_name 0) d_int) d_str (nomark _)) (d_slice (d_name 0) (o_some d_int) o_none) (d_ix (d_name 0) d_int)))))), hR⟩
noncomputable abbrev s_with_codes : Stmt := top 2
theorem sc_with_codes : FnScope ["code", "codes"] ["code", "codes"] (defScope s_with_codes) := ⟨rfl, rfl, rfl, by decide +kernel, rfl, by decide +kernel, by decide +kernel⟩
noncomputable def t_with_codes : TSD :=
  (seqT (iffT (blT (DL.binT inD (DL.binT ixD (nameT 0) (cT (.int 0))) (tupT (consA (cT (.str "name")) (consA (cT (.str "given")) nilA))))) (retT (nameT 0)) nextT)
    (seqT (iffT (blT (DL.binT eqD (DL.binT ixD (nameT 0) (cT (.int 0))) (cT (.str "if")))) (retT (tupT (consA (cT (.str "if")) (starA (nameT 1) nilA)))) nextT)
    (retT (ifT (blT (DL.binT eqD (DL.binT ixD (nameT 0) (cT (.int 0))) (cT (.str "with")))) (tupT (consA (cT (.str "with")) (consA (DL.binT ixD (nameT 0) (cT (.int 1))) (starA (nameT 1) nilA)))) (tupT (consA (DL.binT ixD (nameT 0) (cT (.int 0))) (consA (DL.binT ixD (nameT 0) (cT (.int 1))) (consA (callT tupR (consA (nameT 1) nilA)) nilA))))))))
theorem fn_with_codes {n : Nat} {R : RD} {f : Addr} {fd : FuncData} (Fn : Fun K "with_codes" "with_codes" s_with_codes f fd) (z_tuple : mg "tuple" = none)
    (hl : ∀ ds k, R ds k → ds.length = 2) (hR : ∀ ds κ, R ds κ → t_with_codes (endD κ) (enterS 2 ds)) : FnG P w K mg base CX0 (n + 1) f fd ["code", "codes"] (spD K R) :=
  Fun.okD Fn sc_with_codes hl ⟨_, fun cdv A outer s H E G H' pn hr hg =>
      (s_cons (s_if (t_cmp (op_inA hr) ok_in (d_ix (d_name 0) d_int) (d_tup (a_cons d_str (a_cons d_str a_nil))) (by rfl)) (s_one (s_ret (d_name 0))) s_nil)
      (s_cons (s_if (t_cmp (op_eqA hr) ok_eq (d_ix (d_name 0) d_int) d_str (nomark _)) (s_one (s_ret (d_tup (a_cons d_str (a_star (d_name 1) a_nil))))) s_nil)
      (s_one (s_ret (d_if (t_cmp (op_eqA hr) ok_eq (d_ix (d_name 0) d_int) d_str (nomark _)) (d_tup (a_cons d_str (a_cons (d_ix (d_name 0) d_int) (a_star (d_name 1) a_nil)))) (d_tup (a_cons (d_ix (d_name 0) d_int) (a_cons (d_ix (d_name 0) d_int) (a_cons (d_totup rfl z_tuple (a_cons (d_name 1) a_nil)) a_nil))))))))), hR⟩
noncomputable abbrev s_all_parts : Stmt := top 3
theorem sc_all_parts : FnScope ["code", "found", "one"] ["code"] (defScope s_all_parts) := ⟨rfl, rfl, rfl, by decide +kernel, rfl, by decide +kernel, by decide +kernel⟩
noncomputable def t_all_parts (Rcodes_within : RD) (Rall_parts : RD) : TSD :=
  (seqT (newT 1 (lstF (consA (nameT 0) nilA)))
    (seqT (forT (.nm 2) (seqI (callT Rcodes_within (consA (nameT 0) nilA))) (mT 1 extD (consA (callT Rall_parts (consA (nameT 2) nilA)) nilA)))
    (frzT 1 (retT (nameT 1)))))
theorem fn_all_parts {n : Nat} {R : RD} {f : Addr} {fd : FuncData} {Rcodes_within : RD} {Rall_parts : RD} (Fn : Fun K "all_parts" "all_parts" s_all_parts f fd) (ccodes_within : CalP P w K mg base n "codes_within" Rcodes_within) (call_parts : CalP P w K mg base n "all_parts" Rall_parts)
    (hl : ∀ ds k, R ds k → ds.length = 1) (hR : ∀ ds κ, R ds κ → t_all_parts Rcodes_within Rall_parts (endD κ) (enterS 3 ds)) : FnG P w K mg base CX0 (n + 1) f fd ["code"] (spD K R) :=
  Fun.okD Fn sc_all_parts hl ⟨_, fun cdv A outer s H E G H' pn hr hg =>
      (s_cons (s_new (i := 1) sc_all_parts.nd rfl (Or.inl rfl) (f_lst (a_cons (d_name 0) a_nil)))
      (s_cons (s_for (t := (.nm 2)) PassesOwn.never rfl (i_seq (d_call ⟨ccodes_within.ex⟩ hr hg rfl (a_cons (d_name 0) a_nil))) (pg_name (i := 2) sc_all_parts.nd rfl (Or.inl rfl)) (fun _ => (s_one (s_ext 1 (a_cons (d_call ⟨call_parts.ex⟩ hr hg rfl (a_cons (d_name 2) a_nil)) a_nil) (pe_bm PySem.F.plainAttrs_list PySem.F.slot_list_extend PySem.F.type_list_extend mt_extend (pv 1) (a_cons (d_call ⟨call_parts.ex⟩ hr hg rfl (a_cons (d_name 2) a_nil)) a_nil))))))
      (ss_frz 1 (s_one (s_ret (d_name 1)))))), hR⟩
noncomputable abbrev s_size : Stmt := top 4
theorem sc_size : FnScope ["code"] ["code"] (defScope s_size) := ⟨rfl, rfl, rfl, by decide +kernel, rfl, by decide +kernel, by decide +kernel⟩
noncomputable def t_size (Rall_parts : RD) : TSD :=
  (retT (callT lenR (consA (callT Rall_parts (consA (nameT 0) nilA)) nilA)))
theorem fn_size {n : Nat} {R : RD} {f : Addr} {fd : FuncData} {Rall_parts : RD} (Fn : Fun K "size" "size" s_size f fd) (z_len : mg "len" = none) (call_parts : CalP P w K mg base n "all_parts" Rall_parts)
    (hl : ∀ ds k, R ds k → ds.length = 1) (hR : ∀ ds κ, R ds κ → t_size Rall_parts (endD κ) (enterS 1 ds)) : FnG P w K mg base CX0 (n + 1) f fd ["code"] (spD K R) :=
  Fun.okD Fn sc_size hl ⟨_, fun cdv A outer s H E G H' pn hr hg =>
      (s_one (s_ret (d_len rfl z_len (a_cons (d_call ⟨call_parts.ex⟩ hr hg rfl (a_cons (d_name 0) a_nil)) a_nil)))), hR⟩
noncomputable abbrev s_in_order : Stmt := top 6
theorem sc_in_order : FnScope ["terms", "different", "term"] ["terms"] (defScope s_in_order) := ⟨rfl, rfl, rfl, by decide +kernel, rfl, by decide +kernel, by decide +kernel⟩
theorem bk_in_order_0 : BlkOk ["terms", "different", "term"] (defScope s_in_order) { kind := .function, names := [(".0", .local), ("term", .local)], isGenerator := false, isCoroutine := false, more := [] : Scope } [("term", 2)] := blkOk_by (by decide +kernel)
theorem ls_in_order : FnScope ["term"] ["term"] { kind := .function, names := [("term", .local), ("size", .globalImplicit)], isGenerator := false, isCoroutine := false, more := [] : Scope } := ⟨rfl, rfl, rfl, by decide +kernel, rfl, by decide +kernel, by decide +kernel⟩
noncomputable def t_in_order (Rsize : RD) : TSD :=
  (orderT 1 2 1 (tupT (consA (callT Rsize (consA (nameT 0) nilA)) (consA (nameT 0) nilA))) (nameT 0))
theorem fn_in_order {n : Nat} {R : RTD} {f : Addr} {fd : FuncData} {Rsize : RD} {T0 : List (Addr × Str)} (Fn : Fun K "in_order" "in_order" s_in_order f fd) (z_sorted : mg "sorted" = none) (csize : CalP P w K mg base n "size" Rsize) (LP : LamP mg base T0 fd.code ((PyProof.Rows.envOfC "in_order" (defScope s_in_order) 0 f fd.code).qual ++ "<lambda>"))
    (hl : ∀ ds k, R ds k → ds.length = 1) (hR : ∀ ds κ, R ds κ → t_in_order Rsize (endT κ) (enterS 3 ds)) : FnG P w K mg base CX0 (n + 5) f fd ["terms"] (spTT K T0 R) :=
  Fun.okTT T0 Fn sc_in_order hl ⟨_, fun cdv A outer s H E G H' pn hr4 hg hc hT => have hr := hr4.mono (Nat.le_add_right n 4);
      (ss_order (i := 1) (j := 2) rfl sc_in_order.nd rfl rfl (by rfl) (d_name 0) bk_in_order_0 (fun _ _ _ _ _ => (pg_name (i := 2) sc_in_order.nd rfl (Or.inl rfl))) (fun _ _ _ _ _ => (pv 2)) (by decide) (pv 1) (hc ▸ LP) hT hr4 hg rfl z_sorted ls_in_order (by decide) (fun A outer s H f c' G H' hT hr hg => (d_tup (a_cons (d_call ⟨csize.ex⟩ hr hg rfl (a_cons (d_name 0) a_nil)) (a_cons (d_name 0) a_nil))))), hR⟩
noncomputable abbrev s_terms_in : Stmt := top 7
theorem sc_terms_in : FnScope ["term"] ["term"] (defScope s_terms_in) := ⟨rfl, rfl, rfl, by decide +kernel, rfl, by decide +kernel, by decide +kernel⟩
noncomputable def t_terms_in (Rall_parts : RD) (Rin_order : RTD) : TSD :=
  (retR (callRT Rin_order (consA (callT Rall_parts (consA (nameT 0) nilA)) nilA)))
theorem fn_terms_in {n : Nat} {R : RTD} {f : Addr} {fd : FuncData} {Rall_parts : RD} {Rin_order : RTD} {T0 : List (Addr × Str)} (Fn : Fun K "terms_in" "terms_in" s_terms_in f fd) (call_parts : CalP P w K mg base n "all_parts" Rall_parts) (cin_order : CalTT P w K mg base T0 n "in_order" Rin_order)
    (hl : ∀ ds k, R ds k → ds.length = 1) (hR : ∀ ds κ, R ds κ → t_terms_in Rall_parts Rin_order (endT κ) (enterS 1 ds)) : FnG P w K mg base CX0 (n + 5) f fd ["term"] (spTT K T0 R) :=
  Fun.okTT T0 Fn sc_terms_in hl ⟨_, fun cdv A outer s H E G H' pn hr4 hg hc hT => have hr := hr4.mono (Nat.le_add_right n 4);
      (s_one (s_retR (r_callTT ⟨cin_order.ex⟩ hT hr hg rfl (a_cons (d_call ⟨call_parts.ex⟩ hr hg rfl (a_cons (d_name 0) a_nil)) a_nil)))), hR⟩
noncomputable abbrev s_all_terms : Stmt := top 8
theorem sc_all_terms : FnScope ["terms", "term", "part"] ["terms"] (defScope s_all_terms) := ⟨rfl, rfl, rfl, by decide +kernel, rfl, by decide +kernel, by decide +kernel⟩
theorem bk_all_terms_0 : BlkOk ["terms", "term", "part"] (defScope s_all_terms) { kind := .function, names := [(".0", .local), ("term", .local), ("part", .local), ("all_parts", .globalImplicit)], isGenerator := false, isCoroutine := false, more := [] : Scope } [("term", 1), ("part", 2)] := blkOk_by (by decide +kernel)
noncomputable def t_all_terms (Rall_parts : RD) (Rin_order : RTD) : TSD :=
  (retR (callRT Rin_order (consA (ofF (lc2F 1 (seqI (nameT 0)) yesT (.nm 2) (seqI (callT Rall_parts (consA (nameT 1) nilA))) yesT (nameT 2) [1, 2] [2])) nilA)))
theorem fn_all_terms {n : Nat} {R : RTD} {f : Addr} {fd : FuncData} {Rall_parts : RD} {Rin_order : RTD} {T0 : List (Addr × Str)} (Fn : Fun K "all_terms" "all_terms" s_all_terms f fd) (call_parts : CalP P w K mg base n "all_parts" Rall_parts) (cin_order : CalTT P w K mg base T0 n "in_order" Rin_order)
    (hl : ∀ ds k, R ds k → ds.length = 1) (hR : ∀ ds κ, R ds κ → t_all_terms Rall_parts Rin_order (endT κ) (enterS 3 ds)) : FnG P w K mg base CX0 (n + 5) f fd ["terms"] (spTT K T0 R) :=
  Fun.okTT T0 Fn sc_all_terms hl ⟨_, fun cdv A outer s H E G H' pn hr4 hg hc hT => have hr := hr4.mono (Nat.le_add_right n 4);
      (s_one (s_retR (r_callTT ⟨cin_order.ex⟩ hT hr hg rfl (a_cons (d_of (f_lc2 1 (.nm 2) [2] rfl sc_all_terms.nd (i_seq (d_name 0)) bk_all_terms_0 (fun _ _ _ _ _ => (pg_name (i := 1) sc_all_terms.nd rfl (Or.inl rfl))) (fun _ _ _ _ _ _ => ts_nil) (fun _ _ _ _ _ _ => (i_seq (d_call ⟨call_parts.ex⟩ hr hg rfl (a_cons (d_name 1) a_nil)))) (fun _ _ _ _ _ => (pg_name (i := 2) sc_all_terms.nd rfl (Or.inl rfl))) (fun _ _ _ _ _ _ => ts_nil) (fun _ _ _ _ _ _ => (d_name 2)))) a_nil)))), hR⟩
noncomputable abbrev s_put_terms : Stmt := top 9
theorem sc_put_terms : FnScope ["term", "terms", "one"] ["term", "terms"] (defScope s_put_terms) := ⟨rfl, rfl, rfl, by decide +kernel, rfl, by decide +kernel, by decide +kernel⟩
theorem bk_put_terms_0 : BlkOk ["term", "terms", "one"] (defScope s_put_terms) { kind := .function, names := [(".0", .local), ("one", .local), ("put_terms", .globalImplicit), ("terms", .free)], isGenerator := false, isCoroutine := false, more := [] : Scope } [("one", 2)] := blkOk_by (by decide +kernel)
noncomputable def t_put_terms (Rcodes_within : RD) (Rput_terms : RD) (Rwith_codes : RD) : TSD :=
  (seqT (iffT (blT (DL.binT eqD (DL.binT ixD (nameT 0) (cT (.int 0))) (cT (.str "name")))) (retT (getT2 (nameT 1) (DL.binT ixD (nameT 0) (cT (.int 1))) (nameT 0))) nextT)
    (retT (callT Rwith_codes (consA (nameT 0) (consA (ofF (lcF (.nm 2) (seqI (callT Rcodes_within (consA (nameT 0) nilA))) yesT (callT Rput_terms (consA (nameT 2) (consA (nameT 1) nilA))) [2])) nilA)))))
theorem fn_put_terms {n : Nat} {R : RD} {f : Addr} {fd : FuncData} {Rcodes_within : RD} {Rput_terms : RD} {Rwith_codes : RD} (Fn : Fun K "put_terms" "put_terms" s_put_terms f fd) (ccodes_within : CalP P w K mg base n "codes_within" Rcodes_within) (cput_terms : CalP P w K mg base n "put_terms" Rput_terms) (cwith_codes : CalP P w K mg base n "with_codes" Rwith_codes)
    (hl : ∀ ds k, R ds k → ds.length = 2) (hR : ∀ ds κ, R ds κ → t_put_terms Rcodes_within Rput_terms Rwith_codes (endD κ) (enterS 3 ds)) : FnG P w K mg base CX0 (n + 1) f fd ["term", "terms"] (spD K R) :=
  Fun.okD Fn sc_put_terms hl ⟨_, fun cdv A outer s H E G H' pn hr hg =>
      (s_cons (s_if (t_cmp (op_eqA hr) ok_eq (d_ix (d_name 0) d_int) d_str (nomark _)) (s_one (s_ret (d_get2 hr (d_name 1) (d_ix (d_name 0) d_int) (d_name 0)))) s_nil)
      (s_one (s_ret (d_call ⟨cwith_codes.ex⟩ hr hg rfl (a_cons (d_name 0) (a_cons (d_of (f_lc (.nm 2) rfl sc_put_terms.nd (i_seq (d_call ⟨ccodes_within.ex⟩ hr hg rfl (a_cons (d_name 0) a_nil))) bk_put_terms_0 (fun _ _ _ _ _ => (pg_name (i := 2) sc_put_terms.nd rfl (Or.inl rfl))) (fun _ _ _ _ _ _ => ts_nil) (fun _ _ _ _ _ _ => (d_call ⟨cput_terms.ex⟩ hr hg rfl (a_cons (d_name 2) (a_cons (d_name 1) a_nil)))))) a_nil)))))), hR⟩
noncomputable abbrev s_is_part : Stmt := top 10
theorem sc_is_part : FnScope ["one", "other"] ["one", "other"] (defScope s_is_part) := ⟨rfl, rfl, rfl, by decide +kernel, rfl, by decide +kernel, by decide +kernel⟩
noncomputable def t_is_part (Rall_parts : RD) : TSD :=
  (retT (DL.binT inD (nameT 0) (callT Rall_parts (consA (nameT 1) nilA))))
theorem fn_is_part {n : Nat} {R : RD} {f : Addr} {fd : FuncData} {Rall_parts : RD} (Fn : Fun K "is_part" "is_part" s_is_part f fd) (call_parts : CalP P w K mg base n "all_parts" Rall_parts)
    (hl : ∀ ds k, R ds k → ds.length = 2) (hR : ∀ ds κ, R ds κ → t_is_part Rall_parts (endD κ) (enterS 2 ds)) : FnG P w K mg base CX0 (n + 1) f fd ["one", "other"] (spD K R) :=
  Fun.okD Fn sc_is_part hl ⟨_, fun cdv A outer s H E G H' pn hr hg =>
      (s_one (s_ret (d_cmp (op_inA hr) ok_in (d_name 0) (d_call ⟨call_parts.ex⟩ hr hg rfl (a_cons (d_name 1) a_nil)) (by rfl)))), hR⟩
noncomputable abbrev s_L_bag : Stmt := top 12
theorem sc_L_bag : FnScope ["_law_script", "_law_cell"] ["_law_script"] (defScope s_L_bag) := ⟨rfl, rfl, rfl, by decide +kernel, rfl, by decide +kernel, by decide +kernel⟩
theorem bk_L_bag_0 : BlkOk ["_law_script", "_law_cell"] (defScope s_L_bag) { kind := .function, names := [(".0", .local), ("_law_cell", .local), ("abs", .globalImplicit)], isGenerator := false, isCoroutine := false, more := [] : Scope } [("_law_cell", 1)] := blkOk_by (by decide +kernel)
theorem fn_L_bag {n : Nat} {f : Addr} {fd : FuncData} (Fn : Fun K "_law_bag" "_law_bag" s_L_bag f fd) (z_abs : mg "abs" = none) : FnG P w K mg base CX0 (n + 1) f fd ["_law_script"] (spBag K 1234567891) :=
  Fun.okBag Fn sc_L_bag ⟨_, fun cdv A outer s H E =>
    (pss_one (ps_ret (pe_lst (pa_cons pe_int (pa_cons pe_int (pa_cons pe_int (pa_cons (pe_lc rfl sc_L_bag.nd (pi_list (pe_slice sl_list (pv 0) po_none (po_some pe_int))) bk_L_bag_0 (fun _ _ _ _ _ => (pg_name (i := 1) sc_L_bag.nd rfl (Or.inl rfl))) (fun _ _ _ _ _ => pts_nil) (fun _ _ _ _ _ => (pe_callB call_abs rfl z_abs (by decide +kernel) (pa_cons (pv 1) pa_nil)))) pa_nil))))))), fun _ _ _ h => h⟩
noncomputable abbrev s_L_take : Stmt := top 13
theorem sc_L_take : FnScope ["_law_bag_here", "_law_many", "_law_cell", "_law_stirred", "_law_value", "_law_begin", "_law_second"] ["_law_bag_here", "_law_many"] (defScope s_L_take) := ⟨rfl, rfl, rfl, by decide +kernel, rfl, by decide +kernel, by decide +kernel⟩
noncomputable def t_L_take : TSD :=
  (seqT (iffT (blT (DL.binT eqD (bagT 0 (nameT 0)) (cT (.int 0)))) (seqT (setT 2 (DL.binT ixD (DL.binT addD (cutBT (nameT 0) (someO (bagT 2 (nameT 0)))) (ofF (lstF (consA (cT (.int 0)) nilA)))) (cT (.int 0))))
    (seqT (augBT 2 (nameT 0) (cT (.int 1)))
    (seqT (iffT (blT (DL.binT (cmpI fun i j => decide (i ≥ j)) (nameT 2) (cT (.int 1000000000000000000)))) (putBT 0 (nameT 0) (nameT 2)) nextT)
    (seqT (setT 3 (DL.binT addD (DL.binT addD (DL.binT mulD (bagT 1 (nameT 0)) (cT (.int 48271))) (DL.binT modD (callT intR (consA (nameT 2) nilA)) (cT (.int 2147483647)))) (DL.binT mulD (cT (.int 7919)) (bagT 2 (nameT 0)))))
    (putBT 1 (nameT 0) (DL.binT modD (callT intR (consA (nameT 3) nilA)) (cT (.int 2147483647)))))))) nextT)
    (seqT (iffT (blT (DL.binT (cmpI fun i j => decide (i > j)) (bagT 0 (nameT 0)) (cT (.int 0)))) (seqT (setT 4 (DL.binT modD (callT intR (consA (bagT 0 (nameT 0)) nilA)) (nameT 1)))
    (seqT (putBT 0 (nameT 0) (DL.binT fdivD (bagT 0 (nameT 0)) (nameT 1)))
    (retT (nameT 4)))) nextT)
    (seqT (setT 5 (DL.binT modD (callT intR (consA (DL.binT mulD (DL.binT addD (bagT 1 (nameT 0)) (cT (.int 1))) (cT (.int 39373))) nilA)) (cT (.int 1000000007))))
    (seqT (setT 6 (DL.binT modD (callT intR (consA (DL.binT mulD (DL.binT modD (callT intR (consA (DL.binT mulD (nameT 5) (nameT 5)) nilA)) (cT (.int 998244353))) (cT (.int 30011))) nilA)) (cT (.int 998244353))))
    (retT (DL.binT modD (callT intR (consA (DL.binT fdivD (nameT 6) (cT (.int 7))) nilA)) (nameT 1)))))))
theorem fn_L_take {n : Nat} {R : RD} {f : Addr} {fd : FuncData} (Fn : Fun K "_law_take" "_law_take" s_L_take f fd) (z_int : mg "int" = none)
    (hl : ∀ ds k, R ds k → ds.length = 2) (hR : ∀ ds κ, R ds κ → t_L_take (endD κ) (enterS 7 ds)) : FnG P w K mg base CX0 (n + 1) f fd ["_law_bag_here", "_law_many"] (spD K R) :=
  Fun.okD Fn sc_L_take hl ⟨_, fun cdv A outer s H E G H' pn hr hg =>
      (s_cons (s_if (t_cmp (op_eqA hr) ok_eq (d_bag (d_name 0)) d_int (nomark _)) (s_cons (s_set (i := 2) sc_L_take.nd rfl (Or.inl rfl) (d_ix (d_add (d_bagcut (d_name 0) (o_some (d_bag (d_name 0)))) (d_of (f_lst (a_cons d_int a_nil)))) d_int))
      (s_cons (s_bagaug (i := 0) d_int)
      (s_cons (s_if (t_cmp op_ge ok_cmpI (d_name 2) d_int (nomark _)) (s_one (s_bagput (i := 0) (d_name 2))) s_nil)
      (s_cons (s_set (i := 3) sc_L_take.nd rfl (Or.inl rfl) (d_add (d_add (d_mul (d_bag (d_name 0)) d_int) (d_mod (d_toint rfl z_int (a_cons (d_name 2) a_nil)) d_int)) (d_mul d_int (d_bag (d_name 0)))))
      (s_one (s_bagput (i := 0) (d_mod (d_toint rfl z_int (a_cons (d_name 3) a_nil)) d_int))))))) s_nil)
      (s_cons (s_if (t_cmp op_gt ok_cmpI (d_bag (d_name 0)) d_int (nomark _)) (s_cons (s_set (i := 4) sc_L_take.nd rfl (Or.inl rfl) (d_mod (d_toint rfl z_int (a_cons (d_bag (d_name 0)) a_nil)) (d_name 1)))
      (s_cons (s_bagput (i := 0) (d_fdiv (d_bag (d_name 0)) (d_name 1)))
      (s_one (s_ret (d_name 4))))) s_nil)
      (s_cons (s_set (i := 5) sc_L_take.nd rfl (Or.inl rfl) (d_mod (d_toint rfl z_int (a_cons (d_mul (d_add (d_bag (d_name 0)) d_int) d_int) a_nil)) d_int))
      (s_cons (s_set (i := 6) sc_L_take.nd rfl (Or.inl rfl) (d_mod (d_toint rfl z_int (a_cons (d_mul (d_mod (d_toint rfl z_int (a_cons (d_mul (d_name 5) (d_name 5)) a_nil)) d_int) d_int) a_nil)) d_int))
      (s_one (s_ret (d_mod (d_toint rfl z_int (a_cons (d_fdiv (d_name 6) d_int) a_nil)) (d_name 1)))))))), hR⟩
noncomputable abbrev s_L_alike : Stmt := top 14
theorem sc_L_alike : FnScope ["_law_found", "_law_due"] ["_law_found", "_law_due"] (defScope s_L_alike) := ⟨rfl, rfl, rfl, by decide +kernel, rfl, by decide +kernel, by decide +kernel⟩
noncomputable def t_L_alike : TSD :=
  (retT (andT (DL.binT eqD (nameT 0) (nameT 1)) (DL.binT eqD (callT reprR (consA (nameT 0) nilA)) (callT reprR (consA (nameT 1) nilA)))))
theorem fn_L_alike {n : Nat} {R : RD} {f : Addr} {fd : FuncData} (Fn : Fun K "_law_alike" "_law_alike" s_L_alike f fd) (z_repr : mg "repr" = none)
    (hl : ∀ ds k, R ds k → ds.length = 2) (hR : ∀ ds κ, R ds κ → t_L_alike (endD κ) (enterS 2 ds)) : FnG P w K mg base CX0 (n + 1) f fd ["_law_found", "_law_due"] (spD K R) :=
  Fun.okD Fn sc_L_alike hl ⟨_, fun cdv A outer s H E G H' pn hr hg =>
      (s_one (s_ret (d_and (d_cmp (op_eqA hr) ok_eq (d_name 0) (d_name 1) (nomark _)) (d_one (d_cmp (op_eqA hr) ok_eq (d_repr hr hg rfl z_repr (a_cons (d_name 0) a_nil)) (d_repr hr hg rfl z_repr (a_cons (d_name 1) a_nil)) (nomark _)))))), hR⟩
noncomputable abbrev s_L_some : Stmt := top 15
theorem sc_L_some : FnScope ["_law_bag_here", "_law_things"] ["_law_bag_here", "_law_things"] (defScope s_L_some) := ⟨rfl, rfl, rfl, by decide +kernel, rfl, by decide +kernel, by decide +kernel⟩
noncomputable def t_L_some (R_law_take : RD) : TSD :=
  (retT (DL.binT ixD (nameT 1) (callT R_law_take (consA (nameT 0) (consA (callT lenR (consA (nameT 1) nilA)) nilA)))))
theorem fn_L_some {n : Nat} {R : RD} {f : Addr} {fd : FuncData} {R_law_take : RD} (Fn : Fun K "_law_some" "_law_some" s_L_some f fd) (z_len : mg "len" = none) (c_law_take : CalP P w K mg base n "_law_take" R_law_take)
    (hl : ∀ ds k, R ds k → ds.length = 2) (hR : ∀ ds κ, R ds κ → t_L_some R_law_take (endD κ) (enterS 2 ds)) : FnG P w K mg base CX0 (n + 1) f fd ["_law_bag_here", "_law_things"] (spD K R) :=
  Fun.okD Fn sc_L_some hl ⟨_, fun cdv A outer s H E G H' pn hr hg =>
      (s_one (s_ret (d_ix (d_name 1) (d_call ⟨c_law_take.ex⟩ hr hg rfl (a_cons (d_name 0) (a_cons (d_len rfl z_len (a_cons (d_name 1) a_nil)) a_nil)))))), hR⟩
noncomputable abbrev s_L_mixed : Stmt := top 16
theorem sc_L_mixed : FnScope ["_law_bag_here", "_law_things", "_law_found", "_law_thing"] ["_law_bag_here", "_law_things"] (defScope s_L_mixed) := ⟨rfl, rfl, rfl, by decide +kernel, rfl, by decide +kernel, by decide +kernel⟩
noncomputable def t_L_mixed (R_law_take : RD) : TSD :=
  (seqT (newT 2 (lstF nilA))
    (seqT (forT (.nm 3) (seqI (nameT 1)) (mT 2 insD (consA (thruT 2 (callT R_law_take (consA (nameT 0) (consA (DL.binT addD (callT lenR (consA (nameT 2) nilA)) (cT (.int 1))) nilA)))) (consA (nameT 3) nilA))))
    (frzT 2 (retT (nameT 2)))))
theorem fn_L_mixed {n : Nat} {R : RD} {f : Addr} {fd : FuncData} {R_law_take : RD} (Fn : Fun K "_law_mixed" "_law_mixed" s_L_mixed f fd) (z_len : mg "len" = none) (c_law_take : CalP P w K mg base n "_law_take" R_law_take)
    (hl : ∀ ds k, R ds k → ds.length = 2) (hR : ∀ ds κ, R ds κ → t_L_mixed R_law_take (endD κ) (enterS 4 ds)) : FnG P w K mg base CX0 (n + 1) f fd ["_law_bag_here", "_law_things"] (spD K R) :=
  Fun.okD Fn sc_L_mixed hl ⟨_, fun cdv A outer s H E G H' pn hr hg =>
      (s_cons (s_new (i := 2) sc_L_mixed.nd rfl (Or.inl rfl) (f_lst a_nil))
      (s_cons (s_for (t := (.nm 3)) PassesOwn.never rfl (i_seq (d_name 1)) (pg_name (i := 3) sc_L_mixed.nd rfl (Or.inl rfl)) (fun _ => (s_one (s_ins 2 (a_cons (d_thru 2 (d_call ⟨c_law_take.ex⟩ hr hg rfl (a_cons (d_name 0) (a_cons (d_add (d_len rfl z_len (a_cons (d_name 2) a_nil)) d_int) a_nil)))) (a_cons (d_name 3) a_nil)) (pe_bm PySem.F.plainAttrs_list PySem.F.slot_list_insert PySem.F.type_list_insert mt_insert (pv 2) (a_cons (d_thru 2 (d_call ⟨c_law_take.ex⟩ hr hg rfl (a_cons (d_name 0) (a_cons (d_add (d_len rfl z_len (a_cons (d_name 2) a_nil)) d_int) a_nil)))) (a_cons (d_name 3) a_nil)))))))
      (ss_frz 2 (s_one (s_ret (d_name 2)))))), hR⟩
noncomputable abbrev s_L_words : Stmt := top 17
theorem sc_L_words : FnScope ["_law_bag_here", "_law_many", "_law_menu", "_law_at", "_law_found", "_law_word"] ["_law_bag_here", "_law_many"] (defScope s_L_words) := ⟨rfl, rfl, rfl, by decide +kernel, rfl, by decide +kernel, by decide +kernel⟩
noncomputable def t_L_words (R_law_take : RD) (R_law_mixed : RD) : TSD :=
  (seqT (setT 2 (methT splitM (onT isStr (cT (.str "name given work if with call leaf test worth place there code up of one a aa b zzzzzzzz"))) (consA (cT (.str " ")) nilA)))
    (seqT (parT 3 4 (consA (callT R_law_take (consA (nameT 0) (consA (cT (.int 19)) nilA))) (consA (ofF (lstF nilA)) nilA)))
    (seqT (forT (.nm 5) (seqI (callT R_law_mixed (consA (nameT 0) (consA (slT slD (DL.binT addD (nameT 2) (nameT 2)) (someO (nameT 3)) (someO (DL.binT addD (DL.binT addD (nameT 3) (nameT 1)) (cT (.int 2))))) nilA)))) (setT 4 (DL.binT addD (nameT 4) (DL.binT mulD (ofF (lstF (consA (nameT 5) nilA))) (callT intR (consA (DL.binT notInD (nameT 5) (nameT 4)) nilA))))))
    (retT (slT slD (nameT 4) noneO (someO (nameT 1)))))))
theorem fn_L_words {n : Nat} {R : RD} {f : Addr} {fd : FuncData} {R_law_take : RD} {R_law_mixed : RD} (Fn : Fun K "_law_words" "_law_words" s_L_words f fd) (z_int : mg "int" = none) (c_law_take : CalP P w K mg base n "_law_take" R_law_take) (c_law_mixed : CalP P w K mg base n "_law_mixed" R_law_mixed)
    (hl : ∀ ds k, R ds k → ds.length = 2) (hR : ∀ ds κ, R ds κ → t_L_words R_law_take R_law_mixed (endD κ) (enterS 6 ds)) : FnG P w K mg base CX0 (n + 1) f fd ["_law_bag_here", "_law_many"] (spD K R) :=
  Fun.okD Fn sc_L_words hl ⟨_, fun cdv A outer s H E G H' pn hr hg =>
      (s_cons (s_set (i := 2) sc_L_words.nd rfl (Or.inl rfl) (d_split d_str d_str))
      (s_cons (s_par (i := 3) (j := 4) rfl (by rfl) sc_L_words.nd rfl rfl (by decide) rfl rfl (a_cons (d_call ⟨c_law_take.ex⟩ hr hg rfl (a_cons (d_name 0) (a_cons d_int a_nil))) (a_cons (d_of (f_lst a_nil)) a_nil)))
      (s_cons (s_for (t := (.nm 5)) PassesOwn.never rfl (i_seq (d_call ⟨c_law_mixed.ex⟩ hr hg rfl (a_cons (d_name 0) (a_cons (d_slice (d_add (d_name 2) (d_name 2)) (o_some (d_name 3)) (o_some (d_add (d_add (d_name 3) (d_name 1)) d_int))) a_nil)))) (pg_name (i := 5) sc_L_words.nd rfl (Or.inl rfl)) (fun _ => (s_one (s_set (i := 4) sc_L_words.nd rfl (Or.inl rfl) (d_add (d_name 4) (d_mul (d_of (f_lst (a_cons (d_name 5) a_nil))) (d_toint rfl z_int (a_cons (d_cmp (op_notInA hr) ok_notIn (d_name 5) (d_name 4) (by rfl)) a_nil))))))))
      (s_one (s_ret (d_slice (d_name 4) o_none (o_some (d_name 1)))))))), hR⟩
noncomputable abbrev s_L_inner : Stmt := top 18
theorem sc_L_inner : FnScope ["_law_code"] ["_law_code"] (defScope s_L_inner) := ⟨rfl, rfl, rfl, by decide +kernel, rfl, by decide +kernel, by decide +kernel⟩
noncomputable def t_L_inner : TSD :=
  (seqT (iffT (blT (DL.binT inD (DL.binT ixD (nameT 0) (cT (.int 0))) (tupT (consA (cT (.str "name")) (consA (cT (.str "given")) nilA))))) (retT (tupT nilA)) nextT)
    (seqT (iffT (blT (DL.binT eqD (DL.binT ixD (nameT 0) (cT (.int 0))) (cT (.str "if")))) (retT (slT slD (nameT 0) (someO (cT (.int 1))) noneO)) nextT)
    (retT (ifT (blT (DL.binT eqD (DL.binT ixD (nameT 0) (cT (.int 0))) (cT (.str "with")))) (slT slD (nameT 0) (someO (cT (.int 2))) noneO) (DL.binT ixD (nameT 0) (cT (.int 2)))))))
theorem fn_L_inner {n : Nat} {R : RD} {f : Addr} {fd : FuncData} (Fn : Fun K "_law_inner" "_law_inner" s_L_inner f fd)
    (hl : ∀ ds k, R ds k → ds.length = 1) (hR : ∀ ds κ, R ds κ → t_L_inner (endD κ) (enterS 1 ds)) : FnG P w K mg base CX0 (n + 1) f fd ["_law_code"] (spD K R) :=
  Fun.okD Fn sc_L_inner hl ⟨_, fun cdv A outer s H E G H' pn hr hg =>
      (s_cons (s_if (t_cmp (op_inA hr) ok_in (d_ix (d_name 0) d_int) (d_tup (a_cons d_str (a_cons d_str a_nil))) (by rfl)) (s_one (s_ret (d_tup a_nil))) s_nil)
      (s_cons (s_if (t_cmp (op_eqA hr) ok_eq (d_ix (d_name 0) d_int) d_str (nomark _)) (s_one (s_ret (d_slice (d_name 0) (o_some d_int) o_none))) s_nil)
      (s_one (s_ret (d_if (t_cmp (op_eqA hr) ok_eq (d_ix (d_name 0) d_int) d_str (nomark _)) (d_slice (d_name 0) (o_some d_int) o_none) (d_ix (d_name 0) d_int)))))), hR⟩
noncomputable abbrev s_L_parts_of : Stmt := top 19
theorem sc_L_parts_of : FnScope ["_law_code", "_law_found", "_law_one"] ["_law_code"] (defScope s_L_parts_of) := ⟨rfl, rfl, rfl, by decide +kernel, rfl, by decide +kernel, by decide +kernel⟩
noncomputable def t_L_parts_of (R_law_inner : RD) (R_law_parts_of : RD) : TSD :=
  (seqT (setT 1 (ofF (lstF (consA (nameT 0) nilA))))
    (seqT (forT (.nm 2) (seqI (callT R_law_inner (consA (nameT 0) nilA))) (setT 1 (DL.binT addD (nameT 1) (callT R_law_parts_of (consA (nameT 2) nilA)))))
    (retT (nameT 1))))
theorem fn_L_parts_of {n : Nat} {R : RD} {f : Addr} {fd : FuncData} {R_law_inner : RD} {R_law_parts_of : RD} (Fn : Fun K "_law_parts_of" "_law_parts_of" s_L_parts_of f fd) (c_law_inner : CalP P w K mg base n "_law_inner" R_law_inner) (c_law_parts_of : CalP P w K mg base n "_law_parts_of" R_law_parts_of)
    (hl : ∀ ds k, R ds k → ds.length = 1) (hR : ∀ ds κ, R ds κ → t_L_parts_of R_law_inner R_law_parts_of (endD κ) (enterS 3 ds)) : FnG P w K mg base CX0 (n + 1) f fd ["_law_code"] (spD K R) :=
  Fun.okD Fn sc_L_parts_of hl ⟨_, fun cdv A outer s H E G H' pn hr hg =>
      (s_cons (s_set (i := 1) sc_L_parts_of.nd rfl (Or.inl rfl) (d_of (f_lst (a_cons (d_name 0) a_nil))))
      (s_cons (s_for (t := (.nm 2)) PassesOwn.never rfl (i_seq (d_call ⟨c_law_inner.ex⟩ hr hg rfl (a_cons (d_name 0) a_nil))) (pg_name (i := 2) sc_L_parts_of.nd rfl (Or.inl rfl)) (fun _ => (s_one (s_set (i := 1) sc_L_parts_of.nd rfl (Or.inl rfl) (d_add (d_name 1) (d_call ⟨c_law_parts_of.ex⟩ hr hg rfl (a_cons (d_name 2) a_nil)))))))
      (s_one (s_ret (d_name 1))))), hR⟩
noncomputable abbrev s_L_leaf : Stmt := top 20
theorem sc_L_leaf : FnScope ["_law_bag_here", "_law_names", "_law_handed_in"] ["_law_bag_here", "_law_names", "_law_handed_in"] (defScope s_L_leaf) := ⟨rfl, rfl, rfl, by decide +kernel, rfl, by decide +kernel, by decide +kernel⟩
noncomputable def t_L_leaf (R_law_take : RD) (R_law_some : RD) : TSD :=
  (seqT (iffT (andB (blT (DL.binT (cmpI fun i j => decide (i > j)) (nameT 2) (cT (.int 0)))) (blT (DL.binT eqD (callT R_law_take (consA (nameT 0) (consA (cT (.int 4)) nilA))) (cT (.int 0))))) (retT (tupT (consA (cT (.str "given")) (consA (callT R_law_take (consA (nameT 0) (consA (nameT 2) nilA))) nilA)))) nextT)
    (retT (tupT (consA (cT (.str "name")) (consA (callT R_law_some (consA (nameT 0) (consA (nameT 1) nilA))) nilA)))))
theorem fn_L_leaf {n : Nat} {R : RD} {f : Addr} {fd : FuncData} {R_law_take : RD} {R_law_some : RD} (Fn : Fun K "_law_leaf" "_law_leaf" s_L_leaf f fd) (c_law_take : CalP P w K mg base n "_law_take" R_law_take) (c_law_some : CalP P w K mg base n "_law_some" R_law_some)
    (hl : ∀ ds k, R ds k → ds.length = 3) (hR : ∀ ds κ, R ds κ → t_L_leaf R_law_take R_law_some (endD κ) (enterS 3 ds)) : FnG P w K mg base CX0 (n + 1) f fd ["_law_bag_here", "_law_names", "_law_handed_in"] (spD K R) :=
  Fun.okD Fn sc_L_leaf hl ⟨_, fun cdv A outer s H E G H' pn hr hg =>
      (s_cons (s_if (PW.pt (w_and (t_cmp op_gt ok_cmpI (d_name 2) d_int (nomark _)) (w_and1 (t_cmp (op_eqA hr) ok_eq (d_call ⟨c_law_take.ex⟩ hr hg rfl (a_cons (d_name 0) (a_cons d_int a_nil))) d_int (nomark _))))) (s_one (s_ret (d_tup (a_cons d_str (a_cons (d_call ⟨c_law_take.ex⟩ hr hg rfl (a_cons (d_name 0) (a_cons (d_name 2) a_nil))) a_nil))))) s_nil)
      (s_one (s_ret (d_tup (a_cons d_str (a_cons (d_call ⟨c_law_some.ex⟩ hr hg rfl (a_cons (d_name 0) (a_cons (d_name 1) a_nil))) a_nil)))))), hR⟩
noncomputable abbrev s_L_term : Stmt := top 21
theorem sc_L_term : FnScope ["_law_bag_here", "_law_names", "_law_handed_in", "_law_deep", "_law_way", "_law_one", "_law_many", "_law_some_here", "_law_k"] ["_law_bag_here", "_law_names", "_law_handed_in", "_law_deep"] (defScope s_L_term) := ⟨rfl, rfl, rfl, by decide +kernel, rfl, by decide +kernel, by decide +kernel⟩
theorem bk_L_term_0 : BlkOk ["_law_bag_here", "_law_names", "_law_handed_in", "_law_deep", "_law_way", "_law_one", "_law_many", "_law_some_here", "_law_k"] (defScope s_L_term) { kind := .function, names := [(".0", .local), ("_law_k", .local), ("_law_term", .globalImplicit), ("_law_bag_here", .free), ("_law_deep", .free), ("_law_handed_in", .free), ("_law_names", .free)], isGenerator := false, isCoroutine := false, more := [] : Scope } [("_law_k", 8)] := blkOk_by (by decide +kernel)
noncomputable def t_L_term (R_law_take : RD) (R_law_leaf : RD) (R_law_term : RD) : TSD :=
  (seqT (setT 4 (ifT (blT (DL.binT (cmpI fun i j => decide (i > j)) (nameT 3) (cT (.int 0)))) (callT R_law_take (consA (nameT 0) (consA (cT (.int 6)) nilA))) (cT (.int 0))))
    (seqT (iffT (blT (DL.binT (cmpI fun i j => decide (i < j)) (nameT 4) (cT (.int 3)))) (retT (callT R_law_leaf (consA (nameT 0) (consA (nameT 1) (consA (nameT 2) nilA))))) nextT)
    (seqT (iffT (blT (DL.binT eqD (nameT 4) (cT (.int 5)))) (seqT (setT 5 (callT R_law_leaf (consA (nameT 0) (consA (nameT 1) (consA (nameT 2) nilA)))))
    (retT (ifT (blT (DL.binT eqD (callT R_law_take (consA (nameT 0) (consA (cT (.int 2)) nilA))) (cT (.int 0)))) (tupT (consA (cT (.str "work")) (consA (cT (.str "one")) (consA (tupT nilA) nilA)))) (tupT (consA (cT (.str "work")) (consA (cT (.str "up")) (consA (tupT (consA (nameT 5) (consA (nameT 5) nilA))) nilA))))))) nextT)
    (seqT (setT 6 (ifT (blT (DL.binT eqD (nameT 4) (cT (.int 3)))) (cT (.int 1)) (DL.binT addD (cT (.int 2)) (callT intR (consA (DL.binT eqD (callT R_law_take (consA (nameT 0) (consA (cT (.int 6)) nilA))) (cT (.int 0))) nilA)))))
    (seqT (setT 7 (callT tupR (consA (ofF (lcF (.nm 8) (rng1I (consA (nameT 6) nilA)) yesT (callT R_law_term (consA (nameT 0) (consA (nameT 1) (consA (nameT 2) (consA (DL.binT subD (nameT 3) (cT (.int 1))) nilA))))) [8])) nilA)))
    (retT (tupT (consA (cT (.str "work")) (consA (DL.binT ixD (ofF (lstF (consA (cT (.str "up")) (consA (cT (.str "of")) nilA)))) (DL.binT subD (nameT 4) (cT (.int 3)))) (consA (nameT 7) nilA))))))))))
theorem fn_L_term {n : Nat} {R : RD} {f : Addr} {fd : FuncData} {R_law_take : RD} {R_law_leaf : RD} {R_law_term : RD} (Fn : Fun K "_law_term" "_law_term" s_L_term f fd) (z_int : mg "int" = none) (z_range : mg "range" = none) (z_tuple : mg "tuple" = none) (c_law_take : CalP P w K mg base n "_law_take" R_law_take) (c_law_leaf : CalP P w K mg base n "_law_leaf" R_law_leaf) (c_law_term : CalP P w K mg base n "_law_term" R_law_term)
    (hl : ∀ ds k, R ds k → ds.length = 4) (hR : ∀ ds κ, R ds κ → t_L_term R_law_take R_law_leaf R_law_term (endD κ) (enterS 9 ds)) : FnG P w K mg base CX0 (n + 1) f fd ["_law_bag_here", "_law_names", "_law_handed_in", "_law_deep"] (spD K R) :=
  Fun.okD Fn sc_L_term hl ⟨_, fun cdv A outer s H E G H' pn hr hg =>
      (s_cons (s_set (i := 4) sc_L_term.nd rfl (Or.inl rfl) (d_if (t_cmp op_gt ok_cmpI (d_name 3) d_int (nomark _)) (d_call ⟨c_law_take.ex⟩ hr hg rfl (a_cons (d_name 0) (a_cons d_int a_nil))) d_int))
      (s_cons (s_if (t_cmp op_lt ok_cmpI (d_name 4) d_int (nomark _)) (s_one (s_ret (d_call ⟨c_law_leaf.ex⟩ hr hg rfl (a_cons (d_name 0) (a_cons (d_name 1) (a_cons (d_name 2) a_nil)))))) s_nil)
      (s_cons (s_if (t_cmp (op_eqA hr) ok_eq (d_name 4) d_int (nomark _)) (s_cons (s_set (i := 5) sc_L_term.nd rfl (Or.inl rfl) (d_call ⟨c_law_leaf.ex⟩ hr hg rfl (a_cons (d_name 0) (a_cons (d_name 1) (a_cons (d_name 2) a_nil)))))
      (s_one (s_ret (d_if (t_cmp (op_eqA hr) ok_eq (d_call ⟨c_law_take.ex⟩ hr hg rfl (a_cons (d_name 0) (a_cons d_int a_nil))) d_int (nomark _)) (d_tup (a_cons d_str (a_cons d_str (a_cons (d_tup a_nil) a_nil)))) (d_tup (a_cons d_str (a_cons d_str (a_cons (d_tup (a_cons (d_name 5) (a_cons (d_name 5) a_nil))) a_nil)))))))) s_nil)
      (s_cons (s_set (i := 6) sc_L_term.nd rfl (Or.inl rfl) (d_if (t_cmp (op_eqA hr) ok_eq (d_name 4) d_int (nomark _)) d_int (d_add d_int (d_toint rfl z_int (a_cons (d_cmp (op_eqA hr) ok_eq (d_call ⟨c_law_take.ex⟩ hr hg rfl (a_cons (d_name 0) (a_cons d_int a_nil))) d_int (nomark _)) a_nil)))))
      (s_cons (s_set (i := 7) sc_L_term.nd rfl (Or.inl rfl) (d_totup rfl z_tuple (a_cons (d_of (f_lc (.nm 8) rfl sc_L_term.nd (i_rng1 rfl z_range (a_cons (d_name 6) a_nil)) bk_L_term_0 (fun _ _ _ _ _ => (pg_name (i := 8) sc_L_term.nd rfl (Or.inl rfl))) (fun _ _ _ _ _ _ => ts_nil) (fun _ _ _ _ _ _ => (d_call ⟨c_law_term.ex⟩ hr hg rfl (a_cons (d_name 0) (a_cons (d_name 1) (a_cons (d_name 2) (a_cons (d_sub (d_name 3) d_int) a_nil)))))))) a_nil)))
      (s_one (s_ret (d_tup (a_cons d_str (a_cons (d_ix (d_of (f_lst (a_cons d_str (a_cons d_str a_nil)))) (d_sub (d_name 4) d_int)) (a_cons (d_name 7) a_nil))))))))))), hR⟩
noncomputable abbrev s_L_ordered : Stmt := top 22
theorem sc_L_ordered : FnScope ["_law_terms", "_law_found", "_law_one", "_law_count"] ["_law_terms"] (defScope s_L_ordered) := ⟨rfl, rfl, rfl, by decide +kernel, rfl, by decide +kernel, by decide +kernel⟩
theorem bk_L_ordered_0 : BlkOk ["_law_terms", "_law_found", "_law_one", "_law_count"] (defScope s_L_ordered) { kind := .function, names := [(".0", .local), ("_law_one", .local), ("len", .globalImplicit), ("_law_parts_of", .globalImplicit)], isGenerator := false, isCoroutine := false, more := [] : Scope } [("_law_one", 2)] := blkOk_by (by decide +kernel)
noncomputable def t_L_ordered (R_law_parts_of : RD) : TSD :=
  (seqT (setT 1 (ofF (lstF nilA)))
    (seqT (forT (.tp [3, 2]) (seqI (ofF (sortPF (consA (ofF (lcF (.nm 2) (seqI (nameT 0)) yesT (tupT (consA (callT lenR (consA (callT R_law_parts_of (consA (nameT 2) nilA)) nilA)) (consA (nameT 2) nilA))) [2])) nilA)))) (setT 1 (DL.binT addD (nameT 1) (DL.binT mulD (ofF (lstF (consA (nameT 2) nilA))) (callT intR (consA (DL.binT notInD (nameT 2) (nameT 1)) nilA))))))
    (retT (nameT 1))))
theorem fn_L_ordered {n : Nat} {R : RD} {f : Addr} {fd : FuncData} {R_law_parts_of : RD} (Fn : Fun K "_law_ordered" "_law_ordered" s_L_ordered f fd) (z_int : mg "int" = none) (z_len : mg "len" = none) (z_sorted : mg "sorted" = none) (c_law_parts_of : CalP P w K mg base n "_law_parts_of" R_law_parts_of)
    (hl : ∀ ds k, R ds k → ds.length = 1) (hR : ∀ ds κ, R ds κ → t_L_ordered R_law_parts_of (endD κ) (enterS 4 ds)) : FnG P w K mg base CX0 (n + 1) f fd ["_law_terms"] (spD K R) :=
  Fun.okD Fn sc_L_ordered hl ⟨_, fun cdv A outer s H E G H' pn hr hg =>
      (s_cons (s_set (i := 1) sc_L_ordered.nd rfl (Or.inl rfl) (d_of (f_lst a_nil)))
      (s_cons (s_for (t := (.tp [3, 2])) PassesOwn.never rfl (i_seq (d_of (f_sortP (Room.u110 hr) rfl z_sorted (a_cons (d_of (f_lc (.nm 2) rfl sc_L_ordered.nd (i_seq (d_name 0)) bk_L_ordered_0 (fun _ _ _ _ _ => (pg_name (i := 2) sc_L_ordered.nd rfl (Or.inl rfl))) (fun _ _ _ _ _ _ => ts_nil) (fun _ _ _ _ _ _ => (d_tup (a_cons (d_len rfl z_len (a_cons (d_call ⟨c_law_parts_of.ex⟩ hr hg rfl (a_cons (d_name 2) a_nil)) a_nil)) (a_cons (d_name 2) a_nil)))))) a_nil)))) (pg_tup rfl (pgs_cons (pg_name (i := 3) sc_L_ordered.nd rfl (Or.inl rfl)) (pgs_cons (pg_name (i := 2) sc_L_ordered.nd rfl (Or.inl rfl)) pgs_nil))) (fun _ => (s_one (s_set (i := 1) sc_L_ordered.nd rfl (Or.inl rfl) (d_add (d_name 1) (d_mul (d_of (f_lst (a_cons (d_name 2) a_nil))) (d_toint rfl z_int (a_cons (d_cmp (op_notInA hr) ok_notIn (d_name 2) (d_name 1) (by rfl)) a_nil))))))))
      (s_one (s_ret (d_name 1))))), hR⟩
noncomputable abbrev s_L_set_in : Stmt := top 23
theorem sc_L_set_in : FnScope ["_law_term_here", "_law_terms", "_law_one"] ["_law_term_here", "_law_terms"] (defScope s_L_set_in) := ⟨rfl, rfl, rfl, by decide +kernel, rfl, by decide +kernel, by decide +kernel⟩
theorem bk_L_set_in_0 : BlkOk ["_law_term_here", "_law_terms", "_law_one"] (defScope s_L_set_in) { kind := .function, names := [(".0", .local), ("_law_one", .local), ("_law_set_in", .globalImplicit), ("_law_terms", .free)], isGenerator := false, isCoroutine := false, more := [] : Scope } [("_law_one", 2)] := blkOk_by (by decide +kernel)
noncomputable def t_L_set_in (R_law_set_in : RD) : TSD :=
  (seqT (iffT (blT (DL.binT eqD (DL.binT ixD (nameT 0) (cT (.int 0))) (cT (.str "name")))) (retT (getT2 (nameT 1) (DL.binT ixD (nameT 0) (cT (.int 1))) (nameT 0))) nextT)
    (seqT (iffT (blT (DL.binT eqD (DL.binT ixD (nameT 0) (cT (.int 0))) (cT (.str "given")))) (retT (nameT 0)) nextT)
    (retT (tupT (consA (cT (.str "work")) (consA (DL.binT ixD (nameT 0) (cT (.int 1))) (consA (callT tupR (consA (ofF (lcF (.nm 2) (seqI (DL.binT ixD (nameT 0) (cT (.int 2)))) yesT (callT R_law_set_in (consA (nameT 2) (consA (nameT 1) nilA))) [2])) nilA)) nilA)))))))
theorem fn_L_set_in {n : Nat} {R : RD} {f : Addr} {fd : FuncData} {R_law_set_in : RD} (Fn : Fun K "_law_set_in" "_law_set_in" s_L_set_in f fd) (z_tuple : mg "tuple" = none) (c_law_set_in : CalP P w K mg base n "_law_set_in" R_law_set_in)
    (hl : ∀ ds k, R ds k → ds.length = 2) (hR : ∀ ds κ, R ds κ → t_L_set_in R_law_set_in (endD κ) (enterS 3 ds)) : FnG P w K mg base CX0 (n + 1) f fd ["_law_term_here", "_law_terms"] (spD K R) :=
  Fun.okD Fn sc_L_set_in hl ⟨_, fun cdv A outer s H E G H' pn hr hg =>
      (s_cons (s_if (t_cmp (op_eqA hr) ok_eq (d_ix (d_name 0) d_int) d_str (nomark _)) (s_one (s_ret (d_get2 hr (d_name 1) (d_ix (d_name 0) d_int) (d_name 0)))) s_nil)
      (s_cons (s_if (t_cmp (op_eqA hr) ok_eq (d_ix (d_name 0) d_int) d_str (nomark _)) (s_one (s_ret (d_name 0))) s_nil)
      (s_one (s_ret (d_tup (a_cons d_str (a_cons (d_ix (d_name 0) d_int) (a_cons (d_totup rfl z_tuple (a_cons (d_of (f_lc (.nm 2) rfl sc_L_set_in.nd (i_seq (d_ix (d_name 0) d_int)) bk_L_set_in_0 (fun _ _ _ _ _ => (pg_name (i := 2) sc_L_set_in.nd rfl (Or.inl rfl))) (fun _ _ _ _ _ _ => ts_nil) (fun _ _ _ _ _ _ => (d_call ⟨c_law_set_in.ex⟩ hr hg rfl (a_cons (d_name 2) (a_cons (d_name 1) a_nil)))))) a_nil)) a_nil)))))))), hR⟩
noncomputable abbrev s_law : Stmt := top 24
theorem sc_law : FnScope ["_law_script", "_law_bag_here", "_law_spin", "_law_names", "_law_k", "_law_some_here", "_law_every", "_law_one", "_law_given", "_law_due", "_law_shown", "_law_again", "_law_found", "_law_other", "_law_name"] ["_law_script"] (defScope s_law) := ⟨rfl, rfl, rfl, by decide +kernel, rfl, by decide +kernel, by decide +kernel⟩
theorem bk_law_0 : BlkOk ["_law_script", "_law_bag_here", "_law_spin", "_law_names", "_law_k", "_law_some_here", "_law_every", "_law_one", "_law_given", "_law_due", "_law_shown", "_law_again", "_law_found", "_law_other", "_law_name"] (defScope s_law) { kind := .function, names := [(".0", .local), ("_law_k", .local), ("_law_term", .globalImplicit), ("_law_bag_here", .free), ("_law_names", .free)], isGenerator := false, isCoroutine := false, more := [] : Scope } [("_law_k", 4)] := blkOk_by (by decide +kernel)
theorem bk_law_1 : BlkOk ["_law_script", "_law_bag_here", "_law_spin", "_law_names", "_law_k", "_law_some_here", "_law_every", "_law_one", "_law_given", "_law_due", "_law_shown", "_law_again", "_law_found", "_law_other", "_law_name"] (defScope s_law) { kind := .function, names := [(".0", .local), ("_law_name", .local), ("_law_term", .globalImplicit), ("_law_bag_here", .free), ("_law_names", .free)], isGenerator := false, isCoroutine := false, more := [] : Scope } [("_law_name", 14)] := blkOk_by (by decide +kernel)
noncomputable def t_law (R_law_take : RD) (R_law_words : RD) (R_law_term : RD) (R_law_parts_of : RD) (R_law_mixed : RD) (R_law_set_in : RD) (R_law_ordered : RD) (Rput_terms : RD) (R_law_alike : RD) (R_law_some : RD) (Ris_part : RD) (Rall_terms : RTD) (Rterms_in : RTD) : TSD :=
  (seqT (forT (.nm 2) (rng1I (consA (cT (.int 6)) nilA)) (seqT (setT 3 (callT R_law_words (consA (nameT 1) (consA (DL.binT addD (cT (.int 1)) (callT R_law_take (consA (nameT 1) (consA (cT (.int 4)) nilA)))) nilA))))
    (seqT (setT 5 (ofF (lcF (.nm 4) (rng1I (consA (DL.binT addD (cT (.int 1)) (callT R_law_take (consA (nameT 1) (consA (cT (.int 4)) nilA)))) nilA)) yesT (callT R_law_term (consA (nameT 1) (consA (nameT 3) (consA (cT (.int 2)) (consA (cT (.int 3)) nilA))))) [4])))
    (seqT (setT 5 (DL.binT addD (nameT 5) (slT slD (nameT 5) noneO (someO (callT R_law_take (consA (nameT 1) (consA (cT (.int 2)) nilA)))))))
    (seqT (setT 6 (ofF (lstF nilA)))
    (seqT (forT (.nm 7) (seqI (nameT 5)) (setT 6 (DL.binT addD (nameT 6) (callT R_law_parts_of (consA (nameT 7) nilA)))))
    (seqT (setT 8 (callT dictR (consA (ofF (lcF (.nm 14) (seqI (slT slD (nameT 3) noneO (someO (callT R_law_take (consA (nameT 1) (consA (cT (.int 4)) nilA)))))) yesT (tupT (consA (nameT 14) (consA (callT R_law_term (consA (nameT 1) (consA (nameT 3) (consA (cT (.int 2)) (consA (cT (.int 1)) nilA))))) nilA))) [14])) nilA)))
    (seqT (setT 8 (callT dictR (consA (callT R_law_mixed (consA (nameT 1) (consA (ofF (itemsF (nameT 8))) nilA))) nilA)))
    (seqT (setT 9 (ofF (lstF (consA (callT R_law_ordered (consA (callT R_law_parts_of (consA (DL.binT ixD (nameT 5) (cT (.int 0))) nilA)) nilA)) (consA (callT R_law_ordered (consA (nameT 6) nilA)) (consA (callT R_law_set_in (consA (DL.binT ixD (nameT 5) (cT (.int 0))) (consA (nameT 8) nilA))) nilA))))))
    (seqT (setT 10 (callT reprW (consA (ofF (lstF (consA (nameT 5) (consA (nameT 8) nilA)))) nilA)))
    (seqT (forT (.nm 11) (rng1I (consA (cT (.int 3)) nilA)) (seqT (newR 12 (lstR' (consR (callRT Rterms_in (consA (DL.binT ixD (nameT 5) (cT (.int 0))) nilA)) (consR (callRT Rall_terms (consA (nameT 5) nilA)) (consR (datR (callT Rput_terms (consA (DL.binT ixD (nameT 5) (cT (.int 0))) (consA (nameT 8) nilA)))) nilR)))))
    (seqT (iffT (thruB 12 (orB (notB (truT (callT R_law_alike (consA (nameT 12) (consA (nameT 9) nilA))))) (blT (DL.binT neD (callT reprW (consA (ofF (lstF (consA (nameT 5) (consA (nameT 8) nilA)))) nilA)) (nameT 10))))) (retT (cT (.bl false))) nextT)
    (seqT (appIx 12 0 (consA (cT .non) nilA))
    (appIx 12 1 (consA (cT .non) nilA))))))
    (forT (.nm 4) (rng1I (consA (cT (.int 4)) nilA)) (seqT (setT 7 (callT R_law_some (consA (nameT 1) (consA (DL.binT addD (nameT 6) (ofF (lstF (consA (callT R_law_term (consA (nameT 1) (consA (nameT 3) (consA (cT (.int 2)) (consA (cT (.int 1)) nilA))))) nilA)))) nilA))))
    (seqT (setT 13 (callT R_law_some (consA (nameT 1) (consA (nameT 5) nilA))))
    (iffT (notB (truT (callT R_law_alike (consA (callT Ris_part (consA (nameT 7) (consA (nameT 13) nilA))) (consA (DL.binT inD (nameT 7) (callT R_law_parts_of (consA (nameT 13) nilA))) nilA))))) (retT (cT (.bl false))) nextT)))))))))))))))
    (retT (DL.binT e0D (datO (callRT Rall_terms (consA (ofF (lstF nilA)) nilA))) (ofF (lstF nilA)))))
theorem fn_law {n : Nat} {f : Addr} {fd : FuncData} {R_law_take : RD} {R_law_words : RD} {R_law_term : RD} {R_law_parts_of : RD} {R_law_mixed : RD} {R_law_set_in : RD} {R_law_ordered : RD} {Rput_terms : RD} {R_law_alike : RD} {R_law_some : RD} {Ris_part : RD} {Rall_terms : RTD} {Rterms_in : RTD} {T0 : List (Addr × Str)} (Fn : Fun K "law" "law" s_law f fd) (z_dict : mg "dict" = none) (z_list : mg "list" = none) (z_range : mg "range" = none) (z_repr : mg "repr" = none) (cbag : BagP P w K mg base n "_law_bag") (c_law_take : CalP P w K mg base n "_law_take" R_law_take) (c_law_words : CalP P w K mg base n "_law_words" R_law_words) (c_law_term : CalP P w K mg base n "_law_term" R_law_term) (c_law_parts_of : CalP P w K mg base n "_law_parts_of" R_law_parts_of) (c_law_mixed : CalP P w K mg base n "_law_mixed" R_law_mixed) (c_law_set_in : CalP P w K mg base n "_law_set_in" R_law_set_in) (c_law_ordered : CalP P w K mg base n "_law_ordered" R_law_ordered) (cput_terms : CalP P w K mg base n "put_terms" Rput_terms) (c_law_alike : CalP P w K mg base n "_law_alike" R_law_alike) (c_law_some : CalP P w K mg base n "_law_some" R_law_some) (cis_part : CalP P w K mg base n "is_part" Ris_part) (call_terms : CalTT P w K mg base T0 n "all_terms" Rall_terms) (cterms_in : CalTT P w K mg base T0 n "terms_in" Rterms_in) (hS : ∃ m, base.Ns sysModules m)
    (hR : t_law R_law_take R_law_words R_law_term R_law_parts_of R_law_mixed R_law_set_in R_law_ordered Rput_terms R_law_alike R_law_some Ris_part Rall_terms Rterms_in endLaw (.un :: .dat .bag :: List.replicate 13 .un)) : FnG P w K mg base CX0 (n + 3) f fd ["_law_script"] (spLawT K T0) :=
  Fun.okLawU T0 Fn sc_law rfl rfl ⟨_, fun cdv A outer s H E hr2 hg hc => have hr := hr2.mono (Nat.le_add_right n 2); ⟨s_bag0 ⟨cbag.ex⟩ hr hg sc_law.nd rfl (Or.inr rfl) rfl rfl, fun G H' pn hT =>
      (s_cons (s_for (t := (.nm 2)) PassesOwn.never rfl (i_rng1 rfl z_range (a_cons d_int a_nil)) (pg_name (i := 2) sc_law.nd rfl (Or.inl rfl)) (fun _ => (s_cons (s_set (i := 3) sc_law.nd rfl (Or.inr rfl) (d_call ⟨c_law_words.ex⟩ hr hg rfl (a_cons (d_name 1) (a_cons (d_add d_int (d_call ⟨c_law_take.ex⟩ hr hg rfl (a_cons (d_name 1) (a_cons d_int a_nil)))) a_nil))))
      (s_cons (s_setLc (i := 5) (.nm 4) rfl sc_law.nd rfl rfl (by rfl) (i_rng1 rfl z_range (a_cons (d_add d_int (d_call ⟨c_law_take.ex⟩ hr hg rfl (a_cons (d_name 1) (a_cons d_int a_nil)))) a_nil)) bk_law_0 (fun _ _ _ _ _ => (pg_name (i := 4) sc_law.nd rfl (Or.inl rfl))) (fun _ _ _ _ _ _ => ts_nil) (fun _ _ _ _ _ _ => (d_call ⟨c_law_term.ex⟩ hr hg rfl (a_cons (d_name 1) (a_cons (d_name 3) (a_cons d_int (a_cons d_int a_nil)))))))
      (s_cons (s_set (i := 5) sc_law.nd rfl (Or.inl rfl) (d_add (d_name 5) (d_slice (d_name 5) o_none (o_some (d_call ⟨c_law_take.ex⟩ hr hg rfl (a_cons (d_name 1) (a_cons d_int a_nil)))))))
      (s_cons (s_set (i := 6) sc_law.nd rfl (Or.inl rfl) (d_of (f_lst a_nil)))
      (s_cons (s_for (t := (.nm 7)) PassesOwn.never rfl (i_seq (d_name 5)) (pg_name (i := 7) sc_law.nd rfl (Or.inl rfl)) (fun _ => (s_one (s_set (i := 6) sc_law.nd rfl (Or.inl rfl) (d_add (d_name 6) (d_call ⟨c_law_parts_of.ex⟩ hr hg rfl (a_cons (d_name 7) a_nil)))))))
      (s_cons (s_set (i := 8) sc_law.nd rfl (Or.inl rfl) (d_dict rfl rfl z_dict (a_cons (d_of (f_lc (.nm 14) rfl sc_law.nd (i_seq (d_slice (d_name 3) o_none (o_some (d_call ⟨c_law_take.ex⟩ hr hg rfl (a_cons (d_name 1) (a_cons d_int a_nil)))))) bk_law_1 (fun _ _ _ _ _ => (pg_name (i := 14) sc_law.nd rfl (Or.inl rfl))) (fun _ _ _ _ _ _ => ts_nil) (fun _ _ _ _ _ _ => (d_tup (a_cons (d_name 14) (a_cons (d_call ⟨c_law_term.ex⟩ hr hg rfl (a_cons (d_name 1) (a_cons (d_name 3) (a_cons d_int (a_cons d_int a_nil))))) a_nil)))))) a_nil)))
      (s_cons (s_set (i := 8) sc_law.nd rfl (Or.inl rfl) (d_dict rfl rfl z_dict (a_cons (d_call ⟨c_law_mixed.ex⟩ hr hg rfl (a_cons (d_name 1) (a_cons (d_of (f_items rfl rfl z_list (d_name 8))) a_nil))) a_nil)))
      (s_cons (s_set (i := 9) sc_law.nd rfl (Or.inl rfl) (d_of (f_lst (a_cons (d_call ⟨c_law_ordered.ex⟩ hr hg rfl (a_cons (d_call ⟨c_law_parts_of.ex⟩ hr hg rfl (a_cons (d_ix (d_name 5) d_int) a_nil)) a_nil)) (a_cons (d_call ⟨c_law_ordered.ex⟩ hr hg rfl (a_cons (d_name 6) a_nil)) (a_cons (d_call ⟨c_law_set_in.ex⟩ hr hg rfl (a_cons (d_ix (d_name 5) d_int) (a_cons (d_name 8) a_nil))) a_nil))))))
      (s_cons (s_set (i := 10) sc_law.nd rfl (Or.inl rfl) (d_reprW hr hg hS rfl z_repr (a_cons (d_of (f_lst (a_cons (d_name 5) (a_cons (d_name 8) a_nil)))) a_nil)))
      (s_cons (s_for (t := (.nm 11)) PassesOwn.never rfl (i_rng1 rfl z_range (a_cons d_int a_nil)) (pg_name (i := 11) sc_law.nd rfl (Or.inl rfl)) (fun _ => (s_cons (s_newR (i := 12) sc_law.nd rfl (Or.inl rfl) (r_lst (ra_cons (r_callTT ⟨cterms_in.ex⟩ hT hr hg rfl (a_cons (d_ix (d_name 5) d_int) a_nil)) (ra_cons (r_callTT ⟨call_terms.ex⟩ hT hr hg rfl (a_cons (d_name 5) a_nil)) (ra_cons (r_dat (d_call ⟨cput_terms.ex⟩ hr hg rfl (a_cons (d_ix (d_name 5) d_int) (a_cons (d_name 8) a_nil)))) ra_nil)))))
      (s_cons (s_if (t_thru 12 (PW.pt (w_or (t_not (t_tru (d_call ⟨c_law_alike.ex⟩ hr hg rfl (a_cons (d_name 12) (a_cons (d_name 9) a_nil))))) (w_or1 (t_cmp (op_neA hr) ok_ne (d_reprW hr hg hS rfl z_repr (a_cons (d_of (f_lst (a_cons (d_name 5) (a_cons (d_name 8) a_nil)))) a_nil)) (d_name 10) (nomark _)))))) (s_one (s_ret d_bl)) s_nil)
      (s_cons (s_appIx 12 (pe_bm PySem.F.plainAttrs_list PySem.F.slot_list_append PySem.F.type_list_append mt_append (pe_own 12) (a_cons d_non a_nil)))
      (s_one (s_appIx 12 (pe_bm PySem.F.plainAttrs_list PySem.F.slot_list_append PySem.F.type_list_append mt_append (pe_own 12) (a_cons d_non a_nil)))))))))
      (s_one (s_for (t := (.nm 4)) PassesOwn.never rfl (i_rng1 rfl z_range (a_cons d_int a_nil)) (pg_name (i := 4) sc_law.nd rfl (Or.inl rfl)) (fun _ => (s_cons (s_set (i := 7) sc_law.nd rfl (Or.inl rfl) (d_call ⟨c_law_some.ex⟩ hr hg rfl (a_cons (d_name 1) (a_cons (d_add (d_name 6) (d_of (f_lst (a_cons (d_call ⟨c_law_term.ex⟩ hr hg rfl (a_cons (d_name 1) (a_cons (d_name 3) (a_cons d_int (a_cons d_int a_nil))))) a_nil)))) a_nil))))
      (s_cons (s_set (i := 13) sc_law.nd rfl (Or.inl rfl) (d_call ⟨c_law_some.ex⟩ hr hg rfl (a_cons (d_name 1) (a_cons (d_name 5) a_nil))))
      (s_one (s_if (t_not (t_tru (d_call ⟨c_law_alike.ex⟩ hr hg rfl (a_cons (d_call ⟨cis_part.ex⟩ hr hg rfl (a_cons (d_name 7) (a_cons (d_name 13) a_nil))) (a_cons (d_cmp (op_inA hr) ok_in (d_name 7) (d_call ⟨c_law_parts_of.ex⟩ hr hg rfl (a_cons (d_name 13) a_nil)) (by rfl)) a_nil))))) (s_one (s_ret d_bl)) s_nil)))))))))))))))))))
      (s_one (s_ret (d_cmp (op_e0 hr) ok_e0 (d_ofR (r_callTT ⟨call_terms.ex⟩ hT hr hg rfl (a_cons (d_of (f_lst a_nil)) a_nil))) (d_of (f_lst a_nil)) (nomark _)))))⟩, hR⟩
end
end K20
set_option Elab.async false
set_option linter.all false
set_option maxRecDepth 100000
set_option maxHeartbeats 4000000
namespace K20
open PySem L2 DL
local macro_rules | `(tactic| walk_at "dl") => do
  let l ← (("Tr.toD toDs_d map_snoc map_ins treeT seqT iffT setT retT nextT retN blT DL.binT nameT cT bagT cutBT putBT augBT consA nilA callT ofF lstF lstR tupT eqD neD inD notInD someO noneO slT revF endD enterS ifT andT orT notT andB orB notB truT newT mT thruT thruB frzT putT parT tgtT methT onT isStr isLst getT starA negT dropT breakT contT tgD putA seqI rng1I enumI zipI forT lcF wipeS addD_ii addD_ib addD_ss addD_ll addD_tt subD_ii mulD_ii mulD_li fdivD_ii modD_ii cmpI_ii eqB_ss eqB_ii eqB_bb eqB_tt eqB_ll inB_l inB_t ixD_l ixD_t ixD_s slD_l slD_t truD_b truD_i truD_n truD_s truD_l truD_t intR_i intR_b lenR_s lenR_l lenR_t absR_i minR_ii maxR_ii tupR_l tupR_t appD_1 insD_1 extD_1 splitM_1 optK_some atI_0 atI_1 atI_2 atI_3 atI_4 cutL_1 cutL_2 cutL_t1 cutL_t2 List.map_cons List.map_nil List.replicate_succ List.replicate_zero List.cons_append List.nil_append List.length_cons List.length_nil List.set_cons_zero List.set_cons_succ List.getElem?_cons_zero List.getElem?_cons_succ List.drop_succ_cons List.drop_zero List.take_succ_cons List.take_zero true_and and_true true_or or_true decide_eq_true_eq reduceCtorEq if_true if_false ite_true ite_false D.int.injEq Nat.reduceAdd Nat.reduceSub Int.reduceSub Int.reduceAdd Int.reduceNeg Bool.false_eq_true Bool.true_eq_false decide_true decide_false Bool.not_true Bool.not_false Bool.not_eq_true' decide_eq_false_iff_not".splitOn " ").toArray.mapM fun s => `(Lean.Parser.Tactic.simpLemma| $(Lean.mkIdent s.toName):ident) : Lean.MacroM _)
  `(tactic| simp only [$l,*])
noncomputable def R_take : RD := fun ds k => ∃ m : Int, ds = [.bag, .int m] ∧ 0 < m ∧ m < 2 ^ 30 ∧ ∀ i : Int, 0 ≤ i → i < m → k (.int i)
theorem p_take : ∀ ds κ, R_take ds κ → t_L_take (endD κ) (enterS 7 ds) := by
  rintro ds κ ⟨m, rfl, h0, h1, h⟩
  unfold t_L_take
  walk_at "dl"
  have hm : ∀ i : Int, κ (.int (i % m)) := fun i => h _ (Int.emod_nonneg _ (by omega)) (Int.emod_lt_of_pos _ h0)
  have cm : ∀ {a b : Int}, 0 ≤ b → b < 2 ^ 64 → CMul a b := fun h1 h2 => .inr ⟨by omega, h2⟩
  have cd : ∀ {a b c : Int}, 0 ≤ a → a < 2 ^ 64 → CMul a c := fun h1 h2 => .inl ⟨by omega, h2⟩
  have em : ∀ {a b : Int}, 0 < b → 0 ≤ a % b ∧ a % b < b := fun hb => ⟨Int.emod_nonneg _ (by omega), Int.emod_lt_of_pos _ hb⟩
  intro x hx
  split
  · intro y hy ns hns hl
    have hs : sizeLine = 16777216 := sizeLine_eq
    refine ⟨by omega, by rw [List.length_map]; omega, ?_⟩
    have hc : ∃ c : Int, 0 ≤ c ∧ L2.atI (List.map D.int ns ++ [D.int 0]) 0 = some (D.int c) := by
      cases ns with
      | nil => exact ⟨0, by omega, atI_0⟩
      | cons a ns => exact ⟨a, hns a List.mem_cons_self, atI_0⟩
    obtain ⟨c, hc, e⟩ := hc
    refine optK_of e ⟨1, by omega, rfl, ?_⟩
    walk_at "dl"
    have tl : ∀ (z u : Int), 0 ≤ z → (0 ≤ u) → CMul z 48271 ∧ CMul 7919 u := fun z u _ _ => ⟨cm (by omega) (by omega), .inl ⟨by omega, by omega⟩⟩
    split
    · refine ⟨c, hc, rfl, fun z hz => ⟨cm (by omega) (by omega), by omega, fun u hu => ⟨.inl ⟨by omega, by omega⟩, by omega, _, (em (by omega)).1, rfl, fun v hv => ?_⟩⟩⟩
      split
      · exact fun a ha => ⟨h0, fun b hb => ⟨⟨h0, by omega⟩, _, Int.ediv_nonneg hb (by omega), rfl, hm _⟩⟩
      · exact fun a ha => ⟨cm (by omega) (by omega), by omega, .inl ⟨by have := (em (a := (a + 1) * 39373) (b := 1000000007) (by omega)).1; omega, by have := (em (a := (a + 1) * 39373) (b := 1000000007) (by omega)).2; omega⟩, by omega, cm (by omega) (by omega), by omega, ⟨by omega, by omega⟩, h0, hm _⟩
    · refine fun z hz => ⟨cm (by omega) (by omega), by omega, fun u hu => ⟨.inl ⟨by omega, by omega⟩, by omega, _, (em (by omega)).1, rfl, fun v hv => ?_⟩⟩
      split
      · exact fun a ha => ⟨h0, fun b hb => ⟨⟨h0, by omega⟩, _, Int.ediv_nonneg hb (by omega), rfl, hm _⟩⟩
      · exact fun a ha => ⟨cm (by omega) (by omega), by omega, .inl ⟨by have := (em (a := (a + 1) * 39373) (b := 1000000007) (by omega)).1; omega, by have := (em (a := (a + 1) * 39373) (b := 1000000007) (by omega)).2; omega⟩, by omega, cm (by omega) (by omega), by omega, ⟨by omega, by omega⟩, h0, hm _⟩
  · intro v hv
    split
    · exact fun a ha => ⟨h0, fun b hb => ⟨⟨h0, by omega⟩, _, Int.ediv_nonneg hb (by omega), rfl, hm _⟩⟩
    · exact fun a ha => ⟨cm (by omega) (by omega), by omega, .inl ⟨by have := (em (a := (a + 1) * 39373) (b := 1000000007) (by omega)).1; omega, by have := (em (a := (a + 1) * 39373) (b := 1000000007) (by omega)).2; omega⟩, by omega, cm (by omega) (by omega), by omega, ⟨by omega, by omega⟩, h0, hm _⟩
/-! ### draws -/
noncomputable def R_some : RD := fun ds k => (∃ xs, ds = [.bag, .lst xs] ∧ xs ≠ [] ∧ xs.length < 2 ^ 20 ∧ ∀ x ∈ xs, k x) ∨ ∃ z : Str, ds = [.bag, .str z] ∧ 0 < z.length ∧ z.length < 2 ^ 20 ∧ ∀ c ∈ z.cps.toList, k (.str ⟨#[c]⟩)
theorem p_some : ∀ ds κ, R_some ds κ → t_L_some R_take (endD κ) (enterS 2 ds) := by
  have hs : sizeLine = 16777216 := sizeLine_eq
  rintro ds κ (⟨xs, rfl, hn, hl, h⟩ | ⟨z, rfl, hn, hl, h⟩)
  · unfold t_L_some
    walk_at "dl"
    have hp : 0 < xs.length := List.length_pos_iff.mpr hn
    refine ⟨_, rfl, by omega, by omega, fun i h0 h1 => ?_⟩
    walk_at "dl"
    obtain ⟨c, e1, e2⟩ := atI_lt h0 h1
    exact optK_of e1 (h c (List.mem_of_getElem? e2))
  · unfold t_L_some
    walk_at "dl"
    refine ⟨by omega, _, rfl, by omega, by omega, fun i h0 h1 => ?_⟩
    walk_at "dl"
    have h2 : i < z.cps.toList.length := h1
    obtain ⟨c, e1, e2⟩ := atI_lt h0 h2
    exact ⟨by omega, optK_of e1 (h c (List.mem_of_getElem? e2))⟩
/-- some order of what is there -/
noncomputable def R_mixed (n : Nat) : RD := fun ds k => ∃ xs, (ds = [.bag, .lst xs] ∨ ds = [.bag, .tup xs]) ∧ xs.length ≤ n ∧ ∀ ys : List D, (∀ y, y ∈ ys ↔ y ∈ xs) → ys.length = xs.length → k (.lst ys)
theorem p_mixed {n : Nat} (hn : n < 2 ^ 20) : ∀ ds κ, R_mixed n ds κ → t_L_mixed R_take (endD κ) (enterS 4 ds) := by
  have hs : sizeLine = 16777216 := sizeLine_eq
  rintro ds κ ⟨xs, hd, hl, h⟩
  have go : ∀ s0 : D, (s0 = .lst xs ∨ s0 = .tup xs) → t_L_mixed R_take (endD κ) (enterS 4 [.bag, s0]) := by
    intro s0 hs0
    unfold t_L_mixed
    walk_at "dl"
    refine ⟨by omega, ?_⟩
    have main : loopT (.nm 3) (mT 2 insD (consA (thruT 2 (callT R_take (consA (nameT 0) (consA (DL.binT addD (callT lenR (consA (nameT 2) nilA)) (cT (.int 1))) nilA)))) (consA (nameT 3) nilA)))
        { nx := frzT 2 (retT (nameT 2)) (endD κ), rt := (endD κ).rt, bk := (endD κ).bk, ct := (endD κ).ct } xs [.dat .bag, .dat s0, .ml [], .un] := by
      refine loopT_ind (I := fun rest ρ => ∃ ys u, ρ = [.dat .bag, .dat s0, .ml ys, u] ∧ (∀ y, (y ∈ ys ∨ y ∈ rest) ↔ y ∈ xs) ∧ ys.length + rest.length = xs.length) ?_ ?_ ⟨[], .un, rfl, fun y => by simp, by simp⟩
      · rintro ρ ⟨ys, u, rfl, h1, h2⟩
        walk_at "dl"
        exact h ys (fun y => by rw [← h1 y]; simp) (by simpa using h2)
      · rintro d rest ρ N hN ⟨ys, u, rfl, h1, h2⟩
        rw [List.length_cons] at h2
        walk_at "dl"
        refine ⟨_, rfl, by omega, by omega, fun i h3 h4 => ⟨rfl, ?_⟩⟩
        walk_at "dl"
        refine ⟨by rw [List.length_map]; omega, h3, by omega, hN _ ⟨_, _, rfl, fun y => ?_, by simp [List.length_take, List.length_drop]; omega⟩⟩
        rw [← h1 y]
        have e : ys = ys.take i.toNat ++ ys.drop i.toNat := (List.take_append_drop _ _).symm
        have e2 : y ∈ ys ↔ y ∈ ys.take i.toNat ∨ y ∈ ys.drop i.toNat := by
          constructor
          · intro hy; rw [e] at hy; exact List.mem_append.mp hy
          · intro hy; rw [e]; exact List.mem_append.mpr hy
        rw [e2]
        simp only [List.mem_append, List.mem_cons, List.not_mem_nil, or_false]
        constructor
        · rintro (((a | b) | c) | d)
          · exact .inl (.inl a)
          · exact .inr (.inl b)
          · exact .inl (.inr c)
          · exact .inr (.inr d)
        · rintro ((a | b) | (c | d))
          · exact .inl (.inl (.inl a))
          · exact .inl (.inr b)
          · exact .inl (.inl (.inr c))
          · exact .inr d
    rcases hs0 with rfl | rfl <;> exact main
  rcases hd with rfl | rfl
  · exact go _ (.inl rfl)
  · exact go _ (.inr rfl)
/-! ### words -/
noncomputable def lowc (c : Nat) : Bool := decide (97 ≤ c) && decide (c < 123)
noncomputable def wOk (w : Str) : Bool := w.cps.all lowc && (decide (w.length ≤ 8) && decide (0 < w.length))
theorem low_asc {w : Str} (h : w.cps.all lowc = true) : w.cps.all (· < 128) = true := by
  rw [Array.all_eq_true] at h ⊢
  intro i hi
  have := h i hi
  simp only [lowc, Bool.and_eq_true, decide_eq_true_eq] at this ⊢
  omega
theorem asc_ok {w : Str} (h : w.cps.all (· < 128) = true) : PyData.strOk w = true := by
  unfold PyData.strOk
  rw [Array.all_eq_true] at h ⊢
  intro i hi
  have := h i hi
  simp only [decide_eq_true_eq] at this ⊢
  omega
theorem wOk_str {w : Str} (h : wOk w = true) : PyData.strOk w = true := by
  unfold wOk at h
  rw [Bool.and_eq_true] at h
  exact asc_ok (low_asc h.1)
noncomputable abbrev Good (ws : List Str) : Prop := ∀ w ∈ ws, wOk w = true
theorem lay_strs : ∀ ws : List Str, Good ws → PyData.canLayAll0 (D.pys (ws.map .str)) = true
  | [], _ => by simp [D.pys, PyData.canLayAll0]
  | w :: ws, h => by simp [D.pys, D.py, PyData.canLayAll0, PyData.canLay0, lay_strs ws fun z hz => h z (List.mem_cons_of_mem _ hz), wOk_str (h w List.mem_cons_self)]
theorem in_strs {x : Str} {ws : List Str} (hx : wOk x = true) (h : Good ws) : inOk (.str x) (ws.map .str) := ⟨by simp [D.py, PyData.canLay0, wOk_str hx], lay_strs ws h, by simp [D.py, PyData.depth]⟩
theorem any_strs (x : Str) : ∀ l : List Str, ((l.map D.str).any fun z => z.py.eqv (.str x)) = decide (x ∈ l)
  | [] => by simp
  | y :: l => by
    rw [List.map_cons, List.any_cons, any_strs x l]
    simp only [D.py, PyData.eqv, List.mem_cons]
    by_cases e : y = x
    · subst e; simp
    · have e' : ¬ x = y := fun z => e z.symm
      simp [e, e']
noncomputable def addS (xs : List Str) (x : Str) : List Str := if x ∈ xs then xs else xs ++ [x]
theorem addS_mem {xs : List Str} {x y : Str} : y ∈ addS xs x ↔ y ∈ xs ∨ y = x := by
  unfold addS
  split
  · constructor
    · exact .inl
    · rintro (h | rfl)
      · exact h
      · assumption
  · simp
theorem addS_good {xs : List Str} {x : Str} (h : Good xs) (hx : wOk x = true) : Good (addS xs x) := fun w hw => by
  rcases addS_mem.mp hw with z | rfl
  · exact h w z
  · exact hx
/-- found + [word] * int(word not in found) -/
theorem grows {x : Str} {ws : List Str} {κ : D → Prop} (B : Bool) (hB : B = decide (x ∈ ws)) (h : κ (.lst ((addS ws x).map .str))) (hl : ws.length < 2 ^ 20) :
    ((-2 ^ 63 ≤ if B = false then (1 : Int) else 0) ∧ (if B = false then (1 : Int) else 0) < 2 ^ 63) ∧ 1 * (if B = false then (1 : Int) else 0).toNat ≤ sizeLine ∧
      (ws.map D.str).length + (List.replicate (if B = false then (1 : Int) else 0).toNat [D.str x]).flatten.length ≤ sizeLine ∧ κ (.lst (ws.map .str ++ (List.replicate (if B = false then (1 : Int) else 0).toNat [D.str x]).flatten)) := by
  have hs : sizeLine = 16777216 := sizeLine_eq
  subst hB
  unfold addS at h
  by_cases q : x ∈ ws
  · rw [if_pos q] at h
    rw [decide_eq_true q]
    have e : ws.map D.str ++ (List.replicate (if true = false then (1 : Int) else 0).toNat [D.str x]).flatten = ws.map .str := by simp
    rw [e]
    exact ⟨by simp, by simp, by simp; omega, h⟩
  · rw [if_neg q] at h
    rw [decide_eq_false q]
    have e : ws.map D.str ++ (List.replicate (if false = false then (1 : Int) else 0).toNat [D.str x]).flatten = (ws ++ [x]).map .str := by rw [List.map_append]; rfl
    rw [e]
    exact ⟨by simp, by simp; omega, by simp; omega, h⟩
noncomputable def R_words : RD := fun ds k => ∃ m : Nat, ds = [.bag, .int m] ∧ 1 ≤ m ∧ m ≤ 14 ∧ ∀ ws : List Str, Good ws → ws.Nodup → ws.length = m → k (.lst (ws.map .str))
noncomputable abbrev wordsText : Str := "name given work if with call leaf test worth place there code up of one a aa b zzzzzzzz"
theorem words_len : (Txt.split wordsText " ").length = 19 := by decide +kernel
theorem words_ok : (Txt.split wordsText " ").all wOk = true := by decide +kernel
theorem words_nd : ∀ a : Fin 19, (((Txt.split wordsText " ") ++ (Txt.split wordsText " ")).drop a).take 19 |>.Nodup := by decide +kernel
theorem p_words : ∀ ds κ, R_words ds κ → t_L_words R_take (R_mixed 16) (endD κ) (enterS 6 ds) := by
  have hs : sizeLine = 16777216 := sizeLine_eq
  rintro ds κ ⟨m, rfl, h1, h3, h⟩
  unfold t_L_words
  walk_at "dl"
  refine ⟨⟨by decide +kernel, by decide +kernel⟩, _, rfl, by omega, by omega, fun i i0 i1 => ⟨by omega, ?_⟩⟩
  have wl := words_len
  have wo : Good (Txt.split wordsText " ") := List.all_eq_true.mp words_ok
  have wn := words_nd
  generalize hW : Txt.split _ _ = W at wl wo wn ⊢
  refine ⟨by simp only [List.length_map, wl]; omega, ?_⟩
  walk_at "dl"
  obtain ⟨a, rfl⟩ : ∃ a : Nat, i = a := ⟨i.toNat, by omega⟩
  have e2 : ((a : Int) + (m : Int) + 2) = ((a + m + 2 : Nat) : Int) := by omega
  rw [e2, cutL_r, ← List.map_append, ← List.map_drop, ← List.map_take]
  generalize hV : List.take _ _ = V
  have hl : V.length = m + 2 := by
    rw [← hV, List.length_take, List.length_drop, List.length_append, wl]; omega
  have vo : Good V := fun v hv => by
    rw [← hV] at hv
    rcases List.mem_append.mp (List.mem_of_mem_drop (List.mem_of_mem_take hv)) with q | q <;> exact wo v q
  have vn : V.Nodup := by
    have q := wn ⟨a, by omega⟩
    have e : V = (((W ++ W).drop a).take 19).take (m + 2) := by
      rw [← hV, List.take_take]
      congr 1
      omega
    rw [e]
    exact q.sublist (List.take_sublist _ _)
  refine ⟨_, .inl rfl, by rw [List.length_map, hl]; omega, fun ys hy hyl => ?_⟩
  have hys : ∃ us : List Str, ys = us.map .str ∧ ∀ u ∈ us, u ∈ V := by
    have : ∀ ys : List D, (∀ y ∈ ys, y ∈ V.map D.str) → ∃ us : List Str, ys = us.map .str ∧ ∀ u ∈ us, u ∈ V := by
      intro ys
      induction ys with
      | nil => exact fun _ => ⟨[], rfl, fun _ z => nomatch z⟩
      | cons y ys ih =>
        intro h
        obtain ⟨us, e, g⟩ := ih fun z hz => h z (List.mem_cons_of_mem _ hz)
        obtain ⟨x, hx, e'⟩ := List.mem_map.mp (h y List.mem_cons_self)
        refine ⟨x :: us, by rw [e, ← e']; rfl, fun z hz => ?_⟩
        rcases List.mem_cons.mp hz with rfl | hz
        · exact hx
        · exact g z hz
    exact this ys fun y h => (hy y).mp h
  obtain ⟨us, rfl, uV⟩ := hys
  have uo : Good us := fun u hu => vo u (uV u hu)
  rw [List.length_map, List.length_map, hl] at hyl
  have un : us.Nodup := by
    have p : us.Perm V := (DMS.perm_of vn (fun x hx => by
      have := (hy (.str x)).mpr (List.mem_map.mpr ⟨x, hx, rfl⟩)
      obtain ⟨z, hz, e⟩ := List.mem_map.mp this
      cases e; exact hz) (by omega))
    exact p.symm.nodup vn
  walk_at "dl"
  refine loopT_ind (I := fun rest ρ => ∃ (ws us : List Str) (p q u : Sl), rest = us.map .str ∧ ρ = [.dat .bag, .dat (.int m), p, q, .dat (.lst (ws.map .str)), u] ∧ Good ws ∧ Good us ∧ (ws ++ us).Nodup ∧ ws.length + us.length = m + 2) ?_ ?_ ⟨[], us, _, _, _, rfl, rfl, (fun _ z => nomatch z), uo, by simpa using un, by simp; omega⟩
  · rintro ρ ⟨ws, us, p, q, u, e1, rfl, g1, g2, hne, hle⟩
    walk_at "dl"
    rw [cutL_to, ← List.map_take]
    have hu : us = [] := by cases us with
      | nil => rfl
      | cons a l => cases e1
    subst hu
    rw [List.append_nil] at hne
    rw [List.length_nil] at hle
    exact h _ (fun z hz => g1 z (List.mem_of_mem_take hz)) (hne.sublist (List.take_sublist _ _)) (by rw [List.length_take]; omega)
  · rintro d rest ρ N hN ⟨ws, us, p, q, u, e1, rfl, g1, g2, hne, hle⟩
    cases us with
    | nil => cases e1
    | cons x us =>
      obtain ⟨rfl, rfl⟩ := List.cons.inj e1
      rw [List.length_cons] at hle
      have hx : x ∉ ws := fun z => (List.nodup_append.mp hne).2.2 x z x List.mem_cons_self rfl
      have ex : addS ws x = ws ++ [x] := if_neg hx
      walk_at "dl"
      refine ⟨by omega, in_strs (g2 x List.mem_cons_self) g1, grows (κ := fun d => N [.dat .bag, .dat (.int m), p, q, .dat d, .dat (.str x)]) _ (any_strs x ws) ?_ (by omega)⟩
      refine hN _ ⟨addS ws x, us, p, q, _, rfl, rfl, addS_good g1 (g2 x List.mem_cons_self), fun z hz => g2 z (List.mem_cons_of_mem _ hz), ?_, ?_⟩
      · rw [ex, List.append_assoc]; exact hne
      · rw [ex, List.length_append, List.length_singleton]; omega
/-! ### codes -/
inductive Code where
  | nm (x : Str) | gv (i : Int) | ite (a b c d : Code) | wth (x : Str) (a b : Code) | app (w : Bool) (f : Str) (cs : List Code)
mutual
noncomputable def Code.toD : Code → D
  | .nm x => .tup [.str "name", .str x]
  | .gv i => .tup [.str "given", .int i]
  | .ite a b c d => .tup [.str "if", a.toD, b.toD, c.toD, d.toD]
  | .wth x a b => .tup [.str "with", .str x, a.toD, b.toD]
  | .app w f cs => .tup [.str (if w = true then "work" else "call"), .str f, .tup (Code.toDs cs)]
noncomputable def Code.toDs : List Code → List D
  | [] => []
  | c :: cs => c.toD :: Code.toDs cs
end
mutual
noncomputable def Code.size : Code → Nat
  | .nm _ => 1
  | .gv _ => 1
  | .ite a b c d => 1 + a.size + b.size + c.size + d.size
  | .wth _ a b => 1 + a.size + b.size
  | .app _ _ cs => 1 + Code.sizes cs
noncomputable def Code.sizes : List Code → Nat
  | [] => 0
  | c :: cs => c.size + Code.sizes cs
end
mutual
/-- its texts are good -/
noncomputable def Code.ok : Code → Prop
  | .nm x => wOk x = true
  | .gv i => 0 ≤ i ∧ i < 13
  | .ite a b c d => a.ok ∧ b.ok ∧ c.ok ∧ d.ok
  | .wth x a b => wOk x = true ∧ a.ok ∧ b.ok
  | .app _ f cs => wOk f = true ∧ Code.oks cs
noncomputable def Code.oks : List Code → Prop
  | [] => True
  | c :: cs => c.ok ∧ Code.oks cs
end
noncomputable def Code.kids : Code → List Code
  | .nm _ => []
  | .gv _ => []
  | .ite a b c d => [a, b, c, d]
  | .wth _ a b => [a, b]
  | .app _ _ cs => cs
theorem toDs_map : ∀ cs : List Code, Code.toDs cs = cs.map Code.toD
  | [] => by simp only [Code.toDs, List.map_nil]
  | c :: cs => by simp only [Code.toDs, List.map_cons, toDs_map cs]
theorem Code.size_pos (c : Code) : 0 < c.size := by cases c <;> simp only [Code.size] <;> omega
theorem sizes_mem : ∀ {cs : List Code} {c : Code}, c ∈ cs → c.size ≤ Code.sizes cs
  | d :: cs, c, h => by
    simp only [Code.sizes]
    rcases List.mem_cons.mp h with rfl | h
    · omega
    · have := sizes_mem h; omega
theorem sizes_len : ∀ cs : List Code, cs.length ≤ Code.sizes cs
  | [] => Nat.le_refl _
  | c :: cs => by
    have := sizes_len cs
    have := c.size_pos
    simp only [Code.sizes, List.length_cons]; omega
theorem kids_sizes (c : Code) : Code.sizes c.kids < c.size := by cases c <;> simp only [Code.kids, Code.sizes, Code.size] <;> omega
theorem oks_mem : ∀ {cs : List Code}, Code.oks cs → ∀ c ∈ cs, c.ok
  | d :: cs, h, c, hc => by
    simp only [Code.oks] at h
    rcases List.mem_cons.mp hc with rfl | hc
    · exact h.1
    · exact oks_mem h.2 c hc
theorem kids_ok {c : Code} (h : c.ok) : Code.oks c.kids := by
  cases c <;> simp only [Code.kids, Code.oks, Code.ok] at h ⊢ <;> simp_all
theorem oks_of : ∀ {cs : List Code}, (∀ c ∈ cs, c.ok) → Code.oks cs
  | [], _ => by simp only [Code.oks]
  | c :: cs, h => by simp only [Code.oks]; exact ⟨h c List.mem_cons_self, oks_of fun d hd => h d (List.mem_cons_of_mem _ hd)⟩
/-! ### a code -/
theorem sizes_le {b : Nat} : ∀ {cs : List Code}, (∀ c ∈ cs, c.size ≤ b) → Code.sizes cs ≤ cs.length * b
  | [], _ => by simp [Code.sizes]
  | c :: cs, h => by
    have h1 := sizes_le (cs := cs) fun d hd => h d (List.mem_cons_of_mem _ hd)
    have h2 := h c List.mem_cons_self
    simp only [Code.sizes, List.length_cons, Nat.succ_mul]
    omega
theorem codes_out {P : Code → Prop} {ds es : List D} (h : All2 (fun _ e => ∃ c : Code, e = c.toD ∧ P c) ds es) : ∃ cs, es = Code.toDs cs ∧ cs.length = ds.length ∧ ∀ c ∈ cs, P c := by
  induction h with
  | nil => exact ⟨[], by simp only [Code.toDs], rfl, fun _ z => nomatch z⟩
  | cons hr _ ih =>
    obtain ⟨c, rfl, hc⟩ := hr
    obtain ⟨cs, rfl, hl, hp⟩ := ih
    refine ⟨c :: cs, by simp only [Code.toDs], by simp [hl], fun d hd => ?_⟩
    rcases List.mem_cons.mp hd with rfl | hd
    · exact hc
    · exact hp d hd
/-- a call's result for each i in range(m) -/
theorem comp_any {n m : Nat} {te : TD} {P : Code → Prop} {ρ : List Sl} {i : Nat} {k : List D → Prop} (h : ∀ d κ', (∀ c : Code, P c → κ' c.toD) → te (ρ.set i (.dat d)) κ') (hk : ∀ cs : List Code, cs.length = m → (∀ c ∈ cs, P c) → k (Code.toDs cs)) :
    compT (.nm i) yesT te ρ ((List.range m).map fun i => D.int (i : Nat)) [] k := by
  refine compT_ind (R := fun _ e => ∃ c : Code, e = c.toD ∧ P c) (fun d _ κ' q => h d κ' fun c hc => q _ ⟨c, rfl, hc⟩) fun es he => ?_
  obtain ⟨cs, rfl, hl, hp⟩ := codes_out he
  exact hk cs (by simpa using hl) hp
theorem some_words {l : List Str} {κ : D → Prop} (hl : l.length < 2 ^ 20) (hn : l ≠ []) (h : ∀ w ∈ l, κ (.str w)) : R_some [.bag, .lst (l.map .str)] κ :=
  .inl ⟨_, rfl, by simpa using hn, by rw [List.length_map]; exact hl, fun d hd => by obtain ⟨w, hw', rfl⟩ := List.mem_map.mp hd; exact h w hw'⟩
mutual
theorem Code.flat : ∀ c : Code, c.toD.flat = true
  | .nm _ => by simp [Code.toD, D.flat, D.flats]
  | .gv _ => by simp [Code.toD, D.flat, D.flats]
  | .ite a b c d => by simp [Code.toD, D.flat, D.flats, a.flat, b.flat, c.flat, d.flat]
  | .wth x a b => by simp [Code.toD, D.flat, D.flats, a.flat, b.flat]
  | .app w f cs => by simp [Code.toD, D.flat, D.flats, Code.flats cs]
theorem Code.flats : ∀ cs : List Code, D.flats (Code.toDs cs) = true
  | [] => by simp [Code.toDs, D.flats]
  | c :: cs => by simp [Code.toDs, D.flats, c.flat, Code.flats cs]
end
mutual
theorem Code.lay : ∀ c : Code, c.ok → c.toD.py.canLay0 = true
  | .nm x, h => by simp only [Code.ok] at h; simp [Code.toD, D.py, D.pys, PyData.canLay0, PyData.canLayAll0, wOk_str h]; decide +kernel
  | .gv _, h => by simp [Code.toD, D.py, D.pys, PyData.canLay0, PyData.canLayAll0]; decide +kernel
  | .ite a b c d, h => by
    simp only [Code.ok] at h
    simp [Code.toD, D.py, D.pys, PyData.canLay0, PyData.canLayAll0, a.lay h.1, b.lay h.2.1, c.lay h.2.2.1, d.lay h.2.2.2]; decide +kernel
  | .wth x a b, h => by
    simp only [Code.ok] at h
    simp [Code.toD, D.py, D.pys, PyData.canLay0, PyData.canLayAll0, a.lay h.2.1, b.lay h.2.2, wOk_str h.1]; decide +kernel
  | .app w f cs, h => by
    simp only [Code.ok] at h
    cases w <;> simp [Code.toD, D.py, D.pys, PyData.canLay0, PyData.canLayAll0, wOk_str h.1, Code.lays cs h.2] <;> decide +kernel
theorem Code.lays : ∀ cs : List Code, Code.oks cs → PyData.canLayAll0 (D.pys (Code.toDs cs)) = true
  | [], _ => by simp [Code.toDs, D.pys, PyData.canLayAll0]
  | c :: cs, h => by
    simp only [Code.oks] at h
    simp [Code.toDs, D.pys, PyData.canLayAll0, c.lay h.1, Code.lays cs h.2]
end
theorem q_name_given : ((("name" : Str) = ("given" : Str)) = False) := eq_false (by decide +kernel)
theorem q_name_if : ((("name" : Str) = ("if" : Str)) = False) := eq_false (by decide +kernel)
theorem q_name_with : ((("name" : Str) = ("with" : Str)) = False) := eq_false (by decide +kernel)
theorem q_name_work : ((("name" : Str) = ("work" : Str)) = False) := eq_false (by decide +kernel)
theorem q_name_call : ((("name" : Str) = ("call" : Str)) = False) := eq_false (by decide +kernel)
theorem q_name_bound : ((("name" : Str) = ("bound" : Str)) = False) := eq_false (by decide +kernel)
theorem q_given_name : ((("given" : Str) = ("name" : Str)) = False) := eq_false (by decide +kernel)
theorem q_given_if : ((("given" : Str) = ("if" : Str)) = False) := eq_false (by decide +kernel)
theorem q_given_with : ((("given" : Str) = ("with" : Str)) = False) := eq_false (by decide +kernel)
theorem q_given_work : ((("given" : Str) = ("work" : Str)) = False) := eq_false (by decide +kernel)
theorem q_given_call : ((("given" : Str) = ("call" : Str)) = False) := eq_false (by decide +kernel)
theorem q_given_bound : ((("given" : Str) = ("bound" : Str)) = False) := eq_false (by decide +kernel)
theorem q_if_name : ((("if" : Str) = ("name" : Str)) = False) := eq_false (by decide +kernel)
theorem q_if_given : ((("if" : Str) = ("given" : Str)) = False) := eq_false (by decide +kernel)
theorem q_if_with : ((("if" : Str) = ("with" : Str)) = False) := eq_false (by decide +kernel)
theorem q_if_work : ((("if" : Str) = ("work" : Str)) = False) := eq_false (by decide +kernel)
theorem q_if_call : ((("if" : Str) = ("call" : Str)) = False) := eq_false (by decide +kernel)
theorem q_if_bound : ((("if" : Str) = ("bound" : Str)) = False) := eq_false (by decide +kernel)
theorem q_with_name : ((("with" : Str) = ("name" : Str)) = False) := eq_false (by decide +kernel)
theorem q_with_given : ((("with" : Str) = ("given" : Str)) = False) := eq_false (by decide +kernel)
theorem q_with_if : ((("with" : Str) = ("if" : Str)) = False) := eq_false (by decide +kernel)
theorem q_with_work : ((("with" : Str) = ("work" : Str)) = False) := eq_false (by decide +kernel)
theorem q_with_call : ((("with" : Str) = ("call" : Str)) = False) := eq_false (by decide +kernel)
theorem q_with_bound : ((("with" : Str) = ("bound" : Str)) = False) := eq_false (by decide +kernel)
theorem q_work_name : ((("work" : Str) = ("name" : Str)) = False) := eq_false (by decide +kernel)
theorem q_work_given : ((("work" : Str) = ("given" : Str)) = False) := eq_false (by decide +kernel)
theorem q_work_if : ((("work" : Str) = ("if" : Str)) = False) := eq_false (by decide +kernel)
theorem q_work_with : ((("work" : Str) = ("with" : Str)) = False) := eq_false (by decide +kernel)
theorem q_work_call : ((("work" : Str) = ("call" : Str)) = False) := eq_false (by decide +kernel)
theorem q_work_bound : ((("work" : Str) = ("bound" : Str)) = False) := eq_false (by decide +kernel)
theorem q_call_name : ((("call" : Str) = ("name" : Str)) = False) := eq_false (by decide +kernel)
theorem q_call_given : ((("call" : Str) = ("given" : Str)) = False) := eq_false (by decide +kernel)
theorem q_call_if : ((("call" : Str) = ("if" : Str)) = False) := eq_false (by decide +kernel)
theorem q_call_with : ((("call" : Str) = ("with" : Str)) = False) := eq_false (by decide +kernel)
theorem q_call_work : ((("call" : Str) = ("work" : Str)) = False) := eq_false (by decide +kernel)
theorem q_call_bound : ((("call" : Str) = ("bound" : Str)) = False) := eq_false (by decide +kernel)
theorem q_bound_name : ((("bound" : Str) = ("name" : Str)) = False) := eq_false (by decide +kernel)
theorem q_bound_given : ((("bound" : Str) = ("given" : Str)) = False) := eq_false (by decide +kernel)
theorem q_bound_if : ((("bound" : Str) = ("if" : Str)) = False) := eq_false (by decide +kernel)
theorem q_bound_with : ((("bound" : Str) = ("with" : Str)) = False) := eq_false (by decide +kernel)
theorem q_bound_work : ((("bound" : Str) = ("work" : Str)) = False) := eq_false (by decide +kernel)
theorem q_bound_call : ((("bound" : Str) = ("call" : Str)) = False) := eq_false (by decide +kernel)
theorem good2 : Good ["name", "given"] := List.all_eq_true.mp (by decide +kernel : (["name", "given"] : List Str).all wOk = true)
theorem in_name : inOk (.str "name") [.str "name", .str "given"] = True := eq_true (in_strs (ws := ["name", "given"]) (by decide +kernel) good2)
theorem in_given : inOk (.str "given") [.str "name", .str "given"] = True := eq_true (in_strs (ws := ["name", "given"]) (by decide +kernel) good2)
theorem in_if : inOk (.str "if") [.str "name", .str "given"] = True := eq_true (in_strs (ws := ["name", "given"]) (by decide +kernel) good2)
theorem in_with : inOk (.str "with") [.str "name", .str "given"] = True := eq_true (in_strs (ws := ["name", "given"]) (by decide +kernel) good2)
theorem in_work : inOk (.str "work") [.str "name", .str "given"] = True := eq_true (in_strs (ws := ["name", "given"]) (by decide +kernel) good2)
theorem in_call : inOk (.str "call") [.str "name", .str "given"] = True := eq_true (in_strs (ws := ["name", "given"]) (by decide +kernel) good2)
local macro_rules | `(tactic| walk_at "cd") => do
  let l ← (("Code.toD Code.toDs Code.kids List.any_cons List.any_nil D.py PyData.eqv beq_iff_eq Bool.or_false Bool.or_eq_true Bool.or_eq_false_iff or_false false_or q_name_given q_name_if q_name_with q_name_work q_name_call q_name_bound q_given_name q_given_if q_given_with q_given_work q_given_call q_given_bound q_if_name q_if_given q_if_with q_if_work q_if_call q_if_bound q_with_name q_with_given q_with_if q_with_work q_with_call q_with_bound q_work_name q_work_given q_work_if q_work_with q_work_call q_work_bound q_call_name q_call_given q_call_if q_call_with q_call_work q_call_bound q_bound_name q_bound_given q_bound_if q_bound_with q_bound_work q_bound_call in_name in_given in_if in_with in_work in_call".splitOn " ").toArray.mapM fun s => `(Lean.Parser.Tactic.simpLemma| $(Lean.mkIdent s.toName):ident) : Lean.MacroM _)
  `(tactic| simp only [$l,*])
noncomputable def R_in : RD := fun ds k => ∃ c : Code, ds = [c.toD] ∧ k (.tup (Code.toDs c.kids))
theorem p_in (t : TSD) (ht : t = t_codes_within ∨ t = t_L_inner) : ∀ ds κ, R_in ds κ → t (endD κ) (enterS 1 ds) := by
  have hs : sizeLine = 16777216 := sizeLine_eq
  have main : ∀ ds κ, R_in ds κ → t_codes_within (endD κ) (enterS 1 ds) := by
    rintro ds κ ⟨c, rfl, h⟩
    unfold t_codes_within
    have h2 : 2 ≤ sizeLine := by omega
    have h0 : 0 ≤ sizeLine := by omega
    cases c with
    | app w f cs => cases w <;> (walk_at "cd"; walk_at "dl"; walk_at "cd"; simp only [Code.kids] at h; simpa [h2, h0] using h)
    | _ => walk_at "cd"; walk_at "dl"; walk_at "cd"; (simp only [Code.kids, Code.toDs] at h); simpa [h2, h0] using h
  rcases ht with rfl | rfl
  · exact main
  · exact main
local macro_rules | `(tactic| walk_at "di") => do
  let l ← (("isiT chainT e0D ixO parO parS disp1T emptyT getT2 lookD keyD keyT keysD valD valQ dixT listKR itemsF keysI valsI itemsI dputK newR emptyR augI whileT dcT lc2F Tr.toEs ib_int_NoneType ib_int_bool ib_int_int ib_int_tuple ib_bool_int ib_bool_bool ib_tuple_tuple Bool.or_true Bool.or_false Bool.true_or Bool.false_or".splitOn " ").toArray.mapM fun s => `(Lean.Parser.Tactic.simpLemma| $(Lean.mkIdent s.toName):ident) : Lean.MacroM _)
  `(tactic| simp only [$l,*])
local macro_rules | `(tactic| walk_at "dx") => `(tactic| ((try walk_at "dl"); (try walk_at "di"); (try walk_at "dl"); (try walk_at "di"); (try walk_at "dl")))
/-! ### what a code is without its withs -/
noncomputable abbrev Env := Str → Code
noncomputable def Env.put (s : Env) (x : Str) (c : Code) : Env := fun y => if y = x then c else s y
mutual
noncomputable def Code.out : Code → Env → Code
  | .nm x, s => s x
  | .gv i, _ => .gv i
  | .ite a b c d, s => .ite (a.out s) (b.out s) (c.out s) (d.out s)
  | .wth x a b, s => b.out (s.put x (a.out s))
  | .app w f cs, s => .app w f (Code.outs cs s)
noncomputable def Code.outs : List Code → Env → List Code
  | [], _ => []
  | c :: cs, s => c.out s :: Code.outs cs s
end
mutual
noncomputable def Code.fr : Code → Str → Prop
  | .nm y, x => x = y
  | .gv _, _ => False
  | .ite a b c d, x => a.fr x ∨ b.fr x ∨ c.fr x ∨ d.fr x
  | .wth y a b, x => a.fr x ∨ (x ≠ y ∧ b.fr x)
  | .app _ _ cs, x => Code.frs cs x
noncomputable def Code.frs : List Code → Str → Prop
  | [], _ => False
  | c :: cs, x => c.fr x ∨ Code.frs cs x
end
mutual
/-- no withs -/
noncomputable def Code.pl : Code → Prop
  | .nm _ => True
  | .gv _ => True
  | .ite a b c d => a.pl ∧ b.pl ∧ c.pl ∧ d.pl
  | .wth _ _ _ => False
  | .app _ _ cs => Code.pls cs
noncomputable def Code.pls : List Code → Prop
  | [] => True
  | c :: cs => c.pl ∧ Code.pls cs
end
/-! depth, and how much a code may add to it -/
mutual
noncomputable def Code.dp : Code → Nat
  | .nm _ => 1
  | .gv _ => 1
  | .ite a b c d => 1 + max (max a.dp b.dp) (max c.dp d.dp)
  | .wth _ a b => 1 + max a.dp b.dp
  | .app _ _ cs => 1 + Code.dps cs
noncomputable def Code.dps : List Code → Nat
  | [] => 0
  | c :: cs => max c.dp (Code.dps cs)
end
mutual
noncomputable def Code.wt : Code → Nat
  | .nm _ => 0
  | .gv _ => 1
  | .ite a b c d => 1 + max (max a.wt b.wt) (max c.wt d.wt)
  | .wth _ a b => 1 + a.wt + b.wt
  | .app _ _ cs => 1 + Code.wts cs
noncomputable def Code.wts : List Code → Nat
  | [] => 0
  | c :: cs => max c.wt (Code.wts cs)
end
mutual
theorem out_dp : ∀ (c : Code) (s : Env) (n : Nat), (∀ x, (s x).dp ≤ n) → (c.out s).dp ≤ c.wt + n
  | .nm x, s, n, h => by simp only [Code.out, Code.wt]; have := h x; omega
  | .gv i, s, n, h => by simp only [Code.out, Code.wt, Code.dp]; omega
  | .ite a b c d, s, n, h => by
    have h1 := out_dp a s n h; have h2 := out_dp b s n h; have h3 := out_dp c s n h; have h4 := out_dp d s n h
    simp only [Code.out, Code.wt, Code.dp]; omega
  | .wth y a b, s, n, h => by
    have h1 := out_dp a s n h
    have h2 := out_dp b (s.put y (a.out s)) (a.wt + n) fun x => by
      unfold Env.put
      split
      · exact h1
      · have := h x; omega
    simp only [Code.out, Code.wt]; omega
  | .app w f cs, s, n, h => by
    have h1 := outs_dp cs s n h
    simp only [Code.out, Code.wt, Code.dp]; omega
theorem outs_dp : ∀ (cs : List Code) (s : Env) (n : Nat), (∀ x, (s x).dp ≤ n) → Code.dps (Code.outs cs s) ≤ Code.wts cs + n
  | [], s, n, h => by simp only [Code.outs, Code.wts, Code.dps]; omega
  | c :: cs, s, n, h => by
    have h1 := out_dp c s n h
    have h2 := outs_dp cs s n h
    simp only [Code.outs, Code.wts, Code.dps]; omega
end
mutual
theorem wt_size : ∀ c : Code, c.wt ≤ c.size
  | .nm x => by simp only [Code.size, Code.wt]; omega
  | .gv i => by simp only [Code.size, Code.wt]; omega
  | .ite a b c d => by have := wt_size a; have := wt_size b; have := wt_size c; have := wt_size d; simp only [Code.size, Code.wt]; omega
  | .wth y a b => by have := wt_size a; have := wt_size b; simp only [Code.size, Code.wt]; omega
  | .app w f cs => by have := wts_sizes cs; simp only [Code.size, Code.wt]; omega
theorem wts_sizes : ∀ cs : List Code, Code.wts cs ≤ Code.sizes cs
  | [] => by simp only [Code.sizes, Code.wts]; omega
  | c :: cs => by have := wt_size c; have := wts_sizes cs; simp only [Code.sizes, Code.wts]; omega
end
mutual
theorem Code.deepd : ∀ c : Code, c.toD.py.depth ≤ 2 * c.dp
  | .nm x => by simp [Code.toD, D.py, D.pys, PyData.depth, PyData.depthAll, Code.dp]
  | .gv _ => by simp [Code.toD, D.py, D.pys, PyData.depth, PyData.depthAll, Code.dp]
  | .ite a b c d => by
    have := a.deepd; have := b.deepd; have := c.deepd; have := d.deepd
    simp [Code.toD, D.py, D.pys, PyData.depth, PyData.depthAll, Code.dp]; omega
  | .wth x a b => by
    have := a.deepd; have := b.deepd
    simp [Code.toD, D.py, D.pys, PyData.depth, PyData.depthAll, Code.dp]; omega
  | .app w f cs => by
    have := Code.deepds cs
    simp [Code.toD, D.py, D.pys, PyData.depth, PyData.depthAll, Code.dp]; omega
theorem Code.deepds : ∀ cs : List Code, PyData.depthAll (D.pys (Code.toDs cs)) ≤ 2 * Code.dps cs
  | [] => by simp [Code.toDs, D.pys, PyData.depthAll, Code.dps]
  | c :: cs => by
    have := c.deepd; have := Code.deepds cs
    simp [Code.toDs, D.pys, PyData.depthAll, Code.dps]; omega
end
/-- the codes within others, in their place -/
noncomputable def Code.re : Code → List Code → Code
  | .ite _ _ _ _, [a, b, c, d] => .ite a b c d
  | .wth x _ _, [a, b] => .wth x a b
  | .app w f _, cs => .app w f cs
  | c, _ => c
theorem re_out {c : Code} {s : Env} (h : ∀ x a b, c ≠ .wth x a b) (hn : ∀ x, c ≠ .nm x) : c.out s = c.re (c.kids.map fun d => d.out s) := by
  cases c with
  | nm x => exact absurd rfl (hn x)
  | gv i => simp only [Code.out, Code.re]
  | ite a b c d => simp only [Code.out, Code.kids, List.map_cons, List.map_nil, Code.re]
  | wth x a b => exact absurd rfl (h x a b)
  | app w f cs =>
    simp only [Code.out, Code.kids, Code.re]
    congr 1
    clear h hn
    induction cs with
    | nil => simp only [Code.outs, List.map_nil]
    | cons c cs ih => simp only [Code.outs, List.map_cons, ih]
local macro_rules | `(tactic| walk_at "di") => do
  let l ← (("isiT chainT e0D ixO parO parS disp1T emptyT getT2 lookD keyD keyT keysD valD valQ dixT listKR itemsF keysI valsI itemsI dputK newR emptyR augI whileT dcT lc2F Tr.toEs Bool.or_true Bool.or_false Bool.true_or Bool.false_or isi2T inSg notInSg tabT List.isEmpty_nil List.isEmpty_cons ib_int_NoneType ib_int_bool ib_int_int ib_int_str ib_int_list ib_int_tuple ib_int_dict ib_bool_NoneType ib_bool_bool ib_bool_int ib_bool_str ib_bool_list ib_bool_tuple ib_bool_dict ib_str_NoneType ib_str_bool ib_str_int ib_str_str ib_str_list ib_str_tuple ib_str_dict ib_list_NoneType ib_list_bool ib_list_int ib_list_str ib_list_list ib_list_tuple ib_list_dict ib_tuple_NoneType ib_tuple_bool ib_tuple_int ib_tuple_str ib_tuple_list ib_tuple_tuple ib_tuple_dict".splitOn " ").toArray.mapM fun s => `(Lean.Parser.Tactic.simpLemma| $(Lean.mkIdent s.toName):ident) : Lean.MacroM _)
  `(tactic| simp only [$l,*])
local macro_rules | `(tactic| walk_at "cd") => do
  let l ← (("Code.toD Code.toDs Code.kids List.any_cons List.any_nil D.py PyData.eqv beq_iff_eq Bool.or_false Bool.or_eq_true Bool.or_eq_false_iff or_false false_or q_name_given q_name_if q_name_with q_name_work q_name_call q_name_bound q_given_name q_given_if q_given_with q_given_work q_given_call q_given_bound q_if_name q_if_given q_if_with q_if_work q_if_call q_if_bound q_with_name q_with_given q_with_if q_with_work q_with_call q_with_bound q_work_name q_work_given q_work_if q_work_with q_work_call q_work_bound q_call_name q_call_given q_call_if q_call_with q_call_work q_call_bound q_bound_name q_bound_given q_bound_if q_bound_with q_bound_work q_bound_call in_name in_given in_if in_with in_work in_call".splitOn " ").toArray.mapM fun s => `(Lean.Parser.Tactic.simpLemma| $(Lean.mkIdent s.toName):ident) : Lean.MacroM _)
  `(tactic| simp only [$l,*])
local macro_rules | `(tactic| walk_at "ce") => `(tactic| (walk_at "cd"; walk_at "dl"; (try walk_at "cd"); (try walk_at "dl"); (try walk_at "cd")))
theorem toDs_len (cs : List Code) : (Code.toDs cs).length = cs.length := by rw [toDs_map, List.length_map]
theorem kids_dp : ∀ {c d : Code}, d ∈ c.kids → d.dp < c.dp := by
  intro c d h
  have dps : ∀ {cs : List Code}, d ∈ cs → d.dp ≤ Code.dps cs := by
    intro cs
    induction cs with
    | nil => intro h; cases h
    | cons e cs ih =>
      intro h
      simp only [Code.dps]
      rcases List.mem_cons.mp h with rfl | h
      · omega
      · have := ih h; omega
  cases c with
  | nm y => cases h
  | gv y => cases h
  | ite a b c e =>
    simp only [Code.kids, List.mem_cons, List.not_mem_nil, or_false] at h
    simp only [Code.dp]
    rcases h with rfl | rfl | rfl | rfl <;> omega
  | wth y a b =>
    simp only [Code.kids, List.mem_cons, List.not_mem_nil, or_false] at h
    simp only [Code.dp]
    rcases h with rfl | rfl <;> omega
  | app w f cs =>
    have := dps (cs := cs) h
    simp only [Code.dp]; omega
noncomputable def Code.hd : Code → Str
  | .nm _ => "name" | .gv _ => "given" | .ite _ _ _ _ => "if" | .wth _ _ _ => "with" | .app w _ _ => if w = true then "work" else "call"
theorem hd_at (c : Code) : ∃ ds, c.toD = .tup (.str c.hd :: ds) := by
  cases c with
  | app w f cs => cases w <;> exact ⟨_, rfl⟩
  | _ => exact ⟨_, by simp only [Code.toD, Code.hd]; rfl⟩
theorem t_hd {c : Code} {ρ : List Sl} {w : Str} {kb : Bool → Prop} (h : ρ[0]? = some (.dat c.toD)) (q : kb (decide (c.hd = w))) : blT (DL.binT eqD (DL.binT ixD (nameT 0) (cT (.int 0))) (cT (.str w))) ρ kb := by
  obtain ⟨ds, e⟩ := hd_at c
  rw [e] at h
  simp only [blT, DL.binT, nameT, h, cT, ixD_t, atI_0, optK_some, eqD, eqB_ss]
  exact q
/-! ### the parts of a code -/
mutual
noncomputable def Code.parts : Code → List Code
  | .nm x => [.nm x]
  | .gv i => [.gv i]
  | .ite a b c d => .ite a b c d :: (a.parts ++ (b.parts ++ (c.parts ++ d.parts)))
  | .wth x a b => .wth x a b :: (a.parts ++ b.parts)
  | .app w f cs => .app w f cs :: Code.partss cs
noncomputable def Code.partss : List Code → List Code
  | [] => []
  | c :: cs => c.parts ++ Code.partss cs
end
theorem parts_kids (c : Code) : c.parts = c :: Code.partss c.kids := by
  cases c <;> simp only [Code.parts, Code.partss, Code.kids, List.append_nil]
mutual
theorem parts_len : ∀ c : Code, c.parts.length = c.size
  | .nm _ => by simp [Code.parts, Code.size]
  | .gv _ => by simp [Code.parts, Code.size]
  | .ite a b c d => by simp [Code.parts, Code.size, parts_len a, parts_len b, parts_len c, parts_len d]; omega
  | .wth _ a b => by simp [Code.parts, Code.size, parts_len a, parts_len b]; omega
  | .app _ _ cs => by simp [Code.parts, Code.size, partss_len cs]; omega
theorem partss_len : ∀ cs : List Code, (Code.partss cs).length = Code.sizes cs
  | [] => by simp [Code.partss, Code.sizes]
  | c :: cs => by simp [Code.partss, Code.sizes, parts_len c, partss_len cs]
end
noncomputable def R_parts (n : Nat) : RD := fun ds k => ∃ c : Code, ds = [c.toD] ∧ c.dp ≤ n ∧ c.size < 2 ^ 16 ∧ k (.lst (Code.toDs c.parts))
theorem toDs_app (as bs : List Code) : Code.toDs as ++ Code.toDs bs = Code.toDs (as ++ bs) := by rw [toDs_map, toDs_map, toDs_map, List.map_append]
theorem p_parts_of (n : Nat) : ∀ ds κ, R_parts (n + 1) ds κ → t_L_parts_of R_in (R_parts n) (endD κ) (enterS 3 ds) := by
  have hs : sizeLine = 16777216 := sizeLine_eq
  rintro ds κ ⟨c, rfl, hn, hz, h⟩
  unfold t_L_parts_of
  walk_at "dl"
  refine ⟨by omega, c, rfl, ?_⟩
  dsimp only
  have hk := kids_sizes c
  refine loopT_ind (I := fun rest ρ => ∃ (done cs : List Code) (s2 : Sl), rest = Code.toDs cs ∧ c.kids = done ++ cs ∧ ρ = [.dat c.toD, .dat (.lst (Code.toDs (c :: Code.partss done))), s2]) ?_ ?_ ⟨[], c.kids, .un, rfl, rfl, by simp only [Code.partss, Code.toDs]⟩
  · rintro ρ ⟨done, cs, s2, e, e2, rfl⟩
    have : cs = [] := by
      cases cs with
      | nil => rfl
      | cons a l => simp only [Code.toDs] at e; cases e
    subst this
    rw [List.append_nil] at e2
    walk_at "dl"
    rw [← e2, ← parts_kids]
    exact h
  · rintro d rest ρ N hN ⟨done, cs, s2, e, e2, rfl⟩
    cases cs with
    | nil => simp only [Code.toDs] at e; cases e
    | cons a cs =>
      simp only [Code.toDs] at e
      obtain ⟨rfl, rfl⟩ := List.cons.inj e
      have ha : a ∈ c.kids := by rw [e2]; simp
      have h1 := kids_dp ha
      have h2 := sizes_mem ha
      have pp : ∀ as bs : List Code, Code.partss (as ++ bs) = Code.partss as ++ Code.partss bs := by
        intro as bs
        induction as with
        | nil => simp [Code.partss]
        | cons x as ih => simp [Code.partss, ih]
      have l1 := partss_len c.kids
      rw [e2, pp] at l1
      simp only [Code.partss, List.length_append] at l1
      rw [← e2] at l1
      walk_at "dl"
      refine ⟨a, rfl, by omega, by omega, ?_⟩
      walk_at "dl"
      refine ⟨by rw [toDs_len, toDs_len, List.length_cons]; omega, hN _ ⟨done ++ [a], cs, .dat a.toD, rfl, by simp [e2], ?_⟩⟩
      rw [toDs_app, pp]
      simp only [Code.partss, List.append_nil, List.cons_append]
/-! ### all parts, and what is told of them -/
theorem partss_app : ∀ as bs : List Code, Code.partss (as ++ bs) = Code.partss as ++ Code.partss bs
  | [], bs => by simp [Code.partss]
  | a :: as, bs => by simp [Code.partss, partss_app as bs]
theorem p_all_parts (n : Nat) : ∀ ds κ, R_parts (n + 1) ds κ → t_all_parts R_in (R_parts n) (endD κ) (enterS 3 ds) := by
  have hs : sizeLine = 16777216 := sizeLine_eq
  rintro ds κ ⟨c, rfl, hn, hz, h⟩
  unfold t_all_parts
  walk_at "dl"
  refine ⟨by omega, c, rfl, ?_⟩
  dsimp only
  have hk := kids_sizes c
  refine loopT_ind (I := fun rest ρ => ∃ (done cs : List Code) (s2 : Sl), rest = Code.toDs cs ∧ c.kids = done ++ cs ∧ ρ = [.dat c.toD, .ml (Code.toDs (c :: Code.partss done)), s2]) ?_ ?_ ⟨[], c.kids, .un, rfl, rfl, by simp only [Code.partss, Code.toDs]⟩
  · rintro ρ ⟨done, cs, s2, e, e2, rfl⟩
    have : cs = [] := by
      cases cs with
      | nil => rfl
      | cons a l => simp only [Code.toDs] at e; cases e
    subst this
    rw [List.append_nil] at e2
    walk_at "dl"
    rw [← e2, ← parts_kids]
    exact h
  · rintro d rest ρ N hN ⟨done, cs, s2, e, e2, rfl⟩
    cases cs with
    | nil => simp only [Code.toDs] at e; cases e
    | cons a cs =>
      simp only [Code.toDs] at e
      obtain ⟨rfl, rfl⟩ := List.cons.inj e
      have ha : a ∈ c.kids := by rw [e2]; simp
      have h1 := kids_dp ha
      have h2 := sizes_mem ha
      have l1 := partss_len c.kids
      rw [e2, partss_app] at l1
      simp only [Code.partss, List.length_append] at l1
      rw [← e2] at l1
      walk_at "dl"
      refine ⟨a, rfl, by omega, by omega, ?_⟩
      walk_at "dl"
      refine ⟨by simp only [List.length_map, toDs_len, List.length_cons]; omega, hN _ ⟨done ++ [a], cs, .dat a.toD, rfl, by simp [e2], ?_⟩⟩
      rw [partss_app]
      simp only [Code.partss, List.append_nil]
      rw [← List.map_append, toDs_app]; rfl
noncomputable def R_size (N : Nat) : RD := fun ds k => ∃ c : Code, ds = [c.toD] ∧ c.dp ≤ N ∧ c.size < 2 ^ 16 ∧ k (.int (c.size : Nat))
theorem p_size (N : Nat) : ∀ ds κ, R_size N ds κ → t_size (R_parts N) (endD κ) (enterS 1 ds) := by
  rintro ds κ ⟨c, rfl, hn, hz, h⟩
  unfold t_size
  walk_at "dl"
  refine ⟨c, rfl, hn, hz, ?_⟩
  walk_at "dl"
  rw [toDs_len, parts_len]; exact h
/-! ### terms -/
mutual
/-- names, givens and works alone -/
noncomputable def Code.isT : Code → Prop
  | .nm _ => True
  | .gv _ => True
  | .app w _ cs => w = true ∧ Code.isTs cs
  | _ => False
noncomputable def Code.isTs : List Code → Prop
  | [] => True
  | c :: cs => c.isT ∧ Code.isTs cs
end
theorem isTs_of : ∀ {cs : List Code}, (∀ c ∈ cs, c.isT) → Code.isTs cs
  | [], _ => by simp only [Code.isTs]
  | c :: cs, h => by simp only [Code.isTs]; exact ⟨h c List.mem_cons_self, isTs_of fun d hd => h d (List.mem_cons_of_mem _ hd)⟩
theorem isTs_mem : ∀ {cs : List Code}, Code.isTs cs → ∀ c ∈ cs, c.isT
  | d :: cs, h, c, hc => by
    simp only [Code.isTs] at h
    rcases List.mem_cons.mp hc with rfl | hc
    · exact h.1
    · exact isTs_mem h.2 c hc
theorem kids_isT {c : Code} (h : c.isT) : Code.isTs c.kids := by
  cases c <;> simp only [Code.kids, Code.isTs, Code.isT] at h ⊢ <;> simp_all
structure TOk (c : Code) : Prop where
  o : c.ok
  t : c.isT
theorem dps_le {b : Nat} : ∀ {cs : List Code}, (∀ c ∈ cs, c.dp ≤ b) → Code.dps cs ≤ b
  | [], _ => by simp [Code.dps]
  | c :: cs, h => by
    have h1 := dps_le (cs := cs) fun d hd => h d (List.mem_cons_of_mem _ hd)
    have h2 := h c List.mem_cons_self
    simp only [Code.dps]
    omega
/-! ### drawn codes -/
noncomputable def WsOk (ws : List Str) : Prop := Good ws ∧ ws ≠ [] ∧ ws.length ≤ 10
noncomputable def R_leaf : RD := fun ds k => ∃ (ws : List Str) (h : Int), ds = [.bag, .lst (ws.map .str), .int h] ∧ WsOk ws ∧ 0 ≤ h ∧ h ≤ 13 ∧ ∀ c : Code, TOk c → c.dp ≤ 1 → c.size = 1 → k c.toD
theorem p_leaf : ∀ ds κ, R_leaf ds κ → t_L_leaf R_take R_some (endD κ) (enterS 3 ds) := by
  have hs : sizeLine = 16777216 := sizeLine_eq
  rintro ds κ ⟨ws, h, rfl, ⟨hw, hne, hwl⟩, h0, h13, q⟩
  unfold t_L_leaf
  have nm : R_some [D.bag, D.lst (List.map D.str ws)] fun d => 2 ≤ sizeLine ∧ κ (D.tup [D.str "name", d]) :=
    some_words (by omega) hne fun w hw' => ⟨by omega, q (.nm w) ⟨by simp only [Code.ok]; exact hw w hw', by simp only [Code.isT]⟩ (by simp only [Code.dp]; omega) rfl⟩
  walk_at "dl"
  split
  · refine ⟨4, rfl, by omega, by omega, fun i _ _ => ?_⟩
    walk_at "dl"
    split
    · refine ⟨h, rfl, by omega, by omega, fun j j0 j1 => ⟨by omega, ?_⟩⟩
      exact q (.gv j) ⟨by simp only [Code.ok]; omega, by simp only [Code.isT]⟩ (by simp only [Code.dp]; omega) rfl
    · exact nm
  · exact nm
noncomputable def tz : Nat → Nat
  | 0 => 1
  | d + 1 => 1 + 3 * tz d
theorem tz_pos : ∀ d, 1 ≤ tz d
  | 0 => Nat.le_refl _
  | d + 1 => by simp only [tz]; omega
noncomputable def R_term (n : Nat) : RD := fun ds k => ∃ (ws : List Str) (h : Int) (d : Nat), ds = [.bag, .lst (ws.map .str), .int h, .int (d : Nat)] ∧ WsOk ws ∧ 0 ≤ h ∧ h ≤ 13 ∧ d < n ∧ ∀ c : Code, TOk c → c.dp ≤ d + 1 → c.size ≤ tz d → k c.toD
theorem up_ok : wOk "up" = true := by decide +kernel
theorem of_ok : wOk "of" = true := by decide +kernel
theorem one_ok : wOk "one" = true := by decide +kernel
noncomputable abbrev termA (n : Nat) : TSD := (iffT (blT (DL.binT eqD (nameT 4) (cT (.int 5)))) (seqT (setT 5 (callT R_leaf (consA (nameT 0) (consA (nameT 1) (consA (nameT 2) nilA)))))
    (retT (ifT (blT (DL.binT eqD (callT R_take (consA (nameT 0) (consA (cT (.int 2)) nilA))) (cT (.int 0)))) (tupT (consA (cT (.str "work")) (consA (cT (.str "one")) (consA (tupT nilA) nilA)))) (tupT (consA (cT (.str "work")) (consA (cT (.str "up")) (consA (tupT (consA (nameT 5) (consA (nameT 5) nilA))) nilA))))))) nextT)
noncomputable abbrev termB (n : Nat) : TSD := (seqT (setT 7 (callT tupR (consA (ofF (lcF (.nm 8) (rng1I (consA (nameT 6) nilA)) yesT (callT (R_term n) (consA (nameT 0) (consA (nameT 1) (consA (nameT 2) (consA (DL.binT subD (nameT 3) (cT (.int 1))) nilA))))) [8])) nilA)))
    (retT (tupT (consA (cT (.str "work")) (consA (DL.binT ixD (ofF (lstF (consA (cT (.str "up")) (consA (cT (.str "of")) nilA)))) (DL.binT subD (nameT 4) (cT (.int 3)))) (consA (nameT 7) nilA))))))
noncomputable abbrev termM : TSD := (setT 6 (ifT (blT (DL.binT eqD (nameT 4) (cT (.int 3)))) (cT (.int 1)) (DL.binT addD (cT (.int 2)) (callT intR (consA (DL.binT eqD (callT R_take (consA (nameT 0) (consA (cT (.int 6)) nilA))) (cT (.int 0))) nilA)))))
noncomputable abbrev termL (n : Nat) : TSD := (seqT (iffT (blT (DL.binT (cmpI fun i j => decide (i < j)) (nameT 4) (cT (.int 3)))) (retT (callT R_leaf (consA (nameT 0) (consA (nameT 1) (consA (nameT 2) nilA))))) nextT) (seqT (termA n) (seqT termM (termB n))))
theorem term_eq (n : Nat) : t_L_term R_take R_leaf (R_term n) = seqT (setT 4 (ifT (blT (DL.binT (cmpI fun i j => decide (i > j)) (nameT 3) (cT (.int 0)))) (callT R_take (consA (nameT 0) (consA (cT (.int 6)) nilA))) (cT (.int 0)))) (termL n) := rfl
theorem term_ix {way : Int} (h : way = 3 ∨ way = 4) {k : D → Prop} (q : ∀ w : Str, wOk w = true → k (.str w)) : optK (L2.atI [D.str (Str.ofString "up"), D.str (Str.ofString "of")] (way - 3)) k := by
  rcases h with rfl | rfl
  · exact optK_of (show L2.atI [D.str (Str.ofString "up"), D.str (Str.ofString "of")] (3 - 3) = some (.str "up") from rfl) (q _ up_ok)
  · exact optK_of (show L2.atI [D.str (Str.ofString "up"), D.str (Str.ofString "of")] (4 - 3) = some (.str "of") from rfl) (q _ of_ok)
theorem p_term (n : Nat) : ∀ ds κ, R_term (n + 1) ds κ → t_L_term R_take R_leaf (R_term n) (endD κ) (enterS 9 ds) := by
  have hs : sizeLine = 16777216 := sizeLine_eq
  rintro ds κ ⟨ws, h, d, rfl, hw, h0, h13, hd, q⟩
  rw [term_eq]
  have p1 := tz_pos d
  have lf : R_leaf [D.bag, D.lst (List.map D.str ws), D.int h] κ := ⟨ws, h, rfl, hw, h0, h13, fun c a b e => q c a (by omega) (by omega)⟩
  have fin : ∀ way : Int, 3 ≤ way → way < 6 → 0 < d → (seqT (termA n) (seqT termM (termB n))) (endD κ) [.dat .bag, .dat (.lst (ws.map .str)), .dat (.int h), .dat (.int (d : Nat)), .dat (.int way), .un, .un, .un, .un] := by
    intro way w3 w6 d0
    obtain ⟨e, rfl⟩ : ∃ e, d = e + 1 := ⟨d - 1, by omega⟩
    have p2 := tz_pos e
    simp only [tz] at q
    unfold termA
    generalize hT : seqT termM (termB n) = tl
    walk_at "dl"
    split
    · refine ⟨ws, h, rfl, hw, h0, h13, fun c c1 c2 c3 => ⟨2, rfl, by omega, by omega, fun i _ _ => ?_⟩⟩
      walk_at "dl"
      split
      · exact ⟨by omega, by omega, q (.app true "one" []) ⟨by simp only [Code.ok, Code.oks, and_true]; exact one_ok, by simp only [Code.isT, Code.isTs, and_true]⟩ (by simp only [Code.dp, Code.dps]; omega) (by simp only [Code.size, Code.sizes]; omega)⟩
      · exact ⟨by omega, by omega, q (.app true "up" [c, c]) ⟨by simp only [Code.ok, Code.oks, and_true]; exact ⟨up_ok, c1.o, c1.o⟩, by simp only [Code.isT, Code.isTs, and_true, true_and]; exact ⟨c1.t, c1.t⟩⟩ (by simp only [Code.dp, Code.dps]; omega) (by simp only [Code.size, Code.sizes]; omega)⟩
    · subst hT
      have go : ∀ m : Nat, m ≤ 3 → termB n (endD κ) [.dat .bag, .dat (.lst (ws.map .str)), .dat (.int h), .dat (.int ((e + 1 : Nat) : Int)), .dat (.int way), .un, .dat (.int (m : Nat)), .un, .un] := by
        intro m m3
        unfold termB
        walk_at "dl"
        refine ⟨by omega, by simp; omega, ?_⟩
        rw [Int.toNat_natCast]
        refine comp_any (n := 0) (P := fun c => TOk c ∧ c.dp ≤ e + 1 ∧ c.size ≤ tz e) (fun d κ' k => ?_) fun cs l p => ?_
        · walk_at "dl"
          refine ⟨ws, h, e, ?_, hw, h0, h13, by omega, fun c c1 c2 c3 => k c ⟨c1, c2, c3⟩⟩
          rw [show ((e + 1 : Nat) : Int) - 1 = (e : Int) by omega]
        · refine ⟨by omega, term_ix (by omega) fun w hw' => ⟨by omega, ?_⟩⟩
          have s1 := sizes_le (b := tz e) fun c hc => (p c hc).2.2
          have s2 := dps_le (b := e + 1) fun c hc => (p c hc).2.1
          rw [l] at s1
          have s3 : m * tz e ≤ 3 * tz e := Nat.mul_le_mul_right _ m3
          exact q (.app true w cs) ⟨by simp only [Code.ok]; exact ⟨hw', oks_of fun c hc => (p c hc).1.o⟩, by simp only [Code.isT, true_and]; exact isTs_of fun c hc => (p c hc).1.t⟩ (by simp only [Code.dp]; omega) (by simp only [Code.size]; omega)
      generalize hB : termB n = tb at go ⊢
      walk_at "dl"
      split
      · exact go 1 (by omega)
      · refine ⟨6, rfl, by omega, by omega, fun i _ _ => ?_⟩
        walk_at "dl"
        split
        · exact go 3 (by omega)
        · exact go 2 (by omega)
  have fin2 : ∀ way : Int, way < 6 → (3 ≤ way → 0 < d) → termL n (endD κ) [.dat .bag, .dat (.lst (ws.map .str)), .dat (.int h), .dat (.int (d : Nat)), .dat (.int way), .un, .un, .un, .un] := by
    intro way w6 wd
    unfold termL
    generalize hT : seqT (termA n) (seqT termM (termB n)) = tl at fin ⊢
    walk_at "dl"
    split
    · exact lf
    · exact fin way (by omega) w6 (wd (by omega))
  generalize termL n = tl at fin2 ⊢
  walk_at "dl"
  split
  · refine ⟨6, rfl, by omega, by omega, fun way w0 w6 => fin2 way w6 fun _ => by omega⟩
  · exact fin2 0 (by omega) (fun h => by omega)
/-! ### codes are told by their data -/
mutual
theorem toD_inj : ∀ c c' : Code, c.toD = c'.toD → c = c'
  | .nm x, c', h => by
    cases c' with
    | nm y => simp only [Code.toD, D.tup.injEq, List.cons.injEq, D.str.injEq, and_true, true_and] at h; rw [h]
    | gv y => simp [Code.toD, q_name_given] at h
    | ite a b c d => simp [Code.toD] at h
    | wth y a b => simp [Code.toD] at h
    | app w f cs => simp [Code.toD] at h
  | .gv x, c', h => by
    cases c' with
    | nm y => simp [Code.toD, q_given_name] at h
    | gv y => simp only [Code.toD, D.tup.injEq, List.cons.injEq, D.int.injEq, and_true, true_and] at h; rw [h]
    | ite a b c d => simp [Code.toD] at h
    | wth y a b => simp [Code.toD] at h
    | app w f cs => simp [Code.toD] at h
  | .ite a b c d, c', h => by
    cases c' with
    | nm y => simp [Code.toD] at h
    | gv y => simp [Code.toD] at h
    | ite a' b' c' d' =>
      simp only [Code.toD, D.tup.injEq, List.cons.injEq, and_true, true_and] at h
      rw [toD_inj a a' h.1, toD_inj b b' h.2.1, toD_inj c c' h.2.2.1, toD_inj d d' h.2.2.2]
    | wth y a b => simp [Code.toD] at h
    | app w f cs => simp [Code.toD] at h
  | .wth x a b, c', h => by
    cases c' with
    | nm y => simp [Code.toD] at h
    | gv y => simp [Code.toD] at h
    | ite a' b' c' d' => simp [Code.toD] at h
    | wth y a' b' =>
      simp only [Code.toD, D.tup.injEq, List.cons.injEq, D.str.injEq, and_true, true_and] at h
      rw [h.1, toD_inj a a' h.2.1, toD_inj b b' h.2.2]
    | app w f cs => simp [Code.toD] at h
  | .app w f cs, c', h => by
    cases c' with
    | nm y => simp [Code.toD] at h
    | gv y => simp [Code.toD] at h
    | ite a' b' c' d' => simp [Code.toD] at h
    | wth y a' b' => simp [Code.toD] at h
    | app w' f' cs' =>
      simp only [Code.toD, D.tup.injEq, List.cons.injEq, D.str.injEq, and_true] at h
      have e := toDs_inj cs cs' h.2.2
      have ew : w = w' := by
        have := h.1
        cases w <;> cases w' <;> first | rfl | (simp [q_work_call, q_call_work] at this)
      rw [ew, h.2.1, e]
theorem toDs_inj : ∀ cs cs' : List Code, Code.toDs cs = Code.toDs cs' → cs = cs'
  | [], cs', h => by
    cases cs' with
    | nil => rfl
    | cons c cs' => simp [Code.toDs] at h
  | c :: cs, cs', h => by
    cases cs' with
    | nil => simp [Code.toDs] at h
    | cons c' cs' =>
      simp only [Code.toDs, List.cons.injEq] at h
      rw [toD_inj c c' h.1, toDs_inj cs cs' h.2]
end
/-! ### terms in order -/
section
open PySem.SeqAt PySem.W SrtO
theorem le_anti_str {x y : Str} (a : ¬ x.cps.toList < y.cps.toList) (b : ¬ y.cps.toList < x.cps.toList) : x = y := by
  have e := List.le_antisymm (List.not_lt.mp b) (List.not_lt.mp a)
  obtain ⟨⟨xs⟩⟩ := x
  obtain ⟨⟨ys⟩⟩ := y
  simp only at e
  subst e
  rfl
mutual
theorem eqv_eq : ∀ x y : PyData, plD x = true → plD y = true → PyData.eqv x y = true → x = y
  | .int a, y, _, hy, e => by
    cases y with
    | int b => simp only [PyData.eqv, beq_iff_eq] at e; rw [e]
    | _ => first | (simp [plD] at hy; done) | (simp [PyData.eqv] at e; done)
  | .str a, y, _, hy, e => by
    cases y with
    | str b => simp only [PyData.eqv, beq_iff_eq] at e; rw [e]
    | _ => first | (simp [plD] at hy; done) | (simp [PyData.eqv] at e; done)
  | .tuple xs, y, hx, hy, e => by
    cases y with
    | tuple ys =>
      simp only [plD] at hx hy
      simp only [PyData.eqv] at e
      rw [eqv_eqA xs ys hx hy e]
    | _ => first | (simp [plD] at hy; done) | (simp [PyData.eqv] at e; done)
  | .none, _, h, _, _ => by simp [plD] at h
  | .bool _, _, h, _, _ => by simp [plD] at h
  | .list _, _, h, _, _ => by simp [plD] at h
  | .dict _, _, h, _, _ => by simp [plD] at h
theorem eqv_eqA : ∀ xs ys : List PyData, plA xs = true → plA ys = true → PyData.eqvAll xs ys = true → xs = ys
  | [], [], _, _, _ => rfl
  | [], _ :: _, _, _, e => by simp [PyData.eqvAll] at e
  | _ :: _, [], _, _, e => by simp [PyData.eqvAll] at e
  | x :: xs, y :: ys, hx, hy, e => by
    simp only [plA, Bool.and_eq_true] at hx hy
    simp only [PyData.eqvAll, Bool.and_eq_true] at e
    rw [eqv_eq x y hx.1 hy.1 e.1, eqv_eqA xs ys hx.2 hy.2 e.2]
end
mutual
theorem eqv_rfl : ∀ x : PyData, plD x = true → PyData.eqv x x = true
  | .int a, _ => by simp [PyData.eqv]
  | .str a, _ => by simp [PyData.eqv]
  | .tuple xs, h => by
    simp only [plD] at h
    simp only [PyData.eqv]
    exact eqv_rflA xs h
  | .none, h => by simp [plD] at h
  | .bool _, h => by simp [plD] at h
  | .list _, h => by simp [plD] at h
  | .dict _, h => by simp [plD] at h
theorem eqv_rflA : ∀ xs : List PyData, plA xs = true → PyData.eqvAll xs xs = true
  | [], _ => by simp [PyData.eqvAll]
  | x :: xs, h => by
    simp only [plA, Bool.and_eq_true] at h
    simp only [PyData.eqvAll, eqv_rfl x h.1, eqv_rflA xs h.2, Bool.and_self]
end
mutual
theorem ltD_tri : ∀ x y : PyData, plD x = true → plD y = true → cmpD x y = true → ltD x y = false → ltD y x = false → x = y
  | .int a, y, _, _, h, l, m => by
    cases y with
    | int b =>
      simp only [ltD, decide_eq_false_iff_not] at l m
      rw [show a = b by omega]
    | _ => simp [cmpD] at h
  | .str a, y, _, _, h, l, m => by
    cases y with
    | str b =>
      simp only [ltD, decide_eq_false_iff_not] at l m
      rw [le_anti_str l m]
    | _ => simp [cmpD] at h
  | .tuple xs, y, hx, hy, h, l, m => by
    cases y with
    | tuple ys =>
      simp only [plD] at hx hy
      simp only [cmpD] at h
      simp only [ltD] at l m
      rw [ltA_tri xs ys hx hy h l m]
    | _ => simp [cmpD] at h
  | .none, _, h, _, _, _, _ => by simp [plD] at h
  | .bool _, _, h, _, _, _, _ => by simp [plD] at h
  | .list _, _, h, _, _, _, _ => by simp [plD] at h
  | .dict _, _, h, _, _, _, _ => by simp [plD] at h
theorem ltA_tri : ∀ xs ys : List PyData, plA xs = true → plA ys = true → cmpA xs ys = true → ltA xs ys = false → ltA ys xs = false → xs = ys
  | [], [], _, _, _, _, _ => rfl
  | [], _ :: _, _, _, _, l, _ => by simp [ltA] at l
  | _ :: _, [], _, _, _, _, m => by simp [ltA] at m
  | x :: xs, y :: ys, hx, hy, h, l, m => by
    simp only [plA, Bool.and_eq_true] at hx hy
    simp only [cmpA] at h
    simp only [ltA] at l m
    cases e : PyData.eqv x y with
    | true =>
      have exy := eqv_eq x y hx.1 hy.1 e
      subst exy
      rw [e, if_pos rfl] at h l m
      rw [ltA_tri xs ys hx.2 hy.2 h l m]
    | false =>
      rw [e, if_neg (by simp)] at h l
      have e2 : PyData.eqv y x = false := by
        cases q : PyData.eqv y x with
        | false => rfl
        | true =>
          have := eqv_eq y x hy.1 hx.1 q
          subst this
          rw [q] at e; cases e
      rw [e2, if_neg (by simp)] at m
      have := ltD_tri x y hx.1 hy.1 h l m
      rw [← this, eqv_rfl x hx.1] at e; cases e
end
mutual
theorem Code.plc : ∀ c : Code, plD c.toD.pw = true
  | .nm _ => by simp [Code.toD, D.pw, D.pwL, plD, plA]
  | .gv _ => by simp [Code.toD, D.pw, D.pwL, plD, plA]
  | .ite a b c d => by simp [Code.toD, D.pw, D.pwL, plD, plA, a.plc, b.plc, c.plc, d.plc]
  | .wth x a b => by simp [Code.toD, D.pw, D.pwL, plD, plA, a.plc, b.plc]
  | .app w f cs => by simp [Code.toD, D.pw, D.pwL, plD, plA, Code.plcs cs]
theorem Code.plcs : ∀ cs : List Code, plA (D.pwL (Code.toDs cs)) = true
  | [] => by simp [Code.toDs, D.pwL, plA]
  | c :: cs => by simp [Code.toDs, D.pwL, plA, c.plc, Code.plcs cs]
end
mutual
theorem Code.flc : ∀ c : Code, c.toD.fla = true
  | .nm _ => by simp [Code.toD, D.fla, D.flaL]
  | .gv _ => by simp [Code.toD, D.fla, D.flaL]
  | .ite a b c d => by simp [Code.toD, D.fla, D.flaL, a.flc, b.flc, c.flc, d.flc]
  | .wth x a b => by simp [Code.toD, D.fla, D.flaL, a.flc, b.flc]
  | .app w f cs => by simp [Code.toD, D.fla, D.flaL, Code.flcs cs]
theorem Code.flcs : ∀ cs : List Code, D.flaL (Code.toDs cs) = true
  | [] => by simp [Code.toDs, D.flaL]
  | c :: cs => by simp [Code.toDs, D.flaL, c.flc, Code.flcs cs]
end
mutual
/-- what is read of such data tells them -/
theorem pw_py : ∀ d : D, d.fla = true → d.pw = d.py
  | .non, _ => by simp [D.pw, D.py]
  | .bl _, _ => by simp [D.pw, D.py]
  | .int _, _ => by simp [D.pw, D.py]
  | .str _, _ => by simp [D.pw, D.py]
  | .tup ds, h => by
    simp only [D.fla] at h
    simp only [D.pw, D.py, pws_pys ds h]
  | .lst _, h => by simp [D.fla] at h
  | .dic _ _, h => by simp [D.fla] at h
  | .ins _ _, h => by simp [D.fla] at h
  | .glb _, h => by simp [D.fla] at h
  | .bag, h => by simp [D.fla] at h
  | .lock _ _, h => by simp [D.fla] at h
  | .at _ _, h => by simp [D.fla] at h
theorem pws_pys : ∀ ds : List D, D.flaL ds = true → D.pwL ds = D.pys ds
  | [], _ => by simp [D.pwL, D.pys]
  | d :: ds, h => by
    simp only [D.flaL, Bool.and_eq_true] at h
    simp only [D.pwL, D.pys, pw_py d h.1, pws_pys ds h.2]
end
mutual
theorem pw_inj : ∀ c e : Code, c.isT → e.isT → c.toD.pw = e.toD.pw → c = e
  | .nm x, e, _, he, h => by
    cases e with
    | nm y => simp [Code.toD, D.pw, D.pwL] at h; rw [h]
    | gv y => simp [Code.toD, D.pw, D.pwL] at h
    | app w f cs => simp [Code.toD, D.pw, D.pwL] at h
    | _ => simp [Code.isT] at he
  | .gv x, e, _, he, h => by
    cases e with
    | nm y => simp [Code.toD, D.pw, D.pwL] at h
    | gv y => simp [Code.toD, D.pw, D.pwL] at h; rw [h]
    | app w f cs => simp [Code.toD, D.pw, D.pwL] at h
    | _ => simp [Code.isT] at he
  | .app w f cs, e, hc, he, h => by
    cases e with
    | nm y => simp [Code.toD, D.pw, D.pwL] at h
    | gv y => simp [Code.toD, D.pw, D.pwL] at h
    | app w' f' cs' =>
      simp only [Code.isT] at hc he
      obtain ⟨rfl, hc⟩ := hc
      obtain ⟨rfl, he⟩ := he
      simp only [Code.toD, D.pw, D.pwL, PyData.tuple.injEq, List.cons.injEq, PyData.str.injEq, and_true, true_and] at h
      rw [h.1, pws_inj cs cs' hc he h.2]
    | _ => simp [Code.isT] at he
  | .ite _ _ _ _, _, h, _, _ => by simp [Code.isT] at h
  | .wth _ _ _, _, h, _, _ => by simp [Code.isT] at h
theorem pws_inj : ∀ cs es : List Code, Code.isTs cs → Code.isTs es → D.pwL (Code.toDs cs) = D.pwL (Code.toDs es) → cs = es
  | [], es, _, _, h => by
    cases es with
    | nil => rfl
    | cons e es => simp [Code.toDs, D.pwL] at h
  | c :: cs, es, hc, he, h => by
    cases es with
    | nil => simp [Code.toDs, D.pwL] at h
    | cons e es =>
      simp only [Code.isTs] at hc he
      simp only [Code.toDs, D.pwL, List.cons.injEq] at h
      rw [pw_inj c e hc.1 he.1 h.1, pws_inj cs es hc.2 he.2 h.2]
end
theorem cmpA_two {x y : Str} {ps qs : List PyData} (h : x = y → cmpA ps qs = true) : cmpA (.str x :: ps) (.str y :: qs) = true := by
  simp only [cmpA]
  by_cases e : PyData.eqv (.str x) (.str y) = true
  · rw [if_pos e]
    simp only [PyData.eqv, beq_iff_eq] at e
    exact h e
  · rw [if_neg e]
    simp [cmpD]
mutual
theorem cmp_code : ∀ c e : Code, c.isT → e.isT → cmpD c.toD.pw e.toD.pw = true
  | .nm x, e, _, he => by
    cases e with
    | nm y =>
      simp only [Code.toD, D.pw, D.pwL, cmpD]
      exact cmpA_two fun _ => cmpA_two fun _ => by simp [cmpA]
    | gv y =>
      simp only [Code.toD, D.pw, D.pwL, cmpD]
      exact cmpA_two fun h => absurd h (by decide +kernel)
    | app w f cs =>
      simp only [Code.isT] at he
      obtain ⟨rfl, he⟩ := he
      simp only [Code.toD, D.pw, D.pwL, cmpD]
      exact cmpA_two fun h => absurd h (by decide +kernel)
    | _ => simp [Code.isT] at he
  | .gv x, e, _, he => by
    cases e with
    | nm y =>
      simp only [Code.toD, D.pw, D.pwL, cmpD]
      exact cmpA_two fun h => absurd h (by decide +kernel)
    | gv y =>
      simp only [Code.toD, D.pw, D.pwL, cmpD]
      refine cmpA_two fun _ => ?_
      simp only [cmpA, cmpD]
      split <;> rfl
    | app w f cs =>
      simp only [Code.isT] at he
      obtain ⟨rfl, he⟩ := he
      simp only [Code.toD, D.pw, D.pwL, cmpD]
      exact cmpA_two fun h => absurd h (by decide +kernel)
    | _ => simp [Code.isT] at he
  | .app w f cs, e, hc, he => by
    simp only [Code.isT] at hc
    obtain ⟨rfl, hc⟩ := hc
    cases e with
    | nm y =>
      simp only [Code.toD, D.pw, D.pwL, cmpD]
      exact cmpA_two fun h => absurd h (by decide +kernel)
    | gv y =>
      simp only [Code.toD, D.pw, D.pwL, cmpD]
      exact cmpA_two fun h => absurd h (by decide +kernel)
    | app w' f' cs' =>
      simp only [Code.isT] at he
      obtain ⟨rfl, he⟩ := he
      simp only [Code.toD, D.pw, D.pwL, cmpD]
      refine cmpA_two fun _ => cmpA_two fun _ => ?_
      simp only [cmpA, cmpD]
      split
      · rfl
      · exact cmp_codes cs cs' hc he
    | _ => simp [Code.isT] at he
  | .ite _ _ _ _, _, h, _ => by simp [Code.isT] at h
  | .wth _ _ _, _, h, _ => by simp [Code.isT] at h
theorem cmp_codes : ∀ cs es : List Code, Code.isTs cs → Code.isTs es → cmpA (D.pwL (Code.toDs cs)) (D.pwL (Code.toDs es)) = true
  | [], es, _, _ => by simp [Code.toDs, D.pwL, cmpA]
  | c :: cs, [], _, _ => by simp [Code.toDs, D.pwL, cmpA]
  | c :: cs, e :: es, hc, he => by
    simp only [Code.isTs] at hc he
    simp only [Code.toDs, D.pwL, cmpA]
    split
    · exact cmp_codes cs es hc.2 he.2
    · exact cmp_code c e hc.1 he.1
end
/-- a term as the key that in_order sorts by -/
noncomputable def prD (c : Code) : Int × D := ((c.size : Nat), c.toD)
theorem prD_anti {c e : Code} (hc : c.isT) (he : e.isT) (h1 : ltPD (prD c) (prD e) = false) (h2 : ltPD (prD e) (prD c) = false) : c = e := by
  have pl : ∀ c : Code, plD (pwP (prD c)) = true := fun c => by simp [pwP, prD, plD, plA, c.plc]
  have cm : ∀ c e : Code, c.isT → e.isT → cmpD (pwP (prD c)) (pwP (prD e)) = true := fun c e hc he => by
    simp only [pwP, cmpD, cmpA]
    split
    · split
      · rfl
      · exact cmp_code c e hc he
    · rfl
  cases q : PyData.eqv (pwP (prD c)) (pwP (prD e)) with
  | true =>
    have := eqv_eq _ _ (pl c) (pl e) q
    simp only [pwP, PyData.tuple.injEq, List.cons.injEq, and_true] at this
    exact pw_inj c e hc he this.2
  | false =>
    have q2 : PyData.eqv (pwP (prD e)) (pwP (prD c)) = false := by
      cases z : PyData.eqv (pwP (prD e)) (pwP (prD c)) with
      | false => rfl
      | true =>
        have := eqv_eq _ _ (pl e) (pl c) z
        rw [this, eqv_rfl _ (pl c)] at q; cases q
    have l1 : ltD (pwP (prD c)) (pwP (prD e)) = false := (ltD_toks (pl c) (pl e) (cm c e hc he) q).trans h1
    have l2 : ltD (pwP (prD e)) (pwP (prD c)) = false := (ltD_toks (pl e) (pl c) (cm e c he hc) q2).trans h2
    have := ltD_tri _ _ (pl c) (pl e) (cm c e hc he) l1 l2
    simp only [pwP, PyData.tuple.injEq, List.cons.injEq, and_true] at this
    exact pw_inj c e hc he this.2
/-- the different ones, in order -/
structure IsOrd (os cs : List Code) : Prop where
  s : os.Pairwise fun c e => ltPD (prD e) (prD c) = false
  n : os.Nodup
  m : ∀ c, c ∈ os ↔ c ∈ cs
theorem ord_same : ∀ {os ps : List Code}, (∀ c ∈ os, c.isT) → (os.Pairwise fun c e => ltPD (prD e) (prD c) = false) → (ps.Pairwise fun c e => ltPD (prD e) (prD c) = false) → os.Nodup → ps.Nodup → (∀ c, c ∈ os ↔ c ∈ ps) → os = ps
  | [], ps, _, _, _, _, _, h => by
    cases ps with
    | nil => rfl
    | cons p ps => exact absurd ((h p).mpr List.mem_cons_self) (by simp)
  | o :: os, ps, ht, so, sp, no, np, h => by
    cases ps with
    | nil => exact absurd ((h o).mp List.mem_cons_self) (by simp)
    | cons p ps =>
      rw [List.pairwise_cons] at so sp
      rw [List.nodup_cons] at no np
      have e : o = p := by
        rcases List.mem_cons.mp ((h o).mp List.mem_cons_self) with z | z
        · exact z
        · rcases List.mem_cons.mp ((h p).mpr List.mem_cons_self) with w | w
          · exact w.symm
          · exact prD_anti (ht o List.mem_cons_self) (ht p (List.mem_cons_of_mem _ w)) (sp.1 o z) (so.1 p w)
      subst e
      rw [ord_same (fun c hc => ht c (List.mem_cons_of_mem _ hc)) so.2 sp.2 no.2 np.2 fun c => ?_]
      constructor
      · intro hc
        rcases List.mem_cons.mp ((h c).mp (List.mem_cons_of_mem _ hc)) with z | z
        · exact absurd (z ▸ hc) no.1
        · exact z
      · intro hc
        rcases List.mem_cons.mp ((h c).mpr (List.mem_cons_of_mem _ hc)) with z | z
        · exact absurd (z ▸ hc) np.1
        · exact z
theorem IsOrd.same {os ps cs : List Code} (ht : ∀ c ∈ cs, c.isT) (h1 : IsOrd os cs) (h2 : IsOrd ps cs) : os = ps :=
  ord_same (fun c hc => ht c ((h1.m c).mp hc)) h1.s h2.s h1.n h2.n fun c => (h1.m c).trans (h2.m c).symm
end
noncomputable def R_withc : RD := fun ds k => ∃ (c : Code) (cs : List Code), ds = [c.toD, .lst (Code.toDs cs)] ∧ cs.length = c.kids.length ∧ cs.length < 2 ^ 20 ∧ k (c.re cs).toD
theorem p_with_codes : ∀ ds κ, R_withc ds κ → t_with_codes (endD κ) (enterS 2 ds) := by
  have hs : sizeLine = 16777216 := sizeLine_eq
  rintro ds κ ⟨c, cs, rfl, hl, hz, h⟩
  unfold t_with_codes
  have h2 : 2 ≤ sizeLine := by omega
  have h3 : 3 ≤ sizeLine := by omega
  have tl := toDs_len cs
  cases c with
  | nm y =>
    simp only [Code.re, Code.toD] at h
    walk_at "cd"; walk_at "dl"; walk_at "cd"
    simpa [h2] using h
  | gv y =>
    simp only [Code.re, Code.toD] at h
    walk_at "cd"; walk_at "dl"; walk_at "cd"
    simpa [h2] using h
  | ite a b c d =>
    match cs, hl with
    | [a', b', c', d'], _ =>
      simp only [Code.re, Code.toD] at h
      walk_at "cd"; walk_at "dl"; walk_at "cd"
      have h5 : 5 ≤ sizeLine := by omega
      simpa [h2, h5] using h
  | wth y a b =>
    match cs, hl with
    | [a', b'], _ =>
      simp only [Code.re, Code.toD] at h
      walk_at "cd"; walk_at "dl"; walk_at "cd"
      have h4 : 4 ≤ sizeLine := by omega
      simpa [h2, h4] using h
  | app w f ds =>
    simp only [Code.re, Code.toD] at h
    cases w <;> (walk_at "cd"; walk_at "dl"; walk_at "cd"; simpa [h2, h3] using h)
/-! ### dicts of codes -/
noncomputable abbrev pD (ps : List (Str × Code)) : List (D × D) := ps.map fun p => (.str p.1, p.2.toD)
noncomputable def lk : List (Str × Code) → Str → Option Code
  | [], _ => none
  | (y, c) :: ps, x => if y = x then some c else lk ps x
theorem valD_pD (x : Str) : ∀ ps : List (Str × Code), valD (pD ps) (.inr x) = (lk ps x).map Code.toD
  | [] => rfl
  | (y, c) :: ps => by
    show (if keyD (.str y) = some (.inr x) then some c.toD else valD (pD ps) (.inr x)) = _
    unfold lk
    by_cases e : y = x
    · subst e
      rw [if_pos (show keyD (.str y) = some (.inr y) from rfl), if_pos rfl]; rfl
    · rw [if_neg (fun z => e (by injection z with z; injection z)), if_neg e, valD_pD x ps]
theorem lk_cons {ps : List (Str × Code)} {x y : Str} {c : Code} : lk ((y, c) :: ps) x = if y = x then some c else lk ps x := rfl
theorem putD_pD {ps : List (Str × Code)} {x : Str} {c : Code} (h : x ∉ ps.map (·.1)) : putD (pD ps) (.str x) c.toD = pD (ps ++ [(x, c)]) := by
  have ha : ((pD ps).any fun e => decide (keyD e.1 = keyD (.str x))) = false := by
    rw [List.any_eq_false]
    intro e he
    obtain ⟨p, hp, rfl⟩ := List.mem_map.mp he
    have : p.1 ≠ x := fun z => h (List.mem_map.mpr ⟨p, hp, z⟩)
    simpa [keyD] using this
  unfold putD mergeD.putD
  rw [if_neg (by rw [ha]; exact fun z => Bool.noConfusion z)]
  unfold pD
  rw [List.map_append]; rfl
theorem comp_fn {α : Type} {i : Nat} {te : TD} {ρ : List Sl} {f g : α → D} {k : List D → Prop} : ∀ {xs : List α} {acc : List D}, (∀ x ∈ xs, ∀ κ : D → Prop, κ (g x) → te (ρ.set i (.dat (f x))) κ) → k (acc ++ xs.map g) → compT (.nm i) yesT te ρ (xs.map f) acc k
  | [], acc, _, hk => by
    rw [List.map_nil, List.append_nil] at hk
    exact hk
  | x :: xs, acc, h, hk => by
    show te (ρ.set i (.dat (f x))) fun e => compT (.nm i) yesT te ρ (xs.map f) (acc ++ [e]) k
    refine h x List.mem_cons_self _ (comp_fn (g := g) (fun y hy => h y (List.mem_cons_of_mem _ hy)) ?_)
    rw [List.append_assoc]
    exact hk
/-! ### terms put for names -/
noncomputable def evp (ps : List (Str × Code)) : Env := fun x => (lk ps x).getD (.nm x)
noncomputable def R_put (n : Nat) : RD := fun ds k => ∃ (c : Code) (ps : List (Str × Code)), ds = [c.toD, .dic false (pD ps)] ∧ c.isT ∧ c.dp ≤ n ∧ c.size < 2 ^ 16 ∧ k (c.out (evp ps)).toD
theorem get_pD {ps : List (Str × Code)} {x : Str} {κ : D → Prop} (h : κ ((Code.nm x).out (evp ps)).toD) : lookD false (pD ps) (.str x) fun o => κ (o.getD (Code.nm x).toD) := by
  simp only [lookD, keyD, optK_some, valD_pD]
  simp only [Code.out, evp] at h
  cases q : lk ps x with
  | none => rw [q] at h; exact h
  | some c => rw [q] at h; exact h
theorem outs_map (s : Env) : ∀ cs : List Code, Code.outs cs s = cs.map fun c => c.out s
  | [] => by simp only [Code.outs, List.map_nil]
  | c :: cs => by simp only [Code.outs, List.map_cons, outs_map s cs]
theorem p_put_terms (n : Nat) : ∀ ds κ, R_put (n + 1) ds κ → t_put_terms R_in (R_put n) R_withc (endD κ) (enterS 3 ds) := by
  have hs : sizeLine = 16777216 := sizeLine_eq
  rintro ds κ ⟨c, ps, rfl, ht, hn, hz, h⟩
  have rest : (∀ x, c ≠ .nm x) → (retT (callT R_withc (consA (nameT 0) (consA (ofF (lcF (.nm 2) (seqI (callT R_in (consA (nameT 0) nilA))) yesT (callT (R_put n) (consA (nameT 2) (consA (nameT 1) nilA))) [2])) nilA)))) (endD κ) (enterS 3 [c.toD, .dic false (pD ps)]) := by
    intro hx
    walk_at "dl"
    refine ⟨c, rfl, ?_⟩
    dsimp only
    have hk := kids_sizes c
    have kl := sizes_len c.kids
    refine ⟨by rw [toDs_len]; omega, ?_⟩
    rw [toDs_map]
    refine comp_fn (g := fun d : Code => (d.out (evp ps)).toD) (fun d hd κ' q => ?_) ?_
    · walk_at "dl"
      have h1 := kids_dp hd
      have h2 := sizes_mem hd
      exact ⟨d, ps, rfl, isTs_mem (kids_isT ht) d hd, by omega, by omega, q⟩
    · walk_at "dl"
      refine ⟨c, c.kids.map fun d => d.out (evp ps), by rw [toDs_map, List.map_map]; rfl, by rw [List.length_map], by rw [List.length_map]; omega, ?_⟩
      rw [← re_out (fun x a b e => by rw [e] at ht; simp [Code.isT] at ht) hx]
      exact h
  unfold t_put_terms
  generalize (retT (callT R_withc (consA (nameT 0) (consA (ofF (lcF (.nm 2) (seqI (callT R_in (consA (nameT 0) nilA))) yesT (callT (R_put n) (consA (nameT 2) (consA (nameT 1) nilA))) [2])) nilA)))) = tl at rest ⊢
  simp only [seqT, iffT]
  refine t_hd (c := c) rfl ?_
  by_cases e : c.hd = "name"
  · rw [decide_eq_true e, if_pos rfl]
    cases c with
    | nm x =>
      simp only [Code.toD, getT2]
      walk_at "dl"
      refine ⟨false, pD ps, rfl, ?_⟩
      walk_at "dl"
      exact get_pD h
    | gv i => simp [Code.hd, q_given_name] at e
    | app w f cs => cases w <;> simp [Code.hd, q_work_name, q_call_name] at e
    | _ => simp [Code.isT] at ht
  · rw [decide_eq_false e, if_neg (by simp)]
    exact rest fun x z => e (by rw [z]; rfl)
theorem p_set_in (n : Nat) : ∀ ds κ, R_put (n + 1) ds κ → t_L_set_in (R_put n) (endD κ) (enterS 3 ds) := by
  have hs : sizeLine = 16777216 := sizeLine_eq
  rintro ds κ ⟨c, ps, rfl, ht, hn, hz, h⟩
  unfold t_L_set_in
  generalize hT : (retT (tupT (consA (cT (.str "work")) _)) : TSD) = tl
  simp only [seqT, iffT]
  refine t_hd (c := c) rfl ?_
  cases c with
  | nm x =>
    rw [decide_eq_true (show (Code.nm x).hd = "name" from rfl), if_pos rfl]
    simp only [Code.toD, getT2]
    walk_at "dl"
    refine ⟨false, pD ps, rfl, ?_⟩
    walk_at "dl"
    exact get_pD h
  | gv i =>
    rw [decide_eq_false (show ¬ (Code.gv i).hd = "name" by simp [Code.hd, q_given_name]), if_neg (by simp)]
    simp only [nextT]
    refine t_hd (c := .gv i) rfl ?_
    rw [decide_eq_true (show (Code.gv i).hd = "given" from rfl), if_pos rfl]
    simp only [Code.out] at h
    walk_at "dl"
    exact h
  | app w f cs =>
    simp only [Code.isT] at ht
    obtain ⟨rfl, ht⟩ := ht
    rw [decide_eq_false (show ¬ (Code.app true f cs).hd = "name" by simp [Code.hd, q_work_name]), if_neg (by simp)]
    simp only [nextT]
    refine t_hd (c := .app true f cs) rfl ?_
    rw [decide_eq_false (show ¬ (Code.app true f cs).hd = "given" by simp [Code.hd, q_work_given]), if_neg (by simp)]
    walk_at "dl"
    subst hT
    have kl := sizes_len cs
    simp only [Code.size] at hz
    simp only [Code.toD, if_true]
    walk_at "dl"
    refine ⟨by rw [toDs_len]; omega, ?_⟩
    rw [toDs_map]
    refine comp_fn (g := fun d : Code => (d.out (evp ps)).toD) (fun d hd κ' q => ?_) ?_
    · walk_at "dl"
      have h1 := kids_dp (c := .app true f cs) hd
      have h2 := sizes_mem hd
      exact ⟨d, ps, rfl, isTs_mem ht d hd, by omega, by omega, q⟩
    · walk_at "dl"
      simp only [Code.out, outs_map, Code.toD, if_true, toDs_map, List.map_map] at h
      first
        | exact ⟨by omega, h⟩
        | exact ⟨by omega, by omega, h⟩
        | exact ⟨by omega, by simp; omega, h⟩
        | exact ⟨by simp; omega, by omega, h⟩
  | _ => simp [Code.isT] at ht
local macro_rules | `(tactic| walk_at "dw") => do
  let l ← (("isiDT sortLF lstRgF lstRg2F dputQ isiCT neOD keysQ valsQ itemsQ qixT srtF dcQ dcT metT fldT callY pureE asgE retE dropE binE consX ownX nilX consY lastY mX fldX fldX2 lcE compE starT datO makT endM enterX Sl.tree List.map_cons List.map_nil".splitOn " ").toArray.mapM fun s => `(Lean.Parser.Tactic.simpLemma| $(Lean.mkIdent s.toName):ident) : Lean.MacroM _)
  `(tactic| simp only [$l,*])
local macro_rules | `(tactic| walk_at "dz") => `(tactic| ((try walk_at "dl"); (try walk_at "dw"); (try walk_at "di"); (try walk_at "dl"); (try walk_at "dw"); (try walk_at "di"); (try walk_at "dl")))
local macro_rules | `(tactic| walk_at "ds") => do
  let l ← (("retR retO retOF slF endT callRT newR dispR dictOT dictDT par2T parDT par3T parO popE callE tgtE forE seqE appIx dputK dputKR dputL propT fldO thruM Tr.toD toDs_d List.map_cons List.map_nil List.set_cons_zero List.set_cons_succ List.getElem?_cons_zero List.getElem?_cons_succ".splitOn " ").toArray.mapM fun s => `(Lean.Parser.Tactic.simpLemma| $(Lean.mkIdent s.toName):ident) : Lean.MacroM _)
  `(tactic| simp only [$l,*])
local macro_rules | `(tactic| walk_at "dy") => `(tactic| ((try walk_at "dl"); (try walk_at "ds"); (try walk_at "dw"); (try walk_at "di"); (try walk_at "dl"); (try walk_at "ds"); (try walk_at "dw"); (try walk_at "di"); (try walk_at "dl")))
/-! ### the parts of a term -/
theorem parts_all {P : Code → Prop} (hk : ∀ c, P c → ∀ d ∈ c.kids, P d) : ∀ (n : Nat) (c : Code), c.size ≤ n → P c → ∀ p ∈ c.parts, P p
  | 0, c, hn, _, _, _ => absurd c.size_pos (by omega)
  | n + 1, c, hn, hc, p, hp => by
    rw [parts_kids] at hp
    rcases List.mem_cons.mp hp with rfl | hp
    · exact hc
    · have : ∀ cs : List Code, (∀ d ∈ cs, d ∈ c.kids) → p ∈ Code.partss cs → P p := by
        intro cs
        induction cs with
        | nil => intro _ h; simp [Code.partss] at h
        | cons d cs ih =>
          intro hd h
          simp only [Code.partss, List.mem_append] at h
          have hd' := hd d List.mem_cons_self
          rcases h with h | h
          · have h1 := sizes_mem hd'
            have h2 := kids_sizes c
            exact parts_all hk n d (by omega) (hk c hc d hd') p h
          · exact ih (fun e he => hd e (List.mem_cons_of_mem _ he)) h
      exact this c.kids (fun _ h => h) hp
structure Trm (n m : Nat) (c : Code) : Prop where
  o : c.ok
  t : c.isT
  d : c.dp ≤ n
  s : c.size ≤ m
theorem Trm.kid {n m : Nat} {c : Code} (h : Trm n m c) : ∀ d ∈ c.kids, Trm n m d := fun d hd => by
  have h1 := kids_dp hd
  have h2 := sizes_mem hd
  have h3 := kids_sizes c
  have := h.d; have := h.s
  exact ⟨oks_mem (kids_ok h.o) d hd, isTs_mem (kids_isT h.t) d hd, by omega, by omega⟩
theorem Trm.part {n m : Nat} {c : Code} (h : Trm n m c) : ∀ p ∈ c.parts, Trm n m p := parts_all (fun _ h => h.kid) c.size c (Nat.le_refl _) h
theorem partss_mem {p : Code} : ∀ {cs : List Code}, p ∈ Code.partss cs → ∃ c ∈ cs, p ∈ c.parts
  | [], h => by simp [Code.partss] at h
  | c :: cs, h => by
    simp only [Code.partss, List.mem_append] at h
    rcases h with h | h
    · exact ⟨c, List.mem_cons_self, h⟩
    · obtain ⟨d, h1, h2⟩ := partss_mem h
      exact ⟨d, List.mem_cons_of_mem _ h1, h2⟩
theorem Trm.parts {n m : Nat} {cs : List Code} (h : ∀ c ∈ cs, Trm n m c) : ∀ p ∈ Code.partss cs, Trm n m p := fun p hp => by
  obtain ⟨c, h1, h2⟩ := partss_mem hp
  exact (h c h1).part p h2
theorem mem_toDs {cs : List Code} {d : D} : d ∈ Code.toDs cs ↔ ∃ c ∈ cs, d = c.toD := by
  rw [toDs_map, List.mem_map]
  exact ⟨fun ⟨c, h1, h2⟩ => ⟨c, h1, h2.symm⟩, fun ⟨c, h1, h2⟩ => ⟨c, h1, h2.symm⟩⟩
theorem lays_of {cs : List Code} (h : ∀ c ∈ cs, c.ok) : PyData.canLayAll0 (D.pys (Code.toDs cs)) = true := Code.lays cs (oks_of h)
section
open PySem.SeqAt PySem.W SrtO
theorem eqv_code {c e : Code} (hc : c.isT) (he : e.isT) : PyData.eqv c.toD.py e.toD.py = true ↔ c = e := by
  rw [← pw_py _ c.flc, ← pw_py _ e.flc]
  constructor
  · intro h
    exact pw_inj c e hc he (eqv_eq _ _ c.plc e.plc h)
  · rintro rfl
    exact eqv_rfl _ c.plc
theorem any_code {c : Code} (hc : c.isT) : ∀ {cs : List Code}, (∀ d ∈ cs, d.isT) → (((Code.toDs cs).any fun z => PyData.eqv z.py c.toD.py) = true ↔ c ∈ cs)
  | [], _ => by simp [Code.toDs]
  | d :: cs, h => by
    simp only [Code.toDs, List.any_cons, Bool.or_eq_true, eqv_code (h d List.mem_cons_self) hc, any_code hc fun e he => h e (List.mem_cons_of_mem _ he), List.mem_cons]
    exact ⟨fun q => q.imp Eq.symm _root_.id, fun q => q.imp Eq.symm _root_.id⟩
theorem ordd_code {c : Code} (h : Trm 4 (2 ^ 12) c) : Ordd c.toD ∧ c.toD.pw.depth ≤ 8 ∧ c.toD.isTup = true := by
  have e := pw_py _ c.flc
  have l := c.deepd
  have := h.d
  refine ⟨⟨c.flc, by rw [e]; exact c.lay h.o, c.plc, by rw [e]; omega⟩, by rw [e]; omega, ?_⟩
  cases c <;> simp [Code.toD, D.isTup]
open Classical in
noncomputable def nfC (d : D) : Int := if h : ∃ c : Code, d = c.toD then ((Classical.choose h).size : Nat) else 0
theorem nfC_at (c : Code) : nfC c.toD = (c.size : Nat) := by
  have h : ∃ e : Code, c.toD = e.toD := ⟨c, rfl⟩
  unfold nfC
  rw [dif_pos h, ← toD_inj _ _ (Classical.choose_spec h)]
theorem any_nk {S : D → Prop} (inj : ∀ d e, S d → S e → nkP d.pw = nkP e.pw → d = e) {d : D} (hd : S d) {acc : List D} (ha : ∀ e ∈ acc, S e) : (acc.any fun e => decide (nkP e.pw = nkP d.pw)) = true ↔ d ∈ acc := by
  rw [List.any_eq_true]
  constructor
  · rintro ⟨e, h1, h2⟩
    rw [← inj e d (ha e h1) hd (of_decide_eq_true h2)]
    exact h1
  · exact fun h => ⟨d, h, decide_eq_true rfl⟩
theorem fold_addN {S : D → Prop} (inj : ∀ d e, S d → S e → nkP d.pw = nkP e.pw → d = e) : ∀ (xs acc : List D), (∀ d ∈ xs, S d) → (∀ d ∈ acc, S d) → acc.Nodup → (xs.foldl addN acc).Nodup ∧ ∀ d, d ∈ xs.foldl addN acc ↔ d ∈ acc ∨ d ∈ xs
  | [], acc, _, _, hn => ⟨hn, fun d => by simp⟩
  | x :: xs, acc, hx, ha, hn => by
    have hs := hx x List.mem_cons_self
    have key := any_nk inj hs ha
    rw [List.foldl_cons]
    unfold addN
    by_cases q : x ∈ acc
    · rw [if_pos (key.mpr q)]
      obtain ⟨h1, h2⟩ := fold_addN inj xs acc (fun d hd => hx d (List.mem_cons_of_mem _ hd)) ha hn
      refine ⟨h1, fun d => (h2 d).trans ?_⟩
      rw [List.mem_cons]
      exact ⟨fun z => z.imp _root_.id .inr, fun z => z.elim .inl fun w => w.elim (fun e => .inl (e ▸ q)) .inr⟩
    · rw [if_neg fun z => q (key.mp z)]
      obtain ⟨h1, h2⟩ := fold_addN inj xs (acc ++ [x]) (fun d hd => hx d (List.mem_cons_of_mem _ hd)) (fun d hd => by
        rcases List.mem_append.mp hd with z | z
        · exact ha d z
        · rw [List.mem_singleton.mp z]; exact hs) (List.nodup_append.mpr ⟨hn, by simp, fun a h1 b h2 e => by rw [List.mem_singleton.mp h2] at e; exact q (e ▸ h1)⟩)
      refine ⟨h1, fun d => (h2 d).trans ?_⟩
      rw [List.mem_append, List.mem_singleton, List.mem_cons, or_assoc]
theorem ded_codes {cs : List Code} (h : ∀ c ∈ cs, c.isT) : (dedK (Code.toDs cs)).Nodup ∧ ∀ c, c.isT → (c.toD ∈ dedK (Code.toDs cs) ↔ c ∈ cs) := by
  obtain ⟨h1, h2⟩ := fold_addN (S := fun d => ∃ c : Code, c.isT ∧ d = c.toD) (fun d e ⟨c, hc, e1⟩ ⟨c', hc', e2⟩ q => by
    subst e1; subst e2
    rw [pw_inj c c' hc hc' (nkP_inj _ _ c.plc c'.plc q)]) (Code.toDs cs) [] (fun d hd => by obtain ⟨c, h3, h4⟩ := mem_toDs.mp hd; exact ⟨c, h c h3, h4⟩) (fun _ z => nomatch z) List.nodup_nil
  refine ⟨h1, fun c _ => (h2 c.toD).trans ?_⟩
  rw [mem_toDs]
  constructor
  · rintro (z | ⟨e, h3, h4⟩)
    · cases z
    · rw [toD_inj _ _ h4]; exact h3
  · exact fun z => .inr ⟨c, z, rfl⟩
/-- pairs that are told as keys come from codes -/
theorem prD_list {cs : List Code} : ∀ {qs : List (Int × D)}, (∀ q ∈ qs, ∃ c ∈ cs, q = prD c) → ∃ os : List Code, qs = os.map prD ∧ ∀ c ∈ os, c ∈ cs
  | [], _ => ⟨[], rfl, fun _ z => nomatch z⟩
  | q :: qs, h => by
    obtain ⟨c, h1, rfl⟩ := h q List.mem_cons_self
    obtain ⟨os, rfl, h3⟩ := prD_list fun r hr => h r (List.mem_cons_of_mem _ hr)
    exact ⟨c :: os, rfl, fun e he => (List.mem_cons.mp he).elim (fun z => z ▸ h1) (h3 e)⟩
theorem prD_inj {c e : Code} (h : prD c = prD e) : c = e := toD_inj _ _ (congrArg Prod.snd h)
theorem prD_toDs (os : List Code) : (os.map prD).map (·.2) = Code.toDs os := by rw [List.map_map, toDs_map]; rfl
/-- in_order, by the promise of its sort -/
theorem ord_of {cs : List Code} (hT : ∀ c ∈ cs, c.isT) {qs : List (Int × D)} (h1 : Srtd ltPD qs) (h2 : Stb ltPD qs ((dedK (Code.toDs cs)).map fun d => (nfC d, d))) : ∃ os, qs = os.map prD ∧ IsOrd os cs := by
  obtain ⟨n1, n2⟩ := ded_codes hT
  obtain ⟨os, rfl, h3⟩ := prD_list (cs := cs) (qs := qs) fun q hq => by
    obtain ⟨d, hd, rfl⟩ := List.mem_map.mp (h2.perm.mem_iff.mp hq)
    obtain ⟨c, h4, rfl⟩ := mem_toDs.mp (dedK_sub hd)
    exact ⟨c, h4, by rw [nfC_at]; rfl⟩
  have nd : (os.map prD).Nodup := h2.perm.symm.nodup (List.pairwise_map.mpr (n1.imp fun q e => q (Prod.ext_iff.mp e).2))
  refine ⟨os, rfl, ⟨List.pairwise_map.mp h1, (List.pairwise_map.mp nd).imp fun q e => q (congrArg prD e), fun c => ⟨h3 c, fun hc => ?_⟩⟩⟩
  have := h2.perm.mem_iff.mpr (List.mem_map.mpr ⟨c.toD, (n2 c (hT c hc)).mpr hc, rfl⟩)
  obtain ⟨e, he, e2⟩ := List.mem_map.mp this
  have : e = c := toD_inj _ _ (congrArg Prod.snd e2)
  exact this ▸ he
end
noncomputable def R_ord : RTD := fun ds k => ∃ cs : List Code, ds = [.lst (Code.toDs cs)] ∧ (∀ c ∈ cs, Trm 4 (2 ^ 12) c) ∧ cs.length < 2 ^ 16 ∧ ∀ os, IsOrd os cs → k (.l ((Code.toDs os).map .d))
theorem p_in_order : ∀ ds κ, R_ord ds κ → t_in_order (R_size 60) (endT κ) (enterS 3 ds) := by
  have hs : sizeLine = 16777216 := sizeLine_eq
  rintro ds κ ⟨cs, rfl, hc, hl, h⟩
  unfold t_in_order orderT
  refine ⟨by show 2 < 3; omega, ?_⟩
  show ∃ (xs : List D) (nf : D → Int), D.lst (Code.toDs cs) = .lst xs ∧ _
  refine ⟨Code.toDs cs, nfC, rfl, fun d hd => ?_, fun d hd => ?_, fun d hd d' hd' _ => ?_, by rw [toDs_len]; omega, by show 1 < 3; omega, fun qs h1 h2 => ?_⟩
  · obtain ⟨c, h1, rfl⟩ := mem_toDs.mp hd
    have ht := hc c h1
    refine ⟨(ordd_code ht).1, fun κ' q => ?_⟩
    have := ht.d; have := ht.s
    walk_at "dl"
    refine ⟨c, rfl, by omega, by omega, ?_⟩
    rw [nfC_at] at q
    first
      | exact ⟨by omega, q⟩
      | exact q
  · obtain ⟨c, h1, rfl⟩ := mem_toDs.mp hd
    exact (ordd_code (hc c h1)).2
  · obtain ⟨c, h1, rfl⟩ := mem_toDs.mp hd
    obtain ⟨e, h2, rfl⟩ := mem_toDs.mp hd'
    exact cmp_code c e (hc c h1).t (hc e h2).t
  · obtain ⟨os, rfl, ho⟩ := ord_of (fun c hc' => (hc c hc').t) h1 h2
    show κ _
    rw [prD_toDs]
    exact h os ho
noncomputable def R_tin : RTD := fun ds k => ∃ c : Code, ds = [c.toD] ∧ Trm 4 (2 ^ 12) c ∧ ∀ os, IsOrd os c.parts → k (.l ((Code.toDs os).map .d))
theorem p_terms_in : ∀ ds κ, R_tin ds κ → t_terms_in (R_parts 60) R_ord (endT κ) (enterS 1 ds) := by
  have hs : sizeLine = 16777216 := sizeLine_eq
  rintro ds κ ⟨c, rfl, hc, h⟩
  have := hc.d; have := hc.s
  have pl := parts_len c
  unfold t_terms_in
  walk_at "ds"
  walk_at "dl"
  exact ⟨c, rfl, by omega, by omega, c.parts, rfl, hc.part, by omega, h⟩
noncomputable def R_alt : RTD := fun ds k => ∃ cs : List Code, ds = [.lst (Code.toDs cs)] ∧ (∀ c ∈ cs, Trm 4 (2 ^ 12) c) ∧ cs.length ≤ 10 ∧ ∀ os, IsOrd os (Code.partss cs) → k (.l ((Code.toDs os).map .d))
theorem compB_toDs {te : TD} {i : Nat} {ρ : List Sl} {k : List D → Prop} : ∀ {cs : List Code} {acc : List D}, (∀ c ∈ cs, ∀ κ : D → Prop, κ c.toD → te (ρ.set i (.dat c.toD)) κ) → acc.length + cs.length ≤ sizeLine → k (acc ++ Code.toDs cs) → compB (.nm i) yesT te ρ (Code.toDs cs) acc k
  | [], acc, _, _, hk => by
    simp only [Code.toDs, List.append_nil] at hk ⊢
    exact hk
  | c :: cs, acc, h, hl, hk => by
    rw [List.length_cons] at hl
    show te (ρ.set i (.dat c.toD)) fun e => acc.length < sizeLine ∧ compB (.nm i) yesT te ρ (Code.toDs cs) (acc ++ [e]) k
    refine h c List.mem_cons_self _ ⟨by omega, compB_toDs (fun d hd => h d (List.mem_cons_of_mem _ hd)) (by rw [List.length_append, List.length_singleton]; omega) ?_⟩
    rw [List.append_assoc]
    simpa only [Code.toDs, List.singleton_append] using hk
theorem p_all_terms : ∀ ds κ, R_alt ds κ → t_all_terms (R_parts 60) R_ord (endT κ) (enterS 3 ds) := by
  have hs : sizeLine = 16777216 := sizeLine_eq
  rintro ds κ ⟨cs, rfl, hc, hl, h⟩
  unfold t_all_terms
  walk_at "ds"
  walk_at "dl"
  simp only [lc2F]
  walk_at "dl"
  have go : ∀ (rest done : List Code), cs = done ++ rest → comp2T 1 yesT (.nm 2) (seqI (callT (R_parts 60) (consA (nameT 1) nilA))) yesT (nameT 2) [2] [.dat (.lst (Code.toDs cs)), .un, .un] (Code.toDs rest) (Code.toDs (Code.partss done)) (fun ds => R_ord [.lst ds] κ) := by
    intro rest
    induction rest with
    | nil =>
      intro done e
      rw [List.append_nil] at e
      subst e
      show R_ord _ κ
      refine ⟨_, rfl, Trm.parts hc, ?_, h⟩
      rw [partss_len]
      have := sizes_le (b := 2 ^ 12) fun c hc' => (hc c hc').s
      have : cs.length * 2 ^ 12 ≤ 10 * 2 ^ 12 := Nat.mul_le_mul_right _ hl
      omega
    | cons c rest ih =>
      intro done e
      have hm : c ∈ cs := by rw [e]; simp
      have ht := hc c hm
      have := ht.d; have := ht.s
      have pl := parts_len c
      simp only [Code.toDs]
      simp only [comp2T, yesT, if_true]
      walk_at "dl"
      refine ⟨c, rfl, by omega, by omega, ?_⟩
      try dsimp only
      have ld : (Code.toDs (Code.partss done)).length ≤ 10 * 2 ^ 12 := by
        rw [toDs_len, partss_len]
        have h1 := sizes_le (cs := done) (b := 2 ^ 12) fun c hc' => (hc c (by rw [e]; simp [hc'])).s
        have h2 : done.length ≤ 10 := by
          have := congrArg List.length e
          rw [List.length_append, List.length_cons] at this
          omega
        have : done.length * 2 ^ 12 ≤ 10 * 2 ^ 12 := Nat.mul_le_mul_right _ h2
        omega
      refine compB_toDs (fun d _ κ' q => q) (by omega) ?_
      have := ih (done ++ [c]) (by rw [e]; simp)
      have e2 : Code.toDs (Code.partss done) ++ Code.toDs c.parts = Code.toDs (Code.partss (done ++ [c])) := by
        rw [partss_app, toDs_app]
        simp only [Code.partss, List.append_nil]
      rw [e2]
      exact this
  exact go cs [] rfl
/-! ### what repr asks of data with dicts -/
structure Shw (b h : Nat) (p : PyData) : Prop where
  s : p.showable = true
  l : p.leavesShort 40 = true
  k : p.bulk ≤ b
  d : p.depth ≤ h
structure ShwA (b h : Nat) (p : List PyData) : Prop where
  s : PyData.showableAll p = true
  l : PyData.leavesShortAll 40 p = true
  k : PyData.bulkAll p ≤ b
  d : PyData.depthAll p ≤ h
structure ShwK (b h : Nat) (p : List (PyData × PyData)) : Prop where
  s : PyData.showableKv p = true
  l : PyData.leavesShortKv 40 p = true
  k : PyData.bulkKv p ≤ b
  d : PyData.depthKv p ≤ h
theorem big31 : 10 ^ 31 ≤ 2 ^ 1920 := Nat.le_trans (by decide : 10 ^ 31 ≤ 2 ^ 104) (Nat.pow_le_pow_right (by decide) (by decide))
theorem intlen {i : Int} (h : i.natAbs < 10 ^ 31) : (PyData.shown (.int i)).length ≤ 40 := by
  have e := int_text_length_le10 (k := 31) (by decide) h
  show (Str.ofString (toString i)).length ≤ 40
  rw [PySem.ofString_length]; omega
theorem shw_int {i : Int} {h : Nat} (hi : i.natAbs < 10 ^ 31) : Shw 0 h (.int i) := by
  refine ⟨?_, ?_, by simp [PyData.bulk], by simp [PyData.depth]⟩
  · simp only [PyData.showable, decide_eq_true_eq]
    by_cases z : i.natAbs = 0
    · rw [z]; decide
    · exact (Nat.log2_lt z).mpr (Nat.lt_of_lt_of_le hi big31)
  · simp only [PyData.leavesShort, decide_eq_true_eq]
    exact intlen hi
theorem wok_size {x : Str} (h : wOk x = true) : x.cps.size ≤ 8 := by
  unfold wOk at h
  rw [Bool.and_eq_true] at h
  rw [Bool.and_eq_true, decide_eq_true_eq, decide_eq_true_eq] at h
  exact h.2.1
theorem shw_str {x : Str} {h : Nat} (hx : wOk x = true) : Shw 8 h (.str x) :=
  ⟨rfl, PyData.leavesShort_of_canLay0 40 _ (by simp [PyData.canLay0, wOk_str hx]) (by simp [PyData.intsShort]), by simp only [PyData.bulk]; exact wok_size hx, by simp [PyData.depth]⟩
theorem shwA_nil {h : Nat} : ShwA 0 h [] := ⟨rfl, rfl, by simp [PyData.bulkAll], by simp [PyData.depthAll]⟩
theorem shwA_cons {b c h : Nat} {p : PyData} {ps : List PyData} (x : Shw b h p) (y : ShwA c h ps) : ShwA (b + 1 + c) h (p :: ps) := by
  refine ⟨by simp only [PyData.showableAll, x.s, y.s, Bool.and_self], by simp only [PyData.leavesShortAll, x.l, y.l, Bool.and_self], ?_, ?_⟩
  · have := x.k; have := y.k
    simp only [PyData.bulkAll]; omega
  · have := x.d; have := y.d
    simp only [PyData.depthAll]; omega
theorem shwK_nil {h : Nat} : ShwK 0 h [] := ⟨rfl, rfl, by simp [PyData.bulkKv], by simp [PyData.depthKv]⟩
theorem shwK_cons {a b c h : Nat} {k v : PyData} {ps : List (PyData × PyData)} (x : Shw a h k) (y : Shw b h v) (z : ShwK c h ps) : ShwK (a + b + 2 + c) h ((k, v) :: ps) := by
  refine ⟨by simp only [PyData.showableKv, x.s, y.s, z.s, Bool.and_self], by simp only [PyData.leavesShortKv, x.l, y.l, z.l, Bool.and_self], ?_, ?_⟩
  · have := x.k; have := y.k; have := z.k
    simp only [PyData.bulkKv]; omega
  · have := x.d; have := y.d; have := z.d
    simp only [PyData.depthKv]; omega
theorem shw_tup {b h : Nat} {ps : List PyData} (x : ShwA b h ps) : Shw b (h + 1) (.tuple ps) :=
  ⟨by simp only [PyData.showable, x.s], by simp only [PyData.leavesShort, x.l], by simp only [PyData.bulk]; exact x.k, by simp only [PyData.depth]; have := x.d; omega⟩
theorem shw_lst {b h : Nat} {ps : List PyData} (x : ShwA b h ps) : Shw b (h + 1) (.list ps) :=
  ⟨by simp only [PyData.showable, x.s], by simp only [PyData.leavesShort, x.l], by simp only [PyData.bulk]; exact x.k, by simp only [PyData.depth]; have := x.d; omega⟩
theorem shw_dic {b h : Nat} {ps : List (PyData × PyData)} (x : ShwK b h ps) : Shw b (h + 1) (.dict ps) :=
  ⟨by simp only [PyData.showable, x.s], by simp only [PyData.leavesShort, x.l], by simp only [PyData.bulk]; exact x.k, by simp only [PyData.depth]; have := x.d; omega⟩
theorem Shw.mono {b c h g : Nat} {p : PyData} (x : Shw b h p) (hb : b ≤ c) (hh : h ≤ g) : Shw c g p := ⟨x.s, x.l, Nat.le_trans x.k hb, Nat.le_trans x.d hh⟩
theorem ShwK.mono {b c h g : Nat} {p : List (PyData × PyData)} (x : ShwK b h p) (hb : b ≤ c) (hh : h ≤ g) : ShwK c g p := ⟨x.s, x.l, Nat.le_trans x.k hb, Nat.le_trans x.d hh⟩
theorem shwA_map {α : Type} {f : α → PyData} {b h : Nat} : ∀ {l : List α}, (∀ x ∈ l, Shw b h (f x)) → ShwA ((b + 1) * l.length) h (l.map f)
  | [], _ => by simpa using shwA_nil
  | x :: l, q => by
    have z := shwA_cons (q x List.mem_cons_self) (shwA_map fun y hy => q y (List.mem_cons_of_mem _ hy))
    rw [List.map_cons, List.length_cons]
    exact ⟨z.s, z.l, Nat.le_trans z.k (by rw [Nat.mul_add]; omega), z.d⟩
theorem ShwA.mono {b c h g : Nat} {p : List PyData} (x : ShwA b h p) (hb : b ≤ c) (hh : h ≤ g) : ShwA c g p := ⟨x.s, x.l, Nat.le_trans x.k hb, Nat.le_trans x.d hh⟩
theorem pys_map : ∀ ds : List D, D.pys ds = ds.map D.py
  | [] => by simp only [D.pys, List.map_nil]
  | d :: ds => by simp only [D.pys, List.map_cons, pys_map ds]
theorem six_w : wOk ("name" : Str) = true ∧ wOk ("given" : Str) = true ∧ wOk ("if" : Str) = true ∧ wOk ("with" : Str) = true ∧ wOk ("work" : Str) = true ∧ wOk ("call" : Str) = true := by decide +kernel
mutual
theorem shw_code : ∀ c : Code, c.ok → Shw (40 * c.size - 1) (2 * c.dp) c.toD.py
  | .nm x, h => by
    simp only [Code.ok] at h
    have z := shw_tup (shwA_cons (shw_str (h := 1) six_w.1) (shwA_cons (shw_str h) shwA_nil))
    simp only [Code.toD, D.py, D.pys, Code.size, Code.dp]
    exact z.mono (by omega) (by omega)
  | .gv i, h => by
    simp only [Code.ok] at h
    have z := shw_tup (shwA_cons (shw_str (h := 1) six_w.2.1) (shwA_cons (shw_int (i := i) (Nat.lt_trans (by omega : i.natAbs < 2 ^ 16) (by decide))) shwA_nil))
    simp only [Code.toD, D.py, D.pys, Code.size, Code.dp]
    exact z.mono (by omega) (by omega)
  | .ite a b c d, h => by
    simp only [Code.ok] at h
    have m1 := a.size_pos; have m2 := b.size_pos; have m3 := c.size_pos; have m4 := d.size_pos
    have z := shw_tup (h := 2 * max (max a.dp b.dp) (max c.dp d.dp)) (shwA_cons (shw_str six_w.2.2.1) (shwA_cons ((shw_code a h.1).mono (Nat.le_refl _) (by omega)) (shwA_cons ((shw_code b h.2.1).mono (Nat.le_refl _) (by omega)) (shwA_cons ((shw_code c h.2.2.1).mono (Nat.le_refl _) (by omega)) (shwA_cons ((shw_code d h.2.2.2).mono (Nat.le_refl _) (by omega)) shwA_nil)))))
    simp only [Code.toD, D.py, D.pys, Code.size, Code.dp]
    exact z.mono (by omega) (by omega)
  | .wth x a b, h => by
    simp only [Code.ok] at h
    have m1 := a.size_pos; have m2 := b.size_pos
    have z := shw_tup (h := 2 * max a.dp b.dp) (shwA_cons (shw_str six_w.2.2.2.1) (shwA_cons (shw_str h.1) (shwA_cons ((shw_code a h.2.1).mono (Nat.le_refl _) (by omega)) (shwA_cons ((shw_code b h.2.2).mono (Nat.le_refl _) (by omega)) shwA_nil))))
    simp only [Code.toD, D.py, D.pys, Code.size, Code.dp]
    exact z.mono (by omega) (by omega)
  | .app w f cs, h => by
    simp only [Code.ok] at h
    have y := shw_tup (shw_codes cs h.2)
    have hd : wOk (if w = true then ("work" : Str) else "call") = true := by cases w; exact six_w.2.2.2.2.2; exact six_w.2.2.2.2.1
    have z := shw_tup (h := 2 * Code.dps cs + 1) (shwA_cons (shw_str hd) (shwA_cons (shw_str h.1) (shwA_cons y shwA_nil)))
    simp only [Code.toD, D.py, D.pys, Code.size, Code.dp]
    exact z.mono (by omega) (by omega)
theorem shw_codes : ∀ cs : List Code, Code.oks cs → ShwA (40 * Code.sizes cs) (2 * Code.dps cs) (D.pys (Code.toDs cs))
  | [], _ => by simp only [Code.toDs, D.pys, Code.sizes, Code.dps]; exact shwA_nil
  | c :: cs, h => by
    simp only [Code.oks] at h
    have m1 := c.size_pos
    have z := shwA_cons (h := 2 * max c.dp (Code.dps cs)) ((shw_code c h.1).mono (Nat.le_refl _) (by omega)) ((shw_codes cs h.2).mono (Nat.le_refl _) (by omega))
    simp only [Code.toDs, D.pys, Code.sizes, Code.dps]
    exact z.mono (by omega) (Nat.le_refl _)
end
/-! ### in order, by the law's own sort -/
theorem growsC {c : Code} {os : List Code} {κ : D → Prop} (B : Bool) (hB : B = true ↔ c ∈ os) (h0 : c ∈ os → κ (.lst (Code.toDs os))) (h1 : c ∉ os → κ (.lst (Code.toDs (os ++ [c])))) (hl : os.length < 2 ^ 20) :
    ((-2 ^ 63 ≤ if B = false then (1 : Int) else 0) ∧ (if B = false then (1 : Int) else 0) < 2 ^ 63) ∧ 1 * (if B = false then (1 : Int) else 0).toNat ≤ sizeLine ∧
      (Code.toDs os).length + (List.replicate (if B = false then (1 : Int) else 0).toNat [c.toD]).flatten.length ≤ sizeLine ∧ κ (.lst (Code.toDs os ++ (List.replicate (if B = false then (1 : Int) else 0).toNat [c.toD]).flatten)) := by
  have hs : sizeLine = 16777216 := sizeLine_eq
  cases B with
  | true =>
    have e : Code.toDs os ++ (List.replicate (if true = false then (1 : Int) else 0).toNat [c.toD]).flatten = Code.toDs os := by simp
    rw [e]
    exact ⟨by simp, by simp, by simp [toDs_len]; omega, h0 (hB.mp rfl)⟩
  | false =>
    have e : Code.toDs os ++ (List.replicate (if false = false then (1 : Int) else 0).toNat [c.toD]).flatten = Code.toDs (os ++ [c]) := by simp [toDs_map]
    rw [e]
    exact ⟨by simp, by simp; omega, by simp [toDs_len]; omega, h1 fun z => by have := hB.mpr z; cases this⟩
theorem in_codes {c : Code} {os : List Code} (hc : Trm 4 (2 ^ 12) c) (ho : ∀ e ∈ os, e.ok) : inOk c.toD (Code.toDs os) := ⟨c.lay hc.o, lays_of ho, by have := c.deepd; have := hc.d; omega⟩
theorem comp_fnC {i : Nat} {te : TD} {ρ : List Sl} {g : Code → D} {k : List D → Prop} {cs : List Code} (h : ∀ c ∈ cs, ∀ κ : D → Prop, κ (g c) → te (ρ.set i (.dat c.toD)) κ) (hk : k (cs.map g)) : compT (.nm i) yesT te ρ (Code.toDs cs) [] k := by
  rw [toDs_map]
  exact comp_fn h hk
noncomputable def R_lord : RD := fun ds k => ∃ cs : List Code, ds = [.lst (Code.toDs cs)] ∧ (∀ c ∈ cs, Trm 4 (2 ^ 12) c) ∧ cs.length < 2 ^ 16 ∧ ∀ os, IsOrd os cs → k (.lst (Code.toDs os))
open PySem.SeqAt SrtO in
theorem p_ordered : ∀ ds κ, R_lord ds κ → t_L_ordered (R_parts 60) (endD κ) (enterS 4 ds) := by
  have hs : sizeLine = 16777216 := sizeLine_eq
  rintro ds κ ⟨cs, rfl, hc, hl, h⟩
  unfold t_L_ordered
  walk_at "dl"
  simp only [sortPF]
  walk_at "dl"
  refine ⟨by omega, by rw [toDs_len]; omega, ?_⟩
  refine comp_fnC (g := fun c : Code => pairOf (prD c)) (fun c hm κ' q => ?_) ?_
  · have ht := hc c hm
    have := ht.d; have := ht.s
    walk_at "dl"
    refine ⟨c, rfl, by omega, by omega, ?_⟩
    walk_at "dl"
    rw [toDs_len, parts_len]
    first
      | exact ⟨by omega, q⟩
      | exact ⟨by omega, by omega, q⟩
      | exact q
  · refine ⟨cs.map prD, by rw [List.map_map]; rfl, fun p hp => ?_, fun p hp p' hp' _ => ?_, fun qs h1 h2 => ?_⟩
    · obtain ⟨c, hm, rfl⟩ := List.mem_map.mp hp
      exact (ordd_code (hc c hm)).1
    · obtain ⟨c, hm, rfl⟩ := List.mem_map.mp hp
      obtain ⟨e, hm', rfl⟩ := List.mem_map.mp hp'
      exact cmp_code c e (hc c hm).t (hc e hm').t
    · obtain ⟨as, rfl, ha⟩ := prD_list (cs := cs) (qs := qs) fun q hq => by
        obtain ⟨c, hm, rfl⟩ := List.mem_map.mp (h2.perm.mem_iff.mp hq)
        exact ⟨c, hm, rfl⟩
      have hm : ∀ c, c ∈ as ↔ c ∈ cs := fun c => ⟨ha c, fun hm => by
        obtain ⟨e, he, e2⟩ := List.mem_map.mp (h2.perm.mem_iff.mpr (List.mem_map.mpr ⟨c, hm, rfl⟩))
        exact prD_inj e2 ▸ he⟩
      have hlen : as.length = cs.length := by
        have := h2.perm.length_eq
        rwa [List.length_map, List.length_map] at this
      have hsrt : as.Pairwise fun c e => ltPD (prD e) (prD c) = false := List.pairwise_map.mp h1
      refine loopT_ind (I := fun rest ρ => ∃ (done rs os : List Code) (s2 s3 : Sl), rest = (rs.map prD).map pairOf ∧ as = done ++ rs ∧ ρ = [.dat (.lst (Code.toDs cs)), .dat (.lst (Code.toDs os)), s2, s3] ∧ os.Sublist done ∧ os.Nodup ∧ ∀ c, c ∈ os ↔ c ∈ done) ?_ ?_ ⟨[], as, [], _, _, rfl, rfl, rfl, List.Sublist.refl _, List.nodup_nil, fun c => Iff.rfl⟩
      · rintro ρ ⟨done, rs, os, s2, s3, e, e2, rfl, h3, h4, h5⟩
        have : rs = [] := by
          cases rs with
          | nil => rfl
          | cons a l => cases e
        subst this
        rw [List.append_nil] at e2
        subst e2
        walk_at "dl"
        exact h os ⟨hsrt.sublist h3, h4, fun c => (h5 c).trans (hm c)⟩
      · rintro d rest ρ N hN ⟨done, rs, os, s2, s3, e, e2, rfl, h3, h4, h5⟩
        cases rs with
        | nil => cases e
        | cons c rs =>
          simp only [List.map_cons] at e
          obtain ⟨rfl, rfl⟩ := List.cons.inj e
          have hin : c ∈ as := by rw [e2]; simp
          have ht := hc c (ha c hin)
          have hos : ∀ e ∈ os, e ∈ cs := fun e he => ha e (by rw [e2]; exact List.mem_append_left _ ((h5 e).mp he))
          have lo : os.length ≤ cs.length := by
            have := h3.length_le
            have e3 := congrArg List.length e2
            rw [List.length_append] at e3
            omega
          simp only [pairOf, prD]
          walk_at "dl"
          refine ⟨by omega, in_codes ht fun e he => (hc e (hos e he)).o, growsC (κ := fun d => N [.dat (.lst (Code.toDs cs)), .dat d, .dat c.toD, .dat (.int (c.size : Nat))]) _ (any_code ht.t fun e he => (hc e (hos e he)).t) (fun q => ?_) (fun q => ?_) (by omega)⟩
          · refine hN _ ⟨done ++ [c], rs, os, _, _, rfl, by rw [e2]; simp, rfl, h3.trans (List.sublist_append_left _ _), h4, fun x => ?_⟩
            rw [h5, List.mem_append, List.mem_singleton]
            exact ⟨.inl, fun z => z.elim _root_.id fun w => w ▸ (h5 c).mp q⟩
          · refine hN _ ⟨done ++ [c], rs, os ++ [c], _, _, rfl, by rw [e2]; simp, rfl, h3.append (List.Sublist.refl _), List.nodup_append.mpr ⟨h4, by simp, fun a h6 b h7 z => by rw [List.mem_singleton.mp h7] at z; exact q (z ▸ h6)⟩, fun x => ?_⟩
            rw [List.mem_append, List.mem_append, h5]
noncomputable def R_isp : RD := fun ds k => ∃ c e : Code, ds = [c.toD, e.toD] ∧ Trm 4 (2 ^ 12) c ∧ Trm 4 (2 ^ 12) e ∧ k (.bl ((Code.toDs e.parts).any fun z => PyData.eqv z.py c.toD.py))
theorem p_is_part : ∀ ds κ, R_isp ds κ → t_is_part (R_parts 60) (endD κ) (enterS 2 ds) := by
  have hs : sizeLine = 16777216 := sizeLine_eq
  rintro ds κ ⟨c, e, rfl, hc, he, h⟩
  have := he.d; have := he.s
  unfold t_is_part
  walk_at "dl"
  refine ⟨e, rfl, by omega, by omega, ?_⟩
  walk_at "dl"
  exact ⟨in_codes hc fun p hp => (he.part p hp).o, h⟩
/-! ### alike -/
structure RepOk (x : D) : Prop where
  l : x.py.canLay0 = true
  s : x.py.showable = true
  d : x.py.depth ≤ 140
  k : x.py.shown.length ≤ sizeLine
theorem RepOk.of {x : D} {b h : Nat} (l : x.py.canLay0 = true) (s : Shw b h x.py) (hb : b ≤ 399000) (hh : h ≤ 140) : RepOk x := by
  have hs : sizeLine = 16777216 := sizeLine_eq
  have h1 := PyData.shown_le_bulk 40 (by omega) x.py s.l
  have h2 := s.k
  have h4 : (40 + 2) * x.py.bulk ≤ 42 * 399000 := Nat.mul_le_mul (Nat.le_refl _) (by omega)
  exact ⟨l, s.s, Nat.le_trans s.d hh, by omega⟩
noncomputable def R_alike : RD := fun ds k => (∃ l : List D, ds = [.lst l, .lst l] ∧ RepOk (.lst l) ∧ k (.bl true)) ∨ ∃ b : Bool, ds = [.bl b, .bl b] ∧ k (.bl true)
theorem p_alike : ∀ ds κ, R_alike ds κ → t_L_alike (endD κ) (enterS 2 ds) := by
  have hs : sizeLine = 16777216 := sizeLine_eq
  rintro ds κ (⟨l, rfl, x, q⟩ | ⟨b, rfl, q⟩)
  · have ee := PySem.SeqAt.eqv_refl _ x.l
    have hr : (D.lst l).py.canLay0 = true ∧ (D.lst l).py.showable = true ∧ (D.lst l).py.depth ≤ 140 ∧ (D.lst l).py.shown.length ≤ sizeLine := ⟨x.l, x.s, x.d, x.k⟩
    unfold t_L_alike
    walk_at "dl"
    refine ⟨⟨x.l, x.l, by have := hr.2.2.1; omega⟩, ?_⟩
    rw [ee, if_pos rfl]
    simp only [reprR]
    refine ⟨hr, hr, ?_⟩
    walk_at "dl"
    exact q
  · unfold t_L_alike
    walk_at "dl"
    simp only [reprR]
    have hr : (D.bl b).py.canLay0 = true ∧ (D.bl b).py.showable = true ∧ (D.bl b).py.depth ≤ 140 ∧ (D.bl b).py.shown.length ≤ sizeLine := by
      cases b <;> (refine ⟨rfl, rfl, by simp [D.py, PyData.depth], ?_⟩; rw [hs]; decide +kernel)
    first
      | exact ⟨hr, hr, by walk_at "dl"; exact q⟩
      | (cases b <;> (walk_at "dl"; exact ⟨hr, hr, q⟩))
/-! ### dicts from names to terms -/
theorem merge_pD : ∀ (rest done : List (Str × Code)), ((done ++ rest).map (·.1)).Nodup → mergeD (pD done) (pD rest) = pD (done ++ rest)
  | [], done, _ => by rw [List.append_nil]; rfl
  | (x, c) :: rest, done, h => by
    have e : done ++ (x, c) :: rest = (done ++ [(x, c)]) ++ rest := by simp
    have hx : x ∉ done.map (·.1) := fun z => by
      rw [List.map_append, List.nodup_append] at h
      exact h.2.2 x z x (by simp) rfl
    rw [e] at h ⊢
    rw [← merge_pD rest _ h, ← putD_pD hx]
    rfl
theorem dict_pD {ps : List (Str × Code)} {κ : D → Prop} (hn : (ps.map (·.1)).Nodup) (h : κ (.dic false (pD ps))) : dictR [.lst ((pD ps).map tupE)] κ := by
  refine ⟨pD ps, rfl, fun e he => ?_, ?_⟩
  · obtain ⟨p, _, rfl⟩ := List.mem_map.mp he
    rfl
  · have := merge_pD ps [] (by simpa using hn)
    rw [List.nil_append] at this
    rw [show mergeD [] (pD ps) = pD ps from this]
    exact h
/-- what a dict of terms is -/
structure GvOk (ps : List (Str × Code)) : Prop where
  n : (ps.map (·.1)).Nodup
  w : ∀ p ∈ ps, wOk p.1 = true
  c : ∀ p ∈ ps, Trm 2 4 p.2
  l : ps.length ≤ 3
theorem tups_out {ds es : List D} (h : All2 (fun d e => ∃ (w : Str) (c : Code), d = .str w ∧ e = .tup [.str w, c.toD] ∧ Trm 2 4 c) ds es) : ∃ ps : List (Str × Code), es = (pD ps).map tupE ∧ ds = ps.map (fun p => .str p.1) ∧ ∀ p ∈ ps, Trm 2 4 p.2 := by
  induction h with
  | nil => exact ⟨[], rfl, rfl, fun _ z => nomatch z⟩
  | cons hr _ ih =>
    obtain ⟨w, c, rfl, rfl, hc⟩ := hr
    obtain ⟨ps, rfl, rfl, hp⟩ := ih
    exact ⟨(w, c) :: ps, rfl, rfl, fun p hp' => (List.mem_cons.mp hp').elim (fun z => z ▸ hc) (hp p)⟩
theorem strs_inj {as bs : List Str} (h : as.map D.str = bs.map D.str) : as = bs := by
  induction as generalizing bs with
  | nil => cases bs with
    | nil => rfl
    | cons b bs => cases h
  | cons a as ih => cases bs with
    | nil => cases h
    | cons b bs =>
      simp only [List.map_cons, List.cons.injEq, D.str.injEq] at h
      rw [h.1, ih h.2]
theorem tupE_inj {p q : Str × Code} (h : tupE (.str p.1, p.2.toD) = tupE (.str q.1, q.2.toD)) : p = q := by
  simp only [tupE, D.tup.injEq, List.cons.injEq, D.str.injEq, and_true] at h
  exact Prod.ext h.1 (toD_inj _ _ h.2)
theorem mixed_pD {ps : List (Str × Code)} (h : GvOk ps) {ys : List D} (hy : ∀ y, y ∈ ys ↔ y ∈ (pD ps).map tupE) (hl : ys.length = ((pD ps).map tupE).length) : ∃ qs, ys = (pD qs).map tupE ∧ GvOk qs := by
  classical
  have : ∀ zs : List D, (∀ z ∈ zs, z ∈ ys) → ∃ qs : List (Str × Code), zs = (pD qs).map tupE ∧ ∀ q ∈ qs, q ∈ ps := by
    intro zs
    induction zs with
    | nil => exact fun _ => ⟨[], rfl, fun _ z => nomatch z⟩
    | cons z zs ih =>
      intro hz
      obtain ⟨qs, rfl, hq⟩ := ih fun w hw => hz w (List.mem_cons_of_mem _ hw)
      have := (hy z).mp (hz z List.mem_cons_self)
      unfold pD at this
      rw [List.map_map] at this
      obtain ⟨p, hp, rfl⟩ := List.mem_map.mp this
      exact ⟨p :: qs, rfl, fun q hq' => (List.mem_cons.mp hq').elim (fun e => e ▸ hp) (hq q)⟩
  obtain ⟨qs, rfl, hq⟩ := this ys fun _ h => h
  have pn : ps.Nodup := (List.pairwise_map.mp h.n).imp fun q e => q (congrArg Prod.fst e)
  simp only [List.length_map] at hl
  have perm : qs.Perm ps := DMS.perm_of pn (fun p hp => by
    have := (hy (tupE (.str p.1, p.2.toD))).mpr (List.mem_map.mpr ⟨_, List.mem_map.mpr ⟨p, hp, rfl⟩, rfl⟩)
    obtain ⟨e, he, e2⟩ := List.mem_map.mp this
    obtain ⟨q, hq', rfl⟩ := List.mem_map.mp he
    exact tupE_inj e2 ▸ hq') (by omega)
  exact ⟨qs, rfl, ⟨(perm.map _).symm.nodup h.n, fun p hp => h.w p (hq p hp), fun p hp => h.c p (hq p hp), by rw [hl]; exact h.l⟩⟩
theorem evp_ok {ps : List (Str × Code)} (h : GvOk ps) {x : Str} (hx : wOk x = true) : Trm 2 4 (evp ps x) := by
  have key : ∀ ps : List (Str × Code), (∀ p ∈ ps, Trm 2 4 p.2) → Trm 2 4 ((lk ps x).getD (.nm x)) := by
    intro ps
    induction ps with
    | nil => exact fun _ => ⟨by simp only [lk, Option.getD_none, Code.ok]; exact hx, by simp only [lk, Option.getD_none, Code.isT], by simp [lk, Code.dp], by simp [lk, Code.size]⟩
    | cons p ps ih =>
      obtain ⟨y, c⟩ := p
      intro hp
      rw [lk_cons]
      split
      · exact hp _ List.mem_cons_self
      · exact ih fun q hq => hp q (List.mem_cons_of_mem _ hq)
  exact key ps h.c
theorem evp_dp {ps : List (Str × Code)} (h : GvOk ps) (x : Str) : (evp ps x).dp ≤ 2 := by
  have key : ∀ ps : List (Str × Code), (∀ p ∈ ps, Trm 2 4 p.2) → ((lk ps x).getD (.nm x)).dp ≤ 2 := by
    intro ps
    induction ps with
    | nil => exact fun _ => by simp [lk, Code.dp]
    | cons p ps ih =>
      obtain ⟨y, c⟩ := p
      intro hp
      rw [lk_cons]
      split
      · exact (hp _ List.mem_cons_self).d
      · exact ih fun q hq => hp q (List.mem_cons_of_mem _ hq)
  exact key ps h.c
mutual
theorem out_ok {s : Env} (hs : ∀ x, wOk x = true → (s x).ok ∧ (s x).size ≤ 4) : ∀ c : Code, c.ok → c.isT → (c.out s).ok ∧ (c.out s).size ≤ 4 * c.size
  | .nm x, h, _ => by
    simp only [Code.ok] at h
    simp only [Code.out, Code.size]
    exact ⟨(hs x h).1, by have := (hs x h).2; omega⟩
  | .gv i, h, _ => by simp only [Code.out, Code.size]; exact ⟨h, by omega⟩
  | .app w f cs, h, t => by
    simp only [Code.ok] at h
    simp only [Code.isT] at t
    have := outs_ok hs cs h.2 t.2
    simp only [Code.out, Code.size, Code.ok]
    exact ⟨⟨h.1, this.1⟩, by omega⟩
  | .ite _ _ _ _, _, t => by simp [Code.isT] at t
  | .wth _ _ _, _, t => by simp [Code.isT] at t
theorem outs_ok {s : Env} (hs : ∀ x, wOk x = true → (s x).ok ∧ (s x).size ≤ 4) : ∀ cs : List Code, Code.oks cs → Code.isTs cs → Code.oks (Code.outs cs s) ∧ Code.sizes (Code.outs cs s) ≤ 4 * Code.sizes cs
  | [], _, _ => by simp [Code.outs, Code.oks, Code.sizes]
  | c :: cs, h, t => by
    simp only [Code.oks] at h
    simp only [Code.isTs] at t
    have h1 := out_ok hs c h.1 t.1
    have h2 := outs_ok hs cs h.2 t.2
    simp only [Code.outs, Code.oks, Code.sizes]
    exact ⟨⟨h1.1, h2.1⟩, by omega⟩
end
/-! ### what is due, and how it is shown -/
theorem ord_len {os cs : List Code} (h : IsOrd os cs) : os.length ≤ cs.length := DPS.nd_le h.n fun x hx => (h.m x).mp hx
theorem shw_terms {n m : Nat} {os : List Code} (h : ∀ c ∈ os, Trm n m c) : ShwA ((40 * m) * os.length) (2 * n) (D.pys (Code.toDs os)) := by
  by_cases hm : m = 0
  · have : os = [] := by
      cases os with
      | nil => rfl
      | cons c os =>
        have := (h c List.mem_cons_self).s
        have := c.size_pos
        omega
    subst this
    simp only [Code.toDs, D.pys]
    exact shwA_nil.mono (by omega) (Nat.le_refl _)
  · have z := shwA_map (f := fun c : Code => c.toD.py) (b := 40 * m - 1) (h := 2 * n) (l := os) fun c hc => by
      have ht := h c hc
      have := ht.s
      have := ht.d
      exact (shw_code c ht.o).mono (by omega) (by omega)
    rw [toDs_map, pys_map, List.map_map]
    exact z.mono (by rw [show 40 * m - 1 + 1 = 40 * m by omega]; exact Nat.le_refl _) (Nat.le_refl _)
theorem due_ok {os1 os2 : List Code} {c : Code} {ps : List (Str × Code)} (h1 : ∀ c ∈ os1, Trm 4 40 c) (h2 : ∀ c ∈ os2, Trm 4 40 c) (l1 : os1.length ≤ 40) (l2 : os2.length ≤ 200) (hc : Trm 4 40 c) (hg : GvOk ps) : RepOk (.lst [.lst (Code.toDs os1), .lst (Code.toDs os2), (c.out (evp ps)).toD]) := by
  obtain ⟨o1, o2⟩ := out_ok (s := evp ps) (fun x hx => ⟨(evp_ok hg hx).o, (evp_ok hg hx).s⟩) c hc.o hc.t
  have := hc.s
  have dd := out_dp c (evp ps) 2 (evp_dp hg)
  have dw := wt_size c
  refine RepOk.of (b := 399000) (h := 140) ?_ ?_ (Nat.le_refl _) (Nat.le_refl _)
  · simp only [D.py, D.pys, PyData.canLay0, PyData.canLayAll0, lays_of fun c hc => (h1 c hc).o, lays_of fun c hc => (h2 c hc).o, Code.lay _ o1, Bool.and_self]
  · have a1 := shw_terms h1
    have a2 := shw_terms h2
    have a3 := shw_code _ o1
    have z' := shw_lst (h := 139) (shwA_cons ((shw_lst a1).mono (b := _) (c := 64000) (by omega) (by omega)) (shwA_cons ((shw_lst a2).mono (b := _) (c := 320000) (by omega) (by omega)) (shwA_cons (a3.mono (c := 6400) (by omega) (by omega)) shwA_nil)))
    simp only [D.py, D.pys]
    exact z'.mono (by omega) (by omega)
/-- the terms and the dict, as they are shown -/
structure ShowOk (x : D) : Prop where
  o : x.okW = true
  s : x.pw.showable = true
  d : x.pw.depth ≤ 140
  k : x.pw.shown.length ≤ sizeLine
theorem okW_fla : ∀ ds : List D, D.flaL ds = true → D.okL ds = true := by
  have one : ∀ d : D, d.fla = true → d.okW = true := fun d h => by
    have : (D.okL [d]) = true := by
      exact (DL.D.rec (motive_1 := fun d => d.fla = true → D.okL [d] = true) (motive_2 := fun ds => D.flaL ds = true → D.okL ds = true) (motive_3 := fun _ => True) (motive_4 := fun _ => True) (motive_5 := fun _ => True) (motive_6 := fun _ => True)
        (fun _ => rfl) (fun _ _ => rfl) (fun _ _ => rfl) (fun _ _ => rfl) (fun _ _ h => by simp [D.fla] at h) (fun ds ih h => by simp only [D.fla] at h; simp only [D.okL, D.okW, ih h, Bool.and_self]) (fun _ _ _ h => by simp [D.fla] at h) (fun _ _ _ h => by simp [D.fla] at h) (fun h => by simp [D.fla] at h) (fun _ h => by simp [D.fla] at h) (fun _ _ h => by simp [D.fla] at h) (fun _ _ _ h => by simp [D.fla] at h)
        (fun _ => rfl) (fun d ds h1 h2 h => by simp only [D.flaL, Bool.and_eq_true] at h; have := h1 h.1; simp only [D.okL, Bool.and_true] at this ⊢; rw [this, h2 h.2]; rfl) True.intro (fun _ _ _ _ => True.intro) True.intro (fun _ _ _ _ => True.intro) (fun _ _ _ _ => True.intro) (fun _ _ _ => True.intro) d) h
    simpa [D.okL] using this
  intro ds
  induction ds with
  | nil => exact fun _ => rfl
  | cons d ds ih =>
    intro h
    simp only [D.flaL, Bool.and_eq_true] at h
    simp only [D.okL, one d h.1, ih h.2, Bool.and_self]
theorem okW_code (c : Code) : c.toD.okW = true := by
  have := okW_fla [c.toD] (by simp only [D.flaL, c.flc, Bool.and_self])
  simpa [D.okL] using this
theorem okP_pD : ∀ ps : List (Str × Code), D.okP (pD ps) = true
  | [] => rfl
  | p :: ps => by
    have := okP_pD ps
    simp only [pD] at this
    simp only [pD, List.map_cons, D.okP, okW_code, this, Bool.and_self]
theorem shw_pD : ∀ ps : List (Str × Code), (∀ p ∈ ps, wOk p.1 = true) → (∀ p ∈ ps, Trm 2 4 p.2) → ShwK (200 * ps.length) 4 (D.pwP (pD ps))
  | [], _, _ => shwK_nil
  | (x, c) :: ps, hw, hc => by
    have ih := shw_pD ps (fun p hp => hw p (List.mem_cons_of_mem _ hp)) fun p hp => hc p (List.mem_cons_of_mem _ hp)
    have ht := hc _ List.mem_cons_self
    have hs := ht.s
    have hd := ht.d
    have a := shw_code c ht.o
    have z := shwK_cons (h := 4) ((shw_str (h := 0) (hw _ List.mem_cons_self)).mono (c := 8) (Nat.le_refl _) (by omega)) (a.mono (c := 160) (g := 4) (by simp only at hs; omega) (by simp only at hd; omega)) ih
    simp only [pD, List.map_cons, D.pwP, D.pw, pw_py _ c.flc]
    exact z.mono (by rw [List.length_cons]; omega) (Nat.le_refl _)
theorem show_ok {cs : List Code} {ps : List (Str × Code)} (h : ∀ c ∈ cs, Trm 4 40 c) (hl : cs.length ≤ 10) (hg : GvOk ps) : ShowOk (.lst [.lst (Code.toDs cs), .dic false (pD ps)]) := by
  have hs : sizeLine = 16777216 := sizeLine_eq
  have a := shw_terms h
  have b := shw_pD ps hg.w hg.c
  have := hg.l
  have fl : D.flaL (Code.toDs cs) = true := Code.flcs cs
  have z := shw_lst (h := 20) (shwA_cons ((shw_lst a).mono (c := 20000) (by omega) (by omega)) (shwA_cons ((shw_dic b).mono (c := 1000) (by omega) (by omega)) shwA_nil))
  have e : (D.lst [.lst (Code.toDs cs), .dic false (pD ps)]).pw = .list [.list (D.pys (Code.toDs cs)), .dict (D.pwP (pD ps))] := by
    simp only [D.pw, D.pwL, pws_pys _ fl]
  have x : Shw 30000 21 (D.lst [.lst (Code.toDs cs), .dic false (pD ps)]).pw := by
    rw [e]
    exact z.mono (by omega) (Nat.le_refl _)
  have h1 := PyData.shown_le_bulk 40 (by omega) _ x.l
  have h2 := x.k
  have h4 : (40 + 2) * (D.lst [.lst (Code.toDs cs), .dic false (pD ps)]).pw.bulk ≤ 42 * 30000 := Nat.mul_le_mul (Nat.le_refl _) (by omega)
  exact ⟨by simp only [D.okW, D.okL, okW_fla _ fl, okP_pD, Bool.and_self, Bool.not_false], x.s, Nat.le_trans x.d (by omega), by omega⟩
/-! ### the law -/
noncomputable abbrev l1 : TSD := (setT 3 (callT R_words (consA (nameT 1) (consA (DL.binT addD (cT (.int 1)) (callT R_take (consA (nameT 1) (consA (cT (.int 4)) nilA)))) nilA))))
noncomputable abbrev l2 : TSD := (setT 5 (ofF (lcF (.nm 4) (rng1I (consA (DL.binT addD (cT (.int 1)) (callT R_take (consA (nameT 1) (consA (cT (.int 4)) nilA)))) nilA)) yesT (callT (R_term 4) (consA (nameT 1) (consA (nameT 3) (consA (cT (.int 2)) (consA (cT (.int 3)) nilA))))) [4])))
noncomputable abbrev l3 : TSD := (setT 5 (DL.binT addD (nameT 5) (slT slD (nameT 5) noneO (someO (callT R_take (consA (nameT 1) (consA (cT (.int 2)) nilA)))))))
noncomputable abbrev l4 : TSD := (setT 6 (ofF (lstF nilA)))
noncomputable abbrev l5 : TSD := (forT (.nm 7) (seqI (nameT 5)) (setT 6 (DL.binT addD (nameT 6) (callT (R_parts 60) (consA (nameT 7) nilA)))))
noncomputable abbrev l6 : TSD := (setT 8 (callT dictR (consA (ofF (lcF (.nm 14) (seqI (slT slD (nameT 3) noneO (someO (callT R_take (consA (nameT 1) (consA (cT (.int 4)) nilA)))))) yesT (tupT (consA (nameT 14) (consA (callT (R_term 4) (consA (nameT 1) (consA (nameT 3) (consA (cT (.int 2)) (consA (cT (.int 1)) nilA))))) nilA))) [14])) nilA)))
noncomputable abbrev l7 : TSD := (setT 8 (callT dictR (consA (callT (R_mixed 16) (consA (nameT 1) (consA (ofF (itemsF (nameT 8))) nilA))) nilA)))
noncomputable abbrev l8 : TSD := (setT 9 (ofF (lstF (consA (callT R_lord (consA (callT (R_parts 60) (consA (DL.binT ixD (nameT 5) (cT (.int 0))) nilA)) nilA)) (consA (callT R_lord (consA (nameT 6) nilA)) (consA (callT (R_put 60) (consA (DL.binT ixD (nameT 5) (cT (.int 0))) (consA (nameT 8) nilA))) nilA))))))
noncomputable abbrev l9 : TSD := (setT 10 (callT reprW (consA (ofF (lstF (consA (nameT 5) (consA (nameT 8) nilA)))) nilA)))
noncomputable abbrev l10 : TSD := (forT (.nm 11) (rng1I (consA (cT (.int 3)) nilA)) (seqT (newR 12 (lstR' (consR (callRT R_tin (consA (DL.binT ixD (nameT 5) (cT (.int 0))) nilA)) (consR (callRT R_alt (consA (nameT 5) nilA)) (consR (datR (callT (R_put 60) (consA (DL.binT ixD (nameT 5) (cT (.int 0))) (consA (nameT 8) nilA)))) nilR))))) (seqT (iffT (thruB 12 (orB (notB (truT (callT R_alike (consA (nameT 12) (consA (nameT 9) nilA))))) (blT (DL.binT neD (callT reprW (consA (ofF (lstF (consA (nameT 5) (consA (nameT 8) nilA)))) nilA)) (nameT 10))))) (retT (cT (.bl false))) nextT) (seqT (appIx 12 0 (consA (cT .non) nilA)) (appIx 12 1 (consA (cT .non) nilA))))))
noncomputable abbrev l11 : TSD := (forT (.nm 4) (rng1I (consA (cT (.int 4)) nilA)) (seqT (setT 7 (callT R_some (consA (nameT 1) (consA (DL.binT addD (nameT 6) (ofF (lstF (consA (callT (R_term 4) (consA (nameT 1) (consA (nameT 3) (consA (cT (.int 2)) (consA (cT (.int 1)) nilA))))) nilA)))) nilA)))) (seqT (setT 13 (callT R_some (consA (nameT 1) (consA (nameT 5) nilA)))) (iffT (notB (truT (callT R_alike (consA (callT R_isp (consA (nameT 7) (consA (nameT 13) nilA))) (consA (DL.binT inD (nameT 7) (callT (R_parts 60) (consA (nameT 13) nilA))) nilA))))) (retT (cT (.bl false))) nextT))))
noncomputable abbrev lB : TSD := (seqT l1 (seqT l2 (seqT l3 (seqT l4 (seqT l5 (seqT l6 (seqT l7 (seqT l8 (seqT l9 (seqT l10 l11))))))))))
theorem law_eq : t_law R_take R_words (R_term 4) (R_parts 60) (R_mixed 16) (R_put 60) R_lord (R_put 60) R_alike R_some R_isp R_alt R_tin = seqT (forT (.nm 2) (rng1I (consA (cT (.int 6)) nilA)) lB) (retT (DL.binT e0D (datO (callRT R_alt (consA (ofF (lstF nilA)) nilA))) (ofF (lstF nilA)))) := rfl
noncomputable abbrev rho (s2 s3 s4 s5 s6 s7 s8 s9 s10 s11 s12 s13 s14 : Sl) : List Sl := [.un, .dat .bag, s2, s3, s4, s5, s6, s7, s8, s9, s10, s11, s12, s13, s14]
noncomputable abbrev sW (ws : List Str) : Sl := .dat (.lst (ws.map .str))
noncomputable abbrev sC (cs : List Code) : Sl := .dat (.lst (Code.toDs cs))
noncomputable abbrev sG (ps : List (Str × Code)) : Sl := .dat (.dic false (pD ps))
theorem tz_3 : tz 3 = 40 := by decide
theorem tz_1 : tz 1 = 4 := by decide
section
variable {k : DE} {s2 s3 s4 s5 s6 s7 s8 s9 s10 s11 s12 s13 s14 : Sl} {ws : List Str} {cs : List Code} {ps : List (Str × Code)}
theorem l1_ok (h : ∀ ws, WsOk ws → ws.Nodup → ws.length ≤ 4 → k.nx (rho s2 (sW ws) s4 s5 s6 s7 s8 s9 s10 s11 s12 s13 s14)) : l1 k (rho s2 s3 s4 s5 s6 s7 s8 s9 s10 s11 s12 s13 s14) := by
  have hs : sizeLine = 16777216 := sizeLine_eq
  unfold l1
  walk_at "dl"
  refine ⟨4, rfl, by omega, by omega, fun i i0 i4 => ?_⟩
  obtain ⟨a, rfl⟩ : ∃ a : Nat, i = a := ⟨i.toNat, by omega⟩
  walk_at "dl"
  refine ⟨1 + a, by rw [Int.natCast_add]; rfl, by omega, by omega, fun ws w1 w2 w3 => ?_⟩
  exact h ws ⟨w1, fun e => by rw [e] at w3; simp at w3; omega, by omega⟩ w2 (by omega)
theorem l2_ok (hw : WsOk ws) (h : ∀ cs : List Code, (∀ c ∈ cs, Trm 4 40 c) → cs ≠ [] → cs.length ≤ 4 → k.nx (rho s2 (sW ws) s4 (sC cs) s6 s7 s8 s9 s10 s11 s12 s13 s14)) : l2 k (rho s2 (sW ws) s4 s5 s6 s7 s8 s9 s10 s11 s12 s13 s14) := by
  have hs : sizeLine = 16777216 := sizeLine_eq
  unfold l2
  walk_at "dl"
  refine ⟨4, rfl, by omega, by omega, fun i i0 i4 => ?_⟩
  obtain ⟨a, rfl⟩ : ∃ a : Nat, i = a := ⟨i.toNat, by omega⟩
  walk_at "dl"
  rw [show (1 : Int) + (a : Int) = ((1 + a : Nat) : Int) by omega]
  refine ⟨by omega, by simp; omega, ?_⟩
  rw [Int.toNat_natCast]
  refine comp_any (n := 0) (P := fun c => Trm 4 40 c) (fun d κ' q => ?_) fun cs l p => ?_
  · walk_at "dl"
    exact ⟨ws, 2, 3, rfl, hw, by omega, by omega, by omega, fun c c1 c2 c3 => q c ⟨c1.o, c1.t, c2, by rw [tz_3] at c3; exact c3⟩⟩
  · exact h cs p (fun e => by rw [e] at l; simp at l; omega) (by omega)
theorem l3_ok (hc : ∀ c ∈ cs, Trm 4 40 c) (hn : cs ≠ []) (hl : cs.length ≤ 4) (h : ∀ cs : List Code, (∀ c ∈ cs, Trm 4 40 c) → cs ≠ [] → cs.length ≤ 5 → k.nx (rho s2 s3 s4 (sC cs) s6 s7 s8 s9 s10 s11 s12 s13 s14)) : l3 k (rho s2 s3 s4 (sC cs) s6 s7 s8 s9 s10 s11 s12 s13 s14) := by
  have hs : sizeLine = 16777216 := sizeLine_eq
  unfold l3
  walk_at "dl"
  refine ⟨2, rfl, by omega, by omega, fun i i0 i2 => ?_⟩
  obtain ⟨a, rfl⟩ : ∃ a : Nat, i = a := ⟨i.toNat, by omega⟩
  walk_at "dl"
  rw [cutL_to]
  have e : Code.toDs cs ++ (Code.toDs cs).take a = Code.toDs (cs ++ cs.take a) := by rw [toDs_map, toDs_map, List.map_append, List.map_take]
  rw [e]
  have lt : (Code.toDs cs).length = cs.length := toDs_len cs
  refine ⟨by rw [List.length_take]; omega, ?_⟩
  refine h _ (fun c hc' => ?_) (fun z => hn (List.append_eq_nil_iff.mp z).1) (by rw [List.length_append, List.length_take]; omega)
  rcases List.mem_append.mp hc' with z | z
  · exact hc c z
  · exact hc c (List.mem_of_mem_take z)
theorem l5_ok (hc : ∀ c ∈ cs, Trm 4 40 c) (hl : cs.length ≤ 5) (h : ∀ s7, k.nx (rho s2 s3 s4 (sC cs) (sC (Code.partss cs)) s7 s8 s9 s10 s11 s12 s13 s14)) : l4 { k with nx := l5 k } (rho s2 s3 s4 (sC cs) s6 s7 s8 s9 s10 s11 s12 s13 s14) := by
  have hs : sizeLine = 16777216 := sizeLine_eq
  unfold l4 l5
  walk_at "dl"
  refine ⟨by omega, ?_⟩
  refine loopT_ind (I := fun rest ρ => ∃ (done rs : List Code) (s7 : Sl), rest = Code.toDs rs ∧ cs = done ++ rs ∧ ρ = rho s2 s3 s4 (sC cs) (sC (Code.partss done)) s7 s8 s9 s10 s11 s12 s13 s14) ?_ ?_ ⟨[], cs, s7, rfl, rfl, by simp only [Code.partss, Code.toDs]; rfl⟩
  · rintro ρ ⟨done, rs, s7, e, e2, rfl⟩
    have : rs = [] := by
      cases rs with
      | nil => rfl
      | cons a l => simp only [Code.toDs] at e; cases e
    subst this
    rw [List.append_nil] at e2
    subst e2
    exact h s7
  · rintro d rest ρ N hN ⟨done, rs, s7, e, e2, rfl⟩
    cases rs with
    | nil => simp only [Code.toDs] at e; cases e
    | cons c rs =>
      simp only [Code.toDs] at e
      obtain ⟨rfl, rfl⟩ := List.cons.inj e
      have ht := hc c (by rw [e2]; simp)
      have := ht.d; have := ht.s
      have ld : Code.sizes done ≤ 5 * 40 := by
        have h1 := sizes_le (cs := done) (b := 40) fun c hc' => (hc c (by rw [e2]; simp [hc'])).s
        have h2 : done.length ≤ 5 := by
          have := congrArg List.length e2
          rw [List.length_append, List.length_cons] at this
          omega
        have : done.length * 40 ≤ 5 * 40 := Nat.mul_le_mul_right _ h2
        omega
      walk_at "dl"
      refine ⟨c, rfl, by omega, by omega, ?_⟩
      walk_at "dl"
      refine ⟨by rw [toDs_len, toDs_len, partss_len, parts_len]; omega, hN _ ⟨done ++ [c], rs, .dat c.toD, rfl, by rw [e2]; simp, ?_⟩⟩
      rw [toDs_app, partss_app]
      simp only [Code.partss, List.append_nil]
theorem l6_ok (hw : WsOk ws) (hn : ws.Nodup) (hl : ws.length ≤ 4) (h : ∀ ps, GvOk ps → k.nx (rho s2 (sW ws) s4 s5 s6 s7 (sG ps) s9 s10 s11 s12 s13 s14)) : l6 k (rho s2 (sW ws) s4 s5 s6 s7 s8 s9 s10 s11 s12 s13 s14) := by
  have hs : sizeLine = 16777216 := sizeLine_eq
  unfold l6
  walk_at "dl"
  refine ⟨4, rfl, by omega, by omega, fun i i0 i4 => ?_⟩
  obtain ⟨a, rfl⟩ : ∃ a : Nat, i = a := ⟨i.toNat, by omega⟩
  walk_at "dl"
  rw [cutL_to, ← List.map_take]
  refine ⟨by rw [List.length_map, List.length_take]; omega, ?_⟩
  refine compT_ind (R := fun d e => ∃ (w : Str) (c : Code), d = .str w ∧ e = .tup [.str w, c.toD] ∧ Trm 2 4 c) (fun d hd κ' q => ?_) fun es he => ?_
  · obtain ⟨w, hw', rfl⟩ := List.mem_map.mp hd
    walk_at "dl"
    refine ⟨ws, 2, 1, rfl, hw, by omega, by omega, by omega, fun c c1 c2 c3 => ⟨by omega, q _ ⟨w, c, rfl, rfl, c1.o, c1.t, c2, by rw [tz_1] at c3; exact c3⟩⟩⟩
  · obtain ⟨ps, rfl, e, hp⟩ := tups_out he
    have e2 : ws.take a = ps.map (·.1) := strs_inj (by rw [e, List.map_map]; rfl)
    have nd : (ps.map (·.1)).Nodup := by rw [← e2]; exact hn.sublist (List.take_sublist _ _)
    walk_at "dl"
    refine dict_pD nd (h ps ⟨nd, fun p hp' => ?_, hp, ?_⟩)
    · have : p.1 ∈ ws.take a := by rw [e2]; exact List.mem_map.mpr ⟨p, hp', rfl⟩
      exact hw.1 _ (List.mem_of_mem_take this)
    · have := congrArg List.length e2
      rw [List.length_take, List.length_map] at this
      omega
theorem l7_ok (hg : GvOk ps) (h : ∀ ps, GvOk ps → k.nx (rho s2 s3 s4 s5 s6 s7 (sG ps) s9 s10 s11 s12 s13 s14)) : l7 k (rho s2 s3 s4 s5 s6 s7 (sG ps) s9 s10 s11 s12 s13 s14) := by
  have hs : sizeLine = 16777216 := sizeLine_eq
  have := hg.l
  unfold l7
  walk_at "dl"
  simp only [itemsF]
  walk_at "dl"
  refine ⟨pD ps, rfl, _, .inl rfl, by rw [List.length_map, List.length_map]; omega, fun ys hy hl => ?_⟩
  obtain ⟨qs, rfl, hq⟩ := mixed_pD hg hy hl
  exact dict_pD hq.n (h qs hq)
end
/-! ### the law, its second half -/
theorem Trm.up {c : Code} (h : Trm 4 40 c) : Trm 4 (2 ^ 12) c := ⟨h.o, h.t, h.d, by have := h.s; omega⟩
theorem at0C {c : Code} {cs : List Code} : L2.atI (Code.toDs (c :: cs)) 0 = some c.toD := by
  simp only [Code.toDs]
  exact atI_0
noncomputable abbrev dueD (os1 os2 : List Code) (c : Code) (ps : List (Str × Code)) : D := .lst [.lst (Code.toDs os1), .lst (Code.toDs os2), (c.out (evp ps)).toD]
noncomputable abbrev shS (cs : List Code) (ps : List (Str × Code)) : Str := (D.lst [.lst (Code.toDs cs), .dic false (pD ps)]).pw.shown
section
variable {k : DE} {s2 s3 s4 s5 s6 s7 s8 s9 s10 s11 s12 s13 s14 : Sl} {ws : List Str} {cs : List Code} {c : Code} {ps : List (Str × Code)} {os1 os2 : List Code}
theorem partss_le (hc : ∀ c ∈ cs, Trm 4 40 c) (hl : cs.length ≤ 5) : (Code.partss cs).length ≤ 200 := by
  have h1 := sizes_le (cs := cs) (b := 40) fun c hc' => (hc c hc').s
  have : cs.length * 40 ≤ 5 * 40 := Nat.mul_le_mul_right _ hl
  rw [partss_len]
  omega
theorem l8_ok (hc : ∀ e ∈ c :: cs, Trm 4 40 e) (hl : (c :: cs).length ≤ 5) (h : ∀ os1 os2, IsOrd os1 c.parts → IsOrd os2 (Code.partss (c :: cs)) → k.nx (rho s2 s3 s4 (sC (c :: cs)) (sC (Code.partss (c :: cs))) s7 (sG ps) (.dat (dueD os1 os2 c ps)) s10 s11 s12 s13 s14)) :
    l8 k (rho s2 s3 s4 (sC (c :: cs)) (sC (Code.partss (c :: cs))) s7 (sG ps) s9 s10 s11 s12 s13 s14) := by
  have hs : sizeLine = 16777216 := sizeLine_eq
  have ht := hc c List.mem_cons_self
  have := ht.d; have := ht.s
  have pl := parts_len c
  have pp := partss_le hc hl
  unfold l8
  walk_at "dl"
  rw [at0C]
  simp only [optK_some]
  refine ⟨c, rfl, by omega, by omega, ?_⟩
  refine ⟨c.parts, rfl, ht.up.part, by omega, fun os1 o1 => ?_⟩
  refine ⟨Code.partss (c :: cs), rfl, Trm.parts fun e he => (hc e he).up, by omega, fun os2 o2 => ?_⟩
  refine ⟨c, ps, rfl, ht.t, by omega, by omega, ⟨by omega, ?_⟩⟩
  exact h os1 os2 o1 o2
theorem l9_ok (hc : ∀ e ∈ cs, Trm 4 40 e) (hl : cs.length ≤ 5) (hg : GvOk ps) (h : k.nx (rho s2 s3 s4 (sC cs) s6 s7 (sG ps) s9 (.dat (.str (shS cs ps))) s11 s12 s13 s14)) : l9 k (rho s2 s3 s4 (sC cs) s6 s7 (sG ps) s9 s10 s11 s12 s13 s14) := by
  have hs : sizeLine = 16777216 := sizeLine_eq
  have x := show_ok hc (by omega) hg
  unfold l9
  walk_at "dl"
  simp only [reprW]
  exact ⟨by omega, ⟨x.o, x.s, x.d, x.k⟩, h⟩
theorem l10_ok (hc : ∀ e ∈ c :: cs, Trm 4 40 e) (hl : (c :: cs).length ≤ 5) (hg : GvOk ps) (o1 : IsOrd os1 c.parts) (o2 : IsOrd os2 (Code.partss (c :: cs)))
    (h : ∀ s11 s12, k.nx (rho s2 s3 s4 (sC (c :: cs)) s6 s7 (sG ps) (.dat (dueD os1 os2 c ps)) (.dat (.str (shS (c :: cs) ps))) s11 s12 s13 s14)) :
    l10 k (rho s2 s3 s4 (sC (c :: cs)) s6 s7 (sG ps) (.dat (dueD os1 os2 c ps)) (.dat (.str (shS (c :: cs) ps))) s11 s12 s13 s14) := by
  have hs : sizeLine = 16777216 := sizeLine_eq
  have ht := hc c List.mem_cons_self
  have hd := ht.d; have hz := ht.s
  have x := show_ok hc (by omega) hg
  have t1 : ∀ e ∈ os1, Trm 4 40 e := fun e he => ht.part e ((o1.m e).mp he)
  have t2 : ∀ e ∈ os2, Trm 4 40 e := fun e he => Trm.parts hc e ((o2.m e).mp he)
  have n1 : os1.length ≤ 40 := Nat.le_trans (ord_len o1) (by rw [parts_len]; exact hz)
  have n2 : os2.length ≤ 200 := Nat.le_trans (ord_len o2) (partss_le hc hl)
  have rp := due_ok t1 t2 n1 n2 ht hg
  unfold l10
  walk_at "dl"
  refine ⟨by omega, ?_⟩
  refine loopT_ind (I := fun rest ρ => ∃ s11 s12, ρ = rho s2 s3 s4 (sC (c :: cs)) s6 s7 (sG ps) (.dat (dueD os1 os2 c ps)) (.dat (.str (shS (c :: cs) ps))) s11 s12 s13 s14) ?_ ?_ ⟨s11, s12, rfl⟩
  · rintro ρ ⟨s11, s12, rfl⟩
    exact h s11 s12
  · rintro d rest ρ N hN ⟨s11, s12, rfl⟩
    walk_at "dl"
    simp only [newR, lstR', consR, callRT, datR, nilR]
    walk_at "dl"
    rw [at0C]
    simp only [optK_some]
    refine ⟨c, rfl, ht.up, fun os1' o1' => ?_⟩
    obtain rfl := o1.same (fun e he => (ht.part e he).t) o1'
    refine ⟨c :: cs, rfl, fun e he => (hc e he).up, by omega, fun os2' o2' => ?_⟩
    obtain rfl := o2.same (fun e he => (Trm.parts hc e he).t) o2'
    refine ⟨c, ps, rfl, ht.t, by omega, by omega, ⟨by omega, ?_⟩⟩
    simp only [Tr.toD, Tr.toDs, toDs_d]
    refine .inl ⟨_, rfl, rp, ?_⟩
    walk_at "dl"
    simp only [reprW]
    refine ⟨by omega, ⟨x.o, x.s, x.d, x.k⟩, ?_⟩
    walk_at "dl"
    simp only [appIx]
    walk_at "dl"
    refine ⟨0, _, rfl, rfl, by rw [List.length_map, toDs_len]; omega, ?_⟩
    refine ⟨.non, rfl, ?_⟩
    walk_at "dl"
    refine ⟨1, _, rfl, rfl, by rw [List.length_map, toDs_len]; omega, ?_⟩
    exact ⟨.non, rfl, hN _ ⟨_, _, rfl⟩⟩
end
section
variable {k : DE} {s2 s3 s4 s5 s6 s7 s8 s9 s10 s11 s12 s13 s14 : Sl} {ws : List Str} {cs : List Code} {c : Code} {ps : List (Str × Code)}
theorem l11_ok (hw : WsOk ws) (hc : ∀ e ∈ c :: cs, Trm 4 40 e) (hl : (c :: cs).length ≤ 5)
    (h : ∀ s4 s7 s13, k.nx (rho s2 (sW ws) s4 (sC (c :: cs)) (sC (Code.partss (c :: cs))) s7 s8 s9 s10 s11 s12 s13 s14)) :
    l11 k (rho s2 (sW ws) s4 (sC (c :: cs)) (sC (Code.partss (c :: cs))) s7 s8 s9 s10 s11 s12 s13 s14) := by
  have hs : sizeLine = 16777216 := sizeLine_eq
  have pp := partss_le hc hl
  unfold l11
  walk_at "dl"
  refine ⟨by omega, ?_⟩
  refine loopT_ind (I := fun rest ρ => ∃ s4 s7 s13, ρ = rho s2 (sW ws) s4 (sC (c :: cs)) (sC (Code.partss (c :: cs))) s7 s8 s9 s10 s11 s12 s13 s14) ?_ ?_ ⟨s4, s7, s13, rfl⟩
  · rintro ρ ⟨s4, s7, s13, rfl⟩
    exact h s4 s7 s13
  · rintro d rest ρ N hN ⟨s4, s7, s13, rfl⟩
    walk_at "dl"
    refine ⟨ws, 2, 1, rfl, hw, by omega, by omega, by omega, fun c' c1 c2 c3 => ⟨by omega, by rw [toDs_len]; omega, ?_⟩⟩
    have e : Code.toDs (Code.partss (c :: cs)) ++ [c'.toD] = Code.toDs (Code.partss (c :: cs) ++ [c']) := by simp [toDs_map]
    rw [e]
    refine .inl ⟨_, rfl, fun z => ?_, by rw [toDs_len, List.length_append, List.length_singleton]; omega, fun x hx => ?_⟩
    · have := congrArg List.length z
      rw [toDs_len, List.length_append, List.length_singleton, List.length_nil] at this
      omega
    obtain ⟨x1, hx1, rfl⟩ := mem_toDs.mp hx
    have tx : Trm 4 40 x1 := by
      rcases List.mem_append.mp hx1 with z | z
      · exact Trm.parts hc x1 z
      · rw [List.mem_singleton.mp z]
        exact ⟨c1.o, c1.t, by omega, by rw [tz_1] at c3; omega⟩
    refine .inl ⟨_, rfl, fun z => by simp [Code.toDs] at z, by rw [toDs_len]; omega, fun y hy => ?_⟩
    obtain ⟨y1, hy1, rfl⟩ := mem_toDs.mp hy
    have ty := hc y1 hy1
    have := ty.d; have := ty.s
    refine ⟨x1, y1, rfl, tx.up, ty.up, ?_⟩
    refine ⟨y1, rfl, by omega, by omega, ?_⟩
    refine ⟨in_codes tx.up fun p hp => (ty.part p hp).o, ?_⟩
    refine .inr ⟨_, rfl, ?_⟩
    walk_at "dl"
    exact hN _ ⟨_, _, _, rfl⟩
end
theorem p_law : t_law R_take R_words (R_term 4) (R_parts 60) (R_mixed 16) (R_put 60) R_lord (R_put 60) R_alike R_some R_isp R_alt R_tin endLaw (.un :: .dat .bag :: List.replicate 13 .un) := by
  have hs : sizeLine = 16777216 := sizeLine_eq
  rw [law_eq]
  have body : ∀ (K : DE) (s2 s3 s4 s5 s6 s7 s8 s9 s10 s11 s12 s13 s14 : Sl), (∀ s3 s4 s5 s6 s7 s8 s9 s10 s11 s12 s13 s14, K.nx (rho s2 s3 s4 s5 s6 s7 s8 s9 s10 s11 s12 s13 s14)) → lB K (rho s2 s3 s4 s5 s6 s7 s8 s9 s10 s11 s12 s13 s14) := by
    intro K s2 s3 s4 s5 s6 s7 s8 s9 s10 s11 s12 s13 s14 q
    unfold lB
    simp only [seqT]
    refine l1_ok fun ws hw wn wl => ?_
    refine l2_ok hw fun cs hc hn hl => ?_
    refine l3_ok hc hn hl fun cs hc hn hl => ?_
    refine l5_ok hc hl fun s7 => ?_
    refine l6_ok hw wn wl fun ps hg => ?_
    refine l7_ok hg fun ps hg => ?_
    cases cs with
    | nil => exact absurd rfl hn
    | cons c cs =>
      refine l8_ok hc hl fun os1 os2 o1 o2 => ?_
      refine l9_ok hc hl hg ?_
      refine l10_ok hc hl hg o1 o2 fun s11 s12 => ?_
      exact l11_ok hw hc hl fun s4 s7 s13 => q _ _ _ _ _ _ _ _ _ _ _ _
  generalize lB = B at body ⊢
  walk_at "dl"
  refine ⟨by omega, ?_⟩
  refine loopT_ind (I := fun rest ρ => ∃ s2 s3 s4 s5 s6 s7 s8 s9 s10 s11 s12 s13 s14, ρ = rho s2 s3 s4 s5 s6 s7 s8 s9 s10 s11 s12 s13 s14) ?_ ?_ ⟨_, _, _, _, _, _, _, _, _, _, _, _, _, rfl⟩
  · rintro ρ ⟨s2, s3, s4, s5, s6, s7, s8, s9, s10, s11, s12, s13, s14, rfl⟩
    walk_at "dl"
    simp only [datO, callRT]
    walk_at "dl"
    refine ⟨by omega, [], by simp only [Code.toDs], (fun _ z => nomatch z), by simp, fun os ho => ?_⟩
    have : os = [] := by
      cases os with
      | nil => rfl
      | cons a l =>
        have := (ho.m a).mp List.mem_cons_self
        simp [Code.partss] at this
    subst this
    simp only [Tr.toD, Tr.toDs, Code.toDs, List.map_nil]
    simp only [e0D]
    first
      | rfl
      | exact ⟨by omega, rfl⟩
  · rintro d rest ρ N hN ⟨s2, s3, s4, s5, s6, s7, s8, s9, s10, s11, s12, s13, s14, rfl⟩
    walk_at "dl"
    exact body _ _ _ _ _ _ _ _ _ _ _ _ _ _ fun _ _ _ _ _ _ _ _ _ _ _ _ => hN _ ⟨_, _, _, _, _, _, _, _, _, _, _, _, _, rfl⟩
/-! ### facts as the chain asks them -/
/-! as many arguments -/
theorem usE1 {P : List Value → Prop} (h : ∀ a : Value, P [a]) : ∀ us : List Value, us.length = 1 → P us
  | [a], _ => h a
theorem usE2 {P : List Value → Prop} (h : ∀ a b : Value, P [a, b]) : ∀ us : List Value, us.length = 2 → P us
  | [a, b], _ => h a b
theorem usE3 {P : List Value → Prop} (h : ∀ a b c : Value, P [a, b, c]) : ∀ us : List Value, us.length = 3 → P us
  | [a, b, c], _ => h a b c
theorem usE4 {P : List Value → Prop} (h : ∀ a b c d : Value, P [a, b, c, d]) : ∀ us : List Value, us.length = 4 → P us
  | [a, b, c, d], _ => h a b c d
end K20
set_option Elab.async false
set_option linter.all false
set_option maxRecDepth 100000
set_option maxHeartbeats 4000000
namespace K20
open PySem L2 DL
theorem all_mk {l : PySem.W.OpenLaw} {w : World} {K : PySem.W.Frag} {h : Heap} {mg : Str → Option Value} {fa f1 f2 f3 f4 f5 f6 f7 f8 f9 f10 f11 f12 f13 f14 f15 f16 f17 f18 f19 f20 f21 f22 : Addr} (X : K.In h) (G : h.Ns mainGlobals mg) (hfa : mg "law" = some (.ref fa))
    {od1 an1 od2 an2 od3 an3 od4 an4 od5 an5 od6 an6 od7 an7 od8 an8 od9 an9 od10 an10 od11 an11 od12 an12 od13 an13 od14 an14 od15 an15 od16 an16 od17 an17 od18 an18 od19 an19 od20 an20 od21 an21 od22 an22 : Option Addr} {sl1 sl2 sl3 sl4 sl5 sl6 sl7 sl8 sl9 sl10 sl11 sl12 sl13 sl14 sl15 sl16 sl17 sl18 sl19 sl20 sl21 sl22 : Array (Option Value)} {oc1 kV1 dc1 pm1 cd1 ct1 oc2 kV2 dc2 pm2 cd2 ct2 oc3 kV3 dc3 pm3 cd3 ct3 oc4 kV4 dc4 pm4 cd4 ct4 oc5 kV5 dc5 pm5 cd5 ct5 oc6 kV6 dc6 pm6 cd6 ct6 oc7 kV7 dc7 pm7 cd7 ct7 oc8 kV8 dc8 pm8 cd8 ct8 oc9 kV9 dc9 pm9 cd9 ct9 oc10 kV10 dc10 pm10 cd10 ct10 oc11 kV11 dc11 pm11 cd11 ct11 oc12 kV12 dc12 pm12 cd12 ct12 oc13 kV13 dc13 pm13 cd13 ct13 oc14 kV14 dc14 pm14 cd14 ct14 oc15 kV15 dc15 pm15 cd15 ct15 oc16 kV16 dc16 pm16 cd16 ct16 oc17 kV17 dc17 pm17 cd17 ct17 oc18 kV18 dc18 pm18 cd18 ct18 oc19 kV19 dc19 pm19 cd19 ct19 oc20 kV20 dc20 pm20 cd20 ct20 oc21 kV21 dc21 pm21 cd21 ct21 oc22 kV22 dc22 pm22 cd22 ct22 : Value}
    (a1 : PySem.W.nsIn K mainGlobals "codes_within" = some (some (.ref f1))) (l1 : K.lookup f1 = some ⟨oc1, od1, .func (PySem.W.fnOf "codes_within" "codes_within" (defArgs s_codes_within) (defBody s_codes_within) (defScope s_codes_within) .none kV1 dc1 pm1 an1 cd1 ct1), sl1⟩) (c1 : PySem.W.codeIn K cd1 "codes_within" = true) (k1 : PySem.W.keepIn K (.ref f1) = true)
    (a2 : PySem.W.nsIn K mainGlobals "with_codes" = some (some (.ref f2))) (l2 : K.lookup f2 = some ⟨oc2, od2, .func (PySem.W.fnOf "with_codes" "with_codes" (defArgs s_with_codes) (defBody s_with_codes) (defScope s_with_codes) .none kV2 dc2 pm2 an2 cd2 ct2), sl2⟩) (c2 : PySem.W.codeIn K cd2 "with_codes" = true) (k2 : PySem.W.keepIn K (.ref f2) = true)
    (a3 : PySem.W.nsIn K mainGlobals "all_parts" = some (some (.ref f3))) (l3 : K.lookup f3 = some ⟨oc3, od3, .func (PySem.W.fnOf "all_parts" "all_parts" (defArgs s_all_parts) (defBody s_all_parts) (defScope s_all_parts) .none kV3 dc3 pm3 an3 cd3 ct3), sl3⟩) (c3 : PySem.W.codeIn K cd3 "all_parts" = true) (k3 : PySem.W.keepIn K (.ref f3) = true)
    (a4 : PySem.W.nsIn K mainGlobals "size" = some (some (.ref f4))) (l4 : K.lookup f4 = some ⟨oc4, od4, .func (PySem.W.fnOf "size" "size" (defArgs s_size) (defBody s_size) (defScope s_size) .none kV4 dc4 pm4 an4 cd4 ct4), sl4⟩) (c4 : PySem.W.codeIn K cd4 "size" = true) (k4 : PySem.W.keepIn K (.ref f4) = true)
    (a5 : PySem.W.nsIn K mainGlobals "in_order" = some (some (.ref f5))) (l5 : K.lookup f5 = some ⟨oc5, od5, .func (PySem.W.fnOf "in_order" "in_order" (defArgs s_in_order) (defBody s_in_order) (defScope s_in_order) .none kV5 dc5 pm5 an5 cd5 ct5), sl5⟩) (c5 : PySem.W.codeIn K cd5 "in_order" = true) (k5 : PySem.W.keepIn K (.ref f5) = true)
    (a6 : PySem.W.nsIn K mainGlobals "terms_in" = some (some (.ref f6))) (l6 : K.lookup f6 = some ⟨oc6, od6, .func (PySem.W.fnOf "terms_in" "terms_in" (defArgs s_terms_in) (defBody s_terms_in) (defScope s_terms_in) .none kV6 dc6 pm6 an6 cd6 ct6), sl6⟩) (c6 : PySem.W.codeIn K cd6 "terms_in" = true) (k6 : PySem.W.keepIn K (.ref f6) = true)
    (a7 : PySem.W.nsIn K mainGlobals "all_terms" = some (some (.ref f7))) (l7 : K.lookup f7 = some ⟨oc7, od7, .func (PySem.W.fnOf "all_terms" "all_terms" (defArgs s_all_terms) (defBody s_all_terms) (defScope s_all_terms) .none kV7 dc7 pm7 an7 cd7 ct7), sl7⟩) (c7 : PySem.W.codeIn K cd7 "all_terms" = true) (k7 : PySem.W.keepIn K (.ref f7) = true)
    (a8 : PySem.W.nsIn K mainGlobals "put_terms" = some (some (.ref f8))) (l8 : K.lookup f8 = some ⟨oc8, od8, .func (PySem.W.fnOf "put_terms" "put_terms" (defArgs s_put_terms) (defBody s_put_terms) (defScope s_put_terms) .none kV8 dc8 pm8 an8 cd8 ct8), sl8⟩) (c8 : PySem.W.codeIn K cd8 "put_terms" = true) (k8 : PySem.W.keepIn K (.ref f8) = true)
    (a9 : PySem.W.nsIn K mainGlobals "is_part" = some (some (.ref f9))) (l9 : K.lookup f9 = some ⟨oc9, od9, .func (PySem.W.fnOf "is_part" "is_part" (defArgs s_is_part) (defBody s_is_part) (defScope s_is_part) .none kV9 dc9 pm9 an9 cd9 ct9), sl9⟩) (c9 : PySem.W.codeIn K cd9 "is_part" = true) (k9 : PySem.W.keepIn K (.ref f9) = true)
    (a10 : PySem.W.nsIn K mainGlobals "_law_bag" = some (some (.ref f10))) (l10 : K.lookup f10 = some ⟨oc10, od10, .func (PySem.W.fnOf "_law_bag" "_law_bag" (defArgs s_L_bag) (defBody s_L_bag) (defScope s_L_bag) .none kV10 dc10 pm10 an10 cd10 ct10), sl10⟩) (c10 : PySem.W.codeIn K cd10 "_law_bag" = true) (k10 : PySem.W.keepIn K (.ref f10) = true)
    (a11 : PySem.W.nsIn K mainGlobals "_law_take" = some (some (.ref f11))) (l11 : K.lookup f11 = some ⟨oc11, od11, .func (PySem.W.fnOf "_law_take" "_law_take" (defArgs s_L_take) (defBody s_L_take) (defScope s_L_take) .none kV11 dc11 pm11 an11 cd11 ct11), sl11⟩) (c11 : PySem.W.codeIn K cd11 "_law_take" = true) (k11 : PySem.W.keepIn K (.ref f11) = true)
    (a12 : PySem.W.nsIn K mainGlobals "_law_alike" = some (some (.ref f12))) (l12 : K.lookup f12 = some ⟨oc12, od12, .func (PySem.W.fnOf "_law_alike" "_law_alike" (defArgs s_L_alike) (defBody s_L_alike) (defScope s_L_alike) .none kV12 dc12 pm12 an12 cd12 ct12), sl12⟩) (c12 : PySem.W.codeIn K cd12 "_law_alike" = true) (k12 : PySem.W.keepIn K (.ref f12) = true)
    (a13 : PySem.W.nsIn K mainGlobals "_law_some" = some (some (.ref f13))) (l13 : K.lookup f13 = some ⟨oc13, od13, .func (PySem.W.fnOf "_law_some" "_law_some" (defArgs s_L_some) (defBody s_L_some) (defScope s_L_some) .none kV13 dc13 pm13 an13 cd13 ct13), sl13⟩) (c13 : PySem.W.codeIn K cd13 "_law_some" = true) (k13 : PySem.W.keepIn K (.ref f13) = true)
    (a14 : PySem.W.nsIn K mainGlobals "_law_mixed" = some (some (.ref f14))) (l14 : K.lookup f14 = some ⟨oc14, od14, .func (PySem.W.fnOf "_law_mixed" "_law_mixed" (defArgs s_L_mixed) (defBody s_L_mixed) (defScope s_L_mixed) .none kV14 dc14 pm14 an14 cd14 ct14), sl14⟩) (c14 : PySem.W.codeIn K cd14 "_law_mixed" = true) (k14 : PySem.W.keepIn K (.ref f14) = true)
    (a15 : PySem.W.nsIn K mainGlobals "_law_words" = some (some (.ref f15))) (l15 : K.lookup f15 = some ⟨oc15, od15, .func (PySem.W.fnOf "_law_words" "_law_words" (defArgs s_L_words) (defBody s_L_words) (defScope s_L_words) .none kV15 dc15 pm15 an15 cd15 ct15), sl15⟩) (c15 : PySem.W.codeIn K cd15 "_law_words" = true) (k15 : PySem.W.keepIn K (.ref f15) = true)
    (a16 : PySem.W.nsIn K mainGlobals "_law_inner" = some (some (.ref f16))) (l16 : K.lookup f16 = some ⟨oc16, od16, .func (PySem.W.fnOf "_law_inner" "_law_inner" (defArgs s_L_inner) (defBody s_L_inner) (defScope s_L_inner) .none kV16 dc16 pm16 an16 cd16 ct16), sl16⟩) (c16 : PySem.W.codeIn K cd16 "_law_inner" = true) (k16 : PySem.W.keepIn K (.ref f16) = true)
    (a17 : PySem.W.nsIn K mainGlobals "_law_parts_of" = some (some (.ref f17))) (l17 : K.lookup f17 = some ⟨oc17, od17, .func (PySem.W.fnOf "_law_parts_of" "_law_parts_of" (defArgs s_L_parts_of) (defBody s_L_parts_of) (defScope s_L_parts_of) .none kV17 dc17 pm17 an17 cd17 ct17), sl17⟩) (c17 : PySem.W.codeIn K cd17 "_law_parts_of" = true) (k17 : PySem.W.keepIn K (.ref f17) = true)
    (a18 : PySem.W.nsIn K mainGlobals "_law_leaf" = some (some (.ref f18))) (l18 : K.lookup f18 = some ⟨oc18, od18, .func (PySem.W.fnOf "_law_leaf" "_law_leaf" (defArgs s_L_leaf) (defBody s_L_leaf) (defScope s_L_leaf) .none kV18 dc18 pm18 an18 cd18 ct18), sl18⟩) (c18 : PySem.W.codeIn K cd18 "_law_leaf" = true) (k18 : PySem.W.keepIn K (.ref f18) = true)
    (a19 : PySem.W.nsIn K mainGlobals "_law_term" = some (some (.ref f19))) (l19 : K.lookup f19 = some ⟨oc19, od19, .func (PySem.W.fnOf "_law_term" "_law_term" (defArgs s_L_term) (defBody s_L_term) (defScope s_L_term) .none kV19 dc19 pm19 an19 cd19 ct19), sl19⟩) (c19 : PySem.W.codeIn K cd19 "_law_term" = true) (k19 : PySem.W.keepIn K (.ref f19) = true)
    (a20 : PySem.W.nsIn K mainGlobals "_law_ordered" = some (some (.ref f20))) (l20 : K.lookup f20 = some ⟨oc20, od20, .func (PySem.W.fnOf "_law_ordered" "_law_ordered" (defArgs s_L_ordered) (defBody s_L_ordered) (defScope s_L_ordered) .none kV20 dc20 pm20 an20 cd20 ct20), sl20⟩) (c20 : PySem.W.codeIn K cd20 "_law_ordered" = true) (k20 : PySem.W.keepIn K (.ref f20) = true)
    (a21 : PySem.W.nsIn K mainGlobals "_law_set_in" = some (some (.ref f21))) (l21 : K.lookup f21 = some ⟨oc21, od21, .func (PySem.W.fnOf "_law_set_in" "_law_set_in" (defArgs s_L_set_in) (defBody s_L_set_in) (defScope s_L_set_in) .none kV21 dc21 pm21 an21 cd21 ct21), sl21⟩) (c21 : PySem.W.codeIn K cd21 "_law_set_in" = true) (k21 : PySem.W.keepIn K (.ref f21) = true)
    (a22 : PySem.W.nsIn K mainGlobals "law" = some (some (.ref f22))) (l22 : K.lookup f22 = some ⟨oc22, od22, .func (PySem.W.fnOf "law" "law" (defArgs s_law) (defBody s_law) (defScope s_law) .none kV22 dc22 pm22 an22 cd22 ct22), sl22⟩) (c22 : PySem.W.codeIn K cd22 "law" = true) (k22 : PySem.W.keepIn K (.ref f22) = true)
    {tc5 tp5 : Addr} (tA5 : cd5 = .ref tc5) (tB5 : PySem.W.codeHdIn K tc5 tp5 = true) (tC5 : K.lookup tp5 = none) (tD5 : h.get? tp5 = some { cls := .none, data := .fields #[] })
    (y_abs : PySem.W.nsIn K mainGlobals "abs" = some none)
    (y_dict : PySem.W.nsIn K mainGlobals "dict" = some none)
    (y_int : PySem.W.nsIn K mainGlobals "int" = some none)
    (y_len : PySem.W.nsIn K mainGlobals "len" = some none)
    (y_list : PySem.W.nsIn K mainGlobals "list" = some none)
    (y_range : PySem.W.nsIn K mainGlobals "range" = some none)
    (y_repr : PySem.W.nsIn K mainGlobals "repr" = some none)
    (y_sorted : PySem.W.nsIn K mainGlobals "sorted" = some none)
    (y_tuple : PySem.W.nsIn K mainGlobals "tuple" = some none)
    : LawAtT l w K 77 "_law_script" mg fa h := by
  have e := hfa.symm.trans (PySem.W.mg_of X G a22)
  cases e
  have z_abs := PySem.W.mg_none_of X G y_abs
  have z_dict := PySem.W.mg_none_of X G y_dict
  have z_int := PySem.W.mg_none_of X G y_int
  have z_len := PySem.W.mg_none_of X G y_len
  have z_list := PySem.W.mg_none_of X G y_list
  have z_range := PySem.W.mg_none_of X G y_range
  have z_repr := PySem.W.mg_none_of X G y_repr
  have z_sorted := PySem.W.mg_none_of X G y_sorted
  have z_tuple := PySem.W.mg_none_of X G y_tuple
  have F_codes_within := fun_mk (st := s_codes_within) l1 c1 k1
  have m_codes_within := PySem.W.mg_of X G a1
  have b_codes_within := F_codes_within.binds (ps := ["code"]) fun _ _ _ _ _ _ us hl => usE1 (P := fun us => bindArgs _ ⟨us, []⟩ = pure (List.zip _ us)) (fun _ => rfl) us hl
  have F_with_codes := fun_mk (st := s_with_codes) l2 c2 k2
  have m_with_codes := PySem.W.mg_of X G a2
  have b_with_codes := F_with_codes.binds (ps := ["code", "codes"]) fun _ _ _ _ _ _ us hl => usE2 (P := fun us => bindArgs _ ⟨us, []⟩ = pure (List.zip _ us)) (fun _ _ => rfl) us hl
  have F_all_parts := fun_mk (st := s_all_parts) l3 c3 k3
  have m_all_parts := PySem.W.mg_of X G a3
  have b_all_parts := F_all_parts.binds (ps := ["code"]) fun _ _ _ _ _ _ us hl => usE1 (P := fun us => bindArgs _ ⟨us, []⟩ = pure (List.zip _ us)) (fun _ => rfl) us hl
  have F_size := fun_mk (st := s_size) l4 c4 k4
  have m_size := PySem.W.mg_of X G a4
  have b_size := F_size.binds (ps := ["code"]) fun _ _ _ _ _ _ us hl => usE1 (P := fun us => bindArgs _ ⟨us, []⟩ = pure (List.zip _ us)) (fun _ => rfl) us hl
  have F_in_order := fun_mk (st := s_in_order) l5 c5 k5
  have m_in_order := PySem.W.mg_of X G a5
  have b_in_order := F_in_order.binds (ps := ["terms"]) fun _ _ _ _ _ _ us hl => usE1 (P := fun us => bindArgs _ ⟨us, []⟩ = pure (List.zip _ us)) (fun _ => rfl) us hl
  have F_terms_in := fun_mk (st := s_terms_in) l6 c6 k6
  have m_terms_in := PySem.W.mg_of X G a6
  have b_terms_in := F_terms_in.binds (ps := ["term"]) fun _ _ _ _ _ _ us hl => usE1 (P := fun us => bindArgs _ ⟨us, []⟩ = pure (List.zip _ us)) (fun _ => rfl) us hl
  have F_all_terms := fun_mk (st := s_all_terms) l7 c7 k7
  have m_all_terms := PySem.W.mg_of X G a7
  have b_all_terms := F_all_terms.binds (ps := ["terms"]) fun _ _ _ _ _ _ us hl => usE1 (P := fun us => bindArgs _ ⟨us, []⟩ = pure (List.zip _ us)) (fun _ => rfl) us hl
  have F_put_terms := fun_mk (st := s_put_terms) l8 c8 k8
  have m_put_terms := PySem.W.mg_of X G a8
  have b_put_terms := F_put_terms.binds (ps := ["term", "terms"]) fun _ _ _ _ _ _ us hl => usE2 (P := fun us => bindArgs _ ⟨us, []⟩ = pure (List.zip _ us)) (fun _ _ => rfl) us hl
  have F_is_part := fun_mk (st := s_is_part) l9 c9 k9
  have m_is_part := PySem.W.mg_of X G a9
  have b_is_part := F_is_part.binds (ps := ["one", "other"]) fun _ _ _ _ _ _ us hl => usE2 (P := fun us => bindArgs _ ⟨us, []⟩ = pure (List.zip _ us)) (fun _ _ => rfl) us hl
  have F_L_bag := fun_mk (st := s_L_bag) l10 c10 k10
  have m_L_bag := PySem.W.mg_of X G a10
  have b_L_bag := F_L_bag.binds (ps := ["_law_script"]) fun _ _ _ _ _ _ us hl => usE1 (P := fun us => bindArgs _ ⟨us, []⟩ = pure (List.zip _ us)) (fun _ => rfl) us hl
  have F_L_take := fun_mk (st := s_L_take) l11 c11 k11
  have m_L_take := PySem.W.mg_of X G a11
  have b_L_take := F_L_take.binds (ps := ["_law_bag_here", "_law_many"]) fun _ _ _ _ _ _ us hl => usE2 (P := fun us => bindArgs _ ⟨us, []⟩ = pure (List.zip _ us)) (fun _ _ => rfl) us hl
  have F_L_alike := fun_mk (st := s_L_alike) l12 c12 k12
  have m_L_alike := PySem.W.mg_of X G a12
  have b_L_alike := F_L_alike.binds (ps := ["_law_found", "_law_due"]) fun _ _ _ _ _ _ us hl => usE2 (P := fun us => bindArgs _ ⟨us, []⟩ = pure (List.zip _ us)) (fun _ _ => rfl) us hl
  have F_L_some := fun_mk (st := s_L_some) l13 c13 k13
  have m_L_some := PySem.W.mg_of X G a13
  have b_L_some := F_L_some.binds (ps := ["_law_bag_here", "_law_things"]) fun _ _ _ _ _ _ us hl => usE2 (P := fun us => bindArgs _ ⟨us, []⟩ = pure (List.zip _ us)) (fun _ _ => rfl) us hl
  have F_L_mixed := fun_mk (st := s_L_mixed) l14 c14 k14
  have m_L_mixed := PySem.W.mg_of X G a14
  have b_L_mixed := F_L_mixed.binds (ps := ["_law_bag_here", "_law_things"]) fun _ _ _ _ _ _ us hl => usE2 (P := fun us => bindArgs _ ⟨us, []⟩ = pure (List.zip _ us)) (fun _ _ => rfl) us hl
  have F_L_words := fun_mk (st := s_L_words) l15 c15 k15
  have m_L_words := PySem.W.mg_of X G a15
  have b_L_words := F_L_words.binds (ps := ["_law_bag_here", "_law_many"]) fun _ _ _ _ _ _ us hl => usE2 (P := fun us => bindArgs _ ⟨us, []⟩ = pure (List.zip _ us)) (fun _ _ => rfl) us hl
  have F_L_inner := fun_mk (st := s_L_inner) l16 c16 k16
  have m_L_inner := PySem.W.mg_of X G a16
  have b_L_inner := F_L_inner.binds (ps := ["_law_code"]) fun _ _ _ _ _ _ us hl => usE1 (P := fun us => bindArgs _ ⟨us, []⟩ = pure (List.zip _ us)) (fun _ => rfl) us hl
  have F_L_parts_of := fun_mk (st := s_L_parts_of) l17 c17 k17
  have m_L_parts_of := PySem.W.mg_of X G a17
  have b_L_parts_of := F_L_parts_of.binds (ps := ["_law_code"]) fun _ _ _ _ _ _ us hl => usE1 (P := fun us => bindArgs _ ⟨us, []⟩ = pure (List.zip _ us)) (fun _ => rfl) us hl
  have F_L_leaf := fun_mk (st := s_L_leaf) l18 c18 k18
  have m_L_leaf := PySem.W.mg_of X G a18
  have b_L_leaf := F_L_leaf.binds (ps := ["_law_bag_here", "_law_names", "_law_handed_in"]) fun _ _ _ _ _ _ us hl => usE3 (P := fun us => bindArgs _ ⟨us, []⟩ = pure (List.zip _ us)) (fun _ _ _ => rfl) us hl
  have F_L_term := fun_mk (st := s_L_term) l19 c19 k19
  have m_L_term := PySem.W.mg_of X G a19
  have b_L_term := F_L_term.binds (ps := ["_law_bag_here", "_law_names", "_law_handed_in", "_law_deep"]) fun _ _ _ _ _ _ us hl => usE4 (P := fun us => bindArgs _ ⟨us, []⟩ = pure (List.zip _ us)) (fun _ _ _ _ => rfl) us hl
  have F_L_ordered := fun_mk (st := s_L_ordered) l20 c20 k20
  have m_L_ordered := PySem.W.mg_of X G a20
  have b_L_ordered := F_L_ordered.binds (ps := ["_law_terms"]) fun _ _ _ _ _ _ us hl => usE1 (P := fun us => bindArgs _ ⟨us, []⟩ = pure (List.zip _ us)) (fun _ => rfl) us hl
  have F_L_set_in := fun_mk (st := s_L_set_in) l21 c21 k21
  have m_L_set_in := PySem.W.mg_of X G a21
  have b_L_set_in := F_L_set_in.binds (ps := ["_law_term_here", "_law_terms"]) fun _ _ _ _ _ _ us hl => usE2 (P := fun us => bindArgs _ ⟨us, []⟩ = pure (List.zip _ us)) (fun _ _ => rfl) us hl
  have F_law := fun_mk (st := s_law) l22 c22 k22
  have m_law := PySem.W.mg_of X G a22
  refine ⟨⟨PySem.W.fnOf "law" "law" (defArgs s_law) (defBody s_law) (defScope s_law) .none kV22 dc22 pm22 an22 cd22 ct22, [(tc5, tp5)], [(tp5, (PyProof.Rows.envOfC "in_order" (defScope s_in_order) 0 f5 cd5).qual ++ ("<lambda>" : Str))], ?_, ?_, ?_, ?_, fun s v => .of_eq rfl, fun base _ _ hS hTb => ?_⟩⟩
  · intro p hp
    simp only [List.mem_cons, List.not_mem_nil, or_false] at hp
    subst hp <;> simp
  · intro p hp
    simp only [List.mem_cons, List.not_mem_nil, or_false] at hp
    subst hp
    · exact tD5
  · intro p hp
    simp only [List.mem_cons, List.not_mem_nil, or_false] at hp
    subst hp
    · exact tC5
  · intro p hp
    simp only [List.mem_cons, List.not_mem_nil, or_false] at hp
    subst hp
    · exact PySem.W.codeHd_of_K X tB5
  generalize hT0 : [(tp5, (PyProof.Rows.envOfC "in_order" (defScope s_in_order) 0 f5 cd5).qual ++ ("<lambda>" : Str))] = T0
  have LP_in_order : LamP mg base T0 cd5 ((PyProof.Rows.envOfC "in_order" (defScope s_in_order) 0 f5 cd5).qual ++ ("<lambda>" : Str)) := ⟨tc5, tp5, tA5, hTb (tc5, tp5) (by simp), by rw [← hT0]; simp, fun p hp e => by
    rw [← hT0] at hp
    simp only [List.mem_cons, List.not_mem_nil, or_false] at hp
    subst hp
    · rfl⟩
  -- LEVEL 77
  have dpos : ∀ c : Code, 0 < c.dp := fun c => by cases c <;> simp only [Code.dp] <;> omega
  have c_in : CalP l.prog w K mg base 1 "codes_within" R_in := CalP.of (fn_codes_within F_codes_within  (fun _ _ h => by first | (exact congrArg List.length h.1) | (exact Exists.elim h fun _ h => congrArg List.length h.1) | (exact Exists.elim h fun _ h => Exists.elim h fun _ h => congrArg List.length h.1) | (exact Exists.elim h fun _ h => Exists.elim h fun _ h => Exists.elim h fun _ h => congrArg List.length h.1) | (exact Exists.elim h fun _ h => Exists.elim h fun _ h => Exists.elim h fun _ h => Exists.elim h fun _ h => congrArg List.length h.1) | (exact Exists.elim h fun _ h => Exists.elim h fun _ h => Exists.elim h fun _ h => Exists.elim h fun _ h => Exists.elim h fun _ h => congrArg List.length h.1) | (exact Exists.elim h fun _ h => Exists.elim h fun _ h => Exists.elim h fun _ h => Exists.elim h fun _ h => Exists.elim h fun _ h => Exists.elim h fun _ h => congrArg List.length h.1) | (exact Exists.elim h fun _ h => Exists.elim h fun _ h => Exists.elim h fun _ h => Exists.elim h fun _ h => Exists.elim h fun _ h => Exists.elim h fun _ h => Exists.elim h fun _ h => congrArg List.length h.1) | (exact Exists.elim h fun _ h => Exists.elim h fun _ h => Exists.elim h fun _ h => Exists.elim h fun _ h => Exists.elim h fun _ h => Exists.elim h fun _ h => Exists.elim h fun _ h => Exists.elim h fun _ h => congrArg List.length h.1) | (exact Exists.elim h fun _ h => Exists.elim h fun _ h => Exists.elim h fun _ h => Exists.elim h fun _ h => Exists.elim h fun _ h => Exists.elim h fun _ h => Exists.elim h fun _ h => Exists.elim h fun _ h => Exists.elim h fun _ h => congrArg List.length h.1)) (p_in _ (.inl rfl))) m_codes_within F_codes_within b_codes_within
  have c_inner : CalP l.prog w K mg base 1 "_law_inner" R_in := CalP.of (fn_L_inner F_L_inner  (fun _ _ h => by first | (exact congrArg List.length h.1) | (exact Exists.elim h fun _ h => congrArg List.length h.1) | (exact Exists.elim h fun _ h => Exists.elim h fun _ h => congrArg List.length h.1) | (exact Exists.elim h fun _ h => Exists.elim h fun _ h => Exists.elim h fun _ h => congrArg List.length h.1) | (exact Exists.elim h fun _ h => Exists.elim h fun _ h => Exists.elim h fun _ h => Exists.elim h fun _ h => congrArg List.length h.1) | (exact Exists.elim h fun _ h => Exists.elim h fun _ h => Exists.elim h fun _ h => Exists.elim h fun _ h => Exists.elim h fun _ h => congrArg List.length h.1) | (exact Exists.elim h fun _ h => Exists.elim h fun _ h => Exists.elim h fun _ h => Exists.elim h fun _ h => Exists.elim h fun _ h => Exists.elim h fun _ h => congrArg List.length h.1) | (exact Exists.elim h fun _ h => Exists.elim h fun _ h => Exists.elim h fun _ h => Exists.elim h fun _ h => Exists.elim h fun _ h => Exists.elim h fun _ h => Exists.elim h fun _ h => congrArg List.length h.1) | (exact Exists.elim h fun _ h => Exists.elim h fun _ h => Exists.elim h fun _ h => Exists.elim h fun _ h => Exists.elim h fun _ h => Exists.elim h fun _ h => Exists.elim h fun _ h => Exists.elim h fun _ h => congrArg List.length h.1) | (exact Exists.elim h fun _ h => Exists.elim h fun _ h => Exists.elim h fun _ h => Exists.elim h fun _ h => Exists.elim h fun _ h => Exists.elim h fun _ h => Exists.elim h fun _ h => Exists.elim h fun _ h => Exists.elim h fun _ h => congrArg List.length h.1)) (p_in _ (.inr rfl))) m_L_inner F_L_inner b_L_inner
  have c_wc : CalP l.prog w K mg base 1 "with_codes" R_withc := CalP.of (fn_with_codes F_with_codes z_tuple (fun _ _ h => by first | (exact congrArg List.length h.1) | (exact Exists.elim h fun _ h => congrArg List.length h.1) | (exact Exists.elim h fun _ h => Exists.elim h fun _ h => congrArg List.length h.1) | (exact Exists.elim h fun _ h => Exists.elim h fun _ h => Exists.elim h fun _ h => congrArg List.length h.1) | (exact Exists.elim h fun _ h => Exists.elim h fun _ h => Exists.elim h fun _ h => Exists.elim h fun _ h => congrArg List.length h.1) | (exact Exists.elim h fun _ h => Exists.elim h fun _ h => Exists.elim h fun _ h => Exists.elim h fun _ h => Exists.elim h fun _ h => congrArg List.length h.1) | (exact Exists.elim h fun _ h => Exists.elim h fun _ h => Exists.elim h fun _ h => Exists.elim h fun _ h => Exists.elim h fun _ h => Exists.elim h fun _ h => congrArg List.length h.1) | (exact Exists.elim h fun _ h => Exists.elim h fun _ h => Exists.elim h fun _ h => Exists.elim h fun _ h => Exists.elim h fun _ h => Exists.elim h fun _ h => Exists.elim h fun _ h => congrArg List.length h.1) | (exact Exists.elim h fun _ h => Exists.elim h fun _ h => Exists.elim h fun _ h => Exists.elim h fun _ h => Exists.elim h fun _ h => Exists.elim h fun _ h => Exists.elim h fun _ h => Exists.elim h fun _ h => congrArg List.length h.1) | (exact Exists.elim h fun _ h => Exists.elim h fun _ h => Exists.elim h fun _ h => Exists.elim h fun _ h => Exists.elim h fun _ h => Exists.elim h fun _ h => Exists.elim h fun _ h => Exists.elim h fun _ h => Exists.elim h fun _ h => congrArg List.length h.1)) p_with_codes) m_with_codes F_with_codes b_with_codes
  have c_allp : ∀ n, CalP l.prog w K mg base (n + 2) "all_parts" (R_parts n) := fun n => by
    induction n with
    | zero => exact CalP.of (FnG.never fun _ _ h => by obtain ⟨c, _, h0, _⟩ := h; have := dpos c; omega) m_all_parts F_all_parts b_all_parts
    | succ n ih => exact CalP.of (fn_all_parts F_all_parts (c_in.mono (by omega)) ih (fun _ _ h => by first | (exact congrArg List.length h.1) | (exact Exists.elim h fun _ h => congrArg List.length h.1) | (exact Exists.elim h fun _ h => Exists.elim h fun _ h => congrArg List.length h.1) | (exact Exists.elim h fun _ h => Exists.elim h fun _ h => Exists.elim h fun _ h => congrArg List.length h.1) | (exact Exists.elim h fun _ h => Exists.elim h fun _ h => Exists.elim h fun _ h => Exists.elim h fun _ h => congrArg List.length h.1) | (exact Exists.elim h fun _ h => Exists.elim h fun _ h => Exists.elim h fun _ h => Exists.elim h fun _ h => Exists.elim h fun _ h => congrArg List.length h.1) | (exact Exists.elim h fun _ h => Exists.elim h fun _ h => Exists.elim h fun _ h => Exists.elim h fun _ h => Exists.elim h fun _ h => Exists.elim h fun _ h => congrArg List.length h.1) | (exact Exists.elim h fun _ h => Exists.elim h fun _ h => Exists.elim h fun _ h => Exists.elim h fun _ h => Exists.elim h fun _ h => Exists.elim h fun _ h => Exists.elim h fun _ h => congrArg List.length h.1) | (exact Exists.elim h fun _ h => Exists.elim h fun _ h => Exists.elim h fun _ h => Exists.elim h fun _ h => Exists.elim h fun _ h => Exists.elim h fun _ h => Exists.elim h fun _ h => Exists.elim h fun _ h => congrArg List.length h.1) | (exact Exists.elim h fun _ h => Exists.elim h fun _ h => Exists.elim h fun _ h => Exists.elim h fun _ h => Exists.elim h fun _ h => Exists.elim h fun _ h => Exists.elim h fun _ h => Exists.elim h fun _ h => Exists.elim h fun _ h => congrArg List.length h.1)) (p_all_parts n)) m_all_parts F_all_parts b_all_parts
  have c_size : CalP l.prog w K mg base 63 "size" (R_size 60) := CalP.of (fn_size F_size z_len ((c_allp 60).mono (by omega)) (fun _ _ h => by first | (exact congrArg List.length h.1) | (exact Exists.elim h fun _ h => congrArg List.length h.1) | (exact Exists.elim h fun _ h => Exists.elim h fun _ h => congrArg List.length h.1) | (exact Exists.elim h fun _ h => Exists.elim h fun _ h => Exists.elim h fun _ h => congrArg List.length h.1) | (exact Exists.elim h fun _ h => Exists.elim h fun _ h => Exists.elim h fun _ h => Exists.elim h fun _ h => congrArg List.length h.1) | (exact Exists.elim h fun _ h => Exists.elim h fun _ h => Exists.elim h fun _ h => Exists.elim h fun _ h => Exists.elim h fun _ h => congrArg List.length h.1) | (exact Exists.elim h fun _ h => Exists.elim h fun _ h => Exists.elim h fun _ h => Exists.elim h fun _ h => Exists.elim h fun _ h => Exists.elim h fun _ h => congrArg List.length h.1) | (exact Exists.elim h fun _ h => Exists.elim h fun _ h => Exists.elim h fun _ h => Exists.elim h fun _ h => Exists.elim h fun _ h => Exists.elim h fun _ h => Exists.elim h fun _ h => congrArg List.length h.1) | (exact Exists.elim h fun _ h => Exists.elim h fun _ h => Exists.elim h fun _ h => Exists.elim h fun _ h => Exists.elim h fun _ h => Exists.elim h fun _ h => Exists.elim h fun _ h => Exists.elim h fun _ h => congrArg List.length h.1) | (exact Exists.elim h fun _ h => Exists.elim h fun _ h => Exists.elim h fun _ h => Exists.elim h fun _ h => Exists.elim h fun _ h => Exists.elim h fun _ h => Exists.elim h fun _ h => Exists.elim h fun _ h => Exists.elim h fun _ h => congrArg List.length h.1)) (p_size 60)) m_size F_size b_size
  have c_ord : CalTT l.prog w K mg base T0 68 "in_order" R_ord := CalTT.of (fn_in_order (n := 63) F_in_order z_sorted (c_size.mono (by omega)) LP_in_order (fun _ _ h => by first | (exact congrArg List.length h.1) | (exact Exists.elim h fun _ h => congrArg List.length h.1) | (exact Exists.elim h fun _ h => Exists.elim h fun _ h => congrArg List.length h.1) | (exact Exists.elim h fun _ h => Exists.elim h fun _ h => Exists.elim h fun _ h => congrArg List.length h.1) | (exact Exists.elim h fun _ h => Exists.elim h fun _ h => Exists.elim h fun _ h => Exists.elim h fun _ h => congrArg List.length h.1) | (exact Exists.elim h fun _ h => Exists.elim h fun _ h => Exists.elim h fun _ h => Exists.elim h fun _ h => Exists.elim h fun _ h => congrArg List.length h.1) | (exact Exists.elim h fun _ h => Exists.elim h fun _ h => Exists.elim h fun _ h => Exists.elim h fun _ h => Exists.elim h fun _ h => Exists.elim h fun _ h => congrArg List.length h.1) | (exact Exists.elim h fun _ h => Exists.elim h fun _ h => Exists.elim h fun _ h => Exists.elim h fun _ h => Exists.elim h fun _ h => Exists.elim h fun _ h => Exists.elim h fun _ h => congrArg List.length h.1) | (exact Exists.elim h fun _ h => Exists.elim h fun _ h => Exists.elim h fun _ h => Exists.elim h fun _ h => Exists.elim h fun _ h => Exists.elim h fun _ h => Exists.elim h fun _ h => Exists.elim h fun _ h => congrArg List.length h.1) | (exact Exists.elim h fun _ h => Exists.elim h fun _ h => Exists.elim h fun _ h => Exists.elim h fun _ h => Exists.elim h fun _ h => Exists.elim h fun _ h => Exists.elim h fun _ h => Exists.elim h fun _ h => Exists.elim h fun _ h => congrArg List.length h.1)) p_in_order) m_in_order F_in_order b_in_order
  have c_tin : CalTT l.prog w K mg base T0 73 "terms_in" R_tin := CalTT.of (fn_terms_in (n := 68) F_terms_in ((c_allp 60).mono (by omega)) (c_ord.mono (by omega)) (fun _ _ h => by first | (exact congrArg List.length h.1) | (exact Exists.elim h fun _ h => congrArg List.length h.1) | (exact Exists.elim h fun _ h => Exists.elim h fun _ h => congrArg List.length h.1) | (exact Exists.elim h fun _ h => Exists.elim h fun _ h => Exists.elim h fun _ h => congrArg List.length h.1) | (exact Exists.elim h fun _ h => Exists.elim h fun _ h => Exists.elim h fun _ h => Exists.elim h fun _ h => congrArg List.length h.1) | (exact Exists.elim h fun _ h => Exists.elim h fun _ h => Exists.elim h fun _ h => Exists.elim h fun _ h => Exists.elim h fun _ h => congrArg List.length h.1) | (exact Exists.elim h fun _ h => Exists.elim h fun _ h => Exists.elim h fun _ h => Exists.elim h fun _ h => Exists.elim h fun _ h => Exists.elim h fun _ h => congrArg List.length h.1) | (exact Exists.elim h fun _ h => Exists.elim h fun _ h => Exists.elim h fun _ h => Exists.elim h fun _ h => Exists.elim h fun _ h => Exists.elim h fun _ h => Exists.elim h fun _ h => congrArg List.length h.1) | (exact Exists.elim h fun _ h => Exists.elim h fun _ h => Exists.elim h fun _ h => Exists.elim h fun _ h => Exists.elim h fun _ h => Exists.elim h fun _ h => Exists.elim h fun _ h => Exists.elim h fun _ h => congrArg List.length h.1) | (exact Exists.elim h fun _ h => Exists.elim h fun _ h => Exists.elim h fun _ h => Exists.elim h fun _ h => Exists.elim h fun _ h => Exists.elim h fun _ h => Exists.elim h fun _ h => Exists.elim h fun _ h => Exists.elim h fun _ h => congrArg List.length h.1)) p_terms_in) m_terms_in F_terms_in b_terms_in
  have c_alt : CalTT l.prog w K mg base T0 73 "all_terms" R_alt := CalTT.of (fn_all_terms (n := 68) F_all_terms ((c_allp 60).mono (by omega)) (c_ord.mono (by omega)) (fun _ _ h => by first | (exact congrArg List.length h.1) | (exact Exists.elim h fun _ h => congrArg List.length h.1) | (exact Exists.elim h fun _ h => Exists.elim h fun _ h => congrArg List.length h.1) | (exact Exists.elim h fun _ h => Exists.elim h fun _ h => Exists.elim h fun _ h => congrArg List.length h.1) | (exact Exists.elim h fun _ h => Exists.elim h fun _ h => Exists.elim h fun _ h => Exists.elim h fun _ h => congrArg List.length h.1) | (exact Exists.elim h fun _ h => Exists.elim h fun _ h => Exists.elim h fun _ h => Exists.elim h fun _ h => Exists.elim h fun _ h => congrArg List.length h.1) | (exact Exists.elim h fun _ h => Exists.elim h fun _ h => Exists.elim h fun _ h => Exists.elim h fun _ h => Exists.elim h fun _ h => Exists.elim h fun _ h => congrArg List.length h.1) | (exact Exists.elim h fun _ h => Exists.elim h fun _ h => Exists.elim h fun _ h => Exists.elim h fun _ h => Exists.elim h fun _ h => Exists.elim h fun _ h => Exists.elim h fun _ h => congrArg List.length h.1) | (exact Exists.elim h fun _ h => Exists.elim h fun _ h => Exists.elim h fun _ h => Exists.elim h fun _ h => Exists.elim h fun _ h => Exists.elim h fun _ h => Exists.elim h fun _ h => Exists.elim h fun _ h => congrArg List.length h.1) | (exact Exists.elim h fun _ h => Exists.elim h fun _ h => Exists.elim h fun _ h => Exists.elim h fun _ h => Exists.elim h fun _ h => Exists.elim h fun _ h => Exists.elim h fun _ h => Exists.elim h fun _ h => Exists.elim h fun _ h => congrArg List.length h.1)) p_all_terms) m_all_terms F_all_terms b_all_terms
  have c_put : ∀ n, CalP l.prog w K mg base (n + 3) "put_terms" (R_put n) := fun n => by
    induction n with
    | zero => exact CalP.of (FnG.never fun _ _ h => by obtain ⟨c, _, _, _, h0, _⟩ := h; have := dpos c; omega) m_put_terms F_put_terms b_put_terms
    | succ n ih => exact CalP.of (fn_put_terms F_put_terms (c_in.mono (by omega)) ih (c_wc.mono (by omega)) (fun _ _ h => by first | (exact congrArg List.length h.1) | (exact Exists.elim h fun _ h => congrArg List.length h.1) | (exact Exists.elim h fun _ h => Exists.elim h fun _ h => congrArg List.length h.1) | (exact Exists.elim h fun _ h => Exists.elim h fun _ h => Exists.elim h fun _ h => congrArg List.length h.1) | (exact Exists.elim h fun _ h => Exists.elim h fun _ h => Exists.elim h fun _ h => Exists.elim h fun _ h => congrArg List.length h.1) | (exact Exists.elim h fun _ h => Exists.elim h fun _ h => Exists.elim h fun _ h => Exists.elim h fun _ h => Exists.elim h fun _ h => congrArg List.length h.1) | (exact Exists.elim h fun _ h => Exists.elim h fun _ h => Exists.elim h fun _ h => Exists.elim h fun _ h => Exists.elim h fun _ h => Exists.elim h fun _ h => congrArg List.length h.1) | (exact Exists.elim h fun _ h => Exists.elim h fun _ h => Exists.elim h fun _ h => Exists.elim h fun _ h => Exists.elim h fun _ h => Exists.elim h fun _ h => Exists.elim h fun _ h => congrArg List.length h.1) | (exact Exists.elim h fun _ h => Exists.elim h fun _ h => Exists.elim h fun _ h => Exists.elim h fun _ h => Exists.elim h fun _ h => Exists.elim h fun _ h => Exists.elim h fun _ h => Exists.elim h fun _ h => congrArg List.length h.1) | (exact Exists.elim h fun _ h => Exists.elim h fun _ h => Exists.elim h fun _ h => Exists.elim h fun _ h => Exists.elim h fun _ h => Exists.elim h fun _ h => Exists.elim h fun _ h => Exists.elim h fun _ h => Exists.elim h fun _ h => congrArg List.length h.1)) (p_put_terms n)) m_put_terms F_put_terms b_put_terms
  have c_isp : CalP l.prog w K mg base 63 "is_part" R_isp := CalP.of (fn_is_part F_is_part ((c_allp 60).mono (by omega)) (fun _ _ h => by first | (exact congrArg List.length h.1) | (exact Exists.elim h fun _ h => congrArg List.length h.1) | (exact Exists.elim h fun _ h => Exists.elim h fun _ h => congrArg List.length h.1) | (exact Exists.elim h fun _ h => Exists.elim h fun _ h => Exists.elim h fun _ h => congrArg List.length h.1) | (exact Exists.elim h fun _ h => Exists.elim h fun _ h => Exists.elim h fun _ h => Exists.elim h fun _ h => congrArg List.length h.1) | (exact Exists.elim h fun _ h => Exists.elim h fun _ h => Exists.elim h fun _ h => Exists.elim h fun _ h => Exists.elim h fun _ h => congrArg List.length h.1) | (exact Exists.elim h fun _ h => Exists.elim h fun _ h => Exists.elim h fun _ h => Exists.elim h fun _ h => Exists.elim h fun _ h => Exists.elim h fun _ h => congrArg List.length h.1) | (exact Exists.elim h fun _ h => Exists.elim h fun _ h => Exists.elim h fun _ h => Exists.elim h fun _ h => Exists.elim h fun _ h => Exists.elim h fun _ h => Exists.elim h fun _ h => congrArg List.length h.1) | (exact Exists.elim h fun _ h => Exists.elim h fun _ h => Exists.elim h fun _ h => Exists.elim h fun _ h => Exists.elim h fun _ h => Exists.elim h fun _ h => Exists.elim h fun _ h => Exists.elim h fun _ h => congrArg List.length h.1) | (exact Exists.elim h fun _ h => Exists.elim h fun _ h => Exists.elim h fun _ h => Exists.elim h fun _ h => Exists.elim h fun _ h => Exists.elim h fun _ h => Exists.elim h fun _ h => Exists.elim h fun _ h => Exists.elim h fun _ h => congrArg List.length h.1)) p_is_part) m_is_part F_is_part b_is_part
  have c_take : CalP l.prog w K mg base 1 "_law_take" R_take := CalP.of (fn_L_take F_L_take z_int (fun _ _ h => by first | (exact congrArg List.length h.1) | (exact Exists.elim h fun _ h => congrArg List.length h.1) | (exact Exists.elim h fun _ h => Exists.elim h fun _ h => congrArg List.length h.1) | (exact Exists.elim h fun _ h => Exists.elim h fun _ h => Exists.elim h fun _ h => congrArg List.length h.1) | (exact Exists.elim h fun _ h => Exists.elim h fun _ h => Exists.elim h fun _ h => Exists.elim h fun _ h => congrArg List.length h.1) | (exact Exists.elim h fun _ h => Exists.elim h fun _ h => Exists.elim h fun _ h => Exists.elim h fun _ h => Exists.elim h fun _ h => congrArg List.length h.1) | (exact Exists.elim h fun _ h => Exists.elim h fun _ h => Exists.elim h fun _ h => Exists.elim h fun _ h => Exists.elim h fun _ h => Exists.elim h fun _ h => congrArg List.length h.1) | (exact Exists.elim h fun _ h => Exists.elim h fun _ h => Exists.elim h fun _ h => Exists.elim h fun _ h => Exists.elim h fun _ h => Exists.elim h fun _ h => Exists.elim h fun _ h => congrArg List.length h.1) | (exact Exists.elim h fun _ h => Exists.elim h fun _ h => Exists.elim h fun _ h => Exists.elim h fun _ h => Exists.elim h fun _ h => Exists.elim h fun _ h => Exists.elim h fun _ h => Exists.elim h fun _ h => congrArg List.length h.1) | (exact Exists.elim h fun _ h => Exists.elim h fun _ h => Exists.elim h fun _ h => Exists.elim h fun _ h => Exists.elim h fun _ h => Exists.elim h fun _ h => Exists.elim h fun _ h => Exists.elim h fun _ h => Exists.elim h fun _ h => congrArg List.length h.1)) p_take) m_L_take F_L_take b_L_take
  have c_bag : BagP l.prog w K mg base 1 "_law_bag" := ⟨_, _, _, 1, _, by decide, Nat.le_refl _, fn_L_bag F_L_bag z_abs, m_L_bag, F_L_bag.kp, b_L_bag⟩
  have c_alike : CalP l.prog w K mg base 1 "_law_alike" R_alike := CalP.of (fn_L_alike F_L_alike z_repr (fun _ _ h => by rcases h with ⟨_, rfl, _⟩ | ⟨_, rfl, _⟩ <;> rfl) p_alike) m_L_alike F_L_alike b_L_alike
  have c_some : CalP l.prog w K mg base 2 "_law_some" R_some := CalP.of (fn_L_some F_L_some z_len (c_take.mono (by omega)) (fun _ _ h => by rcases h with ⟨_, rfl, _⟩ | ⟨_, rfl, _⟩ <;> rfl) p_some) m_L_some F_L_some b_L_some
  have c_mixed : CalP l.prog w K mg base 2 "_law_mixed" (R_mixed 16) := CalP.of (fn_L_mixed F_L_mixed z_len (c_take.mono (by omega)) (fun _ _ h => by obtain ⟨_, h | h, _⟩ := h <;> (subst h; rfl)) (p_mixed (by decide))) m_L_mixed F_L_mixed b_L_mixed
  have c_words : CalP l.prog w K mg base 3 "_law_words" R_words := CalP.of (fn_L_words F_L_words z_int (c_take.mono (by omega)) (c_mixed.mono (by omega)) (fun _ _ h => by first | (exact congrArg List.length h.1) | (exact Exists.elim h fun _ h => congrArg List.length h.1) | (exact Exists.elim h fun _ h => Exists.elim h fun _ h => congrArg List.length h.1) | (exact Exists.elim h fun _ h => Exists.elim h fun _ h => Exists.elim h fun _ h => congrArg List.length h.1) | (exact Exists.elim h fun _ h => Exists.elim h fun _ h => Exists.elim h fun _ h => Exists.elim h fun _ h => congrArg List.length h.1) | (exact Exists.elim h fun _ h => Exists.elim h fun _ h => Exists.elim h fun _ h => Exists.elim h fun _ h => Exists.elim h fun _ h => congrArg List.length h.1) | (exact Exists.elim h fun _ h => Exists.elim h fun _ h => Exists.elim h fun _ h => Exists.elim h fun _ h => Exists.elim h fun _ h => Exists.elim h fun _ h => congrArg List.length h.1) | (exact Exists.elim h fun _ h => Exists.elim h fun _ h => Exists.elim h fun _ h => Exists.elim h fun _ h => Exists.elim h fun _ h => Exists.elim h fun _ h => Exists.elim h fun _ h => congrArg List.length h.1) | (exact Exists.elim h fun _ h => Exists.elim h fun _ h => Exists.elim h fun _ h => Exists.elim h fun _ h => Exists.elim h fun _ h => Exists.elim h fun _ h => Exists.elim h fun _ h => Exists.elim h fun _ h => congrArg List.length h.1) | (exact Exists.elim h fun _ h => Exists.elim h fun _ h => Exists.elim h fun _ h => Exists.elim h fun _ h => Exists.elim h fun _ h => Exists.elim h fun _ h => Exists.elim h fun _ h => Exists.elim h fun _ h => Exists.elim h fun _ h => congrArg List.length h.1)) p_words) m_L_words F_L_words b_L_words
  have c_parts : ∀ n, CalP l.prog w K mg base (n + 2) "_law_parts_of" (R_parts n) := fun n => by
    induction n with
    | zero => exact CalP.of (FnG.never fun _ _ h => by obtain ⟨c, _, h0, _⟩ := h; have := dpos c; omega) m_L_parts_of F_L_parts_of b_L_parts_of
    | succ n ih => exact CalP.of (fn_L_parts_of F_L_parts_of (c_inner.mono (by omega)) ih (fun _ _ h => by first | (exact congrArg List.length h.1) | (exact Exists.elim h fun _ h => congrArg List.length h.1) | (exact Exists.elim h fun _ h => Exists.elim h fun _ h => congrArg List.length h.1) | (exact Exists.elim h fun _ h => Exists.elim h fun _ h => Exists.elim h fun _ h => congrArg List.length h.1) | (exact Exists.elim h fun _ h => Exists.elim h fun _ h => Exists.elim h fun _ h => Exists.elim h fun _ h => congrArg List.length h.1) | (exact Exists.elim h fun _ h => Exists.elim h fun _ h => Exists.elim h fun _ h => Exists.elim h fun _ h => Exists.elim h fun _ h => congrArg List.length h.1) | (exact Exists.elim h fun _ h => Exists.elim h fun _ h => Exists.elim h fun _ h => Exists.elim h fun _ h => Exists.elim h fun _ h => Exists.elim h fun _ h => congrArg List.length h.1) | (exact Exists.elim h fun _ h => Exists.elim h fun _ h => Exists.elim h fun _ h => Exists.elim h fun _ h => Exists.elim h fun _ h => Exists.elim h fun _ h => Exists.elim h fun _ h => congrArg List.length h.1) | (exact Exists.elim h fun _ h => Exists.elim h fun _ h => Exists.elim h fun _ h => Exists.elim h fun _ h => Exists.elim h fun _ h => Exists.elim h fun _ h => Exists.elim h fun _ h => Exists.elim h fun _ h => congrArg List.length h.1) | (exact Exists.elim h fun _ h => Exists.elim h fun _ h => Exists.elim h fun _ h => Exists.elim h fun _ h => Exists.elim h fun _ h => Exists.elim h fun _ h => Exists.elim h fun _ h => Exists.elim h fun _ h => Exists.elim h fun _ h => congrArg List.length h.1)) (p_parts_of n)) m_L_parts_of F_L_parts_of b_L_parts_of
  have c_leaf : CalP l.prog w K mg base 3 "_law_leaf" R_leaf := CalP.of (fn_L_leaf F_L_leaf (c_take.mono (by omega)) (c_some.mono (by omega)) (fun _ _ h => by first | (exact congrArg List.length h.1) | (exact Exists.elim h fun _ h => congrArg List.length h.1) | (exact Exists.elim h fun _ h => Exists.elim h fun _ h => congrArg List.length h.1) | (exact Exists.elim h fun _ h => Exists.elim h fun _ h => Exists.elim h fun _ h => congrArg List.length h.1) | (exact Exists.elim h fun _ h => Exists.elim h fun _ h => Exists.elim h fun _ h => Exists.elim h fun _ h => congrArg List.length h.1) | (exact Exists.elim h fun _ h => Exists.elim h fun _ h => Exists.elim h fun _ h => Exists.elim h fun _ h => Exists.elim h fun _ h => congrArg List.length h.1) | (exact Exists.elim h fun _ h => Exists.elim h fun _ h => Exists.elim h fun _ h => Exists.elim h fun _ h => Exists.elim h fun _ h => Exists.elim h fun _ h => congrArg List.length h.1) | (exact Exists.elim h fun _ h => Exists.elim h fun _ h => Exists.elim h fun _ h => Exists.elim h fun _ h => Exists.elim h fun _ h => Exists.elim h fun _ h => Exists.elim h fun _ h => congrArg List.length h.1) | (exact Exists.elim h fun _ h => Exists.elim h fun _ h => Exists.elim h fun _ h => Exists.elim h fun _ h => Exists.elim h fun _ h => Exists.elim h fun _ h => Exists.elim h fun _ h => Exists.elim h fun _ h => congrArg List.length h.1) | (exact Exists.elim h fun _ h => Exists.elim h fun _ h => Exists.elim h fun _ h => Exists.elim h fun _ h => Exists.elim h fun _ h => Exists.elim h fun _ h => Exists.elim h fun _ h => Exists.elim h fun _ h => Exists.elim h fun _ h => congrArg List.length h.1)) p_leaf) m_L_leaf F_L_leaf b_L_leaf
  have c_term : ∀ n, CalP l.prog w K mg base (n + 4) "_law_term" (R_term n) := fun n => by
    induction n with
    | zero => exact CalP.of (FnG.never fun _ _ h => by obtain ⟨_, _, _, _, _, _, _, h0, _⟩ := h; omega) m_L_term F_L_term b_L_term
    | succ n ih => exact CalP.of (fn_L_term F_L_term z_int z_range z_tuple (c_take.mono (by omega)) (c_leaf.mono (by omega)) ih (fun _ _ h => by first | (exact congrArg List.length h.1) | (exact Exists.elim h fun _ h => congrArg List.length h.1) | (exact Exists.elim h fun _ h => Exists.elim h fun _ h => congrArg List.length h.1) | (exact Exists.elim h fun _ h => Exists.elim h fun _ h => Exists.elim h fun _ h => congrArg List.length h.1) | (exact Exists.elim h fun _ h => Exists.elim h fun _ h => Exists.elim h fun _ h => Exists.elim h fun _ h => congrArg List.length h.1) | (exact Exists.elim h fun _ h => Exists.elim h fun _ h => Exists.elim h fun _ h => Exists.elim h fun _ h => Exists.elim h fun _ h => congrArg List.length h.1) | (exact Exists.elim h fun _ h => Exists.elim h fun _ h => Exists.elim h fun _ h => Exists.elim h fun _ h => Exists.elim h fun _ h => Exists.elim h fun _ h => congrArg List.length h.1) | (exact Exists.elim h fun _ h => Exists.elim h fun _ h => Exists.elim h fun _ h => Exists.elim h fun _ h => Exists.elim h fun _ h => Exists.elim h fun _ h => Exists.elim h fun _ h => congrArg List.length h.1) | (exact Exists.elim h fun _ h => Exists.elim h fun _ h => Exists.elim h fun _ h => Exists.elim h fun _ h => Exists.elim h fun _ h => Exists.elim h fun _ h => Exists.elim h fun _ h => Exists.elim h fun _ h => congrArg List.length h.1) | (exact Exists.elim h fun _ h => Exists.elim h fun _ h => Exists.elim h fun _ h => Exists.elim h fun _ h => Exists.elim h fun _ h => Exists.elim h fun _ h => Exists.elim h fun _ h => Exists.elim h fun _ h => Exists.elim h fun _ h => congrArg List.length h.1)) (p_term n)) m_L_term F_L_term b_L_term
  have c_lord : CalP l.prog w K mg base 63 "_law_ordered" R_lord := CalP.of (fn_L_ordered F_L_ordered z_int z_len z_sorted ((c_parts 60).mono (by omega)) (fun _ _ h => by first | (exact congrArg List.length h.1) | (exact Exists.elim h fun _ h => congrArg List.length h.1) | (exact Exists.elim h fun _ h => Exists.elim h fun _ h => congrArg List.length h.1) | (exact Exists.elim h fun _ h => Exists.elim h fun _ h => Exists.elim h fun _ h => congrArg List.length h.1) | (exact Exists.elim h fun _ h => Exists.elim h fun _ h => Exists.elim h fun _ h => Exists.elim h fun _ h => congrArg List.length h.1) | (exact Exists.elim h fun _ h => Exists.elim h fun _ h => Exists.elim h fun _ h => Exists.elim h fun _ h => Exists.elim h fun _ h => congrArg List.length h.1) | (exact Exists.elim h fun _ h => Exists.elim h fun _ h => Exists.elim h fun _ h => Exists.elim h fun _ h => Exists.elim h fun _ h => Exists.elim h fun _ h => congrArg List.length h.1) | (exact Exists.elim h fun _ h => Exists.elim h fun _ h => Exists.elim h fun _ h => Exists.elim h fun _ h => Exists.elim h fun _ h => Exists.elim h fun _ h => Exists.elim h fun _ h => congrArg List.length h.1) | (exact Exists.elim h fun _ h => Exists.elim h fun _ h => Exists.elim h fun _ h => Exists.elim h fun _ h => Exists.elim h fun _ h => Exists.elim h fun _ h => Exists.elim h fun _ h => Exists.elim h fun _ h => congrArg List.length h.1) | (exact Exists.elim h fun _ h => Exists.elim h fun _ h => Exists.elim h fun _ h => Exists.elim h fun _ h => Exists.elim h fun _ h => Exists.elim h fun _ h => Exists.elim h fun _ h => Exists.elim h fun _ h => Exists.elim h fun _ h => congrArg List.length h.1)) p_ordered) m_L_ordered F_L_ordered b_L_ordered
  have c_set : ∀ n, CalP l.prog w K mg base (n + 2) "_law_set_in" (R_put n) := fun n => by
    induction n with
    | zero => exact CalP.of (FnG.never fun _ _ h => by obtain ⟨c, _, _, _, h0, _⟩ := h; have := dpos c; omega) m_L_set_in F_L_set_in b_L_set_in
    | succ n ih => exact CalP.of (fn_L_set_in F_L_set_in z_tuple ih (fun _ _ h => by first | (exact congrArg List.length h.1) | (exact Exists.elim h fun _ h => congrArg List.length h.1) | (exact Exists.elim h fun _ h => Exists.elim h fun _ h => congrArg List.length h.1) | (exact Exists.elim h fun _ h => Exists.elim h fun _ h => Exists.elim h fun _ h => congrArg List.length h.1) | (exact Exists.elim h fun _ h => Exists.elim h fun _ h => Exists.elim h fun _ h => Exists.elim h fun _ h => congrArg List.length h.1) | (exact Exists.elim h fun _ h => Exists.elim h fun _ h => Exists.elim h fun _ h => Exists.elim h fun _ h => Exists.elim h fun _ h => congrArg List.length h.1) | (exact Exists.elim h fun _ h => Exists.elim h fun _ h => Exists.elim h fun _ h => Exists.elim h fun _ h => Exists.elim h fun _ h => Exists.elim h fun _ h => congrArg List.length h.1) | (exact Exists.elim h fun _ h => Exists.elim h fun _ h => Exists.elim h fun _ h => Exists.elim h fun _ h => Exists.elim h fun _ h => Exists.elim h fun _ h => Exists.elim h fun _ h => congrArg List.length h.1) | (exact Exists.elim h fun _ h => Exists.elim h fun _ h => Exists.elim h fun _ h => Exists.elim h fun _ h => Exists.elim h fun _ h => Exists.elim h fun _ h => Exists.elim h fun _ h => Exists.elim h fun _ h => congrArg List.length h.1) | (exact Exists.elim h fun _ h => Exists.elim h fun _ h => Exists.elim h fun _ h => Exists.elim h fun _ h => Exists.elim h fun _ h => Exists.elim h fun _ h => Exists.elim h fun _ h => Exists.elim h fun _ h => Exists.elim h fun _ h => congrArg List.length h.1)) (p_set_in n)) m_L_set_in F_L_set_in b_L_set_in
  exact fn_law (n := 74) F_law z_dict z_list z_range z_repr ⟨let ⟨f, fd, ps, k, c, h0, h1, r⟩ := c_bag.ex; ⟨f, fd, ps, k, c, h0, by omega, r⟩⟩ (c_take.mono (by omega)) (c_words.mono (by omega)) ((c_term 4).mono (by omega)) ((c_parts 60).mono (by omega)) (c_mixed.mono (by omega)) ((c_set 60).mono (by omega)) (c_lord.mono (by omega)) ((c_put 60).mono (by omega)) (c_alike.mono (by omega)) (c_some.mono (by omega)) (c_isp.mono (by omega)) (c_alt.mono (by omega)) (c_tin.mono (by omega)) hS p_law
end K20
set_option Elab.async false
set_option linter.all false
set_option maxRecDepth 100000
set_option maxHeartbeats 4000000
open PySem PySem.W PyProof.Rows in
set_option maxRecDepth 100000 in
set_option maxHeartbeats 0 in
theorem PySem.Challenge.cw_farcatch_k20_terms_in_order_holds : PySem.Challenge.rw_farcatch_k20_terms_in_order.Holds := by
  w_on; o_law; k_head; (case hw => w_witness2)
  k_fill
  refine DL.walkGT (l := PySem.Challenge.rw_farcatch_k20_terms_in_order) (k := 77) (x := "_law_script") rfl rfl ⟨rfl, by decide, by decide⟩ rfl (fun w h Y => PySem.W.km_in_of Y) ?F
  case F =>
    intro w mg fa h Y KX G hmg
    have hT8 := PySem.W.km_tabs_of Y
    refine' K20.all_mk KX G hmg ?a1 ?l1 ?c1 ?k1 ?a2 ?l2 ?c2 ?k2 ?a3 ?l3 ?c3 ?k3 ?a4 ?l4 ?c4 ?k4 ?a5 ?l5 ?c5 ?k5 ?a6 ?l6 ?c6 ?k6 ?a7 ?l7 ?c7 ?k7 ?a8 ?l8 ?c8 ?k8 ?a9 ?l9 ?c9 ?k9 ?a10 ?l10 ?c10 ?k10 ?a11 ?l11 ?c11 ?k11 ?a12 ?l12 ?c12 ?k12 ?a13 ?l13 ?c13 ?k13 ?a14 ?l14 ?c14 ?k14 ?a15 ?l15 ?c15 ?k15 ?a16 ?l16 ?c16 ?k16 ?a17 ?l17 ?c17 ?k17 ?a18 ?l18 ?c18 ?k18 ?a19 ?l19 ?c19 ?k19 ?a20 ?l20 ?c20 ?k20 ?a21 ?l21 ?c21 ?k21 ?a22 ?l22 ?c22 ?k22 ?tA5 ?tB5 ?tC5 ?tD5 ?y_abs ?y_dict ?y_int ?y_len ?y_list ?y_range ?y_repr ?y_sorted ?y_tuple
    (case a1 => k_is)
    (case l1 => k_is)
    (case c1 => k_is)
    (case k1 => k_is)
    (case a2 => k_is)
    (case l2 => k_is)
    (case c2 => k_is)
    (case k2 => k_is)
    (case a3 => k_is)
    (case l3 => k_is)
    (case c3 => k_is)
    (case k3 => k_is)
    (case a4 => k_is)
    (case l4 => k_is)
    (case c4 => k_is)
    (case k4 => k_is)
    (case a5 => k_is)
    (case l5 => k_is)
    (case c5 => k_is)
    (case k5 => k_is)
    (case a6 => k_is)
    (case l6 => k_is)
    (case c6 => k_is)
    (case k6 => k_is)
    (case a7 => k_is)
    (case l7 => k_is)
    (case c7 => k_is)
    (case k7 => k_is)
    (case a8 => k_is)
    (case l8 => k_is)
    (case c8 => k_is)
    (case k8 => k_is)
    (case a9 => k_is)
    (case l9 => k_is)
    (case c9 => k_is)
    (case k9 => k_is)
    (case a10 => k_is)
    (case l10 => k_is)
    (case c10 => k_is)
    (case k10 => k_is)
    (case a11 => k_is)
    (case l11 => k_is)
    (case c11 => k_is)
    (case k11 => k_is)
    (case a12 => k_is)
    (case l12 => k_is)
    (case c12 => k_is)
    (case k12 => k_is)
    (case a13 => k_is)
    (case l13 => k_is)
    (case c13 => k_is)
    (case k13 => k_is)
    (case a14 => k_is)
    (case l14 => k_is)
    (case c14 => k_is)
    (case k14 => k_is)
    (case a15 => k_is)
    (case l15 => k_is)
    (case c15 => k_is)
    (case k15 => k_is)
    (case a16 => k_is)
    (case l16 => k_is)
    (case c16 => k_is)
    (case k16 => k_is)
    (case a17 => k_is)
    (case l17 => k_is)
    (case c17 => k_is)
    (case k17 => k_is)
    (case a18 => k_is)
    (case l18 => k_is)
    (case c18 => k_is)
    (case k18 => k_is)
    (case a19 => k_is)
    (case l19 => k_is)
    (case c19 => k_is)
    (case k19 => k_is)
    (case a20 => k_is)
    (case l20 => k_is)
    (case c20 => k_is)
    (case k20 => k_is)
    (case a21 => k_is)
    (case l21 => k_is)
    (case c21 => k_is)
    (case k21 => k_is)
    (case a22 => k_is)
    (case l22 => k_is)
    (case c22 => k_is)
    (case k22 => k_is)
    (case tA5 => rfl)
    (case tB5 => (first | (show PySem.W.codeHdIn _ _ 44 = true; kernel_rfl) | (show PySem.W.codeHdIn _ _ 44 = true; kernel_rfl)))
    (case tC5 => kernel_rfl)
    (case tD5 => exact hT8 _ (by k_mem))
    (case y_abs => k_is)
    (case y_dict => k_is)
    (case y_int => k_is)
    (case y_len => k_is)
    (case y_list => k_is)
    (case y_range => k_is)
    (case y_repr => k_is)
    (case y_sorted => k_is)
    (case y_tuple => k_is)
